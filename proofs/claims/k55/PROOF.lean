import PyProof.Rows.All
import Wide.All
import OpenK.AllK
import Wide.FinOn
import HandS.ForMost
import HandS.ForExc
import HandS.Walk
import HandS.TupAny
import HandS.WideBits
import HandS.Conv
import HandS.SortInts
import HandS.SortRule
import HandS.IsInst
import HandS.SetFor
import HandS.DictComp
import HandS.Zip
import KE.KTupSum
import PyProof.Draws
import KE.GoesEnum
import KE.GoesMore
import KE.KEqSeq
import KE.KEqDeep
import KE.KBits
import KE.OsArith
import PySem.Challenge.RW_strikecore_k55_moebius_and_euler
set_option Elab.async false
set_option linter.all false
set_option maxRecDepth 100000
set_option maxHeartbeats 4000000
/-! the pure layer, part 1: plain data, the store, lifted readings -/
namespace PL
open PySem PySem.Spec L2
open PyProof.Rows hiding St

/-- plain data: a tree that nobody changes any more -/
inductive D where
  | non | bl (b : Bool) | int (i : Int) | str (x : Str)
  | tup (xs : List D) | lst (xs : List D)
  | dK (ks : List Key) (vs : List D)
  | dT (ks : List (List Key)) (vs : List D)
  | scr (ns : List Int)
  | ref (a : Addr)
  | ty (n : String)

mutual
def Rep (K : PySem.W.Frag) (G : Hp) : D → V → Prop
  | .non, v => v = .non
  | .bl b, v => v = .bl b
  | .int i, v => v = .int i
  | .str x, v => v = .str x
  | .tup xs, v => ∃ a vs, v = .ref a ∧ G a = some (.tup vs) ∧ Reps K G xs vs
  | .lst xs, v => ∃ a vs, v = .ref a ∧ G a = some (.lst vs) ∧ Reps K G xs vs
  | .dK ks xs, v => ∃ a vs, v = .ref a ∧ G a = some (.dK (ks.zip vs)) ∧ ks.length = vs.length ∧ Reps K G xs vs
  | .dT ks xs, v => ∃ a vs, v = .ref a ∧ G a = some (.dT (ks.zip vs)) ∧ ks.length = vs.length ∧ Reps K G xs vs
  | .scr ns, v => ∃ a, v = .ref a ∧ SqL K G a (ns.map V.int)
  | .ref a, v => v = .ref a
  | .ty n, v => v = .ty n
def Reps (K : PySem.W.Frag) (G : Hp) : List D → List V → Prop
  | [], vs => vs = []
  | x :: xs, vs => ∃ v r, vs = v :: r ∧ Rep K G x v ∧ Reps K G xs r
end

section
variable {K : PySem.W.Frag} {G G' : Hp}
mutual
theorem Rep.mono (h : Same G G') : ∀ (d : D) (v : V), Rep K G d v → Rep K G' d v
  | .non, _, r => by unfold Rep at *; exact r
  | .bl _, _, r => by unfold Rep at *; exact r
  | .int _, _, r => by unfold Rep at *; exact r
  | .str _, _, r => by unfold Rep at *; exact r
  | .ref _, _, r => by unfold Rep at *; exact r
  | .ty _, _, r => by unfold Rep at *; exact r
  | .tup xs, _, r => by unfold Rep at *; obtain ⟨a, vs, e, g, rs⟩ := r; exact ⟨a, vs, e, h _ _ g, Reps.mono h xs vs rs⟩
  | .lst xs, _, r => by unfold Rep at *; obtain ⟨a, vs, e, g, rs⟩ := r; exact ⟨a, vs, e, h _ _ g, Reps.mono h xs vs rs⟩
  | .dK ks xs, _, r => by unfold Rep at *; obtain ⟨a, vs, e, g, l, rs⟩ := r; exact ⟨a, vs, e, h _ _ g, l, Reps.mono h xs vs rs⟩
  | .dT ks xs, _, r => by unfold Rep at *; obtain ⟨a, vs, e, g, l, rs⟩ := r; exact ⟨a, vs, e, h _ _ g, l, Reps.mono h xs vs rs⟩
  | .scr ns, _, r => by unfold Rep at *; obtain ⟨a, e, s⟩ := r; exact ⟨a, e, Same.seq h s⟩
theorem Reps.mono (h : Same G G') : ∀ (ds : List D) (vs : List V), Reps K G ds vs → Reps K G' ds vs
  | [], _, r => by unfold Reps at *; exact r
  | d :: ds, _, r => by
    unfold Reps at *
    obtain ⟨v, t, e, r1, r2⟩ := r
    exact ⟨v, t, e, Rep.mono h d v r1, Reps.mono h ds t r2⟩
end
theorem Reps.pair : ∀ {ds : List D} {vs : List V}, Reps K G ds vs → Paired (Rep K G) ds vs
  | [], vs, r => by unfold Reps at r; subst r; exact .nil
  | d :: ds, vs, r => by
    unfold Reps at r
    obtain ⟨v, t, e, r1, r2⟩ := r
    subst e
    exact .cons r1 (Reps.pair r2)
theorem Reps.of : ∀ {ds : List D} {vs : List V}, Paired (Rep K G) ds vs → Reps K G ds vs
  | _, _, .nil => by unfold Reps; rfl
  | _, _, .cons r t => by unfold Reps; exact ⟨_, _, rfl, r, Reps.of t⟩
end

/-- a value: data, or a cell of the store by its number -/
inductive C where
  | d (x : D) | c (i : Nat)
/-- what stands in a cell -/
inductive Own where
  | lst (xs : List C)
  | dK (kvs : List (Key × C))
  | dT (kvs : List (List Key × C))
  | ins (cl : Addr) (fs : List (Str × C))
abbrev Env := List (Option C)
abbrev Sto := List (Option Own)

def RepC (K : PySem.W.Frag) (α : List Addr) (G : Hp) : C → V → Prop
  | .d x, v => Rep K G x v
  | .c i, v => ∃ a, α[i]? = some a ∧ v = .ref a
abbrev RepCs (K : PySem.W.Frag) (α : List Addr) (G : Hp) : List C → List V → Prop := Paired (RepC K α G)
def RepO (K : PySem.W.Frag) (α : List Addr) (G H : Hp) : Own → Addr → Prop
  | .lst xs, a => ∃ vs, H a = some (.lst vs) ∧ RepCs K α G xs vs
  | .dK kvs, a => ∃ vs, H a = some (.dK vs) ∧ Paired (fun (p : Key × C) (q : Key × V) => p.1 = q.1 ∧ RepC K α G p.2 q.2) kvs vs
  | .dT kvs, a => ∃ vs, H a = some (.dT vs) ∧ Paired (fun (p : List Key × C) (q : List Key × V) => p.1 = q.1 ∧ RepC K α G p.2 q.2) kvs vs
  | .ins cl fs, a => ∃ dx vs, H a = some (.ins cl dx vs) ∧ H dx = some (.own a) ∧ G dx = none ∧ dx ∉ α ∧ Paired (fun (p : Str × C) (q : Str × V) => p.1 = q.1 ∧ RepC K α G p.2 q.2) fs vs

section
variable {K : PySem.W.Frag} {α α' : List Addr} {G G' H H' : Hp}
theorem RepC.mono (hα : α <+: α') (hG : Same G G') : ∀ {c : C} {v : V}, RepC K α G c v → RepC K α' G' c v
  | .d x, v, r => Rep.mono hG x v r
  | .c i, v, ⟨a, e, q⟩ => by
    refine ⟨a, ?_, q⟩
    obtain ⟨t, rfl⟩ := hα
    rw [List.getElem?_append_left]
    · exact e
    · exact (List.getElem?_eq_some_iff.mp e).1
theorem RepCs.mono (hα : α <+: α') (hG : Same G G') {cs : List C} {vs : List V} (r : RepCs K α G cs vs) : RepCs K α' G' cs vs := Paired.mapP r fun _ _ x => RepC.mono hα hG x
theorem RepCs.data : ∀ {ds : List D} {vs : List V}, Paired (Rep K G) ds vs → RepCs K α G (ds.map C.d) vs
  | _, _, .nil => .nil
  | _, _, .cons r t => .cons r (RepCs.data t)
theorem RepCs.ofData : ∀ {ds : List D} {vs : List V}, RepCs K α G (ds.map C.d) vs → Paired (Rep K G) ds vs
  | [], _, .nil => .nil
  | _ :: _, _, .cons r t => .cons r (RepCs.ofData t)
end

/-- the store holds: every live cell stands at its address, out of the frozen part G -/
structure OkS (K : PySem.W.Frag) (α : List Addr) (G : Hp) (S : Sto) (H : Hp) : Prop where
  same : Same G H
  nd : α.Nodup
  len : α.length = S.length
  dom : ∀ a ∈ α, H a ≠ none ∧ ∀ x, H a ≠ some (.own x)
  cell : ∀ (i : Nat) (o : Own), S[i]? = some (some o) → ∃ a, α[i]? = some a ∧ G a = none ∧ RepO K α G H o a
structure Ok (K : PySem.W.Frag) (α : List Addr) (G : Hp) (ρ : Env) (S : Sto) (σ : St) (H : Hp) : Prop where
  st : OkS K α G S H
  rlen : ρ.length = σ.length
  env : ∀ (i : Nat) (c : C), ρ[i]? = some (some c) → ∃ v, σ[i]? = some (some v) ∧ RepC K α G c v
/-- how the world goes on -/
structure Ext (α : List Addr) (G H : Hp) (α' : List Addr) (G' H' : Hp) : Prop where
  pre : α <+: α'
  same : Same G G'
  keep : ∀ a, H a ≠ none → G a = none → a ∉ α → H' a = H a ∧ G' a = none ∧ a ∉ α'
theorem Ext.refl {α : List Addr} {G H : Hp} : Ext α G H α G H := ⟨List.prefix_rfl, Same.refl _, fun _ _ h1 h2 => ⟨rfl, h1, h2⟩⟩
theorem Ext.trans {α α1 α2 : List Addr} {G G1 G2 H H1 H2 : Hp} (a : Ext α G H α1 G1 H1) (b : Ext α1 G1 H1 α2 G2 H2) : Ext α G H α2 G2 H2 :=
  ⟨a.pre.trans b.pre, a.same.trans b.same, fun x h1 h2 h3 => by
    obtain ⟨e1, e2, e3⟩ := a.keep x h1 h2 h3
    obtain ⟨f1, f2, f3⟩ := b.keep x (by rw [e1]; exact h1) e2 e3
    exact ⟨f1.trans e1, f2, f3⟩⟩

section
variable {K : PySem.W.Frag} {α α' : List Addr} {G G' H H' : Hp} {ρ : Env} {S S' : Sto} {σ : St}
theorem Ok.reenv (o : Ok K α G ρ S σ H) (o' : OkS K α' G' S' H') (e : Ext α G H α' G' H') : Ok K α' G' ρ S' σ H' :=
  ⟨o', o.rlen, fun i c h => let ⟨v, h1, h2⟩ := o.env i c h; ⟨v, h1, h2.mono e.pre e.same⟩⟩
theorem OkS.fresh (o : OkS K α G S H) {p : Addr} (h : H p = none) : G p = none ∧ p ∉ α :=
  ⟨Same.free o.same h, fun hm => (o.dom p hm).1 h⟩
/-- the cells' objects stand where only others were changed -/
theorem RepO.keep {o : Own} {a : Addr} (hα : α <+: α') (hG : Same G G') (ha : H' a = H a) (hdx : ∀ dx, H dx = some (.own a) → G dx = none → dx ∉ α → H' dx = H dx ∧ G' dx = none ∧ dx ∉ α') (r : RepO K α G H o a) : RepO K α' G' H' o a := by
  cases o with
  | lst xs => obtain ⟨vs, e, r⟩ := r; exact ⟨vs, by rw [ha]; exact e, r.mono hα hG⟩
  | dK kvs => obtain ⟨vs, e, r⟩ := r; exact ⟨vs, by rw [ha]; exact e, Paired.mapP r fun _ _ x => ⟨x.1, x.2.mono hα hG⟩⟩
  | dT kvs => obtain ⟨vs, e, r⟩ := r; exact ⟨vs, by rw [ha]; exact e, Paired.mapP r fun _ _ x => ⟨x.1, x.2.mono hα hG⟩⟩
  | ins cl fs =>
    obtain ⟨dx, vs, e, e2, e3, e4, r⟩ := r
    obtain ⟨q1, q2, q3⟩ := hdx dx e2 e3 e4
    exact ⟨dx, vs, by rw [ha]; exact e, by rw [q1]; exact e2, q2, q3, Paired.mapP r fun _ _ x => ⟨x.1, x.2.mono hα hG⟩⟩
theorem OkS.free_of (o : OkS K α G S H) {i : Nat} {w : Own} (h : S[i]? = some (some w)) : ∃ a, α[i]? = some a ∧ G a = none ∧ a ∈ α := by
  obtain ⟨a, e, g, _⟩ := o.cell i w h
  exact ⟨a, e, g, List.mem_of_getElem? e⟩

/-- a new object, frozen at once -/
theorem OkS.newF (o : OkS K α G S H) {p : Addr} {u : HO} (h : H p = none) : OkS K α (upd G p u) S (upd H p u) ∧ Ext α G H α (upd G p u) (upd H p u) := by
  obtain ⟨hg, ha⟩ := o.fresh h
  have hs : Same G (upd G p u) := fun b w e => by rw [upd_ne (ne_of_none e hg)]; exact e
  refine ⟨⟨fun b w e => ?_, o.nd, o.len, fun a hm => ?_, fun i w e => ?_⟩, ⟨List.prefix_rfl, hs, fun a h1 h2 h3 => ?_⟩⟩
  · by_cases hb : b = p
    · subst hb; rw [upd_same] at e ⊢; exact e
    · rw [upd_ne hb] at e ⊢; exact o.same b w e
  · have hne : a ≠ p := fun q => ha (q ▸ hm)
    rw [upd_ne hne]; exact o.dom a hm
  · obtain ⟨a, e1, e2, r⟩ := o.cell i w e
    have hne : a ≠ p := fun q => ha (q ▸ List.mem_of_getElem? e1)
    refine ⟨a, e1, by rw [upd_ne hne]; exact e2, r.keep List.prefix_rfl hs (upd_ne hne) fun dx q1 q2 q3 => ?_⟩
    have hd : dx ≠ p := ne_of_none q1 h
    exact ⟨upd_ne hd, by rw [upd_ne hd]; exact q2, q3⟩
  · have hne : a ≠ p := fun q => h1 (q ▸ h)
    exact ⟨upd_ne hne, by rw [upd_ne hne]; exact h2, h3⟩
/-- a new object, kept as a cell -/
theorem OkS.newC (o : OkS K α G S H) {p : Addr} {u : HO} {w : Own} (h : H p = none) (hu : ∀ x, u ≠ .own x) (r : RepO K (α ++ [p]) G (upd H p u) w p) : OkS K (α ++ [p]) G (S ++ [some w]) (upd H p u) ∧ Ext α G H (α ++ [p]) G (upd H p u) := by
  obtain ⟨hg, ha⟩ := o.fresh h
  refine ⟨⟨fun b w e => by rw [upd_ne (ne_of_none e hg)]; exact o.same b w e, ?_, ?_, fun a hm => ?_, fun i w' e => ?_⟩, ⟨List.prefix_append _ _, Same.refl _, fun a h1 h2 h3 => ?_⟩⟩
  · rw [List.nodup_append]
    exact ⟨o.nd, by simp, fun a h1 b h2 => by rw [List.mem_singleton] at h2; subst h2; exact fun q => ha (q ▸ h1)⟩
  · simp [o.len]
  · by_cases hb : a = p
    · subst hb; rw [upd_same]; exact ⟨by simp, fun x e => hu x (Option.some.inj e)⟩
    · rw [upd_ne hb]
      rw [List.mem_append, List.mem_singleton] at hm
      exact o.dom a (hm.resolve_right hb)
  · by_cases hi : i < S.length
    · rw [List.getElem?_append_left hi] at e
      obtain ⟨a, e1, e2, r'⟩ := o.cell i w' e
      have hm := List.mem_of_getElem? e1
      have hne : a ≠ p := fun q => ha (q ▸ hm)
      refine ⟨a, by rw [List.getElem?_append_left (by rw [o.len]; exact hi)]; exact e1, e2, r'.keep (List.prefix_append _ _) (Same.refl _) (upd_ne hne) fun dx q1 q2 q3 => ?_⟩
      have hd : dx ≠ p := ne_of_none q1 h
      exact ⟨upd_ne hd, q2, by simp [q3, hd]⟩
    · have hi' : i = S.length := by
        have := (List.getElem?_eq_some_iff.mp e).1
        simp at this; omega
      subst hi'
      simp at e
      subst e
      exact ⟨p, by rw [← o.len]; simp, hg, r⟩
  · have hne : a ≠ p := fun q => h1 (q ▸ h)
    exact ⟨upd_ne hne, h2, by simp [h3, hne]⟩
/-- a cell is written -/
theorem OkS.write (o : OkS K α G S H) {j : Nat} {a : Addr} {u : HO} {w w' : Own} (hj : S[j]? = some (some w)) (ha : α[j]? = some a) (hu : ∀ x, u ≠ .own x) (hw : ∀ x, H a ≠ some (.own x)) (r : RepO K α G (upd H a u) w' a) : OkS K α G (S.set j (some w')) (upd H a u) ∧ Ext α G H α G (upd H a u) := by
  obtain ⟨a', e1, hg, _⟩ := o.cell j w hj
  rw [ha] at e1; cases e1
  have hjl : j < S.length := (List.getElem?_eq_some_iff.mp hj).1
  refine ⟨⟨fun b w e => by rw [upd_ne (ne_of_none e hg)]; exact o.same b w e, o.nd, by simp [o.len], fun b hm => ?_, fun i v e => ?_⟩, ⟨List.prefix_rfl, Same.refl _, fun b h1 h2 h3 => ⟨upd_ne fun q => h3 (q ▸ List.mem_of_getElem? ha), h2, h3⟩⟩⟩
  · by_cases hb : b = a
    · subst hb; rw [upd_same]; exact ⟨by simp, fun x e => hu x (Option.some.inj e)⟩
    · rw [upd_ne hb]; exact o.dom b hm
  · by_cases hi : i = j
    · subst hi
      rw [List.getElem?_set_self hjl] at e
      cases e
      exact ⟨a, ha, hg, r⟩
    · rw [List.getElem?_set_ne (Ne.symm hi)] at e
      obtain ⟨b, e1, e2, r'⟩ := o.cell i v e
      have hne : b ≠ a := by
        intro q; subst q
        have h1 := (List.getElem?_eq_some_iff.mp e1).1
        have h2 := (List.getElem?_eq_some_iff.mp ha).1
        have h3 := (List.getElem?_eq_some_iff.mp e1).2.trans (List.getElem?_eq_some_iff.mp ha).2.symm
        exact hi ((List.getElem_inj o.nd).mp h3)
      refine ⟨b, e1, e2, r'.keep List.prefix_rfl (Same.refl _) (upd_ne hne) fun dx q1 q2 q3 => ⟨upd_ne fun q => ?_, q2, q3⟩⟩
      subst q
      exact hw _ q1
end

/-! ### lifted readings -/
/-- an exception's wish, as HandS's WX -/
abbrev WXT := Value → Option Addr → St → Hp → Prop
/-- what is wanted of an exception, at the data level: class, own fields, slots, store -/
abbrev KX := Value → List (Str × D) → Env → Sto → Prop
abbrev TD := Env → Sto → (C → Sto → Prop) → KX → Prop
abbrev TTD := Env → Sto → (Bool → Sto → Prop) → KX → Prop
abbrev TAD := Env → Sto → (List C → Sto → Prop) → KX → Prop
def RepX (K : PySem.W.Frag) (G H : Hp) (fs : List (Str × D)) : Option Addr → Prop
  | none => fs = []
  | some a => ∃ vs, H a = some (.xd vs) ∧ Paired (fun (p : Str × D) (q : Str × V) => p.1 = q.1 ∧ Rep K G p.2 q.2) fs vs
def XKont (K : PySem.W.Frag) (W : WXT) (α : List Addr) (G H : Hp) (kx : KX) : Prop :=
  ∀ cls fs ρ' S' α' G' H' σ' d, kx cls fs ρ' S' → Ext α G H α' G' H' → Ok K α' G' ρ' S' σ' H' → RepX K G' H' fs d → W cls d σ' H'
section
variable (K : PySem.W.Frag) (W : WXT)
def lift (w : TD) : TE := fun σ H Q => ∃ α G ρ S k kx, Ok K α G ρ S σ H ∧ w ρ S k kx ∧
  (∀ c S' α' G' H' v, k c S' → Ext α G H α' G' H' → Ok K α' G' ρ S' σ H' → RepC K α' G' c v → Q v H') ∧ XKont K W α G H kx
def liftT (w : TTD) : TT := fun σ H Q => ∃ α G ρ S k kx, Ok K α G ρ S σ H ∧ w ρ S k kx ∧
  (∀ b S' α' G' H', k b S' → Ext α G H α' G' H' → Ok K α' G' ρ S' σ H' → Q b H') ∧ XKont K W α G H kx
def liftA (w : TAD) : TA := fun σ H Q => ∃ α G ρ S k kx, Ok K α G ρ S σ H ∧ w ρ S k kx ∧
  (∀ cs S' α' G' H' vs, k cs S' → Ext α G H α' G' H' → Ok K α' G' ρ S' σ H' → RepCs K α' G' cs vs → Q vs H') ∧ XKont K W α G H kx
end
structure EndsD where
  nx : Env → Sto → Prop
  rt : C → Sto → Prop
  bk : Env → Sto → Prop
  ct : Env → Sto → Prop
  ex : KX
abbrev TSD := EndsD → Env → Sto → Prop
structure SK (K : PySem.W.Frag) (W : WXT) (α : List Addr) (G H : Hp) (DD : EndsD) (D : Ends) : Prop where
  nx : ∀ ρ' S' α' G' σ' H', DD.nx ρ' S' → Ext α G H α' G' H' → Ok K α' G' ρ' S' σ' H' → D.nx σ' H'
  rt : ∀ c S' α' G' ρ' σ' H' v, DD.rt c S' → Ext α G H α' G' H' → Ok K α' G' ρ' S' σ' H' → RepC K α' G' c v → D.rt v H'
  bk : ∀ ρ' S' α' G' σ' H', DD.bk ρ' S' → Ext α G H α' G' H' → Ok K α' G' ρ' S' σ' H' → D.bk σ' H'
  ct : ∀ ρ' S' α' G' σ' H', DD.ct ρ' S' → Ext α G H α' G' H' → Ok K α' G' ρ' S' σ' H' → D.ct σ' H'
  ex : XKont K W α G H DD.ex
def liftS (K : PySem.W.Frag) (W : WXT) (w : TSD) : TS := fun D σ H => ∃ α G ρ S DD, Ok K α G ρ S σ H ∧ w DD ρ S ∧ SK K W α G H DD D
theorem XKont.ext {K : PySem.W.Frag} {W : WXT} {α α1 : List Addr} {G G1 H H1 : Hp} {kx : KX} (h : XKont K W α G H kx) (e : Ext α G H α1 G1 H1) : XKont K W α1 G1 H1 kx :=
  fun cls fs ρ' S' α' G' H' σ' d hk he => h cls fs ρ' S' α' G' H' σ' d hk (e.trans he)
theorem SK.ext {K : PySem.W.Frag} {W : WXT} {α α1 : List Addr} {G G1 H H1 : Hp} {DD : EndsD} {D : Ends} (h : SK K W α G H DD D) (e : Ext α G H α1 G1 H1) : SK K W α1 G1 H1 DD D :=
  ⟨fun _ _ _ _ _ _ a b c => h.nx _ _ _ _ _ _ a (e.trans b) c, fun _ _ _ _ _ _ _ _ a b c r => h.rt _ _ _ _ _ _ _ _ a (e.trans b) c r, fun _ _ _ _ _ _ a b c => h.bk _ _ _ _ _ _ a (e.trans b) c,
    fun _ _ _ _ _ _ a b c => h.ct _ _ _ _ _ _ a (e.trans b) c, h.ex.ext e⟩

/-! ### the judgements of this layer -/
abbrev QE (X : Cx) (W : WXT) (e : Expr) (w : TD) : Prop := PE X e (lift X.K W w)
abbrev QT (X : Cx) (W : WXT) (e : Expr) (w : TTD) : Prop := PT X e (liftT X.K W w)
abbrev QW (X : Cx) (W : WXT) (e : Expr) (w : TTD) : Prop := PW X e (liftT X.K W w)
abbrev QA (X : Cx) (W : WXT) (es : List Expr) (w : TAD) : Prop := PA X es (liftA X.K W w)
abbrev QS (X : Cx) (W : WXT) (st : Stmt) (w : TSD) : Prop := PS X st (liftS X.K W w)
abbrev QSs (X : Cx) (W : WXT) (st : List Stmt) (w : TSD) : Prop := PSs X st (liftS X.K W w)
theorem pe_imp {X : Cx} {e : Expr} {t t' : TE} (h : PE X e t) (i : ∀ σ H Q, t' σ H Q → t σ H Q) : PE X e t' := ⟨fun pins s σ H Q I q => h.run pins s σ H Q I (i σ H Q q)⟩
theorem pt_imp {X : Cx} {e : Expr} {t t' : TT} (h : PT X e t) (i : ∀ σ H Q, t' σ H Q → t σ H Q) : PT X e t' := ⟨fun pins s σ H Q I q => h.run pins s σ H Q I (i σ H Q q)⟩
theorem pw_imp {X : Cx} {e : Expr} {t t' : TT} (h : PW X e t) (i : ∀ σ H Q, t' σ H Q → t σ H Q) : PW X e t' := ⟨fun wh pins s σ H Q I q => h.run wh pins s σ H Q I (i σ H Q q)⟩
theorem pa_imp {X : Cx} {e : List Expr} {t t' : TA} (h : PA X e t) (i : ∀ σ H Q, t' σ H Q → t σ H Q) : PA X e t' := ⟨fun pos pins s σ H Q I q => h.run pos pins s σ H Q I (i σ H Q q)⟩
theorem ps_imp {X : Cx} {e : Stmt} {t t' : TS} (h : PS X e t) (i : ∀ D σ H, t' D σ H → t D σ H) : PS X e t' := ⟨fun pins s σ H D I q => h.run pins s σ H D I (i D σ H q)⟩
theorem pss_imp {X : Cx} {e : List Stmt} {t t' : TS} (h : PSs X e t) (i : ∀ D σ H, t' D σ H → t D σ H) : PSs X e t' := ⟨fun pins s σ H D I q => h.run pins s σ H D I (i D σ H q)⟩
end PL

/-! the pure layer, part 2: expressions -/
namespace PL
open PySem PySem.Spec L2
open PyProof.Rows hiding St

/-! ### reading data off the store -/
def Sto.own (S : Sto) (j : Nat) : Option Own := match S[j]? with
  | some (some o) => some o
  | _ => none
theorem own_of {S : Sto} {j : Nat} {o : Own} (h : S.own j = some o) : S[j]? = some (some o) := by
  unfold Sto.own at h
  split at h
  · cases h; assumption
  · cases h
/-- the items of a list -/
def lstOf (S : Sto) : C → Option (List C)
  | .d (.lst ds) => some (ds.map C.d)
  | .c j => match S.own j with
    | some (.lst xs) => some xs
    | _ => none
  | _ => none
/-- the items of a list, a tuple -/
def seqOf (S : Sto) : C → Option (List C)
  | .d (.lst ds) => some (ds.map C.d)
  | .d (.tup ds) => some (ds.map C.d)
  | .d (.scr ns) => some (ns.map fun n => C.d (.int n))
  | .c j => match S.own j with
    | some (.lst xs) => some xs
    | _ => none
  | _ => none
def unD : List C → Option (List D)
  | [] => some []
  | .d x :: r => (unD r).map (x :: ·)
  | .c _ :: _ => none
theorem unD_map (ds : List D) : unD (ds.map C.d) = some ds := by
  induction ds with
  | nil => rfl
  | cons d r ih => simp [unD, ih]
theorem unD_some : ∀ {cs : List C} {ds : List D}, unD cs = some ds → cs = ds.map C.d
  | [], ds, h => by simp [unD] at h; subst h; rfl
  | .d x :: r, ds, h => by
    simp only [unD, Option.map_eq_some_iff] at h
    obtain ⟨t, h1, h2⟩ := h
    subst h2
    rw [unD_some h1]; rfl
  | .c _ :: _, _, h => by simp [unD] at h
/-- a new list: frozen at once (m = false), or a cell -/
def newL (m : Bool) (cs : List C) (S : Sto) (k : C → Sto → Prop) : Prop :=
  cond m (k (.c S.length) (S ++ [some (.lst cs)])) (match unD cs with
    | some ds => k (.d (.lst ds)) S
    | none => False)
def newT (cs : List C) (S : Sto) (k : C → Sto → Prop) : Prop := match unD cs with
    | some ds => k (.d (.tup ds)) S
    | none => False

/-- what is to be shown behind an operation -/
def Kont (K : PySem.W.Frag) (α : List Addr) (G H : Hp) (ρ : Env) (σ : St) (k : C → Sto → Prop) (Q : VK) : Prop :=
  ∀ c S' α' G' H' v, k c S' → Ext α G H α' G' H' → Ok K α' G' ρ S' σ H' → RepC K α' G' c v → Q v H'
theorem Kont.ext {K : PySem.W.Frag} {α α1 : List Addr} {G G1 H H1 : Hp} {ρ : Env} {σ : St} {k : C → Sto → Prop} {Q : VK} (h : Kont K α G H ρ σ k Q) (e : Ext α G H α1 G1 H1) : Kont K α1 G1 H1 ρ σ k Q :=
  fun c S' α' G' H' v hk he => h c S' α' G' H' v hk (e.trans he)

section
variable {K : PySem.W.Frag} {α α' : List Addr} {G G' H H' : Hp} {ρ : Env} {S S' : Sto} {σ : St} {k : C → Sto → Prop} {Q : VK} {c : C} {v : V} {cs : List C}
theorem Kont.here (q : Kont K α G H ρ σ k Q) (o : Ok K α G ρ S σ H) (h : k c S) (r : RepC K α G c v) : Q v H := q c S α G H v h Ext.refl o r
theorem Ok.cellAt (o : Ok K α G ρ S σ H) {j : Nat} {w : Own} (h : S.own j = some w) : ∃ a, α[j]? = some a ∧ G a = none ∧ RepO K α G H w a := o.st.cell j w (own_of h)
theorem lst_rep (o : Ok K α G ρ S σ H) (r : RepC K α G c v) (h : lstOf S c = some cs) : ∃ a vs, v = .ref a ∧ H a = some (.lst vs) ∧ RepCs K α G cs vs := by
  unfold lstOf at h
  split at h
  · cases h
    simp only [RepC] at r
    unfold Rep at r
    obtain ⟨a, vs, e, g, rs⟩ := r
    exact ⟨a, vs, e, o.st.same _ _ g, RepCs.data rs.pair⟩
  · split at h
    · rename_i xs hj
      cases h
      obtain ⟨a, e1, e2, vs, e3, rs⟩ := o.cellAt hj
      obtain ⟨b, f1, f2⟩ := r
      rw [e1] at f1; cases f1
      exact ⟨a, vs, f2, e3, rs⟩
    · cases h
  · cases h
theorem ints_map (ns : List Int) : (ns.map fun n => C.d (.int n)) = (ns.map D.int).map C.d := by rw [List.map_map]; rfl
theorem reps_ints {ns : List Int} : ∀ {vs : List V}, vs = ns.map V.int → RepCs K α G (ns.map fun n => C.d (.int n)) vs := by
  induction ns with
  | nil => intro vs e; subst e; exact .nil
  | cons n r ih =>
    intro vs e
    subst e
    refine .cons ?_ (ih rfl)
    show Rep K G (.int n) (.int n)
    unfold Rep; rfl
theorem seq_rep (o : Ok K α G ρ S σ H) (r : RepC K α G c v) (h : seqOf S c = some cs) : ∃ a vs, v = .ref a ∧ (SqL K H a vs ∨ SqT K H a vs) ∧ RepCs K α G cs vs := by
  unfold seqOf at h
  split at h
  · cases h
    simp only [RepC] at r
    unfold Rep at r
    obtain ⟨a, vs, e, g, rs⟩ := r
    exact ⟨a, vs, e, .inl (SqL.of (o.st.same _ _ g)), RepCs.data rs.pair⟩
  · cases h
    simp only [RepC] at r
    unfold Rep at r
    obtain ⟨a, vs, e, g, rs⟩ := r
    exact ⟨a, vs, e, .inr (SqT.of (o.st.same _ _ g)), RepCs.data rs.pair⟩
  · cases h
    simp only [RepC] at r
    unfold Rep at r
    obtain ⟨a, e, g⟩ := r
    exact ⟨a, _, e, .inl (Same.seq o.st.same g), reps_ints rfl⟩
  · split at h
    · rename_i xs hj
      cases h
      obtain ⟨a, e1, e2, vs, e3, rs⟩ := o.cellAt hj
      obtain ⟨b, f1, f2⟩ := r
      rw [e1] at f1; cases f1
      exact ⟨a, vs, f2, .inl (SqL.of e3), rs⟩
    · cases h
  · cases h
theorem RepCs.len {vs : List V} (r : RepCs K α G cs vs) : cs.length = vs.length := Paired.length r
theorem paired_at {A B : Type} {F : A → B → Prop} : ∀ {xs : List A} {ys : List B} {i : Nat} {x : A}, Paired F xs ys → xs[i]? = some x → ∃ y, ys[i]? = some y ∧ F x y
  | _, _, _, _, .nil, h => by simp at h
  | _, _, 0, _, .cons r t, h => by simp at h; subst h; exact ⟨_, rfl, r⟩
  | _, _, i + 1, _, .cons r t, h => by
    obtain ⟨y, h1, h2⟩ := paired_at (i := i) t (by simpa using h)
    exact ⟨y, by simpa using h1, h2⟩
theorem paired_app {A B : Type} {F : A → B → Prop} : ∀ {xs xs2 : List A} {ys ys2 : List B}, Paired F xs ys → Paired F xs2 ys2 → Paired F (xs ++ xs2) (ys ++ ys2)
  | _, _, _, _, .nil, s => s
  | _, _, _, _, .cons r t, s => .cons r (paired_app t s)
theorem paired_take {A B : Type} {F : A → B → Prop} : ∀ {xs : List A} {ys : List B} (n : Nat), Paired F xs ys → Paired F (xs.take n) (ys.take n)
  | _, _, 0, _ => .nil
  | _, _, _ + 1, .nil => .nil
  | _, _, n + 1, .cons r t => .cons r (paired_take n t)
theorem paired_drop {A B : Type} {F : A → B → Prop} : ∀ {xs : List A} {ys : List B} (n : Nat), Paired F xs ys → Paired F (xs.drop n) (ys.drop n)
  | _, _, 0, r => r
  | _, _, _ + 1, .nil => .nil
  | _, _, n + 1, .cons _ t => paired_drop n t
theorem paired_set {A B : Type} {F : A → B → Prop} {x : A} {y : B} (q : F x y) : ∀ {xs : List A} {ys : List B} (i : Nat), Paired F xs ys → Paired F (xs.set i x) (ys.set i y)
  | _, _, _, .nil => .nil
  | _, _, 0, .cons _ t => .cons q t
  | _, _, i + 1, .cons r t => .cons r (paired_set q i t)
theorem paired_erase {A B : Type} {F : A → B → Prop} : ∀ {xs : List A} {ys : List B} (i : Nat), Paired F xs ys → Paired F (xs.eraseIdx i) (ys.eraseIdx i)
  | _, _, _, .nil => .nil
  | _, _, 0, .cons _ t => t
  | _, _, i + 1, .cons r t => .cons r (paired_erase i t)
theorem paired_rev {A B : Type} {F : A → B → Prop} : ∀ {xs : List A} {ys : List B}, Paired F xs ys → Paired F xs.reverse ys.reverse
  | _, _, .nil => .nil
  | _, _, .cons r t => by rw [List.reverse_cons, List.reverse_cons]; exact paired_app (paired_rev t) (.cons r .nil)
theorem paired_rep {A B : Type} {F : A → B → Prop} {xs : List A} {ys : List B} (r : Paired F xs ys) : ∀ k : Nat, Paired F (List.replicate k xs).flatten (List.replicate k ys).flatten
  | 0 => .nil
  | k + 1 => by rw [List.replicate_succ, List.replicate_succ, List.flatten_cons, List.flatten_cons]; exact paired_app r (paired_rep r k)
theorem paired_dropLast {A B : Type} {F : A → B → Prop} {xs : List A} {ys : List B} (r : Paired F xs ys) : Paired F xs.dropLast ys.dropLast := by
  rw [List.dropLast_eq_take, List.dropLast_eq_take, Paired.length r]; exact paired_take _ r

/-- a new list stands -/
theorem new_lst {m : Bool} {p : Addr} {vs : List V} (o : Ok K α G ρ S σ H) (q : Kont K α G H ρ σ k Q) (hp : H p = none) (r : RepCs K α G cs vs) (h : newL m cs S k) : Q (.ref p) (upd H p (.lst vs)) := by
  cases m with
  | true =>
    obtain ⟨o', e⟩ := o.st.newC (w := .lst cs) (u := .lst vs) hp (fun x => by simp) ⟨vs, upd_same, r.mono (List.prefix_append _ _) (Same.refl _)⟩
    refine q _ _ _ _ _ _ (show k (.c S.length) (S ++ [some (.lst cs)]) from h) e (o.reenv o' e) ⟨p, ?_, rfl⟩
    rw [← o.st.len]; simp
  | false =>
    have h' : (match unD cs with | some ds => k (.d (.lst ds)) S | none => False) := h
    cases hu : unD cs with
    | none => rw [hu] at h'; exact h'.elim
    | some ds =>
      rw [hu] at h'
      rw [unD_some hu] at r
      obtain ⟨o', e⟩ := o.st.newF (u := .lst vs) hp
      refine q _ _ _ _ _ _ h' e (o.reenv o' e) ?_
      show Rep K _ (.lst ds) _
      unfold Rep
      exact ⟨p, vs, rfl, upd_same, Reps.mono e.same _ _ (Reps.of (RepCs.ofData r))⟩
theorem new_tup {p : Addr} {vs : List V} (o : Ok K α G ρ S σ H) (q : Kont K α G H ρ σ k Q) (hp : H p = none) (r : RepCs K α G cs vs) (h : newT cs S k) : Q (.ref p) (upd H p (.tup vs)) := by
  unfold newT at h
  cases hu : unD cs with
  | none => rw [hu] at h; exact h.elim
  | some ds =>
    rw [hu] at h
    rw [unD_some hu] at r
    obtain ⟨o', e⟩ := o.st.newF (u := .tup vs) hp
    refine q _ _ _ _ _ _ h e (o.reenv o' e) ?_
    show Rep K _ (.tup ds) _
    unfold Rep
    exact ⟨p, vs, rfl, upd_same, Reps.mono e.same _ _ (Reps.of (RepCs.ofData r))⟩
theorem rep_int {i : Int} : RepC K α G (.d (.int i)) (.int i) := by show Rep K G _ _; unfold Rep; rfl
theorem rep_bl {i : Bool} : RepC K α G (.d (.bl i)) (.bl i) := by show Rep K G _ _; unfold Rep; rfl
theorem rep_non : RepC K α G (.d .non) .non := by show Rep K G _ _; unfold Rep; rfl
theorem rep_str {x : Str} : RepC K α G (.d (.str x)) (.str x) := by show Rep K G _ _; unfold Rep; rfl
theorem of_int {i : Int} (r : RepC K α G (.d (.int i)) v) : v = .int i := by simp only [RepC] at r; unfold Rep at r; exact r
theorem of_bl {i : Bool} (r : RepC K α G (.d (.bl i)) v) : v = .bl i := by simp only [RepC] at r; unfold Rep at r; exact r
theorem of_non (r : RepC K α G (.d .non) v) : v = .non := by simp only [RepC] at r; unfold Rep at r; exact r
theorem of_str {x : Str} (r : RepC K α G (.d (.str x)) v) : v = .str x := by simp only [RepC] at r; unfold Rep at r; exact r
theorem tup_rep {ds : List D} (o : Ok K α G ρ S σ H) (r : RepC K α G (.d (.tup ds)) v) : ∃ a vs, v = .ref a ∧ G a = some (.tup vs) ∧ H a = some (.tup vs) ∧ Paired (Rep K G) ds vs := by
  simp only [RepC] at r
  unfold Rep at r
  obtain ⟨a, vs, e, g, rs⟩ := r
  exact ⟨a, vs, e, g, o.st.same _ _ g, rs.pair⟩
end

/-! ### names, constants -/
section
variable {X : Cx} {W : WXT} {a b c : Expr} {wa wb wc : TD} {ta tb tc : TTD} {pos : Pos}
abbrev eVar (i : Nat) : TD := fun ρ S k _ => match ρ[i]? with
  | some (some c) => k c S
  | _ => False
abbrev eC (d : D) : TD := fun _ S k _ => k (.d d) S
theorem q_var (i : Nat) {x : Str} {pos : Pos} (hN : X.N[i]? = some x := by rfl) (hv : Vis X.env.scope x := by first | exact Or.inl rfl | exact Or.inr (Or.inl rfl) | exact Or.inr (Or.inr rfl)) (hd : (x == ("__debug__" : Str)) = false := by decide)
    (hcd : (x == ("__classdict__" : Str)) = false := by decide) : QE X W (.Name x pos) (eVar i) := by
  refine pe_imp (pe_var (i := i) hN hv hd hcd) fun σ H Q h => ?_
  obtain ⟨α, G, ρ, S, k, kx, o, h, q, _⟩ := h
  unfold eVar at h
  split at h
  · rename_i c hc
    obtain ⟨v, e, r⟩ := o.env i c hc
    exact ⟨v, e, q c S α G H v h Ext.refl o r⟩
  · exact h.elim
theorem q_const {e : Expr} {d : D} {v : V} (h : PE X e (tC v)) (r : ∀ G, Rep X.K G d v) : QE X W e (eC d) := by
  refine pe_imp h fun σ H Q h => ?_
  obtain ⟨α, G, ρ, S, k, kx, o, h, q, _⟩ := h
  exact q _ S α G H v h Ext.refl o (r G)
theorem q_int {i j pos} : QE X W (.Constant (.int i) j pos) (eC (.int i)) := q_const pe_int fun G => by unfold Rep; rfl
theorem q_bl {i j pos} : QE X W (.Constant (.bool i) j pos) (eC (.bl i)) := q_const pe_bl fun G => by unfold Rep; rfl
theorem q_str {i j pos} : QE X W (.Constant (.str i) j pos) (eC (.str i)) := q_const pe_str fun G => by unfold Rep; rfl
theorem q_non {j pos} : QE X W (.Constant .none j pos) (eC .non) := q_const pe_non fun G => by unfold Rep; rfl
/-- an int constant of the module -/
theorem q_gint {x : Str} {i : Int} {t : Tok} (hg : Gl X x) (hm : X.mg x = some (.int i t)) (hd : (x == ("__debug__" : Str)) = false := by decide) : QE X W (.Name x pos) (eC (.int i)) :=
  q_const (pe_glob (v := .int i) hg hm ⟨t, rfl⟩ hd) fun G => by unfold Rep; rfl

/-! ### operators by values -/
abbrev R2D := C → C → Sto → (C → Sto → Prop) → Prop
abbrev R1D := C → Sto → (C → Sto → Prop) → Prop
structure OpD (K : PySem.W.Frag) (r : R2) (rd : R2D) : Prop where
  to : ∀ {α : List Addr} {G H : Hp} {ρ : Env} {S : Sto} {σ : St} {x y : C} {vx vy : V} {k : C → Sto → Prop} {Q : VK}, Ok K α G ρ S σ H → RepC K α G x vx → RepC K α G y vy → rd x y S k → Kont K α G H ρ σ k Q → r vx vy H Q
structure UnD (K : PySem.W.Frag) (r : V → Hp → VK → Prop) (rd : R1D) : Prop where
  to : ∀ {α : List Addr} {G H : Hp} {ρ : Env} {S : Sto} {σ : St} {x : C} {vx : V} {k : C → Sto → Prop} {Q : VK}, Ok K α G ρ S σ H → RepC K α G x vx → rd x S k → Kont K α G H ρ σ k Q → r vx H Q
abbrev wBin (rd : R2D) (wa wb : TD) : TD := fun ρ S k kx => wa ρ S (fun x S1 => wb ρ S1 (fun y S2 => rd x y S2 k) kx) kx
abbrev wUn (rd : R1D) (wa : TD) : TD := fun ρ S k kx => wa ρ S (fun x S1 => rd x S1 k) kx
theorem lift_bin {K : PySem.W.Frag} {r : R2} {rd : R2D} (hd : OpD K r rd) {σ : St} {H : Hp} {Q : VK} (h : lift K W (wBin rd wa wb) σ H Q) : tOp r (lift K W wa) (lift K W wb) σ H Q := by
  obtain ⟨α, G, ρ, S, k, kx, o, h, q, qx⟩ := h
  refine ⟨α, G, ρ, S, _, kx, o, h, fun x S1 α1 G1 H1 vx h1 e1 o1 r1 => ?_, qx⟩
  refine ⟨α1, G1, ρ, S1, _, kx, o1, h1, fun y S2 α2 G2 H2 vy h2 e2 o2 r2 => ?_, qx.ext e1⟩
  exact hd.to o2 (r1.mono e2.pre e2.same) r2 h2 (Kont.ext q (e1.trans e2))
theorem lift_un {K : PySem.W.Frag} {r : V → Hp → VK → Prop} {rd : R1D} (hd : UnD K r rd) {σ : St} {H : Hp} {Q : VK} (h : lift K W (wUn rd wa) σ H Q) : tUn r (lift K W wa) σ H Q := by
  obtain ⟨α, G, ρ, S, k, kx, o, h, q, qx⟩ := h
  refine ⟨α, G, ρ, S, _, kx, o, h, fun x S1 α1 G1 H1 vx h1 e1 o1 r1 => ?_, qx⟩
  exact hd.to o1 r1 h1 (Kont.ext q e1)
theorem q_op {op : Operator} {r : R2} {rd : R2D} (ho : OpR X (binaryOp op) r) (hd : OpD X.K r rd) (ha : QE X W a wa) (hb : QE X W b wb) : QE X W (.BinOp a op b pos) (wBin rd wa wb) :=
  pe_imp (pe_op ho ha hb) fun _ _ _ h => lift_bin hd h
theorem q_un {op : UnaryOp} {r : V → Hp → VK → Prop} {rd : R1D} (ho : UnR X (unaryOp op) r) (hd : UnD X.K r rd) (ha : QE X W a wa) : QE X W (.UnaryOp op a pos) (wUn rd wa) :=
  pe_imp (pe_un ho ha) fun _ _ _ h => lift_un hd h
theorem q_cmp {op : CmpOp} {r : R2} {rd : R2D} (ho : OpR X (compareOp op) r) (hd : OpD X.K r rd) (ha : QE X W a wa) (hb : QE X W b wb) (hm : behindInMarks op b = false) : QE X W (.Compare a [op] [b] pos) (wBin rd wa wb) :=
  pe_imp (pe_cmpR ho ha hb hm) fun _ _ _ h => lift_bin hd h
/-- the truth of a bool -/
abbrev eB (w : TD) : TTD := fun ρ S k kx => w ρ S (fun c S1 => match c with
  | .d (.bl b) => k b S1
  | _ => False) kx
theorem lift_B {K : PySem.W.Frag} {σ : St} {H : Hp} {Q : Bool → Hp → Prop} (h : liftT K W (eB wa) σ H Q) : lift K W wa σ H fun x H1 => ∃ k, x = .bl k ∧ Q k H1 := by
  obtain ⟨α, G, ρ, S, k, kx, o, h, q, qx⟩ := h
  refine ⟨α, G, ρ, S, _, kx, o, h, fun c S1 α1 G1 H1 v h1 e1 o1 r1 => ?_, qx⟩
  split at h1
  · exact ⟨_, of_bl r1, q _ _ _ _ _ h1 e1 o1⟩
  · exact h1.elim
theorem qt_cmp {op : CmpOp} {r : R2} {rd : R2D} (ho : OpR X (compareOp op) r) (hd : OpD X.K r rd) (ha : QE X W a wa) (hb : QE X W b wb) (hm : behindInMarks op b = false) : QT X W (.Compare a [op] [b] pos) (eB (wBin rd wa wb)) :=
  pt_imp (pt_cmpR ho ha hb hm) fun σ H Q h => by
    have h1 := lift_B h
    exact lift_bin hd h1
theorem qt_val {e : Expr} {w : TD} (h : QE X W e w) (he : ∀ whole, isTrue e X.env whole = (do let v ← whole; standAt e.pos; holding [v] (truthy v)) := by intro _; rfl) : QT X W e (eB w) :=
  pt_imp (pt_val h he) fun σ H Q h => lift_B h

/-! ### and, or, not -/
abbrev eAndT (t u : TTD) : TTD := fun ρ S k kx => t ρ S (fun b S1 => if b = true then u ρ S1 k kx else k false S1) kx
abbrev eOrT (t u : TTD) : TTD := fun ρ S k kx => t ρ S (fun b S1 => if b = true then k true S1 else u ρ S1 k kx) kx
abbrev eNotT (t : TTD) : TTD := fun ρ S k kx => t ρ S (fun b S1 => k (!b) S1) kx
theorem qw_and1 (ha : QT X W a ta) : QW X W (.BoolOp .And [a] pos) ta := pw_and1 ha
theorem qw_or1 (ha : QT X W a ta) : QW X W (.BoolOp .Or [a] pos) ta := pw_or1 ha
theorem qw_and {rest : List Expr} (ha : QT X W a ta) (hb : QW X W (.BoolOp .And (b :: rest) pos) tb) : QW X W (.BoolOp .And (a :: b :: rest) pos) (eAndT ta tb) := by
  refine pw_imp (pw_and ha hb) fun σ H Q h => ?_
  obtain ⟨α, G, ρ, S, k, kx, o, h, q, qx⟩ := h
  refine ⟨α, G, ρ, S, _, kx, o, h, fun c S1 α1 G1 H1 h1 e1 o1 => ?_, qx⟩
  cases c with
  | true => rw [if_pos rfl] at h1 ⊢; exact ⟨α1, G1, ρ, S1, k, kx, o1, h1, fun b S2 α2 G2 H2 h2 e2 o2 => q _ _ _ _ _ h2 (e1.trans e2) o2, qx.ext e1⟩
  | false => rw [if_neg Bool.false_ne_true] at h1 ⊢; exact q _ _ _ _ _ h1 e1 o1
theorem qw_or {rest : List Expr} (ha : QT X W a ta) (hb : QW X W (.BoolOp .Or (b :: rest) pos) tb) : QW X W (.BoolOp .Or (a :: b :: rest) pos) (eOrT ta tb) := by
  refine pw_imp (pw_or ha hb) fun σ H Q h => ?_
  obtain ⟨α, G, ρ, S, k, kx, o, h, q, qx⟩ := h
  refine ⟨α, G, ρ, S, _, kx, o, h, fun c S1 α1 G1 H1 h1 e1 o1 => ?_, qx⟩
  cases c with
  | false => rw [if_neg Bool.false_ne_true] at h1 ⊢; exact ⟨α1, G1, ρ, S1, k, kx, o1, h1, fun b S2 α2 G2 H2 h2 e2 o2 => q _ _ _ _ _ h2 (e1.trans e2) o2, qx.ext e1⟩
  | true => rw [if_pos rfl] at h1 ⊢; exact q _ _ _ _ _ h1 e1 o1
theorem qt_bool {e : Expr} (h : QW X W e ta) : QT X W e ta := h.pt
theorem qt_not (ha : QT X W a ta) : QT X W (.UnaryOp .Not a pos) (eNotT ta) := by
  refine pt_imp (pt_not ha) fun σ H Q h => ?_
  obtain ⟨α, G, ρ, S, k, kx, o, h, q, qx⟩ := h
  exact ⟨α, G, ρ, S, _, kx, o, h, fun c S1 α1 G1 H1 h1 e1 o1 => q _ _ _ _ _ h1 e1 o1, qx⟩
/-- .. as values: bools -/
abbrev eAndV (wa wb : TD) : TD := fun ρ S k kx => wa ρ S (fun x S1 => match x with
  | .d (.bl b) => if b = true then wb ρ S1 k kx else k (.d (.bl false)) S1
  | _ => False) kx
abbrev eOrV (wa wb : TD) : TD := fun ρ S k kx => wa ρ S (fun x S1 => match x with
  | .d (.bl b) => if b = true then k (.d (.bl true)) S1 else wb ρ S1 k kx
  | _ => False) kx
abbrev eNotV (wa : TD) : TD := fun ρ S k kx => wa ρ S (fun x S1 => match x with
  | .d (.bl b) => k (.d (.bl (!b))) S1
  | _ => False) kx
theorem q_one {op} (h : QE X W a wa) : QE X W (.BoolOp op [a] pos) wa := pe_one h
theorem q_and {rest : List Expr} (ha : QE X W a wa) (hb : QE X W (.BoolOp .And (b :: rest) pos) wb) : QE X W (.BoolOp .And (a :: b :: rest) pos) (eAndV wa wb) := by
  refine pe_imp (pe_and ha hb) fun σ H Q h => ?_
  obtain ⟨α, G, ρ, S, k, kx, o, h, q, qx⟩ := h
  refine ⟨α, G, ρ, S, _, kx, o, h, fun c S1 α1 G1 H1 v h1 e1 o1 r1 => ?_, qx⟩
  split at h1
  · rename_i b
    refine ⟨b, of_bl r1, ?_⟩
    cases b with
    | true => rw [if_pos rfl] at h1 ⊢; exact ⟨α1, G1, ρ, S1, k, kx, o1, h1, Kont.ext q e1, qx.ext e1⟩
    | false => rw [if_neg Bool.false_ne_true] at h1 ⊢; exact q _ _ _ _ _ _ h1 e1 o1 rep_bl
  · exact h1.elim
theorem q_or {rest : List Expr} (ha : QE X W a wa) (hb : QE X W (.BoolOp .Or (b :: rest) pos) wb) : QE X W (.BoolOp .Or (a :: b :: rest) pos) (eOrV wa wb) := by
  refine pe_imp (pe_or ha hb) fun σ H Q h => ?_
  obtain ⟨α, G, ρ, S, k, kx, o, h, q, qx⟩ := h
  refine ⟨α, G, ρ, S, _, kx, o, h, fun c S1 α1 G1 H1 v h1 e1 o1 r1 => ?_, qx⟩
  split at h1
  · rename_i b
    refine ⟨b, of_bl r1, ?_⟩
    cases b with
    | false => rw [if_neg Bool.false_ne_true] at h1 ⊢; exact ⟨α1, G1, ρ, S1, k, kx, o1, h1, Kont.ext q e1, qx.ext e1⟩
    | true => rw [if_pos rfl] at h1 ⊢; exact q _ _ _ _ _ _ h1 e1 o1 rep_bl
  · exact h1.elim
theorem q_not (ha : QE X W a wa) : QE X W (.UnaryOp .Not a pos) (eNotV wa) := by
  refine pe_imp (pe_not ha) fun σ H Q h => ?_
  obtain ⟨α, G, ρ, S, k, kx, o, h, q, qx⟩ := h
  refine ⟨α, G, ρ, S, _, kx, o, h, fun c S1 α1 G1 H1 v h1 e1 o1 r1 => ?_, qx⟩
  split at h1
  · exact ⟨_, of_bl r1, q _ _ _ _ _ _ h1 e1 o1 rep_bl⟩
  · exact h1.elim
def eIf (t : TTD) (wa wb : TD) : TD := fun ρ S k kx => t ρ S (fun b S1 => if b = true then wa ρ S1 k kx else wb ρ S1 k kx) kx
theorem q_ifExp (hc : QT X W c tc) (ha : QE X W a wa) (hb : QE X W b wb) : QE X W (.IfExp c a b pos) (eIf tc wa wb) := by
  refine pe_imp (pe_ifExp hc ha hb) fun σ H Q h => ?_
  obtain ⟨α, G, ρ, S, k, kx, o, h, q, qx⟩ := h
  refine ⟨α, G, ρ, S, _, kx, o, h, fun b S1 α1 G1 H1 h1 e1 o1 => ?_, qx⟩
  cases b with
  | true => rw [if_pos rfl] at h1 ⊢; exact ⟨α1, G1, ρ, S1, k, kx, o1, h1, Kont.ext q e1, qx.ext e1⟩
  | false => rw [if_neg Bool.false_ne_true] at h1 ⊢; exact ⟨α1, G1, ρ, S1, k, kx, o1, h1, Kont.ext q e1, qx.ext e1⟩
end

/-! ### the operators -/
section
variable {K : PySem.W.Frag}
/-- + of ints, lists (m: the new one a cell), tuples -/
def dAdd (m : Bool) : R2D := fun x y S k => match x, y with
  | .d (.int i), .d (.int j) => k (.d (.int (i + j))) S
  | .d (.tup xs), .d (.tup ys) => xs.length + ys.length ≤ sizeLine ∧ k (.d (.tup (xs ++ ys))) S
  | x, y => match lstOf S x, lstOf S y with
    | some xs, some ys => xs.length + ys.length ≤ sizeLine ∧ newL m (xs ++ ys) S k
    | _, _ => False
def rAddA (K : PySem.W.Frag) : R2 := fun x y H Q => (rI0 fun i j => .int (i + j)) x y H Q ∨ (rCat x y H Q ∨ rCatA K x y H Q)
theorem op_addA {X : Cx} : OpR X (binaryOp .Add) (rAddA X.K) := op_add.or (op_cat.or op_catA)
theorem d_add {m : Bool} : OpD K (rAddA K) (dAdd m) := ⟨fun {α G H ρ S σ x y vx vy k Q} o rx ry h q => by
  unfold dAdd at h
  split at h
  · exact .inl ⟨_, _, of_int rx, of_int ry, q.here o h rep_int⟩
  · rename_i xs ys
    obtain ⟨hl, h⟩ := h
    obtain ⟨a, vs, e1, g1, h1, p1⟩ := tup_rep o rx
    obtain ⟨b, ws, e2, g2, h2, p2⟩ := tup_rep o ry
    have l1 := Paired.length p1
    have l2 := Paired.length p2
    refine .inr (.inr ⟨a, b, vs, ws, e1, e2, SqT.of h1, SqT.of h2, by omega, ?_, ?_, ?_⟩)
    · intro hn
      subst hn
      cases p1
      exact q.here o (by simpa using h) (by rw [← e2]; exact ry)
    · intro hne hn
      subst hn
      cases p2
      exact q.here o (by simpa using h) (by rw [← e1]; exact rx)
    · intro hne hne2 p hp
      refine new_tup (cs := (xs ++ ys).map C.d) o q hp ?_ ?_
      · rw [List.map_append]; exact paired_app (RepCs.data p1) (RepCs.data p2)
      · unfold newT; rw [unD_map]; exact h
  · split at h
    · rename_i xs ys hx hy
      obtain ⟨hl, h⟩ := h
      obtain ⟨a, vs, e1, h1, p1⟩ := lst_rep o rx hx
      obtain ⟨b, ws, e2, h2, p2⟩ := lst_rep o ry hy
      have l1 := Paired.length p1
      have l2 := Paired.length p2
      exact .inr (.inl ⟨a, b, vs, ws, e1, e2, h1, h2, by omega, fun p hp => new_lst o q hp (paired_app p1 p2) h⟩)
    · exact h.elim⟩
def dInt (f : Int → Int → D) : R2D := fun x y S k => match x, y with
  | .d (.int i), .d (.int j) => k (.d (f i j)) S
  | _, _ => False
def dIntC (Cn : Int → Int → Prop) (f : Int → Int → D) : R2D := fun x y S k => match x, y with
  | .d (.int i), .d (.int j) => Cn i j ∧ k (.d (f i j)) S
  | _, _ => False
theorem d_int {f : Int → Int → D} {g : Int → Int → V} (hf : ∀ i j G, Rep K G (f i j) (g i j)) : OpD K (rI0 g) (dInt f) := ⟨fun {α G H ρ S σ x y vx vy k Q} o rx ry h q => by
  unfold dInt at h
  split at h
  · exact ⟨_, _, of_int rx, of_int ry, q.here o h (hf _ _ _)⟩
  · exact h.elim⟩
theorem d_intC {Cn : Int → Int → Prop} {f : Int → Int → D} {g : Int → Int → V} (hf : ∀ i j G, Rep K G (f i j) (g i j)) : OpD K (rI Cn g) (dIntC Cn f) := ⟨fun {α G H ρ S σ x y vx vy k Q} o rx ry h q => by
  unfold dIntC at h
  split at h
  · exact ⟨_, _, of_int rx, of_int ry, h.1, q.here o h.2 (hf _ _ _)⟩
  · exact h.elim⟩
theorem r_int {i : Int} {G : Hp} : Rep K G (.int i) (.int i) := by unfold Rep; rfl
theorem r_bl {i : Bool} {G : Hp} : Rep K G (.bl i) (.bl i) := by unfold Rep; rfl
abbrev dSub : R2D := dInt fun i j => .int (i - j)
theorem d_sub : OpD K (rI0 fun i j => .int (i - j)) dSub := d_int fun _ _ _ => r_int
abbrev dFdiv : R2D := dIntC CDiv fun i j => .int (i / j)
theorem d_fdiv : OpD K (rI CDiv fun i j => .int (i / j)) dFdiv := d_intC fun _ _ _ => r_int
abbrev dMod : R2D := dIntC (fun _ j => 0 < j) fun i j => .int (i % j)
theorem d_mod : OpD K (rI (fun _ j => 0 < j) fun i j => .int (i % j)) dMod := d_intC fun _ _ _ => r_int
abbrev dAnd : R2D := dInt fun i j => .int (Builtin.bitAnd i j)
theorem d_and : OpD K (rI0 fun i j => .int (Builtin.bitAnd i j)) dAnd := d_int fun _ _ _ => r_int
abbrev dOr : R2D := dInt fun i j => .int (Builtin.bitOr i j)
theorem d_or : OpD K (rI0 fun i j => .int (Builtin.bitOr i j)) dOr := d_int fun _ _ _ => r_int
abbrev dXor : R2D := dInt fun i j => .int (Builtin.bitXor i j)
theorem d_xor : OpD K (rI0 fun i j => .int (Builtin.bitXor i j)) dXor := d_int fun _ _ _ => r_int
abbrev dShl : R2D := dIntC CPow fun i j => .int (i * 2 ^ j.toNat)
theorem d_shl : OpD K (rI CPow fun i j => .int (i * 2 ^ j.toNat)) dShl := d_intC fun _ _ _ => r_int
abbrev dShr : R2D := dIntC (fun _ j => 0 ≤ j) fun i j => .int (i / 2 ^ j.toNat)
theorem d_shr : OpD K (rI (fun _ j => 0 ≤ j) fun i j => .int (i / 2 ^ j.toNat)) dShr := d_intC fun _ _ _ => r_int
abbrev dPow : R2D := dIntC CPow fun i j => .int (i ^ j.toNat)
theorem d_pow : OpD K (rI CPow fun i j => .int (i ^ j.toNat)) dPow := d_intC fun _ _ _ => r_int
abbrev dLt : R2D := dInt fun i j => .bl (decide (i < j))
theorem d_lt : OpD K (rI0 fun i j => .bl (decide (i < j))) dLt := d_int fun _ _ _ => r_bl
abbrev dLe : R2D := dInt fun i j => .bl (decide (i ≤ j))
theorem d_le : OpD K (rI0 fun i j => .bl (decide (i ≤ j))) dLe := d_int fun _ _ _ => r_bl
abbrev dGt : R2D := dInt fun i j => .bl (decide (j < i))
theorem d_gt : OpD K (rI0 fun i j => .bl (decide (j < i))) dGt := d_int fun _ _ _ => r_bl
abbrev dGe : R2D := dInt fun i j => .bl (decide (j ≤ i))
theorem d_ge : OpD K (rI0 fun i j => .bl (decide (j ≤ i))) dGe := d_int fun _ _ _ => r_bl
/-- * of ints (one within 64 bits), of a list by an int -/
def dMul (m : Bool) : R2D := fun x y S k => match x, y with
  | .d (.int i), .d (.int j) => CMul i j ∧ k (.d (.int (i * j))) S
  | x, .d (.int n) => match lstOf S x with
    | some xs => -(2 ^ 63) ≤ n ∧ n < 2 ^ 63 ∧ xs.length * n.toNat ≤ sizeLine ∧ newL m (List.replicate n.toNat xs).flatten S k
    | none => False
  | _, _ => False
def rMulA : R2 := fun x y H Q => (rI CMul fun i j => .int (i * j)) x y H Q ∨ rRep x y H Q
theorem op_mulA {X : Cx} : OpR X (binaryOp .Mult) rMulA := op_mul.or op_rep
theorem d_mul {m : Bool} : OpD K rMulA (dMul m) := ⟨fun {α G H ρ S σ x y vx vy k Q} o rx ry h q => by
  unfold dMul at h
  split at h
  · exact .inl ⟨_, _, of_int rx, of_int ry, h.1, q.here o h.2 rep_int⟩
  · split at h
    · rename_i xs hx
      obtain ⟨h1, h2, h3, h⟩ := h
      obtain ⟨a, vs, e1, g1, p1⟩ := lst_rep o rx hx
      have l1 := Paired.length p1
      exact .inr ⟨a, _, vs, e1, of_int ry, g1, h1, h2, by rw [← l1]; exact h3, fun p hp => new_lst o q hp (paired_rep p1 _) h⟩
    · exact h.elim
  · exact h.elim⟩
/-- == and != of scalars of one kind -/
def eqD : D → D → Option Bool
  | .int i, .int j => some (decide (i = j))
  | .bl i, .bl j => some (decide (i = j))
  | .str i, .str j => some (decide (i = j))
  | .non, .non => some true
  | .int _, .non => some false
  | .non, .int _ => some false
  | _, _ => none
def dEq : R2D := fun x y S k => match x, y with
  | .d x, .d y => match eqD x y with
    | some b => k (.d (.bl b)) S
    | none => False
  | _, _ => False
def dNe : R2D := fun x y S k => match x, y with
  | .d x, .d y => match eqD x y with
    | some b => k (.d (.bl (!b))) S
    | none => False
  | _, _ => False
theorem eqD_scal {x y : D} {vx vy : V} {b : Bool} {G : Hp} (rx : Rep K G x vx) (ry : Rep K G y vy) (h : eqD x y = some b) : scal vx vy = true ∧ decide (vx = vy) = b := by
  unfold eqD at h
  split at h <;> first | (cases h; done) | skip
  all_goals (unfold Rep at rx ry; subst rx; subst ry; cases h)
  all_goals refine ⟨rfl, ?_⟩
  · rename_i i j; by_cases e : i = j <;> simp [e]
  · rename_i i j; by_cases e : i = j <;> simp [e]
  · rename_i i j; by_cases e : i = j <;> simp [e]
  · rfl
  · rfl
  · rfl
theorem d_eq : OpD K rEq dEq := ⟨fun {α G H ρ S σ x y vx vy k Q} o rx ry h q => by
  unfold dEq at h
  split at h
  · split at h
    · rename_i b hb
      obtain ⟨e1, e2⟩ := eqD_scal rx ry hb
      exact ⟨e1, by rw [e2]; exact q.here o h rep_bl⟩
    · exact h.elim
  · exact h.elim⟩
theorem d_ne : OpD K rNe dNe := ⟨fun {α G H ρ S σ x y vx vy k Q} o rx ry h q => by
  unfold dNe at h
  split at h
  · split at h
    · rename_i b hb
      obtain ⟨e1, e2⟩ := eqD_scal rx ry hb
      exact ⟨e1, by rw [e2]; exact q.here o h rep_bl⟩
    · exact h.elim
  · exact h.elim⟩
def dNeg : R1D := fun x S k => match x with
  | .d (.int i) => k (.d (.int (-i))) S
  | _ => False
theorem d_neg : UnD K (rU fun i => .int (-i)) dNeg := ⟨fun {α G H ρ S σ x vx k Q} o rx h q => by
  unfold dNeg at h
  split at h
  · exact ⟨_, of_int rx, q.here o h rep_int⟩
  · exact h.elim⟩
def dInv : R1D := fun x S k => match x with
  | .d (.int i) => k (.d (.int (Builtin.bitNot i))) S
  | _ => False
theorem d_inv : UnD K (rU fun i => .int (Builtin.bitNot i)) dInv := ⟨fun {α G H ρ S σ x vx k Q} o rx h q => by
  unfold dInv at h
  split at h
  · exact ⟨_, of_int rx, q.here o h rep_int⟩
  · exact h.elim⟩
/-- x is None, x is not None (x of one known kind) -/
def isNonC : C → Bool
  | .d .non => true
  | _ => false
theorem rep_isNon {α : List Addr} {G : Hp} {x : C} {v : V} (r : RepC K α G x v) : decide (v = .non) = isNonC x := by
  cases x with
  | c i => obtain ⟨a, _, e⟩ := r; subst e; rfl
  | d x =>
    simp only [RepC] at r
    cases x <;> unfold Rep at r
    case non => subst r; rfl
    case bl => subst r; rfl
    case int => subst r; rfl
    case str => subst r; rfl
    case ref => subst r; rfl
    case ty => subst r; rfl
    case scr => obtain ⟨a, e, _⟩ := r; subst e; rfl
    all_goals (obtain ⟨a, vs, e, _⟩ := r; subst e; rfl)
def dIs : R2D := fun x y S k => match y with
  | .d .non => k (.d (.bl (isNonC x))) S
  | _ => False
def dIsnt : R2D := fun x y S k => match y with
  | .d .non => k (.d (.bl (!isNonC x))) S
  | _ => False
theorem d_is : OpD K (fun x y H Q => y = .non ∧ Q (.bl (decide (x = .non))) H) dIs := ⟨fun {α G H ρ S σ x y vx vy k Q} o rx ry h q => by
  unfold dIs at h
  split at h
  · exact ⟨of_non ry, by rw [rep_isNon rx]; exact q.here o h rep_bl⟩
  · exact h.elim⟩
theorem d_isnt : OpD K (fun x y H Q => y = .non ∧ Q (.bl (!decide (x = .non))) H) dIsnt := ⟨fun {α G H ρ S σ x y vx vy k Q} o rx ry h q => by
  unfold dIsnt at h
  split at h
  · exact ⟨of_non ry, by rw [rep_isNon rx]; exact q.here o h rep_bl⟩
  · exact h.elim⟩
end
end PL

/-! the pure layer, part 3: subscripts, slices, displays, calls of built-ins, methods -/
namespace PL
open PySem PySem.Spec L2
open PyProof.Rows hiding St

/-! ### items -/
theorem atI_pair {A B : Type} {F : A → B → Prop} {xs : List A} {ys : List B} {i : Int} {x : A} (r : Paired F xs ys) (h : atI xs i = some x) : ∃ y, atI ys i = some y ∧ F x y := by
  unfold atI at h ⊢
  rw [← Paired.length r]
  cases e : ixN xs.length i with
  | none => rw [e] at h; cases h
  | some j =>
    rw [e] at h
    obtain ⟨y, h1, h2⟩ := paired_at r (show xs[j]? = some x from h)
    exact ⟨y, h1, h2⟩
theorem atI_map {A B : Type} (f : A → B) (xs : List A) (i : Int) : atI (xs.map f) i = (atI xs i).map f := by
  unfold atI
  rw [List.length_map]
  cases ixN xs.length i with
  | none => rfl
  | some j => simp
theorem atI_lt {A : Type} {xs : List A} {i : Int} (h0 : 0 ≤ i) : atI xs i = xs[i.toNat]? := by
  unfold atI ixN
  rw [if_pos h0]
  by_cases h : i < (xs.length : Int)
  · rw [if_pos h]; rfl
  · rw [if_neg h]
    show none = _
    rw [List.getElem?_eq_none_iff.mpr (by omega)]
/-- xs[i], t[i] -/
def dIx : R2D := fun x y S k => match x, y with
  | .d (.lst ds), .d (.int i) => ∃ d, atI ds i = some d ∧ k (.d d) S
  | .d (.tup ds), .d (.int i) => ∃ d, atI ds i = some d ∧ k (.d d) S
  | .d (.scr ns), .d (.int i) => ∃ n, atI ns i = some n ∧ k (.d (.int n)) S
  | .c j, .d (.int i) => ∃ cs c, S.own j = some (.lst cs) ∧ atI cs i = some c ∧ k c S
  | _, _ => False
section
variable {K : PySem.W.Frag}
def rIxA (K : PySem.W.Frag) : R2 := fun x y H Q => rIxL K x y H Q ∨ rIxT K x y H Q
theorem ix_A {X : Cx} : IxR X (rIxA X.K) := ix_list.or ix_tup
theorem ix_seqOf {α : List Addr} {G H : Hp} {ρ : Env} {S : Sto} {σ : St} {x : C} {vx vy : V} {i : Int} {cs : List C} {c : C} {k : C → Sto → Prop} {Q : VK} (o : Ok K α G ρ S σ H) (rx : RepC K α G x vx) (hx : seqOf S x = some cs) (hy : vy = .int i)
    (hi : atI cs i = some c) (h : k c S) (q : Kont K α G H ρ σ k Q) : rIxA K vx vy H Q := by
  obtain ⟨a, vs, e, hs, rs⟩ := seq_rep o rx hx
  obtain ⟨v, h1, h2⟩ := atI_pair rs hi
  rcases hs with hs | hs
  · exact .inl ⟨a, vs, i, v, e, hy, hs, h1, q.here o h h2⟩
  · exact .inr ⟨a, vs, i, v, e, hy, hs, h1, q.here o h h2⟩
theorem d_ix : OpD K (rIxA K) dIx := ⟨fun {α G H ρ S σ x y vx vy k Q} o rx ry h q => by
  unfold dIx at h
  split at h
  · obtain ⟨d, e, h⟩ := h
    exact ix_seqOf o rx (cs := _) rfl (of_int ry) (by rw [atI_map, e]; rfl) h q
  · obtain ⟨d, e, h⟩ := h
    exact ix_seqOf o rx (cs := _) rfl (of_int ry) (by rw [atI_map, e]; rfl) h q
  · obtain ⟨d, e, h⟩ := h
    exact ix_seqOf o rx (cs := _) rfl (of_int ry) (by rw [atI_map, e]; rfl) h q
  · obtain ⟨cs, c, e1, e2, h⟩ := h
    exact ix_seqOf o rx (cs := cs) (by simp [seqOf, e1]) (of_int ry) e2 h q
  · exact h.elim⟩
end
section
variable {X : Cx} {W : WXT} {a b : Expr} {wa wb : TD} {pos : Pos}
theorem q_ix (ha : QE X W a wa) (hb : QE X W b wb) (hs : PlainIx b := by intro _ _; rfl) : QE X W (.Subscript a b pos) (wBin dIx wa wb) :=
  pe_imp (pe_ix ix_A ha hb hs) fun _ _ _ h => lift_bin d_ix h
end

/-! ### dicts that are read -/
section
variable {κ β : Type} [DecidableEq κ]
def lookK : List (κ × β) → κ → Option β
  | [], _ => none
  | p :: r, k => if p.1 = k then some p.2 else lookK r k
def putG (kvs : List (κ × β)) (k : κ) (v : β) : List (κ × β) :=
  if (lookK kvs k).isSome = true then kvs.map (fun kv => if kv.1 = k then (kv.1, v) else kv) else kvs ++ [(k, v)]
variable {F : β → V → Prop}
theorem look_pair : ∀ {kvs : List (κ × β)} {vs : List (κ × V)} (_ : Paired (fun (p : κ × β) (q : κ × V) => p.1 = q.1 ∧ F p.2 q.2) kvs vs) (k : κ),
    (∀ c, lookK kvs k = some c → ∃ v, valV vs k = some v ∧ F c v) ∧ (lookK kvs k = none → valV vs k = none)
  | _, _, .nil, k => ⟨fun c h => (by cases h), fun _ => rfl⟩
  | (p1, p2) :: r, (q1, q2) :: t, .cons ⟨e, f⟩ rr, k => by
    have e' : p1 = q1 := e
    subst e'
    obtain ⟨h1, h2⟩ := look_pair rr k
    by_cases hk : p1 = k
    · rw [valV_pos (p := (p1, q2)) hk]
      refine ⟨fun c h => ?_, fun h => ?_⟩
      · simp only [lookK, if_pos hk] at h; cases h; exact ⟨_, rfl, f⟩
      · simp only [lookK, if_pos hk] at h; cases h
    · rw [valV_neg (p := (p1, q2)) hk]
      refine ⟨fun c h => h1 c ?_, fun h => h2 ?_⟩
      · simpa only [lookK, if_neg hk] using h
      · simpa only [lookK, if_neg hk] using h
theorem look_isSome {kvs : List (κ × β)} {vs : List (κ × V)} (r : Paired (fun (p : κ × β) (q : κ × V) => p.1 = q.1 ∧ F p.2 q.2) kvs vs) (k : κ) : (lookK kvs k).isSome = (valV vs k).isSome := by
  obtain ⟨h1, h2⟩ := look_pair r k
  cases e : lookK kvs k with
  | none => rw [h2 e]; rfl
  | some c => obtain ⟨v, h, _⟩ := h1 c e; rw [h]; rfl
theorem repl_pair (k : κ) {c : β} {v : V} (f : F c v) : ∀ {kvs : List (κ × β)} {vs : List (κ × V)}, Paired (fun (p : κ × β) (q : κ × V) => p.1 = q.1 ∧ F p.2 q.2) kvs vs →
    Paired (fun (p : κ × β) (q : κ × V) => p.1 = q.1 ∧ F p.2 q.2) (kvs.map (fun kv => if kv.1 = k then (kv.1, c) else kv)) (vs.map (fun kv => if kv.1 = k then (kv.1, v) else kv))
  | _, _, .nil => .nil
  | p :: _, q :: _, .cons h t => by
    refine .cons ?_ (repl_pair k f t)
    dsimp only
    by_cases hk : p.1 = k
    · rw [if_pos hk, if_pos (h.1 ▸ hk)]; exact ⟨h.1, f⟩
    · rw [if_neg hk, if_neg (h.1 ▸ hk)]; exact h
theorem put_pair {kvs : List (κ × β)} {vs : List (κ × V)} (r : Paired (fun (p : κ × β) (q : κ × V) => p.1 = q.1 ∧ F p.2 q.2) kvs vs) (k : κ) {c : β} {v : V} (f : F c v) :
    Paired (fun (p : κ × β) (q : κ × V) => p.1 = q.1 ∧ F p.2 q.2) (putG kvs k c) (putK vs k v) := by
  unfold putG putK
  rw [valV_any, look_isSome r k]
  split
  · exact repl_pair k f r
  · exact paired_app r (.cons ⟨rfl, f⟩ .nil)
theorem putG_len {kvs : List (κ × β)} {k : κ} {v : β} : (putG kvs k v).length ≤ kvs.length + 1 := by
  unfold putG; split <;> simp
end
def keyD : D → Option Key
  | .int i => some (.inl i)
  | .str x => some (.inr x)
  | _ => none
def keysD : List D → Option (List Key)
  | [] => some []
  | d :: r => match keyD d, keysD r with
    | some k, some ks => some (k :: ks)
    | _, _ => none
theorem keyD_rep {K : PySem.W.Frag} {G : Hp} {d : D} {v : V} {k : Key} (r : Rep K G d v) (h : keyD d = some k) : v = kV k := by
  cases d <;> simp only [keyD] at h <;> cases h <;> (unfold Rep at r; subst r; rfl)
theorem keysD_rep {K : PySem.W.Frag} {G : Hp} : ∀ {ds : List D} {vs : List V} {ks : List Key}, Paired (Rep K G) ds vs → keysD ds = some ks → vs = ks.map kV
  | _, _, ks, .nil, h => by simp [keysD] at h; subst h; rfl
  | _, _, ks, .cons r t, h => by
    unfold keysD at h
    split at h
    · rename_i k ks' h1 h2
      cases h
      rw [keyD_rep r h1, keysD_rep t h2]; rfl
    · cases h
/-- what a dict holds at a key: none where the form does not fit -/
def dGet (S : Sto) : C → C → Option (Option C)
  | .d (.dK ks vs), .d y => match keyD y with
    | some k => some ((lookK (ks.zip vs) k).map C.d)
    | none => none
  | .d (.dT ks vs), .d (.tup ys) => match keysD ys with
    | some k => some ((lookK (ks.zip vs) k).map C.d)
    | none => none
  | .c j, .d y => match S.own j, y with
    | some (.dK kvs), y => match keyD y with
      | some k => some (lookK kvs k)
      | none => none
    | some (.dT kvs), .tup ys => match keysD ys with
      | some k => some (lookK kvs k)
      | none => none
    | _, _ => none
  | _, _ => none
section
variable {K : PySem.W.Frag} {α α' : List Addr} {G G' H H' : Hp} {ρ : Env} {S S' : Sto} {σ : St} {k : C → Sto → Prop} {Q : VK} {x y : C} {vx vy : V}
theorem zip_pair {κ : Type} {F : D → V → Prop} : ∀ {ks : List κ} {ds : List D} {vs : List V}, ks.length = vs.length → Paired F ds vs → Paired (fun (p : κ × D) (q : κ × V) => p.1 = q.1 ∧ F p.2 q.2) (ks.zip ds) (ks.zip vs)
  | [], _, _, _, _ => .nil
  | _ :: _, _, _, h, .nil => by simp at h
  | _ :: ks, _, _, h, .cons r t => .cons ⟨rfl, r⟩ (zip_pair (by simpa using h) t)
theorem dGet_rep {r : Option C} (o : Ok K α G ρ S σ H) (rx : RepC K α G x vx) (ry : RepC K α G y vy) (h : dGet S x y = some r) : ∃ a w, vx = .ref a ∧ DGet H a vy w ∧ (∀ c, r = some c → ∃ v, w = some v ∧ RepC K α G c v) ∧ (r = none → w = none) ∧ IsD H a := by
  unfold dGet at h
  split at h
  · rename_i ks vs y
    split at h
    · rename_i kk hk
      cases h
      simp only [RepC] at rx ry
      unfold Rep at rx
      obtain ⟨a, us, e, g, l, rs⟩ := rx
      obtain ⟨h1, h2⟩ := look_pair (zip_pair l rs.pair) kk
      refine ⟨a, valV (ks.zip us) kk, e, ?_, fun c hc => ?_, fun hn => h2 (by simpa using hn), .inl ⟨_, .inl (o.st.same _ _ g)⟩⟩
      · rw [keyD_rep ry hk]; exact DGet.k (o.st.same _ _ g)
      · obtain ⟨d, hd, e2⟩ := Option.map_eq_some_iff.mp hc
        subst e2
        exact h1 d hd
    · cases h
  · rename_i ks vs ys
    split at h
    · rename_i kk hk
      cases h
      obtain ⟨b, ws, e2, g2, g3, p2⟩ := tup_rep o ry
      simp only [RepC] at rx
      unfold Rep at rx
      obtain ⟨a, us, e, g, l, rs⟩ := rx
      obtain ⟨h1, h2⟩ := look_pair (zip_pair l rs.pair) kk
      refine ⟨a, valV (ks.zip us) kk, e, ?_, fun c hc => ?_, fun hn => h2 (by simpa using hn), .inr ⟨_, .inl (o.st.same _ _ g)⟩⟩
      · rw [e2]; exact DGet.t (o.st.same _ _ g) (by rw [← keysD_rep p2 hk]; exact g3)
      · obtain ⟨d, hd, e3⟩ := Option.map_eq_some_iff.mp hc
        subst e3
        exact h1 d hd
    · cases h
  · rename_i j y
    split at h
    · rename_i kvs y' hj
      split at h
      · rename_i kk hk
        cases h
        obtain ⟨a, e1, e2, vs, e3, rs⟩ := o.cellAt hj
        obtain ⟨b, f1, f2⟩ := rx
        rw [e1] at f1; cases f1
        obtain ⟨h1, h2⟩ := look_pair rs kk
        exact ⟨a, valV vs kk, f2, by rw [keyD_rep ry hk]; exact DGet.k e3, h1, h2, .inl ⟨_, .inl e3⟩⟩
      · cases h
    · rename_i kvs ys hj
      split at h
      · rename_i kk hk
        cases h
        obtain ⟨a, e1, e2, vs, e3, rs⟩ := o.cellAt hj
        obtain ⟨b, f1, f2⟩ := rx
        rw [e1] at f1; cases f1
        obtain ⟨c, ws, g1, g2, g3, p2⟩ := tup_rep o ry
        obtain ⟨h1, h2⟩ := look_pair rs kk
        exact ⟨a, valV vs kk, f2, by rw [g1]; exact DGet.t e3 (by rw [← keysD_rep p2 hk]; exact g3), h1, h2, .inr ⟨_, .inl e3⟩⟩
      · cases h
    · cases h
  · cases h
end
section
variable {X : Cx} {W : WXT} {a b c : Expr} {wa wb wc : TD} {pos : Pos}
def dDGet : R2D := fun x y S k => ∃ c, dGet S x y = some (some c) ∧ k c S
def dDIn (neg : Bool) : R2D := fun y x S k => ∃ r, dGet S x y = some r ∧ k (.d (.bl (if neg then !r.isSome else r.isSome))) S
theorem q_dget (hu : X.A.units + 1 < cLine) (ha : QE X W a wa) (hb : QE X W b wb) (hs : NoSl b := by intro _ _; rfl) : QE X W (.Subscript a b pos) (wBin dDGet wa wb) := by
  refine pe_imp (pe_dget hu ha hb hs) fun σ H Q h => ?_
  refine lift_bin (r := fun x y H Q => ∃ a v, x = .ref a ∧ DGet H a y (some v) ∧ Q v H) ⟨fun {α G H ρ S σ x y vx vy k Q} o rx ry h q => ?_⟩ h
  obtain ⟨c, e, h⟩ := h
  obtain ⟨a, w, e1, g, f, _, _⟩ := dGet_rep o rx ry e
  obtain ⟨v, e2, r⟩ := f c rfl
  exact ⟨a, v, e1, e2 ▸ g, q.here o h r⟩
theorem q_din (hu : X.A.units + 1 < cLine) (hb : QE X W b wb) (ha : QE X W a wa) (hm : behindInMarks .In a = false := by rfl) : QE X W (.Compare b [.In] [a] pos) (wBin (dDIn false) wb wa) := by
  refine pe_imp (pe_cmp (pc_din hu hb ha) hm) fun σ H Q h => ?_
  refine lift_bin (r := fun y x H Q => ∃ a o, x = .ref a ∧ DGet H a y o ∧ Q (.bl o.isSome) H) ⟨fun {α G H ρ S σ x y vx vy k Q} o rx ry h q => ?_⟩ h
  obtain ⟨r, e, h⟩ := h
  obtain ⟨a, w, e1, g, f, f2, _⟩ := dGet_rep o ry rx e
  refine ⟨a, w, e1, g, ?_⟩
  have : w.isSome = r.isSome := by
    cases r with
    | none => rw [f2 rfl]; rfl
    | some c => obtain ⟨v, e2, _⟩ := f c rfl; rw [e2]; rfl
  rw [this]
  exact q.here o h rep_bl
theorem q_dnotin (hu : X.A.units + 1 < cLine) (hb : QE X W b wb) (ha : QE X W a wa) (hm : behindInMarks .NotIn a = false := by rfl) : QE X W (.Compare b [.NotIn] [a] pos) (wBin (dDIn true) wb wa) := by
  refine pe_imp (pe_cmp (pc_dnotin hu hb ha) hm) fun σ H Q h => ?_
  refine lift_bin (r := fun y x H Q => ∃ a o, x = .ref a ∧ DGet H a y o ∧ Q (.bl (!o.isSome)) H) ⟨fun {α G H ρ S σ x y vx vy k Q} o rx ry h q => ?_⟩ h
  obtain ⟨r, e, h⟩ := h
  obtain ⟨a, w, e1, g, f, f2, _⟩ := dGet_rep o ry rx e
  refine ⟨a, w, e1, g, ?_⟩
  have : w.isSome = r.isSome := by
    cases r with
    | none => rw [f2 rfl]; rfl
    | some c => obtain ⟨v, e2, _⟩ := f c rfl; rw [e2]; rfl
  rw [this]
  exact q.here o h rep_bl
end

/-! ### argument lists, displays -/
section
variable {X : Cx} {W : WXT} {e : Expr} {es : List Expr} {we : TD} {t : TAD} {pos : Pos}
abbrev aNil : TAD := fun _ S k _ => k [] S
abbrev aCons (we : TD) (t : TAD) : TAD := fun ρ S k kx => we ρ S (fun c S1 => t ρ S1 (fun cs S2 => k (c :: cs) S2) kx) kx
theorem qa_nil : QA X W [] aNil := pa_imp pa_nil fun σ H Q h => by
  obtain ⟨α, G, ρ, S, k, kx, o, h, q, _⟩ := h
  exact q [] S α G H [] h Ext.refl o .nil
theorem qa_cons (ha : QE X W e we) (hr : QA X W es t) (hs : starEach (e :: es) X.env = (false, eval e X.env) :: starEach es X.env := by rfl) : QA X W (e :: es) (aCons we t) := by
  refine pa_imp (pa_cons ha hr hs) fun σ H Q h => ?_
  obtain ⟨α, G, ρ, S, k, kx, o, h, q, qx⟩ := h
  refine ⟨α, G, ρ, S, _, kx, o, h, fun x S1 α1 G1 H1 vx h1 e1 o1 r1 => ?_, qx⟩
  refine ⟨α1, G1, ρ, S1, _, kx, o1, h1, fun cs S2 α2 G2 H2 vs h2 e2 o2 r2 => ?_, qx.ext e1⟩
  exact q _ _ _ _ _ _ h2 (e1.trans e2) o2 (.cons (r1.mono e2.pre e2.same) r2)
abbrev eTup (t : TAD) : TD := fun ρ S k kx => t ρ S (fun cs S1 => cs.length ≤ sizeLine ∧ newT cs S1 k) kx
abbrev eLst (m : Bool) (t : TAD) : TD := fun ρ S k kx => t ρ S (fun cs S1 => cs.length ≤ sizeLine ∧ newL m cs S1 k) kx
theorem q_tup {x1} (h : QA X W es t) : QE X W (.Tuple es x1 pos) (eTup t) := by
  refine pe_imp (pe_tup h) fun σ H Q h => ?_
  obtain ⟨α, G, ρ, S, k, kx, o, h, q, qx⟩ := h
  refine ⟨α, G, ρ, S, _, kx, o, h, fun cs S1 α1 G1 H1 vs h1 e1 o1 r1 => ?_, qx⟩
  exact ⟨by rw [← r1.len]; exact h1.1, fun p hp => new_tup o1 (Kont.ext q e1) hp r1 h1.2⟩
theorem q_lst (m : Bool) (h : QA X W es t) : QE X W (.List es pos) (eLst m t) := by
  refine pe_imp (pe_lst h) fun σ H Q h => ?_
  obtain ⟨α, G, ρ, S, k, kx, o, h, q, qx⟩ := h
  refine ⟨α, G, ρ, S, _, kx, o, h, fun cs S1 α1 G1 H1 vs h1 e1 o1 r1 => ?_, qx⟩
  exact ⟨by rw [← r1.len]; exact h1.1, fun p hp => new_lst o1 (Kont.ext q e1) hp r1 h1.2⟩
end

/-! ### slices without a step -/
abbrev TOD := Env → Sto → (Option Int → Sto → Prop) → KX → Prop
def liftO (K : PySem.W.Frag) (W : WXT) (w : TOD) : TO := fun σ H Q => ∃ α G ρ S k kx, Ok K α G ρ S σ H ∧ w ρ S k kx ∧
  (∀ c S' α' G' H', k c S' → Ext α G H α' G' H' → Ok K α' G' ρ S' σ H' → Q c H') ∧ XKont K W α G H kx
abbrev QO (X : Cx) (W : WXT) (e : Option Expr) (w : TOD) : Prop := PO X e (liftO X.K W w)
abbrev oNone : TOD := fun _ S k _ => k none S
abbrev oSome (w : TD) : TOD := fun ρ S k kx => w ρ S (fun c S1 => match c with
  | .d (.int i) => k (some i) S1
  | _ => False) kx
section
variable {X : Cx} {W : WXT} {e : Expr} {we : TD} {pos : Pos}
theorem po_imp {X : Cx} {e : Option Expr} {t t' : TO} (h : PO X e t) (i : ∀ σ H Q, t' σ H Q → t σ H Q) : PO X e t' := ⟨fun pins s σ H Q I q => h.run pins s σ H Q I (i σ H Q q)⟩
theorem qo_none : QO X W none oNone := po_imp po_none fun σ H Q h => by
  obtain ⟨α, G, ρ, S, k, kx, o, h, q, _⟩ := h
  exact q none S α G H h Ext.refl o
theorem qo_some (h : QE X W e we) : QO X W (some e) (oSome we) := po_imp (po_some h) fun σ H Q h => by
  obtain ⟨α, G, ρ, S, k, kx, o, h, q, qx⟩ := h
  refine ⟨α, G, ρ, S, _, kx, o, h, fun c S1 α1 G1 H1 v h1 e1 o1 r1 => ?_, qx⟩
  split at h1
  · exact ⟨_, of_int r1, q _ _ _ _ _ h1 e1 o1⟩
  · exact h1.elim
def cutG {A : Type} (xs : List A) (lo hi : Option Int) : List A := (xs.drop (HT.sIx xs.length 0 lo)).take (HT.sIx xs.length xs.length hi - HT.sIx xs.length 0 lo)
theorem cut_pair {A : Type} {F : A → V → Prop} {xs : List A} {ys : List V} (r : Paired F xs ys) (lo hi : Option Int) : Paired F (cutG xs lo hi) (cutV ys lo hi) := by
  unfold cutG cutV; rw [Paired.length r]; exact paired_take _ (paired_drop _ r)
def dSl (m : Bool) (x : C) (lo hi : Option Int) (S : Sto) (k : C → Sto → Prop) : Prop := match x with
  | .d (.tup ds) => k (.d (.tup (cutG ds lo hi))) S
  | x => match lstOf S x with
    | some cs => newL m (cutG cs lo hi) S k
    | none => False
abbrev eSl (m : Bool) (we : TD) (wl wh : TOD) : TD := fun ρ S k kx => we ρ S (fun x S1 => wl ρ S1 (fun l S2 => wh ρ S2 (fun u S3 => dSl m x l u S3 k) kx) kx) kx
def rSlB (K : PySem.W.Frag) : V → Option Int → Option Int → Hp → VK → Prop := fun x lo hi H Q => rSlL K x lo hi H Q ∨ rSlA K x lo hi H Q
theorem q_slice {m : Bool} {lo hi : Option Expr} {wl wh : TOD} {p2 : Pos} (he : QE X W e we) (hl : QO X W lo wl) (hh : QO X W hi wh) : QE X W (.Subscript e (.Slice lo hi none p2) pos) (eSl m we wl wh) := by
  refine pe_imp (pe_slice (sl_list.or sl_tupA) he hl hh) fun σ H Q h => ?_
  obtain ⟨α, G, ρ, S, k, kx, o, h, q, qx⟩ := h
  refine ⟨α, G, ρ, S, _, kx, o, h, fun x S1 α1 G1 H1 v h1 e1 o1 r1 => ?_, qx⟩
  refine ⟨α1, G1, ρ, S1, _, kx, o1, h1, fun l S2 α2 G2 H2 h2 e2 o2 => ?_, qx.ext e1⟩
  refine ⟨α2, G2, ρ, S2, _, kx, o2, h2, fun u S3 α3 G3 H3 h3 e3 o3 => ?_, (qx.ext e1).ext e2⟩
  have r3 := (r1.mono e2.pre e2.same).mono e3.pre e3.same
  have q3 := ((Kont.ext q e1).ext e2).ext e3
  unfold dSl at h3
  split at h3
  · rename_i ds
    obtain ⟨a, vs, e, g, hh, p⟩ := tup_rep o3 r3
    refine .inr ⟨a, vs, e, SqT.of hh, fun hw => ?_, fun hw p hp => ?_⟩
    · have : cutG ds l u = ds := by
        unfold cutG
        rw [Paired.length p, hw.1, hw.2]
        simp [← Paired.length p]
      rw [this] at h3
      exact q3.here o3 h3 (by rw [← e]; exact r3)
    · refine new_tup (cs := (cutG ds l u).map C.d) o3 q3 hp ?_ ?_
      · exact RepCs.data (cut_pair (by assumption) l u)
      · unfold newT; rw [unD_map]; exact h3
  · split at h3
    · rename_i cs hx
      obtain ⟨a, vs, e, hh, p⟩ := lst_rep o3 r3 hx
      exact .inl ⟨a, vs, e, SqL.of hh, fun p hp => new_lst o3 q3 hp (cut_pair (by assumption) l u) h3⟩
    · exact h3.elim
end

/-! ### built-ins by values -/
abbrev RCD := List C → Sto → (C → Sto → Prop) → Prop
structure CallD (K : PySem.W.Frag) (r : List V → Hp → VK → Prop) (rd : RCD) : Prop where
  to : ∀ {α : List Addr} {G H : Hp} {ρ : Env} {S : Sto} {σ : St} {cs : List C} {vs : List V} {k : C → Sto → Prop} {Q : VK}, Ok K α G ρ S σ H → RepCs K α G cs vs → rd cs S k → Kont K α G H ρ σ k Q → r vs H Q
abbrev eCB (rd : RCD) (t : TAD) : TD := fun ρ S k kx => t ρ S (fun cs S1 => rd cs S1 k) kx
section
variable {X : Cx} {W : WXT} {e : Expr} {es : List Expr} {we : TD} {t : TAD} {x : Str} {p pos : Pos} {id T : String} {r : List V → Hp → VK → Prop} {rd : RCD}
theorem lift_CB {K : PySem.W.Frag} (hd : CallD K r rd) {σ : St} {H : Hp} {Q : VK} (h : lift K W (eCB rd t) σ H Q) : tCB r (liftA K W t) σ H Q := by
  obtain ⟨α, G, ρ, S, k, kx, o, h, q, qx⟩ := h
  refine ⟨α, G, ρ, S, _, kx, o, h, fun cs S1 α1 G1 H1 vs h1 e1 o1 r1 => ?_, qx⟩
  exact hd.to o1 r1 h1 (Kont.ext q e1)
theorem q_callB (hc : CallR X (.builtin id) r) (hd : CallD X.K r rd) (hg : Gl X x) (hm : X.mg x = none) (hv : bootBuiltins x = some (.builtin id)) (ha : QA X W (e :: es) t) (hn : x ≠ "__name__" := by decide) (hdb : (x == ("__debug__" : Str)) = false := by decide)
    (he : starEach (e :: es) X.env = (false, eval e X.env) :: starEach es X.env := by rfl) (hpl : (backTo pos (starEach es X.env)).any (·.1) = false := by rfl) : QE X W (.Call (.Name x p) (e :: es) [] pos) (eCB rd t) :=
  pe_imp (pe_callB hc hg hm hv ha hn hdb he hpl) fun _ _ _ h => lift_CB hd h
theorem q_callTy (hc : CallR X (.type T) r) (hd : CallD X.K r rd) (hg : Gl X x) (hm : X.mg x = none) (hv : bootBuiltins x = some (.type T)) (ha : QA X W (e :: es) t) (hn : x ≠ "__name__" := by decide) (hdb : (x == ("__debug__" : Str)) = false := by decide)
    (he : starEach (e :: es) X.env = (false, eval e X.env) :: starEach es X.env := by rfl) (hpl : (backTo pos (starEach es X.env)).any (·.1) = false := by rfl) : QE X W (.Call (.Name x p) (e :: es) [] pos) (eCB rd t) :=
  pe_imp (pe_callTy hc hg hm hv ha hn hdb he hpl) fun _ _ _ h => lift_CB hd h
end
section
variable {K : PySem.W.Frag}
theorem rep1 {α : List Addr} {G : Hp} {c : C} {vs : List V} (r : RepCs K α G [c] vs) : ∃ v, vs = [v] ∧ RepC K α G c v := by
  cases r with
  | cons h t => cases t; exact ⟨_, rfl, h⟩
theorem rep2 {α : List Addr} {G : Hp} {c c2 : C} {vs : List V} (r : RepCs K α G [c, c2] vs) : ∃ v v2, vs = [v, v2] ∧ RepC K α G c v ∧ RepC K α G c2 v2 := by
  cases r with
  | cons h t =>
    cases t with
    | cons h2 t2 => cases t2; exact ⟨_, _, rfl, h, h2⟩
/-- len of a list, a tuple -/
def dLen : RCD := fun cs S k => match cs with
  | [x] => ∃ xs, seqOf S x = some xs ∧ k (.d (.int xs.length)) S
  | _ => False
theorem d_len : CallD K (fun xs H Q => ∃ p ys, xs = [.ref p] ∧ (SqL K H p ys ∨ SqT K H p ys) ∧ Q (.int ys.length) H) dLen := ⟨fun {α G H ρ S σ cs vs k Q} o r h q => by
  unfold dLen at h
  split at h
  · obtain ⟨xs, e, h⟩ := h
    obtain ⟨v, e1, r1⟩ := rep1 r
    obtain ⟨a, ys, e2, hs, rs⟩ := seq_rep o r1 e
    exact ⟨a, ys, by rw [e1, e2], hs, by rw [← rs.len]; exact q.here o h rep_int⟩
  · exact h.elim⟩
def dAbs : RCD := fun cs S k => match cs with
  | [.d (.int i)] => k (.d (.int (if i < 0 then -i else i))) S
  | _ => False
theorem d_abs : CallD K (fun xs H Q => ∃ i, xs = [.int i] ∧ Q (.int (if i < 0 then -i else i)) H) dAbs := ⟨fun {α G H ρ S σ cs vs k Q} o r h q => by
  unfold dAbs at h
  split at h
  · obtain ⟨v, e1, r1⟩ := rep1 r
    exact ⟨_, by rw [e1, of_int r1], q.here o h rep_int⟩
  · exact h.elim⟩
def dToInt : RCD := fun cs S k => match cs with
  | [.d (.int i)] => k (.d (.int i)) S
  | [.d (.bl b)] => k (.d (.int (if b then 1 else 0))) S
  | _ => False
theorem d_toint : CallD K (fun xs H Q => (∃ i, xs = [.int i] ∧ Q (.int i) H) ∨ ∃ k, xs = [.bl k] ∧ Q (.int (if k then 1 else 0)) H) dToInt := ⟨fun {α G H ρ S σ cs vs k Q} o r h q => by
  unfold dToInt at h
  split at h
  · obtain ⟨v, e1, r1⟩ := rep1 r
    exact .inl ⟨_, by rw [e1, of_int r1], q.here o h rep_int⟩
  · obtain ⟨v, e1, r1⟩ := rep1 r
    exact .inr ⟨_, by rw [e1, of_bl r1], q.here o h rep_int⟩
  · exact h.elim⟩
def dMax2 : RCD := fun cs S k => match cs with
  | [.d (.int i), .d (.int j)] => k (.d (.int (if j > i then j else i))) S
  | _ => False
theorem d_max2 : CallD K (fun xs H Q => ∃ i j, xs = [.int i, .int j] ∧ Q (.int (if j > i then j else i)) H) dMax2 := ⟨fun {α G H ρ S σ cs vs k Q} o r h q => by
  unfold dMax2 at h
  split at h
  · obtain ⟨v, v2, e1, r1, r2⟩ := rep2 r
    exact ⟨_, _, by rw [e1, of_int r1, of_int r2], q.here o h rep_int⟩
  · exact h.elim⟩
def dMin2 : RCD := fun cs S k => match cs with
  | [.d (.int i), .d (.int j)] => k (.d (.int (if j < i then j else i))) S
  | _ => False
theorem d_min2 : CallD K (fun xs H Q => ∃ i j, xs = [.int i, .int j] ∧ Q (.int (if j < i then j else i)) H) dMin2 := ⟨fun {α G H ρ S σ cs vs k Q} o r h q => by
  unfold dMin2 at h
  split at h
  · obtain ⟨v, v2, e1, r1, r2⟩ := rep2 r
    exact ⟨_, _, by rw [e1, of_int r1, of_int r2], q.here o h rep_int⟩
  · exact h.elim⟩
/-- the ints of a list -/
def cInts (ns : List Int) : List C := ns.map fun n => C.d (.int n)
theorem reps_cInts {α : List Addr} {G : Hp} : ∀ {ns : List Int} {vs : List V}, RepCs K α G (cInts ns) vs → vs = ns.map V.int
  | [], _, .nil => rfl
  | n :: ns, _, .cons r t => by rw [of_int r, reps_cInts t]; rfl
theorem reps_cInts' {α : List Addr} {G : Hp} (ns : List Int) : RepCs K α G (cInts ns) (ns.map V.int) := reps_ints rfl
def dSum : RCD := fun cs S k => match cs with
  | [x] => ∃ ns, lstOf S x = some (cInts ns) ∧ k (.d (.int ns.sum)) S
  | _ => False
theorem d_sum : CallD K (rSum K) dSum := ⟨fun {α G H ρ S σ cs vs k Q} o r h q => by
  unfold dSum at h
  split at h
  · obtain ⟨ns, e, h⟩ := h
    obtain ⟨v, e1, r1⟩ := rep1 r
    obtain ⟨a, ys, e2, hs, rs⟩ := lst_rep o r1 e
    exact ⟨a, ns, by rw [e1, e2], SqL.of (by rw [hs, reps_cInts rs]), q.here o h rep_int⟩
  · exact h.elim⟩
def dMaxL : RCD := fun cs S k => match cs with
  | [x] => ∃ ns, lstOf S x = some (cInts ns) ∧ 0 < ns.length ∧ ∀ m, m ∈ ns → (∀ y, y ∈ ns → y ≤ m) → k (.d (.int m)) S
  | _ => False
theorem d_maxL : CallD K (rMax K) dMaxL := ⟨fun {α G H ρ S σ cs vs k Q} o r h q => by
  unfold dMaxL at h
  split at h
  · obtain ⟨ns, e, h0, h⟩ := h
    obtain ⟨v, e1, r1⟩ := rep1 r
    obtain ⟨a, ys, e2, hs, rs⟩ := lst_rep o r1 e
    exact ⟨a, ns, by rw [e1, e2], SqL.of (by rw [hs, reps_cInts rs]), h0, fun m h1 h2 => q.here o (h m h1 h2) rep_int⟩
  · exact h.elim⟩
def dMinL : RCD := fun cs S k => match cs with
  | [x] => ∃ ns, lstOf S x = some (cInts ns) ∧ 0 < ns.length ∧ ∀ m, m ∈ ns → (∀ y, y ∈ ns → m ≤ y) → k (.d (.int m)) S
  | _ => False
theorem d_minL : CallD K (rMin K) dMinL := ⟨fun {α G H ρ S σ cs vs k Q} o r h q => by
  unfold dMinL at h
  split at h
  · obtain ⟨ns, e, h0, h⟩ := h
    obtain ⟨v, e1, r1⟩ := rep1 r
    obtain ⟨a, ys, e2, hs, rs⟩ := lst_rep o r1 e
    exact ⟨a, ns, by rw [e1, e2], SqL.of (by rw [hs, reps_cInts rs]), h0, fun m h1 h2 => q.here o (h m h1 h2) rep_int⟩
  · exact h.elim⟩
/-- sorted of ints -/
def dSorted (m : Bool) : RCD := fun cs S k => match cs with
  | [x] => ∃ ns, lstOf S x = some (cInts ns) ∧ ∀ ns' : List Int, ns'.Perm ns → ns'.Pairwise (· ≤ ·) → newL m (cInts ns') S k
  | _ => False
theorem d_sorted {m : Bool} : CallD K (rSortedI K) (dSorted m) := ⟨fun {α G H ρ S σ cs vs k Q} o r h q => by
  unfold dSorted at h
  split at h
  · obtain ⟨ns, e, h⟩ := h
    obtain ⟨v, e1, r1⟩ := rep1 r
    obtain ⟨a, ys, e2, hs, rs⟩ := lst_rep o r1 e
    exact ⟨a, ns, by rw [e1, e2], SqL.of (by rw [hs, reps_cInts rs]), fun ns' p h1 h2 hp => new_lst o q hp (reps_cInts' ns') (h ns' h1 h2)⟩
  · exact h.elim⟩
/-- list(xs) -/
def dList (m : Bool) : RCD := fun cs S k => match cs with
  | [x] => ∃ xs, seqOf S x = some xs ∧ newL m xs S k
  | _ => False
theorem d_list {m : Bool} : CallD K (fun xs H Q => ∃ p ys, xs = [.ref p] ∧ (SqL K H p ys ∨ SqT K H p ys) ∧ ∀ l, H l = none → Q (.ref l) (upd H l (.lst ys))) (dList m) := ⟨fun {α G H ρ S σ cs vs k Q} o r h q => by
  unfold dList at h
  split at h
  · obtain ⟨xs, e, h⟩ := h
    obtain ⟨v, e1, r1⟩ := rep1 r
    obtain ⟨a, ys, e2, hs, rs⟩ := seq_rep o r1 e
    exact ⟨a, ys, by rw [e1, e2], hs, fun l hl => new_lst o q hl rs h⟩
  · exact h.elim⟩
/-- tuple(xs) -/
def dTuple : RCD := fun cs S k => match cs with
  | [.d (.tup ds)] => k (.d (.tup ds)) S
  | [x] => ∃ xs, lstOf S x = some xs ∧ newT xs S k
  | _ => False
theorem d_tuple : CallD K (fun xs H Q => ∃ p ys, xs = [.ref p] ∧ ((SqL K H p ys ∧ ∀ l, H l = none → Q (.ref l) (upd H l (.tup ys))) ∨ (SqT K H p ys ∧ Q (.ref p) H))) dTuple := ⟨fun {α G H ρ S σ cs vs k Q} o r h q => by
  unfold dTuple at h
  split at h
  · obtain ⟨v, e1, r1⟩ := rep1 r
    obtain ⟨a, ys, e2, g, hh, p⟩ := tup_rep o r1
    exact ⟨a, ys, by rw [e1, e2], .inr ⟨SqT.of hh, q.here o h (by rw [← e2]; exact r1)⟩⟩
  · obtain ⟨xs, e, h⟩ := h
    obtain ⟨v, e1, r1⟩ := rep1 r
    obtain ⟨a, ys, e2, hs, rs⟩ := lst_rep o r1 e
    exact ⟨a, ys, by rw [e1, e2], .inl ⟨SqL.of hs, fun l hl => new_tup o q hl rs h⟩⟩
  · exact h.elim⟩
end

/-! ### list(range(..)) -/
section
variable {X : Cx} {W : WXT} {a b : Expr} {wa wb : TD} {p pos : Pos}
def rgD (i j : Int) : List Int := (List.range (j - i).toNat).map fun n => i + (n : Nat)
abbrev eRg1 (wa : TD) : Env → Sto → (Int → Int → Sto → Prop) → KX → Prop := fun ρ S k kx => wa ρ S (fun c S1 => match c with
  | .d (.int n) => k 0 n S1
  | _ => False) kx
abbrev eRg2 (wa wb : TD) : Env → Sto → (Int → Int → Sto → Prop) → KX → Prop := fun ρ S k kx => wa ρ S (fun c S1 => wb ρ S1 (fun c2 S2 => match c, c2 with
  | .d (.int i), .d (.int j) => k i j S2
  | _, _ => False) kx) kx
def liftR (K : PySem.W.Frag) (W : WXT) (w : Env → Sto → (Int → Int → Sto → Prop) → KX → Prop) : St → Hp → (Int → Int → Hp → Prop) → Prop := fun σ H Q => ∃ α G ρ S k kx, Ok K α G ρ S σ H ∧ w ρ S k kx ∧
  (∀ i j S' α' G' H', k i j S' → Ext α G H α' G' H' → Ok K α' G' ρ S' σ H' → Q i j H') ∧ XKont K W α G H kx
abbrev QR (X : Cx) (W : WXT) (e : Expr) (w : Env → Sto → (Int → Int → Sto → Prop) → KX → Prop) : Prop := PRg X e (liftR X.K W w)
theorem prg_imp {e : Expr} {t t' : St → Hp → (Int → Int → Hp → Prop) → Prop} (h : PRg X e t) (i : ∀ σ H Q, t' σ H Q → t σ H Q) : PRg X e t' := fun pins s σ H R I q => h pins s σ H R I (i _ _ _ q)
theorem qr_1 (hg : Gl X "range") (hm : X.mg "range" = none) (ha : QE X W a wa) (na : starEach [a] X.env = (false, eval a X.env) :: starEach [] X.env := by rfl) : QR X W (.Call (.Name "range" p) [a] [] pos) (eRg1 wa) := by
  refine prg_imp (prg_1 hg hm ha na) fun σ H Q h => ?_
  obtain ⟨α, G, ρ, S, k, kx, o, h, q, qx⟩ := h
  refine ⟨α, G, ρ, S, _, kx, o, h, fun c S1 α1 G1 H1 v h1 e1 o1 r1 => ?_, qx⟩
  split at h1
  · exact ⟨_, of_int r1, q _ _ _ _ _ _ h1 e1 o1⟩
  · exact h1.elim
theorem qr_2 (hg : Gl X "range") (hm : X.mg "range" = none) (ha : QE X W a wa) (hb : QE X W b wb) (na : starEach [a, b] X.env = (false, eval a X.env) :: starEach [b] X.env := by rfl) (nb : starEach [b] X.env = (false, eval b X.env) :: starEach [] X.env := by rfl) (hp : (backTo pos (starEach [b] X.env)).any (·.1) = false := by rfl) : QR X W (.Call (.Name "range" p) [a, b] [] pos) (eRg2 wa wb) := by
  refine prg_imp (prg_2 hg hm ha hb na nb hp) fun σ H Q h => ?_
  obtain ⟨α, G, ρ, S, k, kx, o, h, q, qx⟩ := h
  refine ⟨α, G, ρ, S, _, kx, o, h, fun c S1 α1 G1 H1 v h1 e1 o1 r1 => ?_, qx⟩
  refine ⟨α1, G1, ρ, S1, _, kx, o1, h1, fun c2 S2 α2 G2 H2 v2 h2 e2 o2 r2 => ?_, qx.ext e1⟩
  split at h2
  · exact ⟨_, _, of_int r1, of_int r2, q _ _ _ _ _ _ h2 (e1.trans e2) o2⟩
  · exact h2.elim
abbrev eLstRg (m : Bool) (w : Env → Sto → (Int → Int → Sto → Prop) → KX → Prop) : TD := fun ρ S k kx => w ρ S (fun i j S1 => RgOk i j ∧ newL m (cInts (rgD i j)) S1 k) kx
theorem q_listRg {m : Bool} {e : Expr} {w : Env → Sto → (Int → Int → Sto → Prop) → KX → Prop} (hc : X.calm = true) (hg : Gl X "list") (hm : X.mg "list" = none) (he : QR X W e w) (na : starEach [e] X.env = (false, eval e X.env) :: starEach [] X.env := by rfl) : QE X W (.Call (.Name "list" p) [e] [] pos) (eLstRg m w) := by
  refine pe_imp (pe_listRg hc hg hm he na) fun σ H Q h => ?_
  obtain ⟨α, G, ρ, S, k, kx, o, h, q, qx⟩ := h
  refine ⟨α, G, ρ, S, _, kx, o, h, fun i j S1 α1 G1 H1 h1 e1 o1 => ⟨h1.1, fun l hl => ?_⟩, qx⟩
  have : rgV i j = (rgD i j).map V.int := by unfold rgV rgD; rw [List.map_map]; rfl
  rw [this]
  exact new_lst o1 (Kont.ext q e1) hl (reps_cInts' _) h1.2
end
end PL

/-! the pure layer, part 4: statements, targets, loops, list comprehensions, list methods -/
namespace PL
open PySem PySem.Spec L2
open PyProof.Rows hiding St

/-! ### blocks -/
section
variable {X : Cx} {W : WXT} {st : Stmt} {rest : List Stmt} {t u : TSD} {e : Expr} {we : TD} {pos : Pos}
abbrev sNext : TSD := fun D ρ S => D.nx ρ S
def sSeq (t u : TSD) : TSD := fun D ρ S => t { D with nx := u D } ρ S
abbrev sBreak : TSD := fun D ρ S => D.bk ρ S
abbrev sCont : TSD := fun D ρ S => D.ct ρ S
theorem qss_nil : QSs X W [] sNext := pss_imp pss_nil fun D σ H h => by
  obtain ⟨α, G, ρ, S, DD, o, h, q⟩ := h
  exact q.nx _ _ _ _ _ _ h Ext.refl o
theorem qss_cons (h1 : QS X W st t) (h2 : QSs X W rest u) : QSs X W (st :: rest) (sSeq t u) := pss_imp (pss_cons h1 h2) fun D σ H h => by
  obtain ⟨α, G, ρ, S, DD, o, h, q⟩ := h
  exact ⟨α, G, ρ, S, { DD with nx := u DD }, o, h, ⟨fun ρ' S' α' G' σ' H' h' e' o' => ⟨α', G', ρ', S', DD, o', h', q.ext e'⟩, q.rt, q.bk, q.ct, q.ex⟩⟩
theorem qss_one (h1 : QS X W st t) : QSs X W [st] t := pss_one h1
theorem qs_pass : QS X W (.Pass pos) sNext := ps_imp ps_pass fun D σ H h => by
  obtain ⟨α, G, ρ, S, DD, o, h, q⟩ := h
  exact q.nx _ _ _ _ _ _ h Ext.refl o
theorem qs_break : QS X W (.Break pos) sBreak := ps_imp ps_break fun D σ H h => by
  obtain ⟨α, G, ρ, S, DD, o, h, q⟩ := h
  exact q.bk _ _ _ _ _ _ h Ext.refl o
theorem qs_cont : QS X W (.Continue pos) sCont := ps_imp ps_continue fun D σ H h => by
  obtain ⟨α, G, ρ, S, DD, o, h, q⟩ := h
  exact q.ct _ _ _ _ _ _ h Ext.refl o
abbrev sDrop (we : TD) : TSD := fun D ρ S => we ρ S (fun _ S1 => D.nx ρ S1) D.ex
theorem qs_expr (he : QE X W e we) (hs : swapsWith e none pos.line X.env = pure false := by rfl) : QS X W (.Expr e pos) (sDrop we) := ps_imp (ps_expr he hs) fun D σ H h => by
  obtain ⟨α, G, ρ, S, DD, o, h, q⟩ := h
  exact ⟨α, G, ρ, S, _, _, o, h, fun c S' α' G' H' v h' e' o' r' => q.nx _ _ _ _ _ _ h' e' o', q.ex⟩
abbrev sRet (we : TD) : TSD := fun D ρ S => we ρ S (fun c S1 => D.rt c S1) D.ex
theorem qs_ret (he : QE X W e we) : QS X W (.Return (some e) pos) (sRet we) := ps_imp (ps_ret he) fun D σ H h => by
  obtain ⟨α, G, ρ, S, DD, o, h, q⟩ := h
  exact ⟨α, G, ρ, S, _, _, o, h, fun c S' α' G' H' v h' e' o' r' => q.rt _ _ _ _ _ _ _ _ h' e' o' r', q.ex⟩
abbrev sRetN : TSD := fun D ρ S => D.rt (.d .non) S
theorem qs_retN : QS X W (.Return none pos) sRetN := ps_imp ps_retN fun D σ H h => by
  obtain ⟨α, G, ρ, S, DD, o, h, q⟩ := h
  exact q.rt _ _ _ _ _ _ _ _ h Ext.refl o rep_non
abbrev sIf (c : TTD) (t u : TSD) : TSD := fun D ρ S => c ρ S (fun b S1 => if b = true then t D ρ S1 else u D ρ S1) D.ex
theorem qs_if {c : Expr} {a b : List Stmt} {tc : TTD} (hc : QT X W c tc) (ha : QSs X W a t) (hb : QSs X W b u) : QS X W (.If c a b pos) (sIf tc t u) := ps_imp (ps_if hc ha hb) fun D σ H h => by
  obtain ⟨α, G, ρ, S, DD, o, h, q⟩ := h
  refine ⟨α, G, ρ, S, _, _, o, h, fun b S' α' G' H' h' e' o' => ?_, q.ex⟩
  cases b with
  | true => rw [if_pos rfl] at h' ⊢; exact ⟨α', G', ρ, S', DD, o', h', q.ext e'⟩
  | false => rw [if_neg Bool.false_ne_true] at h' ⊢; exact ⟨α', G', ρ, S', DD, o', h', q.ext e'⟩
/-- a cell held by the i-th name is frozen ahead of a statement: all its holders then hold the data -/
def subC (j : Nat) (d : D) : C → C
  | .c i => if i = j then .d d else .c i
  | c => c
def subO (j : Nat) (d : D) : Own → Own
  | .lst xs => .lst (xs.map (subC j d))
  | .dK kvs => .dK (kvs.map fun p => (p.1, subC j d p.2))
  | .dT kvs => .dT (kvs.map fun p => (p.1, subC j d p.2))
  | .ins cl fs => .ins cl (fs.map fun p => (p.1, subC j d p.2))
def subE (j : Nat) (d : D) (ρ : Env) : Env := ρ.map fun o => o.map (subC j d)
def subS (j : Nat) (d : D) (S : Sto) : Sto := (S.set j none).map fun o => o.map (subO j d)
/-- what a cell freezes to -/
def frzO : Own → Option D
  | .lst xs => (unD xs).map D.lst
  | .dK kvs => (unD (kvs.map (·.2))).map (D.dK (kvs.map (·.1)))
  | .dT kvs => (unD (kvs.map (·.2))).map (D.dT (kvs.map (·.1)))
  | .ins _ _ => none
def sFrz (i : Nat) (t : TSD) : TSD := fun D ρ S => ∃ j o d, ρ[i]? = some (some (.c j)) ∧ S.own j = some o ∧ frzO o = some d ∧ t D (subE j d ρ) (subS j d S)
section
variable {K : PySem.W.Frag} {α : List Addr} {G G' H : Hp} {j : Nat} {a : Addr} {d : D}
theorem subC_rep (hj : α[j]? = some a) (hG : Same G G') (hd : Rep K G' d (.ref a)) : ∀ {c : C} {v : V}, RepC K α G c v → RepC K α G' (subC j d c) v
  | .d x, v, r => Rep.mono hG x v r
  | .c i, v, ⟨b, e, q⟩ => by
    simp only [subC]
    by_cases hi : i = j
    · rw [if_pos hi]; subst hi; rw [hj] at e; cases e; subst q; exact hd
    · rw [if_neg hi]; exact ⟨b, e, q⟩
theorem map_pair {A A' B : Type} {F : A → B → Prop} {F' : A' → B → Prop} {f : A → A'} (hf : ∀ x y, F x y → F' (f x) y) : ∀ {xs : List A} {ys : List B}, Paired F xs ys → Paired F' (xs.map f) ys
  | _, _, .nil => .nil
  | _, _, .cons r t => .cons (hf _ _ r) (map_pair hf t)
theorem unD_pairs {κ : Type} {kvs : List (κ × C)} {ds : List D} (h : unD (kvs.map (·.2)) = some ds) : kvs = (kvs.map (·.1)).zip (ds.map C.d) := by
  have := unD_some h
  rw [← this, List.zip_map', List.map_id'' (fun _ => rfl)]
theorem frz_pairs {κ : Type} : ∀ {kvs : List (κ × C)} {vs : List (κ × V)} {ds : List D}, unD (kvs.map (·.2)) = some ds → Paired (fun (p : κ × C) (q : κ × V) => p.1 = q.1 ∧ RepC K α G p.2 q.2) kvs vs →
    (kvs.map (·.1)).length = (vs.map (·.2)).length ∧ vs = (kvs.map (·.1)).zip (vs.map (·.2)) ∧ Paired (Rep K G) ds (vs.map (·.2))
  | [], _, ds, h, .nil => by simp [unD] at h; subst h; exact ⟨rfl, rfl, .nil⟩
  | (k, .d x) :: r, (k', v) :: t, ds, h, .cons ⟨e, f⟩ rr => by
    simp only [List.map_cons, unD, Option.map_eq_some_iff] at h
    obtain ⟨ds', h1, h2⟩ := h
    subst h2
    obtain ⟨l, e1, p⟩ := frz_pairs h1 rr
    have e' : k = k' := e
    subst e'
    refine ⟨by simpa using l, ?_, .cons f p⟩
    simp only [List.map_cons, List.zip_cons_cons]
    rw [← e1]
  | (k, .c i) :: r, _, ds, h, _ => by simp [unD] at h
theorem frz_ok {ρ : Env} {S : Sto} {σ : St} {o : Own} (hok : Ok K α G ρ S σ H) (hj : S.own j = some o) (hd : frzO o = some d) : ∃ G', Ok K α G' (subE j d ρ) (subS j d S) σ H ∧ Ext α G H α G' H := by
  obtain ⟨a, e1, hg, r⟩ := hok.cellAt hj
  have hm := List.mem_of_getElem? e1
  -- the frozen object
  have key : ∃ u, H a = some u ∧ (∀ x, u ≠ .own x) ∧ Rep K (upd G a u) d (.ref a) := by
    have hs : ∀ u, Same G (upd G a u) := fun u b w e => by rw [upd_ne (ne_of_none e hg)]; exact e
    cases o with
    | lst xs =>
      obtain ⟨vs, h1, rs⟩ := r
      simp only [frzO, Option.map_eq_some_iff] at hd
      obtain ⟨ds, hd, e⟩ := hd
      subst e
      rw [unD_some hd] at rs
      refine ⟨_, h1, fun x => by simp, ?_⟩
      unfold Rep
      exact ⟨a, vs, rfl, upd_same, Reps.mono (hs _) _ _ (Reps.of (RepCs.ofData rs))⟩
    | dK kvs =>
      obtain ⟨vs, h1, rs⟩ := r
      simp only [frzO, Option.map_eq_some_iff] at hd
      obtain ⟨ds, hd, e⟩ := hd
      subst e
      obtain ⟨l, e2, p⟩ := frz_pairs hd rs
      refine ⟨_, h1, fun x => by simp, ?_⟩
      unfold Rep
      exact ⟨a, vs.map (·.2), rfl, by rw [upd_same, ← e2], l, Reps.mono (hs _) _ _ (Reps.of p)⟩
    | dT kvs =>
      obtain ⟨vs, h1, rs⟩ := r
      simp only [frzO, Option.map_eq_some_iff] at hd
      obtain ⟨ds, hd, e⟩ := hd
      subst e
      obtain ⟨l, e2, p⟩ := frz_pairs hd rs
      refine ⟨_, h1, fun x => by simp, ?_⟩
      unfold Rep
      exact ⟨a, vs.map (·.2), rfl, by rw [upd_same, ← e2], l, Reps.mono (hs _) _ _ (Reps.of p)⟩
    | ins cl fs => cases hd
  obtain ⟨u, hu, hnown, hr⟩ := key
  have hs : Same G (upd G a u) := fun b w e => by rw [upd_ne (ne_of_none e hg)]; exact e
  refine ⟨upd G a u, ⟨⟨fun b w e => ?_, hok.st.nd, ?_, hok.st.dom, fun i w e => ?_⟩, ?_, fun i c e => ?_⟩, ⟨List.prefix_rfl, hs, fun b h1 h2 h3 => ?_⟩⟩
  · by_cases hb : b = a
    · subst hb; rw [upd_same] at e; cases e; exact hu
    · rw [upd_ne hb] at e; exact hok.st.same b w e
  · rw [hok.st.len]; unfold subS; simp
  · unfold subS at e
    rw [List.getElem?_map, Option.map_eq_some_iff] at e
    obtain ⟨o1, e, e2⟩ := e
    obtain ⟨w1, rfl, e3⟩ := Option.map_eq_some_iff.mp e2
    have hij : j ≠ i := fun q => by
      subst q
      by_cases hl : j < S.length
      · rw [List.getElem?_set_self hl] at e; cases e
      · rw [List.getElem?_eq_none_iff.mpr (by simpa using hl)] at e; cases e
    rw [List.getElem?_set_ne hij] at e
    obtain ⟨b, f1, f2, f3⟩ := hok.st.cell i w1 e
    have hne : b ≠ a := by
      intro q; subst q
      have h3 := (List.getElem?_eq_some_iff.mp f1).2.trans (List.getElem?_eq_some_iff.mp e1).2.symm
      exact hij ((List.getElem_inj hok.st.nd).mp h3).symm
    refine ⟨b, f1, by rw [upd_ne hne]; exact f2, ?_⟩
    subst e3
    have sc : ∀ {c : C} {v : V}, RepC K α G c v → RepC K α (upd G a u) (subC j d c) v := subC_rep e1 hs hr
    cases w1 with
    | lst xs => obtain ⟨vs, g1, g2⟩ := f3; exact ⟨vs, g1, map_pair (f := subC j d) (fun _ _ x => sc x) g2⟩
    | dK kvs => obtain ⟨vs, g1, g2⟩ := f3; exact ⟨vs, g1, map_pair (fun _ _ x => ⟨x.1, sc x.2⟩) g2⟩
    | dT kvs => obtain ⟨vs, g1, g2⟩ := f3; exact ⟨vs, g1, map_pair (fun _ _ x => ⟨x.1, sc x.2⟩) g2⟩
    | ins cl fs =>
      obtain ⟨dx, vs, g1, g2, g3, g4, g5⟩ := f3
      exact ⟨dx, vs, g1, g2, by rw [upd_ne (show dx ≠ a from fun q => g4 (by rw [q]; exact hm))]; exact g3, g4, map_pair (fun _ _ x => ⟨x.1, sc x.2⟩) g5⟩
  · unfold subE; rw [List.length_map]; exact hok.rlen
  · unfold subE at e
    rw [List.getElem?_map, Option.map_eq_some_iff] at e
    obtain ⟨o1, e, e2⟩ := e
    obtain ⟨c1, rfl, e3⟩ := Option.map_eq_some_iff.mp e2
    obtain ⟨v, h1, h2⟩ := hok.env i c1 e
    subst e3
    exact ⟨v, h1, subC_rep e1 hs hr h2⟩
  · have hne : b ≠ a := fun q => h3 (q ▸ hm)
    exact ⟨rfl, by rw [upd_ne hne]; exact h2, h3⟩
end
theorem qs_frz (i : Nat) (h : QS X W st t) : QS X W st (sFrz i t) := ps_imp h fun D σ H h => by
  obtain ⟨α, G, ρ, S, DD, o, h, q⟩ := h
  obtain ⟨j, w, d, h1, h2, h3, h4⟩ := h
  obtain ⟨G', o', e'⟩ := frz_ok o h2 h3
  exact ⟨α, G', _, _, DD, o', h4, q.ext e'⟩
end

/-! ### targets -/
abbrev TGD := C → Env → Sto → (Env → Sto → Prop) → KX → Prop
abbrev TGDs := List C → Env → Sto → (Env → Sto → Prop) → KX → Prop
def liftG (K : PySem.W.Frag) (W : WXT) (is : List Nat) (w : TGD) : TG := fun v σ H Q => ∃ α G ρ S c k kx, Ok K α G ρ S σ H ∧ RepC K α G c v ∧ w c ρ S k kx ∧
  (∀ ρ' S' α' G' σ' H', k ρ' S' → Ext α G H α' G' H' → Ok K α' G' ρ' S' σ' H' → (∀ vs : List Nat, (∀ i ∈ is, i ∈ vs) → wipe σ' vs = wipe σ vs) → Q σ' H') ∧ XKont K W α G H kx
def liftGs (K : PySem.W.Frag) (W : WXT) (is : List Nat) (w : TGDs) : TGs := fun v σ H Q => ∃ α G ρ S c k kx, Ok K α G ρ S σ H ∧ RepCs K α G c v ∧ w c ρ S k kx ∧
  (∀ ρ' S' α' G' σ' H', k ρ' S' → Ext α G H α' G' H' → Ok K α' G' ρ' S' σ' H' → (∀ vs : List Nat, (∀ i ∈ is, i ∈ vs) → wipe σ' vs = wipe σ vs) → Q σ' H') ∧ XKont K W α G H kx
abbrev QG (X : Cx) (W : WXT) (is : List Nat) (tg : Expr) (w : TGD) : Prop := PG X tg (liftG X.K W is w)
abbrev QGs (X : Cx) (W : WXT) (is : List Nat) (tg : List Expr) (w : TGDs) : Prop := PGs X tg (liftGs X.K W is w)
theorem pg_imp {X : Cx} {e : Expr} {t t' : TG} (h : PG X e t) (i : ∀ v σ H Q, t' v σ H Q → t v σ H Q) : PG X e t' := ⟨fun pins s σ H v u Q I r q => h.run pins s σ H v u Q I r (i v σ H Q q)⟩
theorem pgs_imp {X : Cx} {e : List Expr} {t t' : TGs} (h : PGs X e t) (i : ∀ v σ H Q, t' v σ H Q → t v σ H Q) : PGs X e t' := ⟨fun pins s σ H v u Q I r q => h.run pins s σ H v u Q I r (i v σ H Q q)⟩
theorem wipe_get (σ : St) (j : Nat) : ∀ vs : List Nat, (wipe σ vs)[j]? = if j ∈ vs ∧ j < σ.length then some none else σ[j]?
  | [] => by simp [wipe]
  | v :: vs => by
    unfold wipe
    by_cases h : j = v
    · subst h
      by_cases hl : j < σ.length
      · rw [List.getElem?_set_self (by rw [wipe_length]; exact hl), if_pos ⟨List.mem_cons_self, hl⟩]
      · rw [if_neg (fun q => hl q.2), List.getElem?_eq_none_iff.mpr (by simp [wipe_length]; omega), List.getElem?_eq_none_iff.mpr (by omega)]
    · rw [List.getElem?_set_ne (Ne.symm h), wipe_get σ j vs]
      simp [h]
theorem wipe_set {σ : St} {i : Nat} {x : Option V} {vs : List Nat} (h : i ∈ vs) : wipe (σ.set i x) vs = wipe σ vs := by
  apply List.ext_getElem?
  intro j
  rw [wipe_get, wipe_get, List.length_set]
  by_cases hj : j ∈ vs ∧ j < σ.length
  · rw [if_pos hj, if_pos hj]
  · rw [if_neg hj, if_neg hj]
    by_cases hij : i = j
    · subst hij
      have hl : ¬ i < σ.length := fun q => hj ⟨h, q⟩
      rw [List.getElem?_eq_none_iff.mpr (by simp; omega), List.getElem?_eq_none_iff.mpr (by omega)]
    · rw [List.getElem?_set_ne hij]
def wipeE (ρ : Env) : List Nat → Env
  | [] => ρ
  | v :: vs => (wipeE ρ vs).set v none
theorem wipeE_len (ρ : Env) : ∀ vs : List Nat, (wipeE ρ vs).length = ρ.length
  | [] => rfl
  | v :: vs => by unfold wipeE; rw [List.length_set, wipeE_len ρ vs]
theorem wipeE_some {ρ : Env} {i : Nat} {x : C} : ∀ {vs : List Nat}, (wipeE ρ vs)[i]? = some (some x) → ρ[i]? = some (some x) ∧ i ∉ vs
  | [], h => ⟨h, by simp⟩
  | v :: vs, h => by
    unfold wipeE at h
    by_cases e : v = i
    · subst e
      by_cases hl : v < (wipeE ρ vs).length
      · rw [List.getElem?_set_self hl] at h; cases h
      · rw [List.getElem?_eq_none_iff.mpr (by simpa using hl)] at h; cases h
    · rw [List.getElem?_set_ne e] at h
      obtain ⟨h1, h2⟩ := wipeE_some h
      exact ⟨h1, by simp [h2, Ne.symm e]⟩
theorem Ok.wipe {K : PySem.W.Frag} {α : List Addr} {G H : Hp} {ρ : Env} {S : Sto} {σ : St} (o : Ok K α G ρ S σ H) (vs : List Nat) : Ok K α G (wipeE ρ vs) S (wipe σ vs) H :=
  ⟨o.st, by rw [wipeE_len, wipe_length]; exact o.rlen, fun i c e => by
    obtain ⟨h1, h2⟩ := wipeE_some e
    obtain ⟨v, h3, h4⟩ := o.env i c h1
    exact ⟨v, by rw [wipe_get, if_neg (fun q => h2 q.1)]; exact h3, h4⟩⟩
theorem Ok.set {K : PySem.W.Frag} {α : List Addr} {G H : Hp} {ρ : Env} {S : Sto} {σ : St} {c : C} {v : V} (o : Ok K α G ρ S σ H) (i : Nat) (r : RepC K α G c v) : Ok K α G (ρ.set i (some c)) S (σ.set i (some v)) H :=
  ⟨o.st, by simp [o.rlen], fun j c' e => by
    by_cases hij : i = j
    · subst hij
      by_cases hl : i < ρ.length
      · rw [List.getElem?_set_self hl] at e
        cases e
        exact ⟨v, List.getElem?_set_self (by rw [← o.rlen]; exact hl), r⟩
      · rw [List.getElem?_eq_none_iff.mpr (by simpa using hl)] at e; cases e
    · rw [List.getElem?_set_ne hij] at e
      obtain ⟨w, h1, h2⟩ := o.env j c' e
      exact ⟨w, by rw [List.getElem?_set_ne hij]; exact h1, h2⟩⟩
section
variable {X : Cx} {W : WXT} {pos : Pos} {e : Expr} {we wo wi : TD}
abbrev gN (i : Nat) : TGD := fun c ρ S k _ => k (ρ.set i (some c)) S
theorem qg_name {i : Nat} {x : Str} (hN : X.N.Nodup) (hi : X.N[i]? = some x) (hx : Loc X.env.scope x) (hf : X.fn x = true ∨ X.env.scope.names.lookup x = some .local := by first | exact .inl rfl | exact .inr rfl | assumption) : QG X W [i] (.Name x pos) (gN i) :=
  pg_imp (pg_name hN hi hx hf) fun v σ H Q h => by
    obtain ⟨α, G, ρ, S, c, k, kx, o, r, h, q, _⟩ := h
    exact q _ _ _ _ _ _ h Ext.refl (o.set i r) fun vs hv => wipe_set (hv i (by simp))
abbrev gsNil : TGDs := fun cs ρ S k _ => cs = [] ∧ k ρ S
abbrev gsCons (t : TGD) (u : TGDs) : TGDs := fun cs ρ S k kx => ∃ c r, cs = c :: r ∧ t c ρ S (fun ρ' S' => u r ρ' S' k kx) kx
theorem qgs_nil : QGs X W [] [] gsNil := pgs_imp pgs_nil fun v σ H Q h => by
  obtain ⟨α, G, ρ, S, c, k, kx, o, r, h, q, _⟩ := h
  obtain ⟨rfl, h⟩ := h
  cases r
  exact ⟨rfl, q _ _ _ _ _ _ h Ext.refl o fun _ _ => rfl⟩
theorem qgs_cons {es : List Expr} {is js : List Nat} {t : TGD} {u : TGDs} (h1 : QG X W is e t) (h2 : QGs X W js es u)
    (hs : (assignEach (e :: es) X.env).map (·.2) = assign e X.env :: (assignEach es X.env).map (·.2) := by rfl) : QGs X W (is ++ js) (e :: es) (gsCons t u) := pgs_imp (pgs_cons h1 h2 hs) fun v σ H Q h => by
  obtain ⟨α, G, ρ, S, cs, k, kx, o, r, h, q, qx⟩ := h
  obtain ⟨c, r', rfl, h⟩ := h
  cases r with
  | cons r1 rr =>
    refine ⟨_, _, rfl, α, G, ρ, S, c, _, kx, o, r1, h, fun ρ' S' α' G' σ' H' h' e' o' w' => ?_, qx⟩
    refine ⟨α', G', ρ', S', r', k, kx, o', RepCs.mono e'.pre e'.same rr, h', fun ρ2 S2 α2 G2 σ2 H2 h2 e2 o2 w2 => ?_, qx.ext e'⟩
    exact q _ _ _ _ _ _ h2 (e'.trans e2) o2 fun vs hv => (w2 vs fun i hi => hv i (by simp [hi])).trans (w' vs fun i hi => hv i (by simp [hi]))
def gT (n : Nat) (t : TGDs) : TGD := fun c ρ S k kx => match c with
  | .d (.tup ds) => ds.length = n ∧ t (ds.map C.d) ρ S k kx
  | _ => False
theorem qg_tup {es : List Expr} {k : Nat} {is : List Nat} {t : TGDs} {n : Nat} (hc : X.calm = true) (h : QGs X W is es t)
    (hn : (assignEach es X.env).length = n := by rfl) (hst : (assignEach es X.env).findIdx? (·.1) = none := by rfl) : QG X W is (.Tuple es k pos) (gT n t) := pg_imp (pg_tup hc h hn hst) fun v σ H Q h => by
  obtain ⟨α, G, ρ, S, c, k, kx, o, r, h, q, qx⟩ := h
  unfold gT at h
  split at h
  · rename_i ds
    obtain ⟨hl, h⟩ := h
    obtain ⟨a, vs, e, g, hh, p⟩ := tup_rep o r
    exact ⟨a, vs, e, SqT.of hh, by rw [← Paired.length p]; exact hl, α, G, ρ, S, _, k, kx, o, RepCs.data p, h, q, qx⟩
  · exact h.elim
/-- target = value -/
abbrev sAsg (we : TD) (g : TGD) : TSD := fun D ρ S => we ρ S (fun c S1 => g c ρ S1 D.nx D.ex) D.ex
theorem asg_lift {K : PySem.W.Frag} {is : List Nat} {g : TGD} {D : Ends} {σ : St} {H : Hp} (h : liftS K W (sAsg we g) D σ H) : tAsg (lift K W we) (liftG K W is g) D σ H := by
  obtain ⟨α, G, ρ, S, DD, o, h, q⟩ := h
  refine ⟨α, G, ρ, S, _, _, o, h, fun c S' α' G' H' v h' e' o' r' => ?_, q.ex⟩
  exact ⟨α', G', ρ, S', c, _, _, o', r', h', fun ρ2 S2 α2 G2 σ2 H2 h2 e2 o2 _ => q.nx _ _ _ _ _ _ h2 (e'.trans e2) o2, q.ex.ext e'⟩
theorem qs_asg {tg : Expr} {is : List Nat} {g : TGD} (he : QE X W e we) (hg : QG X W is tg g) (hs : swapsWithSole [tg] e pos.line X.env = pure false := by rfl) (hw : swappedStores [tg] e X.env = pure none := by rfl)
    (h1 : (assignEach [tg] X.env).map (·.2) = [assign tg X.env] := by rfl) : QS X W (.Assign [tg] e pos) (sAsg we g) := ps_imp (ps_asg he hg hs hw h1) fun D σ H h => asg_lift h
theorem gN_lift {K : PySem.W.Frag} {i : Nat} {D : Ends} {σ : St} {H : Hp} (h : liftS K W (sAsg we (gN i)) D σ H) : tAsg (lift K W we) (gName i) D σ H := by
  obtain ⟨α, G, ρ, S, DD, o, h, q⟩ := h
  exact ⟨α, G, ρ, S, _, _, o, h, fun c S' α' G' H' v h' e' o' r' => q.nx _ _ _ _ _ _ h' e' (o'.set i r'), q.ex⟩
theorem qs_set {i : Nat} {x : Str} {pos' : Pos} (hN : X.N.Nodup) (hi : X.N[i]? = some x) (hx : Loc X.env.scope x) (he : QE X W e we) (hs : swapsWith e (some (.Name x pos')) pos.line X.env = pure false := by rfl) (hf : X.fn x = true ∨ X.env.scope.names.lookup x = some .local := by first | exact .inl rfl | exact .inr rfl | assumption) :
    QS X W (.Assign [.Name x pos'] e pos) (sAsg we (gN i)) := ps_imp (ps_set hN hi hx he hs hf) fun D σ H h => gN_lift h
/-- xs[i] = e, xs a cell -/
abbrev sSetL (we wo wi : TD) : TSD := fun D ρ S => we ρ S (fun c S1 => wo ρ S1 (fun x S2 => wi ρ S2 (fun y S3 => match x, y with
  | .c j, .d (.int i) => ∃ xs n, S3.own j = some (.lst xs) ∧ ixN xs.length i = some n ∧ D.nx ρ (S3.set j (some (.lst (xs.set n c))))
  | _, _ => False) D.ex) D.ex) D.ex
theorem qs_setL {o i : Expr} {pos' : Pos} (he : QE X W e we) (ho : QE X W o wo) (hi : QE X W i wi) (hs : swapsWithSole [.Subscript o i pos'] e pos.line X.env = pure false := by rfl) (hw : swappedStores [.Subscript o i pos'] e X.env = pure none := by rfl)
    (h1 : (assignEach [.Subscript o i pos'] X.env).map (·.2) = [assign (.Subscript o i pos') X.env] := by rfl)
    (ha : ∀ v, assign (.Subscript o i pos') X.env v = (do
      let ov ← holding [v] (eval o X.env)
      let iv ← holding [v, ov] (eval i X.env)
      standAt pos'
      holding [v, ov, iv] (setItem ov iv v)
      release [v, ov, iv] []) := by intro _; rfl) : QS X W (.Assign [.Subscript o i pos'] e pos) (sSetL we wo wi) := ps_imp (ps_asg he (pg_sub ho hi set_list ha) hs hw h1) fun D σ H h => by
  obtain ⟨α, G, ρ, S, DD, o, h, q⟩ := h
  refine ⟨α, G, ρ, S, _, _, o, h, fun c S1 α1 G1 H1 v h1 e1 o1 r1 => ?_, q.ex⟩
  refine ⟨α1, G1, ρ, S1, _, _, o1, h1, fun x S2 α2 G2 H2 vx h2 e2 o2 r2 => ?_, q.ex.ext e1⟩
  refine ⟨α2, G2, ρ, S2, _, _, o2, h2, fun y S3 α3 G3 H3 vy h3 e3 o3 r3 => ?_, (q.ex.ext e1).ext e2⟩
  split at h3
  · rename_i j i
    obtain ⟨xs, n, hj, hn, h3⟩ := h3
    obtain ⟨a, f1, f2, vs, f3, rs⟩ := o3.cellAt hj
    obtain ⟨b, g1, g2⟩ := r2.mono e3.pre e3.same
    rw [f1] at g1; cases g1
    refine ⟨a, vs, i, n, g2, of_int r3, f3, by rw [← Paired.length rs]; exact hn, ?_⟩
    have r' := (r1.mono e2.pre e2.same).mono e3.pre e3.same
    obtain ⟨o4, e4⟩ := o3.st.write (u := .lst (vs.set n v)) (w' := .lst (xs.set n c)) (own_of hj) f1 (fun x => by simp) (fun x => by rw [f3]; simp) ⟨_, upd_same, paired_set r' n rs⟩
    exact q.nx _ _ _ _ _ _ h3 (((e1.trans e2).trans e3).trans e4) (o3.reenv o4 e4)
  · exact h3.elim
/-- d[k] = e, d a cell -/
def dPut (c x y : C) (S : Sto) (k : Sto → Prop) : Prop := match x, y with
  | .c j, .d y => (∃ kvs kk, S.own j = some (.dK kvs) ∧ keyD y = some kk ∧ kvs.length < sizeLine ∧ k (S.set j (some (.dK (putG kvs kk c))))) ∨
      ∃ kvs ys kk, S.own j = some (.dT kvs) ∧ y = .tup ys ∧ keysD ys = some kk ∧ kvs.length < sizeLine ∧ k (S.set j (some (.dT (putG kvs kk c))))
  | _, _ => False
abbrev sSetD (we wo wi : TD) : TSD := fun D ρ S => we ρ S (fun c S1 => wo ρ S1 (fun x S2 => wi ρ S2 (fun y S3 => dPut c x y S3 (D.nx ρ)) D.ex) D.ex) D.ex
theorem qs_setD {o i : Expr} {pos' : Pos} (hu : X.A.units + 1 < cLine) (he : QE X W e we) (ho : QE X W o wo) (hi : QE X W i wi) (hs : swapsWith e (some (.Subscript o i pos')) pos.line X.env = pure false := by rfl) :
    QS X W (.Assign [.Subscript o i pos'] e pos) (sSetD we wo wi) := ps_imp (ps_dput hu ho hi he hs) fun D σ H h => by
  obtain ⟨α, G, ρ, S, DD, o, h, q⟩ := h
  refine ⟨α, G, ρ, S, _, _, o, h, fun c S1 α1 G1 H1 v h1 e1 o1 r1 => ?_, q.ex⟩
  refine ⟨α1, G1, ρ, S1, _, _, o1, h1, fun x S2 α2 G2 H2 vx h2 e2 o2 r2 => ?_, q.ex.ext e1⟩
  refine ⟨α2, G2, ρ, S2, _, _, o2, h2, fun y S3 α3 G3 H3 vy h3 e3 o3 r3 => ?_, (q.ex.ext e1).ext e2⟩
  have r' := (r1.mono e2.pre e2.same).mono e3.pre e3.same
  unfold dPut at h3
  split at h3
  · rename_i j y
    rcases h3 with ⟨kvs, kk, hj, hk, hl, h3⟩ | ⟨kvs, ys, kk, hj, hy, hk, hl, h3⟩
    · obtain ⟨a, f1, f2, vs, f3, rs⟩ := o3.cellAt hj
      obtain ⟨b, g1, g2⟩ := r2.mono e3.pre e3.same
      rw [f1] at g1; cases g1
      refine ⟨a, upd H3 a (.dK (putK vs kk v)), g2, by rw [keyD_rep r3 hk]; exact DPut.k f3 (by rw [← Paired.length rs]; exact hl), ?_⟩
      obtain ⟨o4, e4⟩ := o3.st.write (u := .dK (putK vs kk v)) (w' := .dK (putG kvs kk c)) (own_of hj) f1 (fun x => by simp) (fun x => by rw [f3]; simp) ⟨_, upd_same, put_pair rs kk r'⟩
      exact q.nx _ _ _ _ _ _ h3 (((e1.trans e2).trans e3).trans e4) (o3.reenv o4 e4)
    · subst hy
      obtain ⟨a, f1, f2, vs, f3, rs⟩ := o3.cellAt hj
      obtain ⟨b, g1, g2⟩ := r2.mono e3.pre e3.same
      rw [f1] at g1; cases g1
      obtain ⟨tb, ws, t1, t2, t3, tp⟩ := tup_rep o3 r3
      refine ⟨a, upd H3 a (.dT (putK vs kk v)), g2, by rw [t1]; exact DPut.t f3 (by rw [← keysD_rep tp hk]; exact t3) (by rw [← Paired.length rs]; exact hl), ?_⟩
      obtain ⟨o4, e4⟩ := o3.st.write (u := .dT (putK vs kk v)) (w' := .dT (putG kvs kk c)) (own_of hj) f1 (fun x => by simp) (fun x => by rw [f3]; simp) ⟨_, upd_same, put_pair rs kk r'⟩
      exact q.nx _ _ _ _ _ _ h3 (((e1.trans e2).trans e3).trans e4) (o3.reenv o4 e4)
  · exact h3.elim
end

/-! ### while -/
section
variable {X : Cx} {W : WXT} {pos : Pos}
def sWhile (c : TTD) (b : TSD) : TSD := fun D ρ S => ∃ P : Nat → Env → Sto → Prop, (∃ m, P m ρ S) ∧ ∀ m ρ S, P m ρ S →
  c ρ S (fun r S1 => if r = true then b { D with nx := fun ρ' S' => ∃ m', m' < m ∧ P m' ρ' S', ct := fun ρ' S' => ∃ m', m' < m ∧ P m' ρ' S', bk := D.nx } ρ S1 else D.nx ρ S1) D.ex
theorem qs_while {c : Expr} {body : List Stmt} {tc : TTD} {tb : TSD} (hp : PassesOwn (model X.prog X.w) X.A X.env X.xe) (hc : QT X W c tc) (hb : QSs X W body tb) : QS X W (.While c body [] pos) (sWhile tc tb) := ps_imp (ps_while hp hc hb) fun D σ H h => by
  obtain ⟨α, G, ρ, S, DD, o, ⟨P, ⟨m0, h0⟩, turn⟩, q⟩ := h
  refine ⟨fun m σ' H' => ∃ α' G' ρ' S', Ext α G H α' G' H' ∧ Ok X.K α' G' ρ' S' σ' H' ∧ P m ρ' S', ⟨m0, α, G, ρ, S, Ext.refl, o, h0⟩, ?_⟩
  rintro m σ' H' ⟨α', G', ρ', S', e', o', p'⟩
  refine ⟨α', G', ρ', S', _, _, o', turn m ρ' S' p', fun r S1 α1 G1 H1 h1 e1 o1 => ?_, q.ex.ext e'⟩
  cases r with
  | false => rw [if_neg Bool.false_ne_true] at h1 ⊢; exact q.nx _ _ _ _ _ _ h1 (e'.trans e1) o1
  | true =>
    rw [if_pos rfl] at h1 ⊢
    have eN := e'.trans e1
    refine ⟨fun σ2 H2 => ∃ m', m' < m ∧ ∃ α2 G2 ρ2 S2, Ext α G H α2 G2 H2 ∧ Ok X.K α2 G2 ρ2 S2 σ2 H2 ∧ P m' ρ2 S2, fun σ2 H2 ⟨m', hm, h2⟩ => ⟨m', hm, h2⟩, ?_⟩
    refine ⟨α1, G1, ρ', S1, _, o1, h1, ⟨?_, ?_, ?_, ?_, ?_⟩⟩
    · exact fun ρ2 S2 α2 G2 σ2 H2 ⟨m', hm, h2⟩ e2 o2 => ⟨m', hm, α2, G2, ρ2, S2, eN.trans e2, o2, h2⟩
    · exact (q.ext eN).rt
    · exact fun ρ2 S2 α2 G2 σ2 H2 h2 e2 o2 => q.nx _ _ _ _ _ _ h2 (eN.trans e2) o2
    · exact fun ρ2 S2 α2 G2 σ2 H2 ⟨m', hm, h2⟩ e2 o2 => ⟨m', hm, α2, G2, ρ2, S2, eN.trans e2, o2, h2⟩
    · exact q.ex.ext eN
end

/-! ### what is walked -/
structure ItV where
  ds : List D
  dep : Sto → Prop
abbrev TID := Env → Sto → (ItV → Sto → Prop) → KX → Prop
def ItOk (K : PySem.W.Frag) (J : It) (it : ItV) (α0 : List Addr) (G0 : Hp) : Prop := ∃ Gd Y, Walk J it.ds.length Gd Y ∧
  (∀ α G S H, α0 <+: α → Same G0 G → OkS K α G S H → it.dep S → Gd H) ∧
  ∀ i α G S H x H', i < it.ds.length → α0 <+: α → Same G0 G → OkS K α G S H → it.dep S → Y i H x H' → ∃ d, it.ds[i]? = some d ∧
    ((H' = H ∧ Rep K G d x) ∨ ∃ T u, H T = none ∧ H' = upd H T u ∧ Rep K (upd G T u) d x)
def liftI (K : PySem.W.Frag) (W : WXT) (w : TID) : TI := fun σ H R => ∃ α G ρ S k kx, Ok K α G ρ S σ H ∧ w ρ S k kx ∧
  (∀ it S' α' G' H' J, k it S' → Ext α G H α' G' H' → Ok K α' G' ρ S' σ H' → ItOk K J it α' G' → R J H') ∧ XKont K W α G H kx
abbrev QI (X : Cx) (W : WXT) (tg e : Expr) (w : TID) : Prop := PI X tg e (liftI X.K W w)
theorem pi_imp {X : Cx} {tg e : Expr} {t t' : TI} (h : PI X tg e t) (i : ∀ σ H Q, t' σ H Q → t σ H Q) : PI X tg e t' := ⟨fun pins s σ H R I q => h.run pins s σ H R I (i σ H R q)⟩
section
variable {K : PySem.W.Frag} {α α' : List Addr} {G G' H H' : Hp} {ρ : Env} {S : Sto} {σ : St}
theorem turn_ok {J : It} {it : ItV} {α0 : List Addr} {G0 : Hp} (o : Ok K α G ρ S σ H) {i : Nat} {d : D} {x : V} (h : (H' = H ∧ Rep K G d x) ∨ ∃ T u, H T = none ∧ H' = upd H T u ∧ Rep K (upd G T u) d x) :
    ∃ G', Ext α G H α G' H' ∧ Ok K α G' ρ S σ H' ∧ Rep K G' d x := by
  rcases h with ⟨rfl, r⟩ | ⟨T, u, hT, rfl, r⟩
  · exact ⟨G, Ext.refl, o, r⟩
  · obtain ⟨o', e⟩ := o.st.newF (u := u) hT
    exact ⟨_, e, o.reenv o' e, r⟩
end
def sFor (w : TID) (g : TGD) (b : TSD) : TSD := fun D ρ S => w ρ S (fun it S1 => ∃ P : Nat → Env → Sto → Prop, P 0 ρ S1 ∧ (∀ i ρ' S', i ≤ it.ds.length → P i ρ' S' → it.dep S') ∧
  (∀ i d ρ' S', it.ds[i]? = some d → P i ρ' S' → g (.d d) ρ' S' (fun ρ2 S2 => b { D with nx := P (i + 1), ct := P (i + 1), bk := D.nx } ρ2 S2) D.ex) ∧ (∀ ρ' S', P it.ds.length ρ' S' → D.nx ρ' S')) D.ex
theorem qs_for {X : Cx} {W : WXT} {tg iter : Expr} {body : List Stmt} {w : TID} {is : List Nat} {g : TGD} {tb : TSD} {pos : Pos} (hp : PassesOwn (model X.prog X.w) X.A X.env X.xe) (hc : X.calm = true) (hi : QI X W tg iter w) (hg : QG X W is tg g) (hb : QSs X W body tb)
    (hs : ∀ x, foldedSetIterable iter X.env x = pure x := by intro _; rfl) : QS X W (.For tg iter body [] pos) (sFor w g tb) := ps_imp (ps_for hp hc hi hg hb hs) fun D σ H h => by
  obtain ⟨α, G, ρ, S, DD, o, h, q⟩ := h
  refine ⟨α, G, ρ, S, _, _, o, h, fun it S1 α1 G1 H1 J h1 e1 o1 ok => ?_, q.ex⟩
  obtain ⟨P, h0, hdep, hstep, hdone⟩ := h1
  obtain ⟨Gd, Y, wk, hGd, hY⟩ := ok
  refine for_it wk (fun i σ' H' => ∃ α' G' ρ' S', Ext α1 G1 H1 α' G' H' ∧ Ok X.K α' G' ρ' S' σ' H' ∧ P i ρ' S') ⟨α1, G1, ρ, S1, Ext.refl, o1, h0⟩ ?_ ?_ ?_
  · rintro i σ' H' hi ⟨α', G', ρ', S', e', o', p'⟩
    exact hGd α' G' S' H' e'.pre e'.same o'.st (hdep i ρ' S' hi p')
  · rintro i x σ' H' H2 hi ⟨α', G', ρ', S', e', o', p'⟩ y
    obtain ⟨d, hd, hr⟩ := hY i α' G' S' H' x H2 hi e'.pre e'.same o'.st (hdep i ρ' S' (Nat.le_of_lt hi) p') y
    obtain ⟨G2, e2, o2, r2⟩ := turn_ok (J := J) (it := it) (α0 := α1) (G0 := G1) (i := i) o' hr
    have eA := (e1.trans e').trans e2
    refine ⟨α', G2, ρ', S', .d d, _, _, o2, r2, hstep i d ρ' S' hd p', fun ρ3 S3 α3 G3 σ3 H3 h3 e3 o3 _ => ?_, q.ex.ext eA⟩
    refine ⟨α3, G3, ρ3, S3, _, o3, h3, ⟨?_, ?_, ?_, ?_, ?_⟩⟩
    · exact fun ρ4 S4 α4 G4 σ4 H4 h4 e4 o4 => ⟨α4, G4, ρ4, S4, ((e'.trans e2).trans e3).trans e4, o4, h4⟩
    · exact (q.ext (eA.trans e3)).rt
    · exact fun ρ4 S4 α4 G4 σ4 H4 h4 e4 o4 => q.nx _ _ _ _ _ _ h4 ((eA.trans e3).trans e4) o4
    · exact fun ρ4 S4 α4 G4 σ4 H4 h4 e4 o4 => ⟨α4, G4, ρ4, S4, ((e'.trans e2).trans e3).trans e4, o4, h4⟩
    · exact q.ex.ext (eA.trans e3)
  · rintro σ' H' ⟨α', G', ρ', S', e', o', p'⟩
    exact q.nx _ _ _ _ _ _ (hdone ρ' S' p') (e1.trans e') o'
/-- over a list or a tuple -/
def iSeq (we : TD) : TID := fun ρ S k kx => we ρ S (fun c S1 => match c with
  | .d (.lst ds) => k ⟨ds, fun _ => True⟩ S1
  | .c j => ∃ ds, S1.own j = some (.lst (ds.map C.d)) ∧ k ⟨ds, fun S => S.own j = some (.lst (ds.map C.d))⟩ S1
  | .d (.scr ns) => k ⟨ns.map D.int, fun _ => True⟩ S1
  | _ => False) kx
def iSeqT (we : TD) : TID := fun ρ S k kx => we ρ S (fun c S1 => match c with
  | .d (.tup ds) => k ⟨ds, fun _ => True⟩ S1
  | _ => False) kx
def iRange (w : Env → Sto → (Int → Int → Sto → Prop) → KX → Prop) : TID := fun ρ S k kx => w ρ S (fun i j S1 => (-(2 ^ 62) ≤ i ∧ i < 2 ^ 62 ∧ -(2 ^ 62) ≤ j ∧ j < 2 ^ 62) ∧ k ⟨(rgD i j).map D.int, fun _ => True⟩ S1) kx
section
variable {X : Cx} {W : WXT} {tg e a b : Expr} {we wa wb : TD} {p pos : Pos}
theorem map_at {A B : Type} {f : A → B} {xs : List A} {i : Nat} {y : B} (h : (xs.map f)[i]? = some y) : ∃ x, xs[i]? = some x ∧ f x = y := by
  rw [List.getElem?_map, Option.map_eq_some_iff] at h; exact h
theorem paired_at' {A B : Type} {F : A → B → Prop} : ∀ {xs : List A} {ys : List B} {i : Nat} {y : B}, Paired F xs ys → ys[i]? = some y → ∃ x, xs[i]? = some x ∧ F x y
  | _, _, _, _, .nil, h => by simp at h
  | _, _, 0, _, .cons r t, h => by simp at h; subst h; exact ⟨_, rfl, r⟩
  | _, _, i + 1, _, .cons r t, h => by
    obtain ⟨y, h1, h2⟩ := paired_at' (i := i) t (by simpa using h)
    exact ⟨y, by simpa using h1, h2⟩
theorem itok_list {K : PySem.W.Frag} {α : List Addr} {G : Hp} {a : Addr} {ds : List D} {vs : List V} (h : SqL K G a vs) (p : Paired (Rep K G) ds vs) : ItOk K (Itl K a) ⟨ds, fun _ => True⟩ α G := by
  refine ⟨_, _, by have := walk_list (K := K) (a := a) (xs := vs); rw [← Paired.length p] at this; exact this, fun α' G' S H _ hs o _ => Same.seq (hs.trans o.same) h, fun i α' G' S H x H' hi _ hs o _ y => ?_⟩
  obtain ⟨rfl, y⟩ := y
  obtain ⟨d, h1, h2⟩ := paired_at' p y
  exact ⟨d, h1, .inl ⟨rfl, Rep.mono hs _ _ h2⟩⟩
theorem qi_seq (he : QE X W e we) : QI X W tg e (iSeq we) := pi_imp (pi_list he) fun σ H R h => by
  obtain ⟨α, G, ρ, S, k, kx, o, h, q, qx⟩ := h
  refine ⟨α, G, ρ, S, _, kx, o, h, fun c S1 α1 G1 H1 v h1 e1 o1 r1 => ?_, qx⟩
  split at h1
  · rename_i ds
    simp only [RepC] at r1
    unfold Rep at r1
    obtain ⟨a, vs, e, g, rs⟩ := r1
    exact ⟨a, e, ⟨vs, SqL.of (o1.st.same _ _ g)⟩, q _ _ _ _ _ _ h1 e1 o1 (itok_list (SqL.of g) rs.pair)⟩
  · rename_i j
    obtain ⟨ds, hj, h1⟩ := h1
    obtain ⟨a, f1, f2, vs, f3, rs⟩ := o1.cellAt hj
    obtain ⟨b, g1, g2⟩ := r1
    rw [f1] at g1; cases g1
    refine ⟨a, g2, ⟨vs, SqL.of f3⟩, q _ _ _ _ _ _ h1 e1 o1 ?_⟩
    have key : ∀ α' G' S H, α1 <+: α' → OkS X.K α' G' S H → S.own j = some (.lst (ds.map C.d)) → ∃ vs, H a = some (.lst vs) ∧ Paired (Rep X.K G') ds vs := fun α' G' S H hα o hj => by
      obtain ⟨a', f1', f2', vs, f3', rs⟩ := o.cell j _ (own_of hj)
      obtain ⟨t, rfl⟩ := hα
      rw [List.getElem?_append_left (List.getElem?_eq_some_iff.mp f1).1, f1] at f1'
      cases f1'
      exact ⟨vs, f3', RepCs.ofData rs⟩
    refine ⟨fun H => ∃ vs, vs.length = ds.length ∧ H a = some (.lst vs), fun i H x H' => H' = H ∧ ∃ vs, H a = some (.lst vs) ∧ vs[i]? = some x, ⟨fun i H hi ⟨vs, hl, hv⟩ => ?_, fun H ⟨vs, hl, hv⟩ => ?_, fun i H x H' hi ⟨vs, hl, hv⟩ y => ?_⟩, fun α' G' S H hα _ o hj => ?_, fun i α' G' S H x H' hi hα _ o hj y => ?_⟩
    · exact ⟨vs, vs[i]'(by rw [hl]; exact hi), SqL.of hv, List.getElem?_eq_getElem _⟩
    · exact ⟨vs, SqL.of hv, by rw [hl]; exact Nat.le_refl _⟩
    · obtain ⟨e, y⟩ := y
      subst e
      exact ⟨rfl, vs, hv, y vs (SqL.of hv)⟩
    · obtain ⟨vs, h1, p⟩ := key α' G' S H hα o hj
      exact ⟨vs, (Paired.length p).symm, h1⟩
    · obtain ⟨rfl, vs', h1, y⟩ := y
      obtain ⟨vs, h2, p⟩ := key α' G' S _ hα o hj
      rw [h1] at h2; cases h2
      obtain ⟨d, h3, h4⟩ := paired_at' p y
      exact ⟨d, h3, .inl ⟨rfl, h4⟩⟩
  · rename_i ns
    simp only [RepC] at r1
    unfold Rep at r1
    obtain ⟨a, e, g⟩ := r1
    refine ⟨a, e, ⟨_, Same.seq o1.st.same g⟩, q _ _ _ _ _ _ h1 e1 o1 (itok_list g ?_)⟩
    exact RepCs.ofData (α := []) (by rw [← ints_map]; exact reps_ints rfl)
  · exact h1.elim
theorem qi_tup (he : QE X W e we) : QI X W tg e (iSeqT we) := pi_imp (pi_tup he) fun σ H R h => by
  obtain ⟨α, G, ρ, S, k, kx, o, h, q, qx⟩ := h
  refine ⟨α, G, ρ, S, _, kx, o, h, fun c S1 α1 G1 H1 v h1 e1 o1 r1 => ?_, qx⟩
  split at h1
  · rename_i ds
    obtain ⟨a, vs, e, g, hh, p⟩ := tup_rep o1 r1
    refine ⟨a, e, ⟨vs, SqT.of hh⟩, q _ _ _ _ _ _ h1 e1 o1 ?_⟩
    refine ⟨_, _, by have := walk_tup (K := X.K) (a := a) (xs := vs); rw [← Paired.length p] at this; exact this, fun α' G' S H _ hs o _ => SqT.of (o.same _ _ (hs _ _ g)), fun i α' G' S H x H' hi _ hs o _ y => ?_⟩
    obtain ⟨rfl, y⟩ := y
    obtain ⟨d, h1, h2⟩ := paired_at' p y
    exact ⟨d, h1, .inl ⟨rfl, Rep.mono hs _ _ h2⟩⟩
  · exact h1.elim
theorem rgD_len (i j : Int) : (rgD i j).length = (j - i).toNat := by simp [rgD]
theorem itok_range {K : PySem.W.Frag} {α : List Addr} {G : Hp} (i j : Int) : ItOk K (Itr i (j - i).toNat) ⟨(rgD i j).map D.int, fun _ => True⟩ α G := by
  refine ⟨fun _ => True, YFn fun n => .int (i + (n : Nat)), ?_, fun _ _ _ _ _ _ _ _ => True.intro, fun n α' G' S H x H' hi _ hs o _ y => ?_⟩
  · show Walk (Itr i (j - i).toNat) ((rgD i j).map D.int).length _ _
    rw [List.length_map, rgD_len]
    exact walk_range
  obtain ⟨rfl, rfl⟩ := y
  have hi' : n < (j - i).toNat := by simpa [rgD_len] using hi
  refine ⟨.int (i + (n : Nat)), ?_, .inl ⟨rfl, r_int⟩⟩
  simp [rgD, hi']
theorem qi_range1 (hg : Gl X "range") (hm : X.mg "range" = none) (ha : QE X W a wa) (hs : starEach [a] X.env = [(false, eval a X.env)] := by rfl) (hs' : starEach [a] X.env = (false, eval a X.env) :: starEach [] X.env := by rfl) : QI X W tg (.Call (.Name "range" p) [a] [] pos) (iRange (eRg1 wa)) :=
  pi_imp (pi_range1 hg hm (qa_cons ha qa_nil hs') hs) fun σ H R h => by
    obtain ⟨α, G, ρ, S, k, kx, o, h, q, qx⟩ := h
    let kk : C → Sto → Prop := fun c S1 => match c with
      | .d (.int n) => (-(2 ^ 62) ≤ (0 : Int) ∧ (0 : Int) < 2 ^ 62 ∧ -(2 ^ 62) ≤ n ∧ n < 2 ^ 62) ∧ k ⟨(rgD 0 n).map D.int, fun _ => True⟩ S1
      | _ => False
    have h' : wa ρ S kk kx := h
    refine ⟨α, G, ρ, S, fun cs S1 => match cs with
      | [c] => kk c S1
      | _ => False, kx, o, h', fun cs S1 α1 G1 H1 vs h1 e1 o1 r1 => ?_, qx⟩
    match cs, r1, h1 with
    | [c], r1, h1 =>
    have h2 : kk c S1 := h1
    obtain ⟨v, rfl, r⟩ := rep1 r1
    cases c with
    | c i => exact False.elim h2
    | d x =>
      cases x with
      | int n =>
        obtain ⟨⟨b1, b2, b3, b4⟩, h2⟩ := h2
        have := itok_range (K := X.K) (α := α1) (G := G1) 0 n
        rw [Int.sub_zero] at this
        exact ⟨n, by rw [of_int r], b3, b4, q _ _ _ _ _ _ h2 e1 o1 this⟩
      | _ => exact False.elim h2
end
end PL

/-! the pure layer, part 5: comprehensions, methods of lists, calls, defs -/
namespace PL
open PySem PySem.Spec L2
open PyProof.Rows hiding St

/-! ### an object beside the store -/
section
variable {K : PySem.W.Frag} {α α' : List Addr} {G G' H H' : Hp} {ρ : Env} {S S' : Sto} {σ : St} {D : Addr} {u : HO}
theorem OkS.side (o : OkS K α G S H) (hg : G D = none) (ha : D ∉ α) (hn : ∀ x, H D ≠ some (.own x)) : OkS K α G S (upd H D u) := by
  refine ⟨fun b w e => by rw [upd_ne (ne_of_none e hg)]; exact o.same b w e, o.nd, o.len, fun a hm => ?_, fun i w e => ?_⟩
  · rw [upd_ne (show a ≠ D from fun q => ha (q ▸ hm))]; exact o.dom a hm
  · obtain ⟨a, e1, e2, r⟩ := o.cell i w e
    have hne : a ≠ D := fun q => ha (q ▸ List.mem_of_getElem? e1)
    refine ⟨a, e1, e2, r.keep List.prefix_rfl (Same.refl _) (upd_ne hne) fun dx q1 q2 q3 => ⟨upd_ne fun q => ?_, q2, q3⟩⟩
    subst q
    exact hn _ q1
theorem Ext.side (e : Ext α G H α' G' H') (h0 : H D = none) : Ext α G H α' G' (upd H' D u) :=
  ⟨e.pre, e.same, fun a h1 h2 h3 => by
    have hne : a ≠ D := fun q => h1 (q ▸ h0)
    rw [upd_ne hne]
    exact e.keep a h1 h2 h3⟩
theorem OkS.adoptF (o : OkS K α G S H) (hg : G D = none) (ha : D ∉ α) (hd : H D = some u) (hn : ∀ x, u ≠ .own x) : OkS K α (upd G D u) S H ∧ Same G (upd G D u) := by
  have hs : Same G (upd G D u) := fun b w e => by rw [upd_ne (ne_of_none e hg)]; exact e
  refine ⟨⟨fun b w e => ?_, o.nd, o.len, o.dom, fun i w e => ?_⟩, hs⟩
  · by_cases hb : b = D
    · subst hb; rw [upd_same] at e; cases e; exact hd
    · rw [upd_ne hb] at e; exact o.same b w e
  · obtain ⟨a, e1, e2, r⟩ := o.cell i w e
    have hne : a ≠ D := fun q => ha (q ▸ List.mem_of_getElem? e1)
    refine ⟨a, e1, by rw [upd_ne hne]; exact e2, r.keep List.prefix_rfl hs rfl fun dx q1 q2 q3 => ⟨rfl, ?_, q3⟩⟩
    have hd' : dx ≠ D := fun q => by subst q; rw [hd] at q1; cases q1; exact hn _ rfl
    rw [upd_ne hd']; exact q2
theorem OkS.adoptC (o : OkS K α G S H) {w : Own} (hg : G D = none) (ha : D ∉ α) (hd : H D = some u) (hn : ∀ x, u ≠ .own x) (r : RepO K (α ++ [D]) G H w D) : OkS K (α ++ [D]) G (S ++ [some w]) H := by
  refine ⟨o.same, ?_, by simp [o.len], fun a hm => ?_, fun i w' e => ?_⟩
  · rw [List.nodup_append]
    exact ⟨o.nd, by simp, fun a h1 b h2 => by rw [List.mem_singleton] at h2; subst h2; exact fun q => ha (q ▸ h1)⟩
  · rw [List.mem_append, List.mem_singleton] at hm
    rcases hm with hm | hm
    · exact o.dom a hm
    · subst hm; rw [hd]; exact ⟨by simp, fun x e => hn x (Option.some.inj e)⟩
  · by_cases hi : i < S.length
    · rw [List.getElem?_append_left hi] at e
      obtain ⟨a, e1, e2, r'⟩ := o.cell i w' e
      refine ⟨a, by rw [List.getElem?_append_left (by rw [o.len]; exact hi)]; exact e1, e2, r'.keep (List.prefix_append _ _) (Same.refl _) rfl fun dx q1 q2 q3 => ⟨rfl, q2, ?_⟩⟩
      have hd' : dx ≠ D := fun q => by subst q; rw [hd] at q1; cases q1; exact hn _ rfl
      simp [q3, hd']
    · have hi' : i = S.length := by
        have := (List.getElem?_eq_some_iff.mp e).1
        simp at this; omega
      subst hi'
      simp at e
      subst e
      exact ⟨D, by rw [← o.len]; simp, hg, r⟩
theorem wipe_wipe (σ : St) (vs : List Nat) : wipe (wipe σ vs) vs = wipe σ vs := by
  apply List.ext_getElem?
  intro j
  rw [wipe_get, wipe_get, wipe_length]
  by_cases hj : j ∈ vs ∧ j < σ.length
  · rw [if_pos hj, if_pos hj]
  · rw [if_neg hj, if_neg hj]
end

/-! ### list comprehensions -/
abbrev WF : WXT := fun _ _ _ _ => False
abbrev kF : KX := fun _ _ _ _ => False
theorem xkF {K : PySem.W.Frag} {W : WXT} {α : List Addr} {G H : Hp} : XKont K W α G H kF := fun _ _ _ _ _ _ _ _ _ h => h.elim
abbrev tY : TTD := fun _ S k _ => k true S
abbrev QTs (X : Cx) (W : WXT) (ifs : List Expr) (w : TTD) : Prop := PTs X ifs (liftT X.K W w)
theorem qts_nil {X : Cx} {W : WXT} : QTs X W [] tY := ⟨fun pins s σ H Q I h => by
  obtain ⟨α, G, ρ, S, k, kx, o, h, q, _⟩ := h
  exact pts_nil.run pins s σ H Q I (q _ _ _ _ _ h Ext.refl o)⟩
theorem qts_one {X : Cx} {W : WXT} {c : Expr} {w : TTD} (h : QT X W c w) : QTs X W [c] w := pts_one h
/-- P: the invariant, by the turn, the items so far, the store -/
def eLc (m : Bool) (w : TID) (g : TGD) (tt : TTD) (we : TD) (own : List Nat) : TD := fun ρ S k kx => w ρ S (fun it S1 => ∃ P : Nat → List C → Sto → Prop, P 0 [] S1 ∧ (∀ i acc S', i ≤ it.ds.length → P i acc S' → it.dep S') ∧
  (∀ i d acc S', it.ds[i]? = some d → P i acc S' → g (.d d) (wipeE ρ own) S' (fun ρ2 S2 => tt ρ2 S2 (fun b S3 => if b = true then we ρ2 S3 (fun c S4 => acc.length < sizeLine ∧ P (i + 1) (acc ++ [c]) S4) kF else P (i + 1) acc S3) kF) kF) ∧
  ∀ acc S', P it.ds.length acc S' → newL m acc S' k) kx
theorem lift_lc {K : PySem.W.Frag} {W : WXT} {m : Bool} {w : TID} {is own : List Nat} {g : TGD} {tt : TTD} {we : TD} (his : ∀ i ∈ is, i ∈ own) {σ : St} {H : Hp} {Q : VK} (h : lift K W (eLc m w g tt we own) σ H Q) : tLc (liftI K W w) (liftG K WF is g) (liftT K WF tt) (lift K WF we) own σ H Q := by
  obtain ⟨α, G, ρ, S, k, kx, o, h, q, qx⟩ := h
  refine ⟨α, G, ρ, S, _, kx, o, h, fun it S1 α1 G1 H1 J h1 e1 o1 ok D hD => ?_, qx⟩
  obtain ⟨P, h0, hdep, hstep, hdone⟩ := h1
  obtain ⟨Gd, Y, wk, hGd, hY⟩ := ok
  obtain ⟨hgD, haD⟩ := o1.st.fresh hD
  refine lc_it wk (fun i H' => ∃ α' G' S' acc vs, Ext α1 G1 H1 α' G' H' ∧ Ok K α' G' (wipeE ρ own) S' (wipe σ own) H' ∧ H' D = some (.lst vs) ∧ G' D = none ∧ D ∉ α' ∧ RepCs K α' G' acc vs ∧ P i acc S') ?_ ?_ ?_ ?_
  · have e0 : Ext α1 G1 H1 α1 G1 (upd H1 D (.lst [])) := Ext.refl.side hD
    exact ⟨α1, G1, S1, [], [], e0, (o1.wipe own).reenv (o1.st.side hgD haD (fun x => by rw [hD]; simp)) e0, upd_same, hgD, haD, .nil, h0⟩
  · rintro i H' hi ⟨α', G', S', acc, vs, e', o', hd, hg', ha', r', p'⟩
    exact hGd α' G' S' H' e'.pre e'.same o'.st (hdep i acc S' hi p')
  · rintro i x H' H2 hi ⟨α', G', S', acc, vs, e', o', hd, hg', ha', r', p'⟩ y
    obtain ⟨d, hd', hr⟩ := hY i α' G' S' H' x H2 hi e'.pre e'.same o'.st (hdep i acc S' (Nat.le_of_lt hi) p') y
    obtain ⟨G2, e2, o2, r2⟩ := turn_ok (J := J) (it := it) (α0 := α1) (G0 := G1) (i := i) o' hr
    refine ⟨α', G2, wipeE ρ own, S', .d d, _, _, o2, r2, hstep i d acc S' hd' p', fun ρ3 S3 α3 G3 σ3 H3 h3 e3 o3 w3 => ⟨(w3 own his).trans (wipe_wipe _ _), ?_⟩, xkF⟩
    refine ⟨α3, G3, ρ3, S3, _, _, o3, h3, fun b S4 α4 G4 H4 h4 e4 o4 => ?_, xkF⟩
    have e24 := (e2.trans e3).trans e4
    cases b with
    | false =>
      dsimp only at h4 ⊢
      rw [if_neg Bool.false_ne_true] at h4 ⊢
      obtain ⟨k1, k2, k3⟩ := e24.keep D (by rw [hd]; simp) hg' ha'
      exact ⟨α4, G4, S4, acc, vs, e'.trans e24, o'.reenv o4.st e24, k1.trans hd, k2, k3, r'.mono e24.pre e24.same, h4⟩
    | true =>
      dsimp only at h4 ⊢
      rw [if_pos rfl] at h4 ⊢
      refine ⟨α4, G4, ρ3, S4, _, _, o4, h4, fun c S5 α5 G5 H5 v h5 e5 o5 r5 => ?_, xkF⟩
      have e25 := e24.trans e5
      obtain ⟨k1, k2, k3⟩ := e25.keep D (by rw [hd]; simp) hg' ha'
      have hD5 : H5 D = some (.lst vs) := k1.trans hd
      refine ⟨vs, hD5, by rw [← Paired.length r']; exact h5.1, α5, G5, S5, acc ++ [c], vs ++ [v], (e'.trans e25).side hD, ?_, upd_same, k2, k3, paired_app (r'.mono e25.pre e25.same) (.cons r5 .nil), h5.2⟩
      have os := o5.st.side (u := .lst (vs ++ [v])) k2 k3 (fun x => by rw [hD5]; simp)
      exact ⟨os, o'.rlen, fun i c h => let ⟨v, h1, h2⟩ := o'.env i c h; ⟨v, h1, h2.mono e25.pre e25.same⟩⟩
  · rintro H' ⟨α', G', S', acc, vs, e', o', hd, hg', ha', r', p'⟩
    have hn := hdone acc S' p'
    have q1 := Kont.ext q e1
    cases m with
    | true =>
      have os := o'.st.adoptC (w := .lst acc) hg' ha' hd (fun x => by simp) ⟨vs, hd, r'.mono (List.prefix_append _ _) (Same.refl _)⟩
      have e2 : Ext α1 G1 H1 (α' ++ [D]) G' H' := ⟨e'.pre.trans (List.prefix_append _ _), e'.same, fun a h1 h2 h3 => by
        obtain ⟨k1, k2, k3⟩ := e'.keep a h1 h2 h3
        exact ⟨k1, k2, by simp [k3, show a ≠ D from fun q => h1 (q ▸ hD)]⟩⟩
      exact q1 _ _ _ _ _ _ (show k (.c S'.length) (S' ++ [some (.lst acc)]) from hn) e2 (o1.reenv os e2) ⟨D, by rw [← o'.st.len]; simp, rfl⟩
    | false =>
      have hn' : (match unD acc with | some ds => k (.d (.lst ds)) S' | none => False) := hn
      cases hu : unD acc with
      | none => rw [hu] at hn'; exact hn'.elim
      | some ds =>
        rw [hu] at hn'
        rw [unD_some hu] at r'
        obtain ⟨os, hs⟩ := o'.st.adoptF hg' ha' hd (fun x => by simp)
        have e2 : Ext α1 G1 H1 α' (upd G' D (.lst vs)) H' := ⟨e'.pre, e'.same.trans hs, fun a h1 h2 h3 => by
          obtain ⟨k1, k2, k3⟩ := e'.keep a h1 h2 h3
          exact ⟨k1, by rw [upd_ne (show a ≠ D from fun q => h1 (q ▸ hD))]; exact k2, k3⟩⟩
        refine q1 _ _ _ _ _ _ hn' e2 (o1.reenv os e2) ?_
        show Rep K _ (.lst ds) _
        unfold Rep
        exact ⟨D, vs, rfl, upd_same, Reps.mono hs _ _ (Reps.of (RepCs.ofData r'))⟩
section
variable {X : Cx} {W : WXT} {elt tg iter : Expr} {ifs : List Expr} {scope : Scope} {own : List (Str × Nat)} {pos : Pos} {w : TID} {is : List Nat} {g : TGD} {tt : TTD} {we : TD}
theorem q_lc {m : Bool} (hc : X.calm = true) (hN : X.N.Nodup) (hi : QI X W tg iter w) (ok : BlkOk X.N X.env.scope scope own)
    (hg : ∀ (s : Shared) (H : Hp) (C : Addr) (cl : List (Str × Addr)) (fp : List Addr), QG (X.blk s H scope (compEnvC scope cl C X.env) fp) WF is tg g) (ht : ∀ (s : Shared) (H : Hp) (C : Addr) (cl : List (Str × Addr)) (fp : List Addr), QTs (X.blk s H scope (compEnvC scope cl C X.env) fp) WF ifs tt)
    (he : ∀ (s : Shared) (H : Hp) (C : Addr) (cl : List (Str × Addr)) (fp : List Addr), QE (X.blk s H scope (compEnvC scope cl C X.env) fp) WF elt we) (his : ∀ i ∈ is, i ∈ own.map (·.2) := by decide) (hs : ∀ x, foldedSetIterable iter X.env x = pure x := by intro _; rfl) :
    QE X W (.ListComp elt [⟨tg, iter, ifs, 0⟩] scope pos) (eLc m w g tt we (own.map (·.2))) :=
  pe_imp (pe_lc hc hN hi ok hg ht he hs) fun σ H Q h => lift_lc his h
theorem qs_setLc {m : Bool} {i : Nat} {y : Str} {py spos : Pos} (hc : X.calm = true) (hN : X.N.Nodup) (hy : X.N[i]? = some y) (hyl : X.env.scope.names.lookup y = some .local)
    (hsw : swapsWith (.ListComp elt [⟨tg, iter, ifs, 0⟩] scope pos) (some (.Name y py)) spos.line X.env = pure true) (hi : QI X W tg iter w) (ok : BlkOk X.N X.env.scope scope own)
    (hg : ∀ (s : Shared) (H : Hp) (C : Addr) (cl : List (Str × Addr)) (fp : List Addr), QG (X.blk s H scope (compEnvC scope cl C X.env) fp) WF is tg g) (ht : ∀ (s : Shared) (H : Hp) (C : Addr) (cl : List (Str × Addr)) (fp : List Addr), QTs (X.blk s H scope (compEnvC scope cl C X.env) fp) WF ifs tt)
    (he : ∀ (s : Shared) (H : Hp) (C : Addr) (cl : List (Str × Addr)) (fp : List Addr), QE (X.blk s H scope (compEnvC scope cl C X.env) fp) WF elt we) (his : ∀ i ∈ is, i ∈ own.map (·.2) := by decide) (hs : ∀ x, foldedSetIterable iter X.env x = pure x := by intro _; rfl) :
    QS X W (.Assign [.Name y py] (.ListComp elt [⟨tg, iter, ifs, 0⟩] scope pos) spos) (sAsg (eLc m w g tt we (own.map (·.2))) (gN i)) :=
  ps_imp (ps_setLc hc hN hy hyl hsw hi ok hg ht he hs) fun D σ H h => by
    obtain ⟨α, G, ρ, S, DD, o, h, q⟩ := h
    refine lift_lc (m := m) his (W := W) (Q := fun x H1 => gName i x σ H1 D.nx) ⟨α, G, ρ, S, _, _, o, h, fun c S' α' G' H' v h' e' o' r' => ?_, q.ex⟩
    exact q.nx _ _ _ _ _ _ h' e' (o'.set i r')
end
/-- a comprehension whose parts change nothing -/
theorem lc_pure {m : Bool} {g : TGD} {tt : TTD} {we : TD} {own : List Nat} {ρ : Env} {S1 : Sto} {k : C → Sto → Prop} {it : ItV} (p : D → Bool) (f : D → C) (hdep : it.dep S1) (hl : it.ds.length ≤ 16777216)
    (hstep : ∀ d, d ∈ it.ds → ∀ (A : C → Sto → Prop) (B : Sto → Prop), (p d = true → A (f d) S1) → (p d = false → B S1) → g (.d d) (wipeE ρ own) S1 (fun ρ2 S2 => tt ρ2 S2 (fun b S3 => if b = true then we ρ2 S3 A kF else B S3) kF) kF)
    (h : newL m ((it.ds.filter p).map f) S1 k) :
    ∃ P : Nat → List C → Sto → Prop, P 0 [] S1 ∧ (∀ i acc S', i ≤ it.ds.length → P i acc S' → it.dep S') ∧
  (∀ i d acc S', it.ds[i]? = some d → P i acc S' → g (.d d) (wipeE ρ own) S' (fun ρ2 S2 => tt ρ2 S2 (fun b S3 => if b = true then we ρ2 S3 (fun c S4 => acc.length < sizeLine ∧ P (i + 1) (acc ++ [c]) S4) kF else P (i + 1) acc S3) kF) kF) ∧
  ∀ acc S', P it.ds.length acc S' → newL m acc S' k := by
  refine ⟨fun i acc S' => S' = S1 ∧ acc = ((it.ds.take i).filter p).map f, ⟨rfl, by simp⟩, fun i acc S' _ h => h.1 ▸ hdep, fun i d acc S' hd hp => ?_, fun acc S' hp => ?_⟩
  · obtain ⟨rfl, rfl⟩ := hp
    have hi := (List.getElem?_eq_some_iff.mp hd).1
    have hlen : (((it.ds.take i).filter p).map f).length < sizeLine := by
      rw [List.length_map, sizeLine_eq]
      refine Nat.lt_of_le_of_lt (List.length_filter_le _ _) ?_
      rw [List.length_take]; omega
    have ht : it.ds.take (i + 1) = it.ds.take i ++ [d] := by rw [List.take_add_one, hd]; rfl
    refine hstep d (List.mem_of_getElem? hd) _ _ (fun hp => ⟨hlen, rfl, ?_⟩) (fun hp => ⟨rfl, ?_⟩)
    · rw [ht, List.filter_append, List.map_append]; simp [hp]
    · rw [ht, List.filter_append, List.map_append]; simp [hp]
  · obtain ⟨rfl, rfl⟩ := hp
    rw [List.take_length]
    exact h
end PL

/-! the pure layer, part 6: methods of lists, calls of defs, a def's promise -/
namespace PL
open PySem PySem.Spec L2
open PyProof.Rows hiding St

/-! ### methods -/
abbrev RMD := C → List C → Sto → (C → Sto → Prop) → Prop
structure MtD (K : PySem.W.Frag) (r : V → List V → Hp → VK → Prop) (rd : RMD) : Prop where
  to : ∀ {α : List Addr} {G H : Hp} {ρ : Env} {S : Sto} {σ : St} {x : C} {cs : List C} {vx : V} {vs : List V} {k : C → Sto → Prop} {Q : VK}, Ok K α G ρ S σ H → RepC K α G x vx → RepCs K α G cs vs → rd x cs S k → Kont K α G H ρ σ k Q → r vx vs H Q
abbrev eMt (rd : RMD) (wo : TD) (t : TAD) : TD := fun ρ S k kx => wo ρ S (fun x S1 => (∃ xs, lstOf S1 x = some xs) ∧ t ρ S1 (fun cs S2 => rd x cs S2 k) kx) kx
section
variable {X : Cx} {W : WXT} {o e : Expr} {es : List Expr} {wo : TD} {t : TAD} {name : Str} {id : String} {apos cpos : Pos} {r : V → List V → Hp → VK → Prop} {rd : RMD}
theorem tyV_lst {K : PySem.W.Frag} {α : List Addr} {G H : Hp} {ρ : Env} {S : Sto} {σ : St} {x : C} {v : V} {xs : List C} (o : Ok K α G ρ S σ H) (r : RepC K α G x v) (h : lstOf S x = some xs) : tyV K "list" v H := by
  obtain ⟨a, vs, e, hh, _⟩ := lst_rep o r h
  subst e
  exact .inl ⟨rfl, vs, SqL.of hh⟩
end
section
variable {K : PySem.W.Frag}
theorem rep0 {α : List Addr} {G : Hp} {vs : List V} (r : RepCs K α G [] vs) : vs = [] := by cases r; rfl
def dAppend : RMD := fun x cs S k => match x, cs with
  | .c j, [c] => ∃ xs, S.own j = some (.lst xs) ∧ xs.length < sizeLine ∧ k (.d .non) (S.set j (some (.lst (xs ++ [c]))))
  | _, _ => False
theorem d_append : MtD K rAppend dAppend := ⟨fun {α G H ρ S σ x cs vx vs k Q} o rx rs h q => by
  unfold dAppend at h
  split at h
  · rename_i j c
    obtain ⟨xs, hj, hl, h⟩ := h
    obtain ⟨a, e1, e2, ws, e3, r⟩ := o.cellAt hj
    obtain ⟨b, f1, f2⟩ := rx
    rw [e1] at f1; cases f1
    obtain ⟨v, hv, rv⟩ := rep1 rs
    refine ⟨a, ws, v, f2, hv, e3, by rw [← Paired.length r]; exact hl, ?_⟩
    obtain ⟨o', e'⟩ := o.st.write (u := .lst (ws ++ [v])) (w' := .lst (xs ++ [c])) (own_of hj) e1 (fun x => by simp) (fun x => by rw [e3]; simp) ⟨_, upd_same, paired_app r (.cons rv .nil)⟩
    exact q _ _ _ _ _ _ h e' (o.reenv o' e') rep_non
  · exact h.elim⟩
def dPop : RMD := fun x cs S k => match x, cs with
  | .c j, [] => ∃ xs y, S.own j = some (.lst xs) ∧ xs[xs.length - 1]? = some y ∧ k y (S.set j (some (.lst xs.dropLast)))
  | _, _ => False
theorem d_pop : MtD K rPop dPop := ⟨fun {α G H ρ S σ x cs vx vs k Q} o rx rs h q => by
  unfold dPop at h
  split at h
  · rename_i j
    obtain ⟨xs, y, hj, hy, h⟩ := h
    obtain ⟨a, e1, e2, ws, e3, r⟩ := o.cellAt hj
    obtain ⟨b, f1, f2⟩ := rx
    rw [e1] at f1; cases f1
    obtain ⟨v, hv, rv⟩ := paired_at r hy
    refine ⟨a, ws, v, f2, rep0 rs, e3, by rw [← Paired.length r]; exact hv, ?_⟩
    obtain ⟨o', e'⟩ := o.st.write (u := .lst ws.dropLast) (w' := .lst xs.dropLast) (own_of hj) e1 (fun x => by simp) (fun x => by rw [e3]; simp) ⟨_, upd_same, paired_dropLast r⟩
    exact q _ _ _ _ _ _ h e' (o.reenv o' e') rv
  · exact h.elim⟩
def dPopAt : RMD := fun x cs S k => match x, cs with
  | .c j, [.d (.int i)] => ∃ xs n y, S.own j = some (.lst xs) ∧ (-(2 ^ 63) ≤ i ∧ i < 2 ^ 63) ∧ seqIndex? i xs.length = some n ∧ xs[n]? = some y ∧ k y (S.set j (some (.lst (xs.eraseIdx n))))
  | _, _ => False
theorem d_popAt : MtD K rPopAt dPopAt := ⟨fun {α G H ρ S σ x cs vx vs k Q} o rx rs h q => by
  unfold dPopAt at h
  split at h
  · rename_i j i
    obtain ⟨xs, n, y, hj, hi, hn, hy, h⟩ := h
    obtain ⟨a, e1, e2, ws, e3, r⟩ := o.cellAt hj
    obtain ⟨b, f1, f2⟩ := rx
    rw [e1] at f1; cases f1
    obtain ⟨v, hv, rv⟩ := paired_at r hy
    obtain ⟨w, hw, rw'⟩ := rep1 rs
    refine ⟨a, ws, i, n, v, f2, by rw [hw, of_int rw'], e3, hi.1, hi.2, by rw [← Paired.length r]; exact hn, hv, ?_⟩
    obtain ⟨o', e'⟩ := o.st.write (u := .lst (ws.eraseIdx n)) (w' := .lst (xs.eraseIdx n)) (own_of hj) e1 (fun x => by simp) (fun x => by rw [e3]; simp) ⟨_, upd_same, paired_erase n r⟩
    exact q _ _ _ _ _ _ h e' (o.reenv o' e') rv
  · exact h.elim⟩
def dExtend : RMD := fun x cs S k => match x, cs with
  | .c j, [y] => ∃ xs zs, S.own j = some (.lst xs) ∧ lstOf S y = some zs ∧ xs.length + zs.length ≤ sizeLine ∧ k (.d .non) (S.set j (some (.lst (xs ++ zs))))
  | _, _ => False
theorem d_extend : MtD K rExtend dExtend := ⟨fun {α G H ρ S σ x cs vx vs k Q} o rx rs h q => by
  unfold dExtend at h
  split at h
  · rename_i j y
    obtain ⟨xs, zs, hj, hy, hl, h⟩ := h
    obtain ⟨a, e1, e2, ws, e3, r⟩ := o.cellAt hj
    obtain ⟨b, f1, f2⟩ := rx
    rw [e1] at f1; cases f1
    obtain ⟨v, hv, rv⟩ := rep1 rs
    obtain ⟨c, us, g1, g2, g3⟩ := lst_rep o rv hy
    refine ⟨a, c, ws, us, f2, by rw [hv, g1], e3, g2, by rw [← Paired.length r, ← Paired.length g3]; exact hl, ?_⟩
    obtain ⟨o', e'⟩ := o.st.write (u := .lst (ws ++ us)) (w' := .lst (xs ++ zs)) (own_of hj) e1 (fun x => by simp) (fun x => by rw [e3]; simp) ⟨_, upd_same, paired_app r g3⟩
    exact q _ _ _ _ _ _ h e' (o.reenv o' e') rep_non
  · exact h.elim⟩
def dReverse : RMD := fun x cs S k => match x, cs with
  | .c j, [] => ∃ xs, S.own j = some (.lst xs) ∧ k (.d .non) (S.set j (some (.lst xs.reverse)))
  | _, _ => False
theorem d_reverse : MtD K rReverse dReverse := ⟨fun {α G H ρ S σ x cs vx vs k Q} o rx rs h q => by
  unfold dReverse at h
  split at h
  · rename_i j
    obtain ⟨xs, hj, h⟩ := h
    obtain ⟨a, e1, e2, ws, e3, r⟩ := o.cellAt hj
    obtain ⟨b, f1, f2⟩ := rx
    rw [e1] at f1; cases f1
    refine ⟨a, ws, f2, rep0 rs, e3, ?_⟩
    obtain ⟨o', e'⟩ := o.st.write (u := .lst ws.reverse) (w' := .lst xs.reverse) (own_of hj) e1 (fun x => by simp) (fun x => by rw [e3]; simp) ⟨_, upd_same, paired_rev r⟩
    exact q _ _ _ _ _ _ h e' (o.reenv o' e') rep_non
  · exact h.elim⟩
/-- xs.remove(k), k in it, ints -/
def dRemove : RMD := fun x cs S k => match x, cs with
  | .c j, [.d (.int i)] => ∃ ns n, S.own j = some (.lst (cInts ns)) ∧ ns[n]? = some i ∧ (∀ m : Nat, m < n → ns[m]? ≠ some i) ∧ k (.d .non) (S.set j (some (.lst (cInts (ns.eraseIdx n)))))
  | _, _ => False
theorem d_remove : MtD K rRemI dRemove := ⟨fun {α G H ρ S σ x cs vx vs k Q} o rx rs h q => by
  unfold dRemove at h
  split at h
  · rename_i j i
    obtain ⟨ns, n, hj, hn, hm, h⟩ := h
    obtain ⟨a, e1, e2, ws, e3, r⟩ := o.cellAt hj
    obtain ⟨b, f1, f2⟩ := rx
    rw [e1] at f1; cases f1
    obtain ⟨v, hv, rv⟩ := rep1 rs
    rw [reps_cInts r] at e3
    refine ⟨a, ns, i, n, f2, by rw [hv, of_int rv], e3, hn, hm, ?_⟩
    obtain ⟨o', e'⟩ := o.st.write (u := .lst ((ns.eraseIdx n).map V.int)) (w' := .lst (cInts (ns.eraseIdx n))) (own_of hj) e1 (fun x => by simp) (fun x => by rw [e3]; simp) ⟨_, upd_same, reps_cInts' _⟩
    exact q _ _ _ _ _ _ h e' (o.reenv o' e') rep_non
  · exact h.elim⟩
end
section
variable {X : Cx} {W : WXT} {o e : Expr} {es : List Expr} {wo : TD} {t : TAD} {name : Str} {id : String} {apos pos : Pos} {r : V → List V → Hp → VK → Prop} {rd : RMD}
theorem lift_mt {K : PySem.W.Frag} (hd : MtD K r rd) {σ : St} {H : Hp} {Q : VK} (h : lift K W (eMt rd wo t) σ H Q) : tBM K "list" r (lift K W wo) (liftA K W t) σ H Q := by
  obtain ⟨α, G, ρ, S, k, kx, o, h, q, qx⟩ := h
  refine ⟨α, G, ρ, S, _, kx, o, h, fun x S1 α1 G1 H1 v ⟨⟨xs, hx⟩, h1⟩ e1 o1 r1 => ⟨tyV_lst o1 r1 hx, ?_⟩, qx⟩
  refine ⟨α1, G1, ρ, S1, _, kx, o1, h1, fun cs S2 α2 G2 H2 vs h2 e2 o2 r2 => ?_, qx.ext e1⟩
  exact hd.to o2 (r1.mono e2.pre e2.same) r2 h2 (Kont.ext q (e1.trans e2))
theorem lift_mt0 {K : PySem.W.Frag} (hd : MtD K r rd) {σ : St} {H : Hp} {Q : VK} (h : lift K W (eMt rd wo aNil) σ H Q) : tBM0 K "list" r (lift K W wo) σ H Q := by
  obtain ⟨α, G, ρ, S, k, kx, o, h, q, qx⟩ := h
  refine ⟨α, G, ρ, S, _, kx, o, h, fun x S1 α1 G1 H1 v ⟨⟨xs, hx⟩, h1⟩ e1 o1 r1 => ⟨tyV_lst o1 r1 hx, ?_⟩, qx⟩
  exact hd.to o1 r1 .nil h1 (Kont.ext q e1)
end

/-! ### a def's promise -/
abbrev XD := Value → List (Str × D) → Sto → Prop
abbrev SpD := List C → Sto → (C → Sto → Prop) → XD → Prop
def liftSp (K : PySem.W.Frag) (sp : SpD) : Sp := fun vs H Q E => ∃ α G cs S k kx, OkS K α G S H ∧ RepCs K α G cs vs ∧ sp cs S k kx ∧
  (∀ c S' α' G' H' v, k c S' → Ext α G H α' G' H' → OkS K α' G' S' H' → RepC K α' G' c v → Q v H') ∧
  (∀ cls fs S' α' G' H' d, kx cls fs S' → Ext α G H α' G' H' → OkS K α' G' S' H' → RepX K G' H' fs d → E cls d H')

/-! ### renaming of cells -/
def renC (js : List Nat) : C → Option C
  | .d x => some (.d x)
  | .c j => if j ∈ js then some (.c (js.idxOf j)) else none
def backC (js : List Nat) : C → Option C
  | .d x => some (.d x)
  | .c m => (js[m]?).map C.c
def renL (f : C → Option C) : List C → Option (List C)
  | [] => some []
  | c :: r => match f c, renL f r with
    | some c', some r' => some (c' :: r')
    | _, _ => none
def renP {κ : Type} (f : C → Option C) : List (κ × C) → Option (List (κ × C))
  | [] => some []
  | p :: r => match f p.2, renP f r with
    | some c', some r' => some ((p.1, c') :: r')
    | _, _ => none
def renO (f : C → Option C) : Own → Option Own
  | .lst xs => (renL f xs).map .lst
  | .dK kvs => (renP f kvs).map .dK
  | .dT kvs => (renP f kvs).map .dT
  | .ins cl fs => (renP f fs).map (.ins cl)
theorem renL_rep {F F' : C → V → Prop} {f : C → Option C} (hf : ∀ c c' v, f c = some c' → F c v → F' c' v) : ∀ {xs xs' : List C} {vs : List V}, renL f xs = some xs' → Paired F xs vs → Paired F' xs' vs
  | [], xs', _, h, .nil => by simp [renL] at h; subst h; exact .nil
  | c :: r, xs', _, h, .cons p t => by
    unfold renL at h
    split at h
    · rename_i c' r' h1 h2
      cases h
      exact .cons (hf _ _ _ h1 p) (renL_rep hf h2 t)
    · cases h
theorem renP_rep {κ : Type} {F F' : C → V → Prop} {f : C → Option C} (hf : ∀ c c' v, f c = some c' → F c v → F' c' v) : ∀ {xs xs' : List (κ × C)} {vs : List (κ × V)}, renP f xs = some xs' →
    Paired (fun (p : κ × C) (q : κ × V) => p.1 = q.1 ∧ F p.2 q.2) xs vs → Paired (fun (p : κ × C) (q : κ × V) => p.1 = q.1 ∧ F' p.2 q.2) xs' vs
  | [], xs', _, h, .nil => by simp [renP] at h; subst h; exact .nil
  | c :: r, xs', _, h, .cons p t => by
    unfold renP at h
    split at h
    · rename_i c' r' h1 h2
      cases h
      exact .cons ⟨p.1, hf _ _ _ h1 p.2⟩ (renP_rep hf h2 t)
    · cases h
theorem renO_rep {K : PySem.W.Frag} {α α' : List Addr} {G G' H : Hp} {f : C → Option C} (hf : ∀ c c' v, f c = some c' → RepC K α G c v → RepC K α' G' c' v) {o o' : Own} {a : Addr} (h : renO f o = some o') (hdx : ∀ dx, G dx = none → H dx = some (.own a) → dx ∉ α → G' dx = none ∧ dx ∉ α') (r : RepO K α G H o a) : RepO K α' G' H o' a := by
  cases o with
  | lst xs =>
    simp only [renO, Option.map_eq_some_iff] at h
    obtain ⟨xs', h1, rfl⟩ := h
    obtain ⟨vs, e, p⟩ := r
    exact ⟨vs, e, renL_rep hf h1 p⟩
  | dK xs =>
    simp only [renO, Option.map_eq_some_iff] at h
    obtain ⟨xs', h1, rfl⟩ := h
    obtain ⟨vs, e, p⟩ := r
    exact ⟨vs, e, renP_rep hf h1 p⟩
  | dT xs =>
    simp only [renO, Option.map_eq_some_iff] at h
    obtain ⟨xs', h1, rfl⟩ := h
    obtain ⟨vs, e, p⟩ := r
    exact ⟨vs, e, renP_rep hf h1 p⟩
  | ins cl xs =>
    simp only [renO, Option.map_eq_some_iff] at h
    obtain ⟨xs', h1, rfl⟩ := h
    obtain ⟨dx, vs, e, e2, e3, e4, p⟩ := r
    obtain ⟨k1, k2⟩ := hdx dx e3 e2 e4
    exact ⟨dx, vs, e, e2, k1, k2, renP_rep hf h1 p⟩
/-- the callee's store: the cells js, renumbered -/
structure RestrOk (js : List Nat) (S S' : Sto) : Prop where
  len : S'.length = js.length
  at_ : ∀ (m j : Nat), js[m]? = some j → ∃ o o', S.own j = some o ∧ renO (renC js) o = some o' ∧ S'[m]? = some (some o')
/-- the caller's store behind the call -/
structure MergeOk (js : List Nat) (S S2 S3 : Sto) : Prop where
  len : S3.length = S.length
  out : ∀ i : Nat, i ∉ js → S3[i]? = S[i]?
  at_ : ∀ (m j : Nat), js[m]? = some j → S3[j]? = some none ∨ ∃ o o', S2[m]? = some (some o) ∧ renO (backC js) o = some o' ∧ S3[j]? = some (some o')
section
variable {K : PySem.W.Frag} {α : List Addr} {G H : Hp} {S S' : Sto} {js : List Nat}
def addrs (α : List Addr) (js : List Nat) : List Addr := js.map fun j => α.getD j 0
theorem addrs_at {m j : Nat} (h : js[m]? = some j) (hj : j < α.length) : (addrs α js)[m]? = some α[j] := by
  unfold addrs
  rw [List.getElem?_map, h]
  simp [List.getD_eq_getElem?_getD, hj]
theorem restr_ok (o : OkS K α G S H) (nd : js.Nodup) (r : RestrOk js S S') : OkS K (addrs α js) G S' H ∧ (∀ m j : Nat, js[m]? = some j → j < α.length ∧ ∃ w, S[j]? = some (some w)) ∧
    (∀ c c' v, renC js c = some c' → RepC K α G c v → RepC K (addrs α js) G c' v) := by
  have live : ∀ m j : Nat, js[m]? = some j → j < α.length ∧ ∃ w, S[j]? = some (some w) := fun m j h => by
    obtain ⟨w, w', h1, _, _⟩ := r.at_ m j h
    have h2 := own_of h1
    exact ⟨by rw [o.len]; exact (List.getElem?_eq_some_iff.mp h2).1, w, h2⟩
  have ren : ∀ c c' v, renC js c = some c' → RepC K α G c v → RepC K (addrs α js) G c' v := fun c c' v h rr => by
    cases c with
    | d x => simp only [renC] at h; cases h; exact rr
    | c j =>
      simp only [renC] at h
      split at h
      · rename_i hm
        cases h
        obtain ⟨a, e1, e2⟩ := rr
        have hx : js[js.idxOf j]? = some j := by
          rw [List.getElem?_eq_getElem (List.idxOf_lt_length_of_mem hm), List.getElem_idxOf]
        have hj := (live _ _ hx).1
        refine ⟨a, ?_, e2⟩
        rw [addrs_at hx hj]
        rw [List.getElem?_eq_getElem hj] at e1
        exact e1
      · cases h
  refine ⟨⟨o.same, ?_, by rw [r.len]; unfold addrs; simp, fun a hm => ?_, fun m w h => ?_⟩, live, ren⟩
  · unfold addrs
    rw [List.nodup_iff_pairwise_ne, List.pairwise_map]
    refine List.Pairwise.imp_of_mem ?_ nd
    intro i j hi hj hne e
    obtain ⟨m1, h1⟩ := List.getElem?_of_mem hi
    obtain ⟨m2, h2⟩ := List.getElem?_of_mem hj
    have l1 := (live _ _ h1).1
    have l2 := (live _ _ h2).1
    rw [List.getD_eq_getElem?_getD, List.getD_eq_getElem?_getD, List.getElem?_eq_getElem l1, List.getElem?_eq_getElem l2] at e
    exact hne ((List.getElem_inj o.nd).mp e)
  · unfold addrs at hm
    obtain ⟨j, hj, e⟩ := List.mem_map.mp hm
    obtain ⟨m1, h1⟩ := List.getElem?_of_mem hj
    have l1 := (live _ _ h1).1
    rw [List.getD_eq_getElem?_getD, List.getElem?_eq_getElem l1] at e
    have e' : α[j] = a := e
    rw [← e']
    exact o.dom _ (List.getElem_mem l1)
  · have hm : m < js.length := by rw [← r.len]; exact (List.getElem?_eq_some_iff.mp h).1
    have hj : js[m]? = some js[m] := List.getElem?_eq_getElem hm
    obtain ⟨w1, w2, h1, h2, h3⟩ := r.at_ m _ hj
    rw [h] at h3; cases h3
    obtain ⟨a, e1, e2, e3⟩ := o.cell _ _ (own_of h1)
    have l1 := (live _ _ hj).1
    refine ⟨a, ?_, e2, renO_rep ren h2 (fun dx h1 h2 h3 => ⟨h1, fun hm => h3 ?_⟩) e3⟩
    · rw [addrs_at hj l1, ← List.getElem?_eq_getElem l1]; exact e1
    · unfold addrs at hm
      obtain ⟨j, hj, e⟩ := List.mem_map.mp hm
      obtain ⟨m1, h1⟩ := List.getElem?_of_mem hj
      have l1 := (live _ _ h1).1
      rw [List.getD_eq_getElem?_getD, List.getElem?_eq_getElem l1] at e
      have e' : α[j] = dx := e
      rw [← e']; exact List.getElem_mem l1
theorem merge_ok {α2 : List Addr} {G2 H2 : Hp} {S2 S3 : Sto} (o : OkS K α G S H) (live : ∀ m j : Nat, js[m]? = some j → j < α.length) (e : Ext (addrs α js) G H α2 G2 H2) (o2 : OkS K α2 G2 S2 H2) (mg : MergeOk js S S2 S3) :
    OkS K α G2 S3 H2 ∧ Ext α G H α G2 H2 ∧ (∀ c c' v, backC js c = some c' → RepC K α2 G2 c v → RepC K α G2 c' v) := by
  have sub : ∀ a, a ∈ addrs α js → a ∈ α := fun a hm => by
    unfold addrs at hm
    obtain ⟨j, hj, e⟩ := List.mem_map.mp hm
    obtain ⟨m1, h1⟩ := List.getElem?_of_mem hj
    have l1 := live _ _ h1
    rw [List.getD_eq_getElem?_getD, List.getElem?_eq_getElem l1] at e
    have e' : α[j] = a := e
    rw [← e']; exact List.getElem_mem l1
  have ex : Ext α G H α G2 H2 := ⟨List.prefix_rfl, e.same, fun a h1 h2 h3 => by
    obtain ⟨k1, k2, _⟩ := e.keep a h1 h2 (fun hm => h3 (sub a hm))
    exact ⟨k1, k2, h3⟩⟩
  have at2 : ∀ m j : Nat, (h : js[m]? = some j) → α2[m]? = α[j]? := fun m j h => by
    have l1 := live _ _ h
    have hm : m < js.length := (List.getElem?_eq_some_iff.mp h).1
    obtain ⟨t, ht⟩ := e.pre
    rw [← ht, List.getElem?_append_left (by unfold addrs; simpa using hm), addrs_at h l1, List.getElem?_eq_getElem l1]
  have back : ∀ c c' v, backC js c = some c' → RepC K α2 G2 c v → RepC K α G2 c' v := fun c c' v h rr => by
    cases c with
    | d x => simp only [backC] at h; cases h; exact rr
    | c m =>
      simp only [backC, Option.map_eq_some_iff] at h
      obtain ⟨j, h1, rfl⟩ := h
      obtain ⟨a, e1, e2⟩ := rr
      rw [at2 m j h1] at e1
      exact ⟨a, e1, e2⟩
  refine ⟨⟨o2.same, o.nd, by rw [mg.len]; exact o.len, fun a hm => ?_, fun i w h => ?_⟩, ex, back⟩
  · by_cases hg : G a = none
    · by_cases hc : a ∈ addrs α js
      · obtain ⟨t, ht⟩ := e.pre
        exact o2.dom a (by rw [← ht]; simp [hc])
      · obtain ⟨k1, _, _⟩ := e.keep a (o.dom a hm).1 hg hc
        rw [k1]; exact o.dom a hm
    · cases hq : G a with
      | none => exact absurd hq hg
      | some u => rw [o2.same a u (e.same a u hq), ← o.same a u hq]; exact o.dom a hm
  · by_cases hi : i ∈ js
    · obtain ⟨m, hm⟩ := List.getElem?_of_mem hi
      rcases mg.at_ m i hm with h' | ⟨w2, w3, h1, h2, h3⟩
      · rw [h] at h'; cases h'
      · rw [h] at h3; cases h3
        obtain ⟨a, e1, e2, e3⟩ := o2.cell m w2 h1
        have e1' := e1
        rw [at2 m i hm] at e1'
        refine ⟨a, e1', e2, renO_rep back h2 (fun dx d1 d2 d3 => ⟨d1, fun hm' => ?_⟩) e3⟩
        by_cases hg : G dx = none
        · by_cases hc : dx ∈ addrs α js
          · obtain ⟨t, ht⟩ := e.pre
            exact d3 (by rw [← ht]; simp [hc])
          · obtain ⟨k1, _, _⟩ := e.keep dx (o.dom dx hm').1 hg hc
            rw [k1] at d2
            exact (o.dom dx hm').2 _ d2
        · cases hq : G dx with
          | none => exact absurd hq hg
          | some u => rw [e.same dx u hq] at d1; cases d1
    · rw [mg.out i hi] at h
      obtain ⟨a, e1, e2, e3⟩ := o.cell i w h
      have hc : a ∉ addrs α js := fun hm => by
        unfold addrs at hm
        obtain ⟨j, hj, e⟩ := List.mem_map.mp hm
        obtain ⟨m1, h1⟩ := List.getElem?_of_mem hj
        have l1 := live _ _ h1
        rw [List.getD_eq_getElem?_getD, List.getElem?_eq_getElem l1] at e
        have e' : α[j] = a := e
        have l2 := (List.getElem?_eq_some_iff.mp e1).1
        have e'' : α[j] = α[i] := e'.trans (List.getElem?_eq_some_iff.mp e1).2.symm
        have := (List.getElem_inj o.nd).mp e''
        subst this
        exact hi hj
      obtain ⟨k1, k2, _⟩ := e.keep a (o.dom a (List.mem_of_getElem? e1)).1 e2 hc
      refine ⟨a, e1, k2, e3.keep List.prefix_rfl e.same k1 fun dx d1 d2 d3 => ?_⟩
      obtain ⟨l1, l2, _⟩ := e.keep dx (by rw [d1]; simp) d2 (fun hm => d3 (sub dx hm))
      exact ⟨l1, l2, d3⟩
end
end PL

/-! the pure layer, part 7: calls of defs, a def's promise by its body -/
namespace PL
open PySem PySem.Spec L2
open PyProof.Rows hiding St

section
variable {X : Cx} {W : WXT} {o e : Expr} {es : List Expr} {wo : TD} {t : TAD} {name : Str} {id : String} {apos pos : Pos} {r : V → List V → Hp → VK → Prop} {rd : RMD}
theorem q_mt (slot : Slot "list" name id) (hty : typeOf (.builtin id) = pure (.type "method_descriptor")) (hm : MtM X id r) (hd : MtD X.K r rd) (ho : QE X W o wo) (ha : QA X W (e :: es) t)
    (h : PE X (.Call (.Attribute o name apos) (e :: es) [] pos) (tBM X.K "list" r (lift X.K W wo) (liftA X.K W t))) : QE X W (.Call (.Attribute o name apos) (e :: es) [] pos) (eMt rd wo t) :=
  pe_imp h fun σ H Q h => lift_mt hd h
theorem q_mtA (hd : MtD X.K r rd) (h : PE X (.Call (.Attribute o name apos) (e :: es) [] pos) (tBM X.K "list" r (lift X.K W wo) (liftA X.K W t))) : QE X W (.Call (.Attribute o name apos) (e :: es) [] pos) (eMt rd wo t) :=
  pe_imp h fun σ H Q h => lift_mt hd h
theorem q_mt0 (hd : MtD X.K r rd) (h : PE X (.Call (.Attribute o name apos) [] [] pos) (tBM0 X.K "list" r (lift X.K W wo))) : QE X W (.Call (.Attribute o name apos) [] [] pos) (eMt rd wo aNil) :=
  pe_imp h fun σ H Q h => lift_mt0 hd h
end

/-! ### calls -/
def flatO : Own → Bool
  | .lst xs => (unD xs).isSome
  | .dK kvs => (unD (kvs.map (·.2))).isSome
  | .dT kvs => (unD (kvs.map (·.2))).isSome
  | .ins _ _ => false
theorem flatO_rep {K : PySem.W.Frag} {α α' : List Addr} {G H : Hp} {o : Own} {a : Addr} (h : flatO o = true) (r : RepO K α G H o a) : RepO K α' G H o a := by
  have go : ∀ {cs : List C}, (unD cs).isSome = true → ∀ {vs}, RepCs K α G cs vs → RepCs K α' G cs vs := fun {cs} hs {vs} r => by
    obtain ⟨ds, hd⟩ := Option.isSome_iff_exists.mp hs
    rw [unD_some hd] at r ⊢
    exact RepCs.data (RepCs.ofData r)
  have gp : ∀ {κ : Type} {kvs : List (κ × C)} {vs : List (κ × V)}, (unD (kvs.map (·.2))).isSome = true → Paired (fun (p : κ × C) (q : κ × V) => p.1 = q.1 ∧ RepC K α G p.2 q.2) kvs vs → Paired (fun (p : κ × C) (q : κ × V) => p.1 = q.1 ∧ RepC K α' G p.2 q.2) kvs vs := by
    intro κ kvs
    induction kvs with
    | nil => intro vs _ r; cases r; exact .nil
    | cons p t ih =>
      intro vs hs r
      cases r with
      | cons r1 rr =>
        obtain ⟨k, c⟩ := p
        cases c with
        | c i => simp [unD] at hs
        | d x =>
          refine .cons ⟨r1.1, r1.2⟩ (ih ?_ rr)
          simpa [unD] using hs
  cases o with
  | lst xs => obtain ⟨vs, e, p⟩ := r; exact ⟨vs, e, go h p⟩
  | dK xs => obtain ⟨vs, e, p⟩ := r; exact ⟨vs, e, gp h p⟩
  | dT xs => obtain ⟨vs, e, p⟩ := r; exact ⟨vs, e, gp h p⟩
  | ins cl xs => cases h
/-- what follows a call: of c, behind the callee's store S2 -/
def AfterC (js : List Nat) (S1 : Sto) (k : C → Sto → Prop) (c : C) (S2 : Sto) : Prop := ∃ S3, MergeOk js S1 S2 S3 ∧ ((∃ c', backC js c = some c' ∧ k c' S3) ∨ ∃ m w, c = .c m ∧ js.length ≤ m ∧ S2[m]? = some (some w) ∧ flatO w = true ∧ k (.c S1.length) (S3 ++ [some w]))
theorem call_core {K : PySem.W.Frag} {W : WXT} {sp : SpD} {E : XK} {α1 : List Addr} {G1 H1 : Hp} {ρ : Env} {S1 : Sto} {σ : St} {cs cs' : List C} {vs : List V} {js : List Nat} {S' : Sto} {kK k : C → Sto → Prop} {kX : XD} {kx : KX} {Q : VK}
    (hE : ∀ cls d H, (∀ σ', σ' = σ → W cls d σ' H) → E cls d H) (o1 : Ok K α1 G1 ρ S1 σ H1) (r1 : RepCs K α1 G1 cs vs) (nd : js.Nodup) (hren : renL (renC js) cs = some cs') (hr : RestrOk js S1 S') (hsp : sp cs' S' kK kX)
    (hk : ∀ c S2, kK c S2 → AfterC js S1 k c S2) (hkx : ∀ cls fs S2, kX cls fs S2 → ∃ S3, MergeOk js S1 S2 S3 ∧ kx cls fs ρ S3)
    (q : Kont K α1 G1 H1 ρ σ k Q) (qx : XKont K W α1 G1 H1 kx) : liftSp K sp vs H1 Q E := by
  obtain ⟨oc, live, ren⟩ := restr_ok o1.st nd hr
  refine ⟨addrs α1 js, G1, cs', S', _, _, oc, renL_rep ren hren r1, hsp, fun c S2 α2 G2 H2 v h2 e2 o2 r2 => ?_, fun cls fs S2 α2 G2 H2 d h2 e2 o2 r2 => ?_⟩
  · obtain ⟨S3, mg, h2⟩ := hk c S2 h2
    obtain ⟨o3, e3, back⟩ := merge_ok o1.st (fun m j h => (live m j h).1) e2 o2 mg
    rcases h2 with ⟨c', hb, h2⟩ | ⟨m, w, rfl, hm, hw, hf, h2⟩
    · exact q c' S3 α1 G2 H2 v h2 e3 (o1.reenv o3 e3) (back c c' v hb r2)
    · -- a new cell of the callee's comes along
      obtain ⟨a, f1, f2⟩ := r2
      obtain ⟨a', g1, g2, g3⟩ := o2.cell m w hw
      rw [f1] at g1; cases g1
      have hal : a ∉ α1 := fun hm' => by
        -- a is behind the callee's own cells
        by_cases hg : G1 a = none
        · by_cases hc : a ∈ addrs α1 js
          · obtain ⟨t', ht⟩ := e2.pre
            obtain ⟨p, hp⟩ := List.getElem?_of_mem hc
            have hp' : p < js.length := by have := (List.getElem?_eq_some_iff.mp hp).1; unfold addrs at this; simpa using this
            have hp2 : α2[p]? = some a := by rw [← ht, List.getElem?_append_left (by unfold addrs; simpa using hp')]; exact hp
            have e5 := (List.getElem?_eq_some_iff.mp hp2).2.trans (List.getElem?_eq_some_iff.mp f1).2.symm
            have := (List.getElem_inj o2.nd).mp e5
            omega
          · obtain ⟨_, _, k3⟩ := e2.keep a (o1.st.dom a hm').1 hg hc
            exact k3 (List.mem_of_getElem? f1)
        · cases hq : G1 a with
          | none => exact absurd hq hg
          | some u => rw [e2.same a u hq] at g2; cases g2
      obtain ⟨u, hu, hn⟩ : ∃ u, H2 a = some u ∧ ∀ x, u ≠ .own x := by
        cases w with
        | lst xs => obtain ⟨vs, e, _⟩ := g3; exact ⟨_, e, fun x => by simp⟩
        | dK xs => obtain ⟨vs, e, _⟩ := g3; exact ⟨_, e, fun x => by simp⟩
        | dT xs => obtain ⟨vs, e, _⟩ := g3; exact ⟨_, e, fun x => by simp⟩
        | ins cl xs => cases hf
      have o4 := o3.adoptC (w := w) g2 hal hu hn (flatO_rep hf g3)
      have e4 : Ext α1 G1 H1 (α1 ++ [a]) G2 H2 := ⟨List.prefix_append _ _, e3.same, fun b h1 h2 h3 => by
        obtain ⟨k1, k2, k3⟩ := e3.keep b h1 h2 h3
        refine ⟨k1, k2, ?_⟩
        have hb : b ∉ addrs α1 js := fun hm => by
          unfold addrs at hm
          obtain ⟨j, hj, e⟩ := List.mem_map.mp hm
          obtain ⟨m1, h1⟩ := List.getElem?_of_mem hj
          have l1 := (live _ _ h1).1
          rw [List.getD_eq_getElem?_getD, List.getElem?_eq_getElem l1] at e
          have e' : α1[j] = b := e
          exact h3 (by rw [← e']; exact List.getElem_mem l1)
        obtain ⟨_, _, k4⟩ := e2.keep b h1 h2 hb
        simp only [List.mem_append, List.mem_singleton, not_or]
        exact ⟨h3, fun q => k4 (q ▸ List.mem_of_getElem? f1)⟩⟩
      refine q _ _ _ _ _ _ h2 e4 (o1.reenv o4 e4) ⟨a, ?_, f2⟩
      rw [← o1.st.len]; simp
  · obtain ⟨S3, mg, h2⟩ := hkx cls fs S2 h2
    obtain ⟨o3, e3, back⟩ := merge_ok o1.st (fun m j h => (live m j h).1) e2 o2 mg
    exact hE cls d H2 fun σ' hσ => hσ ▸ qx cls fs ρ S3 α1 G2 H2 σ d h2 e3 (o1.reenv o3 e3) r2
/-- a call: with data alone; with one cell (flat); with any cells -/
structure callD (sp : SpD) (cs : List C) (ρ : Env) (S1 : Sto) (k : C → Sto → Prop) (kx : KX) : Prop where
  go :
  ((unD cs).isSome = true ∧ sp cs [] (fun c S2 => (∃ x, c = .d x ∧ k (.d x) S1) ∨ ∃ m w, c = .c m ∧ S2[m]? = some (some w) ∧ flatO w = true ∧ k (.c S1.length) (S1 ++ [some w])) (fun cls fs _ => kx cls fs ρ S1)) ∨
  (∃ j o cs', S1.own j = some o ∧ flatO o = true ∧ renL (renC [j]) cs = some cs' ∧ sp cs' [some o] (fun c S2 => ∃ x o2, c = .d x ∧ S2[0]? = some (some o2) ∧ flatO o2 = true ∧ k (.d x) (S1.set j (some o2)))
    (fun cls fs S2 => ∃ o2, S2[0]? = some (some o2) ∧ flatO o2 = true ∧ kx cls fs ρ (S1.set j (some o2)))) ∨
  ∃ js cs' S', js.Nodup ∧ renL (renC js) cs = some cs' ∧ RestrOk js S1 S' ∧ sp cs' S' (AfterC js S1 k) (fun cls fs S2 => ∃ S3, MergeOk js S1 S2 S3 ∧ kx cls fs ρ S3)
abbrev eCall (sp : SpD) (t : TAD) : TD := fun ρ S k kx => t ρ S (fun cs S1 => callD sp cs ρ S1 k kx) kx
theorem ren_data {js : List Nat} : ∀ {cs : List C}, (unD cs).isSome = true → renL (renC js) cs = some cs
  | [], _ => rfl
  | .d x :: r, h => by
    have h' : (unD r).isSome = true := by simpa [unD] using h
    simp [renL, renC, ren_data h']
  | .c i :: r, h => by simp [unD] at h
theorem renP_data {κ : Type} {f : C → Option C} (hf : ∀ x, f (.d x) = some (.d x)) : ∀ {kvs : List (κ × C)}, (unD (kvs.map (·.2))).isSome = true → renP f kvs = some kvs
  | [], _ => rfl
  | (k, .d x) :: r, h => by
    have h' : (unD (r.map (·.2))).isSome = true := by simpa [unD] using h
    simp [renP, hf, renP_data hf h']
  | (k, .c i) :: r, h => by simp [unD] at h
theorem renL_data {f : C → Option C} (hf : ∀ x, f (.d x) = some (.d x)) : ∀ {cs : List C}, (unD cs).isSome = true → renL f cs = some cs
  | [], _ => rfl
  | .d x :: r, h => by
    have h' : (unD r).isSome = true := by simpa [unD] using h
    simp [renL, hf, renL_data hf h']
  | .c i :: r, h => by simp [unD] at h
theorem ren_flat {f : C → Option C} (hf : ∀ x, f (.d x) = some (.d x)) {o : Own} (h : flatO o = true) : renO f o = some o := by
  cases o with
  | lst xs => simp only [renO]; rw [renL_data hf h]; rfl
  | dK xs => simp only [renO]; rw [renP_data hf h]; rfl
  | dT xs => simp only [renO]; rw [renP_data hf h]; rfl
  | ins cl xs => cases h
theorem merge_nil {S S2 : Sto} : MergeOk [] S S2 S := ⟨rfl, fun _ _ => rfl, fun m j h => by simp at h⟩
theorem merge_one {S S2 : Sto} {j : Nat} {o o2 : Own} (hj : S.own j = some o) (h : S2[0]? = some (some o2)) (hf : flatO o2 = true) : MergeOk [j] S S2 (S.set j (some o2)) := by
  have hl : j < S.length := (List.getElem?_eq_some_iff.mp (own_of hj)).1
  refine ⟨by simp, fun i hi => List.getElem?_set_ne (by intro e; exact hi (by simp [e])), fun m i hm => .inr ⟨o2, o2, ?_, ren_flat (f := backC [j]) (fun x => rfl) hf, ?_⟩⟩
  · cases m with
    | zero => exact h
    | succ m => simp at hm
  · cases m with
    | zero => simp at hm; subst hm; exact List.getElem?_set_self hl
    | succ m => simp at hm
theorem lift_call {K : PySem.W.Frag} {W : WXT} {sp : SpD} {t : TAD} {E : XK} {σ : St} {H : Hp} {Q : VK} (hE : ∀ cls d H, (∀ σ', σ' = σ → W cls d σ' H) → E cls d H) (h : lift K W (eCall sp t) σ H Q) : liftA K W t σ H fun vs H1 => liftSp K sp vs H1 Q E := by
  obtain ⟨α, G, ρ, S, k, kx, o, h, q, qx⟩ := h
  refine ⟨α, G, ρ, S, _, kx, o, h, fun cs S1 α1 G1 H1 vs h1 e1 o1 r1 => ?_, qx⟩
  have q1 := Kont.ext q e1
  have qx1 := qx.ext e1
  rcases h1 with ⟨⟨hd, h1⟩ | ⟨j, ow, cs', hj, hf, hren, h1⟩ | ⟨js, cs', S', nd, hren, hr, hsp⟩⟩
  · refine call_core hE o1 r1 (js := []) (S' := []) (by simp) (ren_data hd) ⟨rfl, fun m j h => by simp at h⟩ h1 (fun c S2 h2 => ?_) (fun cls fs S2 h2 => ⟨S1, merge_nil, h2⟩) q1 qx1
    rcases h2 with ⟨x, rfl, h2⟩ | ⟨m, w, rfl, hw, hfw, h2⟩
    · exact ⟨S1, merge_nil, .inl ⟨_, rfl, h2⟩⟩
    · exact ⟨S1, merge_nil, .inr ⟨m, w, rfl, Nat.zero_le _, hw, hfw, h2⟩⟩
  · refine call_core hE o1 r1 (js := [j]) (S' := [some ow]) (by simp) hren ⟨rfl, fun m i h => ?_⟩ h1 (fun c S2 h2 => ?_) (fun cls fs S2 h2 => ?_) q1 qx1
    · cases m with
      | zero => simp at h; subst h; exact ⟨ow, ow, hj, ren_flat (f := renC [j]) (fun x => rfl) hf, rfl⟩
      | succ m => simp at h
    · obtain ⟨x, o2, rfl, h3, h4, h2⟩ := h2
      exact ⟨_, merge_one hj h3 h4, .inl ⟨_, rfl, h2⟩⟩
    · obtain ⟨o2, h3, h4, h2⟩ := h2
      exact ⟨_, merge_one hj h3 h4, h2⟩
  · exact call_core hE o1 r1 nd hren hr hsp (fun c S2 h2 => h2) (fun cls fs S2 h2 => h2) q1 qx1
section
variable {X : Cx} {W : WXT} {k : Nat} {f : Addr} {fd : FuncData} {ps : List Str} {sp : SpD} {x : Str} {p pos : Pos} {e : Expr} {es : List Expr} {t : TAD}
/-- a call of a def that lets no exception out -/
theorem q_call (F : FnOk X.prog X.w X.K X.mg X.base CX0 k f fd ps (liftSp X.K sp)) (hr : Room k X.A) (hg : Gl X x) (hm : X.mg x = some (.ref f)) (hk : PySem.W.keepIn X.K (.ref f) = true) (hb : Binds X.K fd ps [])
    (ha : QA X WF (e :: es) t) (hdb : (x == ("__debug__" : Str)) = false := by decide) (he : starEach (e :: es) X.env = (false, eval e X.env) :: starEach es X.env := by rfl) (hpl : (backTo pos (starEach es X.env)).any (·.1) = false := by rfl) :
    QE X WF (.Call (.Name x p) (e :: es) [] pos) (eCall sp t) :=
  pe_imp (pe_call F hr hg hm hk hb .nil pass0 ha hdb he hpl) fun σ H Q h => by
    obtain ⟨α, G, ρ, S, k, kx, o, h1, h2, h3⟩ := lift_call (E := E0) (fun cls d H hh => (hh σ rfl).elim) h
    refine ⟨α, G, ρ, S, k, kx, o, h1, fun cs S' α' G' H' vs a b c d => ?_, h3⟩
    show liftSp X.K sp (vs ++ []) H' Q E0
    rw [List.append_nil]
    exact h2 cs S' α' G' H' vs a b c d
end

/-! ### keywords -/
def permL {β : Type} (is : List Nat) (l : List β) : List β := is.filterMap fun i => l[i]?
/-- p positional values, then the n keywords' values in the parameters' order -/
def kwG {β : Type} (p n : Nat) (is : List Nat) (us ws : List β) : List β := if us.length = p ∧ ws.length = n then us ++ permL is ws else []
theorem perm_pair {A B : Type} {F : A → B → Prop} {xs : List A} {ys : List B} (r : Paired F xs ys) : ∀ is : List Nat, Paired F (permL is xs) (permL is ys)
  | [] => .nil
  | i :: is => by
    unfold permL
    rw [List.filterMap_cons, List.filterMap_cons]
    cases h : xs[i]? with
    | none =>
      have : ys[i]? = none := by rw [List.getElem?_eq_none_iff] at h ⊢; rw [← Paired.length r]; exact h
      rw [this]; exact perm_pair r is
    | some x =>
      obtain ⟨y, h1, h2⟩ := paired_at r h
      rw [h1]; exact .cons h2 (perm_pair r is)
theorem kwG_pair {A B : Type} {F : A → B → Prop} {p n : Nat} {is : List Nat} {us zs : List A} {vs ws : List B} (r : Paired F us vs) (q : Paired F zs ws) : Paired F (kwG p n is us zs) (kwG p n is vs ws) := by
  unfold kwG
  rw [Paired.length r, Paired.length q]
  split
  · exact paired_app r (perm_pair q is)
  · exact .nil
theorem kb_of {K : PySem.W.Frag} {x qual : Str} {st : Stmt} {f : Addr} {fd : FuncData} {ps ks : List Str} {p n : Nat} {is : List Nat} (F : Fun K x qual st f fd) (hp : 0 < ps.length)
    (h : ∀ (kV doc pm : Value) (an : Option Addr) (cdv ct : Value) (us ws : List Value), us.length = p → ws.length = n → bindArgs (PySem.W.fnOf x qual (defArgs st) (defBody st) (defScope st) .none kV doc pm an cdv ct) ⟨us, ks.zip ws⟩ = pure (ps.zip (us ++ permL is ws))) :
    KBinds K fd ps ks (kwG p n is) (kwG p n is) := by
  obtain ⟨oc, od, kV, doc, pm, an, cdv, ct, osl, rfl, lk, hcd⟩ := F.ex
  refine ⟨fun s us ws _ hl => ?_, fun r q => kwG_pair r q⟩
  unfold kwG at hl ⊢
  split
  · rename_i hh
    exact .of_eq (h kV doc pm an cdv ct us ws hh.1 hh.2)
  · rename_i hh
    rw [if_neg hh] at hl
    simp at hl
    omega
abbrev QK (X : Cx) (W : WXT) (kws : List Keyword) (w : TAD) : Prop := PK X kws (liftA X.K W w)
section
variable {X : Cx} {W : WXT} {k : Nat} {f : Addr} {fd : FuncData} {ps ks : List Str} {sp : SpD} {x : Str} {p pos : Pos} {e : Expr} {es : List Expr} {kws : List Keyword} {t tk : TAD} {we : TD}
theorem pk_imp {X : Cx} {e : List Keyword} {t t' : TA} (h : PK X e t) (i : ∀ σ H Q, t' σ H Q → t σ H Q) : PK X e t' := ⟨fun pos pins s σ H Q I q => h.run pos pins s σ H Q I (i σ H Q q)⟩
theorem qk_nil : QK X W [] aNil := pk_imp pk_nil fun σ H Q h => by
  obtain ⟨α, G, ρ, S, k, kx, o, h, q, _⟩ := h
  exact q [] S α G H [] h Ext.refl o .nil
theorem qk_cons {nm : Option Str} {kpos : Pos} (ha : QE X W e we) (hr : QK X W kws t) : QK X W (⟨nm, e, kpos⟩ :: kws) (aCons we t) := by
  refine pk_imp (pk_cons ha hr) fun σ H Q h => ?_
  obtain ⟨α, G, ρ, S, k, kx, o, h, q, qx⟩ := h
  refine ⟨α, G, ρ, S, _, kx, o, h, fun x S1 α1 G1 H1 vx h1 e1 o1 r1 => ?_, qx⟩
  refine ⟨α1, G1, ρ, S1, _, kx, o1, h1, fun cs S2 α2 G2 H2 vs h2 e2 o2 r2 => ?_, qx.ext e1⟩
  exact q _ _ _ _ _ _ h2 (e1.trans e2) o2 (.cons (r1.mono e2.pre e2.same) r2)
/-- the keywords' values put into the parameters' order -/
abbrev aKw (p n : Nat) (is : List Nat) (t tk : TAD) : TAD := fun ρ S k kx => t ρ S (fun us S1 => tk ρ S1 (fun ws S2 => k (kwG p n is us ws) S2) kx) kx
theorem pe_callK0 {g : List Value → List Value → List Value} {gV : List V → List V → List V} {CX : CXT} {E : XK} {sp : Sp} {tk : TA} (F : FnOk X.prog X.w X.K X.mg X.base CX k f fd ps sp) (hr : Room k X.A) (hg : Gl X x) (hm : X.mg x = some (.ref f)) (hk : PySem.W.keepIn X.K (.ref f) = true) (hb : KBinds X.K fd ps ks g gV) (hx : Passes CX X E)
    (hkw : PK X kws tk) (hall : (backToKw pos (keywordEach kws X.env)).all (·.1.isSome) = true := by rfl) (hks : (backToKw pos (keywordEach kws X.env)).filterMap (·.1) = ks := by rfl)
    (hdb : (x == ("__debug__" : Str)) = false := by decide) (hpl : ((backTo pos (starEach [] X.env)).any (·.1) || (backToKw pos (keywordEach kws X.env)).any (·.1.isNone)) = false := by rfl) :
    PE X (.Call (.Name x p) [] kws pos) (fun σ H Q => tk σ H fun zs H2 => sp (gV [] zs) H2 Q E) := by
  refine ⟨fun pins s σ H Q I h => ?_⟩
  refine wpAny_Call_Name_kw (ld_glob I hg hm ?_ hdb)
  refine PySem.W.callWith_KW0 (h₀ := X.base) I.ok.mod.kin hk hall (thn (hkw.run pos pins s σ H _ I h) fun ws s2 ⟨zs, H2, I2, rz, q2⟩ => ⟨I2.kIn, ?_⟩) hpl
  rw [hks]
  exact run_fnk (us := []) (vs := []) F hr hb hx I2 .nil rz q2
/-- f(k = v, ..), nothing by position -/
theorem q_callK0 {n : Nat} {is : List Nat} (F : FnOk X.prog X.w X.K X.mg X.base CX0 k f fd ps (liftSp X.K sp)) (hr : Room k X.A) (hg : Gl X x) (hm : X.mg x = some (.ref f)) (hk : PySem.W.keepIn X.K (.ref f) = true) (hb : KBinds X.K fd ps ks (kwG 0 n is) (kwG 0 n is))
    (hkw : QK X WF kws tk) (hall : (backToKw pos (keywordEach kws X.env)).all (·.1.isSome) = true := by rfl) (hks : (backToKw pos (keywordEach kws X.env)).filterMap (·.1) = ks := by rfl)
    (hdb : (x == ("__debug__" : Str)) = false := by decide) (hpl : ((backTo pos (starEach [] X.env)).any (·.1) || (backToKw pos (keywordEach kws X.env)).any (·.1.isNone)) = false := by rfl) :
    QE X WF (.Call (.Name x p) [] kws pos) (eCall sp (aKw 0 n is aNil tk)) :=
  pe_imp (pe_callK0 F hr hg hm hk hb (E := E0) pass0 hkw hall hks hdb hpl) fun σ H Q h => by
    obtain ⟨α, G, ρ, S, k, kx, o, h1, h2, h3⟩ := lift_call (E := E0) (fun cls d H hh => (hh σ rfl).elim) h
    exact ⟨α, G, ρ, S, _, kx, o, h1, fun cs S' α' G' H' vs a b c d => h2 _ S' α' G' H' _ a b c (kwG_pair .nil d), h3⟩
/-- f(e, .., k = v, ..) -/
theorem q_callK {np n : Nat} {is : List Nat} (F : FnOk X.prog X.w X.K X.mg X.base CX0 k f fd ps (liftSp X.K sp)) (hr : Room k X.A) (hg : Gl X x) (hm : X.mg x = some (.ref f)) (hk : PySem.W.keepIn X.K (.ref f) = true) (hb : KBinds X.K fd ps ks (kwG np n is) (kwG np n is))
    (ha : QA X WF (e :: es) t) (hkw : QK X WF kws tk) (hall : (backToKw pos (keywordEach kws X.env)).all (·.1.isSome) = true := by rfl) (hks : (backToKw pos (keywordEach kws X.env)).filterMap (·.1) = ks := by rfl)
    (hdb : (x == ("__debug__" : Str)) = false := by decide) (he : starEach (e :: es) X.env = (false, eval e X.env) :: starEach es X.env := by rfl)
    (hpl : ((backTo pos (starEach (e :: es) X.env)).any (·.1) || (backToKw pos (keywordEach kws X.env)).any (·.1.isNone)) = false := by rfl) :
    QE X WF (.Call (.Name x p) (e :: es) kws pos) (eCall sp (aKw np n is t tk)) :=
  pe_imp (pe_callK F hr hg hm hk hb (E := E0) pass0 ha hkw hall hks hdb he hpl) fun σ H Q h => by
    obtain ⟨α, G, ρ, S, k, kx, o, h1, h2, h3⟩ := lift_call (E := E0) (fun cls d H hh => (hh σ rfl).elim) h
    refine ⟨α, G, ρ, S, _, kx, o, h1, fun us S1 α1 G1 H1 vs1 a b c d => ?_, h3⟩
    exact ⟨α1, G1, ρ, S1, _, kx, c, a, fun ws S2 α2 G2 H2 vs2 a2 b2 c2 d2 => h2 _ S2 α2 G2 H2 _ a2 (b.trans b2) c2 (kwG_pair (d.mono b2.pre b2.same) d2), h3.ext b⟩
end

/-! ### a def by its body -/
section
variable {P : Program} {w_ : World} {K : PySem.W.Frag} {mg : Str → Option Value} {base : Heap}
def startE (N : List Str) (cs : List C) : Env := cs.map some ++ List.replicate (N.length - cs.length) none
theorem start_ok {α : List Addr} {G H : Hp} {S : Sto} {N : List Str} {cs : List C} {vs : List V} (o : OkS K α G S H) (r : RepCs K α G cs vs) : Ok K α G (startE N cs) S (L2.start N vs) H := by
  have hl := Paired.length r
  refine ⟨o, by unfold startE L2.start; simp [hl], fun i c e => ?_⟩
  unfold startE at e
  by_cases hi : i < cs.length
  · rw [List.getElem?_append_left (by simpa using hi), List.getElem?_map, Option.map_eq_some_iff] at e
    obtain ⟨c', h1, h2⟩ := e
    cases h2
    obtain ⟨v, h3, h4⟩ := paired_at r h1
    refine ⟨v, ?_, h4⟩
    unfold L2.start
    rw [List.getElem?_append_left (by rw [List.length_map, ← hl]; exact hi), List.getElem?_map, h3]; rfl
  · rw [List.getElem?_append_right (by simpa using hi), List.getElem?_replicate] at e
    split at e <;> cases e

/-- THE RULE: a def lets no exception out; its body's reading w, at the arguments -/
theorem fn_ok {x qual : Str} {st : Stmt} {f : Addr} {fd : FuncData} {N ps : List Str} {k : Nat} {sp : SpD} (F : Fun K x qual st f fd) (S : FnScope N ps (defScope st)) (len : ∀ cs S k kx, sp cs S k kx → cs.length = ps.length)
    (hbody : ∀ (cdv : Value) (A : Around) (outer : List PySem.Env) (s : Shared) (H : Hp) (E : XK), Room k (A.deeper (envOfC qual (defScope st) s.heap.objs.size f cdv)) →
      ∃ w, QSs (cxOf CX0 P w_ K mg base N qual (defScope st) f cdv A outer s H E).nox WF (defBody st) w ∧
        ∀ cs S k kx, sp cs S k kx → w ⟨fun _ S' => k (.d .non) S', k, fun _ _ => False, fun _ _ => False, kF⟩ (startE N cs) S) :
    FnOk P w_ K mg base CX0 (k + 1) f fd ps (liftSp K sp) := by
  refine F.ok S (fun vs H Q E h => ?_) fun cdv A outer s H vs Q E hr h => ?_
  · obtain ⟨α, G, cs, S, k, kx, o, r, h, _⟩ := h
    rw [← Paired.length r]
    exact len _ _ _ _ h
  · obtain ⟨α, G, cs, S', k, kx, o, r, h, q, qx⟩ := h
    obtain ⟨w, hw, hs⟩ := hbody cdv A outer s H E hr
    refine ⟨_, hw, α, G, _, S', _, start_ok o r, hs cs S' k kx h, ⟨?_, ?_, ?_, ?_, ?_⟩⟩
    · exact fun ρ' S' α' G' σ' H' h' e' o' => q _ _ _ _ _ _ h' e' o'.st rep_non
    · exact fun c S' α' G' ρ' σ' H' v h' e' o' r' => q _ _ _ _ _ _ h' e' o'.st r'
    · exact fun _ _ _ _ _ _ h' => h'.elim
    · exact fun _ _ _ _ _ _ h' => h'.elim
    · exact xkF
end
end PL

/-! the pure layer, part 8: further primitives -/
namespace PL
open PySem PySem.Spec L2
open PyProof.Rows hiding St

/-! ### over a list or a tuple, whichever it is -/
def iAnyV (K : PySem.W.Frag) (tl : TE) : TI := fun σ H R => tl σ H fun x H1 => ∃ a, x = .ref a ∧ (((∃ xs, SqL K H1 a xs) ∧ R (Itl K a) H1) ∨ ((∃ xs, SqT K H1 a xs) ∧ R (Itt K a) H1))
theorem pi_any {X : Cx} {tg l : Expr} {tl : TE} (hl : PE X l tl) : PI X tg l (iAnyV X.K tl) := by
  refine ⟨fun pins s σ H R I h => ?_⟩
  refine thn (hl.run pins s σ H _ I h) fun v s1 ⟨x, H1, I1, r1, q1⟩ => ?_
  obtain ⟨a, e, q⟩ := q1
  subst e
  cases r1
  rcases q with ⟨⟨xs, hq⟩, q⟩ | ⟨⟨xs, hq⟩, q⟩
  · obtain ⟨its, rv, p, hz⟩ := I1.list hq
    refine wpAny_pyIter_list p.isList ?_
    refine ⟨s1.heap.objs.size, [s1.heap.objs.size], _, _, H1, rfl, I1.kept (t' := s1.toks) fun b o e => Heap.get?_push_of_some _ e, turn_list a _, ⟨_, Heap.get?_push_size _ rfl, rfl, rfl⟩, fun b hb => ?_, q⟩
    have e : b = s1.heap.objs.size := by simpa using hb
    subst e
    exact I1.fpOk (Nat.le_refl _) (I1.hok.fresh (Nat.le_refl _))
  · obtain ⟨its, rv, p, hz⟩ := I1.tuple hq
    refine wpAny_pyIter_tuple (show s1.heap.IsTuple a its.toArray from p) ?_
    refine ⟨s1.heap.objs.size, [s1.heap.objs.size], _, _, H1, rfl, I1.kept (t' := s1.toks) fun b o e => Heap.get?_push_of_some _ e, turn_tuple a _, ⟨_, Heap.get?_push_size _ rfl, rfl, rfl⟩, fun b hb => ?_, q⟩
    have e : b = s1.heap.objs.size := by simpa using hb
    subst e
    exact I1.fpOk (Nat.le_refl _) (I1.hok.fresh (Nat.le_refl _))
def iAny (we : TD) : TID := fun ρ S k kx => we ρ S (fun c S1 => match c with
  | .d (.lst ds) => k ⟨ds, fun _ => True⟩ S1
  | .d (.tup ds) => k ⟨ds, fun _ => True⟩ S1
  | .c j => ∃ ds, S1.own j = some (.lst (ds.map C.d)) ∧ k ⟨ds, fun S => S.own j = some (.lst (ds.map C.d))⟩ S1
  | .d (.scr ns) => k ⟨ns.map D.int, fun _ => True⟩ S1
  | _ => False) kx
section
variable {X : Cx} {W : WXT} {tg e a b : Expr} {we wa wb : TD} {p pos : Pos}
theorem itok_cell {K : PySem.W.Frag} {α1 : List Addr} {G1 : Hp} {j : Nat} {a : Addr} {ds : List D} (f1 : α1[j]? = some a) : ItOk K (Itl K a) ⟨ds, fun S => S.own j = some (.lst (ds.map C.d))⟩ α1 G1 := by
  have key : ∀ α' G' S H, α1 <+: α' → OkS K α' G' S H → S.own j = some (.lst (ds.map C.d)) → ∃ vs, H a = some (.lst vs) ∧ Paired (Rep K G') ds vs := fun α' G' S H hα o hj => by
    obtain ⟨a', f1', f2', vs, f3', rs⟩ := o.cell j _ (own_of hj)
    obtain ⟨t, rfl⟩ := hα
    rw [List.getElem?_append_left (List.getElem?_eq_some_iff.mp f1).1, f1] at f1'
    cases f1'
    exact ⟨vs, f3', RepCs.ofData rs⟩
  refine ⟨fun H => ∃ vs, vs.length = ds.length ∧ H a = some (.lst vs), fun i H x H' => H' = H ∧ ∃ vs, H a = some (.lst vs) ∧ vs[i]? = some x, ⟨fun i H hi ⟨vs, hl, hv⟩ => ?_, fun H ⟨vs, hl, hv⟩ => ?_, fun i H x H' hi ⟨vs, hl, hv⟩ y => ?_⟩, fun α' G' S H hα _ o hj => ?_, fun i α' G' S H x H' hi hα _ o hj y => ?_⟩
  · exact ⟨vs, vs[i]'(by rw [hl]; exact hi), SqL.of hv, List.getElem?_eq_getElem _⟩
  · exact ⟨vs, SqL.of hv, by rw [hl]; exact Nat.le_refl _⟩
  · obtain ⟨e, y⟩ := y
    subst e
    exact ⟨rfl, vs, hv, y vs (SqL.of hv)⟩
  · obtain ⟨vs, h1, p⟩ := key α' G' S H hα o hj
    exact ⟨vs, (Paired.length p).symm, h1⟩
  · obtain ⟨rfl, vs', h1, y⟩ := y
    obtain ⟨vs, h2, p⟩ := key α' G' S _ hα o hj
    rw [h1] at h2; cases h2
    obtain ⟨d, h3, h4⟩ := paired_at' p y
    exact ⟨d, h3, .inl ⟨rfl, h4⟩⟩
theorem itok_tup {K : PySem.W.Frag} {α : List Addr} {G : Hp} {a : Addr} {ds : List D} {vs : List V} (g : G a = some (.tup vs)) (p : Paired (Rep K G) ds vs) : ItOk K (Itt K a) ⟨ds, fun _ => True⟩ α G := by
  refine ⟨_, _, by have := walk_tup (K := K) (a := a) (xs := vs); rw [← Paired.length p] at this; exact this, fun α' G' S H _ hs o _ => SqT.of (o.same _ _ (hs _ _ g)), fun i α' G' S H x H' hi _ hs o _ y => ?_⟩
  obtain ⟨rfl, y⟩ := y
  obtain ⟨d, h1, h2⟩ := paired_at' p y
  exact ⟨d, h1, .inl ⟨rfl, Rep.mono hs _ _ h2⟩⟩
theorem qi_any (he : QE X W e we) : QI X W tg e (iAny we) := pi_imp (pi_any he) fun σ H R h => by
  obtain ⟨α, G, ρ, S, k, kx, o, h, q, qx⟩ := h
  refine ⟨α, G, ρ, S, _, kx, o, h, fun c S1 α1 G1 H1 v h1 e1 o1 r1 => ?_, qx⟩
  split at h1
  · rename_i ds
    simp only [RepC] at r1
    unfold Rep at r1
    obtain ⟨a, vs, e, g, rs⟩ := r1
    exact ⟨a, e, .inl ⟨⟨vs, SqL.of (o1.st.same _ _ g)⟩, q _ _ _ _ _ _ h1 e1 o1 (itok_list (SqL.of g) rs.pair)⟩⟩
  · rename_i ds
    obtain ⟨a, vs, e, g, hh, p⟩ := tup_rep o1 r1
    exact ⟨a, e, .inr ⟨⟨vs, SqT.of hh⟩, q _ _ _ _ _ _ h1 e1 o1 (itok_tup g p)⟩⟩
  · rename_i j
    obtain ⟨ds, hj, h1⟩ := h1
    obtain ⟨a, f1, f2, vs, f3, rs⟩ := o1.cellAt hj
    obtain ⟨b, g1, g2⟩ := r1
    rw [f1] at g1; cases g1
    exact ⟨a, g2, .inl ⟨⟨vs, SqL.of f3⟩, q _ _ _ _ _ _ h1 e1 o1 (itok_cell f1)⟩⟩
  · rename_i ns
    simp only [RepC] at r1
    unfold Rep at r1
    obtain ⟨a, e, g⟩ := r1
    refine ⟨a, e, .inl ⟨⟨_, Same.seq o1.st.same g⟩, q _ _ _ _ _ _ h1 e1 o1 (itok_list g ?_)⟩⟩
    exact RepCs.ofData (α := []) (by rw [← ints_map]; exact reps_ints rfl)
  · exact h1.elim
theorem qi_range2 (hg : Gl X "range") (hm : X.mg "range" = none) (ha : QE X W a wa) (hb : QE X W b wb) (hs : starEach [a, b] X.env = [(false, eval a X.env), (false, eval b X.env)] := by rfl) (hs2 : starEach [b] X.env = [(false, eval b X.env)] := by rfl)
    (ha' : starEach [a, b] X.env = (false, eval a X.env) :: starEach [b] X.env := by rfl) (hb' : starEach [b] X.env = (false, eval b X.env) :: starEach [] X.env := by rfl) : QI X W tg (.Call (.Name "range" p) [a, b] [] pos) (iRange (eRg2 wa wb)) :=
  pi_imp (pi_range2 hg hm (qa_cons ha (qa_cons hb qa_nil hb') ha') hs hs2) fun σ H R h => by
    obtain ⟨α, G, ρ, S, k, kx, o, h, q, qx⟩ := h
    let kk : C → C → Sto → Prop := fun c c2 S2 => match c, c2 with
      | .d (.int i), .d (.int j) => (-(2 ^ 62) ≤ i ∧ i < 2 ^ 62 ∧ -(2 ^ 62) ≤ j ∧ j < 2 ^ 62) ∧ k ⟨(rgD i j).map D.int, fun _ => True⟩ S2
      | _, _ => False
    have h' : wa ρ S (fun c S1 => wb ρ S1 (fun c2 S2 => kk c c2 S2) kx) kx := h
    refine ⟨α, G, ρ, S, fun cs S1 => match cs with
      | [c, c2] => kk c c2 S1
      | _ => False, kx, o, h', fun cs S1 α1 G1 H1 vs h1 e1 o1 r1 => ?_, qx⟩
    match cs, r1, h1 with
    | [c, c2], r1, h1 =>
    have h2 : kk c c2 S1 := h1
    obtain ⟨v, v2, rfl, r, r'⟩ := rep2 r1
    cases c with
    | c i => exact False.elim h2
    | d x =>
      cases x with
      | int i =>
        cases c2 with
        | c i => exact False.elim h2
        | d y =>
          cases y with
          | int j =>
            obtain ⟨hb, h2⟩ := h2
            exact ⟨i, j, by rw [of_int r, of_int r'], hb, q _ _ _ _ _ _ h2 e1 o1 (itok_range i j)⟩
          | _ => exact False.elim h2
      | _ => exact False.elim h2
end

/-! ### dict displays -/
section
variable {X : Cx} {W : WXT} {pos : Pos}
def pairsD : List (TD × TD) → Env → Sto → (List (C × C) → Sto → Prop) → KX → Prop
  | [], _, S, k, _ => k [] S
  | (a, b) :: r, ρ, S, k, kx => a ρ S (fun x S1 => b ρ S1 (fun y S2 => pairsD r ρ S2 (fun ps S3 => k ((x, y) :: ps) S3) kx) kx) kx
def keyC : C → Option Key
  | .d x => keyD x
  | _ => none
def keysP : List (C × C) → Option (List (Key × C))
  | [] => some []
  | p :: r => match keyC p.1, keysP r with
    | some k, some ks => some ((k, p.2) :: ks)
    | _, _ => none
def mergeG (kvs more : List (Key × C)) : List (Key × C) := more.foldl (fun acc kv => putG acc kv.1 kv.2) kvs
def eDisp (ws : List (TD × TD)) : TD := fun ρ S k kx => pairsD ws ρ S (fun ps S1 => ∃ kvs, keysP ps = some kvs ∧ kvs.length ≤ 15 ∧ k (.c S1.length) (S1 ++ [some (.dK (mergeG [] kvs))])) kx
structure QPs (X : Cx) (W : WXT) (pos : Pos) (keys : List (Option Expr)) (values : List Expr) (ws : List (TD × TD)) : Prop where
  trs : ∃ trs, PPs X pos keys values trs ∧ ∀ σ H (Q : List (V × V) → Hp → Prop), (∃ α G ρ S k kx, Ok X.K α G ρ S σ H ∧ pairsD ws ρ S k kx ∧
    (∀ ps S' α' G' H' vs, k ps S' → Ext α G H α' G' H' → Ok X.K α' G' ρ S' σ H' → Paired (fun (p : C × C) (q : V × V) => RepC X.K α' G' p.1 q.1 ∧ RepC X.K α' G' p.2 q.2) ps vs → Q vs H') ∧ XKont X.K W α G H kx) → tPairs trs σ H Q
theorem qps_nil : QPs X W pos [] [] [] := ⟨[], pps_nil, fun σ H Q h => by
  obtain ⟨α, G, ρ, S, k, kx, o, h, q, _⟩ := h
  exact q [] S α G H [] h Ext.refl o .nil⟩
theorem qps_cons {k v : Expr} {ks : List (Option Expr)} {vs : List Expr} {wk wv : TD} {ws : List (TD × TD)} (hk : QE X W k wk) (hv : QE X W v wv) (hr : QPs X W pos ks vs ws) : QPs X W pos (some k :: ks) (v :: vs) ((wk, wv) :: ws) := by
  obtain ⟨trs, hp, hi⟩ := hr.trs
  refine ⟨_, pps_cons hk hv hp, fun σ H Q h => ?_⟩
  obtain ⟨α, G, ρ, S, k, kx, o, h, q, qx⟩ := h
  refine ⟨α, G, ρ, S, _, kx, o, h, fun x S1 α1 G1 H1 v1 h1 e1 o1 r1 => ?_, qx⟩
  refine ⟨α1, G1, ρ, S1, _, kx, o1, h1, fun y S2 α2 G2 H2 v2 h2 e2 o2 r2 => ?_, qx.ext e1⟩
  refine hi σ H2 _ ⟨α2, G2, ρ, S2, _, kx, o2, h2, fun ps S3 α3 G3 H3 vs3 h3 e3 o3 r3 => ?_, (qx.ext e1).ext e2⟩
  have r1' := (r1.mono e2.pre e2.same).mono e3.pre e3.same
  have r2' := r2.mono e3.pre e3.same
  exact q _ _ _ _ _ _ h3 ((e1.trans e2).trans e3) o3 (.cons ⟨r1', r2'⟩ r3)
theorem keysP_rep {K : PySem.W.Frag} {α : List Addr} {G : Hp} : ∀ {ps : List (C × C)} {vs : List (V × V)} {kvs : List (Key × C)}, keysP ps = some kvs → Paired (fun (p : C × C) (q : V × V) => RepC K α G p.1 q.1 ∧ RepC K α G p.2 q.2) ps vs →
    ∃ ws : List (Key × V), vs = ws.map (fun kv => (kV kv.1, kv.2)) ∧ Paired (fun (p : Key × C) (q : Key × V) => p.1 = q.1 ∧ RepC K α G p.2 q.2) kvs ws
  | [], _, kvs, h, .nil => by simp [keysP] at h; subst h; exact ⟨[], rfl, .nil⟩
  | (c, d) :: r, (x, y) :: t, kvs, h, .cons p rr => by
    unfold keysP at h
    split at h
    · rename_i k ks h1 h2
      cases h
      obtain ⟨ws, e, pp⟩ := keysP_rep h2 rr
      have hk : x = kV k := by
        cases c with
        | c i => cases h1
        | d z => exact keyD_rep p.1 h1
      exact ⟨(k, y) :: ws, by rw [e, hk]; rfl, .cons ⟨rfl, p.2⟩ pp⟩
    · cases h
theorem merge_pair {F : C → V → Prop} : ∀ {more : List (Key × C)} {ms : List (Key × V)} {kvs : List (Key × C)} {vs : List (Key × V)}, Paired (fun (p : Key × C) (q : Key × V) => p.1 = q.1 ∧ F p.2 q.2) more ms → Paired (fun (p : Key × C) (q : Key × V) => p.1 = q.1 ∧ F p.2 q.2) kvs vs →
    Paired (fun (p : Key × C) (q : Key × V) => p.1 = q.1 ∧ F p.2 q.2) (mergeG kvs more) (mergeK vs ms)
  | _, _, _, _, .nil, r => r
  | (k, c) :: _, (k', v) :: _, _, _, .cons p t, r => by
    have e : k = k' := p.1
    subst e
    exact merge_pair (more := _) (ms := _) (kvs := putG _ k c) (vs := putK _ k v) t (put_pair r k p.2)
theorem q_disp {keys : List (Option Expr)} {values : List Expr} {ws : List (TD × TD)} (h : QPs X W pos keys values ws) (hall : keys.all (·.isSome) = true := by rfl) (hl : keys.length = values.length := by rfl) (h0 : keys ≠ [] := by intro z; cases z) (hle : keys.length ≤ 15 := by decide) : QE X W (.Dict keys values pos) (eDisp ws) := by
  obtain ⟨trs, hp, hi⟩ := h.trs
  refine pe_imp (pe_disp hp hall hl h0 hle) fun σ H Q h => ?_
  obtain ⟨α, G, ρ, S, k, kx, o, h, q, qx⟩ := h
  intro p hpn
  obtain ⟨hg, ha⟩ := o.st.fresh hpn
  have e0 : Ext α G H α G (upd H p (.dK [])) := Ext.refl.side hpn
  have o0 := o.reenv (o.st.side (u := .dK []) hg ha (fun x => by rw [hpn]; simp)) e0
  refine hi σ _ _ ⟨α, G, ρ, S, _, kx, o0, h, fun ps S1 α1 G1 H1 vs h1 e1 o1 r1 => ?_, qx.ext e0⟩
  obtain ⟨kvs, hk, hlen, h1⟩ := h1
  obtain ⟨k1, k2, k3⟩ := e1.keep p (by rw [upd_same]; simp) hg ha
  rw [upd_same] at k1
  obtain ⟨us, e2, pp⟩ := keysP_rep hk r1
  refine ⟨k1, us, e2, by rw [← Paired.length pp]; exact hlen, ?_⟩
  have hd : upd H1 p (.dK (mergeK [] us)) p = some (.dK (mergeK [] us)) := upd_same
  have os := (o1.st.side (u := .dK (mergeK [] us)) k2 k3 (fun x => by rw [k1]; simp)).adoptC (w := .dK (mergeG [] kvs)) k2 k3 hd (fun x => by simp) ⟨_, hd, (by
    have := merge_pair pp (.nil : Paired (fun (p : Key × C) (q : Key × V) => p.1 = q.1 ∧ RepC X.K α1 G1 p.2 q.2) [] [])
    exact Paired.mapP this fun _ _ x => ⟨x.1, x.2.mono (List.prefix_append _ _) (Same.refl _)⟩)⟩
  have ef : Ext α G H (α1 ++ [p]) G1 (upd H1 p (.dK (mergeK [] us))) := ⟨(e0.trans e1).pre.trans (List.prefix_append _ _), (e0.trans e1).same, fun b h1 h2 h3 => by
    have hne : b ≠ p := fun q => h1 (q ▸ hpn)
    obtain ⟨j1, j2, j3⟩ := (e0.trans e1).keep b h1 h2 h3
    exact ⟨by rw [upd_ne hne]; exact j1, j2, by simp [j3, hne]⟩⟩
  exact q _ _ _ _ _ _ h1 ef (o.reenv os ef) ⟨p, by rw [← o1.st.len]; simp, rfl⟩
def eDNewK : TD := fun _ S k _ => k (.c S.length) (S ++ [some (.dK [])])
def eDNewT : TD := fun _ S k _ => k (.c S.length) (S ++ [some (.dT [])])
theorem q_dnewK : QE X W (.Dict [] [] pos) eDNewK := pe_imp pe_dnewK fun σ H Q h => by
  obtain ⟨α, G, ρ, S, k, kx, o, h, q, qx⟩ := h
  intro p hp
  obtain ⟨o', e⟩ := o.st.newC (w := .dK []) (u := .dK []) hp (fun x => by simp) ⟨[], upd_same, .nil⟩
  exact q _ _ _ _ _ _ h e (o.reenv o' e) ⟨p, by rw [← o.st.len]; simp, rfl⟩
theorem q_dnewT : QE X W (.Dict [] [] pos) eDNewT := pe_imp pe_dnewT fun σ H Q h => by
  obtain ⟨α, G, ρ, S, k, kx, o, h, q, qx⟩ := h
  intro p hp
  obtain ⟨o', e⟩ := o.st.newC (w := .dT []) (u := .dT []) hp (fun x => by simp) ⟨[], upd_same, .nil⟩
  exact q _ _ _ _ _ _ h e (o.reenv o' e) ⟨p, by rw [← o.st.len]; simp, rfl⟩
end

/-! ### sum of a list or a tuple of ints -/
section
variable {K : PySem.W.Frag}
def rSumA (K : PySem.W.Frag) : List V → Hp → VK → Prop := fun vs H Q => ∃ (a : Addr) (ns : List Int), vs = [V.ref a] ∧ (SqL K H a (ns.map V.int) ∨ SqT K H a (ns.map V.int)) ∧ Q (.int ns.sum) H
theorem cr_sumA {X : Cx} (hc : X.calm = true) : CallR X (.builtin "sum") (rSumA X.K) := by
  intro pins s σ H xs us Q I r h
  obtain ⟨a, ns, rfl, hs, q⟩ := h
  rcases hs with hs | hs
  · exact cr_sum hc pins s σ H _ us Q I r ⟨a, ns, rfl, hs, q⟩
  · obtain ⟨its, rv, p, hz⟩ := I.tuple hs
    obtain rfl := Vals.ref1 r
    have hi := Vals.ints rv
    obtain ⟨xs, e⟩ := hi.allInts.items
    have hn : numsOf (intItems xs).toList = ns := by rw [← e]; exact hi.numsOf
    rw [nums_intItems] at hn
    refine PySem.W.ktm_sumG (xs := xs) (I.ok.hd hc) (by rw [← e]; exact p) fun h' tk t' k => ?_
    rw [preSum_eq, List.take_of_length_le (by simp), hn]
    exact ⟨.int ns.sum, H, I.kept k, ⟨_, rfl⟩, q⟩
def dSumA : RCD := fun cs S k => match cs with
  | [x] => ∃ ns, seqOf S x = some (cInts ns) ∧ k (.d (.int ns.sum)) S
  | _ => False
theorem d_sumA : CallD K (rSumA K) dSumA := ⟨fun {α G H ρ S σ cs vs k Q} o r h q => by
  unfold dSumA at h
  split at h
  · obtain ⟨ns, e, h⟩ := h
    obtain ⟨v, e1, r1⟩ := rep1 r
    obtain ⟨a, ys, e2, hs, rs⟩ := seq_rep o r1 e
    rw [reps_cInts rs] at hs
    exact ⟨a, ns, by rw [e1, e2], hs, q.here o h rep_int⟩
  · exact h.elim⟩
end
end PL

/-! the pure layer, part 9: enumerate of a tuple, slices with a step, by the library's own rules -/
namespace PL
open PySem PySem.Spec L2
open PyProof.Rows hiding St

/-! ### enumerate of anything that begins -/
theorem meets_enum1 {v : Value} {o : Obj} {H : Heap → Prop} (B : Begins v o H) :
    Meets (Builtin.«enumerate.__new__» ⟨[.type "enumerate", v], []⟩) (fun _ R s => H s.heap ∧
      R (.ok (.ret (.ref (s.heap.push o).objs.size))) { s with heap := (s.heap.push o).push { cls := .type "enumerate", data := .fields #[.none, .bool false, .ref s.heap.objs.size, rawInt 0, .none, .none] } }) :=
  .of_wp fun prog w A R s h => by
    obtain ⟨hp, g, d, tk, os⟩ := s; obtain ⟨h1, h⟩ := h
    have hsub := sub_enumerate
    have q1 : ∀ {A' : Around} {E : Value → Shared → Prop} {Q : Value → Shared → Prop}, Q (.ref hp.objs.size) ⟨hp.push o, g, d, tk, os⟩ → wpAny (model prog w) A' (pyIter v) Q E ⟨hp, g, d, tk, os⟩ :=
      fun q => B.iter prog w _ _ ⟨hp, g, d, tk, os⟩ _ h1 q
    wp_walk using q1
    refine wpAny_stack_any fun st => wpAny_pure ?_
    split
    · rename_i c _ _ _ _ _
      cases (c == Value.type "enumerate")
      · wp_walk using q1
        exact ⟨_, rfl, h⟩
      · wp_walk using q1
        exact ⟨_, rfl, h⟩
    · wp_walk using q1
      exact ⟨_, rfl, h⟩
section
variable {prog : Program} {w : World} {A : Around} {E : Value → Shared → Prop} {s : Shared}
theorem enum1_begins {v : Value} {o : Obj} {H : Heap → Prop} {Q : Value → Shared → Prop} (B : Begins v o H) (h1 : H s.heap)
    (h : ∀ h', IsEnum h' (s.heap.objs.size + 1) s.heap.objs.size 0 .none → h'.get? s.heap.objs.size = some o → h'.objs.size = s.heap.objs.size + 2 →
      (∀ b o, s.heap.get? b = some o → h'.get? b = some o) → Q (.ref (s.heap.objs.size + 1)) { s with heap := h' }) :
    wpAny (model prog w) A (call (.type "enumerate") [v]) Q E s := by
  refine callType_new F.called_enumerate (by decide) (F.typeCall_enumerate_1 _) (F.newCall_enumerate_1 _) (fun obj => F.args_object_init_2 obj _) F.entry_enumerate_new
    (meets_enum1 B) ⟨h1, ?_⟩
  have hz : (s.heap.push o).objs.size = s.heap.objs.size + 1 := Heap.size_push ..
  show _ ∧ _
  rw [hz]
  have he : IsEnum ((s.heap.push o).push { cls := .type "enumerate", data := .fields #[.none, .bool false, .ref s.heap.objs.size, rawInt 0, .none, .none] }) (s.heap.objs.size + 1) s.heap.objs.size 0 .none := by
    have := Heap.get?_push_size (s.heap.push o) (o := { cls := .type "enumerate", data := .fields #[.none, .bool false, .ref s.heap.objs.size, rawInt 0, .none, .none] }) rfl
    rw [hz] at this; exact this
  refine ⟨⟨_, he, rfl⟩, h _ he (Heap.get?_push_of_some _ (Heap.get?_push_size _ B.free)) (by rw [Heap.size_push, hz]) fun b o x => Heap.get?_push_of_some _ (Heap.get?_push_of_some _ x)⟩
end
/-- the tuple at a, each item in a new pair -/
def IteT (K : PySem.W.Frag) (a : Addr) : It :=
  ⟨fun i H => ∃ (xs : List V) (x : V), SqT K H a xs ∧ xs[i]? = some x, fun i H v H' => ∃ T x, v = .ref T ∧ H T = none ∧ H' = upd H T (.tup [.int (i : Nat), x]) ∧ ∀ xs, SqT K H a xs → xs[i]? = some x, fun i H => ∃ xs : List V, SqT K H a xs ∧ xs.length = i⟩
theorem turn_enumT {P : Program} {w : World} {K : PySem.W.Frag} {elts : List Expr} {kk : Nat} {tpos : Pos} (a e it : Addr) :
    Turn P w K (.Tuple elts kk tpos) (IteT K a) [e, it] e (fun i h => (∃ old, IsEnum h e it ((i : Nat) : Int) old) ∧ h.IsTupleIter it a i ∧ e ≠ it) where
  mem := by simp
  obj := fun i h st b hb => by
    obtain ⟨⟨old, he⟩, ⟨o, ho, hc, hd⟩, _⟩ := st
    have e' : b = e ∨ b = it := by simpa using hb
    rcases e' with z | z
    · rw [z]; exact ⟨_, he, fun v q => nomatch q⟩
    · rw [z]; exact ⟨o, ho, fun v q => by rw [hd] at q; cases q⟩
  keep := fun i h h' st k => let ⟨⟨old, he⟩, hi, hne⟩ := st; ⟨⟨old, k e (by simp) _ he⟩, hi.at fun o q => k it (by simp) o q, hne⟩
  item := by
    intro X hP hw hK hc i pins s σ H E I hf st hg
    subst hP hw hK
    obtain ⟨⟨old, he⟩, hit, hne⟩ := st
    obtain ⟨xs, x, hq, hx⟩ := hg
    obtain ⟨its, rv, p, hz⟩ := I.tuple hq
    obtain ⟨u, hu, ru⟩ := rv.get hx
    have hel : e < s.heap.objs.size := Heap.lt_size he
    have hil : it < s.heap.objs.size := by obtain ⟨_, q, _⟩ := hit; exact Heap.lt_size q
    have hta : s.heap.IsTuple a its.toArray := p
    have hne2 : a ≠ it := by
      intro q
      obtain ⟨o1, g1, c1, n1, d1⟩ := hta
      obtain ⟨o2, g2, c2, d2⟩ := hit
      rw [q, g2] at g1; cases g1
      rw [d2] at d1; cases d1
    have hae : a ≠ e := by
      intro q
      obtain ⟨o1, g1, c1, n1, d1⟩ := hta
      rw [q, show s.heap.get? e = _ from he] at g1; cases g1
      cases d1
    refine wpAny_pyNext_enum_itemD (P := fun i v => its.toArray[i]? = some v) (D := Draws.tuple (A := X.A.in1) (show X.A.in1.handled = none from I.ok.hd hc) it a hne2 its.toArray) he ⟨hit, hta⟩ (by
      have := rv.length
      have h2 := (List.getElem?_eq_some_iff.mp hx).1
      simp; omega) hne (by simp [hne, Ne.symm hae]) fun v h' tk hv ho hst' hT hsz hk => ?_
    have hvu : v = u := by
      have : its.toArray[i]? = some u := by simpa using hu
      rw [this] at hv; exact (Option.some.inj hv).symm
    subst hvu
    refine ⟨_, rfl, wpAny_letOwnedTupleGo_enum (s := { s with heap := h', toks := tk + 1 }) ho fun h'' he' sb => ?_⟩
    have hT2 : h''.get? s.heap.objs.size = some { cls := .type "tuple", data := .seq #[.int i tk, v] } := (sb.2 _ (Nat.ne_of_gt hel)).trans hT
    have new : ObjOk X.prog X.w (upd H s.heap.objs.size (.tup [.int (i : Nat), x])) h'' s.heap.objs.size (.tup [.int (i : Nat), x]) :=
      ⟨by show 2 ≤ sizeLine; decide, [.int i tk, v], .cons ⟨_, rfl⟩ (.cons ru .nil), ⟨_, hT2, rfl, _, rfl⟩⟩
    have I1 : Inv X pins σ (upd H s.heap.objs.size (.tup [.int (i : Nat), x])) { s with heap := h'', toks := tk + 1 } :=
      I.turnedNew (ch := [e, it]) (fun b ob hb q => (sb.2 b (fun z => hb (by simp [z]))).trans (hk b ob (fun z => hb (by simp [z])) (fun z => hb (by simp [z])) q)) hf (Nat.le_refl _) new
    refine ⟨.ref s.heap.objs.size, _, I1, rfl, ⟨_, x, rfl, I.hok.fresh (Nat.le_refl _), rfl, fun ys hy => by rw [I.tuple_inj hy hq]; exact hx⟩, ⟨⟨v, ?_⟩, hst'.1.at fun o q => (sb.2 it (Ne.symm hne)).trans q, hne⟩, fun b hb => ?_⟩
    · have e1 : ((i + 1 : Nat) : Int) = (i : Int) + 1 := by omega
      rw [e1]; exact he'
    · have hb' : b < s.heap.objs.size := by
        have e' : b = e ∨ b = it := by simpa using hb
        rcases e' with z | z
        · rw [z]; exact hel
        · rw [z]; exact hil
      rw [upd_ne (Nat.ne_of_lt hb')]
      exact (hf b hb).1
  done := by
    intro X hP hw hK hc i pins s σ H E I hf st hg
    subst hP hw hK
    obtain ⟨⟨old, he⟩, hit, hne⟩ := st
    obtain ⟨xs, hq, hx⟩ := hg
    obtain ⟨its, rv, p, hz⟩ := I.tuple hq
    obtain ⟨f0, f1, f2, f3, f4, f5⟩ := hf it (by simp)
    have hl := rv.length
    have hta : s.heap.IsTuple a its.toArray := p
    have hne2 : a ≠ it := by
      intro q
      obtain ⟨o1, g1, c1, n1, d1⟩ := hta
      obtain ⟨o2, g2, c2, d2⟩ := hit
      rw [q, g2] at g1; cases g1
      rw [d2] at d1; cases d1
    have hsz : i = its.toArray.size := by simp; omega
    subst hsz
    exact wpAny_pyNext_enum_endD (P := fun i v => its.toArray[i]? = some v) (Draws.tuple (A := X.A.in1) (show X.A.in1.handled = none from I.ok.hd hc) it a hne2 its.toArray) he ⟨hit, hta⟩ fun h' eb => ⟨rfl, I.turned (t' := s.toks) (fun b o hb q => eb b o hb q) f0 f1 f3 f4 f5⟩
  self := fun A i s Q E st h => let ⟨⟨_, he⟩, _⟩ := st; wpAny_pyIter_enum he h
def iEnumA (K : PySem.W.Frag) (ta : TA) : TI := fun σ H R => ta σ H fun vs H1 => ∃ a xs, vs = [.ref a] ∧ ((SqL K H1 a xs ∧ R (Ite K a) H1) ∨ (SqT K H1 a xs ∧ R (IteT K a) H1))
theorem pi_enumA {X : Cx} {e : Expr} {ta : TA} {p pos tpos : Pos} {elts : List Expr} {kk : Nat} (hg : Gl X "enumerate") (hm : X.mg "enumerate" = none) (ha : PA X [e] ta) (hs : starEach [e] X.env = [(false, eval e X.env)] := by rfl) :
    PI X (.Tuple elts kk tpos) (.Call (.Name "enumerate" p) [e] [] pos) (iEnumA X.K ta) := by
  refine ⟨fun pins s σ H R I h => ?_⟩
  refine Call_ (ld_blt I hg hm boot_enumerate (PyProof.Rows.callWith_type1 (thn (ha.run pos pins s σ H _ I h) fun us s1 ⟨vs, H1, I1, r1, q1⟩ => ?_) hs rfl))
  obtain ⟨a, xs, ex, q1⟩ := q1
  subst ex
  cases r1 with
  | cons r rr =>
    cases rr
    cases r
    have fpk : ∀ b ∈ [s1.heap.objs.size + 1, s1.heap.objs.size], FpOk X pins H1 b := fun b hb => by
      have e' : b = s1.heap.objs.size + 1 ∨ b = s1.heap.objs.size := by simpa using hb
      have hle : s1.heap.objs.size ≤ b := by
        rcases e' with z | z
        · rw [z]; exact Nat.le_add_right _ _
        · rw [z]; exact Nat.le_refl _
      exact I1.fpOk hle (I1.hok.fresh hle)
    rcases q1 with ⟨hq, q⟩ | ⟨hq, q⟩
    · obtain ⟨its, rv, p', hz⟩ := I1.list hq
      refine call_enumerate_list p'.isList fun h' he hit hsz hk => wpAny_pyIter_enum he ?_
      have I2 : Inv X pins σ H1 { s1 with heap := h' } := I1.kept (t' := s1.toks) hk
      exact ⟨s1.heap.objs.size + 1, [s1.heap.objs.size + 1, s1.heap.objs.size], _, _, H1, rfl, I2, turn_enum a (s1.heap.objs.size + 1) s1.heap.objs.size, ⟨⟨.none, he⟩, hit, Nat.succ_ne_self _⟩, fpk, q⟩
    · obtain ⟨its, rv, p', hz⟩ := I1.tuple hq
      refine enum1_begins (begins_tuple a its.toArray) p' fun h' he hit hsz hk => wpAny_pyIter_enum he ?_
      have I2 : Inv X pins σ H1 { s1 with heap := h' } := I1.kept (t' := s1.toks) hk
      exact ⟨s1.heap.objs.size + 1, [s1.heap.objs.size + 1, s1.heap.objs.size], _, _, H1, rfl, I2, turn_enumT a (s1.heap.objs.size + 1) s1.heap.objs.size, ⟨⟨.none, he⟩, ⟨_, hit, rfl, rfl⟩, Nat.succ_ne_self _⟩, fpk, q⟩

/-! ### t[lo::k], a tuple -/
section
variable {prog : Program} {w : World} {A : Around} {E : Value → Shared → Prop} {s : Shared}
/-- how many places a slice with the step k has -/
def cntK (n i k : Nat) : Nat := (n - i + k - 1) / k
theorem adjustK {k : Nat} (hk : 0 < k) (lo : Option Int) (n : Nat) : Builtin.Slice.sliceAdjust lo none (k : Int) (n : Int) = (((HT.sIx n 0 lo : Nat) : Int), (n : Int)) := by
  have h1 : ¬ ((k : Int) < 0) := by omega
  unfold Builtin.Slice.sliceAdjust
  simp only [h1, if_false]
  refine Prod.ext ?_ rfl
  cases lo with
  | none => rfl
  | some v => exact HT.clip_eq v n 0
theorem placesK {k : Nat} (hk : 0 < k) (i n : Nat) (hi : i ≤ n) : Builtin.Slice.slicePlaces (i : Int) (n : Int) (k : Int) = cntK n i k := by
  unfold Builtin.Slice.slicePlaces cntK
  have h1 : (k : Int) > 0 := by omega
  simp only [h1, if_true]
  by_cases h : (i : Int) < (n : Int)
  · rw [if_pos h]
    have h' : i < n := by omega
    have e1 : ((n : Int) - (i : Int) - 1) = ((n - 1 - i : Nat) : Int) := by omega
    have e2 : n - i + k - 1 = (n - 1 - i) + k := by omega
    rw [e2, Nat.add_div_right _ hk, e1, ← Int.natCast_ediv]
    generalize (n - 1 - i) / k = q
    omega
  · rw [if_neg h]
    have : n - i + k - 1 = k - 1 := by omega
    rw [this, Nat.div_eq_of_lt (by omega)]
    rfl
theorem sliceApplied_K {k : Nat} (hk : 1 < k) {tk : Tok} {sl : Addr} {vl : Value} {lo : Option Int} {n : Nat} {Q : Int × Int × Nat → Shared → Prop} (hs : s.heap.IsSliceOf sl vl .none (.int (k : Int) tk)) (pl : IsPart vl lo)
    (h : Q (((HT.sIx n 0 lo : Nat) : Int), (k : Int), cntK n (HT.sIx n 0 lo) k) s) : wpAny (model prog w) A (Builtin.Slice.sliceApplied (.ref sl) (pure (n : Int))) Q E s := by
  obtain ⟨os, hos, hcs, hds⟩ := id hs
  unfold Builtin.Slice.sliceApplied Builtin.Slice.sliceFields
  refine wpAny_bind (wpAny_bind (wpAny_field hos hds (x := vl) rfl (wpAny_bind (wpAny_field hos hds (x := .none) rfl (wpAny_bind (wpAny_field hos hds (x := .int (k : Int) tk) rfl (wpAny_pure ?_)))))))
  refine wpAny_bind (slicePart_int ?_)
  show wpAny _ _ (if (((k : Int)) == 0) = true then _ else _) _ _ s
  rw [if_neg (by intro q; have := eq_of_beq q; omega)]
  refine wpAny_bind (HT.slicePart_ pl (wpAny_bind (slicePart_none (wpAny_bind (wpAny_pure ?_)))))
  show wpAny _ _ (match Builtin.Slice.sliceAdjust lo none (k : Int) (n : Int) with | (lo, hi) => pure (lo, (k : Int), Builtin.Slice.slicePlaces lo hi (k : Int))) _ _ s
  rw [adjustK (by omega) lo n]
  show wpAny _ _ (pure (((HT.sIx n 0 lo : Nat) : Int), (k : Int), Builtin.Slice.slicePlaces ((HT.sIx n 0 lo : Nat) : Int) (n : Int) (k : Int))) _ _ s
  rw [placesK (by omega) _ _ (HT.sIx_le n 0 (Nat.zero_le _) lo)]
  exact wpAny_pure h
theorem cnt_le {k : Nat} (hk : 0 < k) (n i : Nat) : cntK n i k ≤ n := by
  unfold cntK
  refine Nat.le_trans (Nat.div_le_div_right (show _ ≤ n + (k - 1) by omega)) ?_
  rcases Nat.eq_zero_or_pos n with h0 | h0
  · rw [h0, Nat.div_eq_of_lt (by omega)]; exact Nat.zero_le _
  · refine Nat.div_le_of_le_mul ?_
    have : n * k ≥ n + (k - 1) := by
      obtain ⟨m, hm⟩ : ∃ m, n = m + 1 := ⟨n - 1, by omega⟩
      obtain ⟨j, hj⟩ : ∃ j, k = j + 1 := ⟨k - 1, by omega⟩
      rw [hm, hj, Nat.add_mul, Nat.mul_add]
      have : m * j ≥ 0 := Nat.zero_le _
      omega
    rw [Nat.mul_comm]; omega
def strideG {β : Type} (xs : List β) (i k : Nat) : List β := (List.range (cntK xs.length i k)).filterMap fun m => xs[i + m * k]?
theorem getItem_tuple_K {k : Nat} (hk : 1 < k) {tk : Tok} {t sl : Addr} {items : Array Value} {vl : Value} {lo : Option Int} {Q : Value → Shared → Prop} (ht : IsTup s.heap t items) (hs : s.heap.IsSliceOf sl vl .none (.int (k : Int) tk)) (pl : IsPart vl lo)
    (h : Q (.ref s.heap.objs.size) { s with heap := s.heap.push { cls := .type "tuple", data := .seq (strideG items.toList (HT.sIx items.size 0 lo) k).toArray } })
    (hsz : items.size ≤ sizeLine) : wpAny (model prog w) A (getItem (.ref t) (.ref sl)) Q E s := by
  have hlen : (strideG items.toList (HT.sIx items.size 0 lo) k).length ≤ items.size := by
    unfold strideG
    refine Nat.le_trans (List.length_filterMap_le _ _) ?_
    rw [List.length_range, Array.length_toList]
    exact cnt_le (by omega) _ _
  have htake : sizeOk (.seq (strideG items.toList (HT.sIx items.size 0 lo) k).toArray) := by
    show (strideG items.toList (HT.sIx items.size 0 lo) k).toArray.size ≤ sizeLine
    rw [List.size_toArray]
    omega
  obtain ⟨os, hos, hcs, hds⟩ := id hs
  have hTs : s.TypeIs (.ref sl) "slice" := ⟨os, hos, hcs⟩
  unfold getItem
  try with_reducible refine wpAny_holding ?_
  first | refine wpAny_bind (wpAny_pure ?_) | skip
  refine wpAny_bind (wpAny_sequenceKey ht.typeIs (by decide) ?_)
  refine wpAny_bind (wpAny_callSpecial?_slot (name := Str.ofString "__getitem__") ht.typeIs PyProof.Rows.slot_tuple_getitem
    (wpAny_call_entry PyProof.Rows.slot_tuple_getitem ht.typeIs entry_tuple_getitem ?_ (args_tuple_getitem _ _)))
  show wpAny _ _ (Builtin.Tuple.tupleItemsOf (.ref t) >>= _) _ _ s
  refine wpAny_bind (tupleItemsOf_ ht ?_)
  refine wpAny_bind (wpAny_typeOf hTs ?_)
  rw [if_pos (by decide)]
  refine wpAny_bind (sliceApplied_K hk hs pl ?_)
  have hno : ¬ ((((HT.sIx items.size 0 lo : Nat) : Int) == 0 && (k : Int) == 1 && (cntK items.size (HT.sIx items.size 0 lo) k) == items.size) = true) := by
    intro q
    rw [Bool.and_eq_true, Bool.and_eq_true] at q
    have q1 : (k : Int) = 1 := eq_of_beq q.1.2
    omega
  show wpAny _ _ (if (((HT.sIx items.size 0 lo : Nat) : Int) == 0 && (k : Int) == 1 && (cntK items.size (HT.sIx items.size 0 lo) k) == items.size) = true then _ else _) _ _ s
  have hpick : ((List.range (cntK items.size (HT.sIx items.size 0 lo) k)).filterMap fun (m : Nat) => items[(((HT.sIx items.size 0 lo : Nat) : Int) + (m : Int) * (k : Int)).toNat]?).toArray = (strideG items.toList (HT.sIx items.size 0 lo) k).toArray := by
    unfold strideG
    congr 1
    rw [Array.length_toList]
    congr 1
    funext m
    have : ((((HT.sIx items.size 0 lo : Nat) : Int) + (m : Int) * (k : Int)).toNat) = HT.sIx items.size 0 lo + m * k := by
      have : (m : Int) * (k : Int) = ((m * k : Nat) : Int) := by simp
      rw [this]; omega
    rw [this]; simp
  rw [if_neg hno, hpick]
  first
    | exact wpAny_bind (m := Builtin.Tuple.tupleExact _) (wpAny_newObj_type (wpAny_pure ⟨_, rfl, wpAny_pure h⟩) htake)
    | exact wpAny_bind (m := Builtin.Tuple.tupleExact _) (wpAny_newObj_type (wpAny_bind (wpAny_pure (wpAny_pure ⟨_, rfl, wpAny_pure h⟩))) htake)
    | exact wpAny_bind (wpAny_bind (m := Builtin.Tuple.tupleExact _) (wpAny_newObj_type (wpAny_pure (wpAny_pure ⟨_, rfl, wpAny_pure h⟩)) htake))
    | exact wpAny_bind (wpAny_bind (m := Builtin.Tuple.tupleExact _) (wpAny_newObj_type (wpAny_pure ⟨_, rfl, wpAny_pure h⟩) htake))
end
theorem stride_pair {A B : Type} {F : A → B → Prop} {xs : List A} {ys : List B} (r : Paired F xs ys) (i k : Nat) : Paired F (strideG xs i k) (strideG ys i k) := by
  unfold strideG
  rw [Paired.length r]
  generalize List.range (cntK ys.length i k) = l
  induction l with
  | nil => exact .nil
  | cons m t ih =>
    rw [List.filterMap_cons, List.filterMap_cons]
    cases h : xs[i + m * k]? with
    | none =>
      have : ys[i + m * k]? = none := by rw [List.getElem?_eq_none_iff] at h ⊢; rw [← Paired.length r]; exact h
      rw [this]; exact ih
    | some x =>
      obtain ⟨y, h1, h2⟩ := paired_at r h
      rw [h1]; exact .cons h2 ih
section
variable {X : Cx} {W : WXT} {e : Expr} {we : TD} {wl : TOD} {lo : Option Expr} {pos p2 : Pos}
def tSlK (K : PySem.W.Frag) (k : Nat) (te : TE) (tl : TO) : TE := fun σ H Q => te σ H fun x H1 => tl σ H1 fun l H2 => ∃ a xs, x = .ref a ∧ SqT K H2 a xs ∧ ∀ p, H2 p = none → Q (.ref p) (upd H2 p (.tup (strideG xs (HT.sIx xs.length 0 l) k)))
theorem pe_sliceK {te : TE} {tl : TO} {i : Int} {k : Nat} {j : Nat} {p3 : Pos} (hk : 1 < k) (hi : i = (k : Int)) (he : PE X e te) (hl : PO X lo tl) : PE X (.Subscript e (.Slice lo none (some (.Constant (.int i) j p3)) p2) pos) (tSlK X.K k te tl) := by
  subst hi
  refine ⟨fun pins s σ H Q I h => ?_⟩
  refine Subscript_ (thn (he.run pins s σ H _ I h) fun v s1 ⟨x, H1, I1, r1, q1⟩ => ?_)
  refine wpAny_Slice (thn (hl.run pins s1 σ H1 _ I1 q1) fun vl s2 ⟨l, H2, I2, pl, q2⟩ => ?_)
  rw [evalPart_none]
  refine wpAny_pure ?_
  show wpAny (model X.prog X.w) X.A (evalPart (some (.Constant (.int (k : Int)) j p3)) X.env) _ X.xe s2
  refine (show wpAny (model X.prog X.w) X.A (eval (.Constant (.int (k : Int)) j p3) X.env) _ X.xe s2 from wpAny_Constant_int ?_)
  obtain ⟨a, xs, ex, hx, q3⟩ := q2
  subst ex
  obtain rfl : v = Value.ref a := r1
  have I3 : Inv X pins σ H2 { s2 with toks := s2.toks + 1 } := I2.tok _
  have I4 : Inv X pins σ H2 { s2 with heap := s2.heap.push { cls := .type "slice", data := .fields #[vl, .none, .int (k : Int) s2.toks] }, toks := s2.toks + 1 } := I3.kept (t' := s2.toks + 1) fun b ob q => Heap.get?_push_of_some _ q
  obtain ⟨its, rv, ht, hz⟩ := I4.tuple hx
  have hlen : its.toArray.size = xs.length := by rw [List.size_toArray]; exact rv.length.symm
  have hg : wpAny (model X.prog X.w) X.A (getItem (.ref a) (.ref s2.heap.objs.size)) (EP X pins σ Q) X.xe { s2 with heap := s2.heap.push { cls := .type "slice", data := .fields #[vl, .none, .int (k : Int) s2.toks] }, toks := s2.toks + 1 } := by
    refine getItem_tuple_K hk ht (Heap.IsSliceOf.new ..) pl ?_ (by rw [hlen]; exact hz)
    have hf : H2 (s2.heap.push { cls := .type "slice", data := .fields #[vl, .none, .int (k : Int) s2.toks] }).objs.size = none := I4.hok.fresh (Nat.le_refl _)
    have hp : Vals (strideG xs (HT.sIx xs.length 0 l) k) (strideG its (HT.sIx its.toArray.size 0 l) k) := by rw [hlen]; exact stride_pair rv _ _
    refine ⟨.ref (s2.heap.push { cls := .type "slice", data := .fields #[vl, .none, .int (k : Int) s2.toks] }).objs.size, _, I4.laid (o := .tup (strideG xs (HT.sIx xs.length 0 l) k)) (t' := s2.toks + 1) (fun b u e => Heap.get?_push_of_some _ e) (Nat.le_refl _) ?_, rfl, q3 _ hf⟩
    refine ⟨?_, _, hp, ⟨_, Heap.get?_push_size _ rfl, rfl, _, rfl⟩⟩
    refine Nat.le_trans ?_ hz
    unfold strideG
    refine Nat.le_trans (List.length_filterMap_le _ _) ?_
    rw [List.length_range]
    exact cnt_le (by omega) _ _
  show wpAny (model X.prog X.w) X.A (subscriptTail e (.Slice lo none (some (.Constant (.int (k : Int)) j p3)) p2) (.ref a) (.ref s2.heap.objs.size)) (EP X pins σ Q) X.xe _
  exact tail_any (ops := [.ref a, .ref s2.heap.objs.size]) ht.typeIs PyProof.Rows.slot_tuple_getitem.lookup hg (by with_unfolding_all rfl)
/-- t[lo::k], a tuple -/
abbrev eSlK (k : Nat) (we : TD) (wl : TOD) : TD := fun ρ S kk kx => we ρ S (fun x S1 => wl ρ S1 (fun l S2 => match x with
  | .d (.tup ds) => kk (.d (.tup (strideG ds (HT.sIx ds.length 0 l) k))) S2
  | _ => False) kx) kx
theorem q_sliceK {i : Int} {k : Nat} {j : Nat} {p3 : Pos} (hk : 1 < k) (hi : i = (k : Int)) (he : QE X W e we) (hl : QO X W lo wl) : QE X W (.Subscript e (.Slice lo none (some (.Constant (.int i) j p3)) p2) pos) (eSlK k we wl) := by
  refine pe_imp (pe_sliceK hk hi he hl) fun σ H Q h => ?_
  obtain ⟨α, G, ρ, S, kk, kx, o, h, q, qx⟩ := h
  refine ⟨α, G, ρ, S, _, kx, o, h, fun x S1 α1 G1 H1 v h1 e1 o1 r1 => ?_, qx⟩
  refine ⟨α1, G1, ρ, S1, _, kx, o1, h1, fun l S2 α2 G2 H2 h2 e2 o2 => ?_, qx.ext e1⟩
  have r2 := r1.mono e2.pre e2.same
  split at h2
  · rename_i ds
    obtain ⟨a, vs, e, g, hh, p⟩ := tup_rep o2 r2
    refine ⟨a, vs, e, SqT.of hh, fun p' hp => ?_⟩
    refine new_tup (cs := (strideG ds (HT.sIx ds.length 0 l) k).map C.d) o2 (Kont.ext q (e1.trans e2)) hp ?_ ?_
    · rw [← Paired.length p]; exact RepCs.data (stride_pair p _ _)
    · unfold newT; rw [unD_map]; exact h2
  · exact h2.elim
end
end PL

/-! the pure layer, part 10: enumerate, dict comprehensions, sorted pairs, isinstance, deep equality, freezing a list of lists -/
namespace PL
open PySem PySem.Spec L2
open PyProof.Rows hiding St

/-! ### for i, x in enumerate(xs) -/
def enumG (ds : List D) : List D := ds.zipIdx.map fun p => D.tup [.int (p.2 : Nat), p.1]
theorem enumG_len (ds : List D) : (enumG ds).length = ds.length := by simp [enumG]
theorem enumG_at {ds : List D} {i : Nat} {d : D} (h : ds[i]? = some d) : (enumG ds)[i]? = some (.tup [.int (i : Nat), d]) := by
  simp [enumG, h]
def iEnumD (we : TD) : TID := fun ρ S k kx => we ρ S (fun c S1 => match c with
  | .d (.lst ds) => k ⟨enumG ds, fun _ => True⟩ S1
  | .d (.tup ds) => k ⟨enumG ds, fun _ => True⟩ S1
  | .c j => ∃ ds, S1.own j = some (.lst (ds.map C.d)) ∧ k ⟨enumG ds, fun S => S.own j = some (.lst (ds.map C.d))⟩ S1
  | _ => False) kx
section
variable {K : PySem.W.Frag}
theorem pair_rep {G : Hp} {T : Addr} {i : Nat} {d : D} {x : V} (hT : G T = none) (r : Rep K G d x) : Rep K (upd G T (.tup [.int (i : Nat), x])) (.tup [.int (i : Nat), d]) (.ref T) := by
  unfold Rep
  refine ⟨T, _, rfl, upd_same, Reps.of (.cons r_int (.cons (Rep.mono (fun b w e => by rw [upd_ne (ne_of_none e hT)]; exact e) _ _ r) .nil))⟩
theorem walk_enumT {a : Addr} {xs : List V} : Walk (IteT K a) xs.length (fun H => SqT K H a xs) (YPair (fun i => some (.int (i : Nat))) (fun i => xs[i]?)) :=
  ⟨fun i H hi h => ⟨xs, xs[i], h, by simp [hi]⟩, fun H h => ⟨xs, h, rfl⟩, fun i H x H' hi h y => by
    obtain ⟨T, x', e1, e2, e3, e4⟩ := y
    exact ⟨T, _, x', e1, e2, e3, rfl, e4 xs h⟩⟩
theorem itok_enum {J : It} {α : List Addr} {G : Hp} {ds : List D} {dep : Sto → Prop} {vs0 : Nat}
    (wk : ∃ Gd : Hp → Prop, Walk J ds.length Gd (fun i H v H' => ∃ T x, v = .ref T ∧ H T = none ∧ H' = upd H T (.tup [.int (i : Nat), x]) ∧ ∀ α' G' S, α <+: α' → Same G G' → OkS K α' G' S H → dep S → ∃ d, ds[i]? = some d ∧ Rep K G' d x) ∧ ∀ α' G' S H, α <+: α' → Same G G' → OkS K α' G' S H → dep S → Gd H) :
    ItOk K J ⟨enumG ds, dep⟩ α G := by
  obtain ⟨Gd, wk, hg⟩ := wk
  refine ⟨Gd, _, by show Walk J (enumG ds).length _ _; rw [enumG_len]; exact wk, hg, fun i α' G' S H v H' hi hα hs o hd y => ?_⟩
  obtain ⟨T, x, e1, e2, e3, e4⟩ := y
  obtain ⟨d, h1, h2⟩ := e4 α' G' S hα hs o hd
  subst e1
  exact ⟨_, enumG_at h1, .inr ⟨T, _, e2, e3, pair_rep (Same.free o.same e2) h2⟩⟩
end
section
variable {X : Cx} {W : WXT} {e : Expr} {we : TD} {p pos tpos : Pos} {elts : List Expr} {kk : Nat}
theorem qi_enum (hg : Gl X "enumerate") (hm : X.mg "enumerate" = none) (he : QE X W e we) (hs : starEach [e] X.env = [(false, eval e X.env)] := by rfl) (hs' : starEach [e] X.env = (false, eval e X.env) :: starEach [] X.env := by rfl) :
    QI X W (.Tuple elts kk tpos) (.Call (.Name "enumerate" p) [e] [] pos) (iEnumD we) := pi_imp (pi_enumA hg hm (qa_cons he qa_nil hs') hs) fun σ H R h => by
  obtain ⟨α, G, ρ, S, k, kx, o, h, q, qx⟩ := h
  let kq : C → Sto → Prop := fun c S1 => match c with
    | .d (.lst ds) => k ⟨enumG ds, fun _ => True⟩ S1
    | .d (.tup ds) => k ⟨enumG ds, fun _ => True⟩ S1
    | .c j => ∃ ds, S1.own j = some (.lst (ds.map C.d)) ∧ k ⟨enumG ds, fun S => S.own j = some (.lst (ds.map C.d))⟩ S1
    | _ => False
  have h' : we ρ S kq kx := h
  refine ⟨α, G, ρ, S, fun cs S1 => match cs with
    | [c] => kq c S1
    | _ => False, kx, o, h', fun cs S1 α1 G1 H1 vs h1 e1 o1 r1 => ?_, qx⟩
  match cs, r1, h1 with
  | [c], r1, h1 =>
  have h2 : kq c S1 := h1
  obtain ⟨v, rfl, r⟩ := rep1 r1
  have lst : ∀ a ds (dep : Sto → Prop), (∀ α' G' S H, α1 <+: α' → Same G1 G' → OkS X.K α' G' S H → dep S → ∃ vs, SqL X.K H a vs ∧ Paired (Rep X.K G') ds vs) → ItOk X.K (Ite X.K a) ⟨enumG ds, dep⟩ α1 G1 := fun a ds dep hh => by
    refine itok_enum (vs0 := 0) ⟨fun H => ∃ vs, vs.length = ds.length ∧ SqL X.K H a vs, ⟨fun i H hi ⟨vs, hl, hv⟩ => ⟨vs, vs[i]'(by rw [hl]; exact hi), hv, List.getElem?_eq_getElem _⟩, fun H ⟨vs, hl, hv⟩ => ⟨vs, hv, by rw [hl]; exact Nat.le_refl _⟩, fun i H x H' hi ⟨vs, hl, hv⟩ y => ?_⟩, fun α' G' S H hα hs o hd => ?_⟩
    · obtain ⟨T, x', e1, e2, e3, e4⟩ := y
      refine ⟨T, x', e1, e2, e3, fun α' G' S hα hs o hd => ?_⟩
      obtain ⟨vs', hv', p⟩ := hh α' G' S H hα hs o hd
      obtain ⟨d, h3, h4⟩ := paired_at' p (e4 vs' hv')
      exact ⟨d, h3, h4⟩
    · obtain ⟨vs', hv', p⟩ := hh α' G' S H hα hs o hd
      exact ⟨vs', (Paired.length p).symm, hv'⟩
  cases c with
  | c j =>
    obtain ⟨ds, hj, h2⟩ := h2
    obtain ⟨a, f1, f2, us, f3, rs⟩ := o1.cellAt hj
    obtain ⟨b, g1, g2⟩ := r
    rw [f1] at g1; cases g1
    refine ⟨a, us, by rw [g2], .inl ⟨SqL.of f3, q _ _ _ _ _ _ h2 e1 o1 (lst a ds _ fun α' G' S H hα hs o hd => ?_)⟩⟩
    obtain ⟨a', f1', f2', vs, f3', rs⟩ := o.cell j _ (own_of hd)
    obtain ⟨t, rfl⟩ := hα
    rw [List.getElem?_append_left (List.getElem?_eq_some_iff.mp f1).1, f1] at f1'
    cases f1'
    exact ⟨vs, SqL.of f3', RepCs.ofData rs⟩
  | d x =>
    cases x with
    | lst ds =>
      simp only [RepC] at r
      unfold Rep at r
      obtain ⟨a, us, e, g, rs⟩ := r
      exact ⟨a, us, by rw [e], .inl ⟨SqL.of (o1.st.same _ _ g), q _ _ _ _ _ _ h2 e1 o1 (lst a ds _ fun α' G' S H hα hs o hd => ⟨us, SqL.of (o.same _ _ (hs _ _ g)), Paired.mapP rs.pair fun _ _ x => Rep.mono hs _ _ x⟩)⟩⟩
    | tup ds =>
      obtain ⟨a, us, e, g, hh, p⟩ := tup_rep o1 r
      refine ⟨a, us, by rw [e], .inr ⟨SqT.of hh, q _ _ _ _ _ _ h2 e1 o1 (itok_enum (vs0 := 0) ⟨fun H => SqT X.K H a us, ?_, fun α' G' S H hα hs o hd => SqT.of (o.same _ _ (hs _ _ g))⟩)⟩⟩
      rw [Paired.length p]
      refine walk_enumT.mono (fun H h => h) fun i H v H' hi hh y => ?_
      obtain ⟨T, y1, x', e1, e2, e3, e4, e5⟩ := y
      cases e4
      refine ⟨T, x', e1, e2, e3, fun α' G' S hα hs o hd => ?_⟩
      obtain ⟨d, h3, h4⟩ := paired_at' p e5
      exact ⟨d, h3, Rep.mono hs _ _ h4⟩
    | _ => exact False.elim h2
end

/-! ### dict comprehensions (keys ints or texts) -/
/-- P: by the turn, the entries so far, the store; the new dict is a cell -/
def eDc (w : TID) (g : TGD) (tt : TTD) (wk we : TD) (own : List Nat) : TD := fun ρ S k kx => w ρ S (fun it S1 => ∃ P : Nat → List (Key × C) → Sto → Prop, P 0 [] S1 ∧ (∀ i acc S', i ≤ it.ds.length → P i acc S' → it.dep S') ∧
  (∀ i d acc S', it.ds[i]? = some d → P i acc S' → g (.d d) (wipeE ρ own) S' (fun ρ2 S2 => tt ρ2 S2 (fun b S3 => if b = true then wk ρ2 S3 (fun ck S4 => we ρ2 S4 (fun c S5 => ∃ kk, keyC ck = some kk ∧ acc.length < sizeLine ∧ P (i + 1) (putG acc kk c) S5) kF) kF else P (i + 1) acc S3) kF) kF) ∧
  ∀ acc S', P it.ds.length acc S' → k (.c S'.length) (S' ++ [some (.dK acc)])) kx
theorem dc_it {J : It} {n : Nat} {G : Hp → Prop} {Y : Nat → Hp → V → Hp → Prop} (w : Walk J n G Y) {g : TG} {tt : TT} {tk te : TE} {vs : List Nat} {σ : St} {H1 : Hp} {D : Addr} {Qd : Hp → Prop} (Pv : Nat → Hp → Prop) (h0 : Pv 0 (upd H1 D (.dK []))) (hG : ∀ i H, i ≤ n → Pv i H → G H)
    (hs : ∀ i x H H', i < n → Pv i H → Y i H x H' → g x (wipe σ vs) H' fun σ2 H2 => wipe σ2 vs = wipe σ vs ∧ tt σ2 H2 fun b H3 =>
      if b = true then tk σ2 H3 fun y H4 => te σ2 H4 fun z H5 => ∃ kvs k, y = kV k ∧ H5 D = some (.dK kvs) ∧ kvs.length < sizeLine ∧ Pv (i + 1) (upd H5 D (.dK (putK kvs k z))) else Pv (i + 1) H3) (hd : ∀ H, Pv n H → Qd H) :
    ∃ W : Nat → Nat → Hp → Prop, (∃ m, W 0 m (upd H1 D (.dK []))) ∧ ∀ i m H, W i m H →
      (J.stop i H ∧ Qd H) ∨ (J.go i H ∧ ∃ Nx : Hp → Prop, (∀ H', Nx H' → ∃ m', m' < m ∧ W (i + 1) m' H') ∧ ∀ x H', J.yld i H x H' → g x (wipe σ vs) H' fun σ2 H2 => wipe σ2 vs = wipe σ vs ∧ tt σ2 H2 fun b H3 =>
        if b = true then tk σ2 H3 fun y H4 => te σ2 H4 fun z H5 => ∃ kvs k, y = kV k ∧ H5 D = some (.dK kvs) ∧ kvs.length < sizeLine ∧ Nx (upd H5 D (.dK (putK kvs k z))) else Nx H3) := by
  refine ⟨fun i m H => m = n - i ∧ i ≤ n ∧ Pv i H, ⟨n, by simp, Nat.zero_le _, h0⟩, ?_⟩
  rintro i m H ⟨rfl, hi, p⟩
  have q := hG i H hi p
  by_cases hlt : i < n
  · exact .inr ⟨w.goes i H hlt q, Pv (i + 1), fun H' p' => ⟨n - (i + 1), by omega, rfl, hlt, p'⟩, fun x H' y => hs i x H H' hlt p (w.yields i H x H' hlt q y)⟩
  · have e : i = n := by omega
    subst e
    exact .inl ⟨w.stops H q, hd H p⟩
theorem keyC_rep {K : PySem.W.Frag} {α : List Addr} {G : Hp} {c : C} {v : V} {k : Key} (r : RepC K α G c v) (h : keyC c = some k) : v = kV k := by
  cases c with
  | c i => cases h
  | d x => exact keyD_rep r h
theorem lift_dc {K : PySem.W.Frag} {W : WXT} {w : TID} {is own : List Nat} {g : TGD} {tt : TTD} {wk_ we : TD} (his : ∀ i ∈ is, i ∈ own) {σ : St} {H : Hp} {Q : VK} (h : lift K W (eDc w g tt wk_ we own) σ H Q) : tDc (liftI K W w) (liftG K WF is g) (liftT K WF tt) (lift K WF wk_) (lift K WF we) own σ H Q := by
  obtain ⟨α, G, ρ, S, k, kx, o, h, q, qx⟩ := h
  refine ⟨α, G, ρ, S, _, kx, o, h, fun it S1 α1 G1 H1 J h1 e1 o1 ok D hD => ?_, qx⟩
  obtain ⟨P, h0, hdep, hstep, hdone⟩ := h1
  obtain ⟨Gd, Y, wk, hGd, hY⟩ := ok
  obtain ⟨hgD, haD⟩ := o1.st.fresh hD
  refine dc_it wk (fun i H' => ∃ α' G' S' acc vs, Ext α1 G1 H1 α' G' H' ∧ Ok K α' G' (wipeE ρ own) S' (wipe σ own) H' ∧ H' D = some (.dK vs) ∧ G' D = none ∧ D ∉ α' ∧ Paired (fun (p : Key × C) (q : Key × V) => p.1 = q.1 ∧ RepC K α' G' p.2 q.2) acc vs ∧ P i acc S') ?_ ?_ ?_ ?_
  · have e0 : Ext α1 G1 H1 α1 G1 (upd H1 D (.dK [])) := Ext.refl.side hD
    exact ⟨α1, G1, S1, [], [], e0, (o1.wipe own).reenv (o1.st.side hgD haD (fun x => by rw [hD]; simp)) e0, upd_same, hgD, haD, .nil, h0⟩
  · rintro i H' hi ⟨α', G', S', acc, vs, e', o', hd, hg', ha', r', p'⟩
    exact hGd α' G' S' H' e'.pre e'.same o'.st (hdep i acc S' hi p')
  · rintro i x H' H2 hi ⟨α', G', S', acc, vs, e', o', hd, hg', ha', r', p'⟩ y
    obtain ⟨d, hd', hr⟩ := hY i α' G' S' H' x H2 hi e'.pre e'.same o'.st (hdep i acc S' (Nat.le_of_lt hi) p') y
    obtain ⟨G2, e2, o2, r2⟩ := turn_ok (J := J) (it := it) (α0 := α1) (G0 := G1) (i := i) o' hr
    refine ⟨α', G2, wipeE ρ own, S', .d d, _, _, o2, r2, hstep i d acc S' hd' p', fun ρ3 S3 α3 G3 σ3 H3 h3 e3 o3 w3 => ⟨(w3 own his).trans (wipe_wipe _ _), ?_⟩, xkF⟩
    refine ⟨α3, G3, ρ3, S3, _, _, o3, h3, fun b S4 α4 G4 H4 h4 e4 o4 => ?_, xkF⟩
    have e24 := (e2.trans e3).trans e4
    cases b with
    | false =>
      dsimp only at h4 ⊢
      rw [if_neg Bool.false_ne_true] at h4 ⊢
      obtain ⟨k1, k2, k3⟩ := e24.keep D (by rw [hd]; simp) hg' ha'
      exact ⟨α4, G4, S4, acc, vs, e'.trans e24, o'.reenv o4.st e24, k1.trans hd, k2, k3, Paired.mapP r' fun _ _ x => ⟨x.1, x.2.mono e24.pre e24.same⟩, h4⟩
    | true =>
      dsimp only at h4 ⊢
      rw [if_pos rfl] at h4 ⊢
      refine ⟨α4, G4, ρ3, S4, _, _, o4, h4, fun ck S5 α5 G5 H5 vk h5 e5 o5 r5 => ?_, xkF⟩
      refine ⟨α5, G5, ρ3, S5, _, _, o5, h5, fun c S6 α6 G6 H6 v h6 e6 o6 r6 => ?_, xkF⟩
      have e26 := (e24.trans e5).trans e6
      obtain ⟨k1, k2, k3⟩ := e26.keep D (by rw [hd]; simp) hg' ha'
      have hD6 : H6 D = some (.dK vs) := k1.trans hd
      obtain ⟨kk, hk, hl, h6⟩ := h6
      have r'' : Paired (fun (p : Key × C) (q : Key × V) => p.1 = q.1 ∧ RepC K α6 G6 p.2 q.2) acc vs := Paired.mapP r' fun _ _ x => ⟨x.1, x.2.mono e26.pre e26.same⟩
      refine ⟨vs, kk, keyC_rep r5 hk, hD6, by rw [← Paired.length r']; exact hl, α6, G6, S6, putG acc kk c, putK vs kk v, (e'.trans e26).side hD, ?_, upd_same, k2, k3, put_pair r'' kk r6, h6⟩
      have os := o6.st.side (u := .dK (putK vs kk v)) k2 k3 (fun x => by rw [hD6]; simp)
      exact ⟨os, o'.rlen, fun i c h => let ⟨v, h1, h2⟩ := o'.env i c h; ⟨v, h1, h2.mono e26.pre e26.same⟩⟩
  · rintro H' ⟨α', G', S', acc, vs, e', o', hd, hg', ha', r', p'⟩
    have hn := hdone acc S' p'
    have os := o'.st.adoptC (w := .dK acc) hg' ha' hd (fun x => by simp) ⟨vs, hd, Paired.mapP r' fun _ _ x => ⟨x.1, x.2.mono (List.prefix_append _ _) (Same.refl _)⟩⟩
    have e2 : Ext α1 G1 H1 (α' ++ [D]) G' H' := ⟨e'.pre.trans (List.prefix_append _ _), e'.same, fun a h1 h2 h3 => by
      obtain ⟨k1, k2, k3⟩ := e'.keep a h1 h2 h3
      exact ⟨k1, k2, by simp [k3, show a ≠ D from fun q => h1 (q ▸ hD)]⟩⟩
    exact q _ _ _ _ _ _ hn (e1.trans e2) (o1.reenv os e2) ⟨D, by rw [← o'.st.len]; simp, rfl⟩
section
variable {X : Cx} {W : WXT} {kx_ vx tg iter : Expr} {ifs : List Expr} {scope : Scope} {own : List (Str × Nat)} {pos : Pos} {w : TID} {is : List Nat} {g : TGD} {tt : TTD} {wk we : TD}
theorem q_dc (hc : X.calm = true) (hN : X.N.Nodup) (hi : QI X W tg iter w) (ok : BlkOk X.N X.env.scope scope own)
    (hg : ∀ (s : Shared) (H : Hp) (C : Addr) (cl : List (Str × Addr)) (fp : List Addr), QG (X.blk s H scope (compEnvC scope cl C X.env) fp) WF is tg g) (ht : ∀ (s : Shared) (H : Hp) (C : Addr) (cl : List (Str × Addr)) (fp : List Addr), QTs (X.blk s H scope (compEnvC scope cl C X.env) fp) WF ifs tt)
    (hk : ∀ (s : Shared) (H : Hp) (C : Addr) (cl : List (Str × Addr)) (fp : List Addr), QE (X.blk s H scope (compEnvC scope cl C X.env) fp) WF kx_ wk)
    (he : ∀ (s : Shared) (H : Hp) (C : Addr) (cl : List (Str × Addr)) (fp : List Addr), QE (X.blk s H scope (compEnvC scope cl C X.env) fp) WF vx we) (his : ∀ i ∈ is, i ∈ own.map (·.2) := by decide) (hs : ∀ x, foldedSetIterable iter X.env x = pure x := by intro _; rfl) :
    QE X W (.DictComp kx_ vx [⟨tg, iter, ifs, 0⟩] scope pos) (eDc w g tt wk we (own.map (·.2))) :=
  pe_imp (pe_dc hc hN hi ok hg ht hk he hs) fun σ H Q h => lift_dc his h
/-- name = {k: v ..} on one line, the name a local -/
theorem ps_setDc {i : Nat} {y : Str} {py spos : Pos} {wi : TI} {g : TG} {tt : TT} {tk tv : TE} (hc : X.calm = true) (hN : X.N.Nodup) (hy : X.N[i]? = some y) (hyl : X.env.scope.names.lookup y = some .local)
    (hsw : swapsWith (.DictComp kx_ vx [⟨tg, iter, ifs, 0⟩] scope pos) (some (.Name y py)) spos.line X.env = pure true) (hi : PI X tg iter wi) (ok : BlkOk X.N X.env.scope scope own)
    (hg : ∀ (s : Shared) (H : Hp) (C : Addr) (cl : List (Str × Addr)) (fp : List Addr), PG (X.blk s H scope (compEnvC scope cl C X.env) fp) tg g) (ht : ∀ (s : Shared) (H : Hp) (C : Addr) (cl : List (Str × Addr)) (fp : List Addr), PTs (X.blk s H scope (compEnvC scope cl C X.env) fp) ifs tt)
    (hk : ∀ (s : Shared) (H : Hp) (C : Addr) (cl : List (Str × Addr)) (fp : List Addr), PE (X.blk s H scope (compEnvC scope cl C X.env) fp) kx_ tk)
    (he : ∀ (s : Shared) (H : Hp) (C : Addr) (cl : List (Str × Addr)) (fp : List Addr), PE (X.blk s H scope (compEnvC scope cl C X.env) fp) vx tv) (hs : ∀ x, foldedSetIterable iter X.env x = pure x := by intro _; rfl) :
    PS X (.Assign [.Name y py] (.DictComp kx_ vx [⟨tg, iter, ifs, 0⟩] scope pos) spos) (tAsg (tDc wi g tt tk tv (own.map (·.2))) (gName i)) := by
  refine ⟨fun pins s σ H D I h => ?_⟩
  rw [exec_Assign_Name_used _ _ _ _ hsw]
  refine wpAny_bind (wpAny_standAt (wpAny_bind ?_))
  show wpAny _ X.A (do let _ ← comprehension (.DictComp kx_ vx [⟨tg, iter, ifs, 0⟩] scope pos) scope X.env (firstIterPos [⟨tg, iter, ifs, 0⟩] pos) newDict false (eval iter X.env) (some (assign (.Name y py) X.env))) _ _ s
  have h : tDc wi g tt tk tv (own.map (·.2)) σ H (fun x H1 => gName i x σ H1 D.nx) := h
  refine wpAny_bind (thn (dc_core (Qf := fun _ s' => SP X pins D .next s') hc hN I hi ok hg ht hk he hs h fun L C s' m H' I' q hn f => ?_) fun _ s' hq => wpAny_pure (wpAny_pure hq))
  show wpAny _ _ (assign (.Name y py) X.env (.ref L)) _ _ _
  refine wpAny_assign_Name (store_ok2 (v := V.ref L) I' hN hy (.inl hyl) rfl (fun s2 I2 ⟨a, sb, ha⟩ => ?_) (.inr hyl))
  obtain ⟨f0, f1, f2, f3, f4, f5⟩ := f
  have haC : C ≠ a := by
    rcases ha with z | z
    · rw [z]; exact f1
    · exact fun e => f4 y a z e.symm
  refine ⟨m, hn.sameBut sb haC, fun h3 sb3 => ?_⟩
  exact ⟨_, H', I2.turned (t' := s2.toks) (fun b o hb e => (sb3.2 b hb).trans e) f0 f1 f3 f4 f5, q⟩
theorem qs_setDc {i : Nat} {y : Str} {py spos : Pos} (hc : X.calm = true) (hN : X.N.Nodup) (hy : X.N[i]? = some y) (hyl : X.env.scope.names.lookup y = some .local)
    (hsw : swapsWith (.DictComp kx_ vx [⟨tg, iter, ifs, 0⟩] scope pos) (some (.Name y py)) spos.line X.env = pure true) (hi : QI X W tg iter w) (ok : BlkOk X.N X.env.scope scope own)
    (hg : ∀ (s : Shared) (H : Hp) (C : Addr) (cl : List (Str × Addr)) (fp : List Addr), QG (X.blk s H scope (compEnvC scope cl C X.env) fp) WF is tg g) (ht : ∀ (s : Shared) (H : Hp) (C : Addr) (cl : List (Str × Addr)) (fp : List Addr), QTs (X.blk s H scope (compEnvC scope cl C X.env) fp) WF ifs tt)
    (hk : ∀ (s : Shared) (H : Hp) (C : Addr) (cl : List (Str × Addr)) (fp : List Addr), QE (X.blk s H scope (compEnvC scope cl C X.env) fp) WF kx_ wk)
    (he : ∀ (s : Shared) (H : Hp) (C : Addr) (cl : List (Str × Addr)) (fp : List Addr), QE (X.blk s H scope (compEnvC scope cl C X.env) fp) WF vx we) (his : ∀ i ∈ is, i ∈ own.map (·.2) := by decide) (hs : ∀ x, foldedSetIterable iter X.env x = pure x := by intro _; rfl) :
    QS X W (.Assign [.Name y py] (.DictComp kx_ vx [⟨tg, iter, ifs, 0⟩] scope pos) spos) (sAsg (eDc w g tt wk we (own.map (·.2))) (gN i)) :=
  ps_imp (ps_setDc hc hN hy hyl hsw hi ok hg ht hk he hs) fun D σ H h => by
    obtain ⟨α, G, ρ, S, DD, o, h, q⟩ := h
    refine lift_dc his (W := W) (Q := fun x H1 => gName i x σ H1 D.nx) ⟨α, G, ρ, S, _, _, o, h, fun c S' α' G' H' v h' e' o' r' => ?_, q.ex⟩
    exact q.nx _ _ _ _ _ _ h' e' (o'.set i r')
theorem sw_trueD {kx vx : Expr} {gs : List Comprehension} {scope : Scope} {pos py : Pos} {y : Str} {l : Nat} {env : PySem.Env} (hk : env.scope.kind = .function) (hy : env.scope.names.lookup y = some .local) (hl : (py.line == pos.line) = true)
    (ha : (scope.names.any fun (n, k) => n == y && (k == .local || k == .cell)) = false) : swapsWith (.DictComp kx vx gs scope pos) (some (.Name y py)) l env = pure true := by
  have ky : env.kindOf y = some .local := hy
  have hb : env.blockKind = .function := by unfold PySem.Env.blockKind; rw [hk]; rfl
  unfold swapsWith
  simp only [hb, ky, ha, Expr.pos, hl]
  rfl
end
end PL

/-! the pure layer, part 11: sorted pairs, isinstance, deep equality, freezing a list of lists, in -/
namespace PL
open PySem PySem.Spec L2
open PyProof.Rows hiding St

/-! ### sorted of pairs of ints -/
def pairD (p : Int × Int) : D := .tup [.int p.1, .int p.2]
def cPairs (ps : List (Int × Int)) : List C := ps.map fun p => .d (pairD p)
def leP (p q : Int × Int) : Prop := p.1 < q.1 ∨ (p.1 = q.1 ∧ p.2 ≤ q.2)
def dSortedP (m : Bool) : RCD := fun cs S k => match cs with
  | [x] => ∃ ps, lstOf S x = some (cPairs ps) ∧ ∀ ps' : List (Int × Int), ps'.Perm ps → ps'.Pairwise leP → newL m (cPairs ps') S k
  | _ => False
section
variable {K : PySem.W.Frag}
theorem pairD_rep {G : Hp} {p : Int × Int} {v : V} (r : Rep K G (pairD p) v) : ∃ t, v = .ref t ∧ G t = some (.tup [.int p.1, .int p.2]) := by
  unfold pairD at r
  unfold Rep at r
  obtain ⟨t, vs, e, g, rs⟩ := r
  refine ⟨t, e, ?_⟩
  cases rs.pair with
  | cons r1 r2 =>
    cases r2 with
    | cons r2 r3 =>
      cases r3
      unfold Rep at r1 r2
      subst r1 r2
      exact g
theorem rep_pairD {G : Hp} {p : Int × Int} {t : Addr} (g : G t = some (.tup [.int p.1, .int p.2])) : Rep K G (pairD p) (.ref t) := by
  unfold pairD Rep
  exact ⟨t, _, rfl, g, Reps.of (.cons r_int (.cons r_int .nil))⟩
/-- which ints stand in the pair at v -/
def pairOf (G : Hp) : V → Int × Int
  | .ref t => match G t with
    | some (.tup [.int i, .int j]) => (i, j)
    | _ => (0, 0)
  | _ => (0, 0)
theorem reps_pairs {α : List Addr} {G : Hp} : ∀ {ps : List (Int × Int)} {vs : List V}, RepCs K α G (cPairs ps) vs → ps = vs.map (pairOf G) ∧ ∀ x ∈ vs, ∃ t, x = V.ref t ∧ G t = some (.tup [.int (pairOf G x).1, .int (pairOf G x).2])
  | [], _, .nil => ⟨rfl, fun x h => by cases h⟩
  | p :: ps, _, .cons r t => by
    obtain ⟨e1, e2⟩ := reps_pairs (ps := ps) t
    obtain ⟨a, rfl, g⟩ := pairD_rep r
    have hp : pairOf G (.ref a) = p := by simp [pairOf, g]
    refine ⟨by rw [List.map_cons, hp, ← e1], fun x hx => ?_⟩
    rcases List.mem_cons.mp hx with rfl | hx
    · exact ⟨a, rfl, by rw [hp]; exact g⟩
    · exact e2 x hx
theorem d_sortedP {m : Bool} : CallD K (rSortedPO K) (dSortedP m) := ⟨fun {α G H ρ S σ cs vs k Q} o r h q => by
  unfold dSortedP at h
  split at h
  · obtain ⟨ps, e, h⟩ := h
    obtain ⟨v, e1, r1⟩ := rep1 r
    obtain ⟨a, ys, e2, hs, rs⟩ := lst_rep o r1 e
    obtain ⟨e3, e4⟩ := reps_pairs rs
    refine ⟨a, ys, pairOf G, by rw [e1, e2], SqL.of hs, fun x hx => ?_, fun zs p hsrt hstb hp => ?_⟩
    · obtain ⟨t, h1, h2⟩ := e4 x hx
      exact ⟨t, h1, o.st.same _ _ h2⟩
    · have hperm := hstb.perm
      refine new_lst (cs := cPairs (zs.map (pairOf G))) o q hp ?_ (h _ (by rw [e3]; exact hperm.map _) ?_)
      · have hz : ∀ x ∈ zs, ∃ t, x = V.ref t ∧ G t = some (.tup [.int (pairOf G x).1, .int (pairOf G x).2]) := fun x hx => e4 x (hperm.mem_iff.mp hx)
        clear hsrt hstb hperm
        induction zs with
        | nil => exact .nil
        | cons x t ih =>
          obtain ⟨a, h1, h2⟩ := hz x (by simp)
          refine .cons ?_ (ih fun y hy => hz y (by simp [hy]))
          subst h1
          exact rep_pairD h2
      · have hsr : zs.Pairwise (fun x y => ltP (pairOf G) y x = false) := by
          first
            | exact hsrt
            | exact hsrt.imp fun h => by simpa using h
        rw [List.pairwise_map]
        refine hsr.imp fun {x y} hxy => ?_
        have := SrtO.lexB_no.mp hxy
        unfold leP
        omega
  · exact h.elim⟩
end

/-! ### isinstance with a built-in class -/
def tyC (S : Sto) : C → Option String
  | .d .non => some "NoneType"
  | .d (.bl _) => some "bool"
  | .d (.int _) => some "int"
  | .d (.str _) => some "str"
  | .d (.tup _) => some "tuple"
  | .d (.lst _) => some "list"
  | .d (.dK _ _) => some "dict"
  | .d (.dT _ _) => some "dict"
  | .c j => match S.own j with
    | some (.lst _) => some "list"
    | some (.dK _) => some "dict"
    | some (.dT _) => some "dict"
    | _ => none
  | _ => none
def dIsi : RCD := fun cs S k => match cs with
  | [x, .d (.ty T)] => ∃ t b, tyC S x = some t ∧ kitB t T = some b ∧ k (.d (.bl b)) S
  | _ => False
section
variable {K : PySem.W.Frag}
theorem tyC_rep {α : List Addr} {G H : Hp} {ρ : Env} {S : Sto} {σ : St} {x : C} {v : V} {t : String} (o : Ok K α G ρ S σ H) (r : RepC K α G x v) (h : tyC S x = some t) : TyOf K H v (.type t) := by
  unfold tyC at h
  split at h
  · cases h; rw [of_non r]; exact .non
  · cases h; rw [of_bl r]; exact .bl _
  · cases h; rw [of_int r]; exact .int _
  · cases h; rw [of_str r]; exact .str _
  · cases h
    obtain ⟨a, vs, e, g, hh, p⟩ := tup_rep o r
    subst e; exact .tup hh
  · cases h
    simp only [RepC] at r; unfold Rep at r
    obtain ⟨a, vs, e, g, _⟩ := r
    subst e; exact .lst (o.st.same _ _ g)
  · cases h
    simp only [RepC] at r; unfold Rep at r
    obtain ⟨a, vs, e, g, _⟩ := r
    subst e; exact .dK (o.st.same _ _ g)
  · cases h
    simp only [RepC] at r; unfold Rep at r
    obtain ⟨a, vs, e, g, _⟩ := r
    subst e; exact .dT (o.st.same _ _ g)
  · obtain ⟨b, f1, f2⟩ := r
    subst f2
    split at h
    · rename_i xs hj
      cases h
      obtain ⟨a, e1, e2, ws, e3, _⟩ := o.cellAt hj
      rw [f1] at e1; cases e1
      exact .lst e3
    · rename_i xs hj
      cases h
      obtain ⟨a, e1, e2, ws, e3, _⟩ := o.cellAt hj
      rw [f1] at e1; cases e1
      exact .dK e3
    · rename_i xs hj
      cases h
      obtain ⟨a, e1, e2, ws, e3, _⟩ := o.cellAt hj
      rw [f1] at e1; cases e1
      exact .dT e3
    · cases h
  · cases h
theorem d_isi : CallD K (rIsi K) dIsi := ⟨fun {α G H ρ S σ cs vs k Q} o r h q => by
  unfold dIsi at h
  split at h
  · rename_i x T
    obtain ⟨t, b, h1, h2, h⟩ := h
    obtain ⟨v, v2, e1, r1, r2⟩ := rep2 r
    have e2 : v2 = .ty T := by simp only [RepC] at r2; unfold Rep at r2; exact r2
    exact ⟨v, .ty T, .type t, .type T, b, by rw [e1, e2], .ty T, .base (tyC_rep o r1 h1), kit_ty h2, q.here o h rep_bl⟩
  · exact h.elim⟩
end
theorem kit_tt : kitB "tuple" "tuple" = some true := by decide +kernel
theorem kit_it : kitB "int" "tuple" = some false := by decide +kernel
theorem kit_ti : kitB "tuple" "int" = some false := by decide +kernel
theorem kit_ii : kitB "int" "int" = some true := by decide +kernel
theorem kit_bi : kitB "bool" "int" = some true := by decide +kernel
theorem kit_bb : kitB "bool" "bool" = some true := by decide +kernel
theorem kit_ib : kitB "int" "bool" = some false := by decide +kernel
theorem kit_bt : kitB "bool" "tuple" = some false := by decide +kernel
theorem kit_st : kitB "str" "tuple" = some false := by decide +kernel
theorem kit_sb : kitB "str" "bool" = some false := by decide +kernel
theorem kit_si : kitB "str" "int" = some false := by decide +kernel
theorem kit_ss : kitB "str" "str" = some true := by decide +kernel
theorem kit_ts : kitB "tuple" "str" = some false := by decide +kernel
theorem kit_tb : kitB "tuple" "bool" = some false := by decide +kernel
theorem kit_is : kitB "int" "str" = some false := by decide +kernel
theorem kit_bs : kitB "bool" "str" = some false := by decide +kernel
theorem kit_nt : kitB "NoneType" "tuple" = some false := by decide +kernel
theorem kit_ni : kitB "NoneType" "int" = some false := by decide +kernel
theorem kit_nb : kitB "NoneType" "bool" = some false := by decide +kernel
theorem kit_ns : kitB "NoneType" "str" = some false := by decide +kernel
theorem q_bltn {X : Cx} {W : WXT} {x : Str} {n : String} {pos : Pos} (hg : Gl X x) (hm : X.mg x = none) (hv : bootBuiltins x = some (.type n)) (hn : x ≠ "__name__" := by decide) (hd : (x == ("__debug__" : Str)) = false := by decide) : QE X W (.Name x pos) (eC (.ty n)) :=
  q_const (pe_bltn (v := .ty n) hg hm hv rfl hn hd) fun G => by unfold Rep; rfl

/-! ### deep equality -/
mutual
def pyD : D → PyData
  | .non => .none
  | .bl b => .bool b
  | .int i => .int i
  | .str x => .str x
  | .tup xs => .tuple (pyDs xs)
  | .lst xs => .list (pyDs xs)
  | _ => .none
def pyDs : List D → List PyData
  | [] => []
  | x :: r => pyD x :: pyDs r
end
mutual
def okD : D → Bool
  | .non => true
  | .bl _ => true
  | .int _ => true
  | .str _ => true
  | .tup xs => okDs xs
  | .lst xs => okDs xs
  | _ => false
def okDs : List D → Bool
  | [] => true
  | x :: r => okD x && okDs r
end
section
variable {K : PySem.W.Frag} {G H : Hp}
mutual
theorem dp_of (hs : Same G H) : ∀ (d : D) (v : V), okD d = true → Rep K G d v → Dp K H v (pyD d)
  | .non, v, _, r => by unfold Rep at r; subst r; unfold pyD; exact .non
  | .bl _, v, _, r => by unfold Rep at r; subst r; unfold pyD; exact .bl _
  | .int _, v, _, r => by unfold Rep at r; subst r; unfold pyD; exact .int _
  | .str _, v, _, r => by unfold Rep at r; subst r; unfold pyD; exact .str _
  | .tup xs, v, h, r => by unfold Rep at r; obtain ⟨a, vs, e, g, rs⟩ := r; subst e; unfold pyD; unfold okD at h; exact .tup (SqT.of (hs _ _ g)) (dps_of hs xs vs h rs)
  | .lst xs, v, h, r => by unfold Rep at r; obtain ⟨a, vs, e, g, rs⟩ := r; subst e; unfold pyD; unfold okD at h; exact .lst (SqL.of (hs _ _ g)) (dps_of hs xs vs h rs)
  | .dK _ _, v, h, r => by unfold okD at h; cases h
  | .dT _ _, v, h, r => by unfold okD at h; cases h
  | .scr _, v, h, r => by unfold okD at h; cases h
  | .ref _, v, h, r => by unfold okD at h; cases h
  | .ty _, v, h, r => by unfold okD at h; cases h
theorem dps_of (hs : Same G H) : ∀ (ds : List D) (vs : List V), okDs ds = true → Reps K G ds vs → DpAll K H vs (pyDs ds)
  | [], vs, _, r => by unfold Reps at r; subst r; unfold pyDs; exact .nil
  | d :: ds, vs, h, r => by
    unfold Reps at r
    obtain ⟨v, t, e, r1, r2⟩ := r
    subst e
    unfold okDs at h
    rw [Bool.and_eq_true] at h
    unfold pyDs
    exact .cons (dp_of hs d v h.1 r1) (dps_of hs ds t h.2 r2)
end
def dEqD (neg : Bool) : R2D := fun x y S k => match x, y with
  | .d x, .d y => okD x = true ∧ okD y = true ∧ SeqAt.shaped (pyD x) = true ∧ SeqAt.shaped (pyD y) = true ∧ k (.d (.bl (if neg then !PyData.eqv (pyD x) (pyD y) else PyData.eqv (pyD x) (pyD y)))) S
  | _, _ => False
theorem d_eqD : OpD K (rEqD K) (dEqD false) := ⟨fun {α G H ρ S σ x y vx vy k Q} o rx ry h q => by
  unfold dEqD at h
  split at h
  · obtain ⟨h1, h2, h3, h4, h⟩ := h
    exact ⟨_, _, dp_of o.st.same _ _ h1 rx, dp_of o.st.same _ _ h2 ry, h3, h4, q.here o h rep_bl⟩
  · exact h.elim⟩
theorem d_neD : OpD K (rNeD K) (dEqD true) := ⟨fun {α G H ρ S σ x y vx vy k Q} o rx ry h q => by
  unfold dEqD at h
  split at h
  · obtain ⟨h1, h2, h3, h4, h⟩ := h
    exact ⟨_, _, dp_of o.st.same _ _ h1 rx, dp_of o.st.same _ _ h2 ry, h3, h4, q.here o h rep_bl⟩
  · exact h.elim⟩
end

/-! ### freezing a list of lists -/
def frzL (S : Sto) : List C → Option (List D × Sto)
  | [] => some ([], S)
  | .d x :: r => match frzL S r with
    | some (ds, S') => some (x :: ds, S')
    | none => none
  | .c j :: r => match S.own j with
    | some o => match frzO o, frzL (S.set j none) r with
      | some d, some (ds, S') => some (d :: ds, S')
      | _, _ => none
    | none => none
/-- the i-th name holds a list (a cell) whose items may be cells: all are frozen; other names that held them are forgotten to be the same -/
def sFrz2 (i : Nat) (t : TSD) : TSD := fun D ρ S => ∃ j cs ds S', ρ[i]? = some (some (.c j)) ∧ S.own j = some (.lst cs) ∧ frzL S cs = some (ds, S') ∧ S'.own j = some (.lst cs) ∧ t D (subE j (.lst ds) ρ) (S'.set j none)
section
variable {K : PySem.W.Frag} {α : List Addr} {G H : Hp}
/-- a live cell goes out of the store, its object frozen -/
theorem frz_with {S : Sto} {j : Nat} {o : Own} {d : D} {a : Addr} {u : HO} (hok : OkS K α G S H) (hj : S.own j = some o) (e1 : α[j]? = some a) (hg : G a = none) (hu : H a = some u) (hnown : ∀ x, u ≠ .own x) (hr : Rep K (upd G a u) d (.ref a)) :
    ∃ G', OkS K α G' (S.set j none) H ∧ Ext α G H α G' H ∧ Rep K G' d (.ref a) := by
  have hm := List.mem_of_getElem? e1
  have hs : Same G (upd G a u) := fun b w e => by rw [upd_ne (ne_of_none e hg)]; exact e
  refine ⟨upd G a u, ⟨fun b w e => ?_, hok.nd, by simp [hok.len], hok.dom, fun i w e => ?_⟩, ⟨List.prefix_rfl, hs, fun b h1 h2 h3 => ?_⟩, hr⟩
  · by_cases hb : b = a
    · subst hb; rw [upd_same] at e; cases e; exact hu
    · rw [upd_ne hb] at e; exact hok.same b w e
  · have hij : j ≠ i := fun q => by
      subst q
      by_cases hl : j < S.length
      · rw [List.getElem?_set_self hl] at e; cases e
      · rw [List.getElem?_eq_none_iff.mpr (by simpa using hl)] at e; cases e
    rw [List.getElem?_set_ne hij] at e
    obtain ⟨b, f1, f2, f3⟩ := hok.cell i w e
    have hne : b ≠ a := by
      intro q; subst q
      have h3 := (List.getElem?_eq_some_iff.mp f1).2.trans (List.getElem?_eq_some_iff.mp e1).2.symm
      exact hij ((List.getElem_inj hok.nd).mp h3).symm
    refine ⟨b, f1, by rw [upd_ne hne]; exact f2, f3.keep List.prefix_rfl hs rfl fun dx d1 d2 d3 => ⟨rfl, ?_, d3⟩⟩
    rw [upd_ne (show dx ≠ a from fun q => d3 (by rw [q]; exact hm))]; exact d2
  · have hne : b ≠ a := fun q => h3 (q ▸ hm)
    exact ⟨rfl, by rw [upd_ne hne]; exact h2, h3⟩
theorem frz_one {S : Sto} {j : Nat} {o : Own} {d : D} (hok : OkS K α G S H) (hj : S.own j = some o) (hd : frzO o = some d) : ∃ G' a, OkS K α G' (S.set j none) H ∧ Ext α G H α G' H ∧ α[j]? = some a ∧ Rep K G' d (.ref a) := by
  obtain ⟨a, e1, hg, r⟩ := hok.cell j o (own_of hj)
  have hm := List.mem_of_getElem? e1
  have key : ∃ u, H a = some u ∧ (∀ x, u ≠ .own x) ∧ Rep K (upd G a u) d (.ref a) := by
    have hs : ∀ u, Same G (upd G a u) := fun u b w e => by rw [upd_ne (ne_of_none e hg)]; exact e
    cases o with
    | lst xs =>
      obtain ⟨vs, h1, rs⟩ := r
      simp only [frzO, Option.map_eq_some_iff] at hd
      obtain ⟨ds, hd, e⟩ := hd
      subst e
      rw [unD_some hd] at rs
      refine ⟨_, h1, fun x => by simp, ?_⟩
      unfold Rep
      exact ⟨a, vs, rfl, upd_same, Reps.mono (hs _) _ _ (Reps.of (RepCs.ofData rs))⟩
    | dK kvs =>
      obtain ⟨vs, h1, rs⟩ := r
      simp only [frzO, Option.map_eq_some_iff] at hd
      obtain ⟨ds, hd, e⟩ := hd
      subst e
      obtain ⟨l, e2, p⟩ := frz_pairs hd rs
      refine ⟨_, h1, fun x => by simp, ?_⟩
      unfold Rep
      exact ⟨a, vs.map (·.2), rfl, by rw [upd_same, ← e2], l, Reps.mono (hs _) _ _ (Reps.of p)⟩
    | dT kvs =>
      obtain ⟨vs, h1, rs⟩ := r
      simp only [frzO, Option.map_eq_some_iff] at hd
      obtain ⟨ds, hd, e⟩ := hd
      subst e
      obtain ⟨l, e2, p⟩ := frz_pairs hd rs
      refine ⟨_, h1, fun x => by simp, ?_⟩
      unfold Rep
      exact ⟨a, vs.map (·.2), rfl, by rw [upd_same, ← e2], l, Reps.mono (hs _) _ _ (Reps.of p)⟩
    | ins cl fs => cases hd
  obtain ⟨u, hu, hnown, hr⟩ := key
  obtain ⟨G', o', e', r'⟩ := frz_with hok hj e1 hg hu hnown hr
  exact ⟨G', a, o', e', e1, r'⟩
theorem frzL_ok : ∀ {cs : List C} {S S' : Sto} {ds : List D} {G : Hp} {vs : List V}, OkS K α G S H → frzL S cs = some (ds, S') → RepCs K α G cs vs → ∃ G', OkS K α G' S' H ∧ Ext α G H α G' H ∧ Paired (Rep K G') ds vs
  | [], S, S', ds, G, vs, ok, h, r => by
    cases r
    simp [frzL] at h
    obtain ⟨rfl, rfl⟩ := h
    exact ⟨G, ok, Ext.refl, .nil⟩
  | .d x :: t, S, S', ds, G, vs, ok, h, r => by
    cases r with
    | cons r1 rr =>
      simp only [frzL] at h
      split at h
      · rename_i ds' S'' h1
        cases h
        obtain ⟨G', o', e', p'⟩ := frzL_ok ok h1 rr
        exact ⟨G', o', e', .cons (Rep.mono e'.same _ _ r1) p'⟩
      · cases h
  | .c j :: t, S, S', ds, G, vs, ok, h, r => by
    cases r with
    | cons r1 rr =>
      simp only [frzL] at h
      split at h
      · rename_i o hj
        split at h
        · rename_i d ds' S'' h1 h2
          cases h
          obtain ⟨G1, a, o1, e1, ha, hd⟩ := frz_one ok hj h1
          obtain ⟨G', o', e', p'⟩ := frzL_ok o1 h2 (RepCs.mono e1.pre e1.same rr)
          obtain ⟨b, f1, f2⟩ := r1
          rw [ha] at f1; cases f1
          subst f2
          exact ⟨G', o', e1.trans e', .cons (Rep.mono e'.same _ _ hd) p'⟩
        · cases h
      · cases h
end
theorem qs_frz2 {X : Cx} {W : WXT} {st : Stmt} {t : TSD} (i : Nat) (h : QS X W st t) : QS X W st (sFrz2 i t) := ps_imp h fun D σ H h => by
  obtain ⟨α, G, ρ, S, DD, o, h, q⟩ := h
  obtain ⟨j, cs, ds, S', h1, h2, h3, h5, h4⟩ := h
  obtain ⟨a, e1, hg, vs, hv, rs⟩ := o.cellAt h2
  have hm := List.mem_of_getElem? e1
  obtain ⟨G1, o1, e2, p2⟩ := frzL_ok o.st h3 rs
  obtain ⟨a', e1', hga, vs', hv', _⟩ := o1.cell j _ (own_of h5)
  rw [e1] at e1'; cases e1'
  have hs : Same G1 (upd G1 a (.lst vs)) := fun b w e => by rw [upd_ne (ne_of_none e hga)]; exact e
  have hrep : Rep X.K (upd G1 a (.lst vs)) (.lst ds) (.ref a) := by
    unfold Rep
    exact ⟨a, vs, rfl, upd_same, Reps.mono hs _ _ (Reps.of p2)⟩
  obtain ⟨G2, o2, e3, r3⟩ := frz_with o1 h5 e1 hga hv (fun x => by simp) hrep
  have e4 := e2.trans e3
  refine ⟨α, G2, _, _, DD, ⟨o2, by unfold subE; rw [List.length_map]; exact o.rlen, fun i c e => ?_⟩, h4, q.ext e4⟩
  unfold subE at e
  rw [List.getElem?_map, Option.map_eq_some_iff] at e
  obtain ⟨o1, e, e2⟩ := e
  obtain ⟨c1, rfl, e3⟩ := Option.map_eq_some_iff.mp e2
  obtain ⟨v, k1, k2⟩ := o.env i c1 e
  subst e3
  exact ⟨v, k1, subC_rep e1 e4.same r3 k2⟩
/-! ### k in d as a test -/
section
variable {X : Cx} {W : WXT} {a b : Expr} {wa wb : TD} {pos : Pos}
theorem din_lift {K : PySem.W.Frag} {neg : Bool} {σ : St} {H : Hp} {Q : VK} (h : lift K W (wBin (dDIn neg) wb wa) σ H Q) : lift K W wb σ H fun y H1 => lift K W wa σ H1 fun x H2 => ∃ a o, x = .ref a ∧ DGet H2 a y o ∧ Q (.bl (if neg then !o.isSome else o.isSome)) H2 := by
  refine lift_bin (r := fun y x H Q => ∃ a o, x = .ref a ∧ DGet H a y o ∧ Q (.bl (if neg then !o.isSome else o.isSome)) H) ⟨fun {α G H ρ S σ x y vx vy k Q} o rx ry h q => ?_⟩ h
  obtain ⟨r, e, h⟩ := h
  obtain ⟨a, w, e1, g, f, f2, _⟩ := dGet_rep o ry rx e
  refine ⟨a, w, e1, g, ?_⟩
  have : w.isSome = r.isSome := by
    cases r with
    | none => rw [f2 rfl]; rfl
    | some c => obtain ⟨v, e2, _⟩ := f c rfl; rw [e2]; rfl
  rw [this]
  exact q.here o h rep_bl
theorem qt_din (hu : X.A.units + 1 < cLine) (hb : QE X W b wb) (ha : QE X W a wa) (hm : behindInMarks .In a = false := by rfl) : QT X W (.Compare b [.In] [a] pos) (eB (wBin (dDIn false) wb wa)) :=
  pt_imp (pt_cmp (pc_din hu hb ha) hm) fun σ H Q h => din_lift (neg := false) (lift_B h)
theorem qt_dnotin (hu : X.A.units + 1 < cLine) (hb : QE X W b wb) (ha : QE X W a wa) (hm : behindInMarks .NotIn a = false := by rfl) : QT X W (.Compare b [.NotIn] [a] pos) (eB (wBin (dDIn true) wb wa)) :=
  pt_imp (pt_cmp (pc_dnotin hu hb ha) hm) fun σ H Q h => din_lift (neg := true) (lift_B h)
end
end PL

/-! the pure layer, part 12: bits, membership, get with a word of its own, dead statements -/
namespace PL
open PySem PySem.Spec L2
open PyProof.Rows hiding St
/-! ### a statement that is never reached -/
def sNever : TSD := fun _ _ _ => False
def TS0 : TS := fun _ _ _ => False
theorem qs_never {X : Cx} {W : WXT} {st : Stmt} : QS X W st sNever := ⟨fun pins s σ H D I h => by
  obtain ⟨α, G, ρ, S, DD, o, h, q⟩ := h
  exact h.elim⟩
/-! ### bits -/
section
variable {X : Cx} {W : WXT} {o e f : Expr} {wo we wf : TD} {apos pos cpos : Pos}
def dBits : R1D := fun x S k => match x with
  | .d (.int i) => k (.d (.int (Builtin.Int.intBits i : Nat))) S
  | _ => False
abbrev eBits (wo : TD) : TD := fun ρ S k kx => wo ρ S (fun x S1 => dBits x S1 k) kx
theorem q_bits (ho : QE X W o wo) (hbase : attributeBase o "bit_length" X.env (eval o X.env) = eval o X.env := by rfl) (hline : (apos.endLine == pos.line) = true := by rfl) : QE X W (.Call (.Attribute o "bit_length" apos) [] [] pos) (eBits wo) := by
  refine pe_imp (pe_bits ho hbase hline) fun σ H Q h => ?_
  obtain ⟨α, G, ρ, S, k, kx, o, h, q, qx⟩ := h
  refine ⟨α, G, ρ, S, _, kx, o, h, fun c S1 α1 G1 H1 v h1 e1 o1 r1 => ?_, qx⟩
  unfold dBits at h1
  split at h1
  · exact ⟨_, of_int r1, q _ _ _ _ _ _ h1 e1 o1 rep_int⟩
  · exact h1.elim
/-! ### d.get(k, word) -/
def dDGet2 (x y z : C) (S : Sto) (k : C → Sto → Prop) : Prop := ∃ r, dGet S x y = some r ∧ k (r.getD z) S
abbrev eDGet2 (wo we wf : TD) : TD := fun ρ S k kx => wo ρ S (fun x S1 => (∃ r, dGet S1 x (.d (.int 0)) = some r) ∧ we ρ S1 (fun y S2 => wf ρ S2 (fun z S3 => dDGet2 x y z S3 k) kx) kx) kx
theorem q_dget2 (hu : X.A.units + 1 < cLine) (ho : QE X W o wo) (he : QE X W e we) (hf : QE X W f wf) (m : M2 X o "get" apos e f cpos := by exact ⟨rfl, rfl, rfl, rfl⟩) : QE X W (.Call (.Attribute o "get" apos) [e, f] [] cpos) (eDGet2 wo we wf) := by
  refine pe_imp (pe_dget2 hu ho he hf m) fun σ H Q h => ?_
  obtain ⟨α, G, ρ, S, k, kx, o, h, q, qx⟩ := h
  refine ⟨α, G, ρ, S, _, kx, o, h, fun x S1 α1 G1 H1 vx h1 e1 o1 r1 => ?_, qx⟩
  obtain ⟨⟨r0, h0⟩, h1⟩ := h1
  obtain ⟨a, w, e0, _, _, _, isd⟩ := dGet_rep o1 r1 (rep_int (i := 0)) h0
  refine ⟨a, e0, isd, α1, G1, ρ, S1, _, kx, o1, h1, fun y S2 α2 G2 H2 vy h2 e2 o2 r2 => ?_, qx.ext e1⟩
  refine ⟨α2, G2, ρ, S2, _, kx, o2, h2, fun z S3 α3 G3 H3 vz h3 e3 o3 r3 => ?_, (qx.ext e1).ext e2⟩
  obtain ⟨r, hr, h3⟩ := h3
  have rx := (r1.mono e2.pre e2.same).mono e3.pre e3.same
  have ry := r2.mono e3.pre e3.same
  obtain ⟨a', w', e4, g, f1, f2, _⟩ := dGet_rep o3 rx ry hr
  have ea : a' = a := by
    have := e4.symm.trans e0
    cases this; rfl
  subst ea
  refine ⟨w', g, ?_⟩
  cases r with
  | none => rw [f2 rfl]; exact q _ _ _ _ _ _ h3 ((e1.trans e2).trans e3) o3 r3
  | some c =>
    obtain ⟨v, e5, rv⟩ := f1 c rfl
    rw [e5]; exact q _ _ _ _ _ _ h3 ((e1.trans e2).trans e3) o3 rv
end
/-! ### x in a list or tuple of whole numbers -/
section
variable {K : PySem.W.Frag}
def dInSeqG (neg : Bool) : R2D := fun x y S k => ∃ (i : Int) (ns : List Int), x = .d (.int i) ∧ seqOf S y = some (cInts ns) ∧ k (.d (.bl (if neg then !decide (i ∈ ns) else decide (i ∈ ns)))) S
abbrev dInSeq : R2D := dInSeqG false
abbrev dNotInSeq : R2D := dInSeqG true
theorem inV_ints (i : Int) : ∀ ns : List Int, inV (.int i) (ns.map V.int) = decide (i ∈ ns)
  | [] => rfl
  | n :: ns => by
    show (eqV (.int n) (.int i) || inV (.int i) (ns.map V.int)) = _
    rw [inV_ints i ns]
    show ((n == i) || decide (i ∈ ns)) = _
    by_cases e : i = n
    · subst e; simp
    · have : (n == i) = false := by simpa using Ne.symm e
      rw [this]; simp [e]
theorem flat_ints (ns : List Int) : (ns.map V.int).all flatV = true := by
  rw [List.all_map, List.all_eq_true]; intro x _; rfl
theorem d_inG {neg : Bool} : OpD K (rIn K neg) (dInSeqG neg) := ⟨fun {α G H ρ S σ x y vx vy k Q} o rx ry h q => by
  obtain ⟨i, ns, rfl, hy, h⟩ := h
  obtain ⟨a, vs, e, hs, rs⟩ := seq_rep o ry hy
  have ev := reps_cInts rs
  subst ev
  refine ⟨a, _, e, hs, by rw [of_int rx]; rfl, flat_ints ns, ?_⟩
  rw [of_int rx, inV_ints]
  exact q.here o h rep_bl⟩
theorem d_inseq : OpD K (rIn K false) dInSeq := d_inG
theorem d_notinseq : OpD K (rIn K true) dNotInSeq := d_inG
end
/-! ### the truth of a value -/
section
variable {X : Cx} {W : WXT} {e : Expr} {we : TD}
def truC (S : Sto) : C → Option Bool
  | .d .non => some false
  | .d (.bl b) => some b
  | .d (.int i) => some (i != 0)
  | c => (seqOf S c).map fun xs => !xs.isEmpty
def eTru (we : TD) : TTD := fun ρ S k kx => we ρ S (fun x S1 => ∃ b, truC S1 x = some b ∧ k b S1) kx
theorem seq_tru {K : PySem.W.Frag} {α : List Addr} {G H : Hp} {ρ : Env} {S : Sto} {σ : St} {c : C} {v : V} {b : Bool} (o : Ok K α G ρ S σ H) (r : RepC K α G c v) (h : (seqOf S c).map (fun xs => !xs.isEmpty) = some b) : TruV K v H b := by
  obtain ⟨xs, h1, h2⟩ := Option.map_eq_some_iff.mp h
  obtain ⟨a, vs, rfl, hs, rs⟩ := seq_rep o r h1
  have e : (!vs.isEmpty) = (!xs.isEmpty) := by
    have := rs.len
    cases xs <;> cases vs <;> simp at this ⊢
  rcases hs with hs | hs
  · exact .inl ⟨vs, hs, by rw [e, h2]⟩
  · exact .inr (.inl ⟨vs, hs, by rw [e, h2]⟩)
theorem truC_rep {K : PySem.W.Frag} {α : List Addr} {G H : Hp} {ρ : Env} {S : Sto} {σ : St} {c : C} {v : V} {b : Bool} (o : Ok K α G ρ S σ H) (r : RepC K α G c v) (h : truC S c = some b) : TruV K v H b := by
  cases c with
  | c j => exact seq_tru o r h
  | d x =>
    cases x with
    | non => rw [of_non r]; cases h; rfl
    | bl b' => rw [of_bl r]; cases h; rfl
    | int i => rw [of_int r]; cases h; rfl
    | str x => exact seq_tru o r h
    | tup xs => exact seq_tru o r h
    | lst xs => exact seq_tru o r h
    | dK _ _ => exact seq_tru o r h
    | dT _ _ => exact seq_tru o r h
    | scr _ => exact seq_tru o r h
    | ref _ => exact seq_tru o r h
    | ty _ => exact seq_tru o r h
theorem qt_truth (he : QE X W e we) (ht : ∀ whole, isTrue e X.env whole = (do let v ← whole; standAt e.pos; holding [v] (truthy v))) : QT X W e (eTru we) := by
  refine pt_imp (pt_truth he ht) fun σ H Q h => ?_
  obtain ⟨α, G, ρ, S, k, kx, o, h, q, qx⟩ := h
  refine ⟨α, G, ρ, S, _, kx, o, h, fun c S1 α1 G1 H1 v h1 e1 o1 r1 => ?_, qx⟩
  obtain ⟨b, hb, h1⟩ := h1
  exact ⟨b, truC_rep o1 r1 hb, q _ _ _ _ _ h1 e1 o1⟩
end
end PL

/-! typed data for the laws of orders: tables, tapes, orders; lemmas of places -/
namespace PL
open PySem PySem.Spec L2
open PyProof.Rows hiding St

/-- a list of n things told by a function -/
def fnL {β : Type} (n : Nat) (f : Nat → β) : List β := (List.range n).map f
theorem fnL_len {β : Type} (n : Nat) (f : Nat → β) : (fnL n f).length = n := by simp [fnL]
theorem fnL_at {β : Type} {n i : Nat} (f : Nat → β) (h : i < n) : (fnL n f)[i]? = some (f i) := by simp [fnL, h]
theorem fnL_get {β : Type} {n i : Nat} (f : Nat → β) (h : i < (fnL n f).length) : (fnL n f)[i] = f i := by simp [fnL]
theorem fnL_atI {β : Type} {n i : Nat} (f : Nat → β) (h : i < n) : atI (fnL n f) (i : Int) = some (f i) := atI_nat (fnL_at f h)
theorem fnL_map {β γ : Type} (n : Nat) (f : Nat → β) (g : β → γ) : (fnL n f).map g = fnL n (fun i => g (f i)) := by simp [fnL, Function.comp_def]
theorem fnL_congr {β : Type} {n : Nat} {f g : Nat → β} (h : ∀ i, i < n → f i = g i) : fnL n f = fnL n g := by
  unfold fnL; exact List.map_congr_left fun i hi => h i (by simpa using hi)
theorem fnL_set {β : Type} {n i : Nat} (f : Nat → β) (x : β) (h : i < n) : (fnL n f).set i x = fnL n (fun j => if j = i then x else f j) := by
  apply List.ext_getElem?
  intro j
  by_cases hj : j < n
  · rw [fnL_at _ hj]
    by_cases e : j = i
    · subst e; rw [List.getElem?_set_self (by rw [fnL_len]; exact h), if_pos rfl]
    · rw [List.getElem?_set_ne (Ne.symm e), fnL_at _ hj, if_neg e]
  · rw [List.getElem?_eq_none_iff.mpr (by simp [fnL_len]; omega), List.getElem?_eq_none_iff.mpr (by simp [fnL_len]; omega)]
theorem fnL_of {β : Type} (xs : List β) (d : β) : xs = fnL xs.length (fun i => xs.getD i d) := by
  apply List.ext_getElem?
  intro j
  by_cases hj : j < xs.length
  · rw [fnL_at _ hj, List.getD_eq_getElem?_getD, List.getElem?_eq_getElem hj]; rfl
  · rw [List.getElem?_eq_none_iff.mpr (by omega), List.getElem?_eq_none_iff.mpr (by simp [fnL_len]; omega)]
theorem fnL_rep {β : Type} (n : Nat) (x : β) : (List.replicate n [x]).flatten = fnL n (fun _ => x) := by
  induction n with
  | zero => rfl
  | succ n ih =>
    rw [List.replicate_succ, List.flatten_cons, ih]
    unfold fnL
    rw [List.range_succ_eq_map, List.map_cons, List.map_map]; rfl
theorem fnL_mem {β : Type} {n : Nat} {f : Nat → β} {x : β} : x ∈ fnL n f ↔ ∃ i, i < n ∧ f i = x := by simp [fnL]
theorem fnL_append {β : Type} (n m : Nat) (f g : Nat → β) : fnL n f ++ fnL m g = fnL (n + m) (fun i => if i < n then f i else g (i - n)) := by
  apply List.ext_getElem?
  intro j
  by_cases h1 : j < n
  · rw [List.getElem?_append_left (by rw [fnL_len]; exact h1), fnL_at _ h1, fnL_at _ (by omega), if_pos h1]
  · rw [List.getElem?_append_right (by rw [fnL_len]; omega), fnL_len]
    by_cases h2 : j < n + m
    · rw [fnL_at _ (by omega), fnL_at _ h2, if_neg h1]
    · rw [List.getElem?_eq_none_iff.mpr (by simp [fnL_len]; omega), List.getElem?_eq_none_iff.mpr (by simp [fnL_len]; omega)]
theorem fnL_succ {β : Type} (n : Nat) (f : Nat → β) : fnL (n + 1) f = fnL n f ++ [f n] := by simp [fnL, List.range_succ]
theorem rg0 (n : Nat) : rgD 0 (n : Int) = fnL n (fun i => (i : Int)) := by
  unfold rgD fnL
  rw [show ((n : Int) - 0).toNat = n by omega]
  apply List.map_congr_left
  intro i _
  omega
theorem rg2 (a b : Nat) : rgD (a : Int) (b : Int) = fnL (b - a) (fun i => ((a + i : Nat) : Int)) := by
  unfold rgD fnL
  rw [show ((b : Int) - a).toNat = b - a by omega]
  apply List.map_congr_left
  intro i _
  omega
theorem cInts_eq (ns : List Int) : cInts ns = (ns.map D.int).map C.d := ints_map ns
theorem unD_cInts (ns : List Int) : unD (cInts ns) = some (ns.map D.int) := by rw [cInts_eq, unD_map]
/-- a new list of data, frozen -/
theorem newL_data {ds : List D} {S : Sto} {k : C → Sto → Prop} (h : k (.d (.lst ds)) S) : newL false (ds.map C.d) S k := by
  show (match unD (ds.map C.d) with | some ds => k (.d (.lst ds)) S | none => False)
  rw [unD_map]; exact h
theorem newL_cell {cs : List C} {S : Sto} {k : C → Sto → Prop} (h : k (.c S.length) (S ++ [some (.lst cs)])) : newL true cs S k := h
theorem newL_fn {n : Nat} {f : Nat → D} {S : Sto} {k : C → Sto → Prop} (h : k (.d (.lst (fnL n f))) S) : newL false (fnL n (fun i => C.d (f i))) S k := by
  rw [← fnL_map n f C.d]; exact newL_data h
theorem newT_data {ds : List D} {S : Sto} {k : C → Sto → Prop} (h : k (.d (.tup ds)) S) : newT (ds.map C.d) S k := by
  unfold newT; rw [unD_map]; exact h
theorem newT_fn {n : Nat} {f : Nat → D} {S : Sto} {k : C → Sto → Prop} (h : k (.d (.tup (fnL n f))) S) : newT (fnL n (fun i => C.d (f i))) S k := by
  rw [← fnL_map n f C.d]; exact newT_data h
/-- the store's cells behind a change -/
theorem own_set_same {S : Sto} {j : Nat} {o : Own} (h : j < S.length) : Sto.own (S.set j (some o)) j = some o := by
  unfold Sto.own; rw [List.getElem?_set_self h]
theorem own_set_ne {S : Sto} {i j : Nat} {o : Option Own} (h : j ≠ i) : Sto.own (S.set j o) i = S.own i := by
  unfold Sto.own; rw [List.getElem?_set_ne h]
theorem own_app {S T : Sto} {i : Nat} (h : i < S.length) : Sto.own (S ++ T) i = S.own i := by
  unfold Sto.own; rw [List.getElem?_append_left h]
theorem own_new {S : Sto} {o : Own} : Sto.own (S ++ [some o]) S.length = some o := by
  unfold Sto.own; simp
theorem own_lt {S : Sto} {i : Nat} {o : Own} (h : S.own i = some o) : i < S.length := (List.getElem?_eq_some_iff.mp (own_of h)).1
theorem own_of_at {S : Sto} {i : Nat} {o : Own} (h : S[i]? = some (some o)) : S.own i = some o := by unfold Sto.own; rw [h]

end PL

/-! plain mathematics: sums over lists, chains, signed counts -/
namespace PL
def sm {α : Type} (l : List α) (f : α → Int) : Int := (l.map f).sum
section
variable {α β : Type}
theorem sm_nil (f : α → Int) : sm [] f = 0 := rfl
theorem sm_cons (a : α) (l : List α) (f : α → Int) : sm (a :: l) f = f a + sm l f := by simp [sm]
theorem sm_append (l m : List α) (f : α → Int) : sm (l ++ m) f = sm l f + sm m f := by simp [sm]
theorem sm_map (l : List α) (g : α → β) (f : β → Int) : sm (l.map g) f = sm l (fun x => f (g x)) := by simp [sm, Function.comp_def]
theorem sm_congr {l : List α} {f g : α → Int} (h : ∀ x, x ∈ l → f x = g x) : sm l f = sm l g := by unfold sm; rw [List.map_congr_left h]
theorem sm_add (l : List α) (f g : α → Int) : sm l (fun x => f x + g x) = sm l f + sm l g := by
  induction l with
  | nil => rfl
  | cons a l ih => simp only [sm_cons, ih]; omega
theorem sm_neg (l : List α) (f : α → Int) : sm l (fun x => - f x) = - sm l f := by
  induction l with
  | nil => rfl
  | cons a l ih => simp only [sm_cons, ih]; omega
theorem sm_zero (l : List α) : sm l (fun _ => 0) = 0 := by
  induction l with
  | nil => rfl
  | cons a l ih => simp only [sm_cons, ih]; rfl
theorem sm_zero' {l : List α} {f : α → Int} (h : ∀ x, x ∈ l → f x = 0) : sm l f = 0 := by rw [sm_congr h, sm_zero]
theorem sm_perm {l m : List α} (h : l.Perm m) (f : α → Int) : sm l f = sm m f := by
  induction h with
  | nil => rfl
  | cons a _ ih => rw [sm_cons, sm_cons, ih]
  | swap a b l => simp only [sm_cons]; omega
  | trans _ _ i1 i2 => rw [i1, i2]
theorem sm_filter (l : List α) (p : α → Bool) (f : α → Int) : sm (l.filter p) f = sm l (fun x => if p x = true then f x else 0) := by
  induction l with
  | nil => rfl
  | cons a l ih =>
    rw [sm_cons]
    by_cases h : p a = true
    · rw [List.filter_cons_of_pos h, sm_cons, ih, if_pos h]
    · rw [List.filter_cons_of_neg h, ih, if_neg h]; omega
theorem sm_flatMap (l : List α) (g : α → List β) (f : β → Int) : sm (l.flatMap g) f = sm l (fun x => sm (g x) f) := by
  induction l with
  | nil => rfl
  | cons a l ih => rw [List.flatMap_cons, sm_append, ih, sm_cons]
theorem sm_swap (l : List α) (m : List β) (f : α → β → Int) : sm l (fun x => sm m (fun y => f x y)) = sm m (fun y => sm l (fun x => f x y)) := by
  induction l with
  | nil => exact (sm_zero m).symm
  | cons a l ih => rw [sm_cons, ih, ← sm_add]; exact sm_congr fun y _ => (sm_cons a l (fun x => f x y)).symm
theorem sm_if_eq [DecidableEq α] {l : List α} (nd : l.Nodup) (a : α) (f : α → Int) : sm l (fun x => if x = a then f x else 0) = if a ∈ l then f a else 0 := by
  induction l with
  | nil => rfl
  | cons b l ih =>
    have nd' := List.nodup_cons.mp nd
    rw [sm_cons, ih nd'.2]
    by_cases h : b = a
    · subst h
      rw [if_pos rfl, if_neg nd'.1, if_pos (by simp)]; omega
    · rw [if_neg h]
      by_cases h2 : a ∈ l
      · rw [if_pos h2, if_pos (by simp [h2])]; omega
      · rw [if_neg h2, if_neg (by simp [h2, Ne.symm h])]; rfl
theorem sm_nonneg {l : List α} {f : α → Int} (h : ∀ x, x ∈ l → 0 ≤ f x) : 0 ≤ sm l f := by
  induction l with
  | nil => exact Int.le_refl _
  | cons a l ih => rw [sm_cons]; have := h a (by simp); have := ih fun x hx => h x (by simp [hx]); omega
theorem sm_nonneg_zero {l : List α} {f : α → Int} (h : ∀ x, x ∈ l → 0 ≤ f x) (h0 : sm l f = 0) : ∀ x, x ∈ l → f x = 0 := by
  induction l with
  | nil => intro x hx; simp at hx
  | cons a l ih =>
    rw [sm_cons] at h0
    have h1 := h a (by simp)
    have h2 := sm_nonneg (l := l) fun x hx => h x (by simp [hx])
    intro x hx
    rcases List.mem_cons.mp hx with rfl | hx
    · omega
    · exact ih (fun x hx => h x (by simp [hx])) (by omega) x hx
end
/-! ### chains by taking up one point after the other -/
def okF (R : Nat → Nat → Bool) (x : Nat) (one : List Nat) : Bool := match one.getLast? with
  | none => true
  | some y => R y x
def stepF (R : Nat → Nat → Bool) (F : List (List Nat)) (x : Nat) : List (List Nat) := F ++ (F.filter (okF R x)).map (· ++ [x])
def foundL (R : Nat → Nat → Bool) (L : List Nat) : List (List Nat) := L.foldl (stepF R) [[]]
theorem foundL_snoc (R : Nat → Nat → Bool) (L : List Nat) (x : Nat) : foundL R (L ++ [x]) = stepF R (foundL R L) x := by simp [foundL]
theorem snocRec {α : Type} {P : List α → Prop} (h0 : P []) (hs : ∀ l a, P l → P (l ++ [a])) : ∀ l, P l := by
  intro l
  have : ∀ l : List α, P l.reverse := by
    intro l
    induction l with
    | nil => exact h0
    | cons a l ih => rw [List.reverse_cons]; exact hs _ _ ih
  have := this l.reverse
  rwa [List.reverse_reverse] at this
theorem foundL_len (R : Nat → Nat → Bool) : ∀ L, (foundL R L).length ≤ 2 ^ L.length := by
  apply snocRec
  · simp [foundL]
  · intro L x ih
    rw [foundL_snoc]
    unfold stepF
    rw [List.length_append, List.length_map, List.length_append, List.length_singleton, Nat.pow_succ]
    have := List.length_filter_le (okF R x) (foundL R L)
    omega
theorem foundL_mem (R : Nat → Nat → Bool) : ∀ L one, one ∈ foundL R L → ∀ y, y ∈ one → y ∈ L := by
  apply snocRec
  · intro one h y hy; simp [foundL] at h; subst h; simp at hy
  · intro L x ih one h y hy
    rw [foundL_snoc] at h
    unfold stepF at h
    rcases List.mem_append.mp h with h | h
    · exact List.mem_append_left _ (ih one h y hy)
    · obtain ⟨o, ho, rfl⟩ := List.mem_map.mp h
      rcases List.mem_append.mp hy with hy | hy
      · exact List.mem_append_left _ (ih o (List.mem_filter.mp ho).1 y hy)
      · exact List.mem_append_right _ hy
theorem foundL_size (R : Nat → Nat → Bool) : ∀ L one, one ∈ foundL R L → one.length ≤ L.length := by
  apply snocRec
  · intro one h; simp [foundL] at h; subst h; simp
  · intro L x ih one h
    rw [foundL_snoc] at h
    unfold stepF at h
    rw [List.length_append]
    rcases List.mem_append.mp h with h | h
    · have := ih one h; omega
    · obtain ⟨o, ho, rfl⟩ := List.mem_map.mp h
      have := ih o (List.mem_filter.mp ho).1
      rw [List.length_append]; simp; omega
/-- the sign of a chain all of whose points are taken to themselves -/
def wt (fix : Nat → Bool) (one : List Nat) : Int := if one.all fix = true then (if one.length % 2 = 1 then 1 else -1) else 0
theorem wt_snoc (fix : Nat → Bool) (one : List Nat) (x : Nat) : wt fix (one ++ [x]) = if fix x = true then - wt fix one else 0 := by
  unfold wt
  rw [List.all_append, List.length_append, List.length_singleton]
  cases hx : fix x <;> cases ho : one.all fix <;> simp [hx, ho]
  split <;> split <;> omega
theorem getLast_snoc {α : Type} (l : List α) (a : α) : (l ++ [a]).getLast? = some a := by simp
theorem signed {R : Nat → Nat → Bool} (fix : Nat → Bool) : ∀ L : List Nat, L.Nodup → L.Pairwise (fun a b => R b a = false) → (∀ x, x ∈ L → R x x = false) →
    ∃ g : Nat → Int, (∀ x, x ∈ L → fix x = true → g x + sm L (fun y => if R y x = true then g y else 0) = 1) ∧ (∀ x, x ∈ L → fix x = false → g x = 0) ∧
      ∀ P : Option Nat → Bool, sm (foundL R L) (fun one => if P one.getLast? = true then wt fix one else 0) = (if P none = true then -1 else 0) + sm L (fun y => if P (some y) = true then g y else 0) := by
  apply snocRec
  · intro _ _ _
    refine ⟨fun _ => 0, by simp, by simp, fun P => ?_⟩
    simp [foundL, sm, wt]
  · intro L x ih nd pw irr
    have nd1 := List.nodup_append.mp nd
    have hx : x ∉ L := fun h => nd1.2.2 x h x (by simp) rfl
    have pw1 := List.pairwise_append.mp pw
    obtain ⟨g, h1, h2, h3⟩ := ih nd1.1 pw1.1 (fun y hy => irr y (by simp [hy]))
    have hxx : R x x = false := irr x (by simp)
    let gx : Int := sm ((foundL R L).filter (okF R x)) (fun one => wt fix (one ++ [x]))
    let g' : Nat → Int := fun y => if y = x then gx else g y
    have gL : ∀ y, y ∈ L → g' y = g y := fun y hy => if_neg (fun (e : y = x) => hx (e ▸ hy))
    have gX : g' x = gx := if_pos rfl
    have gxv : gx = if fix x = true then 1 - sm L (fun y => if R y x = true then g y else 0) else 0 := by
      have e1 : gx = sm ((foundL R L).filter (okF R x)) (fun one => if fix x = true then - wt fix one else 0) := sm_congr fun one _ => wt_snoc fix one x
      rw [e1]
      split
      · rw [sm_neg, sm_filter]
        have := h3 (fun o => match o with | none => true | some y => R y x)
        have e2 : sm (foundL R L) (fun one => if okF R x one = true then wt fix one else 0) = sm (foundL R L) (fun one => if (fun o : Option Nat => match o with | none => true | some y => R y x) one.getLast? = true then wt fix one else 0) := sm_congr fun one _ => rfl
        rw [e2, this]
        simp only [if_pos]
        omega
      · exact sm_zero _
    refine ⟨g', ?_, ?_, ?_⟩
    · intro z hz hf
      rw [sm_append]
      have e1 : sm L (fun y => if R y z = true then g' y else 0) = sm L (fun y => if R y z = true then g y else 0) := sm_congr fun y hy => by rw [gL y hy]
      rw [e1, sm_cons, sm_nil]
      rcases List.mem_append.mp hz with hz | hz
      · have : R x z = false := pw1.2.2 z hz x (by simp)
        rw [this, gL z hz]
        have := h1 z hz hf
        simp only [Bool.false_eq_true, if_false]; omega
      · have hz : z = x := by simpa using hz
        subst hz
        rw [hxx, gX, gxv, if_pos hf]
        simp only [Bool.false_eq_true, if_false]; omega
    · intro z hz hf
      rcases List.mem_append.mp hz with hz | hz
      · rw [gL z hz]; exact h2 z hz hf
      · have hz : z = x := by simpa using hz
        subst hz
        rw [gX, gxv, hf]; simp
    · intro P
      rw [foundL_snoc]
      unfold stepF
      rw [sm_append, h3 P, sm_append, sm_map, sm_cons, sm_nil, gX]
      have e1 : sm L (fun y => if P (some y) = true then g' y else 0) = sm L (fun y => if P (some y) = true then g y else 0) := sm_congr fun y hy => by rw [gL y hy]
      rw [e1]
      have e2 : sm ((foundL R L).filter (okF R x)) (fun one => if P (one ++ [x]).getLast? = true then wt fix (one ++ [x]) else 0) = if P (some x) = true then gx else 0 := by
        split
        · rename_i h; exact sm_congr fun one _ => by rw [getLast_snoc, if_pos h]
        · rename_i h; exact sm_zero' fun one _ => by rw [getLast_snoc, if_neg h]
      rw [e2]; omega
end PL

/-! the tape of the laws: specs -/
namespace PL
open PySem PySem.Spec L2
open PyProof.Rows hiding St

structure Tape where
  cells : List Int
  at_ : Int
  value : Int
  digits : Int
  mixed : Int
  salt : Int
abbrev ks (x : Str) : Key := Sum.inr x
def tapeK (t : Tape) : List (Key × C) := [(ks "cells", .d (.lst (t.cells.map D.int))), (ks "at", .d (.int t.at_)), (ks "value", .d (.int t.value)), (ks "digits", .d (.int t.digits)), (ks "mixed", .d (.int t.mixed)), (ks "salt", .d (.int t.salt))]
def tapeO (t : Tape) : Own := .dK (tapeK t)
theorem look_key {β : Type} {k k' : Key} {v : β} {r : List (Key × β)} {b : Bool} (h : decide (k = k') = b) : lookK ((k, v) :: r) k' = if b = true then some v else lookK r k' := by
  cases b with
  | true => have := of_decide_eq_true h; simp [lookK, this]
  | false => have := of_decide_eq_false h; simp [lookK, this]
theorem tp_cells (t : Tape) : lookK (tapeK t) (ks "cells") = some (.d (.lst (t.cells.map D.int))) := by kernel_rfl
theorem tp_at (t : Tape) : lookK (tapeK t) (ks "at") = some (.d (.int t.at_)) := by kernel_rfl
theorem tp_value (t : Tape) : lookK (tapeK t) (ks "value") = some (.d (.int t.value)) := by kernel_rfl
theorem tp_digits (t : Tape) : lookK (tapeK t) (ks "digits") = some (.d (.int t.digits)) := by kernel_rfl
theorem tp_mixed (t : Tape) : lookK (tapeK t) (ks "mixed") = some (.d (.int t.mixed)) := by kernel_rfl
theorem tp_salt (t : Tape) : lookK (tapeK t) (ks "salt") = some (.d (.int t.salt)) := by kernel_rfl
theorem ts_at (t : Tape) (x : Int) : putG (tapeK t) (ks "at") (.d (.int x)) = tapeK { t with at_ := x } := by kernel_rfl
theorem ts_value (t : Tape) (x : Int) : putG (tapeK t) (ks "value") (.d (.int x)) = tapeK { t with value := x } := by kernel_rfl
theorem ts_digits (t : Tape) (x : Int) : putG (tapeK t) (ks "digits") (.d (.int x)) = tapeK { t with digits := x } := by kernel_rfl
theorem ts_mixed (t : Tape) (x : Int) : putG (tapeK t) (ks "mixed") (.d (.int x)) = tapeK { t with mixed := x } := by kernel_rfl
theorem ts_salt (t : Tape) (x : Int) : putG (tapeK t) (ks "salt") (.d (.int x)) = tapeK { t with salt := x } := by kernel_rfl
theorem tp_flat (t : Tape) : flatO (tapeO t) = true := rfl
/-- reading a key of the tape -/
theorem tape_get {S : Sto} {t : Tape} {x : Str} {c : C} (h : S.own 0 = some (tapeO t)) (hl : lookK (tapeK t) (ks x) = some c) : dGet S (.c 0) (.d (.str x)) = some (some c) := by
  simp only [dGet, h, tapeO, keyD]
  exact congrArg some hl
theorem tape_put {S : Sto} {t t' : Tape} {x : Str} {c : C} {k : Sto → Prop} (h : S.own 0 = some (tapeO t)) (hp : putG (tapeK t) (ks x) c = tapeK t') (hk : k (S.set 0 (some (tapeO t')))) : dPut c (.c 0) (.d (.str x)) S k := by
  refine .inl ⟨tapeK t, ks x, h, rfl, ?_, ?_⟩
  · show 6 < sizeLine; decide
  · rw [hp]; exact hk
/-- one cell, the tape -/
abbrev T1 (t : Tape) : Sto := [some (tapeO t)]
theorem t1_own (t : Tape) : (T1 t).own 0 = some (tapeO t) := rfl

/-! ### promises -/
def sp_law_tape : SpD := fun cs S k kx => ∃ ns : List Int, cs = [.d (.scr ns)] ∧ S = [] ∧ ns.length ≤ 63 ∧ ∀ t : Tape, t.at_ = 0 → t.cells.length ≤ 63 → k (.c 0) [some (tapeO t)]
def sp_law_load : SpD := fun cs S k kx => ∃ t, cs = [.c 0] ∧ S = T1 t ∧ 0 ≤ t.at_ ∧ t.at_ < t.cells.length ∧ ∀ t' : Tape, t'.cells = t.cells → 0 ≤ t'.at_ → k (.d .non) (T1 t')
/-- a drawn number -/
def sp_law_draw : SpD := fun cs S k kx => ∃ (t : Tape) (m : Int), cs = [.c 0, .d (.int m)] ∧ S = T1 t ∧ 0 ≤ t.at_ ∧ t.cells.length ≤ 63 ∧ m < 1073741824 ∧
  ∀ (r : Int) (t' : Tape), 0 ≤ r → (r < m ∨ r = 0) → 0 ≤ t'.at_ → t'.cells.length ≤ 63 → k (.d (.int r)) (T1 t')
end PL

namespace PL
open PySem PySem.Spec L2
open PyProof.Rows hiding St
/-- the wish of a def's body -/
abbrev DE (k : C → Sto → Prop) : EndsD := ⟨fun _ S' => k (.d .non) S', k, fun _ _ => False, fun _ _ => False, kF⟩
abbrev N_law_load : List Str := ["tape", "number"]
def W_law_load : TSD := sSeq (sAsg (wBin dIx (wBin dDGet (eVar 0) (eC (.str "cells"))) (wBin dDGet (eVar 0) (eC (.str "at")))) (gN 1))
  (sSeq (sSetD (wBin (dAdd false) (wBin dDGet (eVar 0) (eC (.str "at"))) (eC (.int 1))) (eVar 0) (eC (.str "at")))
  (sIf (eB (wBin dEq (wBin dMod (eCB dToInt (aCons (eVar 1) (aNil))) (eC (.int 2))) (eC (.int 0))))
  (sSeq (sSetD (wBin dFdiv (eCB dAbs (aCons (eVar 1) (aNil))) (eC (.int 2))) (eVar 0) (eC (.str "value")))
  (sSetD (eC (.int 60)) (eVar 0) (eC (.str "digits"))))
  (sSeq (sSetD (wBin dMod (eCB dToInt (aCons (wBin (dAdd false) (wBin (dAdd false) (wBin (dMul false) (wBin dDGet (eVar 0) (eC (.str "salt"))) (eC (.int 16807))) (wBin dFdiv (eCB dAbs (aCons (eVar 1) (aNil))) (eC (.int 2)))) (eC (.int 1))) (aNil))) (eC (.int 2147483647))) (eVar 0) (eC (.str "salt")))
  (sSetD (eC (.int 9)) (eVar 0) (eC (.str "mixed"))))))
theorem rd_law_load : ∀ cs S k kx, sp_law_load cs S k kx → W_law_load (DE k) (startE N_law_load cs) S := by
  rintro cs S k kx ⟨t, rfl, rfl, h0, h1, hk⟩
  refine ⟨_, tape_get (t1_own t) (tp_cells t), _, tape_get (t1_own t) (tp_at t), ?_⟩
  have hat : atI (t.cells.map D.int) t.at_ = some (.int (t.cells.getD t.at_.toNat 0)) := by
    rw [atI_map, atI_lt h0, List.getD_eq_getElem?_getD, List.getElem?_eq_getElem (by omega)]; rfl
  refine ⟨_, hat, ?_⟩
  refine ⟨_, tape_get (t1_own t) (tp_at t), ?_⟩
  refine tape_put (t1_own t) (ts_at t (t.at_ + 1)) ?_
  have e1 : (T1 t).set 0 (some (tapeO { t with at_ := t.at_ + 1 })) = T1 { t with at_ := t.at_ + 1 } := rfl
  rw [e1]
  generalize ht1 : ({ t with at_ := t.at_ + 1 } : Tape) = t1
  have hc1 : t1.cells = t.cells := by rw [← ht1]
  have ha1 : 0 ≤ t1.at_ := by rw [← ht1]; show 0 ≤ t.at_ + 1; omega
  generalize t.cells.getD t.at_.toNat 0 = num
  refine ⟨(by show (0 : Int) < 2; decide), ?_⟩
  show if decide (num % 2 = 0) = true then _ else _
  split
  · refine ⟨⟨by decide, by decide⟩, ?_⟩
    refine tape_put (t1_own t1) (ts_value t1 _) ?_
    refine tape_put (t1_own _) (ts_digits _ 60) ?_
    exact hk _ hc1 ha1
  · refine ⟨_, tape_get (t1_own t1) (tp_salt t1), .inr (by decide), ⟨by decide, by decide⟩, (by show (0 : Int) < 2147483647; decide), ?_⟩
    refine tape_put (t1_own t1) (ts_salt t1 _) ?_
    refine tape_put (t1_own _) (ts_mixed _ 9) ?_
    exact hk _ hc1 ha1
abbrev N_law_draw : List Str := ["tape", "many", "k", "digit"]
def W_law_draw : TSD := sSeq (sIf (eB (wBin dLt (eVar 1) (eC (.int 2))))
  (sRet (eC (.int 0)))
  (sNext))
  (sSeq (sFor (iRange (eRg1 (eC (.int 64)))) (gN 2)
  (sSeq (sIf (eAndT (eB (wBin dGt (wBin dDGet (eVar 0) (eC (.str "digits"))) (eC (.int 0)))) (eB (wBin dGt (wBin dDGet (eVar 0) (eC (.str "value"))) (eC (.int 1)))))
  (sSeq (sAsg (wBin dMod (eCB dToInt (aCons (wBin dDGet (eVar 0) (eC (.str "value"))) (aNil))) (eVar 1)) (gN 3))
  (sSeq (sSetD (wBin dSub (wBin dDGet (eVar 0) (eC (.str "digits"))) (eC (.int 1))) (eVar 0) (eC (.str "digits")))
  (sSeq (sSetD (wBin dFdiv (wBin dDGet (eVar 0) (eC (.str "value"))) (eVar 1)) (eVar 0) (eC (.str "value")))
  (sRet (eVar 3)))))
  (sNext))
  (sSeq (sIf (eOrT (eB (wBin dGt (wBin dDGet (eVar 0) (eC (.str "mixed"))) (eC (.int 0)))) (eB (wBin dGe (wBin dDGet (eVar 0) (eC (.str "at"))) (eCB dLen (aCons (wBin dDGet (eVar 0) (eC (.str "cells"))) (aNil))))))
  (sBreak)
  (sNext))
  (sDrop (eCall sp_law_load (aCons (eVar 0) (aNil)))))))
  (sSeq (sIf (eB (wBin dGt (wBin dDGet (eVar 0) (eC (.str "mixed"))) (eC (.int 0))))
  (sSetD (wBin dSub (wBin dDGet (eVar 0) (eC (.str "mixed"))) (eC (.int 1))) (eVar 0) (eC (.str "mixed")))
  (sNext))
  (sSeq (sSetD (wBin dMod (eCB dToInt (aCons (wBin (dAdd false) (wBin (dMul false) (wBin dDGet (eVar 0) (eC (.str "salt"))) (eC (.int 48271))) (eC (.int 7))) (aNil))) (eC (.int 2147483647))) (eVar 0) (eC (.str "salt")))
  (sRet (wBin dMod (wBin dMod (eCB dToInt (aCons (wBin (dAdd false) (wBin (dMul false) (wBin dFdiv (wBin dDGet (eVar 0) (eC (.str "salt"))) (eC (.int 13))) (eC (.int 69621))) (eC (.int 5))) (aNil))) (eC (.int 1000003))) (eVar 1))))))
theorem rd_law_draw : ∀ cs S k kx, sp_law_draw cs S k kx → W_law_draw (DE k) (startE N_law_draw cs) S := by
  rintro cs S k kx ⟨t, m, rfl, rfl, h0, hc, hm, hk⟩
  show if decide (m < 2) = true then _ else _
  split
  · exact hk 0 t (by omega) (.inr rfl) h0 hc
  · rename_i hm2
    have hm2 : 2 ≤ m := by simpa using hm2
    -- the end, whatever the tape
    have fin : ∀ (t : Tape) (x y : Option C), 0 ≤ t.at_ → t.cells.length ≤ 63 → (sSeq (sIf (eB (wBin dGt (wBin dDGet (eVar 0) (eC (.str "mixed"))) (eC (.int 0))))
  (sSetD (wBin dSub (wBin dDGet (eVar 0) (eC (.str "mixed"))) (eC (.int 1))) (eVar 0) (eC (.str "mixed")))
  (sNext))
  (sSeq (sSetD (wBin dMod (eCB dToInt (aCons (wBin (dAdd false) (wBin (dMul false) (wBin dDGet (eVar 0) (eC (.str "salt"))) (eC (.int 48271))) (eC (.int 7))) (aNil))) (eC (.int 2147483647))) (eVar 0) (eC (.str "salt")))
  (sRet (wBin dMod (wBin dMod (eCB dToInt (aCons (wBin (dAdd false) (wBin (dMul false) (wBin dFdiv (wBin dDGet (eVar 0) (eC (.str "salt"))) (eC (.int 13))) (eC (.int 69621))) (eC (.int 5))) (aNil))) (eC (.int 1000003))) (eVar 1))))) (DE k) [some (.c 0), some (.d (.int m)), x, y] (T1 t) := by
      intro t x y ha hcl
      have tail : ∀ (t : Tape), 0 ≤ t.at_ → t.cells.length ≤ 63 → (sSeq (sSetD (wBin dMod (eCB dToInt (aCons (wBin (dAdd false) (wBin (dMul false) (wBin dDGet (eVar 0) (eC (.str "salt"))) (eC (.int 48271))) (eC (.int 7))) (aNil))) (eC (.int 2147483647))) (eVar 0) (eC (.str "salt")))
  (sRet (wBin dMod (wBin dMod (eCB dToInt (aCons (wBin (dAdd false) (wBin (dMul false) (wBin dFdiv (wBin dDGet (eVar 0) (eC (.str "salt"))) (eC (.int 13))) (eC (.int 69621))) (eC (.int 5))) (aNil))) (eC (.int 1000003))) (eVar 1)))) (DE k) [some (.c 0), some (.d (.int m)), x, y] (T1 t) := by
        intro t ha hcl
        refine ⟨_, tape_get (t1_own t) (tp_salt t), .inr (by decide), (by show (0 : Int) < 2147483647; decide), ?_⟩
        refine tape_put (t1_own t) (ts_salt t _) ?_
        refine ⟨_, tape_get (t1_own _) (tp_salt _), ⟨by decide, by decide⟩, .inr (by decide), (by show (0 : Int) < 1000003; decide), (by show 0 < m; omega), ?_⟩
        exact hk _ _ (Int.emod_nonneg _ (by omega)) (.inl (Int.emod_lt_of_pos _ (by omega))) ha hcl
      refine ⟨_, tape_get (t1_own t) (tp_mixed t), ?_⟩
      show if decide (0 < t.mixed) = true then _ else _
      split
      · refine ⟨_, tape_get (t1_own t) (tp_mixed t), ?_⟩
        refine tape_put (t1_own t) (ts_mixed t _) ?_
        exact tail _ ha hcl
      · exact tail _ ha hcl
    refine ⟨⟨by decide, by decide, by decide, by decide⟩, fun _ ρ' S' => ∃ (t : Tape) (x y : Option C), ρ' = [some (.c 0), some (.d (.int m)), x, y] ∧ S' = T1 t ∧ 0 ≤ t.at_ ∧ t.cells.length ≤ 63, ⟨t, none, none, rfl, rfl, h0, hc⟩, fun _ _ _ _ _ => trivial, ?_, ?_⟩
    · rintro i d ρ' S' hd ⟨t, x, y, rfl, rfl, ha, hcl⟩
      refine ⟨_, tape_get (t1_own t) (tp_digits t), ?_⟩
      -- the second test, and the turn's rest
      have rest : ∀ Dn : EndsD, (∀ (t : Tape), 0 ≤ t.at_ → t.cells.length ≤ 63 → Dn.nx [some (.c 0), some (.d (.int m)), some (.d d), y] (T1 t)) → (∀ (t : Tape), 0 ≤ t.at_ → t.cells.length ≤ 63 → Dn.bk [some (.c 0), some (.d (.int m)), some (.d d), y] (T1 t)) →
        (sSeq (sIf (eOrT (eB (wBin dGt (wBin dDGet (eVar 0) (eC (.str "mixed"))) (eC (.int 0)))) (eB (wBin dGe (wBin dDGet (eVar 0) (eC (.str "at"))) (eCB dLen (aCons (wBin dDGet (eVar 0) (eC (.str "cells"))) (aNil))))))
  (sBreak)
  (sNext))
  (sDrop (eCall sp_law_load (aCons (eVar 0) (aNil))))) Dn [some (.c 0), some (.d (.int m)), some (.d d), y] (T1 t) := by
        intro Dn hn hb
        refine ⟨_, tape_get (t1_own t) (tp_mixed t), ?_⟩
        show if decide (0 < t.mixed) = true then _ else _
        split
        · exact hb t ha hcl
        · refine ⟨_, tape_get (t1_own t) (tp_at t), _, tape_get (t1_own t) (tp_cells t), _, rfl, ?_⟩
          show if decide (((t.cells.map D.int).map C.d).length ≤ t.at_) = true then _ else _
          split
          · exact hb t ha hcl
          · rename_i hlt
            have hlt : t.at_ < t.cells.length := by simpa using hlt
            refine ⟨.inr (.inl ⟨0, tapeO t, [.c 0], t1_own t, tp_flat t, rfl, t, rfl, rfl, ha, hlt, fun t' hc' ha' => ?_⟩)⟩
            exact ⟨_, tapeO t', rfl, rfl, tp_flat t', hn t' ha' (by rw [hc']; exact hcl)⟩
      show if decide (0 < t.digits) = true then _ else _
      split
      · refine ⟨_, tape_get (t1_own t) (tp_value t), ?_⟩
        show if decide (1 < t.value) = true then _ else _
        split
        · refine ⟨_, tape_get (t1_own t) (tp_value t), (by show 0 < m; omega), ?_⟩
          refine ⟨_, tape_get (t1_own t) (tp_digits t), ?_⟩
          refine tape_put (t1_own t) (ts_digits t _) ?_
          refine ⟨_, tape_get (t1_own _) (tp_value _), ⟨(by omega), hm⟩, ?_⟩
          refine tape_put (t1_own _) (ts_value _ _) ?_
          exact hk _ _ (Int.emod_nonneg _ (by omega)) (.inl (Int.emod_lt_of_pos _ (by omega))) ha hcl
        · exact rest _ (fun t ha hcl => ⟨t, _, _, rfl, rfl, ha, hcl⟩) (fun t ha hcl => fin t _ _ ha hcl)
      · exact rest _ (fun t ha hcl => ⟨t, _, _, rfl, rfl, ha, hcl⟩) (fun t ha hcl => fin t _ _ ha hcl)
    · rintro ρ' S' ⟨t, x, y, rfl, rfl, ha, hcl⟩
      exact fin t x y ha hcl
abbrev N_law_tape : List Str := ["script", "salt", "number"]
def W_law_tape : TSD := sSeq (sAsg (wBin (dAdd false) (eC (.int 11)) (eCB dLen (aCons (eVar 0) (aNil)))) (gN 1))
  (sSeq (sFor (iAny (eVar 0)) (gN 2)
  (sAsg (wBin dMod (eCB dToInt (aCons (wBin (dAdd false) (wBin (dAdd false) (wBin (dMul false) (eVar 1) (eC (.int 69621))) (eCB dAbs (aCons (eVar 2) (aNil)))) (eC (.int 3))) (aNil))) (eC (.int 2147483647))) (gN 1)))
  (sRet (eDisp ((eC (.str "cells"), eCB (dList false) (aCons (eVar 0) (aNil))) :: (eC (.str "at"), eC (.int 0)) :: (eC (.str "value"), eC (.int 0)) :: (eC (.str "digits"), eC (.int 0)) :: (eC (.str "mixed"), eC (.int 0)) :: (eC (.str "salt"), eVar 1) :: []))))
theorem rd_law_tape : ∀ cs S k kx, sp_law_tape cs S k kx → W_law_tape (DE k) (startE N_law_tape cs) S := by
  rintro cs S k kx ⟨ns, rfl, rfl, hl, hk⟩
  refine ⟨_, rfl, ?_⟩
  refine ⟨fun _ ρ' S' => ∃ (s : Int) (x : Option C), ρ' = [some (.d (.scr ns)), some (.d (.int s)), x] ∧ S' = [], ⟨_, none, rfl, rfl⟩, fun _ _ _ _ _ => trivial, ?_, ?_⟩
  · rintro i d ρ' S' hd ⟨s, x, rfl, rfl⟩
    obtain ⟨n, _, rfl⟩ := map_at hd
    exact ⟨.inr (by decide), (by show (0 : Int) < 2147483647; decide), _, _, rfl, rfl⟩
  · rintro ρ' S' ⟨s, x, rfl, rfl⟩
    refine ⟨_, rfl, ?_⟩
    refine newL_data (ds := ns.map D.int) ?_ |> fun h => (cInts_eq ns ▸ h : newL false (cInts ns) _ _)
    refine ⟨[(ks "cells", .d (.lst (ns.map D.int))), (ks "at", .d (.int 0)), (ks "value", .d (.int 0)), (ks "digits", .d (.int 0)), (ks "mixed", .d (.int 0)), (ks "salt", .d (.int s))], by kernel_rfl, (by show 6 ≤ 15; decide), ?_⟩
    have e : mergeG [] [(ks "cells", C.d (.lst (ns.map D.int))), (ks "at", .d (.int 0)), (ks "value", .d (.int 0)), (ks "digits", .d (.int 0)), (ks "mixed", .d (.int 0)), (ks "salt", .d (.int s))] = tapeK ⟨ns, 0, 0, 0, 0, s⟩ := by kernel_rfl
    rw [e]
    exact hk ⟨ns, 0, 0, 0, 0, s⟩ rfl hl
theorem len_law_tape : ∀ cs S k kx, sp_law_tape cs S k kx → cs.length = 1 := by
  rintro cs S k kx ⟨n, rfl, _⟩; rfl
theorem len_law_load : ∀ cs S k kx, sp_law_load cs S k kx → cs.length = 1 := by
  rintro cs S k kx ⟨n, rfl, _⟩; rfl
theorem len_law_draw : ∀ cs S k kx, sp_law_draw cs S k kx → cs.length = 2 := by
  rintro cs S k kx ⟨n, m, rfl, _⟩; rfl
end PL

namespace PL
open PySem PySem.Spec L2
open PyProof.Rows hiding St
/-! ### typed data -/
abbrev nI (a : Nat) : D := .int (a : Int)
def tabD (n : Nat) (R : Nat → Nat → Bool) : D := .lst (fnL n fun i => .lst (fnL n fun j => .bl (R i j)))
def rowD (n : Nat) (r : Nat → Nat) : D := .lst (fnL n fun i => nI (r i))
def rowT (n : Nat) (r : Nat → Nat) : D := .tup (fnL n fun i => nI (r i))
def ordD (n : Nat) (ps : List (Int × Int)) : D := .tup [nI n, .tup (ps.map pairD)]
def natsT (xs : List Nat) : D := .tup (xs.map nI)
structure TGood (t : Tape) : Prop where
  a : 0 ≤ t.at_
  c : t.cells.length ≤ 63
theorem at_map {β γ : Type} {xs : List β} {f : β → γ} {i : Nat} {y : γ} (h : (xs.map f)[i]? = some y) : ∃ x, xs[i]? = some x ∧ y = f x := by
  rw [List.getElem?_map, Option.map_eq_some_iff] at h
  obtain ⟨x, h1, h2⟩ := h
  exact ⟨x, h1, h2.symm⟩
theorem rg_at {n i : Nat} {d : D} (h : ((rgD 0 (n : Int)).map D.int)[i]? = some d) : i < n ∧ d = nI i := by
  rw [rg0, fnL_map] at h
  have hi : i < n := by have := (List.getElem?_eq_some_iff.mp h).1; rwa [fnL_len] at this
  rw [fnL_at _ hi] at h
  exact ⟨hi, (Option.some.inj h).symm⟩
theorem rg_len (n : Nat) : ((rgD 0 (n : Int)).map D.int).length = n := by rw [rg0, fnL_map, fnL_len]
theorem rg_bd {n : Nat} (h : n ≤ 1000000) : -(2 ^ 62) ≤ (0 : Int) ∧ (0 : Int) < 2 ^ 62 ∧ -(2 ^ 62) ≤ (n : Int) ∧ (n : Int) < 2 ^ 62 := ⟨by decide, by decide, by omega, by omega⟩
theorem rgOk {n : Nat} (h : n ≤ 1000000) : RgOk 0 (n : Int) := ⟨by decide, by decide, by omega, by omega, by omega⟩
theorem ixN_n {n j : Nat} (hj : j < n) : ixN n (j : Int) = some j := by unfold ixN; rw [if_pos (by omega), if_pos (by omega)]; rfl
theorem map_erase {β γ : Type} (f : β → γ) : ∀ (xs : List β) (i : Nat), (xs.map f).eraseIdx i = (xs.eraseIdx i).map f
  | [], _ => rfl
  | _ :: _, 0 => rfl
  | x :: xs, i + 1 => congrArg (f x :: ·) (map_erase f xs i)
/-- the call of a draw, wherever the tape is cell 0 -/
theorem call_draw {ρ : Env} {S : Sto} {k : C → Sto → Prop} {kx : KX} {t : Tape} {m : Int} (h : S.own 0 = some (tapeO t)) (g : TGood t) (hm : m < 1073741824)
    (hk : ∀ (r : Nat) (t' : Tape), TGood t' → ((r : Int) < m ∨ r = 0) → k (.d (nI r)) (S.set 0 (some (tapeO t')))) : callD sp_law_draw [.c 0, .d (.int m)] ρ S k kx := by
  refine ⟨.inr (.inl ⟨0, tapeO t, [.c 0, .d (.int m)], h, tp_flat t, rfl, t, m, rfl, rfl, g.a, g.c, hm, fun r t' h0 h1 ha hc => ?_⟩)⟩
  refine ⟨_, tapeO t', rfl, rfl, tp_flat t', ?_⟩
  have := hk r.toNat t' ⟨ha, hc⟩ (by omega)
  rwa [show nI r.toNat = .int r by show D.int _ = _; rw [Int.toNat_of_nonneg h0]] at this
theorem own0_set {S : Sto} {o : Own} {w : Own} (h : S.own 0 = some w) : Sto.own (S.set 0 (some o)) 0 = some o := own_set_same (own_lt h)
theorem call_data {sp : SpD} {cs : List C} {ρ : Env} {S : Sto} {k : C → Sto → Prop} {kx : KX} {kx' : XD} (hu : (unD cs).isSome = true) (h : sp cs [] (fun c S2 => ∃ x, c = .d x ∧ k (.d x) S) (fun cls fs _ => kx cls fs ρ S)) (mono : ∀ cs S (k k' : C → Sto → Prop) kx, (∀ c S, k c S → k' c S) → sp cs S k kx → sp cs S k' kx) : callD sp cs ρ S k kx :=
  ⟨.inl ⟨hu, mono _ _ _ _ _ (fun _ _ h => .inl h) h⟩⟩
/-! ### same -/
def sameOk : Nat → D → Prop
  | 0, _ => False
  | n + 1, d => (∃ i, d = .int i) ∨ ∃ ds, d = .tup ds ∧ ds.length ≤ 1000 ∧ ∀ e, e ∈ ds → sameOk n e
def spR_law_same : Nat → SpD
  | 0 => fun _ _ _ _ => False
  | n + 1 => fun cs S k kx => ∃ d, cs = [.d d, .d d] ∧ S = [] ∧ sameOk (n + 1) d ∧ k (.d (.bl true)) []
abbrev sp_law_same : SpD := spR_law_same 3
abbrev N_law_same : List Str := ["actual", "due", "k"]
def W_law_same (spR : SpD) : TSD := sSeq (sIf (eB (eCB dIsi (aCons (eVar 1) (aCons (eC (.ty "tuple")) aNil))))
  (sSeq (sIf (eOrT (eNotT (eB (eCB dIsi (aCons (eVar 0) (aCons (eC (.ty "tuple")) aNil))))) (eB (wBin dNe (eCB dLen (aCons (eVar 0) (aNil))) (eCB dLen (aCons (eVar 1) (aNil))))))
  (sRet (eC (.bl false)))
  (sNext))
  (sSeq (sFor (iRange (eRg1 (eCB dLen (aCons (eVar 1) (aNil))))) (gN 2)
  (sIf (eNotT (eB (eCall spR (aCons (wBin dIx (eVar 0) (eVar 2)) (aCons (wBin dIx (eVar 1) (eVar 2)) (aNil))))))
  (sRet (eC (.bl false)))
  (sNext)))
  (sRet (eC (.bl true)))))
  (sNext))
  (sRet (eAndV (eCB dIsi (aCons (eVar 0) (aCons (eC (.ty "int")) aNil))) (eAndV (eNotV (eCB dIsi (aCons (eVar 0) (aCons (eC (.ty "bool")) aNil)))) (wBin dEq (eVar 0) (eVar 1)))))
theorem lenR_law_same : ∀ n cs S k kx, spR_law_same (n + 1) cs S k kx → cs.length = 2 := by
  rintro n cs S k kx ⟨d, rfl, _⟩; rfl
theorem rdR_law_same : ∀ n cs S k kx, spR_law_same (n + 1) cs S k kx → W_law_same (spR_law_same n) (DE k) (startE N_law_same cs) S := by
  rintro n cs S k kx ⟨d, rfl, rfl, hd, hk⟩
  rcases hd with ⟨i, rfl⟩ | ⟨ds, rfl, hl, he⟩
  · refine ⟨_, _, rfl, kit_it, ?_⟩
    refine ⟨_, _, rfl, kit_ii, ?_⟩
    refine ⟨_, _, rfl, kit_ib, ?_⟩
    show k (.d (.bl (decide (i = i)))) []
    rw [decide_eq_true rfl]; exact hk
  · refine ⟨_, _, rfl, kit_tt, ?_⟩
    refine ⟨_, _, rfl, kit_tt, ?_⟩
    refine ⟨_, rfl, _, rfl, ?_⟩
    show if (!decide _) = true then _ else _
    rw [decide_eq_true rfl, if_neg (by decide)]
    refine ⟨_, rfl, rg_bd (by rw [List.length_map]; omega), fun i ρ' S' => ∃ x, ρ' = [some (.d (.tup ds)), some (.d (.tup ds)), x] ∧ S' = [], ⟨none, rfl, rfl⟩, fun _ _ _ _ _ => trivial, ?_, ?_⟩
    · rintro i d ρ' S' hd ⟨x, rfl, rfl⟩
      obtain ⟨hi, rfl⟩ := rg_at hd
      rw [List.length_map] at hi
      have e : atI ds (i : Int) = some ds[i] := atI_nat (List.getElem?_eq_getElem hi)
      refine ⟨_, e, _, e, ?_⟩
      cases n with
      | zero => exact (he _ (List.getElem_mem hi)).elim
      | succ n =>
        refine ⟨.inl ⟨rfl, _, rfl, rfl, he _ (List.getElem_mem hi), .inl ⟨_, rfl, ?_⟩⟩⟩
        exact ⟨_, rfl, rfl⟩
    · rintro ρ' S' ⟨x, rfl, rfl⟩
      exact hk
/-! ### shuffled -/
def sp_law_shuffled : SpD := fun cs S k kx => ∃ (t : Tape) (m : Nat), cs = [.c 0, .d (nI m)] ∧ S = T1 t ∧ TGood t ∧ m ≤ 1000 ∧
  ∀ (π : Nat → Nat) (S' : Sto) (t' : Tape), (fnL m π).Perm (List.range m) → TGood t' → S'.own 0 = some (tapeO t') → k (.d (rowD m π)) S'
abbrev N_law_shuffled : List Str := ["tape", "many", "left", "k"]
def W_law_shuffled : TSD := sSeq (sAsg (eLstRg true (eRg1 (eVar 1))) (gN 2))
  (sRet (eLc false (iRange (eRg1 (eCB dLen (aCons (eVar 2) (aNil))))) (gN 3) (tY) (eMt dPopAt (eVar 2) (aCons (eCall sp_law_draw (aCons (eVar 0) (aCons (eCB dLen (aCons (eVar 2) (aNil))) (aNil)))) (aNil))) [3]))
theorem len_law_shuffled : ∀ cs S k kx, sp_law_shuffled cs S k kx → cs.length = 2 := by
  rintro cs S k kx ⟨t, m, rfl, _⟩; rfl
theorem rd_law_shuffled : ∀ cs S k kx, sp_law_shuffled cs S k kx → W_law_shuffled (DE k) (startE N_law_shuffled cs) S := by
  rintro cs S k kx ⟨t, m, rfl, rfl, g, hm, hk⟩
  refine ⟨rgOk (by omega), ?_⟩
  refine newL_cell ?_
  refine ⟨_, rfl, rg_bd (by simp [cInts, rg0, fnL_len]; omega), ?_⟩
  have hl0 : (cInts (rgD 0 (m : Int))).length = m := by simp [cInts, rg0, fnL_len]
  refine ⟨fun i acc S' => ∃ (t' : Tape) (xs ys : List Nat), TGood t' ∧ S' = [some (tapeO t'), some (.lst (xs.map fun a => .d (nI a)))] ∧ acc = ys.map (fun a => .d (nI a)) ∧ (ys ++ xs).Perm (List.range m) ∧ ys.length = i, ?_, fun _ _ _ _ _ => trivial, ?_, ?_⟩
  · refine ⟨t, List.range m, [], g, ?_, rfl, List.Perm.refl _, rfl⟩
    show [some (tapeO t), some (Own.lst (cInts (rgD 0 (m : Int))))] = _
    rw [rg0]
    unfold cInts fnL
    rw [List.map_map]; rfl
  · rintro i d acc S' hd ⟨t', xs, ys, g', rfl, rfl, hp, hy⟩
    rw [hl0] at hd
    obtain ⟨hi, rfl⟩ := rg_at hd
    have hlen : ys.length + xs.length = m := by have := hp.length_eq; simpa using this
    have hx : 0 < xs.length := by omega
    refine ⟨⟨_, rfl⟩, xs.map (fun a => .d (nI a)), rfl, ?_⟩
    refine call_draw (S := [some (tapeO t'), some (.lst (xs.map fun a => .d (nI a)))]) (m := ((xs.map fun a => C.d (nI a)).length : Int)) (t := t') rfl g' (by rw [List.length_map]; omega) fun r t2 g2 hr => ?_
    rw [List.length_map] at hr
    have hr : r < xs.length := by omega
    refine ⟨xs.map (fun a => .d (nI a)), r, .d (nI xs[r]), rfl, ⟨by omega, by omega⟩, ?_, ?_, ?_, ?_⟩
    · exact (ixN_seq (by rw [List.length_map]; exact ixN_n hr)).1
    · rw [List.getElem?_map, List.getElem?_eq_getElem hr]; rfl
    · rw [List.length_map, sizeLine_eq]; omega
    · refine ⟨t2, xs.eraseIdx r, ys ++ [xs[r]], g2, ?_, ?_, ?_, ?_⟩
      · show [some (tapeO t2), some (Own.lst ((xs.map fun a => C.d (nI a)).eraseIdx r))] = _; rw [map_erase]
      · simp
      · refine List.Perm.trans ?_ hp
        rw [List.append_assoc]
        refine List.Perm.append_left _ ?_
        have h2 : xs = xs.take r ++ xs[r] :: xs.drop (r + 1) := by
          rw [List.getElem_cons_drop, List.take_append_drop]
        rw [List.eraseIdx_eq_take_drop_succ]
        conv => rhs; rw [h2]
        exact (List.perm_middle (a := xs[r]) (l₁ := xs.take r) (l₂ := xs.drop (r + 1))).symm
      · simp [hy]
  · rintro acc S' ⟨t', xs, ys, g', rfl, rfl, hp, hy⟩
    rw [hl0, rg_len] at hy
    have hlen : ys.length + xs.length = m := by have := hp.length_eq; simpa using this
    have : xs = [] := List.eq_nil_of_length_eq_zero (by omega)
    subst this
    rw [show (ys.map fun a => C.d (nI a)) = (ys.map nI).map C.d by rw [List.map_map]; rfl]
    refine newL_data ?_
    have := hk (fun i => ys.getD i 0) [some (tapeO t'), some (.lst [])] t' (by rw [← hy, ← fnL_of ys 0, hy]; simpa using hp) g' rfl
    unfold rowD at this
    rw [← fnL_map m (fun i => ys.getD i 0) nI, ← hy, ← fnL_of ys 0] at this
    exact this
end PL

namespace PL
open PySem PySem.Spec L2
open PyProof.Rows hiding St
/-! ### closed -/
def pairN (p : Nat × Nat) : D := .tup [nI p.1, nI p.2]
def lnkD (l : List (Nat × Nat)) : D := .lst (l.map pairN)
def TransN (n : Nat) (T : Nat → Nat → Prop) : Prop := ∀ a b c, a < n → b < n → c < n → T a b → T b c → T a c
def sp_law_closed : SpD := fun cs S k kx => ∃ (n : Nat) (l : List (Nat × Nat)), cs = [.d (nI n), .d (lnkD l)] ∧ S = [] ∧ n ≤ 1000 ∧ (∀ p, p ∈ l → p.1 < n ∧ p.2 < n) ∧
  ∀ (R : Nat → Nat → Bool) (S' : Sto), TransN n (fun x y => R x y = true) → (∀ p, p ∈ l → R p.1 p.2 = true) → (∀ T : Nat → Nat → Prop, TransN n T → (∀ p, p ∈ l → T p.1 p.2) → ∀ x y, x < n → y < n → R x y = true → T x y) → k (.d (tabD n R)) S'
def rowC (n : Nat) (f : Nat → Bool) : List C := fnL n fun j => .d (.bl (f j))
def rowB (n : Nat) (f : Nat → Bool) : List D := fnL n fun j => .bl (f j)
theorem rowC_eq (n : Nat) (f : Nat → Bool) : rowC n f = (rowB n f).map C.d := by unfold rowC rowB; rw [fnL_map]
theorem dIx_row {S : Sto} {c y : C} {cs : List C} {i : Nat} {k : C → Sto → Prop} (h : lstOf S c = some cs) (hi : cs[i]? = some y) (hk : k y S) : dIx c (.d (.int (i : Int))) S k := by
  cases c with
  | d x =>
    cases x <;> simp only [lstOf] at h <;> try (cases h; done)
    rename_i ds
    cases h
    rw [List.getElem?_map, Option.map_eq_some_iff] at hi
    obtain ⟨d, h1, rfl⟩ := hi
    exact ⟨d, atI_nat h1, hk⟩
  | c j =>
    simp only [lstOf] at h
    split at h
    · rename_i xs hx
      cases h
      exact ⟨_, _, hx, atI_nat hi, hk⟩
    · cases h
theorem lez {n : Nat} (h : n ≤ 1000000) : n ≤ sizeLine := by rw [sizeLine_eq]; omega
theorem ltz {n : Nat} (h : n ≤ 1000000) : n < sizeLine := by rw [sizeLine_eq]; omega
structure Held (n : Nat) (S : Sto) (it : Nat → C) (R : Nat → Nat → Bool) : Prop where
  own : S.own n = some (.lst (fnL n it))
  row : ∀ i, i < n → lstOf S (it i) = some (rowC n (R i))
  cel : ∀ i, i < n → it i = .c i ∨ ∃ d, it i = .d d
theorem frz_held {it : Nat → C} {rd : Nat → List D} : ∀ (is : List Nat) (S : Sto), is.Nodup → (∀ i, i ∈ is → lstOf S (it i) = some ((rd i).map C.d) ∧ (it i = .c i ∨ ∃ d, it i = .d d)) →
    ∃ S', frzL S (is.map it) = some (is.map fun i => .lst (rd i), S') ∧ ∀ j, j ∉ is → S'.own j = S.own j
  | [], S, _, _ => ⟨S, rfl, fun _ _ => rfl⟩
  | i :: is, S, nd, h => by
    obtain ⟨h1, h2⟩ := h i (by simp)
    have nd' := List.nodup_cons.mp nd
    rcases h2 with e | ⟨d, e⟩
    · rw [e] at h1
      simp only [lstOf] at h1
      have ho : S.own i = some (.lst ((rd i).map C.d)) := by
        split at h1
        · rename_i xs hx; cases h1; exact hx
        · cases h1
      obtain ⟨S', g1, g2⟩ := frz_held (it := it) (rd := rd) is (S.set i none) nd'.2 (fun j hj => by
        obtain ⟨a1, a2⟩ := h j (by simp [hj])
        refine ⟨?_, a2⟩
        have hne : i ≠ j := fun q => nd'.1 (q ▸ hj)
        rcases a2 with e2 | ⟨d, e2⟩
        · rw [e2] at a1 ⊢
          simp only [lstOf] at a1 ⊢
          rw [own_set_ne hne]; exact a1
        · rw [e2] at a1 ⊢
          cases d <;> simp only [lstOf] at a1 ⊢ <;> exact a1)
      refine ⟨S', ?_, fun j hj => ?_⟩
      · rw [List.map_cons, e]
        unfold frzL
        rw [ho]
        simp only [frzO, unD_map, Option.map_some]
        rw [g1]; rfl
      · rw [g2 j (fun q => hj (by simp [q])), own_set_ne (fun q => hj (by simp [q]))]
    · rw [e] at h1
      obtain ⟨S', g1, g2⟩ := frz_held (it := it) (rd := rd) is S nd'.2 (fun j hj => h j (by simp [hj]))
      refine ⟨S', ?_, fun j hj => g2 j (fun q => hj (by simp [q]))⟩
      rw [List.map_cons, e]
      cases d <;> simp only [lstOf] at h1 <;> try (cases h1; done)
      rename_i ds
      have : ds = rd i := by
        have h1 := Option.some.inj h1
        have := congrArg unD h1
        rw [unD_map, unD_map] at this
        exact Option.some.inj this
      unfold frzL
      rw [g1, List.map_cons, this]
abbrev N_law_closed : List Str := ["many", "links", "up", "mid", "x", "y", "row", "k"]
def W_law_closed : TSD := sSeq (sAsg (eLc true (iRange (eRg1 (eVar 0))) (gN 7) (tY) (wBin (dMul true) (eLst false (aCons (eC (.bl false)) (aNil))) (eVar 0)) [7]) (gN 2))
  (sSeq (sFor (iAny (eVar 1)) (gT 2 (gsCons (gN 4) (gsCons (gN 5) (gsNil))))
  (sSeq (sAsg (wBin dIx (eVar 2) (eVar 4)) (gN 6))
  (sSetL (eC (.bl true)) (eVar 6) (eVar 5))))
  (sSeq (sFor (iRange (eRg1 (eVar 0))) (gN 3)
  (sFor (iRange (eRg1 (eVar 0))) (gN 4)
  (sIf (eB (wBin dIx (wBin dIx (eVar 2) (eVar 4)) (eVar 3)))
  (sSetL (eLc false (iRange (eRg1 (eVar 0))) (gN 5) (tY) (eOrV (wBin dIx (wBin dIx (eVar 2) (eVar 4)) (eVar 5)) (wBin dIx (wBin dIx (eVar 2) (eVar 3)) (eVar 5))) [5]) (eVar 2) (eVar 4))
  (sNext))))
  (sFrz2 2 (sRet (eVar 2)))))
theorem len_law_closed : ∀ cs S k kx, sp_law_closed cs S k kx → cs.length = 2 := by
  rintro cs S k kx ⟨t, m, rfl, _⟩; rfl
abbrev EC (n : Nat) (l : List (Nat × Nat)) (a b c e f : Option C) : Env := [some (.d (nI n)), some (.d (lnkD l)), some (.c n), a, b, c, e, f]
theorem rd_law_closed : ∀ cs S k kx, sp_law_closed cs S k kx → W_law_closed (DE k) (startE N_law_closed cs) S := by
  rintro cs S k kx ⟨n, l, rfl, rfl, hn, hl, hk⟩
  refine ⟨rg_bd (by omega), fun i acc S' => i ≤ n ∧ acc = fnL i C.c ∧ S' = fnL i (fun _ => some (Own.lst (rowC n fun _ => false))), ⟨Nat.zero_le _, rfl, rfl⟩, fun _ _ _ _ _ => trivial, ?_, ?_⟩
  · rintro i d acc S' hd ⟨_, rfl, rfl⟩
    obtain ⟨hi, rfl⟩ := rg_at hd
    refine ⟨lez (by show 1 ≤ 1000000; omega), by omega, by omega, lez (by show 1 * n ≤ 1000000; omega), ?_⟩
    refine newL_cell ?_
    refine ⟨by rw [fnL_len, sizeLine_eq]; omega, hi, ?_, ?_⟩
    · rw [fnL_len, fnL_succ]
    · rw [fnL_succ]
      have : (List.replicate ((n : Nat) : Int).toNat [C.d (.bl false)]).flatten = rowC n (fun _ => false) := by rw [Int.toNat_natCast]; exact fnL_rep n _
      exact congrArg (fun z => fnL i (fun _ => some (Own.lst (rowC n fun _ => false))) ++ [some (Own.lst z)]) this
  · rintro acc S' ⟨hb, rfl, rfl⟩
    rw [rg_len]
    refine newL_cell ?_
    rw [fnL_len]
    -- first loop
    refine ⟨fun i ρ' S' => ∃ (a b c e f : Option C) (R : Nat → Nat → Bool), ρ' = EC n l a b c e f ∧ Held n S' C.c R ∧ (∀ p, p ∈ l.take i → R p.1 p.2 = true) ∧ (∀ T : Nat → Nat → Prop, (∀ p, p ∈ l → T p.1 p.2) → ∀ x y, x < n → y < n → R x y = true → T x y), ?_, fun _ _ _ _ _ => trivial, ?_, ?_⟩
    · refine ⟨none, none, none, none, none, fun _ _ => false, rfl, ⟨?_, ?_, fun i _ => .inl rfl⟩, by simp, fun _ _ _ _ _ _ h => by cases h⟩
      · unfold Sto.own; rw [List.getElem?_append_right (by rw [fnL_len]; omega), fnL_len, Nat.sub_self]; rfl
      · intro i hi
        show (match Sto.own _ i with | some (.lst xs) => some xs | _ => none) = _
        rw [own_app (by rw [fnL_len]; exact hi)]
        unfold Sto.own
        rw [fnL_at _ hi]
    · rintro i d ρ' S' hd ⟨a, b, c, e, f, R, rfl, hS, h1, h2⟩
      obtain ⟨p, hp, rfl⟩ := at_map hd
      obtain ⟨p1, p2⟩ := hl p (List.mem_of_getElem? hp)
      refine ⟨rfl, _, _, rfl, _, _, rfl, rfl, ?_⟩
      refine ⟨_, _, hS.own, atI_nat (fnL_at C.c p1), ?_⟩
      have ho : S'.own p.1 = some (.lst (rowC n (R p.1))) := by
        have := hS.row p.1 p1
        simp only [lstOf] at this
        split at this
        · rename_i xs hx; cases this; exact hx
        · cases this
      refine ⟨_, p.2, ho, ?_, ?_⟩
      · unfold rowC; rw [fnL_len]; exact ixN_n p2
      · refine ⟨_, _, _, _, _, fun x y => if x = p.1 then (if y = p.2 then true else R x y) else R x y, rfl, ⟨?_, ?_, fun i _ => .inl rfl⟩, ?_, ?_⟩
        · rw [own_set_ne (by omega)]; exact hS.own
        · intro x hx
          by_cases e : x = p.1
          · subst e
            show (match Sto.own (List.set S' p.1 _) p.1 with | some (.lst xs) => some xs | _ => none) = _
            rw [own_set_same (own_lt ho)]
            unfold rowC
            rw [fnL_set _ _ p2]
            refine congrArg some (fnL_congr fun y hy => ?_)
            show _ = C.d (D.bl (if p.1 = p.1 then _ else _))
            rw [if_pos rfl]; split <;> rfl
          · show (match Sto.own (List.set S' p.1 _) x with | some (.lst xs) => some xs | _ => none) = _
            rw [own_set_ne (Ne.symm e)]
            refine Eq.trans (hS.row x hx) ?_
            refine congrArg some (fnL_congr fun y hy => ?_)
            show _ = C.d (D.bl (if x = p.1 then _ else _))
            rw [if_neg e]
        · intro q hq
          have hi := (List.getElem?_eq_some_iff.mp hp).1
          rw [List.take_succ_eq_append_getElem hi, List.mem_append, List.mem_singleton] at hq
          rcases hq with hq | hq
          · have := h1 q hq
            show (if q.1 = p.1 then (if q.2 = p.2 then true else R q.1 q.2) else R q.1 q.2) = true
            rw [this]; split <;> (try split) <;> rfl
          · have e : q = p := by rw [hq]; exact (List.getElem?_eq_some_iff.mp hp).2
            subst e
            show (if q.1 = q.1 then (if q.2 = q.2 then true else R q.1 q.2) else R q.1 q.2) = true
            rw [if_pos rfl, if_pos rfl]
        · intro T hT x y hx hy h
          have h : (if x = p.1 then (if y = p.2 then true else R x y) else R x y) = true := h
          split at h
          · split at h
            · subst_vars; exact hT p (List.mem_of_getElem? hp)
            · exact h2 T hT x y hx hy h
          · exact h2 T hT x y hx hy h
    · rintro ρ' S' ⟨a, b, c, e, f, R, rfl, hS, h1, h2⟩
      rw [List.length_map, List.take_length] at h1
      -- the turns of mid and x
      refine ⟨rg_bd (by omega), fun m ρ' S' => ∃ (a b c e f : Option C) (it : Nat → C) (Q : Nat → Nat → Bool), ρ' = EC n l a b c e f ∧ Held n S' it Q ∧ (∀ p, p ∈ l → Q p.1 p.2 = true) ∧
        (∀ T : Nat → Nat → Prop, TransN n T → (∀ p, p ∈ l → T p.1 p.2) → ∀ x y, x < n → y < n → Q x y = true → T x y) ∧ (∀ x z y, z < m → x < n → y < n → Q x z = true → Q z y = true → Q x y = true),
        ⟨_, _, _, _, _, _, R, rfl, hS, h1, fun T _ => h2 T, fun _ _ _ h => absurd h (by omega)⟩, fun _ _ _ _ _ => trivial, ?_, ?_⟩
      · rintro m d ρ' S' hd ⟨a, b, c, e, f, it, Q, rfl, hS, h1, h2, h3⟩
        obtain ⟨hm, rfl⟩ := rg_at hd
        refine ⟨rg_bd (by omega), fun i ρ' S' => ∃ (b c e f : Option C) (it : Nat → C) (Q' : Nat → Nat → Bool), ρ' = EC n l (some (.d (nI m))) b c e f ∧ Held n S' it Q' ∧
          ∀ x y, x < n → y < n → Q' x y = if x < i then (Q x y || (Q x m && Q m y)) else Q x y, ⟨_, _, _, _, it, Q, rfl, hS, fun x y _ _ => by rw [if_neg (by omega)]⟩, fun _ _ _ _ _ => trivial, ?_, ?_⟩
        · rintro i d ρ' S' hd ⟨b, c, e, f, it, Q', rfl, hS, hQ⟩
          obtain ⟨hi, rfl⟩ := rg_at hd
          refine ⟨_, _, hS.own, atI_nat (fnL_at it hi), ?_⟩
          refine dIx_row (hS.row i hi) (fnL_at _ hm) ?_
          show if Q' i m = true then _ else _
          have hQm : ∀ y, y < n → Q' m y = Q m y := fun y hy => by
            rw [hQ m y hm hy]; split
            · cases Q m y <;> cases Q m m <;> rfl
            · rfl
          have hQi : ∀ y, y < n → Q' i y = Q i y := fun y hy => by rw [hQ i y hi hy, if_neg (by omega)]
          have step : ∀ (it' : Nat → C) (S2 : Sto) (Q2 : Nat → Nat → Bool), Held n S2 it' Q2 → (∀ x y, x < n → y < n → Q2 x y = if x = i then (Q i y || (Q i m && Q m y)) else Q' x y) → (∀ x y, x < n → y < n → Q2 x y = if x < i + 1 then (Q x y || (Q x m && Q m y)) else Q x y) := by
            intro it' S2 Q2 _ h x y hx hy
            rw [h x y hx hy]
            by_cases e : x = i
            · subst e; rw [if_pos rfl, if_pos (by omega)]
            · rw [if_neg e, hQ x y hx hy]
              by_cases e2 : x < i
              · rw [if_pos e2, if_pos (by omega)]
              · rw [if_neg e2, if_neg (by omega)]
          split
          · rename_i hT
            refine ⟨rg_bd (by omega), ?_⟩
            refine lc_pure (p := fun _ => true) (f := fun d => match d with | .int y => .d (.bl (Q' i y.toNat || Q' m y.toNat)) | _ => .d .non) trivial (by rw [rg_len]; omega) ?_ ?_
            · intro d hd A B hA hB
              obtain ⟨j, hj⟩ := List.mem_iff_getElem?.mp hd
              obtain ⟨hj2, rfl⟩ := rg_at hj
              refine ⟨_, _, hS.own, atI_nat (fnL_at it hi), ?_⟩
              refine dIx_row (hS.row i hi) (fnL_at _ hj2) ?_
              have hA := hA rfl
              have hA : A (.d (.bl (Q' i j || Q' m j))) S' := hA
              show if Q' i j = true then _ else _
              split
              · rename_i e; rw [e] at hA; exact hA
              · rename_i e
                refine ⟨_, _, hS.own, atI_nat (fnL_at it hm), ?_⟩
                refine dIx_row (hS.row m hm) (fnL_at _ hj2) ?_
                rw [Bool.eq_false_iff.mpr e] at hA; exact hA
            · rw [List.filter_eq_self.mpr (fun _ _ => rfl), rg0, fnL_map, fnL_map]
              refine newL_fn (f := fun y => .bl (Q' i y || Q' m y)) ?_
              refine ⟨_, i, hS.own, by rw [fnL_len]; exact ixN_n hi, ?_⟩
              have hh : Held n (S'.set n (some (.lst ((fnL n it).set i (.d (.lst (fnL n fun y => .bl (Q' i y || Q' m y)))))))) (fun x => if x = i then .d (.lst (rowB n fun y => Q' i y || Q' m y)) else it x) (fun x y => if x = i then (Q' i y || Q' m y) else Q' x y) := by
                have hlt := own_lt hS.own
                refine ⟨?_, fun x hx => ?_, fun x hx => ?_⟩
                · rw [own_set_same hlt, fnL_set _ _ hi]; rfl
                · by_cases e : x = i
                  · subst e
                    simp only [if_pos rfl]
                    show some ((rowB n _).map C.d) = _
                    rw [rowC_eq]; rfl
                  · simp only [if_neg e]
                    have := hS.row x hx
                    rcases hS.cel x hx with q | ⟨d, q⟩
                    · rw [q] at this ⊢
                      simp only [lstOf] at this ⊢
                      rw [own_set_ne (by omega)]; exact this
                    · rw [q] at this ⊢
                      cases d <;> simp only [lstOf] at this ⊢ <;> exact this
                · by_cases e : x = i
                  · exact .inr ⟨_, if_pos e⟩
                  · show (if x = i then _ else it x) = _ ∨ ∃ d, (if x = i then _ else it x) = _
                    rw [if_neg e]; exact hS.cel x hx
              refine ⟨_, _, _, _, _, _, rfl, hh, step _ _ _ hh fun x y hx hy => ?_⟩
              by_cases e : x = i
              · subst e
                show (if x = x then (Q' x y || Q' m y) else Q' x y) = _
                rw [if_pos rfl, if_pos rfl, hQi y hy, hQm y hy]
                rw [hQi m hm] at hT; rw [hT]; simp
              · show (if x = i then (Q' i y || Q' m y) else Q' x y) = _
                rw [if_neg e, if_neg e]
          · rename_i hT
            refine ⟨_, _, _, _, _, _, rfl, hS, step _ _ _ hS fun x y hx hy => ?_⟩
            by_cases e : x = i
            · subst e
              rw [if_pos rfl, hQi y hy]
              rw [hQi m hm] at hT
              rw [Bool.eq_false_iff.mpr hT]; simp
            · rw [if_neg e]
        · rintro ρ' S' ⟨b, c, e, f, it, Q', rfl, hS, hQ⟩
          rw [rg_len] at hQ
          have hQ : ∀ x y, x < n → y < n → Q' x y = (Q x y || (Q x m && Q m y)) := fun x y hx hy => by rw [hQ x y hx hy, if_pos hx]
          have hQ1 : ∀ x y, x < n → y < n → (Q' x y = true ↔ (Q x y = true ∨ (Q x m = true ∧ Q m y = true))) := fun x y hx hy => by rw [hQ x y hx hy]; simp
          refine ⟨_, _, _, _, _, it, Q', rfl, hS, fun p hp => ?_, fun T hT hTl x y hx hy h => ?_, fun x z y hz hx hy g1 g2 => ?_⟩
          · obtain ⟨p1, p2⟩ := hl p hp
            rw [hQ1 _ _ p1 p2]; exact .inl (h1 p hp)
          · rw [hQ1 _ _ hx hy] at h
            rcases h with h | ⟨ha, hb⟩
            · exact h2 T hT hTl x y hx hy h
            · exact hT x m y hx hm hy (h2 T hT hTl x m hx hm ha) (h2 T hT hTl m y hm hy hb)
          · have hzn : z < n := by omega
            rw [hQ1 _ _ hx hzn] at g1
            rw [hQ1 _ _ hzn hy] at g2
            rw [hQ1 _ _ hx hy]
            by_cases e : z = m
            · subst e
              have a1 : Q x z = true := by rcases g1 with h | h; exact h; exact h.1
              have a2 : Q z y = true := by rcases g2 with h | h; exact h; exact h.2
              exact .inr ⟨a1, a2⟩
            · have hz' : z < m := by omega
              rcases g1 with g1 | ⟨g1, g1'⟩
              · rcases g2 with g2 | ⟨g2, g2'⟩
                · exact .inl (h3 x z y hz' hx hy g1 g2)
                · exact .inr ⟨h3 x z m hz' hx hm g1 g2, g2'⟩
              · rcases g2 with g2 | ⟨g2, g2'⟩
                · exact .inr ⟨g1, h3 m z y hz' hm hy g1' g2⟩
                · exact .inr ⟨g1, g2'⟩
      · rintro ρ' S' ⟨a, b, c, e, f, it, Q, rfl, hS, h1, h2, h3⟩
        rw [rg_len] at h3
        obtain ⟨S2, g1, g2⟩ := frz_held (it := it) (rd := fun i => rowB n (Q i)) (List.range n) S' List.nodup_range fun i hi => by
          have hi : i < n := by simpa using hi
          exact ⟨by rw [hS.row i hi, rowC_eq], hS.cel i hi⟩
        refine ⟨n, _, _, S2, rfl, hS.own, g1, by rw [g2 n (by simp)]; exact hS.own, ?_⟩
        have : subC n (.lst ((List.range n).map fun i => D.lst (rowB n (Q i)))) (.c n) = .d (tabD n Q) := if_pos rfl
        show DE k |>.rt (subC n (.lst ((List.range n).map fun i => D.lst (rowB n (Q i)))) (.c n)) _
        rw [this]
        exact hk Q _ (fun x z y hx hz hy => h3 x z y hz hx hy) h1 h2
end PL

namespace PL
open PySem PySem.Spec L2
open PyProof.Rows hiding St
def sp_law_drawn : SpD := fun cs S k kx => ∃ (t : Tape) (most : Nat), cs = [.c 0, .d (nI most)] ∧ S = T1 t ∧ TGood t ∧ most ≤ 500 ∧
  ∀ (n : Nat) (R : Nat → Nat → Bool) (S' : Sto) (t' : Tape), n ≤ most → TransN n (fun x y => R x y = true) → (∀ x y, x < n → y < n → R x y = true → x < y) → TGood t' → S'.own 0 = some (tapeO t') → k (.d (tabD n R)) S'
def lnkC (l : List (Nat × Nat)) : List C := (l.map pairN).map C.d
structure LS (S : Sto) (j : Nat) (l : List (Nat × Nat)) : Prop where
  tp : ∃ t, TGood t ∧ S.own 0 = some (tapeO t)
  lk : S.own j = some (.lst (lnkC l))
  j0 : j ≠ 0
theorem LS.draw {S : Sto} {j : Nat} {l : List (Nat × Nat)} {t : Tape} (h : LS S j l) (g : TGood t) : LS (S.set 0 (some (tapeO t))) j l := by
  obtain ⟨t0, _, h0⟩ := h.tp
  exact ⟨⟨t, g, own_set_same (own_lt h0)⟩, by rw [own_set_ne (Ne.symm h.j0)]; exact h.lk, h.j0⟩
theorem LS.put {S : Sto} {j : Nat} {l l' : List (Nat × Nat)} (h : LS S j l) : LS (S.set j (some (.lst (lnkC l')))) j l' := by
  obtain ⟨t0, g, h0⟩ := h.tp
  exact ⟨⟨t0, g, by rw [own_set_ne h.j0]; exact h0⟩, own_set_same (own_lt h.lk), h.j0⟩
theorem LS.new {S : Sto} {j : Nat} {l l' : List (Nat × Nat)} (h : LS S j l) : LS (S ++ [some (.lst (lnkC l'))]) S.length l' := by
  obtain ⟨t0, g, h0⟩ := h.tp
  exact ⟨⟨t0, g, by rw [own_app (own_lt h0)]; exact h0⟩, own_new, by have := own_lt h0; omega⟩
theorem own_subS {S : Sto} {i j : Nat} {d : D} {o : Own} (h : S.own i = some o) (hne : j ≠ i) : Sto.own (subS j d S) i = some (subO j d o) := by
  unfold subS Sto.own
  rw [List.getElem?_map, List.getElem?_set_ne hne, own_of h]; rfl
abbrev N_law_drawn : List Str := ["tape", "most", "many", "way", "links", "rare", "levels", "x", "half", "k", "y"]
def W_law_drawn : TSD := sSeq (sAsg (eCall sp_law_draw (aCons (eVar 0) (aCons (wBin (dAdd false) (eVar 1) (eC (.int 1))) (aNil)))) (gN 2))
  (sSeq (sAsg (eCall sp_law_draw (aCons (eVar 0) (aCons (eC (.int 4)) (aNil)))) (gN 3))
  (sSeq (sAsg (eLst true (aNil)) (gN 4))
  (sSeq (sIf (eB (wBin dEq (eVar 3) (eC (.int 3))))
  (sSeq (sAsg (wBin dFdiv (eVar 2) (eC (.int 2))) (gN 8))
  (sSeq (sFor (iRange (eRg1 (eVar 8))) (gN 9)
  (sAsg (wBin (dAdd true) (eVar 4) (eLst false (aCons (eTup (aCons (eVar 9) (aCons (wBin (dAdd false) (eVar 8) (eVar 9)) (aNil)))) (aCons (eTup (aCons (wBin dMod (eCB dToInt (aCons (wBin (dAdd false) (eVar 9) (eC (.int 1))) (aNil))) (eVar 8)) (aCons (wBin (dAdd false) (eVar 8) (eVar 9)) (aNil)))) (aNil))))) (gN 4)))
  (sFrz 4 (sRet (eCall sp_law_closed (aCons (eVar 2) (aCons (eVar 4) (aNil))))))))
  (sNext))
  (sSeq (sAsg (wBin (dAdd false) (eC (.int 2)) (eCall sp_law_draw (aCons (eVar 0) (aCons (eC (.int 4)) (aNil))))) (gN 5))
  (sSeq (sAsg (wBin (dMul false) (eLst false (aCons (eC (.int 0)) (aNil))) (eVar 2)) (gN 6))
  (sSeq (sIf (eB (wBin dEq (eVar 3) (eC (.int 2))))
  (sAsg (eLc false (iRange (eRg1 (eVar 2))) (gN 9) (tY) (eCall sp_law_draw (aCons (eVar 0) (aCons (eC (.int 4)) (aNil)))) [9]) (gN 6))
  (sNext))
  (sSeq (sFor (iRange (eRg1 (eVar 2))) (gN 7)
  (sFor (iRange (eRg2 (wBin (dAdd false) (eVar 7) (eC (.int 1))) (eVar 2))) (gN 10)
  (sSeq (sIf (eAndT (eB (wBin dEq (eVar 3) (eC (.int 2)))) (eAndT (eB (wBin dLt (wBin dIx (eVar 6) (eVar 7)) (wBin dIx (eVar 6) (eVar 10)))) (eB (wBin dGt (eCall sp_law_draw (aCons (eVar 0) (aCons (eC (.int 4)) (aNil)))) (eC (.int 0))))))
  (sDrop (eMt dAppend (eVar 4) (aCons (eTup (aCons (eVar 7) (aCons (eVar 10) (aNil)))) (aNil))))
  (sNext))
  (sIf (eAndT (eB (wBin dLt (eVar 3) (eC (.int 2)))) (eB (wBin dEq (eCall sp_law_draw (aCons (eVar 0) (aCons (eVar 5) (aNil)))) (eC (.int 0)))))
  (sDrop (eMt dAppend (eVar 4) (aCons (eTup (aCons (eVar 7) (aCons (eVar 10) (aNil)))) (aNil))))
  (sNext)))))
  (sFrz 4 (sRet (eCall sp_law_closed (aCons (eVar 2) (aCons (eVar 4) (aNil)))))))))))))
theorem len_law_drawn : ∀ cs S k kx, sp_law_drawn cs S k kx → cs.length = 2 := by
  rintro cs S k kx ⟨t, m, rfl, _⟩; rfl
theorem rd_law_drawn : ∀ cs S k kx, sp_law_drawn cs S k kx → W_law_drawn (DE k) (startE N_law_drawn cs) S := by
  rintro cs S k kx ⟨t, most, rfl, rfl, g, hm, hk⟩
  refine call_draw (t := t) (t1_own t) g (by omega) fun n t1 g1 hn => ?_
  have hn : n ≤ most := by omega
  refine call_draw (t := t1) rfl g1 (by decide) fun w t2 g2 hw => ?_
  refine ⟨lez (by decide), newL_cell ?_⟩
  have fin : ∀ (Dn : EndsD), (∀ c S, k c S → Dn.rt c S) → ∀ (S' : Sto) (j : Nat) (l : List (Nat × Nat)) (b c d e f g : Option C), LS S' j l → (∀ p, p ∈ l → p.1 < p.2 ∧ p.2 < n) →
      (sFrz 4 (sRet (eCall sp_law_closed (aCons (eVar 2) (aCons (eVar 4) (aNil)))))) Dn [some (.c 0), some (.d (nI most)), some (.d (nI n)), some (.d (nI w)), some (.c j), b, c, d, e, f, g] S' := by
    intro Dn hD S' j l b c d e f g hS hl
    refine ⟨j, _, lnkD l, rfl, hS.lk, (by show (unD (lnkC l)).map D.lst = _; unfold lnkC; rw [unD_map]; rfl), ?_⟩
    show callD sp_law_closed [.d (nI n), subC j (lnkD l) (.c j)] _ _ _ _
    rw [show subC j (lnkD l) (.c j) = .d (lnkD l) from if_pos rfl]
    refine ⟨.inl ⟨rfl, n, l, rfl, rfl, by omega, fun p hp => ⟨by have := hl p hp; omega, (hl p hp).2⟩, fun R S2 h1 h2 h3 => .inl ⟨_, rfl, hD _ _ ?_⟩⟩⟩
    obtain ⟨t', g', h0⟩ := hS.tp
    exact hk n R _ t' hn h1 (fun x y hx hy h => h3 (fun a b => a < b) (fun a b c _ _ _ h1 h2 => Nat.lt_trans h1 h2) (fun p hp => (hl p hp).1) x y hx hy h) g' (own_subS h0 hS.j0)
  have L0 : LS [some (tapeO t2), some (.lst (lnkC []))] 1 [] := ⟨⟨t2, g2, rfl⟩, rfl, by decide⟩
  show if decide ((w : Int) = 3) = true then _ else _
  split
  · have hh : ((n : Int) / 2) = ((n / 2 : Nat) : Int) := by omega
    refine ⟨⟨by decide, by decide⟩, ?_⟩
    show gN 8 (.d (.int ((n : Int) / 2))) _ _ _ _
    rw [hh]
    have hb : 2 * (n / 2) ≤ n := by omega
    generalize n / 2 = h at hb
    refine ⟨rg_bd (by omega), fun i ρ' S' => ∃ j l e, i ≤ h ∧ ρ' = [some (.c 0), some (.d (nI most)), some (.d (nI n)), some (.d (nI w)), some (.c j), none, none, none, some (.d (nI h)), e, none] ∧ LS S' j l ∧ l.length = 2 * i ∧ ∀ p, p ∈ l → p.1 < p.2 ∧ p.2 < n,
      ⟨1, [], none, Nat.zero_le _, rfl, L0, rfl, by simp⟩, fun _ _ _ _ _ => trivial, ?_, ?_⟩
    · rintro i d ρ' S' hd ⟨j, l, e, _, rfl, hS, hlen, hl⟩
      obtain ⟨hi, rfl⟩ := rg_at hd
      refine ⟨lez (by show 2 ≤ 1000000; decide), ?_⟩
      refine newT_data (ds := [nI i, .int ((h : Int) + i)]) ?_
      refine ⟨by show (0 : Int) < h; omega, lez (by show 2 ≤ 1000000; decide), ?_⟩
      refine newT_data (ds := [.int (((i : Int) + 1) % h), .int ((h : Int) + i)]) ?_
      refine ⟨lez (by show 2 ≤ 1000000; decide), ?_⟩
      have e1 : ((i : Int) + 1) % h = (((i + 1) % h : Nat) : Int) := by rw [Int.natCast_emod]; rfl
      have e2 : ((h : Int) + i) = ((h + i : Nat) : Int) := by omega
      rw [e1, e2]
      refine newL_data (ds := [pairN (i, h + i), pairN ((i + 1) % h, h + i)]) ?_
      show dAdd true (.c j) (.d (.lst [pairN (i, h + i), pairN ((i + 1) % h, h + i)])) S' _
      have : lstOf S' (.c j) = some (lnkC l) := by simp only [lstOf]; rw [hS.lk]
      show (match lstOf S' (.c j), lstOf S' (.d (.lst [pairN (i, h + i), pairN ((i + 1) % h, h + i)])) with | some xs, some ys => xs.length + ys.length ≤ sizeLine ∧ newL true (xs ++ ys) S' _ | _, _ => False)
      rw [this]
      refine ⟨lez (by simp only [lnkC, List.length_map, hlen]; show 2 * i + 2 ≤ _; omega), newL_cell ?_⟩
      have hmod : (i + 1) % h < h := Nat.mod_lt _ (by omega)
      refine ⟨S'.length, l ++ [(i, h + i), ((i + 1) % h, h + i)], _, hi, rfl, ?_, by rw [List.length_append, hlen]; show _ + 2 = _; omega, ?_⟩
      · have := hS.new (l' := l ++ [(i, h + i), ((i + 1) % h, h + i)])
        unfold lnkC at this ⊢
        rw [List.map_append, List.map_append] at this
        exact this
      · intro p hp
        rw [List.mem_append] at hp
        rcases hp with hp | hp
        · exact hl p hp
        · simp only [List.mem_cons, List.not_mem_nil, or_false] at hp
          rcases hp with rfl | rfl
          · exact ⟨by show i < h + i; omega, by show h + i < n; omega⟩
          · exact ⟨by show (i + 1) % h < h + i; omega, by show h + i < n; omega⟩
    · rintro ρ' S' ⟨j, l, e, _, rfl, hS, hlen, hl⟩
      exact fin _ (fun _ _ h => h) S' j l _ _ _ _ _ _ hS hl
  · refine call_draw (t := t2) rfl g2 (by decide) fun r t3 g3 hr => ?_
    have L3 : LS [some (tapeO t3), some (.lst (lnkC []))] 1 [] := ⟨⟨t3, g3, rfl⟩, rfl, by decide⟩
    have elv : (List.replicate ((n : Nat) : Int).toNat [C.d (.int 0)]).flatten = (fnL n fun _ => D.int 0).map C.d := by rw [Int.toNat_natCast, fnL_rep, fnL_map]
    have main : ∀ (S' : Sto) (lv : Nat → Int) (e : Option C), LS S' 1 [] → (sSeq (sFor (iRange (eRg1 (eVar 2))) (gN 7)
  (sFor (iRange (eRg2 (wBin (dAdd false) (eVar 7) (eC (.int 1))) (eVar 2))) (gN 10)
  (sSeq (sIf (eAndT (eB (wBin dEq (eVar 3) (eC (.int 2)))) (eAndT (eB (wBin dLt (wBin dIx (eVar 6) (eVar 7)) (wBin dIx (eVar 6) (eVar 10)))) (eB (wBin dGt (eCall sp_law_draw (aCons (eVar 0) (aCons (eC (.int 4)) (aNil)))) (eC (.int 0))))))
  (sDrop (eMt dAppend (eVar 4) (aCons (eTup (aCons (eVar 7) (aCons (eVar 10) (aNil)))) (aNil))))
  (sNext))
  (sIf (eAndT (eB (wBin dLt (eVar 3) (eC (.int 2)))) (eB (wBin dEq (eCall sp_law_draw (aCons (eVar 0) (aCons (eVar 5) (aNil)))) (eC (.int 0)))))
  (sDrop (eMt dAppend (eVar 4) (aCons (eTup (aCons (eVar 7) (aCons (eVar 10) (aNil)))) (aNil))))
  (sNext)))))
  (sFrz 4 (sRet (eCall sp_law_closed (aCons (eVar 2) (aCons (eVar 4) (aNil))))))) (DE k) [some (.c 0), some (.d (nI most)), some (.d (nI n)), some (.d (nI w)), some (.c 1), some (.d (.int (2 + (r : Int)))), some (.d (.lst (fnL n fun i => .int (lv i)))), none, none, e, none] S' := by
      intro S' lv e hS
      let EV : Option C → Option C → Env := fun x y => [some (.c 0), some (.d (nI most)), some (.d (nI n)), some (.d (nI w)), some (.c 1), some (.d (.int (2 + (r : Int)))), some (.d (.lst (fnL n fun i => .int (lv i)))), x, none, e, y]
      refine ⟨rg_bd (by omega), fun i ρ' S' => ∃ x y l, ρ' = EV x y ∧ LS S' 1 l ∧ l.length ≤ i * n * 2 ∧ ∀ p, p ∈ l → p.1 < p.2 ∧ p.2 < n, ⟨none, none, [], rfl, hS, by simp, by simp⟩, fun _ _ _ _ _ => trivial, ?_, ?_⟩
      · rintro i d ρ' S' hd ⟨x, y, l, rfl, hS, hlen, hl⟩
        obtain ⟨hi, rfl⟩ := rg_at hd
        refine ⟨⟨by omega, by omega, by omega, by omega⟩, ?_⟩
        have erg : (rgD ((i : Int) + 1) (n : Int)).map D.int = fnL (n - (i + 1)) fun z => nI (i + 1 + z) := by
          have := rg2 (i + 1) n
          rw [show ((i + 1 : Nat) : Int) = (i : Int) + 1 by omega] at this
          rw [this, fnL_map]
        show ∃ P : Nat → Env → Sto → Prop, _
        refine ⟨fun j ρ' S' => ∃ y l, ρ' = EV (some (.d (nI i))) y ∧ LS S' 1 l ∧ l.length ≤ i * n * 2 + 2 * j ∧ ∀ p, p ∈ l → p.1 < p.2 ∧ p.2 < n, ⟨y, l, rfl, hS, by omega, hl⟩, fun _ _ _ _ _ => trivial, ?_, ?_⟩
        · rintro j d ρ' S' hd ⟨y, l, rfl, hS, hlen, hl⟩
          have hd : (fnL (n - (i + 1)) fun z => nI (i + 1 + z))[j]? = some d := erg ▸ hd
          have hj : j < n - (i + 1) := by have := (List.getElem?_eq_some_iff.mp hd).1; rwa [fnL_len] at this
          rw [fnL_at _ hj] at hd
          obtain rfl := Option.some.inj hd.symm
          have hin : i * n * 2 ≤ 500 * 500 * 2 := by
            have : i * n ≤ 500 * 500 := Nat.mul_le_mul (by omega) (by omega)
            omega
          -- the append
          have app : ∀ (Dn : EndsD) (S' : Sto) (l : List (Nat × Nat)), LS S' 1 l → l.length ≤ 502000 → (∀ p, p ∈ l → p.1 < p.2 ∧ p.2 < n) → (∀ l' S2, LS S2 1 l' → l'.length ≤ l.length + 1 → (∀ p, p ∈ l' → p.1 < p.2 ∧ p.2 < n) → Dn.nx (EV (some (.d (nI i))) (some (.d (nI (i + 1 + j))))) S2) →
              (sDrop (eMt dAppend (eVar 4) (aCons (eTup (aCons (eVar 7) (aCons (eVar 10) (aNil)))) (aNil)))) Dn (EV (some (.d (nI i))) (some (.d (nI (i + 1 + j))))) S' := by
            intro Dn S' l hS hlen hl h
            have e0 : lstOf S' (.c 1) = some (lnkC l) := by simp only [lstOf]; rw [hS.lk]
            refine ⟨⟨_, e0⟩, lez (by show 2 ≤ _; decide), newT_data (ds := [nI i, nI (i + 1 + j)]) ?_⟩
            refine ⟨_, hS.lk, ltz (by simp only [lnkC, List.length_map]; omega), ?_⟩
            have e1 : lnkC l ++ [.d (.tup [nI i, nI (i + 1 + j)])] = lnkC (l ++ [(i, i + 1 + j)]) := by unfold lnkC; rw [List.map_append, List.map_append]; rfl
            show Dn.nx _ (S'.set 1 (some (.lst (lnkC l ++ [.d (.tup [nI i, nI (i + 1 + j)])]))))
            rw [e1]
            refine h _ _ hS.put (by simp) fun p hp => ?_
            rw [List.mem_append, List.mem_singleton] at hp
            rcases hp with hp | rfl
            · exact hl p hp
            · exact ⟨by show i < i + 1 + j; omega, by show i + 1 + j < n; omega⟩
          -- the second test
          have two : ∀ (S' : Sto) (l2 : List (Nat × Nat)), LS S' 1 l2 → l2.length ≤ i * n * 2 + 2 * j + 1 → (∀ p, p ∈ l2 → p.1 < p.2 ∧ p.2 < n) → ∀ (Dn : EndsD), (∀ l' S2, LS S2 1 l' → l'.length ≤ l2.length + 1 → (∀ p, p ∈ l' → p.1 < p.2 ∧ p.2 < n) → Dn.nx (EV (some (.d (nI i))) (some (.d (nI (i + 1 + j))))) S2) →
              (sIf (eAndT (eB (wBin dLt (eVar 3) (eC (.int 2)))) (eB (wBin dEq (eCall sp_law_draw (aCons (eVar 0) (aCons (eVar 5) (aNil)))) (eC (.int 0)))))
  (sDrop (eMt dAppend (eVar 4) (aCons (eTup (aCons (eVar 7) (aCons (eVar 10) (aNil)))) (aNil))))
  (sNext)) Dn (EV (some (.d (nI i))) (some (.d (nI (i + 1 + j))))) S' := by
            intro S' l2 hS hlen hl Dn h
            show if decide ((w : Int) < 2) = true then _ else _
            split
            · obtain ⟨t, g, h0⟩ := hS.tp
              refine call_draw (t := t) h0 g (by omega) fun r' t' g' _ => ?_
              show if decide ((r' : Int) = 0) = true then _ else _
              split
              · exact app _ _ _ (hS.draw g') (by omega) hl h
              · exact h _ _ (hS.draw g') (by omega) hl
            · exact h _ _ hS (by omega) hl
          have nxt : ∀ l' S2, LS S2 1 l' → l'.length ≤ i * n * 2 + 2 * j + 2 → (∀ p, p ∈ l' → p.1 < p.2 ∧ p.2 < n) → ∃ y l, EV (some (.d (nI i))) (some (.d (nI (i + 1 + j)))) = EV (some (.d (nI i))) y ∧ LS S2 1 l ∧ l.length ≤ i * n * 2 + 2 * (j + 1) ∧ ∀ p, p ∈ l → p.1 < p.2 ∧ p.2 < n :=
            fun l' S2 a b c => ⟨_, l', rfl, a, by omega, c⟩
          show if decide ((w : Int) = 2) = true then _ else _
          split
          · refine ⟨_, atI_nat (fnL_at _ hi), _, atI_nat (fnL_at _ (by omega : i + 1 + j < n)), ?_⟩
            show if decide (lv i < lv (i + 1 + j)) = true then _ else _
            split
            · obtain ⟨t, g, h0⟩ := hS.tp
              refine call_draw (t := t) h0 g (by decide) fun r' t' g' _ => ?_
              show if decide ((0 : Int) < (r' : Int)) = true then _ else _
              split
              · exact app _ _ _ (hS.draw g') (by omega) hl fun l' S2 a b c => two S2 l' a (by omega) c _ fun l3 S3 a b c => nxt l3 S3 a (by omega) c
              · exact two _ _ (hS.draw g') (by omega) hl _ fun l3 S3 a b c => nxt l3 S3 a (by omega) c
            · exact two _ _ hS (by omega) hl _ fun l3 S3 a b c => nxt l3 S3 a (by omega) c
          · exact two _ _ hS (by omega) hl _ fun l3 S3 a b c => nxt l3 S3 a (by omega) c
        · rintro ρ' S' ⟨y, l, rfl, hS, hlen, hl⟩
          have e3 : ((rgD ((i : Int) + 1) (n : Int)).map D.int).length = n - (i + 1) := by rw [erg, fnL_len]
          have hlen : l.length ≤ i * n * 2 + 2 * ((rgD ((i : Int) + 1) (n : Int)).map D.int).length := hlen
          rw [e3] at hlen
          refine ⟨_, _, l, rfl, hS, ?_, hl⟩
          have : (i + 1) * n = i * n + n := by rw [Nat.add_mul, Nat.one_mul]
          omega
      · rintro ρ' S' ⟨x, y, l, rfl, hS, hlen, hl⟩
        exact fin _ (fun _ _ h => h) S' 1 l _ _ _ _ _ _ hS hl
    refine ⟨lez (by show 1 ≤ 1000000; decide), by omega, by omega, lez (by show 1 * n ≤ 1000000; omega), ?_⟩
    show newL false (List.replicate ((n : Nat) : Int).toNat [C.d (.int 0)]).flatten _ _
    rw [elv]
    refine newL_data ?_
    show if decide ((w : Int) = 2) = true then _ else _
    split
    · refine ⟨rg_bd (by omega), fun i acc S' => LS S' 1 [] ∧ ∃ xs : List Int, acc = (xs.map D.int).map C.d ∧ xs.length = i, ⟨L3, [], rfl, rfl⟩, fun _ _ _ _ _ => trivial, ?_, ?_⟩
      · rintro i d acc S' hd ⟨hS, xs, rfl, hx⟩
        obtain ⟨hi, rfl⟩ := rg_at hd
        obtain ⟨t, g, h0⟩ := hS.tp
        refine call_draw (t := t) h0 g (by decide) fun r' t' g' _ => ?_
        refine ⟨ltz (by simp only [List.length_map]; omega), hS.draw g', xs ++ [(r' : Int)], by simp, by simp [hx]⟩
      · rintro acc S' ⟨hS, xs, rfl, hx⟩
        rw [rg_len] at hx
        refine newL_data ?_
        have : xs.map D.int = fnL n fun i => .int (xs.getD i 0) := by
          rw [← fnL_map n (fun i => xs.getD i 0) D.int, ← hx, ← fnL_of xs 0]
        rw [this]
        exact main S' _ _ hS
    · exact main _ (fun _ => 0) none L3
end PL

namespace PL
open PySem PySem.Spec L2
open PyProof.Rows hiding St
/-! ### told -/
def toldX (n : Nat) (R : Nat → Nat → Bool) (π : Nat → Nat) (x : Nat) : List (Nat × Nat) := ((List.range n).filter (R x)).map fun y => (π x, π y)
def toldL (n : Nat) (R : Nat → Nat → Bool) (π : Nat → Nat) (i : Nat) : List (Nat × Nat) := (List.range i).flatMap (toldX n R π)
theorem toldX_len (n : Nat) (R : Nat → Nat → Bool) (π : Nat → Nat) (x : Nat) : (toldX n R π x).length ≤ n := by
  unfold toldX; rw [List.length_map]; refine Nat.le_trans (List.length_filter_le _ _) ?_; simp
theorem toldL_succ (n : Nat) (R : Nat → Nat → Bool) (π : Nat → Nat) (i : Nat) : toldL n R π (i + 1) = toldL n R π i ++ toldX n R π i := by
  unfold toldL; rw [List.range_succ, List.flatMap_append]; simp
theorem toldL_len (n : Nat) (R : Nat → Nat → Bool) (π : Nat → Nat) : ∀ i, (toldL n R π i).length ≤ i * n
  | 0 => by simp [toldL]
  | i + 1 => by rw [toldL_succ, List.length_append, Nat.add_mul, Nat.one_mul]; have := toldL_len n R π i; have := toldX_len n R π i; omega
def ordN (n : Nat) (qs : List (Nat × Nat)) : D := .tup [nI n, .tup (qs.map pairN)]
def castP (p : Nat × Nat) : Int × Int := ((p.1 : Int), (p.2 : Int))
theorem perm_cast {ps : List (Int × Int)} {l : List (Nat × Nat)} (h : ps.Perm (l.map castP)) : ∃ qs : List (Nat × Nat), ps = qs.map castP ∧ qs.Perm l := by
  refine ⟨ps.map fun p => (p.1.toNat, p.2.toNat), ?_, ?_⟩
  · rw [List.map_map]
    have : ∀ p, p ∈ ps → castP ((fun p : Int × Int => (p.1.toNat, p.2.toNat)) p) = p := by
      intro p hp
      obtain ⟨q, _, rfl⟩ := List.mem_map.mp (h.mem_iff.mp hp)
      rfl
    exact (List.map_id ps).symm.trans (List.map_congr_left fun p hp => (this p hp).symm)
  · have := h.map fun p => (p.1.toNat, p.2.toNat)
    rw [List.map_map] at this
    refine this.trans ?_
    rw [show ((fun p : Int × Int => (p.1.toNat, p.2.toNat)) ∘ castP) = id from rfl, List.map_id]
def sp_law_told : SpD := fun cs S k kx => ∃ (n : Nat) (R : Nat → Nat → Bool) (π : Nat → Nat), cs = [.d (tabD n R), .d (rowD n π)] ∧ S = [] ∧ n ≤ 500 ∧
  ∀ (qs : List (Nat × Nat)) (S' : Sto), qs.Perm (toldL n R π n) → k (.d (ordN n qs)) S'
theorem tab_len {n : Nat} {R : Nat → Nat → Bool} {S : Sto} : seqOf S (.d (tabD n R)) = some (fnL n fun i => C.d (.lst (fnL n fun j => .bl (R i j)))) := by
  show some ((fnL n fun i => D.lst (fnL n fun j => .bl (R i j))).map C.d) = _
  rw [fnL_map]
theorem tab_at {n : Nat} {R : Nat → Nat → Bool} {i : Nat} (h : i < n) : atI (fnL n fun i => D.lst (fnL n fun j => .bl (R i j))) (i : Int) = some (.lst (fnL n fun j => .bl (R i j))) := fnL_atI _ h
theorem filter_fn {n : Nat} (p : Nat → Bool) (f : Nat → C) (p' : D → Bool) (f' : D → C) (hp : ∀ i, i < n → p' (nI i) = p i) (hf : ∀ i, i < n → f' (nI i) = f i) :
    (((rgD 0 (n : Int)).map D.int).filter p').map f' = ((List.range n).filter p).map f := by
  rw [rg0, fnL_map]
  unfold fnL
  rw [List.filter_map, List.map_map]
  rw [List.filter_congr (q := p) (fun i hi => by simp at hi; exact hp i hi)]
  exact List.map_congr_left fun i hi => hf i (by simp at hi; exact hi.1)
/-- a comprehension over a range, in plain sight -/
theorem lc_rg {m : Bool} {g : TGD} {tt : TTD} {we : TD} {own : List Nat} {ρ : Env} {S1 : Sto} {k : C → Sto → Prop} {n : Nat} (hn : n ≤ 1000000) (p : Nat → Bool) (f : Nat → C)
    (hstep : ∀ i, i < n → ∀ (A : C → Sto → Prop) (B : Sto → Prop), (p i = true → A (f i) S1) → (p i = false → B S1) → g (.d (nI i)) (wipeE ρ own) S1 (fun ρ2 S2 => tt ρ2 S2 (fun b S3 => if b = true then we ρ2 S3 A kF else B S3) kF) kF)
    (h : newL m (((List.range n).filter p).map f) S1 k) :
    ∃ P : Nat → List C → Sto → Prop, P 0 [] S1 ∧ (∀ i acc S', i ≤ ((rgD 0 (n : Int)).map D.int).length → P i acc S' → True) ∧
  (∀ i d acc S', ((rgD 0 (n : Int)).map D.int)[i]? = some d → P i acc S' → g (.d d) (wipeE ρ own) S' (fun ρ2 S2 => tt ρ2 S2 (fun b S3 => if b = true then we ρ2 S3 (fun c S4 => acc.length < sizeLine ∧ P (i + 1) (acc ++ [c]) S4) kF else P (i + 1) acc S3) kF) kF) ∧
  ∀ acc S', P ((rgD 0 (n : Int)).map D.int).length acc S' → newL m acc S' k := by
  refine lc_pure (it := ⟨(rgD 0 (n : Int)).map D.int, fun _ => True⟩) (p := fun d => match d with | .int i => p i.toNat | _ => false) (f := fun d => match d with | .int i => f i.toNat | _ => .d .non) trivial (by show ((rgD 0 (n : Int)).map D.int).length ≤ _; rw [rg_len]; omega) ?_ ?_
  · intro d hd A B hA hB
    obtain ⟨j, hj⟩ := List.mem_iff_getElem?.mp hd
    obtain ⟨hj2, rfl⟩ := rg_at hj
    exact hstep j hj2 A B hA hB
  · show newL m ((((rgD 0 (n : Int)).map D.int).filter _).map _) S1 k
    rw [filter_fn p f _ _ (fun i _ => rfl) (fun i _ => rfl)]; exact h
abbrev N_law_told : List Str := ["up", "names", "pairs", "x", "y"]
def W_law_told : TSD := sSeq (sAsg (eLst false (aNil)) (gN 2))
  (sSeq (sFor (iRange (eRg1 (eCB dLen (aCons (eVar 0) (aNil))))) (gN 3)
  (sAsg (wBin (dAdd false) (eVar 2) (eLc false (iRange (eRg1 (eCB dLen (aCons (eVar 0) (aNil))))) (gN 4) (eB (wBin dIx (wBin dIx (eVar 0) (eVar 3)) (eVar 4))) (eTup (aCons (wBin dIx (eVar 1) (eVar 3)) (aCons (wBin dIx (eVar 1) (eVar 4)) (aNil)))) [4])) (gN 2)))
  (sRet (eTup (aCons (eCB dLen (aCons (eVar 0) (aNil))) (aCons (eCB dTuple (aCons (eCB (dSortedP false) (aCons (eVar 2) (aNil))) (aNil))) (aNil))))))
theorem len_law_told : ∀ cs S k kx, sp_law_told cs S k kx → cs.length = 2 := by
  rintro cs S k kx ⟨t, m, p, rfl, _⟩; rfl
theorem rd_law_told : ∀ cs S k kx, sp_law_told cs S k kx → W_law_told (DE k) (startE N_law_told cs) S := by
  rintro cs S k kx ⟨n, R, π, rfl, rfl, hn, hk⟩
  refine ⟨lez (by decide), newL_data (ds := []) ?_⟩
  refine ⟨_, tab_len, ?_⟩
  rw [fnL_len]
  refine ⟨rg_bd (by omega), fun i ρ' S' => ∃ x y, ρ' = [some (.d (tabD n R)), some (.d (rowD n π)), some (.d (.lst ((toldL n R π i).map pairN))), x, y] ∧ S' = [], ⟨none, none, rfl, rfl⟩, fun _ _ _ _ _ => trivial, ?_, ?_⟩
  · rintro i d ρ' S' hd ⟨x, y, rfl, rfl⟩
    obtain ⟨hi, rfl⟩ := rg_at hd
    refine ⟨_, tab_len, ?_⟩
    rw [fnL_len]
    refine ⟨rg_bd (by omega), ?_⟩
    refine lc_rg (by omega) (R i) (fun y => .d (pairN (π i, π y))) ?_ ?_
    · intro j hj A B hA hB
      refine ⟨_, tab_at hi, _, fnL_atI _ hj, ?_⟩
      show if R i j = true then _ else _
      split
      · rename_i e
        refine ⟨_, fnL_atI _ hi, _, fnL_atI _ hj, lez (by show 2 ≤ 1000000; decide), newT_data (ds := [nI (π i), nI (π j)]) ?_⟩
        exact hA e
      · rename_i e
        exact hB (Bool.eq_false_iff.mpr e)
    · have e : ((List.range n).filter (R i)).map (fun y => C.d (pairN (π i, π y))) = ((toldX n R π i).map pairN).map C.d := by
        unfold toldX; rw [List.map_map, List.map_map]; rfl
      rw [e]
      refine newL_data ?_
      refine ⟨lez ?_, ?_⟩
      · simp only [List.length_map]
        have h1 := toldL_len n R π i
        have h2 := toldX_len n R π i
        have h3 : i * n ≤ 500 * 500 := Nat.mul_le_mul (by omega) (by omega)
        omega
      · rw [← List.map_append]
        refine newL_data ?_
        refine ⟨some (.d (nI i)), y, ?_, rfl⟩
        rw [toldL_succ, List.map_append]; rfl
  · rintro ρ' S' ⟨x, y, rfl, rfl⟩
    rw [rg_len]
    refine ⟨_, tab_len, ?_⟩
    rw [fnL_len]
    refine ⟨(toldL n R π n).map castP, ?_, fun ps hp hs => ?_⟩
    · show some (((toldL n R π n).map pairN).map C.d) = _
      unfold cPairs; rw [List.map_map, List.map_map]; rfl
    · obtain ⟨qs, rfl, hq⟩ := perm_cast hp
      rw [show cPairs (qs.map castP) = (qs.map pairN).map C.d by unfold cPairs; rw [List.map_map, List.map_map]; rfl]
      refine newL_data ?_
      refine ⟨_, rfl, newT_data ?_⟩
      refine ⟨lez (by show 2 ≤ 1000000; decide), newT_data (ds := [nI n, .tup (qs.map pairN)]) ?_⟩
      exact hk qs _ hq
/-! ### named -/
def sp_law_named : SpD := fun cs S k kx => ∃ (n : Nat) (π r : Nat → Nat), cs = [.d (rowD n π), .d (rowD n r)] ∧ S = [] ∧ n ≤ 500 ∧ (∀ x, x < n → π x < n) ∧ (∀ x y, x < n → y < n → π x = π y → x = y) ∧ (∀ x, x < n → r x < n) ∧
  ∀ (f : Nat → Nat) (S' : Sto), (∀ x, x < n → f (π x) = π (r x)) → k (.d (rowT n f)) S'
def rowCI (n : Nat) (f : Nat → Nat) : List C := fnL n fun a => .d (nI (f a))
theorem row_seq {n : Nat} {r : Nat → Nat} {S : Sto} : seqOf S (.d (rowD n r)) = some (rowCI n r) := by
  show some ((fnL n fun i => nI (r i)).map C.d) = _
  rw [fnL_map]; rfl
abbrev N_law_named : List Str := ["names", "row", "told", "x"]
def W_law_named : TSD := sSeq (sAsg (wBin (dMul true) (eLst false (aCons (eC (.int 0)) (aNil))) (eCB dLen (aCons (eVar 1) (aNil)))) (gN 2))
  (sSeq (sFor (iRange (eRg1 (eCB dLen (aCons (eVar 1) (aNil))))) (gN 3)
  (sSetL (wBin dIx (eVar 0) (wBin dIx (eVar 1) (eVar 3))) (eVar 2) (wBin dIx (eVar 0) (eVar 3))))
  (sRet (eCB dTuple (aCons (eVar 2) (aNil)))))
theorem len_law_named : ∀ cs S k kx, sp_law_named cs S k kx → cs.length = 2 := by
  rintro cs S k kx ⟨t, m, p, rfl, _⟩; rfl
theorem rd_law_named : ∀ cs S k kx, sp_law_named cs S k kx → W_law_named (DE k) (startE N_law_named cs) S := by
  rintro cs S k kx ⟨n, π, r, rfl, rfl, hn, h1, h2, h3, hk⟩
  refine ⟨lez (by show 1 ≤ 1000000; decide), _, row_seq, ?_⟩
  unfold rowCI
  rw [fnL_len]
  refine ⟨by omega, by omega, lez (by show 1 * n ≤ 1000000; omega), ?_⟩
  show newL true (List.replicate ((n : Nat) : Int).toNat [C.d (.int 0)]).flatten _ _
  rw [show (List.replicate ((n : Nat) : Int).toNat [C.d (.int 0)]).flatten = rowCI n (fun _ => 0) by rw [Int.toNat_natCast]; exact fnL_rep n _]
  refine newL_cell ?_
  refine ⟨_, row_seq, ?_⟩
  unfold rowCI
  rw [fnL_len]
  refine ⟨rg_bd (by omega), fun i ρ' S' => ∃ x f, ρ' = [some (.d (rowD n π)), some (.d (rowD n r)), some (.c 0), x] ∧ S' = [some (.lst (rowCI n f))] ∧ ∀ x, x < i → x < n → f (π x) = π (r x), ⟨none, fun _ => 0, rfl, rfl, fun _ h => absurd h (by omega)⟩, fun _ _ _ _ _ => trivial, ?_, ?_⟩
  · rintro i d ρ' S' hd ⟨x, f, rfl, rfl, hf⟩
    obtain ⟨hi, rfl⟩ := rg_at hd
    refine ⟨_, fnL_atI _ hi, _, fnL_atI _ (h3 i hi), _, fnL_atI _ hi, _, π i, rfl, by unfold rowCI; rw [fnL_len]; exact ixN_n (h1 i hi), ?_⟩
    refine ⟨_, fun a => if a = π i then π (r i) else f a, rfl, ?_, fun x hx hxn => ?_⟩
    · show [some (Own.lst ((rowCI n f).set (π i) (.d (nI (π (r i))))))] = _
      unfold rowCI
      rw [fnL_set _ _ (h1 i hi)]
      refine congrArg (fun z => [some (Own.lst z)]) (fnL_congr fun a ha => ?_)
      show _ = C.d (nI (if a = π i then π (r i) else f a))
      split <;> rfl
    · show (if π x = π i then _ else _) = _
      by_cases e : x = i
      · subst e; rw [if_pos rfl]
      · rw [if_neg (fun q => e (h2 x i hxn hi q)), hf x (by omega) hxn]
  · rintro ρ' S' ⟨x, f, rfl, rfl, hf⟩
    rw [rg_len] at hf
    refine ⟨rowCI n f, rfl, ?_⟩
    refine newT_fn (f := fun a => nI (f a)) ?_
    exact hk f _ fun x hx => hf x hx hx
/-! ### fits -/
def sp_law_fits : SpD := fun cs S k kx => ∃ (n : Nat) (R : Nat → Nat → Bool) (r : Nat → Nat) (x v : Nat), cs = [.d (tabD n R), .c 0, .d (nI x), .d (nI v)] ∧ S = [some (.lst (rowCI n r))] ∧ n ≤ 500 ∧ (∀ x, x < n → r x < n) ∧ x < n ∧ v < n ∧ ∀ b, k (.d (.bl b)) S
abbrev N_law_fits : List Str := ["up", "row", "x", "value", "y"]
def W_law_fits : TSD := sSeq (sFor (iRange (eRg1 (eCB dLen (aCons (eVar 0) (aNil))))) (gN 4)
  (sSeq (sIf (eAndT (eB (wBin dIx (wBin dIx (eVar 0) (eVar 4)) (eVar 2))) (eAndT (eB (wBin dNe (wBin dIx (eVar 1) (eVar 4)) (eVar 3))) (eNotT (eB (wBin dIx (wBin dIx (eVar 0) (wBin dIx (eVar 1) (eVar 4))) (eVar 3))))))
  (sRet (eC (.bl false)))
  (sNext))
  (sIf (eAndT (eB (wBin dIx (wBin dIx (eVar 0) (eVar 2)) (eVar 4))) (eAndT (eB (wBin dNe (wBin dIx (eVar 1) (eVar 4)) (eVar 3))) (eNotT (eB (wBin dIx (wBin dIx (eVar 0) (eVar 3)) (wBin dIx (eVar 1) (eVar 4)))))))
  (sRet (eC (.bl false)))
  (sNext))))
  (sRet (eC (.bl true)))
theorem len_law_fits : ∀ cs S k kx, sp_law_fits cs S k kx → cs.length = 4 := by
  rintro cs S k kx ⟨t, m, p, a, b, rfl, _⟩; rfl
theorem rd_law_fits : ∀ cs S k kx, sp_law_fits cs S k kx → W_law_fits (DE k) (startE N_law_fits cs) S := by
  rintro cs S k kx ⟨n, R, r, x, v, rfl, rfl, hn, hr, hx, hv, hk⟩
  refine ⟨_, tab_len, ?_⟩
  rw [fnL_len]
  refine ⟨rg_bd (by omega), fun i ρ' S' => ∃ y, ρ' = [some (.d (tabD n R)), some (.c 0), some (.d (nI x)), some (.d (nI v)), y] ∧ S' = [some (.lst (rowCI n r))], ⟨none, rfl, rfl⟩, fun _ _ _ _ _ => trivial, ?_, fun ρ' S' ⟨y, e1, e2⟩ => by subst e1 e2; exact hk true⟩
  rintro i d ρ' S' hd ⟨y, rfl, rfl⟩
  obtain ⟨hi, rfl⟩ := rg_at hd
  have ho : Sto.own [some (Own.lst (rowCI n r))] 0 = some (.lst (rowCI n r)) := rfl
  have hat : atI (rowCI n r) (i : Int) = some (.d (nI (r i))) := fnL_atI _ hi
  have two : ∀ Dn : EndsD, (∀ b, Dn.rt (.d (.bl b)) [some (.lst (rowCI n r))]) → Dn.nx [some (.d (tabD n R)), some (.c 0), some (.d (nI x)), some (.d (nI v)), some (.d (nI i))] [some (.lst (rowCI n r))] →
    (sIf (eAndT (eB (wBin dIx (wBin dIx (eVar 0) (eVar 2)) (eVar 4))) (eAndT (eB (wBin dNe (wBin dIx (eVar 1) (eVar 4)) (eVar 3))) (eNotT (eB (wBin dIx (wBin dIx (eVar 0) (eVar 3)) (wBin dIx (eVar 1) (eVar 4)))))))
  (sRet (eC (.bl false)))
  (sNext)) Dn [some (.d (tabD n R)), some (.c 0), some (.d (nI x)), some (.d (nI v)), some (.d (nI i))] [some (.lst (rowCI n r))] := by
    intro Dn hb hn
    refine ⟨_, tab_at hx, _, fnL_atI _ hi, ?_⟩
    show if R x i = true then _ else _
    split
    · refine ⟨_, _, ho, hat, ?_⟩
      show if (!decide ((r i : Int) = v)) = true then _ else _
      split
      · refine ⟨_, tab_at hv, _, _, ho, hat, _, fnL_atI _ (hr i hi), ?_⟩
        show if (!R v (r i)) = true then _ else _
        split
        · exact hb false
        · exact hn
      · exact hn
    · exact hn
  have nxt : ∀ D' : EndsD, D'.nx = (fun ρ' S' => ∃ y, ρ' = [some (.d (tabD n R)), some (.c 0), some (.d (nI x)), some (.d (nI v)), y] ∧ S' = [some (.lst (rowCI n r))]) → D'.nx [some (.d (tabD n R)), some (.c 0), some (.d (nI x)), some (.d (nI v)), some (.d (nI i))] [some (.lst (rowCI n r))] := by
    intro D' e; rw [e]; exact ⟨_, rfl, rfl⟩
  refine ⟨_, tab_at hi, _, fnL_atI _ hx, ?_⟩
  show if R i x = true then _ else _
  split
  · refine ⟨_, _, ho, hat, ?_⟩
    show if (!decide ((r i : Int) = v)) = true then _ else _
    split
    · refine ⟨_, _, ho, hat, _, tab_at (hr i hi), _, fnL_atI _ hv, ?_⟩
      show if (!R (r i) v) = true then _ else _
      split
      · exact hk false
      · exact two _ hk ⟨_, rfl, rfl⟩
    · exact two _ hk ⟨_, rfl, rfl⟩
  · exact two _ hk ⟨_, rfl, rfl⟩
/-! ### map -/
def sp_law_map : SpD := fun cs S k kx => ∃ (t : Tape) (n : Nat) (R : Nat → Nat → Bool), cs = [.c 0, .d (tabD n R)] ∧ S = T1 t ∧ TGood t ∧ n ≤ 500 ∧
  ∀ (r : Nat → Nat) (S' : Sto) (t' : Tape), (∀ x, x < n → r x < n) → TGood t' → S'.own 0 = some (tapeO t') → k (.d (rowD n r)) S'
structure RS (S : Sto) (j n : Nat) (r : Nat → Nat) : Prop where
  tp : ∃ t, TGood t ∧ S.own 0 = some (tapeO t)
  rw : S.own j = some (.lst (rowCI n r))
  j0 : j ≠ 0
  lt : ∀ x, x < n → r x < n
theorem RS.draw {S : Sto} {j n : Nat} {r : Nat → Nat} {t : Tape} (h : RS S j n r) (g : TGood t) : RS (S.set 0 (some (tapeO t))) j n r := by
  obtain ⟨t0, _, h0⟩ := h.tp
  exact ⟨⟨t, g, own_set_same (own_lt h0)⟩, by rw [own_set_ne (Ne.symm h.j0)]; exact h.rw, h.j0, h.lt⟩
theorem RS.put {S : Sto} {j n : Nat} {r r' : Nat → Nat} (h : RS S j n r) (hl : ∀ x, x < n → r' x < n) : RS (S.set j (some (.lst (rowCI n r')))) j n r' := by
  obtain ⟨t0, g, h0⟩ := h.tp
  exact ⟨⟨t0, g, by rw [own_set_ne h.j0]; exact h0⟩, own_set_same (own_lt h.rw), h.j0, hl⟩
abbrev N_law_map : List Str := ["tape", "up", "many", "row", "k", "x", "value"]
def W_law_map : TSD := sSeq (sAsg (eCB dLen (aCons (eVar 1) (aNil))) (gN 2))
  (sSeq (sAsg (eLstRg true (eRg1 (eVar 2))) (gN 3))
  (sSeq (sIf (eAndT (eB (wBin dGt (eVar 2) (eC (.int 0)))) (eB (wBin dEq (eCall sp_law_draw (aCons (eVar 0) (aCons (eC (.int 3)) (aNil)))) (eC (.int 0)))))
  (sAsg (wBin (dMul true) (eLst false (aCons (eCall sp_law_draw (aCons (eVar 0) (aCons (eVar 2) (aNil)))) (aNil))) (eVar 2)) (gN 3))
  (sNext))
  (sSeq (sFor (iRange (eRg1 (eCall sp_law_draw (aCons (eVar 0) (aCons (wBin (dAdd false) (wBin (dMul false) (eC (.int 4)) (eVar 2)) (eC (.int 1))) (aNil)))))) (gN 4)
  (sSeq (sAsg (eCall sp_law_draw (aCons (eVar 0) (aCons (eVar 2) (aNil)))) (gN 5))
  (sSeq (sAsg (eCall sp_law_draw (aCons (eVar 0) (aCons (eVar 2) (aNil)))) (gN 6))
  (sIf (eB (eCall sp_law_fits (aCons (eVar 1) (aCons (eVar 3) (aCons (eVar 5) (aCons (eVar 6) (aNil)))))))
  (sSetL (eVar 6) (eVar 3) (eVar 5))
  (sNext)))))
  (sFrz 3 (sRet (eVar 3))))))
theorem len_law_map : ∀ cs S k kx, sp_law_map cs S k kx → cs.length = 2 := by
  rintro cs S k kx ⟨t, m, p, rfl, _⟩; rfl
theorem rd_law_map : ∀ cs S k kx, sp_law_map cs S k kx → W_law_map (DE k) (startE N_law_map cs) S := by
  rintro cs S k kx ⟨t, n, R, rfl, rfl, g, hn, hk⟩
  refine ⟨_, tab_len, ?_⟩
  rw [fnL_len]
  refine ⟨rgOk (by omega), newL_cell ?_⟩
  have main : ∀ (S' : Sto) (j : Nat) (r : Nat → Nat), RS S' j n r → (sSeq (sFor (iRange (eRg1 (eCall sp_law_draw (aCons (eVar 0) (aCons (wBin (dAdd false) (wBin (dMul false) (eC (.int 4)) (eVar 2)) (eC (.int 1))) (aNil)))))) (gN 4)
  (sSeq (sAsg (eCall sp_law_draw (aCons (eVar 0) (aCons (eVar 2) (aNil)))) (gN 5))
  (sSeq (sAsg (eCall sp_law_draw (aCons (eVar 0) (aCons (eVar 2) (aNil)))) (gN 6))
  (sIf (eB (eCall sp_law_fits (aCons (eVar 1) (aCons (eVar 3) (aCons (eVar 5) (aCons (eVar 6) (aNil)))))))
  (sSetL (eVar 6) (eVar 3) (eVar 5))
  (sNext)))))
  (sFrz 3 (sRet (eVar 3)))) (DE k) [some (.c 0), some (.d (tabD n R)), some (.d (nI n)), some (.c j), none, none, none] S' := by
    intro S' j r hS
    refine ⟨.inl (by decide), ?_⟩
    obtain ⟨t, g, h0⟩ := hS.tp
    refine call_draw (t := t) h0 g (by omega) fun q t' g' hq => ?_
    refine ⟨rg_bd (by omega), fun i ρ' S' => ∃ x y z r, ρ' = [some (.c 0), some (.d (tabD n R)), some (.d (nI n)), some (.c j), x, y, z] ∧ RS S' j n r, ⟨_, _, _, r, rfl, hS.draw g'⟩, fun _ _ _ _ _ => trivial, ?_, ?_⟩
    · rintro i d ρ' S' hd ⟨x, y, z, r, rfl, hS⟩
      obtain ⟨hi, rfl⟩ := rg_at hd
      have hn0 : 0 < n := by omega
      obtain ⟨t, g, h0⟩ := hS.tp
      refine call_draw (t := t) h0 g (by omega) fun u t1 g1 hu => ?_
      have hS1 := hS.draw g1
      obtain ⟨t2, g2, h2⟩ := hS1.tp
      refine call_draw (t := t2) h2 g2 (by omega) fun v t3 g3 hv => ?_
      have hS3 := hS1.draw g3
      have hu : u < n := by omega
      have hv : v < n := by omega
      generalize List.set (List.set S' 0 (some (tapeO t1))) 0 (some (tapeO t3)) = S3 at hS3
      refine ⟨.inr (.inl ⟨j, _, [.d (tabD n R), .c 0, .d (nI u), .d (nI v)], hS3.rw, by show (unD (rowCI n r)).isSome = true; unfold rowCI; rw [← fnL_map n (fun a => nI (r a)) C.d, unD_map]; rfl, ?_, ?_⟩)⟩
      · simp [renL, renC]
      · refine ⟨n, R, r, u, v, rfl, rfl, hn, hS3.lt, hu, hv, fun b => ⟨_, _, rfl, rfl, by show (unD (rowCI n r)).isSome = true; unfold rowCI; rw [← fnL_map n (fun a => nI (r a)) C.d, unD_map]; rfl, ?_⟩⟩
        have hS4 : RS (S3.set j (some (.lst (rowCI n r)))) j n r := hS3.put hS3.lt
        show if b = true then _ else _
        split
        · refine ⟨_, u, hS4.rw, by unfold rowCI; rw [fnL_len]; exact ixN_n hu, ?_⟩
          refine ⟨_, _, _, fun a => if a = u then v else r a, rfl, ?_⟩
          have e : (rowCI n r).set u (.d (nI v)) = rowCI n (fun a => if a = u then v else r a) := by
            unfold rowCI
            rw [fnL_set _ _ hu]
            refine fnL_congr fun a _ => ?_
            show _ = C.d (nI (if a = u then v else r a))
            split <;> rfl
          show RS (List.set _ j (some (.lst ((rowCI n r).set u (.d (nI v)))))) j n _
          rw [e]
          refine hS4.put fun x hx => ?_
          show (if x = u then v else r x) < n
          split
          · exact hv
          · exact hS4.lt x hx
        · exact ⟨_, _, _, r, rfl, hS4⟩
    · rintro ρ' S' ⟨x, y, z, r, rfl, hS⟩
      refine ⟨j, _, rowD n r, rfl, hS.rw, ?_, ?_⟩
      · show (unD (rowCI n r)).map D.lst = _
        unfold rowCI; rw [← fnL_map n (fun a => nI (r a)) C.d, unD_map]; rfl
      · show k (subC j (rowD n r) (.c j)) _
        rw [show subC j (rowD n r) (.c j) = .d (rowD n r) from if_pos rfl]
        obtain ⟨t', g', h0⟩ := hS.tp
        exact hk r _ t' hS.lt g' (own_subS h0 hS.j0)
  have e0 : cInts (rgD 0 (n : Int)) = rowCI n (fun x => x) := by rw [rg0]; unfold cInts; exact fnL_map n _ _
  rw [e0]
  have R0 : RS [some (tapeO t), some (.lst (rowCI n fun x => x))] 1 n (fun x => x) := ⟨⟨t, g, rfl⟩, rfl, by decide, fun _ h => h⟩
  show if decide ((0 : Int) < n) = true then _ else _
  split
  · rename_i hn0
    have hn0 : 0 < n := by have := of_decide_eq_true hn0; omega
    refine call_draw (t := t) rfl g (by decide) fun q t1 g1 _ => ?_
    have R1 := R0.draw g1
    show if decide ((q : Int) = 0) = true then _ else _
    split
    · refine call_draw (t := t1) rfl g1 (by omega) fun u t2 g2 hu => ?_
      have hu : u < n := by omega
      refine ⟨lez (by show 1 ≤ 1000000; omega), by omega, by omega, lez (by show 1 * n ≤ 1000000; omega), ?_⟩
      show newL true (List.replicate ((n : Nat) : Int).toNat [C.d (nI u)]).flatten _ _
      rw [show (List.replicate ((n : Nat) : Int).toNat [C.d (nI u)]).flatten = rowCI n (fun _ => u) by rw [Int.toNat_natCast]; exact fnL_rep n _]
      refine newL_cell ?_
      exact main _ 2 (fun _ => u) ⟨⟨t2, g2, rfl⟩, rfl, by decide, fun _ _ => hu⟩
    · exact main _ 1 _ R1
  · exact main _ 1 _ R0
/-! ### beside -/
def besR (n : Nat) (R Q : Nat → Nat → Bool) : Nat → Nat → Bool := fun i j => if i < n then (if j < n then R i j else false) else (if j < n then false else Q (i - n) (j - n))
def sp_law_beside : SpD := fun cs S k kx => ∃ (n m : Nat) (R Q : Nat → Nat → Bool), cs = [.d (tabD n R), .d (tabD m Q)] ∧ S = [] ∧ n ≤ 500 ∧ m ≤ 500 ∧ ∀ S', k (.d (tabD (n + m) (besR n R Q))) S'
theorem lc_tab {m : Bool} {g : TGD} {tt : TTD} {we : TD} {own : List Nat} {ρ : Env} {S1 : Sto} {k : C → Sto → Prop} {n : Nat} (hn : n ≤ 1000000) (it : Nat → D) (f : D → C) (f' : Nat → C) (hf : ∀ i, i < n → f (it i) = f' i)
    (hstep : ∀ i, i < n → ∀ (A : C → Sto → Prop) (B : Sto → Prop), A (f' i) S1 → g (.d (it i)) (wipeE ρ own) S1 (fun ρ2 S2 => tt ρ2 S2 (fun b S3 => if b = true then we ρ2 S3 A kF else B S3) kF) kF)
    (h : newL m (fnL n f') S1 k) :
    ∃ P : Nat → List C → Sto → Prop, P 0 [] S1 ∧ (∀ i acc S', i ≤ (fnL n it).length → P i acc S' → True) ∧
  (∀ i d acc S', (fnL n it)[i]? = some d → P i acc S' → g (.d d) (wipeE ρ own) S' (fun ρ2 S2 => tt ρ2 S2 (fun b S3 => if b = true then we ρ2 S3 (fun c S4 => acc.length < sizeLine ∧ P (i + 1) (acc ++ [c]) S4) kF else P (i + 1) acc S3) kF) kF) ∧
  ∀ acc S', P (fnL n it).length acc S' → newL m acc S' k := by
  refine lc_pure (it := ⟨fnL n it, fun _ => True⟩) (p := fun _ => true) (f := f) trivial (by show (fnL n it).length ≤ _; rw [fnL_len]; omega) ?_ ?_
  · intro d hd A B hA hB
    obtain ⟨i, hi, rfl⟩ := fnL_mem.mp hd
    refine hstep i hi A B ?_
    rw [← hf i hi]; exact hA rfl
  · show newL m (((fnL n it).filter _).map f) S1 k
    rw [List.filter_eq_self.mpr (fun _ _ => rfl), fnL_map, fnL_congr hf]; exact h
abbrev N_law_beside : List Str := ["one", "other", "table", "row"]
def W_law_beside : TSD := sSeq (sAsg (eLc false (iAny (eVar 0)) (gN 3) (tY) (wBin (dAdd false) (eVar 3) (wBin (dMul false) (eLst false (aCons (eC (.bl false)) (aNil))) (eCB dLen (aCons (eVar 1) (aNil))))) [3]) (gN 2))
  (sRet (wBin (dAdd false) (eVar 2) (eLc false (iAny (eVar 1)) (gN 3) (tY) (wBin (dAdd false) (wBin (dMul false) (eLst false (aCons (eC (.bl false)) (aNil))) (eCB dLen (aCons (eVar 0) (aNil)))) (eVar 3)) [3])))
theorem len_law_beside : ∀ cs S k kx, sp_law_beside cs S k kx → cs.length = 2 := by
  rintro cs S k kx ⟨t, m, p, q, rfl, _⟩; rfl
theorem rep_false (n : Nat) : (List.replicate ((n : Nat) : Int).toNat [C.d (.bl false)]).flatten = (fnL n fun _ => D.bl false).map C.d := by rw [Int.toNat_natCast, fnL_rep, fnL_map]
theorem rd_law_beside : ∀ cs S k kx, sp_law_beside cs S k kx → W_law_beside (DE k) (startE N_law_beside cs) S := by
  rintro cs S k kx ⟨n, m, R, Q, rfl, rfl, hn, hm, hk⟩
  refine lc_tab (n := n) (by omega) (fun i => .lst (fnL n fun j => .bl (R i j))) (fun d => match d with | .lst ds => .d (.lst (ds ++ fnL m fun _ => .bl false)) | _ => .d .non) (fun i => .d (.lst ((fnL n fun j => D.bl (R i j)) ++ fnL m fun _ => .bl false))) (fun _ _ => rfl) ?_ ?_
  · intro i hi A B hA
    refine ⟨lez (by show 1 ≤ 1000000; decide), _, tab_len, ?_⟩
    rw [fnL_len]
    refine ⟨by omega, by omega, lez (by show 1 * m ≤ 1000000; omega), ?_⟩
    show newL false (List.replicate ((m : Nat) : Int).toNat [C.d (.bl false)]).flatten _ _
    rw [rep_false]
    refine newL_data ?_
    refine ⟨lez (by simp only [List.length_map, fnL_len]; omega), ?_⟩
    rw [← List.map_append]
    exact newL_data hA
  · refine newL_fn (f := fun i => .lst ((fnL n fun j => D.bl (R i j)) ++ fnL m fun _ => .bl false)) ?_
    refine lc_tab (n := m) (by omega) (fun i => .lst (fnL m fun j => .bl (Q i j))) (fun d => match d with | .lst ds => .d (.lst ((fnL n fun _ => .bl false) ++ ds)) | _ => .d .non) (fun i => .d (.lst ((fnL n fun _ => .bl false) ++ (fnL m fun j => D.bl (Q i j))))) (fun _ _ => rfl) ?_ ?_
    · intro i hi A B hA
      refine ⟨lez (by show 1 ≤ 1000000; decide), _, tab_len, ?_⟩
      rw [fnL_len]
      refine ⟨by omega, by omega, lez (by show 1 * n ≤ 1000000; omega), ?_⟩
      show newL false (List.replicate ((n : Nat) : Int).toNat [C.d (.bl false)]).flatten _ _
      rw [rep_false]
      refine newL_data ?_
      refine ⟨lez (by simp only [List.length_map, fnL_len]; omega), ?_⟩
      rw [← List.map_append]
      exact newL_data hA
    · refine newL_fn (f := fun i => .lst ((fnL n fun _ => .bl false) ++ (fnL m fun j => D.bl (Q i j)))) ?_
      refine ⟨lez (by simp only [List.length_map, fnL_len]; omega), ?_⟩
      rw [← List.map_append]
      refine newL_data ?_
      have : (fnL n fun i => D.lst ((fnL n fun j => D.bl (R i j)) ++ fnL m fun _ => .bl false)) ++ (fnL m fun i => D.lst ((fnL n fun _ => .bl false) ++ (fnL m fun j => D.bl (Q i j)))) = fnL (n + m) fun i => D.lst (fnL (n + m) fun j => .bl (besR n R Q i j)) := by
        rw [fnL_append]
        refine fnL_congr fun i hi => ?_
        split
        · rename_i h1
          rw [fnL_append]
          refine congrArg D.lst (fnL_congr fun j hj => ?_)
          unfold besR
          rw [if_pos h1]
          split <;> rfl
        · rename_i h1
          rw [fnL_append]
          refine congrArg D.lst (fnL_congr fun j hj => ?_)
          unfold besR
          rw [if_neg h1]
          split <;> rfl
      rw [this]
      exact hk _
end PL

namespace PL
open PySem PySem.Spec L2
open PyProof.Rows hiding St
theorem lc_gen {β : Type} {m : Bool} {g : TGD} {tt : TTD} {we : TD} {own : List Nat} {ρ : Env} {S1 : Sto} {k : C → Sto → Prop} (F : List β) (it : β → D) (p : β → Bool) (f : β → C) (hl : F.length ≤ 1000000)
    (hstep : ∀ b, b ∈ F → ∀ (A : C → Sto → Prop) (B : Sto → Prop), (p b = true → A (f b) S1) → (p b = false → B S1) → g (.d (it b)) (wipeE ρ own) S1 (fun ρ2 S2 => tt ρ2 S2 (fun b S3 => if b = true then we ρ2 S3 A kF else B S3) kF) kF)
    (h : newL m ((F.filter p).map f) S1 k) :
    ∃ P : Nat → List C → Sto → Prop, P 0 [] S1 ∧ (∀ i acc S', i ≤ (F.map it).length → P i acc S' → True) ∧
  (∀ i d acc S', (F.map it)[i]? = some d → P i acc S' → g (.d d) (wipeE ρ own) S' (fun ρ2 S2 => tt ρ2 S2 (fun b S3 => if b = true then we ρ2 S3 (fun c S4 => acc.length < sizeLine ∧ P (i + 1) (acc ++ [c]) S4) kF else P (i + 1) acc S3) kF) kF) ∧
  ∀ acc S', P (F.map it).length acc S' → newL m acc S' k := by
  refine ⟨fun i acc S' => S' = S1 ∧ acc = ((F.take i).filter p).map f, ⟨rfl, by simp⟩, fun _ _ _ _ _ => trivial, fun i d acc S' hd hp => ?_, fun acc S' hp => ?_⟩
  · obtain ⟨rfl, rfl⟩ := hp
    obtain ⟨b, hb, rfl⟩ := at_map hd
    have hi := (List.getElem?_eq_some_iff.mp hb).1
    have e : F.take (i + 1) = F.take i ++ [b] := by rw [List.take_succ_eq_append_getElem hi, (List.getElem?_eq_some_iff.mp hb).2]
    have hlen : (((F.take i).filter p).map f).length < sizeLine := by
      rw [List.length_map]
      refine ltz (Nat.le_trans (List.length_filter_le _ _) ?_)
      rw [List.length_take]; omega
    refine hstep b (List.mem_of_getElem? hb) _ _ (fun h => ⟨hlen, rfl, ?_⟩) (fun h => ⟨rfl, ?_⟩)
    · rw [e, List.filter_append, List.map_append]; simp [h]
    · rw [e, List.filter_append, List.map_append]; simp [h]
  · obtain ⟨rfl, rfl⟩ := hp
    rw [List.length_map, List.take_length]; exact h
theorem filter_all {β : Type} (l : List β) : l.filter (fun _ => true) = l := List.filter_eq_self.mpr fun _ _ => rfl
theorem atI_last {β : Type} (xs : List β) (a : β) : atI (xs ++ [a]) (-1) = some a := by
  unfold atI ixN
  rw [if_neg (by decide), if_pos (by rw [List.length_append, List.length_singleton]; omega)]
  have : ((-1 : Int) + ((xs ++ [a]).length : Nat)).toNat = xs.length := by rw [List.length_append, List.length_singleton]; omega
  show (xs ++ [a])[((-1 : Int) + ((xs ++ [a]).length : Nat)).toNat]? = _
  rw [this]; simp
def cntB (n : Nat) (R : Nat → Nat → Bool) (x : Nat) : Nat := ((List.range n).filter fun y => R y x).length
theorem cnt_lt {n : Nat} {R : Nat → Nat → Bool} (tr : TransN n fun x y => R x y = true) (lt : ∀ x y, x < n → y < n → R x y = true → x < y) {a b : Nat} (ha : a < n) (hb : b < n) (h : R b a = true) : cntB n R b < cntB n R a := by
  unfold cntB
  have hsub : ((List.range n).filter fun y => R y b) = ((List.range n).filter fun y => R y a).filter fun y => R y b := by
    rw [List.filter_filter]
    refine List.filter_congr fun y hy => ?_
    have hy : y < n := by simpa using hy
    cases e : R y b with
    | false => rfl
    | true => rw [tr y b a hy hb ha e h]; rfl
  rw [hsub]
  have hm : b ∈ (List.range n).filter fun y => R y a := List.mem_filter.mpr ⟨by simpa using hb, h⟩
  have hbb : R b b = false := by
    cases e : R b b with
    | false => rfl
    | true => exact absurd (lt b b hb hb e) (Nat.lt_irrefl _)
  generalize (List.range n).filter (fun y => R y a) = l at hm
  induction l with
  | nil => simp at hm
  | cons c l ih =>
    rcases List.mem_cons.mp hm with rfl | hm
    · rw [List.filter_cons_of_neg (by rw [hbb]; decide), List.length_cons]
      exact Nat.lt_succ_of_le (List.length_filter_le _ _)
    · have := ih hm
      rw [List.filter_cons, List.length_cons]
      split <;> (try simp only [List.length_cons]) <;> omega
def chainsD (R : Nat → Nat → Bool) (L : List Nat) : List (List Nat) := (foundL R L).filter fun one => !one.isEmpty
structure OrdR (n : Nat) (R : Nat → Nat → Bool) : Prop where
  tr : TransN n fun x y => R x y = true
  lt : ∀ x y, x < n → y < n → R x y = true → x < y
def sp_law_chain_list : SpD := fun cs S k kx => ∃ (n : Nat) (R : Nat → Nat → Bool), cs = [.d (tabD n R)] ∧ S = [] ∧ n ≤ 16 ∧ OrdR n R ∧
  ∀ (L : List Nat) (S' : Sto), L.Perm (List.range n) → L.Pairwise (fun a b => R b a = false) → k (.d (.lst ((chainsD R L).map natsT))) S'
abbrev N_law_chain_list : List Str := ["up", "many", "ranked", "found", "rank", "x", "one", "y"]
def W_law_chain_list : TSD := sSeq (sAsg (eCB dLen (aCons (eVar 0) (aNil))) (gN 1))
  (sSeq (sAsg (eCB (dSortedP false) (aCons (eLc false (iRange (eRg1 (eVar 1))) (gN 5) (tY) (eTup (aCons (eCB dLen (aCons (eLc false (iRange (eRg1 (eVar 1))) (gN 7) (eB (wBin dIx (wBin dIx (eVar 0) (eVar 7)) (eVar 5))) (eVar 7) [7]) (aNil))) (aCons (eVar 5) (aNil)))) [5]) (aNil))) (gN 2))
  (sSeq (sAsg (eLst false (aCons (eTup (aNil)) (aNil))) (gN 3))
  (sSeq (sFor (iAny (eVar 2)) (gT 2 (gsCons (gN 4) (gsCons (gN 5) (gsNil))))
  (sAsg (wBin (dAdd false) (eVar 3) (eLc false (iAny (eVar 3)) (gN 6) (eOrT (eB (wBin dEq (eCB dLen (aCons (eVar 6) (aNil))) (eC (.int 0)))) (eB (wBin dIx (wBin dIx (eVar 0) (wBin dIx (eVar 6) (wUn dNeg (eC (.int 1))))) (eVar 5)))) (wBin (dAdd false) (eVar 6) (eTup (aCons (eVar 5) (aNil)))) [6])) (gN 3)))
  (sRet (eLc false (iAny (eVar 3)) (gN 6) (eB (wBin dGt (eCB dLen (aCons (eVar 6) (aNil))) (eC (.int 0)))) (eVar 6) [6])))))
theorem len_law_chain_list : ∀ cs S k kx, sp_law_chain_list cs S k kx → cs.length = 1 := by
  rintro cs S k kx ⟨t, m, rfl, _⟩; rfl
theorem natsT_seq {xs : List Nat} {S : Sto} : seqOf S (.d (natsT xs)) = some ((xs.map nI).map C.d) := rfl
theorem rd_law_chain_list : ∀ cs S k kx, sp_law_chain_list cs S k kx → W_law_chain_list (DE k) (startE N_law_chain_list cs) S := by
  rintro cs S k kx ⟨n, R, rfl, rfl, hn, hR, hk⟩
  refine ⟨_, tab_len, ?_⟩
  rw [fnL_len]
  refine ⟨rg_bd (by omega), ?_⟩
  refine lc_rg (n := n) (by omega) (fun _ => true) (fun x => .d (pairN (cntB n R x, x))) ?_ ?_
  · intro x hx A B hA _
    refine ⟨rg_bd (by omega), ?_⟩
    refine lc_rg (n := n) (by omega) (fun y => R y x) (fun y => .d (nI y)) ?_ ?_
    · intro y hy A B hA hB
      refine ⟨_, tab_at hy, _, fnL_atI _ hx, ?_⟩
      show if R y x = true then _ else _
      split
      · rename_i e; exact hA e
      · rename_i e; exact hB (Bool.eq_false_iff.mpr e)
    · rw [show (((List.range n).filter fun y => R y x).map fun y => C.d (nI y)) = (((List.range n).filter fun y => R y x).map nI).map C.d by rw [List.map_map]; rfl]
      refine newL_data ?_
      refine ⟨_, rfl, lez (by show 2 ≤ 1000000; decide), ?_⟩
      rw [List.length_map, List.length_map]
      exact newT_data (ds := [nI (cntB n R x), nI x]) (hA rfl)
  · rw [filter_all]
    refine newL_fn (f := fun x => pairN (cntB n R x, x)) ?_
    refine ⟨((List.range n).map fun x => (cntB n R x, x)).map castP, ?_, fun ps hp hs => ?_⟩
    · show some ((fnL n fun x => pairN (cntB n R x, x)).map C.d) = _
      unfold cPairs fnL; rw [List.map_map, List.map_map, List.map_map]; rfl
    · obtain ⟨qs, rfl, hq⟩ := perm_cast hp
      have hqs : qs = (qs.map (·.2)).map fun x => (cntB n R x, x) := by
        rw [List.map_map]
        refine (List.map_id qs).symm.trans (List.map_congr_left fun q hq' => ?_)
        obtain ⟨x, _, rfl⟩ := List.mem_map.mp (hq.mem_iff.mp hq')
        rfl
      have hL : (qs.map (·.2)).Perm (List.range n) := by
        have := hq.map (·.2)
        rw [List.map_map] at this
        rwa [show ((fun q : Nat × Nat => q.2) ∘ fun x => (cntB n R x, x)) = id from rfl, List.map_id] at this
      rw [hqs] at hs ⊢
      generalize qs.map (·.2) = L at hL hs
      have hlt : ∀ x, x ∈ L → x < n := fun x hx => by simpa using hL.mem_iff.mp hx
      have hLn : L.length = n := by simpa using hL.length_eq
      have hpw : L.Pairwise (fun a b => R b a = false) := by
        rw [List.pairwise_map, List.pairwise_map] at hs
        refine List.Pairwise.imp_of_mem (fun {a b} ha hb h => ?_) hs
        cases e : R b a with
        | false => rfl
        | true =>
          have h1 := cnt_lt hR.tr hR.lt (hlt a ha) (hlt b hb) e
          have h : ((cntB n R a : Nat) : Int) < (cntB n R b : Nat) ∨ _ := h
          rcases h with h | ⟨h, _⟩
          · omega
          · have h : ((cntB n R a : Nat) : Int) = (cntB n R b : Nat) := h
            omega
      rw [show cPairs ((L.map fun x => (cntB n R x, x)).map castP) = (L.map fun x => pairN (cntB n R x, x)).map C.d by unfold cPairs; rw [List.map_map, List.map_map, List.map_map]; rfl]
      refine newL_data ?_
      refine ⟨lez (by decide), newT_data (ds := []) ⟨lez (by decide), newL_data (ds := [natsT []]) ?_⟩⟩
      have hF : ∀ i, i ≤ L.length → (foundL R (L.take i)).length ≤ 65536 := fun i hi => by
        refine Nat.le_trans (foundL_len R _) ?_
        have : (L.take i).length ≤ 16 := by rw [List.length_take]; omega
        exact Nat.le_trans (Nat.pow_le_pow_right (by decide) this) (by decide)
      refine ⟨fun i ρ' S' => i ≤ L.length ∧ ∃ a b, ρ' = [some (.d (tabD n R)), some (.d (nI n)), some (.d (.lst (L.map fun x => pairN (cntB n R x, x)))), some (.d (.lst ((foundL R (L.take i)).map natsT))), a, b, none, none] ∧ S' = [], ⟨Nat.zero_le _, none, none, rfl, rfl⟩, fun _ _ _ _ _ => trivial, ?_, ?_⟩
      · rintro i d ρ' S' hd ⟨_, a, b, rfl, rfl⟩
        obtain ⟨x, hx, rfl⟩ := at_map hd
        have hi := (List.getElem?_eq_some_iff.mp hx).1
        have hxn := hlt x (List.mem_of_getElem? hx)
        refine ⟨rfl, _, _, rfl, _, _, rfl, rfl, ?_⟩
        have e : L.take (i + 1) = L.take i ++ [x] := by rw [List.take_succ_eq_append_getElem hi, (List.getElem?_eq_some_iff.mp hx).2]
        refine lc_gen (foundL R (L.take i)) natsT (okF R x) (fun one => .d (natsT (one ++ [x]))) (Nat.le_trans (hF i (by omega)) (by decide)) ?_ ?_
        · intro one hone A B hA hB
          have hsz := foundL_size R _ one hone
          rw [List.length_take] at hsz
          have hmem := foundL_mem R _ one hone
          -- the item
          have item : okF R x one = true → (wBin (dAdd false) (eVar 6) (eTup (aCons (eVar 5) (aNil)))) [some (.d (tabD n R)), some (.d (nI n)), some (.d (.lst (L.map fun x => pairN (cntB n R x, x)))), some (.d (.lst ((foundL R (L.take i)).map natsT))), some (.d (nI (cntB n R x))), some (.d (nI x)), some (.d (natsT one)), none] [] A kF := by
            intro hok
            refine ⟨lez (by show 1 ≤ 1000000; decide), newT_data (ds := [nI x]) ⟨lez (by show (one.map nI).length + 1 ≤ 1000000; rw [List.length_map]; omega), ?_⟩⟩
            have := hA hok
            unfold natsT at this
            rw [List.map_append] at this
            exact this
          refine ⟨_, natsT_seq, ?_⟩
          rw [List.length_map, List.length_map]
          show if decide ((one.length : Int) = 0) = true then _ else _
          rcases List.eq_nil_or_concat one with rfl | ⟨o, y, rfl⟩
          · rw [if_pos (by decide)]
            exact item rfl
          · rw [List.concat_eq_append] at *
            rw [if_neg (by rw [List.length_append, List.length_singleton]; simp; omega)]
            have hyn : y < n := hlt y (List.mem_of_mem_take (hmem y (by simp)))
            have ok : okF R x (o ++ [y]) = R y x := by unfold okF; rw [getLast_snoc]
            refine ⟨nI y, by rw [List.map_append]; exact atI_last _ _, _, tab_at hyn, _, fnL_atI _ hxn, ?_⟩
            show if R y x = true then _ else _
            split
            · rename_i e; exact item (ok.trans e)
            · rename_i e; exact hB (ok.trans (Bool.eq_false_iff.mpr e))
        · rw [show (((foundL R (L.take i)).filter (okF R x)).map fun one => C.d (natsT (one ++ [x]))) = ((((foundL R (L.take i)).filter (okF R x)).map (· ++ [x])).map natsT).map C.d by rw [List.map_map, List.map_map]; rfl]
          refine newL_data ?_
          have hst : (foundL R (L.take i)).map natsT ++ (((foundL R (L.take i)).filter (okF R x)).map (· ++ [x])).map natsT = (foundL R (L.take (i + 1))).map natsT := by
            rw [← List.map_append, e, foundL_snoc]; rfl
          refine ⟨lez ?_, ?_⟩
          · have := hF (i + 1) (by omega)
            rw [e, foundL_snoc] at this
            unfold stepF at this
            rw [List.length_append] at this
            simp only [List.length_map] at this ⊢
            omega
          · rw [← List.map_append, hst]
            refine newL_data ?_
            exact ⟨by omega, _, _, rfl, rfl⟩
      · rintro ρ' S' ⟨_, a, b, rfl, rfl⟩
        rw [List.length_map, List.take_length]
        refine lc_gen (foundL R L) natsT (fun one => !one.isEmpty) (fun one => .d (natsT one)) (by have := hF L.length (Nat.le_refl _); rw [List.take_length] at this; omega) ?_ ?_
        · intro one hone A B hA hB
          refine ⟨_, natsT_seq, ?_⟩
          rw [List.length_map, List.length_map]
          show if decide ((0 : Int) < (one.length : Int)) = true then _ else _
          cases one with
          | nil => rw [if_neg (by decide)]; exact hB rfl
          | cons a r => rw [if_pos (by simp)]; exact hA rfl
        · rw [show (((foundL R L).filter fun one => !one.isEmpty).map fun one => C.d (natsT one)) = ((chainsD R L).map natsT).map C.d by rw [List.map_map]; rfl]
          refine newL_data ?_
          exact hk L _ hL hpw
end PL

namespace PL
open PySem PySem.Spec L2
open PyProof.Rows hiding St
/-! ### traced -/
def Tot (n : Nat) (R : Nat → Nat → Bool) (fix : Nat → Bool) (total : Int) : Prop := ∃ g : Nat → Int,
  (∀ x, x < n → fix x = true → g x + sm (List.range n) (fun y => if R y x = true then g y else 0) = 1) ∧ (∀ x, x < n → fix x = false → g x = 0) ∧ total = sm (List.range n) g
def fixB (r : Nat → Nat) (x : Nat) : Bool := decide ((r x : Int) = x)
def sp_law_traced : SpD := fun cs S k kx => ∃ (n : Nat) (R : Nat → Nat → Bool) (r : Nat → Nat) (X : D), cs = [.d (tabD n R), .d X] ∧ (X = rowD n r ∨ X = rowT n r) ∧ S = [] ∧ n ≤ 16 ∧ OrdR n R ∧
  ∀ (total : Int) (S' : Sto), Tot n R (fixB r) total → k (.d (.int total)) S'
theorem row_ix {n : Nat} {r : Nat → Nat} {X : D} (h : X = rowD n r ∨ X = rowT n r) {y : Nat} (hy : y < n) {S : Sto} {k : C → Sto → Prop} (hk : k (.d (nI (r y))) S) : dIx (.d X) (.d (.int (y : Int))) S k := by
  rcases h with rfl | rfl
  · exact ⟨_, fnL_atI _ hy, hk⟩
  · exact ⟨_, fnL_atI _ hy, hk⟩
theorem pyDs_ints : ∀ ns : List Int, pyDs (ns.map D.int) = ns.map PyData.int
  | [] => by unfold List.map pyDs; rfl
  | n :: ns => by rw [List.map_cons, List.map_cons]; unfold pyDs; rw [pyDs_ints ns]; unfold pyD; rfl
theorem okDs_ints : ∀ ns : List Int, okDs (ns.map D.int) = true
  | [] => by unfold List.map okDs; rfl
  | n :: ns => by rw [List.map_cons]; unfold okDs; rw [okDs_ints ns]; unfold okD; rfl
theorem dEqD_ints {xs ys : List Int} {S : Sto} {k : C → Sto → Prop} (h : k (.d (.bl (decide (xs = ys)))) S) : dEqD false (.d (.lst (xs.map D.int))) (.d (.lst (ys.map D.int))) S k := by
  have e : ∀ zs : List Int, pyD (.lst (zs.map D.int)) = .list (zs.map PyData.int) := fun zs => by unfold pyD; rw [pyDs_ints]
  have o : ∀ zs : List Int, okD (.lst (zs.map D.int)) = true := fun zs => by unfold okD; exact okDs_ints zs
  refine ⟨o xs, o ys, by rw [e]; exact PySem.W.ke_shaped_ints _, by rw [e]; exact PySem.W.ke_shaped_ints _, ?_⟩
  rw [e, e]
  have : PyData.eqv (.list (xs.map PyData.int)) (.list (ys.map PyData.int)) = decide (xs = ys) := by simp only [PyData.eqv]; exact PySem.W.ked_eqvAll xs ys
  rw [this]; exact h
theorem fix_all (r : Nat → Nat) : ∀ one : List Nat, decide ((one.map fun y => (r y : Int)) = one.map Int.ofNat) = one.all (fixB r)
  | [] => rfl
  | a :: one => by
    rw [List.all_cons, ← fix_all r one]
    unfold fixB
    by_cases h1 : (r a : Int) = a
    · by_cases h2 : (one.map fun y => (r y : Int)) = one.map Int.ofNat
      · simp [h1, h2]
      · rw [decide_eq_false h2, decide_eq_false (by intro q; simp only [List.map_cons, List.cons.injEq] at q; exact h2 q.2)]; simp
    · rw [decide_eq_false h1, decide_eq_false (by intro q; simp only [List.map_cons, List.cons.injEq] at q; exact h1 q.1)]; rfl
abbrev N_law_traced : List Str := ["up", "row", "total", "one", "x"]
def W_law_traced : TSD := sSeq (sAsg (eC (.int 0)) (gN 2))
  (sSeq (sFor (iAny (eCall sp_law_chain_list (aCons (eVar 0) (aNil)))) (gN 3)
  (sIf (eB (wBin (dEqD false) (eLc false (iAny (eVar 3)) (gN 4) (tY) (wBin dIx (eVar 1) (eVar 4)) [4]) (eCB (dList false) (aCons (eVar 3) (aNil)))))
  (sAsg (wBin dSub (wBin (dAdd false) (eVar 2) (eC (.int 1))) (wBin (dMul false) (eC (.int 2)) (eCB dToInt (aCons (wBin dMod (eCB dToInt (aCons (wBin (dAdd false) (eCB dLen (aCons (eVar 3) (aNil))) (eC (.int 1))) (aNil))) (eC (.int 2))) (aNil))))) (gN 2))
  (sNext)))
  (sRet (eVar 2)))
theorem len_law_traced : ∀ cs S k kx, sp_law_traced cs S k kx → cs.length = 2 := by
  rintro cs S k kx ⟨n, R, r, X, rfl, _⟩; rfl
theorem rd_law_traced : ∀ cs S k kx, sp_law_traced cs S k kx → W_law_traced (DE k) (startE N_law_traced cs) S := by
  rintro cs S k kx ⟨n, R, r, X, rfl, hX, rfl, hn, hR, hk⟩
  refine ⟨.inl ⟨rfl, n, R, rfl, rfl, hn, hR, fun L S' hp hpw => .inl ⟨_, rfl, ?_⟩⟩⟩
  have hmem : ∀ one, one ∈ chainsD R L → ∀ y, y ∈ one → y < n := fun one h y hy => by
    have := foundL_mem R L one (List.mem_filter.mp h).1 y hy
    simpa using hp.mem_iff.mp this
  have hsz : ∀ one, one ∈ chainsD R L → one.length ≤ 16 := fun one h => by
    have := foundL_size R L one (List.mem_filter.mp h).1
    have h2 : L.length = n := by simpa using hp.length_eq
    omega
  refine ⟨fun i ρ' S' => ∃ x, ρ' = [some (.d (tabD n R)), some (.d X), some (.d (.int (sm ((chainsD R L).take i) (wt (fixB r))))), x, none] ∧ S' = [], ⟨none, rfl, rfl⟩, fun _ _ _ _ _ => trivial, ?_, ?_⟩
  · rintro i d ρ' S' hd ⟨x, rfl, rfl⟩
    obtain ⟨one, ho, rfl⟩ := at_map hd
    have hi := (List.getElem?_eq_some_iff.mp ho).1
    have hone := List.mem_of_getElem? ho
    have e : (chainsD R L).take (i + 1) = (chainsD R L).take i ++ [one] := by rw [List.take_succ_eq_append_getElem hi, (List.getElem?_eq_some_iff.mp ho).2]
    have es : sm ((chainsD R L).take (i + 1)) (wt (fixB r)) = sm ((chainsD R L).take i) (wt (fixB r)) + wt (fixB r) one := by
      rw [e, sm_append, sm_cons, sm_nil]; omega
    refine lc_gen one nI (fun _ => true) (fun y => .d (nI (r y))) (Nat.le_trans (hsz one hone) (by decide)) ?_ ?_
    · intro y hy A B hA _
      exact row_ix hX (hmem one hone y hy) (hA rfl)
    · rw [filter_all, show (one.map fun y => C.d (nI (r y))) = ((one.map fun y => (r y : Int)).map D.int).map C.d by rw [List.map_map, List.map_map]; rfl]
      refine newL_data ?_
      refine ⟨_, natsT_seq, newL_data ?_⟩
      rw [show one.map nI = (one.map Int.ofNat).map D.int by rw [List.map_map]; rfl]
      refine dEqD_ints ?_
      rw [fix_all]
      show if one.all (fixB r) = true then _ else _
      split
      · rename_i hf
        refine ⟨_, natsT_seq, (by show (0 : Int) < 2; decide), .inl (by decide), ?_⟩
        refine ⟨some (.d (natsT one)), ?_, rfl⟩
        have : sm ((chainsD R L).take i) (wt (fixB r)) + 1 - 2 * ((((one.map nI).map C.d).length + 1 : Int) % 2) = sm ((chainsD R L).take (i + 1)) (wt (fixB r)) := by
          rw [es, List.length_map, List.length_map]
          unfold wt
          rw [if_pos hf]
          split <;> omega
        exact congrArg (fun z => [some (C.d (tabD n R)), some (C.d X), some (C.d (D.int z)), some (C.d (natsT one)), none]) this
      · rename_i hf
        refine ⟨some (.d (natsT one)), ?_, rfl⟩
        have : sm ((chainsD R L).take i) (wt (fixB r)) = sm ((chainsD R L).take (i + 1)) (wt (fixB r)) := by
          rw [es]; unfold wt; rw [if_neg hf]; omega
        exact congrArg (fun z => [some (C.d (tabD n R)), some (C.d X), some (C.d (D.int z)), some (C.d (natsT one)), none]) this
  · rintro ρ' S' ⟨x, rfl, rfl⟩
    rw [List.length_map, List.take_length]
    refine hk _ _ ?_
    have hmL : ∀ x, x ∈ L ↔ x < n := fun x => by rw [hp.mem_iff]; simp
    obtain ⟨g, g1, g2, g3⟩ := signed (R := R) (fixB r) L (hp.nodup_iff.mpr List.nodup_range) hpw (fun x hx => by
      have hx := (hmL x).mp hx
      cases e : R x x with
      | false => rfl
      | true => exact absurd (hR.lt x x hx hx e) (Nat.lt_irrefl _))
    refine ⟨g, fun x hx hf => ?_, fun x hx hf => g2 x ((hmL x).mpr hx) hf, ?_⟩
    · rw [← sm_perm hp]; exact g1 x ((hmL x).mpr hx) hf
    · rw [← sm_perm hp]
      have := g3 (fun o => o.isSome)
      simp only [Option.isSome_none, Option.isSome_some, Bool.false_eq_true, if_false, if_true] at this
      have e1 : sm (chainsD R L) (wt (fixB r)) = sm (foundL R L) (fun one => if one.getLast?.isSome = true then wt (fixB r) one else 0) := by
        unfold chainsD
        rw [sm_filter]
        refine sm_congr fun one _ => ?_
        cases one with
        | nil => rfl
        | cons a o => rw [if_pos (show (!(a :: o).isEmpty) = true from rfl), if_pos (by rw [List.getLast?_isSome]; simp)]
      rw [e1, this, Int.zero_add]
/-! ### fixed points -/
def sp_fixed_points : SpD := fun cs S k kx => ∃ (n : Nat) (qs : List (Nat × Nat)) (f : Nat → Nat), cs = [.d (ordN n qs), .d (rowT n f)] ∧ S = [] ∧ n ≤ 500 ∧ ∀ S', k (.d (natsT ((List.range n).filter (fixB f)))) S'
abbrev N_fixed_points : List Str := ["order", "row", "x"]
def W_fixed_points : TSD := sRet (eCB dTuple (aCons (eLc false (iRange (eRg1 (wBin dIx (eVar 0) (eC (.int 0))))) (gN 2) (eB (wBin dEq (wBin dIx (eVar 1) (eVar 2)) (eVar 2))) (eVar 2) [2]) (aNil)))
theorem len_fixed_points : ∀ cs S k kx, sp_fixed_points cs S k kx → cs.length = 2 := by
  rintro cs S k kx ⟨n, R, r, rfl, _⟩; rfl
theorem rd_fixed_points : ∀ cs S k kx, sp_fixed_points cs S k kx → W_fixed_points (DE k) (startE N_fixed_points cs) S := by
  rintro cs S k kx ⟨n, qs, f, rfl, rfl, hn, hk⟩
  refine ⟨nI n, rfl, rg_bd (by omega), ?_⟩
  refine lc_rg (n := n) (by omega) (fixB f) (fun y => .d (nI y)) ?_ ?_
  · intro x hx A B hA hB
    refine ⟨_, fnL_atI _ hx, ?_⟩
    show if decide ((f x : Int) = x) = true then _ else _
    split
    · rename_i e; exact hA e
    · rename_i e; exact hB (Bool.eq_false_iff.mpr e)
  · rw [show (((List.range n).filter (fixB f)).map fun y => C.d (nI y)) = (((List.range n).filter (fixB f)).map nI).map C.d by rw [List.map_map]; rfl]
    refine newL_data ?_
    exact ⟨_, rfl, newT_data (hk _)⟩
/-! ### induced -/
def indQ (F : List Nat) (qs : List (Nat × Nat)) : List (Nat × Nat) := (qs.filter fun p => F.contains p.1 && F.contains p.2).map fun p => (F.idxOf p.1, F.idxOf p.2)
def sp_induced : SpD := fun cs S k kx => ∃ (n : Nat) (qs : List (Nat × Nat)) (F : List Nat), cs = [.d (ordN n qs), .d (natsT F)] ∧ S = [] ∧ F.Nodup ∧ F.length ≤ 500 ∧ qs.length ≤ 500000 ∧ ∀ S', k (.d (ordN F.length (indQ F qs))) S'
abbrev kI (x : Nat) : Key := Sum.inl (x : Int)
def plK (F : List Nat) (i : Nat) : List (Key × C) := fnL i fun j => (kI (F.getD j 0), .d (nI j))
theorem look_snoc {β : Type} (xs : List (Key × β)) (p : Key × β) (k : Key) : lookK (xs ++ [p]) k = match lookK xs k with | some v => some v | none => if p.1 = k then some p.2 else none := by
  induction xs with
  | nil => show (if p.1 = k then some p.2 else lookK [] k) = _; rfl
  | cons q xs ih =>
    show (if q.1 = k then some q.2 else lookK (xs ++ [p]) k) = match (if q.1 = k then some q.2 else lookK xs k) with | some v => some v | none => _
    split
    · rfl
    · exact ih
theorem look_pl {F : List Nat} (nd : F.Nodup) (x : Nat) : ∀ i, i ≤ F.length → lookK (plK F i) (kI x) = if x ∈ F.take i then some (.d (nI (F.idxOf x))) else none
  | 0, _ => by simp [plK, fnL, lookK]
  | i + 1, hi => by
    have hi' : i < F.length := by omega
    have e : F.take (i + 1) = F.take i ++ [F[i]] := List.take_succ_eq_append_getElem hi'
    have hg : F.getD i 0 = F[i] := by rw [List.getD_eq_getElem?_getD, List.getElem?_eq_getElem hi']; rfl
    unfold plK
    rw [fnL_succ, look_snoc]
    have ih := look_pl nd x i (by omega)
    unfold plK at ih
    rw [ih, e]
    by_cases h1 : x ∈ F.take i
    · rw [if_pos h1, if_pos (List.mem_append_left _ h1)]
    · rw [if_neg h1]
      show (if kI (F.getD i 0) = kI x then some (C.d (nI i)) else none) = _
      rw [hg]
      by_cases h2 : F[i] = x
      · rw [if_pos (by rw [h2]), if_pos (List.mem_append_right _ (by rw [h2]; simp))]
        have : F.idxOf x = i := by rw [← h2]; exact List.Nodup.idxOf_getElem nd i hi'
        rw [this]
      · rw [if_neg (fun q => h2 (by have := Sum.inl.inj q; omega)), if_neg (by simp only [List.mem_append, List.mem_singleton, not_or]; exact ⟨h1, Ne.symm h2⟩)]
theorem mem_take_ne {F : List Nat} (nd : F.Nodup) {i : Nat} (hi : i < F.length) : F[i] ∉ F.take i := by
  intro h
  obtain ⟨j, hj, e⟩ := List.mem_iff_getElem.mp h
  rw [List.getElem_take] at e
  rw [List.length_take] at hj
  have := (List.getElem_inj nd).mp e
  omega
abbrev N_induced : List Str := ["order", "points", "places", "pairs", "place", "point", "x", "y"]
def W_induced : TSD := sSeq (sAsg (eDc (iEnumD (eVar 1)) (gT 2 (gsCons (gN 4) (gsCons (gN 5) (gsNil)))) (tY) (eVar 5) (eVar 4) [4, 5]) (gN 2))
  (sSeq (sAsg (eLc false (iAny (wBin dIx (eVar 0) (eC (.int 1)))) (gT 2 (gsCons (gN 6) (gsCons (gN 7) (gsNil)))) (eAndT (eB (wBin (dDIn false) (eVar 6) (eVar 2))) (eB (wBin (dDIn false) (eVar 7) (eVar 2)))) (eTup (aCons (wBin dDGet (eVar 2) (eVar 6)) (aCons (wBin dDGet (eVar 2) (eVar 7)) (aNil)))) [6, 7]) (gN 3))
  (sRet (eTup (aCons (eCB dLen (aCons (eVar 1) (aNil))) (aCons (eCB dTuple (aCons (eVar 3) (aNil))) (aNil))))))
theorem len_induced : ∀ cs S k kx, sp_induced cs S k kx → cs.length = 2 := by
  rintro cs S k kx ⟨n, R, r, rfl, _⟩; rfl
theorem rd_induced : ∀ cs S k kx, sp_induced cs S k kx → W_induced (DE k) (startE N_induced cs) S := by
  rintro cs S k kx ⟨n, qs, F, rfl, rfl, nd, hF, hq, hk⟩
  have hdl : (enumG (F.map nI)).length = F.length := by rw [enumG_len, List.length_map]
  refine ⟨fun i acc S' => S' = [] ∧ acc = plK F i, ⟨rfl, rfl⟩, fun _ _ _ _ _ => trivial, ?_, ?_⟩
  · rintro i d acc S' hd ⟨rfl, rfl⟩
    have hi : i < F.length := by rw [← hdl]; exact (List.getElem?_eq_some_iff.mp hd).1
    have e : (F.map nI)[i]? = some (nI F[i]) := by rw [List.getElem?_map, List.getElem?_eq_getElem hi]; rfl
    have e := enumG_at e
    have hd : (enumG (F.map nI))[i]? = some d := hd
    rw [e] at hd
    obtain rfl := Option.some.inj hd.symm
    refine ⟨rfl, _, _, rfl, _, _, rfl, rfl, kI F[i], rfl, ltz (by unfold plK; rw [fnL_len]; omega), rfl, ?_⟩
    unfold putG
    have hg : F.getD i 0 = F[i] := by rw [List.getD_eq_getElem?_getD, List.getElem?_eq_getElem hi]; rfl
    rw [look_pl nd _ i (by omega), if_neg (mem_take_ne nd hi)]
    show plK F i ++ [(kI F[i], C.d (nI i))] = plK F (i + 1)
    unfold plK
    rw [fnL_succ, hg]
  · rintro acc S' ⟨rfl, rfl⟩
    rw [hdl]
    have hown : Sto.own [some (Own.dK (plK F F.length))] 0 = some (.dK (plK F F.length)) := rfl
    have hget : ∀ x : Nat, dGet [some (Own.dK (plK F F.length))] (.c 0) (.d (nI x)) = some (if x ∈ F then some (.d (nI (F.idxOf x))) else none) := fun x => by
      have := look_pl nd x F.length (Nat.le_refl _)
      rw [List.take_length] at this
      exact congrArg some this
    refine ⟨_, rfl, ?_⟩
    refine lc_gen qs pairN (fun p => F.contains p.1 && F.contains p.2) (fun p => .d (pairN (F.idxOf p.1, F.idxOf p.2))) (by omega) ?_ ?_
    · intro p hp A B hA hB
      refine ⟨rfl, _, _, rfl, _, _, rfl, rfl, _, hget p.1, ?_⟩
      show if (if false then _ else Option.isSome _) = true then _ else _
      by_cases h1 : p.1 ∈ F
      · rw [if_pos h1]
        refine ⟨_, hget p.2, ?_⟩
        by_cases h2 : p.2 ∈ F
        · rw [if_pos h2]
          refine ⟨_, (hget p.1).trans (by rw [if_pos h1]), _, (hget p.2).trans (by rw [if_pos h2]), lez (by show 2 ≤ 1000000; decide), newT_data (ds := [nI (F.idxOf p.1), nI (F.idxOf p.2)]) ?_⟩
          exact hA (by simp [h1, h2])
        · rw [if_neg h2]
          exact hB (by simp [h2])
      · rw [if_neg h1]
        exact hB (by simp [h1])
    · rw [show (List.map (fun p : Nat × Nat => C.d (pairN (F.idxOf p.1, F.idxOf p.2))) (qs.filter fun p => F.contains p.1 && F.contains p.2)) = ((indQ F qs).map pairN).map C.d by unfold indQ; rw [List.map_map, List.map_map]; rfl]
      refine newL_data ?_
      refine ⟨_, natsT_seq, _, rfl, newT_data ⟨lez (by show 2 ≤ 1000000; decide), ?_⟩⟩
      rw [List.length_map, List.length_map]
      exact newT_data (ds := [nI F.length, .tup ((indQ F qs).map pairN)]) (hk _)
end PL

namespace PL
open PySem PySem.Spec L2
open PyProof.Rows hiding St
/-! ### alternating sums -/
def altS : List Int → Int
  | [] => 0
  | x :: r => x - altS r
theorem altS_snoc (c : Int) : ∀ xs : List Int, altS (xs ++ [c]) = altS xs + (if xs.length % 2 = 0 then c else -c)
  | [] => by simp [altS]
  | x :: r => by
    show x - altS (r ++ [c]) = x - altS r + _
    rw [altS_snoc c r, List.length_cons]
    split <;> split <;> omega
def ev : List Int → List Int
  | [] => []
  | [x] => [x]
  | x :: _ :: r => x :: ev r
theorem fm_congr {α β : Type} {f g : α → Option β} : ∀ {l : List α}, (∀ x, x ∈ l → f x = g x) → l.filterMap f = l.filterMap g
  | [], _ => rfl
  | a :: l, h => by rw [List.filterMap_cons, List.filterMap_cons, h a (by simp), fm_congr fun x hx => h x (by simp [hx])]
theorem stride_ev : ∀ xs : List Int, strideG xs 0 2 = ev xs
  | [] => rfl
  | [x] => by simp [strideG, cntK, ev, List.range_succ]
  | x :: y :: r => by
    show strideG (x :: y :: r) 0 2 = x :: ev r
    rw [← stride_ev r]
    unfold strideG cntK
    have : ((x :: y :: r).length - 0 + 2 - 1) / 2 = (r.length - 0 + 2 - 1) / 2 + 1 := by simp only [List.length_cons]; omega
    rw [this, List.range_succ_eq_map, List.filterMap_cons]
    show x :: _ = _
    rw [List.filterMap_map]
    refine congrArg (x :: ·) ?_
    refine fm_congr fun m _ => ?_
    show (x :: y :: r)[0 + (m + 1) * 2]? = _
    rw [show 0 + (m + 1) * 2 = (0 + m * 2) + 1 + 1 by omega, List.getElem?_cons_succ, List.getElem?_cons_succ]
theorem stride_od (x : Int) (r : List Int) : strideG (x :: r) 1 2 = ev r := by
  rw [← stride_ev r]
  unfold strideG cntK
  have : ((x :: r).length - 1 + 2 - 1) / 2 = (r.length - 0 + 2 - 1) / 2 := by simp only [List.length_cons]; omega
  rw [this]
  refine fm_congr fun m _ => ?_
  rw [show 1 + m * 2 = (0 + m * 2) + 1 by omega, List.getElem?_cons_succ]
theorem alt_ev : ∀ xs : List Int, altS xs = (ev xs).sum - (ev xs.tail).sum
  | [] => rfl
  | [x] => by simp [altS, ev]
  | x :: y :: r => by
    show x - (y - altS r) = (x :: ev r).sum - (ev (y :: r)).sum
    have h := alt_ev r
    cases r with
    | nil => simp [altS, ev] at h ⊢
    | cons z t =>
      show x - (y - altS (z :: t)) = (x :: ev (z :: t)).sum - (y :: ev t).sum
      rw [h]
      simp only [List.sum_cons, List.tail_cons]; omega
theorem alt_stride (xs : List Int) : (strideG xs (HT.sIx xs.length 0 none) 2).sum - (strideG xs (HT.sIx xs.length 0 (some 1)) 2).sum = altS xs := by
  rw [alt_ev]
  cases xs with
  | nil => rfl
  | cons x r =>
    rw [HT.sIx_none, show (1 : Int) = ((1 : Nat) : Int) from rfl, HT.sIx_nat, show min 1 (x :: r).length = 1 by simp, stride_ev, stride_od]; rfl
theorem stride_map {β γ : Type} (f : β → γ) (xs : List β) (i k : Nat) : strideG (xs.map f) i k = (strideG xs i k).map f := by
  unfold strideG
  rw [List.length_map, List.map_filterMap]
  refine fm_congr fun m _ => ?_
  rw [List.getElem?_map]
/-! ### chain_counts -/
def arr (qs : List (Nat × Nat)) (h : Nat → Int) (y : Nat) : Int := sm qs fun p => if p.2 = y then h p.1 else 0
def Sat (m : Nat) (qs : List (Nat × Nat)) (G : Nat → Int) : Prop := ∀ y, y < m → G y + arr qs G y = 1
structure QOk (m : Nat) (qs : List (Nat × Nat)) : Prop where
  bd : m ≤ 500
  len : qs.length ≤ 500000
  lt : ∀ p, p ∈ qs → p.1 < m ∧ p.2 < m
  lev : ∃ lev : Nat → Nat, (∀ p, p ∈ qs → lev p.1 < lev p.2) ∧ ∀ y, y < m → lev y < 1000
def sp_chain_counts : SpD := fun cs S k kx => ∃ (m : Nat) (qs : List (Nat × Nat)), cs = [.d (ordN m qs)] ∧ S = [] ∧ QOk m qs ∧
  ∀ (counts : List Int) (S' : Sto), counts.length ≤ 1000 → (∀ G, Sat m qs G → altS counts = sm (List.range m) G) → k (.d (.tup (counts.map D.int))) S'
def rowZ (m : Nat) (e : Nat → Int) : D := .lst (fnL m fun y => .int (e y))
def rowZC (m : Nat) (e : Nat → Int) : List C := fnL m fun y => .d (.int (e y))
theorem rowZ_seq {m : Nat} {e : Nat → Int} {S : Sto} : seqOf S (.d (rowZ m e)) = some (cInts (fnL m e)) := by
  show some ((fnL m fun y => D.int (e y)).map C.d) = _
  unfold cInts; rw [fnL_map, fnL_map]
theorem sum_fn (m : Nat) (e : Nat → Int) : (fnL m e).sum = sm (List.range m) e := rfl
abbrev N_chain_counts : List Str := ["order", "counts", "ending", "longer", "x", "y"]
def W_chain_counts : TSD := sSeq (sAsg (eLst true (aNil)) (gN 1))
  (sSeq (sAsg (wBin (dMul false) (eLst false (aCons (eC (.int 1)) (aNil))) (wBin dIx (eVar 0) (eC (.int 0)))) (gN 2))
  (sSeq (sWhile (eB (wBin dGt (eCB dSumA (aCons (eVar 2) (aNil))) (eC (.int 0))))
  (sSeq (sDrop (eMt dAppend (eVar 1) (aCons (eCB dSumA (aCons (eVar 2) (aNil))) (aNil))))
  (sSeq (sAsg (wBin (dMul true) (eLst false (aCons (eC (.int 0)) (aNil))) (wBin dIx (eVar 0) (eC (.int 0)))) (gN 3))
  (sSeq (sFor (iAny (wBin dIx (eVar 0) (eC (.int 1)))) (gT 2 (gsCons (gN 4) (gsCons (gN 5) (gsNil))))
  (sSetL (wBin (dAdd false) (wBin dIx (eVar 3) (eVar 5)) (wBin dIx (eVar 2) (eVar 4))) (eVar 3) (eVar 5)))
  (sFrz 3 (sAsg (eVar 3) (gN 2)))))))
  (sRet (eCB dTuple (aCons (eVar 1) (aNil))))))
theorem len_chain_counts : ∀ cs S k kx, sp_chain_counts cs S k kx → cs.length = 1 := by
  rintro cs S k kx ⟨n, R, rfl, _⟩; rfl
theorem rd_chain_counts : ∀ cs S k kx, sp_chain_counts cs S k kx → W_chain_counts (DE k) (startE N_chain_counts cs) S := by
  rintro cs S k kx ⟨m, qs, rfl, rfl, hQ, hk⟩
  obtain ⟨lev, l1, l2⟩ := hQ.lev
  have hm := hQ.bd
  refine ⟨lez (by decide), newL_cell ?_⟩
  refine ⟨lez (by show 1 ≤ 1000000; decide), nI m, rfl, by omega, by omega, lez (by show 1 * m ≤ 1000000; omega), ?_⟩
  show newL false (List.replicate ((m : Nat) : Int).toNat [C.d (.int 1)]).flatten _ _
  rw [show (List.replicate ((m : Nat) : Int).toNat [C.d (.int 1)]).flatten = fnL m (fun y => C.d (.int ((fun _ => 1) y))) by rw [Int.toNat_natCast]; exact fnL_rep m _]
  refine newL_fn (f := fun y => .int ((fun _ => (1 : Int)) y)) ?_
  refine ⟨fun ms ρ' S' => ∃ (counts : List Int) (e : Nat → Int) (l a b : Option C), ρ' = [some (.d (ordN m qs)), some (.c 0), some (.d (rowZ m e)), l, a, b] ∧ S'.own 0 = some (.lst (cInts counts)) ∧ ms = 1000 - counts.length ∧ counts.length ≤ 1000 ∧
    (∀ y, y < m → 0 ≤ e y) ∧ (∀ y, y < m → e y ≠ 0 → counts.length ≤ lev y) ∧ ∀ G, Sat m qs G → ∃ h : Nat → Int, (∀ y, y < m → h y + arr qs h y = e y) ∧ (∀ y, y < m → e y = 0 → h y = 0) ∧
      altS counts + (if counts.length % 2 = 0 then sm (List.range m) h else - sm (List.range m) h) = sm (List.range m) G, ⟨1000, [], fun _ => 1, none, none, none, rfl, rfl, rfl, Nat.zero_le _, fun _ _ => (by show (0 : Int) ≤ 1; decide), fun _ _ _ => Nat.zero_le _, fun G hG => ⟨G, hG, fun _ _ h => absurd (show (1 : Int) = 0 from h) (by decide), ?_⟩⟩, ?_⟩
  · show (0 : Int) + sm _ G = _; omega
  · rintro ms ρ' S' ⟨counts, e, l, a, b, rfl, h0, rfl, hlen, hpos, hlev, hG⟩
    refine ⟨_, rowZ_seq, ?_⟩
    rw [sum_fn]
    show if decide ((0 : Int) < sm (List.range m) e) = true then _ else _
    have hpos' : ∀ x, x ∈ List.range m → 0 ≤ e x := fun x hx => hpos x (by simpa using hx)
    split
    · rename_i hs
      have hs := of_decide_eq_true hs
      have hlt : counts.length < 1000 := by
        have : ∃ y, y < m ∧ e y ≠ 0 := by
          refine Classical.byContradiction fun hn => ?_
          have : sm (List.range m) e = 0 := sm_zero' fun x hx => Classical.byContradiction fun q => hn ⟨x, by simpa using hx, q⟩
          omega
        obtain ⟨y, hy, he⟩ := this
        have h1 := hlev y hy he
        have h2 := l2 y hy
        omega
      have e0 : lstOf S' (.c 0) = some (cInts counts) := by simp only [lstOf]; rw [h0]
      refine ⟨⟨_, e0⟩, _, rowZ_seq, cInts counts, h0, ltz (by unfold cInts; rw [List.length_map]; omega), ?_⟩
      rw [sum_fn]
      have h0' : Sto.own (S'.set 0 (some (.lst (cInts counts ++ [.d (.int (sm (List.range m) e))])))) 0 = some (.lst (cInts (counts ++ [sm (List.range m) e]))) := by
        rw [own_set_same (own_lt h0)]; unfold cInts; rw [List.map_append]; rfl
      generalize S'.set 0 (some (.lst (cInts counts ++ [.d (.int (sm (List.range m) e))]))) = S1 at h0'
      refine ⟨lez (by show 1 ≤ 1000000; decide), nI m, rfl, by omega, by omega, lez (by show 1 * m ≤ 1000000; omega), ?_⟩
      show newL true (List.replicate ((m : Nat) : Int).toNat [C.d (.int 0)]).flatten _ _
      rw [show (List.replicate ((m : Nat) : Int).toNat [C.d (.int 0)]).flatten = rowZC m (fun _ => 0) by rw [Int.toNat_natCast]; exact fnL_rep m _]
      refine newL_cell ?_
      have hj0 : S1.length ≠ 0 := by have := own_lt h0'; omega
      refine ⟨.tup (qs.map pairN), rfl, fun i ρ' S' => ∃ a b, ρ' = [some (.d (ordN m qs)), some (.c 0), some (.d (rowZ m e)), some (.c S1.length), a, b] ∧ S'.own 0 = some (.lst (cInts (counts ++ [sm (List.range m) e]))) ∧ S'.own S1.length = some (.lst (rowZC m (arr (qs.take i) e))), ⟨a, b, rfl, ?_, ?_⟩, fun _ _ _ _ _ => trivial, ?_, ?_⟩
      · rw [own_app (own_lt h0')]; exact h0'
      · exact own_new
      · rintro i d ρ' S' hd ⟨a, b, rfl, g0, g1⟩
        obtain ⟨p, hp, rfl⟩ := at_map hd
        have hi := (List.getElem?_eq_some_iff.mp hp).1
        obtain ⟨p1, p2⟩ := hQ.lt p (List.mem_of_getElem? hp)
        have e1 : qs.take (i + 1) = qs.take i ++ [p] := by rw [List.take_succ_eq_append_getElem hi, (List.getElem?_eq_some_iff.mp hp).2]
        refine ⟨rfl, _, _, rfl, _, _, rfl, rfl, _, _, g1, fnL_atI _ p2, _, fnL_atI _ p1, _, p.2, g1, by unfold rowZC; rw [fnL_len]; exact ixN_n p2, ?_⟩
        refine ⟨_, _, rfl, ?_, ?_⟩
        · rw [own_set_ne hj0]; exact g0
        · rw [own_set_same (own_lt g1)]
          unfold rowZC
          rw [fnL_set _ _ p2]
          refine congrArg (fun z => some (Own.lst z)) (fnL_congr fun y hy => ?_)
          unfold arr
          rw [e1, sm_append, sm_cons, sm_nil]
          split
          · rename_i q; subst q; rw [if_pos rfl]
            show C.d (.int (_ + e p.1)) = _
            exact congrArg (fun z => C.d (.int z)) (by omega)
          · rename_i q
            rw [if_neg (fun z => q z.symm)]
            exact congrArg (fun z => C.d (.int z)) (by omega)
      · rintro ρ' S' ⟨a, b, rfl, g0, g1⟩
        rw [List.length_map, List.take_length] at g1
        refine ⟨S1.length, _, rowZ m (arr qs e), rfl, g1, ?_, ?_⟩
        · show (unD (rowZC m (arr qs e))).map D.lst = _
          unfold rowZC; rw [← fnL_map m (fun y => D.int (arr qs e y)) C.d, unD_map]; rfl
        · have es : subC S1.length (rowZ m (arr qs e)) (.c S1.length) = .d (rowZ m (arr qs e)) := if_pos rfl
          have es0 : subC S1.length (rowZ m (arr qs e)) (.c 0) = .c 0 := if_neg (Ne.symm hj0)
          have g0' := own_subS (d := rowZ m (arr qs e)) g0 hj0
          have hc : subO S1.length (rowZ m (arr qs e)) (.lst (cInts (counts ++ [sm (List.range m) e]))) = .lst (cInts (counts ++ [sm (List.range m) e])) := by
            show Own.lst ((cInts _).map _) = _
            unfold cInts; rw [List.map_map]; rfl
          rw [hc] at g0'
          refine ⟨1000 - (counts.length + 1), by omega, counts ++ [sm (List.range m) e], arr qs e, some (.d (rowZ m (arr qs e))), a.map (subC S1.length (rowZ m (arr qs e))), b.map (subC S1.length (rowZ m (arr qs e))), ?_, g0', ?_, ?_, ?_, ?_, ?_⟩
          · show [some (C.d (ordN m qs)), some (subC S1.length (rowZ m (arr qs e)) (.c 0)), some (subC S1.length (rowZ m (arr qs e)) (.c S1.length)), some (subC S1.length (rowZ m (arr qs e)) (.c S1.length)), _, _] = _
            rw [es, es0]
          · rw [List.length_append]; rfl
          · rw [List.length_append, List.length_singleton]; omega
          · intro y hy
            exact sm_nonneg fun p hp => by
              split
              · exact hpos p.1 (hQ.lt p hp).1
              · exact Int.le_refl _
          · intro y hy he
            rw [List.length_append, List.length_singleton]
            have : ∃ p, p ∈ qs ∧ p.2 = y ∧ e p.1 ≠ 0 := by
              refine Classical.byContradiction fun hn => he (sm_zero' fun p hp => ?_)
              split
              · rename_i q
                exact Classical.byContradiction fun z => hn ⟨p, hp, q, z⟩
              · rfl
            obtain ⟨p, hp, rfl, hz⟩ := this
            have h1 := hlev p.1 (hQ.lt p hp).1 hz
            have h2 := l1 p hp
            omega
          · intro G hGs
            obtain ⟨h, h1, h2, h3⟩ := hG G hGs
            refine ⟨arr qs h, fun y hy => ?_, fun y hy he => ?_, ?_⟩
            · unfold arr
              rw [← sm_add]
              refine sm_congr fun p hp => ?_
              split
              · exact h1 p.1 (hQ.lt p hp).1
              · rfl
            · refine sm_zero' fun p hp => ?_
              split
              · rename_i q
                have := sm_nonneg_zero (l := qs) (f := fun p : Nat × Nat => if p.2 = y then e p.1 else 0) (fun p hp => by
                  show (0 : Int) ≤ if _ then _ else _
                  split
                  · exact hpos p.1 (hQ.lt p hp).1
                  · exact Int.le_refl _) he p hp
                have this : (if p.2 = y then e p.1 else 0) = 0 := this
                rw [if_pos q] at this
                exact h2 p.1 (hQ.lt p hp).1 this
              · rfl
            · have hs2 : sm (List.range m) e = sm (List.range m) h + sm (List.range m) (arr qs h) := by
                rw [← sm_add]
                exact sm_congr fun y hy => (h1 y (by simpa using hy)).symm
              rw [altS_snoc, List.length_append, List.length_singleton, hs2]
              rw [← h3]
              split <;> split <;> omega
    · rename_i hs
      have hs : ¬ (0 : Int) < sm (List.range m) e := by simpa using hs
      have hz : sm (List.range m) e = 0 := by have := sm_nonneg hpos'; omega
      have hz' := sm_nonneg_zero hpos' hz
      have e0 : lstOf S' (.c 0) = some (cInts counts) := by simp only [lstOf]; rw [h0]
      refine ⟨cInts counts, e0, ?_⟩
      rw [cInts_eq]
      refine newT_data ?_
      refine hk counts _ hlen fun G hGs => ?_
      obtain ⟨h, h1, h2, h3⟩ := hG G hGs
      have : sm (List.range m) h = 0 := sm_zero' fun y hy => h2 y (by simpa using hy) (hz' y hy)
      rw [this] at h3
      rw [← h3]
      split <;> omega
/-! ### euler -/
def sp_euler : SpD := fun cs S k kx => ∃ (m : Nat) (qs : List (Nat × Nat)), cs = [.d (ordN m qs)] ∧ S = [] ∧ QOk m qs ∧
  ∀ (e : Int) (S' : Sto), (∀ G, Sat m qs G → e = sm (List.range m) G) → k (.d (.int e)) S'
abbrev N_euler : List Str := ["order", "counts"]
def W_euler : TSD := sSeq (sAsg (eCall sp_chain_counts (aCons (eVar 0) (aNil))) (gN 1))
  (sRet (wBin dSub (eCB dSumA (aCons (eSlK 2 (eVar 1) (oNone)) (aNil))) (eCB dSumA (aCons (eSlK 2 (eVar 1) (oSome (eC (.int 1)))) (aNil)))))
theorem len_euler : ∀ cs S k kx, sp_euler cs S k kx → cs.length = 1 := by
  rintro cs S k kx ⟨n, R, rfl, _⟩; rfl
theorem tup_ints {ns : List Int} {S : Sto} : seqOf S (.d (.tup (ns.map D.int))) = some (cInts ns) := by
  show some ((ns.map D.int).map C.d) = _
  rw [cInts_eq]
theorem rd_euler : ∀ cs S k kx, sp_euler cs S k kx → W_euler (DE k) (startE N_euler cs) S := by
  rintro cs S k kx ⟨m, qs, rfl, rfl, hQ, hk⟩
  refine ⟨.inl ⟨rfl, m, qs, rfl, rfl, hQ, fun counts S' hl hG => .inl ⟨_, rfl, ?_⟩⟩⟩
  refine ⟨strideG counts (HT.sIx counts.length 0 none) 2, ?_, strideG counts (HT.sIx counts.length 0 (some 1)) 2, ?_, ?_⟩
  · show seqOf _ (.d (.tup (strideG (counts.map D.int) (HT.sIx (counts.map D.int).length 0 none) 2))) = _
    rw [stride_map, List.length_map]; exact tup_ints
  · show seqOf _ (.d (.tup (strideG (counts.map D.int) (HT.sIx (counts.map D.int).length 0 (some 1)) 2))) = _
    rw [stride_map, List.length_map]; exact tup_ints
  refine hk _ _ fun G hGs => ?_
  rw [← hG G hGs, ← alt_stride]
/-! ### lefschetz -/
def sp_lefschetz : SpD := fun cs S k kx => ∃ (n : Nat) (qs : List (Nat × Nat)) (f : Nat → Nat), cs = [.d (ordN n qs), .d (rowT n f)] ∧ S = [] ∧ n ≤ 500 ∧ qs.length ≤ 500000 ∧ QOk ((List.range n).filter (fixB f)).length (indQ ((List.range n).filter (fixB f)) qs) ∧
  ∀ (e : Int) (S' : Sto), (∀ G, Sat ((List.range n).filter (fixB f)).length (indQ ((List.range n).filter (fixB f)) qs) G → e = sm (List.range ((List.range n).filter (fixB f)).length) G) → k (.d (.int e)) S'
abbrev N_lefschetz : List Str := ["order", "row"]
def W_lefschetz : TSD := sRet (eCall sp_euler (aCons (eCall sp_induced (aCons (eVar 0) (aCons (eCall sp_fixed_points (aCons (eVar 0) (aCons (eVar 1) (aNil)))) (aNil)))) (aNil)))
theorem len_lefschetz : ∀ cs S k kx, sp_lefschetz cs S k kx → cs.length = 2 := by
  rintro cs S k kx ⟨n, R, f, rfl, _⟩; rfl
theorem rd_lefschetz : ∀ cs S k kx, sp_lefschetz cs S k kx → W_lefschetz (DE k) (startE N_lefschetz cs) S := by
  rintro cs S k kx ⟨n, qs, f, rfl, rfl, hn, hq, hQ, hk⟩
  refine ⟨.inl ⟨rfl, n, qs, f, rfl, rfl, hn, fun S' => .inl ⟨_, rfl, ?_⟩⟩⟩
  refine ⟨.inl ⟨rfl, n, qs, _, rfl, rfl, List.Nodup.sublist List.filter_sublist List.nodup_range, ?_, hq, fun S' => .inl ⟨_, rfl, ?_⟩⟩⟩
  · refine Nat.le_trans (List.length_filter_le _ _) ?_
    rw [List.length_range]; exact hn
  · exact ⟨.inl ⟨rfl, _, _, rfl, rfl, hQ, fun e S' h => .inl ⟨_, rfl, hk e _ h⟩⟩⟩
end PL

/-! bits of whole numbers from nought -/
namespace PL
open PySem PySem.Spec
def bitsL (M m : Nat) : List Nat := (List.range m).filter M.testBit
theorem filter_first {p p' : Nat → Bool} {k : Nat} (hk : p k = true) (h0 : ∀ i, i < k → p i = false) (h1 : ∀ i, k < i → p' i = p i) (h2 : p' k = false) (h3 : ∀ i, i < k → p' i = false) : ∀ m, k < m → (List.range m).filter p = k :: (List.range m).filter p'
  | 0, h => by omega
  | m + 1, h => by
    rw [List.range_succ, List.filter_append, List.filter_append]
    by_cases e : k = m
    · subst e
      have a1 : (List.range k).filter p = [] := List.filter_eq_nil_iff.mpr fun i hi => by rw [h0 i (by simpa using hi)]; decide
      have a2 : (List.range k).filter p' = [] := List.filter_eq_nil_iff.mpr fun i hi => by rw [h3 i (by simpa using hi)]; decide
      rw [a1, a2]; simp [hk, h2]
    · rw [filter_first hk h0 h1 h2 h3 m (by omega)]
      have : [m].filter p' = [m].filter p := by simp [List.filter_cons, h1 m (by omega)]
      rw [this]; rfl
theorem odd_part : ∀ M : Nat, M ≠ 0 → ∃ k a, M = 2 ^ k * (2 * a + 1)
  | M, h => by
    by_cases e : M % 2 = 1
    · exact ⟨0, M / 2, by omega⟩
    · obtain ⟨k, a, h2⟩ := odd_part (M / 2) (by omega)
      refine ⟨k + 1, a, ?_⟩
      have : 2 ^ (k + 1) * (2 * a + 1) = 2 * (2 ^ k * (2 * a + 1)) := by rw [Nat.pow_succ, Nat.mul_comm (2 ^ k) 2, Nat.mul_assoc]
      rw [this, ← h2]; omega
termination_by M => M
theorem tb_mul (k x i : Nat) : (2 ^ k * x).testBit i = (decide (k ≤ i) && x.testBit (i - k)) := by
  rw [Nat.testBit_two_pow_mul]
theorem low_bits {M m : Nat} (h0 : M ≠ 0) (hM : M < 2 ^ m) : ∃ k M' : Nat, k < m ∧ Builtin.bitAnd (M : Int) (-(M : Int)) = ((2 ^ k : Nat) : Int) ∧ Builtin.bitXor (M : Int) ((2 ^ k : Nat) : Int) = (M' : Int) ∧ M' < M ∧ bitsL M m = k :: bitsL M' m := by
  obtain ⟨k, a, rfl⟩ := odd_part M h0
  have hp : 0 < 2 ^ k := Nat.pos_of_ne_zero (by simp)
  have hkm : k < m := by
    refine Classical.byContradiction fun hn => ?_
    have h1 : 2 ^ m ≤ 2 ^ k := Nat.pow_le_pow_right (by decide) (by omega)
    have h2 : 2 ^ k * 1 ≤ 2 ^ k * (2 * a + 1) := Nat.mul_le_mul_left _ (by omega)
    omega
  have ec : ((2 ^ k * (2 * a + 1) : Nat) : Int) = 2 ^ k * (2 * (a : Int) + 1) := by
    rw [Int.natCast_mul, PySem.W.kbt_cast]; rfl
  have e3 : (2 : Int) ^ k * (2 * (a : Int) + 1) = 2 ^ k * (2 * a) + 2 ^ k := by rw [Int.mul_add, Int.mul_one]
  refine ⟨k, 2 ^ k * (2 * a), hkm, ?_, ?_, ?_, ?_⟩
  · rw [ec, PySem.W.kbt_low, PySem.W.kbt_cast]
  · rw [ec, PyProof.Rows.bitXor_and, PySem.W.kbt_cast, PySem.W.kbt_bit]
    have hp' : (0 : Int) < 2 ^ k := PySem.W.kbt_pos k
    rw [Int.mul_ediv_cancel_left _ (by omega)]
    have : (2 * (a : Int) + 1) % 2 = 1 := by omega
    rw [this, Int.one_mul, e3]
    have e4 : ((2 ^ k * (2 * a) : Nat) : Int) = 2 ^ k * (2 * (a : Int)) := by rw [Int.natCast_mul, PySem.W.kbt_cast]; rfl
    rw [e4]; omega
  · rw [Nat.mul_add, Nat.mul_one]; omega
  · unfold bitsL
    refine filter_first ?_ ?_ ?_ ?_ ?_ m hkm
    · rw [tb_mul, Nat.sub_self]; simp
    · intro i hi; rw [tb_mul, decide_eq_false (by omega)]; rfl
    · intro i hi
      rw [tb_mul, tb_mul]
      obtain ⟨j, rfl⟩ : ∃ j, i = k + (j + 1) := ⟨i - k - 1, by omega⟩
      have : k + (j + 1) - k = j + 1 := by omega
      rw [this, Nat.testBit_succ, Nat.testBit_succ]
      have e1 : (2 * a) / 2 = a := by omega
      have e2 : (2 * a + 1) / 2 = a := by omega
      rw [e1, e2]
    · rw [tb_mul, Nat.sub_self]; simp
    · intro i hi; rw [tb_mul, decide_eq_false (by omega)]; rfl
theorem bits_pow (k : Nat) : Builtin.Int.intBits ((2 ^ k : Nat) : Int) = k + 1 := by
  unfold Builtin.Int.intBits
  have hp : 0 < 2 ^ k := Nat.pos_of_ne_zero (by simp)
  rw [if_neg (fun h => by rw [beq_iff_eq] at h; omega), Int.natAbs_natCast, Nat.log2_two_pow]
theorem bitOr_nat (a b : Nat) : Builtin.bitOr (a : Int) (b : Int) = ((a ||| b : Nat) : Int) := by
  rw [L2.bitOr_nn (Int.natCast_nonneg a) (Int.natCast_nonneg b), Int.toNat_natCast, Int.toNat_natCast]
theorem bitAnd_nat (a b : Nat) : Builtin.bitAnd (a : Int) (b : Int) = ((a &&& b : Nat) : Int) := PySem.W.os_band a b
theorem or_pow_lt {a k m : Nat} (h : a < 2 ^ m) (hk : k < m) : a ||| 2 ^ k < 2 ^ m := Nat.or_lt_two_pow h (Nat.pow_lt_pow_right (by decide) hk)
theorem tb_or_pow (a k i : Nat) : (a ||| 2 ^ k).testBit i = (a.testBit i || decide (k = i)) := by
  rw [Nat.testBit_or, Nat.testBit_two_pow]
theorem bitsL_nil (m : Nat) : bitsL 0 m = [] := by unfold bitsL; exact List.filter_eq_nil_iff.mpr fun i _ => by simp
end PL

/-! plain mathematics: renaming, fixed parts -/
namespace PL
open PySem PySem.Spec L2
open PyProof.Rows hiding St
structure Ren (n : Nat) (π : Nat → Nat) : Prop where
  p : (fnL n π).Perm (List.range n)
section
variable {n : Nat} {π : Nat → Nat} (h : Ren n π)
theorem Ren.lt (h : Ren n π) {x : Nat} (hx : x < n) : π x < n := by
  have : π x ∈ fnL n π := fnL_mem.mpr ⟨x, hx, rfl⟩
  simpa using h.p.mem_iff.mp this
theorem Ren.nd (h : Ren n π) : (fnL n π).Nodup := h.p.nodup_iff.mpr List.nodup_range
theorem Ren.inj (h : Ren n π) {x y : Nat} (hx : x < n) (hy : y < n) (e : π x = π y) : x = y := by
  have h1 : x < (fnL n π).length := by rw [fnL_len]; exact hx
  have h2 : y < (fnL n π).length := by rw [fnL_len]; exact hy
  exact (List.getElem_inj h.nd (h₀ := h1) (h₁ := h2)).mp (by rw [fnL_get _ h1, fnL_get _ h2]; exact e)
theorem Ren.surj (h : Ren n π) {y : Nat} (hy : y < n) : ∃ x, x < n ∧ π x = y := fnL_mem.mp (h.p.mem_iff.mpr (by simpa using hy))
def invP (n : Nat) (π : Nat → Nat) (y : Nat) : Nat := (fnL n π).idxOf y
theorem Ren.inv (h : Ren n π) {x : Nat} (hx : x < n) : invP n π (π x) = x := by
  have := List.Nodup.idxOf_getElem h.nd x (by rw [fnL_len]; exact hx)
  rw [fnL_get _ (by rw [fnL_len]; exact hx)] at this
  exact this
theorem Ren.sm (h : Ren n π) (H : Nat → Int) : sm (List.range n) H = PL.sm (List.range n) (fun a => H (π a)) := by
  rw [← sm_perm h.p]
  unfold fnL
  rw [sm_map]
end
theorem arr_told {n : Nat} {R : Nat → Nat → Bool} {π : Nat → Nat} {qs : List (Nat × Nat)} (h : Ren n π) (hq : qs.Perm (toldL n R π n)) (H : Nat → Int) {x : Nat} (hx : x < n) :
    sm qs (fun p => if p.2 = π x then H p.1 else 0) = sm (List.range n) (fun a => if R a x = true then H (π a) else 0) := by
  rw [sm_perm hq]
  unfold toldL
  rw [sm_flatMap]
  refine sm_congr fun a _ => ?_
  unfold toldX
  rw [sm_map, sm_filter]
  have : sm (List.range n) (fun b => if R a b = true then (if π b = π x then H (π a) else 0) else 0) = sm (List.range n) (fun b => if b = x then (if R a b = true then H (π a) else 0) else 0) := by
    refine sm_congr fun b hb => ?_
    have hb : b < n := by simpa using hb
    by_cases e : b = x
    · subst e; simp
    · rw [if_neg e, if_neg (fun q => e (h.inj hb hx q))]; simp
  refine this.trans ?_
  rw [sm_if_eq List.nodup_range, if_pos (by simpa using hx)]
theorem mem_told {n : Nat} {R : Nat → Nat → Bool} {π : Nat → Nat} {qs : List (Nat × Nat)} (hq : qs.Perm (toldL n R π n)) {p : Nat × Nat} (hp : p ∈ qs) : ∃ a b, a < n ∧ b < n ∧ R a b = true ∧ p = (π a, π b) := by
  have := hq.mem_iff.mp hp
  unfold toldL at this
  obtain ⟨a, ha, this⟩ := List.mem_flatMap.mp this
  unfold toldX at this
  obtain ⟨b, hb, rfl⟩ := List.mem_map.mp this
  rw [List.mem_filter] at hb
  exact ⟨a, b, by simpa using ha, by simpa using hb.1, hb.2, rfl⟩
theorem told_len {n : Nat} {R : Nat → Nat → Bool} {π : Nat → Nat} {qs : List (Nat × Nat)} (hq : qs.Perm (toldL n R π n)) (hn : n ≤ 500) : qs.length ≤ 500000 := by
  rw [hq.length_eq]
  refine Nat.le_trans (toldL_len n R π n) ?_
  have : n * n ≤ 500 * 500 := Nat.mul_le_mul hn hn
  omega
theorem eul_ok {n : Nat} {R : Nat → Nat → Bool} {π : Nat → Nat} {qs : List (Nat × Nat)} (h : Ren n π) (hn : n ≤ 500) (hR : OrdR n R) (hq : qs.Perm (toldL n R π n)) : QOk n qs := by
  refine ⟨hn, told_len hq hn, fun p hp => ?_, invP n π, fun p hp => ?_, fun y hy => ?_⟩
  · obtain ⟨a, b, ha, hb, _, rfl⟩ := mem_told hq hp; exact ⟨h.lt ha, h.lt hb⟩
  · obtain ⟨a, b, ha, hb, hab, rfl⟩ := mem_told hq hp
    show invP n π (π a) < invP n π (π b)
    rw [h.inv ha, h.inv hb]; exact hR.lt a b ha hb hab
  · obtain ⟨x, hx, rfl⟩ := h.surj hy
    rw [h.inv hx]; omega
theorem eul_sat {n : Nat} {R : Nat → Nat → Bool} {π : Nat → Nat} {qs : List (Nat × Nat)} {fix : Nat → Bool} {total : Int} (h : Ren n π) (hq : qs.Perm (toldL n R π n)) (hf : ∀ x, x < n → fix x = true) (hT : Tot n R fix total) :
    ∃ G, Sat n qs G ∧ sm (List.range n) G = total := by
  obtain ⟨g, g1, g2, rfl⟩ := hT
  refine ⟨fun y => g (invP n π y), fun y hy => ?_, ?_⟩
  · obtain ⟨x, hx, rfl⟩ := h.surj hy
    unfold arr
    rw [arr_told h hq (fun y => g (invP n π y)) hx]
    show g (invP n π (π x)) + sm _ (fun a => if R a x = true then g (invP n π (π a)) else 0) = 1
    rw [h.inv hx]
    have : sm (List.range n) (fun a => if R a x = true then g (invP n π (π a)) else 0) = sm (List.range n) (fun a => if R a x = true then g a else 0) := sm_congr fun a ha => by rw [h.inv (by simpa using ha)]
    rw [this]; exact g1 x hx (hf x hx)
  · rw [h.sm]
    exact sm_congr fun a ha => by rw [h.inv (by simpa using ha)]
section
variable {n : Nat} {R : Nat → Nat → Bool} {π r f : Nat → Nat} {qs : List (Nat × Nat)} {total : Int}
theorem fix_iff (h : Ren n π) (hr : ∀ x, x < n → r x < n) (hf : ∀ x, x < n → f (π x) = π (r x)) {x : Nat} (hx : x < n) : fixB f (π x) = fixB r x := by
  unfold fixB
  rw [hf x hx]
  by_cases e : r x = x
  · rw [e]; simp
  · rw [decide_eq_false (fun q => e (h.inj (hr x hx) hx (by omega))), decide_eq_false (fun q => e (by omega))]
theorem lef_ok (h : Ren n π) (hn : n ≤ 500) (hR : OrdR n R) (hq : qs.Perm (toldL n R π n)) : QOk ((List.range n).filter (fixB f)).length (indQ ((List.range n).filter (fixB f)) qs) := by
  have hm : ((List.range n).filter (fixB f)).length ≤ n := by refine Nat.le_trans (List.length_filter_le _ _) ?_; simp
  have hlt : ∀ x, x ∈ (List.range n).filter (fixB f) → x < n := fun x hx => by simpa using (List.mem_filter.mp hx).1
  generalize (List.range n).filter (fixB f) = F at hm hlt
  have E := eul_ok h hn hR hq
  have key : ∀ p, p ∈ indQ F qs → ∃ q, q ∈ qs ∧ q.1 ∈ F ∧ q.2 ∈ F ∧ p = (F.idxOf q.1, F.idxOf q.2) := fun p hp => by
    unfold indQ at hp
    obtain ⟨q, hq, rfl⟩ := List.mem_map.mp hp
    rw [List.mem_filter, Bool.and_eq_true, List.contains_iff_mem, List.contains_iff_mem] at hq
    exact ⟨q, hq.1, hq.2.1, hq.2.2, rfl⟩
  have gt : ∀ x, x ∈ F → F.getD (F.idxOf x) 0 = x := fun x hx => by
    have := List.idxOf_lt_length_of_mem hx
    rw [List.getD_eq_getElem?_getD, List.getElem?_eq_getElem this, Option.getD_some, List.getElem_idxOf]
  refine ⟨by omega, ?_, fun p hp => ?_, fun i => invP n π (F.getD i 0), fun p hp => ?_, fun y hy => ?_⟩
  · unfold indQ
    rw [List.length_map]
    exact Nat.le_trans (List.length_filter_le _ _) E.len
  · obtain ⟨q, _, h1, h2, rfl⟩ := key p hp
    exact ⟨List.idxOf_lt_length_of_mem h1, List.idxOf_lt_length_of_mem h2⟩
  · obtain ⟨q, hq1, h1, h2, rfl⟩ := key p hp
    show invP n π (F.getD (F.idxOf q.1) 0) < invP n π (F.getD (F.idxOf q.2) 0)
    rw [gt _ h1, gt _ h2]
    obtain ⟨a, b, ha, hb, hab, rfl⟩ := mem_told hq hq1
    show invP n π (π a) < invP n π (π b)
    rw [h.inv ha, h.inv hb]; exact hR.lt a b ha hb hab
  · have : F.getD y 0 < n := by
      rw [List.getD_eq_getElem?_getD, List.getElem?_eq_getElem hy]
      exact hlt _ (List.getElem_mem hy)
    obtain ⟨x, hx, e⟩ := h.surj this
    show invP n π (F.getD y 0) < 1000
    rw [← e, h.inv hx]; omega
theorem lef_sat (h : Ren n π) (hr : ∀ x, x < n → r x < n) (hf : ∀ x, x < n → f (π x) = π (r x)) (hq : qs.Perm (toldL n R π n)) (hT : Tot n R (fixB r) total) :
    ∃ G, Sat ((List.range n).filter (fixB f)).length (indQ ((List.range n).filter (fixB f)) qs) G ∧ sm (List.range ((List.range n).filter (fixB f)).length) G = total := by
  obtain ⟨g, g1, g2, rfl⟩ := hT
  have hnd : ((List.range n).filter (fixB f)).Nodup := List.Nodup.sublist List.filter_sublist List.nodup_range
  have hmF : ∀ a, a < n → (π a ∈ (List.range n).filter (fixB f) ↔ fixB r a = true) := fun a ha => by
    rw [List.mem_filter, fix_iff h hr hf ha]; simp [h.lt ha]
  have hFn : ∀ y, y ∈ (List.range n).filter (fixB f) → y < n := fun x hx => by simpa using (List.mem_filter.mp hx).1
  have hsum : sm ((List.range n).filter (fixB f)) (fun y => g (invP n π y)) = sm (List.range n) g := by
    rw [sm_filter, h.sm]
    refine sm_congr fun a ha => ?_
    have ha : a < n := by simpa using ha
    rw [fix_iff h hr hf ha, h.inv ha]
    cases e : fixB r a with
    | true => rw [if_pos rfl]
    | false => rw [if_neg (by decide), g2 a ha e]
  generalize (List.range n).filter (fixB f) = F at hnd hmF hFn hsum
  have gt : ∀ x, x ∈ F → F.getD (F.idxOf x) 0 = x := fun x hx => by
    have := List.idxOf_lt_length_of_mem hx
    rw [List.getD_eq_getElem?_getD, List.getElem?_eq_getElem this, Option.getD_some, List.getElem_idxOf]
  refine ⟨fun i => g (invP n π (F.getD i 0)), fun j hj => ?_, ?_⟩
  · have hg : F.getD j 0 = F[j] := by rw [List.getD_eq_getElem?_getD, List.getElem?_eq_getElem hj]; rfl
    have hmem : F[j] ∈ F := List.getElem_mem hj
    obtain ⟨x, hx, e⟩ := h.surj (hFn _ hmem)
    have hfx : fixB r x = true := (hmF x hx).mp (e ▸ hmem)
    unfold arr indQ
    rw [sm_map, sm_filter]
    have e1 : sm qs (fun p => if (F.contains p.1 && F.contains p.2) = true then (if F.idxOf p.2 = j then g (invP n π (F.getD (F.idxOf p.1) 0)) else 0) else 0) = sm qs (fun p => if p.2 = π x then (fun z => if z ∈ F then g (invP n π z) else 0) p.1 else 0) := by
      refine sm_congr fun p hp => ?_
      show _ = if p.2 = π x then (if p.1 ∈ F then g (invP n π p.1) else 0) else 0
      by_cases q2 : p.2 = π x
      · rw [if_pos q2]
        have hi : F.idxOf p.2 = j := by rw [q2, e]; exact List.Nodup.idxOf_getElem hnd j hj
        have hm2 : p.2 ∈ F := by rw [q2, e]; exact hmem
        rw [if_pos hi]
        by_cases q1 : p.1 ∈ F
        · rw [if_pos q1, if_pos (by simp [q1, hm2]), gt _ q1]
        · rw [if_neg q1, if_neg (by simp [q1])]
      · rw [if_neg q2]
        by_cases q1 : (F.contains p.1 && F.contains p.2) = true
        · rw [if_pos q1]
          rw [Bool.and_eq_true, List.contains_iff_mem, List.contains_iff_mem] at q1
          rw [if_neg]
          intro q3
          have := gt _ q1.2
          rw [q3, hg, ← e] at this
          exact q2 this.symm
        · rw [if_neg q1]
    have e2 := arr_told h hq (fun z => if z ∈ F then g (invP n π z) else 0) hx
    refine (congrArg (fun z => g (invP n π (F.getD j 0)) + z) (e1.trans e2)).trans ?_
    rw [hg, ← e, h.inv hx]
    have e3 : sm (List.range n) (fun a => if R a x = true then (fun z => if z ∈ F then g (invP n π z) else 0) (π a) else 0) = sm (List.range n) (fun a => if R a x = true then g a else 0) := by
      refine sm_congr fun a ha => ?_
      have ha : a < n := by simpa using ha
      show (if R a x = true then (if π a ∈ F then g (invP n π (π a)) else 0) else 0) = _
      rw [h.inv ha]
      by_cases q : π a ∈ F
      · rw [if_pos q]
      · rw [if_neg q]
        have : fixB r a = false := Bool.eq_false_iff.mpr fun z => q ((hmF a ha).mpr z)
        rw [g2 a ha this]
    rw [e3]; exact g1 x hx hfx
  · rw [← hsum]
    have : sm F (fun y => g (invP n π y)) = sm ((List.range F.length).map fun i => F.getD i 0) (fun y => g (invP n π y)) := by
      conv => lhs; rw [fnL_of F 0]
      rfl
    rw [this, sm_map]
end
/-- two ascending lists of the same things are one -/
theorem sorted_one : ∀ {xs ys : List Int}, xs.Perm ys → xs.Pairwise (· ≤ ·) → ys.Pairwise (· ≤ ·) → xs = ys
  | [], ys, h, _, _ => by exact (List.nil_perm.mp h).symm
  | x :: xs, [], h, _, _ => by have := h.length_eq; simp at this
  | x :: xs, y :: ys, h, h1, h2 => by
    obtain ⟨a1, a2⟩ := List.pairwise_cons.mp h1
    obtain ⟨b1, b2⟩ := List.pairwise_cons.mp h2
    have e : x = y := by
      have m1 : x ∈ y :: ys := h.mem_iff.mp (by simp)
      have m2 : y ∈ x :: xs := h.mem_iff.mpr (by simp)
      rcases List.mem_cons.mp m1 with e | m1
      · exact e
      · rcases List.mem_cons.mp m2 with e | m2
        · exact e.symm
        · have := a1 y m2; have := b1 x m1; omega
    subst e
    rw [sorted_one ((List.perm_cons x).mp h) a2 b2]
theorem due_eq {n : Nat} {π r f : Nat → Nat} (h : Ren n π) (hr : ∀ x, x < n → r x < n) (hf : ∀ x, x < n → f (π x) = π (r x)) {ns : List Int} (hp : ns.Perm (((List.range n).filter (fixB r)).map fun x => ((π x : Nat) : Int))) (hs : ns.Pairwise (· ≤ ·)) :
    ns.map D.int = ((List.range n).filter (fixB f)).map nI := by
  have e : ns = ((List.range n).filter (fixB f)).map Int.ofNat := by
    refine sorted_one (hp.trans ?_) hs ?_
    · have e1 : (((List.range n).filter (fixB r)).map π).Perm ((List.range n).filter (fixB f)) := by
        have e2 : ((List.range n).filter (fixB r)).map π = (fnL n π).filter (fixB f) := by
          unfold fnL
          rw [List.filter_map]
          rw [List.filter_congr (p := fixB f ∘ π) (q := fixB r) (fun x hx => fix_iff h hr hf (by simpa using hx))]
        rw [e2]
        exact h.p.filter _
      have := e1.map Int.ofNat
      rw [List.map_map] at this
      exact this
    · rw [List.pairwise_map]
      refine List.Pairwise.imp (R := (· < ·)) (fun {a b} h => by show Int.ofNat a ≤ Int.ofNat b; simp only [Int.ofNat_eq_natCast]; omega) ?_
      exact List.Pairwise.sublist List.filter_sublist List.pairwise_lt_range
  rw [e, List.map_map]; rfl
end PL

/-! plain mathematics: orders in general, counts of what is below, the signed count -/
namespace PL
open PySem PySem.Spec L2
open PyProof.Rows hiding St
structure Ord (n : Nat) (R : Nat → Nat → Bool) : Prop where
  tr : TransN n fun x y => R x y = true
  irr : ∀ x, x < n → R x x = false
theorem OrdR.ord {n : Nat} {R : Nat → Nat → Bool} (h : OrdR n R) : Ord n R := ⟨h.tr, fun x hx => by
  cases e : R x x with
  | false => rfl
  | true => exact absurd (h.lt x x hx hx e) (Nat.lt_irrefl _)⟩
theorem sub_lt {n : Nat} {p q : Nat → Bool} (h : ∀ y, y < n → p y = true → q y = true) {b : Nat} (hb : b < n) (h1 : q b = true) (h2 : p b = false) : ((List.range n).filter p).length < ((List.range n).filter q).length := by
  have hsub : (List.range n).filter p = ((List.range n).filter q).filter p := by
    rw [List.filter_filter]
    refine List.filter_congr fun y hy => ?_
    have hy : y < n := by simpa using hy
    cases e : p y with
    | false => rfl
    | true => rw [h y hy e]; rfl
  rw [hsub]
  have hm : b ∈ (List.range n).filter q := List.mem_filter.mpr ⟨by simpa using hb, h1⟩
  generalize (List.range n).filter q = l at hm
  induction l with
  | nil => simp at hm
  | cons c l ih =>
    rcases List.mem_cons.mp hm with rfl | hm
    · rw [List.filter_cons_of_neg (by rw [h2]; decide), List.length_cons]
      exact Nat.lt_succ_of_le (List.length_filter_le _ _)
    · have := ih hm
      rw [List.filter_cons, List.length_cons]
      split <;> (try simp only [List.length_cons]) <;> omega
theorem Ord.cnt {n : Nat} {R : Nat → Nat → Bool} (h : Ord n R) {a b : Nat} (ha : a < n) (hb : b < n) (hr : R b a = true) : cntB n R b < cntB n R a := by
  unfold cntB
  exact sub_lt (fun y hy e => h.tr y b a hy hb ha e hr) hb hr (h.irr b hb)
theorem cntB_le {n : Nat} {R : Nat → Nat → Bool} {x : Nat} : cntB n R x ≤ n := by unfold cntB; refine Nat.le_trans (List.length_filter_le _ _) ?_; simp
theorem eul_okG {n : Nat} {R : Nat → Nat → Bool} {π : Nat → Nat} {qs : List (Nat × Nat)} (h : Ren n π) (hn : n ≤ 500) (hR : Ord n R) (hq : qs.Perm (toldL n R π n)) : QOk n qs := by
  refine ⟨hn, told_len hq hn, fun p hp => ?_, fun y => cntB n R (invP n π y), fun p hp => ?_, fun y hy => ?_⟩
  · obtain ⟨a, b, ha, hb, _, rfl⟩ := mem_told hq hp; exact ⟨h.lt ha, h.lt hb⟩
  · obtain ⟨a, b, ha, hb, hab, rfl⟩ := mem_told hq hp
    show cntB n R (invP n π (π a)) < cntB n R (invP n π (π b))
    rw [h.inv ha, h.inv hb]; exact hR.cnt hb ha hab
  · have := cntB_le (n := n) (R := R) (x := invP n π y)
    show cntB n R (invP n π y) < 1000; omega
/-- the signed count, told by any function that solves its equations -/
def Chi (n : Nat) (R : Nat → Nat → Bool) (e : Int) : Prop := ∃ g : Nat → Int,
  (∀ x, x < n → g x + sm (List.range n) (fun y => if R y x = true then g y else 0) = 1) ∧ e = sm (List.range n) g
theorem Chi.tot {n : Nat} {R : Nat → Nat → Bool} {e : Int} (h : Chi n R e) : Tot n R (fun _ => true) e := by
  obtain ⟨g, h1, h2⟩ := h
  exact ⟨g, fun x hx _ => h1 x hx, fun x _ h => Bool.noConfusion h, h2⟩
theorem call_eulG {n : Nat} {R : Nat → Nat → Bool} {π : Nat → Nat} {qs : List (Nat × Nat)} {total : Int} {ρ : Env} {S : Sto} {k : C → Sto → Prop} {kx : KX} (h : Ren n π) (hn : n ≤ 500) (hR : Ord n R) (hq : qs.Perm (toldL n R π n)) (hT : Chi n R total)
    (hk : k (.d (.int total)) S) : callD sp_euler [.d (ordN n qs)] ρ S k kx :=
  ⟨.inl ⟨rfl, n, qs, rfl, rfl, eul_okG h hn hR hq, fun e _ he => .inl ⟨_, rfl, by
    obtain ⟨G, g1, g2⟩ := eul_sat h hq (fun _ _ => rfl) hT.tot
    rw [he G g1, g2]; exact hk⟩⟩⟩
theorem sm_range_succ (n : Nat) (f : Nat → Int) : sm (List.range (n + 1)) f = sm (List.range n) f + f n := by
  rw [List.range_succ, sm_append, sm_cons, sm_nil]; omega
theorem sm_range_add (n m : Nat) (f : Nat → Int) : sm (List.range (n + m)) f = sm (List.range n) f + sm (List.range m) (fun i => f (n + i)) := by
  induction m with
  | zero => simp [sm_nil, sm]
  | succ m ih => rw [← Nat.add_assoc, sm_range_succ, ih, sm_range_succ]; omega
/-! ### one point more -/
def wpR (n : Nat) (R : Nat → Nat → Bool) (us vs : List Nat) : Nat → Nat → Bool := fun i j => if i < n then (if j < n then R i j else decide (i ∈ us)) else (if j < n then decide (j ∈ vs) else false)
section
variable {n : Nat} {R : Nat → Nat → Bool} {us vs : List Nat}
theorem wp_bb {i j : Nat} (hi : i < n) (hj : j < n) : wpR n R us vs i j = R i j := by unfold wpR; rw [if_pos hi, if_pos hj]
theorem wp_bn {i : Nat} (hi : i < n) : wpR n R us vs i n = decide (i ∈ us) := by unfold wpR; rw [if_pos hi, if_neg (Nat.lt_irrefl _)]
theorem wp_nb {j : Nat} (hj : j < n) : wpR n R us vs n j = decide (j ∈ vs) := by unfold wpR; rw [if_neg (Nat.lt_irrefl _), if_pos hj]
theorem wp_nn : wpR n R us vs n n = false := by unfold wpR; rw [if_neg (Nat.lt_irrefl _), if_neg (Nat.lt_irrefl _)]
/-- what makes an order of the longer table -/
theorem wp_ord (h : Ord n R) (hd : ∀ a b, a < n → b < n → R a b = true → b ∈ us → a ∈ us) (hu : ∀ a b, a < n → b < n → R a b = true → a ∈ vs → b ∈ vs) (hx : ∀ a b, a < n → b < n → a ∈ us → b ∈ vs → R a b = true) : Ord (n + 1) (wpR n R us vs) := by
  have cs : ∀ x, x < n + 1 → x < n ∨ x = n := fun x hx => by omega
  refine ⟨fun a b c ha hb hc h1 h2 => ?_, fun x hx' => ?_⟩
  · change wpR n R us vs a b = true at h1
    change wpR n R us vs b c = true at h2
    show wpR n R us vs a c = true
    rcases cs a ha with ha | rfl
    · rcases cs b hb with hb | rfl
      · rw [wp_bb ha hb] at h1
        rcases cs c hc with hc | rfl
        · rw [wp_bb hb hc] at h2; rw [wp_bb ha hc]; exact h.tr a b c ha hb hc h1 h2
        · rw [wp_bn hb] at h2; rw [wp_bn ha]; exact decide_eq_true (hd a b ha hb h1 (of_decide_eq_true h2))
      · rw [wp_bn ha] at h1
        rcases cs c hc with hc | rfl
        · rw [wp_nb hc] at h2; rw [wp_bb ha hc]; exact hx a c ha hc (of_decide_eq_true h1) (of_decide_eq_true h2)
        · rw [wp_nn] at h2; cases h2
    · rcases cs b hb with hb | rfl
      · rw [wp_nb hb] at h1
        rcases cs c hc with hc | rfl
        · rw [wp_bb hb hc] at h2; rw [wp_nb hc]; exact decide_eq_true (hu b c hb hc h2 (of_decide_eq_true h1))
        · rw [wp_bn hb] at h2
          have q := hx b b hb hb (of_decide_eq_true h2) (of_decide_eq_true h1)
          rw [h.irr b hb] at q; cases q
      · rw [wp_nn] at h1; cases h1
  · rcases cs x hx' with hx' | rfl
    · rw [wp_bb hx' hx']; exact h.irr x hx'
    · exact wp_nn
theorem sm_lt_congr {n : Nat} {f g : Nat → Int} (h : ∀ x, x < n → f x = g x) : sm (List.range n) f = sm (List.range n) g := sm_congr fun x hx => h x (by simpa using hx)
/-- a point put in just above q (all that is at most q is below it) changes nothing -/
theorem wp_chi_up {e : Int} (h : Ord n R) {q : Nat} (hq : q < n) (hus : ∀ y, y < n → (y ∈ us ↔ R y q = true ∨ y = q)) (hc : Chi n R e) : Chi (n + 1) (wpR n R us vs) e := by
  obtain ⟨g, g1, rfl⟩ := hc
  obtain ⟨G, gn, go⟩ : ∃ G : Nat → Int, G n = 0 ∧ ∀ y, y < n → G y = g y := ⟨fun y => if y = n then 0 else g y, if_pos rfl, fun y hy => if_neg (by omega)⟩
  refine ⟨G, fun x hx => ?_, ?_⟩
  · rw [sm_range_succ]
    rcases (by omega : x < n ∨ x = n) with hx | rfl
    · rw [go x hx, gn]
      have : sm (List.range n) (fun y => if wpR n R us vs y x = true then G y else 0) = sm (List.range n) (fun y => if R y x = true then g y else 0) := sm_lt_congr fun y hy => by rw [wp_bb hy hx, go y hy]
      rw [this]
      have := g1 x hx
      split <;> omega
    · rw [wp_nn, gn]
      have e1 : sm (List.range x) (fun y => if wpR x R us vs y x = true then G y else 0) = sm (List.range x) (fun y => (if R y q = true then g y else 0) + (if y = q then g y else 0)) := by
        refine sm_lt_congr fun y hy => ?_
        rw [wp_bn hy, go y hy]
        by_cases e1 : y = q
        · subst e1
          rw [if_pos (decide_eq_true ((hus y hy).mpr (.inr rfl))), h.irr y hy]; simp
        · by_cases e2 : R y q = true
          · rw [if_pos (decide_eq_true ((hus y hy).mpr (.inl e2))), if_pos e2, if_neg e1]; omega
          · rw [if_neg (by intro z; rcases (hus y hy).mp (of_decide_eq_true z) with z | z; exact e2 z; exact e1 z), if_neg e2, if_neg e1]; rfl
      rw [e1, sm_add, sm_if_eq List.nodup_range, if_pos (by simpa using hq)]
      have := g1 q hq
      simp only [Bool.false_eq_true, if_false]; omega
  · rw [sm_range_succ, gn, sm_lt_congr go]; omega
/-- a point put in just below q (all that is at least q is above it) changes nothing -/
theorem wp_chi_down {e : Int} (h : Ord n R) {q : Nat} (hq : q < n) (hvs : ∀ y, y < n → (y ∈ vs ↔ R q y = true ∨ y = q)) (hus : ∀ y, y < n → y ∈ us → R y q = true) (hc : Chi n R e) : Chi (n + 1) (wpR n R us vs) e := by
  obtain ⟨g, g1, rfl⟩ := hc
  let c : Int := 1 - sm (List.range n) (fun y => if y ∈ us then g y else 0)
  let g' : Nat → Int := fun y => if y = n then c else if y = q then g q - c else g y
  have gn : g' n = c := if_pos rfl
  have gq : g' q = g q - c := by show (if q = n then c else _) = _; rw [if_neg (by omega), if_pos rfl]
  have go : ∀ y, y < n → y ≠ q → g' y = g y := fun y hy hne => by show (if y = n then c else _) = _; rw [if_neg (by omega), if_neg hne]
  have gd : ∀ y, y < n → g' y = g y - (if y = q then c else 0) := fun y hy => by
    by_cases e : y = q
    · subst e; rw [gq, if_pos rfl]
    · rw [go y hy e, if_neg e]; omega
  have sub : ∀ p : Nat → Bool, sm (List.range n) (fun y => if p y = true then g' y else 0) = sm (List.range n) (fun y => if p y = true then g y else 0) - (if p q = true then c else 0) := fun p => by
    have : sm (List.range n) (fun y => if p y = true then g' y else 0) = sm (List.range n) (fun y => (if p y = true then g y else 0) + (if y = q then (if p y = true then -c else 0) else 0)) := by
      refine sm_lt_congr fun y hy => ?_
      rw [gd y hy]
      by_cases e : y = q
      · subst e; simp; split <;> omega
      · simp [e]
    rw [this, sm_add, sm_if_eq List.nodup_range, if_pos (by simpa using hq)]
    split <;> omega
  refine ⟨g', fun x hx => ?_, ?_⟩
  · rw [sm_range_succ]
    rcases (by omega : x < n ∨ x = n) with hx | rfl
    · have e1 : sm (List.range n) (fun y => if wpR n R us vs y x = true then g' y else 0) = sm (List.range n) (fun y => if R y x = true then g' y else 0) := sm_lt_congr fun y hy => by rw [wp_bb hy hx]
      rw [e1, sub, wp_nb hx, gn, gd x hx]
      have := g1 x hx
      by_cases e : x = q
      · subst e
        rw [if_pos rfl, h.irr x hx, if_pos (decide_eq_true ((hvs x hx).mpr (.inr rfl)))]
        simp; omega
      · rw [if_neg e]
        by_cases e2 : R q x = true
        · rw [if_pos e2, if_pos (decide_eq_true ((hvs x hx).mpr (.inl e2)))]; omega
        · rw [if_neg e2, if_neg (by intro z; rcases (hvs x hx).mp (of_decide_eq_true z) with z | z; exact e2 z; exact e z)]; omega
    · rw [wp_nn, gn]
      have e1 : sm (List.range x) (fun y => if wpR x R us vs y x = true then g' y else 0) = sm (List.range x) (fun y => if y ∈ us then g y else 0) := by
        refine sm_lt_congr fun y hy => ?_
        rw [wp_bn hy]
        by_cases e : y ∈ us
        · have hne : y ≠ q := fun z => by
            have := hus y hy e
            rw [z, h.irr q hq] at this; cases this
          rw [if_pos (decide_eq_true e), if_pos e, go y hy hne]
        · rw [if_neg (by simpa using e), if_neg e]
      rw [e1]
      show c + (_ + (if false = true then c else 0)) = 1
      simp only [Bool.false_eq_true, if_false]
      show (1 - sm (List.range x) (fun y => if y ∈ us then g y else 0)) + (sm (List.range x) (fun y => if y ∈ us then g y else 0) + 0) = 1
      omega
  · rw [sm_range_succ, gn]
    have := sub (fun _ => true)
    simp only [if_true] at this
    have e0 : sm (List.range n) g' = sm (List.range n) (fun y => g' y) := rfl
    have e9 : sm (List.range n) (fun y => g y) = sm (List.range n) g := rfl
    rw [e0, this, e9]; omega
end
end PL

namespace PL
open PySem PySem.Spec L2
open PyProof.Rows hiding St
/-! ### places of a mask -/
def natsL (xs : List Nat) : D := .lst (xs.map nI)
def natsC (xs : List Nat) : List C := (xs.map nI).map C.d
def sp_places_of : SpD := fun cs S k kx => ∃ (M m : Nat), cs = [.d (nI M)] ∧ S = [] ∧ M < 2 ^ m ∧ m ≤ 1000 ∧ ∀ S', k (.d (natsL (bitsL M m))) S'
abbrev N_places_of : List Str := ["mask", "found", "one"]
def W_places_of : TSD := sSeq (sAsg (eLst true (aNil)) (gN 1))
  (sSeq (sWhile (eTru (eVar 0))
  (sSeq (sAsg (wBin dAnd (eVar 0) (wUn dNeg (eVar 0))) (gN 2))
  (sSeq (sDrop (eMt dAppend (eVar 1) (aCons (wBin dSub (eBits (eVar 2)) (eC (.int 1))) (aNil))))
  (sAsg (wBin dXor (eVar 0) (eVar 2)) (gN 0)))))
  (sFrz 1 (sRet (eVar 1))))
theorem len_places_of : ∀ cs S k kx, sp_places_of cs S k kx → cs.length = 1 := by
  rintro cs S k kx ⟨n, m, rfl, _⟩; rfl
theorem rd_places_of : ∀ cs S k kx, sp_places_of cs S k kx → W_places_of (DE k) (startE N_places_of cs) S := by
  rintro cs S k kx ⟨M, m, rfl, rfl, hM, hm, hk⟩
  refine ⟨lez (by decide), newL_cell ?_⟩
  have hbl : ∀ M, (bitsL M m).length ≤ m := fun M => by unfold bitsL; refine Nat.le_trans (List.length_filter_le _ _) ?_; simp
  refine ⟨fun ms ρ' S' => ∃ (Q : Nat) (pre : List Nat) (x : Option C), ms = Q ∧ ρ' = [some (.d (nI Q)), some (.c 0), x] ∧ S' = [some (.lst (natsC pre))] ∧ Q < 2 ^ m ∧ pre ++ bitsL Q m = bitsL M m, ⟨M, M, [], none, rfl, rfl, rfl, hM, rfl⟩, ?_⟩
  rintro ms ρ' S' ⟨Q, pre, x, rfl, rfl, rfl, hQ, hp⟩
  refine ⟨_, rfl, ?_⟩
  show if ((ms : Int) != 0) = true then _ else _
  split
  · rename_i h0
    have h0 : ms ≠ 0 := fun e => by rw [e] at h0; exact absurd h0 (by decide)
    obtain ⟨k', Q', hk', e1, e2, hlt, e3⟩ := low_bits h0 hQ
    have hpl : pre.length + 1 ≤ m := by
      have h1 := congrArg List.length hp
      rw [e3, List.length_append, List.length_cons] at h1
      have := hbl M; omega
    refine ⟨⟨_, rfl⟩, natsC pre, rfl, ltz (by unfold natsC; simp only [List.length_map]; omega), ?_⟩
    refine ⟨Q', hlt, Q', pre ++ [k'], some (.d (.int (Builtin.bitAnd (ms : Int) (-(ms : Int))))), rfl, ?_, ?_, by omega, ?_⟩
    · show [some (C.d (.int (Builtin.bitXor (ms : Int) (Builtin.bitAnd (ms : Int) (-(ms : Int)))))), some (.c 0), some (C.d (.int (Builtin.bitAnd (ms : Int) (-(ms : Int)))))] = _
      rw [e1, e2]
    · show [some (Own.lst (natsC pre ++ [.d (.int ((Builtin.Int.intBits (Builtin.bitAnd (ms : Int) (-(ms : Int))) : Nat) - (1 : Int)))]))] = _
      rw [e1, bits_pow, show (((k' + 1 : Nat) : Int) - 1) = (k' : Int) by omega]
      unfold natsC; rw [List.map_append, List.map_append]; rfl
    · rw [List.append_assoc, ← hp, e3]; rfl
  · rename_i h0
    have h0 : ms = 0 := by simpa using h0
    subst h0
    rw [bitsL_nil, List.append_nil] at hp
    subst hp
    refine ⟨0, _, natsL (bitsL M m), rfl, rfl, (by show (unD (natsC (bitsL M m))).map D.lst = _; unfold natsC; rw [unD_map]; rfl), ?_⟩
    exact hk _
theorem call_places {M m : Nat} {ρ : Env} {S : Sto} {k : C → Sto → Prop} {kx : KX} (hM : M < 2 ^ m) (hm : m ≤ 1000) (hk : k (.d (natsL (bitsL M m))) S) : callD sp_places_of [.d (nI M)] ρ S k kx :=
  ⟨.inl ⟨rfl, M, m, rfl, rfl, hM, hm, fun _ => .inl ⟨_, rfl, hk⟩⟩⟩
/-! ### masks of what is at most, at least -/
structure Msk (m : Nat) (f : Nat → Nat) (p : Nat → Nat → Bool) : Prop where
  lt : ∀ y, y < m → f y < 2 ^ m
  tb : ∀ y x, y < m → x < m → (f y).testBit x = p y x
def sp_bound_masks : SpD := fun cs S k kx => ∃ (m : Nat) (qs : List (Nat × Nat)), cs = [.d (ordN m qs)] ∧ S = [] ∧ m ≤ 1000 ∧ (∀ p, p ∈ qs → p.1 < m ∧ p.2 < m) ∧
  ∀ (L H : Nat → Nat) (S' : Sto), Msk m L (fun y x => decide (y = x ∨ (x, y) ∈ qs)) → Msk m H (fun x y => decide (x = y ∨ (x, y) ∈ qs)) → k (.d (.tup [rowD m L, rowD m H])) S'
abbrev N_bound_masks : List Str := ["order", "low", "high", "x", "y"]
def W_bound_masks : TSD := sSeq (sAsg (eLc true (iRange (eRg1 (wBin dIx (eVar 0) (eC (.int 0))))) (gN 3) (tY) (wBin dShl (eC (.int 1)) (eVar 3)) [3]) (gN 1))
  (sSeq (sAsg (eLc true (iRange (eRg1 (wBin dIx (eVar 0) (eC (.int 0))))) (gN 3) (tY) (wBin dShl (eC (.int 1)) (eVar 3)) [3]) (gN 2))
  (sSeq (sFor (iAny (wBin dIx (eVar 0) (eC (.int 1)))) (gT 2 (gsCons (gN 3) (gsCons (gN 4) (gsNil))))
  (sSeq (sSetL (wBin dOr (wBin dIx (eVar 1) (eVar 4)) (wBin dShl (eC (.int 1)) (eVar 3))) (eVar 1) (eVar 4))
  (sSetL (wBin dOr (wBin dIx (eVar 2) (eVar 3)) (wBin dShl (eC (.int 1)) (eVar 4))) (eVar 2) (eVar 3))))
  (sFrz 2 (sFrz 1 (sRet (eTup (aCons (eVar 1) (aCons (eVar 2) (aNil)))))))))
theorem len_bound_masks : ∀ cs S k kx, sp_bound_masks cs S k kx → cs.length = 1 := by
  rintro cs S k kx ⟨n, m, rfl, _⟩; rfl
theorem one_shl {x : Nat} : (1 : Int) * 2 ^ (x : Int).toNat = ((2 ^ x : Nat) : Int) := by rw [Int.toNat_natCast, Int.one_mul, PySem.W.kbt_cast]
theorem lc_one {m : Nat} {ρ : Env} {S : Sto} {k : C → Sto → Prop} (hm : m ≤ 1000) (hl : 3 < (wipeE ρ [3]).length)
    (h : newL true (rowCI m fun x => 2 ^ x) S k) : ∃ P : Nat → List C → Sto → Prop, P 0 [] S ∧ (∀ i acc S', i ≤ ((rgD 0 (m : Int)).map D.int).length → P i acc S' → True) ∧
  (∀ i d acc S', ((rgD 0 (m : Int)).map D.int)[i]? = some d → P i acc S' → gN 3 (.d d) (wipeE ρ [3]) S' (fun ρ2 S2 => tY ρ2 S2 (fun b S3 => if b = true then (wBin dShl (eC (.int 1)) (eVar 3)) ρ2 S3 (fun c S4 => acc.length < sizeLine ∧ P (i + 1) (acc ++ [c]) S4) kF else P (i + 1) acc S3) kF) kF) ∧
  ∀ acc S', P ((rgD 0 (m : Int)).map D.int).length acc S' → newL true acc S' k := by
  refine lc_rg (n := m) (by omega) (fun _ => true) (fun x => .d (nI (2 ^ x))) ?_ ?_
  · intro x hx A B hA _
    have hv : ((wipeE ρ [3]).set 3 (some (.d (nI x))))[3]? = some (some (.d (nI x))) := by rw [List.getElem?_set_self hl]
    show eVar 3 ((wipeE ρ [3]).set 3 (some (.d (nI x)))) S (fun y S2 => dShl (.d (.int 1)) y S2 A) kF
    unfold eVar
    rw [hv]
    refine ⟨⟨by omega, by omega, by decide⟩, ?_⟩
    show A (.d (.int (1 * 2 ^ (x : Int).toNat))) S
    rw [one_shl]; exact hA rfl
  · rw [filter_all]; exact h
theorem rd_bound_masks : ∀ cs S k kx, sp_bound_masks cs S k kx → W_bound_masks (DE k) (startE N_bound_masks cs) S := by
  rintro cs S k kx ⟨m, qs, rfl, rfl, hm, hq, hk⟩
  refine ⟨nI m, rfl, rg_bd (by omega), ?_⟩
  refine lc_one hm (by show 3 < 5; decide) (newL_cell ?_)
  refine ⟨nI m, rfl, rg_bd (by omega), ?_⟩
  refine lc_one hm (by show 3 < 5; decide) (newL_cell ?_)
  have m0 : ∀ p : Nat → Nat → Bool, (∀ y x, y < m → x < m → p y x = decide (y = x)) → Msk m (fun x => 2 ^ x) p := fun p hp => ⟨fun y hy => Nat.pow_lt_pow_right (by decide) hy, fun y x hy hx => by rw [Nat.testBit_two_pow, hp y x hy hx]⟩
  refine ⟨.tup (qs.map pairN), rfl, fun i ρ' S' => ∃ (L H : Nat → Nat) (a b : Option C), ρ' = [some (.d (ordN m qs)), some (.c 0), some (.c 1), a, b] ∧ S' = [some (.lst (rowCI m L)), some (.lst (rowCI m H))] ∧
    Msk m L (fun y x => decide (y = x ∨ (x, y) ∈ qs.take i)) ∧ Msk m H (fun x y => decide (x = y ∨ (x, y) ∈ qs.take i)), ⟨fun x => 2 ^ x, fun x => 2 ^ x, none, none, rfl, rfl, m0 _ (by simp), m0 _ (by simp)⟩, fun _ _ _ _ _ => trivial, ?_, ?_⟩
  · rintro i d ρ' S' hd ⟨L, H, a, b, rfl, rfl, hL, hH⟩
    obtain ⟨p, hp, rfl⟩ := at_map hd
    have hi := (List.getElem?_eq_some_iff.mp hp).1
    obtain ⟨p1, p2⟩ := hq p (List.mem_of_getElem? hp)
    have e1 : qs.take (i + 1) = qs.take i ++ [p] := by rw [List.take_succ_eq_append_getElem hi, (List.getElem?_eq_some_iff.mp hp).2]
    refine ⟨rfl, _, _, rfl, _, _, rfl, rfl, _, _, rfl, fnL_atI _ p2, ⟨by omega, by omega, by decide⟩, _, p.2, rfl, by unfold rowCI; rw [fnL_len]; exact ixN_n p2, ?_⟩
    refine ⟨_, _, rfl, fnL_atI _ p1, ⟨by omega, by omega, by decide⟩, _, p.1, rfl, by unfold rowCI; rw [fnL_len]; exact ixN_n p1, ?_⟩
    refine ⟨fun y => if y = p.2 then L p.2 ||| 2 ^ p.1 else L y, fun x => if x = p.1 then H p.1 ||| 2 ^ p.2 else H x, _, _, rfl, ?_, ⟨fun y hy => ?_, fun y x hy hx => ?_⟩, ⟨fun x hx => ?_, fun x y hx hy => ?_⟩⟩
    · show [some (Own.lst ((rowCI m L).set p.2 (.d (.int (Builtin.bitOr (L p.2 : Int) (1 * 2 ^ (p.1 : Int).toNat)))))), some (Own.lst ((rowCI m H).set p.1 (.d (.int (Builtin.bitOr (H p.1 : Int) (1 * 2 ^ (p.2 : Int).toNat))))))] = _
      rw [one_shl, one_shl, bitOr_nat, bitOr_nat]
      unfold rowCI
      rw [fnL_set _ _ p2, fnL_set _ _ p1]
      have h1 : (fnL m fun j => if j = p.2 then C.d (nI (L p.2 ||| 2 ^ p.1)) else .d (nI (L j))) = fnL m fun a => C.d (nI (if a = p.2 then L p.2 ||| 2 ^ p.1 else L a)) := fnL_congr fun j _ => by split <;> rfl
      have h2 : (fnL m fun j => if j = p.1 then C.d (nI (H p.1 ||| 2 ^ p.2)) else .d (nI (H j))) = fnL m fun a => C.d (nI (if a = p.1 then H p.1 ||| 2 ^ p.2 else H a)) := fnL_congr fun j _ => by split <;> rfl
      rw [h1, h2]
    · show (if y = p.2 then L p.2 ||| 2 ^ p.1 else L y) < 2 ^ m
      split
      · exact or_pow_lt (hL.lt _ p2) p1
      · exact hL.lt y hy
    · show (if y = p.2 then L p.2 ||| 2 ^ p.1 else L y).testBit x = _
      rw [e1]
      split
      · rename_i q; subst q
        rw [tb_or_pow, hL.tb _ _ p2 hx]
        by_cases z : p.1 = x
        · subst z; simp
        · have : ¬ (x, p.2) = p := fun q => z (by rw [← q])
          simp [z, this]
      · rename_i q
        rw [hL.tb y x hy hx]
        have : ¬ (x, y) = p := fun z => q (by rw [← z])
        simp [this]
    · show (if x = p.1 then H p.1 ||| 2 ^ p.2 else H x) < 2 ^ m
      split
      · exact or_pow_lt (hH.lt _ p1) p2
      · exact hH.lt x hx
    · show (if x = p.1 then H p.1 ||| 2 ^ p.2 else H x).testBit y = _
      rw [e1]
      split
      · rename_i q; subst q
        rw [tb_or_pow, hH.tb _ _ p1 hy]
        by_cases z : p.2 = y
        · subst z; simp
        · have : ¬ (p.1, y) = p := fun q => z (by rw [← q])
          simp [z, this]
      · rename_i q
        rw [hH.tb x y hx hy]
        have : ¬ (x, y) = p := fun z => q (by rw [← z])
        simp [this]
  · rintro ρ' S' ⟨L, H, a, b, rfl, rfl, hL, hH⟩
    rw [List.length_map, List.take_length] at hL hH
    have fr : ∀ f, (unD (rowCI m f)).map D.lst = some (rowD m f) := fun f => by unfold rowCI; rw [← fnL_map m (fun a => nI (f a)) C.d, unD_map]; rfl
    refine ⟨1, _, rowD m H, rfl, rfl, fr H, ?_⟩
    refine ⟨0, .lst (rowCI m L), rowD m L, rfl, ?_, fr L, ?_⟩
    · show some (Own.lst ((rowCI m L).map (subC 1 (rowD m H)))) = _
      unfold rowCI; rw [fnL_map]; rfl
    · refine ⟨lez (by show 2 ≤ 1000000; decide), newT_data (ds := [rowD m L, rowD m H]) ?_⟩
      exact hk L H _ hL hH
end PL

namespace PL
open PySem PySem.Spec L2
open PyProof.Rows hiding St
/-! ### moebius -/
def leB (B : Nat → Nat → Bool) (a b : Nat) : Bool := decide (a = b) || B a b
def MuOk (m : Nat) (B : Nat → Nat → Bool) (x : Nat) (μ : Nat → Int) : Prop := μ x = 1 ∧ ∀ z, z < m → B x z = true → μ z = - sm (List.range m) (fun w => if (leB B x w && B w z) = true then μ w else 0)
def sp_moebius : SpD := fun cs S k kx => ∃ (m : Nat) (qs : List (Nat × Nat)) (B : Nat → Nat → Bool) (x y : Nat), cs = [.d (ordN m qs), .d (nI x), .d (nI y)] ∧ S = [] ∧ m ≤ 1000 ∧ (∀ p, p ∈ qs → p.1 < m ∧ p.2 < m) ∧ (∀ a b, a < m → b < m → (B a b = true ↔ (a, b) ∈ qs)) ∧ Ord m B ∧ x < m ∧ y < m ∧
  ∀ (v : Int) (S' : Sto), (∀ μ, MuOk m B x μ → v = if leB B x y = true then μ y else 0) → k (.d (.int v)) S'
/-- what is between x and y -/
def btw (B : Nat → Nat → Bool) (x y w : Nat) : Bool := leB B x w && leB B w y
theorem and_lt {a b m : Nat} (h : a < 2 ^ m) : a &&& b < 2 ^ m := Nat.lt_of_le_of_lt Nat.and_le_left h
theorem bitsL_of {M m : Nat} {p : Nat → Bool} (h : ∀ i, i < m → M.testBit i = p i) : bitsL M m = (List.range m).filter p := by
  unfold bitsL
  exact List.filter_congr fun i hi => h i (by simpa using hi)
def dicM (Z : List Nat) (x : Nat) (ν : Nat → Int) (kvs : List (Key × C)) : Prop := ∀ z, lookK kvs (kI z) = if z = x ∨ z ∈ Z then some (.d (.int (ν z))) else none
theorem look_put {β : Type} {kvs : List (Key × β)} {k k' : Key} {v : β} : lookK (putG kvs k v) k' = if k = k' then some v else lookK kvs k' := by
  unfold putG
  split
  · rename_i h
    induction kvs with
    | nil => simp [lookK] at h
    | cons p r ih =>
      rw [List.map_cons]
      by_cases e : p.1 = k
      · rw [if_pos e]
        show (if p.1 = k' then some v else _) = _
        by_cases e2 : k = k'
        · rw [if_pos (e.trans e2), if_pos e2]
        · rw [if_neg (fun q => e2 (e.symm.trans q)), if_neg e2]
          show _ = if p.1 = k' then some p.2 else lookK r k'
          rw [if_neg (fun q => e2 (e.symm.trans q))]
          clear ih h
          induction r with
          | nil => rfl
          | cons q r ih =>
            rw [List.map_cons]
            show (if (if q.1 = k then (q.1, v) else q).1 = k' then _ else _) = if q.1 = k' then _ else _
            have : (if q.1 = k then (q.1, v) else q).1 = q.1 := by split <;> rfl
            rw [this, ih]
            by_cases e3 : q.1 = k'
            · rw [if_pos e3, if_pos e3, if_neg (fun z => e2 (z.symm.trans e3))]
            · rw [if_neg e3, if_neg e3]
      · rw [if_neg e]
        show (if p.1 = k' then some p.2 else lookK (r.map _) k') = _
        have h' : (lookK r k).isSome = true := by
          have : lookK (p :: r) k = if p.1 = k then some p.2 else lookK r k := rfl
          rw [this, if_neg e] at h; exact h
        rw [ih h']
        show _ = if k = k' then some v else (if p.1 = k' then some p.2 else lookK r k')
        by_cases e2 : k = k'
        · rw [if_pos e2, if_pos e2, if_neg (fun q => e (q.trans e2.symm))]
        · rw [if_neg e2, if_neg e2]
  · rename_i h
    rw [look_snoc]
    by_cases e : k = k'
    · subst e
      cases e2 : lookK kvs k with
      | none => simp
      | some v => rw [e2] at h; exact absurd rfl h
    · rw [if_neg e]
      rw [if_neg e]
      cases lookK kvs k' <;> rfl
theorem put_len {β : Type} {kvs : List (Key × β)} {k : Key} {v : β} : (putG kvs k v).length ≤ kvs.length + 1 := by
  unfold putG; split <;> simp
theorem dAnd_nat {a b : Nat} {S : Sto} {k : C → Sto → Prop} (h : k (.d (nI (a &&& b))) S) : dAnd (.d (nI a)) (.d (nI b)) S k := by
  show k (.d (.int (Builtin.bitAnd (a : Int) (b : Int)))) S
  rw [bitAnd_nat]; exact h
abbrev N_moebius : List Str := ["order", "x", "y", "between", "line", "values", "low", "high", "_", "z", "w"]
def W_moebius : TSD := sSeq (sAsg (eCall sp_bound_masks (aCons (eVar 0) (aNil))) (gT 2 (gsCons (gN 6) (gsCons (gN 7) (gsNil)))))
  (sSeq (sAsg (wBin dAnd (wBin dIx (eVar 7) (eVar 1)) (wBin dIx (eVar 6) (eVar 2))) (gN 3))
  (sSeq (sAsg (eCB (dSortedP false) (aCons (eLc false (iAny (eCall sp_places_of (aCons (eVar 3) (aNil)))) (gN 9) (tY) (eTup (aCons (eCB dLen (aCons (eCall sp_places_of (aCons (wBin dAnd (eVar 3) (wBin dIx (eVar 6) (eVar 9))) (aNil))) (aNil))) (aCons (eVar 9) (aNil)))) [9]) (aNil))) (gN 4))
  (sSeq (sAsg (eDisp ((eVar 1, eC (.int 1)) :: [])) (gN 5))
  (sSeq (sFor (iAny (eVar 4)) (gT 2 (gsCons (gN 8) (gsCons (gN 9) (gsNil))))
  (sIf (eB (wBin dNe (eVar 9) (eVar 1)))
  (sSetD (wUn dNeg (eCB dSumA (aCons (eLc false (iAny (eCall sp_places_of (aCons (wBin dAnd (eVar 3) (wBin dIx (eVar 6) (eVar 9))) (aNil)))) (gN 10) (eB (wBin dNe (eVar 10) (eVar 9))) (wBin dDGet (eVar 5) (eVar 10)) [10]) (aNil)))) (eVar 5) (eVar 9))
  (sNext)))
  (sRet (eDGet2 (eVar 5) (eVar 2) (eC (.int 0))))))))
theorem len_moebius : ∀ cs S k kx, sp_moebius cs S k kx → cs.length = 3 := by
  rintro cs S k kx ⟨n, m, B, x, y, rfl, _⟩; rfl
theorem rd_moebius : ∀ cs S k kx, sp_moebius cs S k kx → W_moebius (DE k) (startE N_moebius cs) S := by
  rintro cs S k kx ⟨m, qs, B, x, y, rfl, rfl, hm, hq, hB, hO, hx, hy, hk⟩
  refine ⟨.inl ⟨rfl, m, qs, rfl, rfl, hm, hq, fun L H _ hL hH => .inl ⟨_, rfl, ?_⟩⟩⟩
  refine ⟨rfl, _, _, rfl, _, _, rfl, rfl, _, fnL_atI _ hx, _, fnL_atI _ hy, ?_⟩
  have eB : ∀ a b, a < m → b < m → decide (a = b ∨ (a, b) ∈ qs) = leB B a b := fun a b ha hb => by
    unfold leB
    by_cases e : a = b
    · simp [e]
    · have := hB a b ha hb
      cases e2 : B a b with
      | true => simp [this.mp e2]
      | false => rw [decide_eq_false]; simp [e]; intro z; rcases z with z | z; exact e z; rw [this.mpr z] at e2; cases e2
  have tL : ∀ z w, z < m → w < m → (L z).testBit w = leB B w z := fun z w hz hw => by
    rw [hL.tb z w hz hw, ← eB w z hw hz]; exact decide_eq_decide.mpr ⟨fun h => h.imp Eq.symm id, fun h => h.imp Eq.symm id⟩
  have tH : ∀ z w, z < m → w < m → (H z).testBit w = leB B z w := fun z w hz hw => by
    rw [hH.tb z w hz hw, ← eB z w hz hw]
  refine dAnd_nat ?_
  have hBt : H x &&& L y < 2 ^ m := and_lt (hH.lt x hx)
  have tB : ∀ w, w < m → (H x &&& L y).testBit w = btw B x y w := fun w hw => by rw [Nat.testBit_and, tH x w hx hw, tL y w hy hw]; rfl
  have bB := bitsL_of tB
  have bz : ∀ z, z < m → (H x &&& L y) &&& L z < 2 ^ m := fun z _ => and_lt hBt
  have tz : ∀ z w, z < m → w < m → ((H x &&& L y) &&& L z).testBit w = (btw B x y w && leB B w z) := fun z w hz hw => by rw [Nat.testBit_and, tB w hw, tL z w hz hw]
  have bbz : ∀ z, z < m → bitsL ((H x &&& L y) &&& L z) m = (List.range m).filter (fun w => btw B x y w && leB B w z) := fun z hz => bitsL_of fun w hw => tz z w hz hw
  generalize H x &&& L y = Bt at hBt tB bB bz tz bbz
  refine call_places hBt hm ?_
  rw [bB]
  generalize hZ : (List.range m).filter (btw B x y) = Z0
  have mZ : ∀ w, w ∈ Z0 ↔ (w < m ∧ btw B x y w = true) := fun w => by rw [← hZ, List.mem_filter]; simp
  have lZ : Z0.length ≤ m := by rw [← hZ]; refine Nat.le_trans (List.length_filter_le _ _) ?_; simp
  let cn : Nat → Nat := fun z => ((List.range m).filter (fun w => btw B x y w && leB B w z)).length
  refine lc_gen Z0 nI (fun _ => true) (fun z => .d (pairN (cn z, z))) (by omega) ?_ ?_
  · intro z hz A Bk hA _
    have hzm := ((mZ z).mp hz).1
    refine ⟨_, fnL_atI _ hzm, ?_⟩
    refine dAnd_nat ?_
    refine call_places (bz z hzm) hm ?_
    refine ⟨_, rfl, lez (by show 2 ≤ 1000000; decide), ?_⟩
    rw [List.length_map, List.length_map, bbz z hzm]
    exact newT_data (ds := [nI (cn z), nI z]) (hA rfl)
  · rw [filter_all, show (Z0.map fun z => C.d (pairN (cn z, z))) = ((Z0.map fun z => (cn z, z)).map pairN).map C.d by rw [List.map_map, List.map_map]; rfl]
    refine newL_data ?_
    refine ⟨(Z0.map fun z => (cn z, z)).map castP, ?_, fun ps hp hs => ?_⟩
    · show some (((Z0.map fun z => (cn z, z)).map pairN).map C.d) = _
      unfold cPairs; rw [List.map_map, List.map_map, List.map_map, List.map_map]; rfl
    · obtain ⟨ql, rfl, hql⟩ := perm_cast hp
      have hqs : ql = (ql.map (·.2)).map fun z => (cn z, z) := by
        rw [List.map_map]
        refine (List.map_id ql).symm.trans (List.map_congr_left fun q hq' => ?_)
        obtain ⟨z, _, rfl⟩ := List.mem_map.mp (hql.mem_iff.mp hq')
        rfl
      have hL' : (ql.map (·.2)).Perm Z0 := by
        have := hql.map (·.2)
        rw [List.map_map] at this
        rwa [show ((fun q : Nat × Nat => q.2) ∘ fun z => (cn z, z)) = id from rfl, List.map_id] at this
      rw [hqs] at hs ⊢
      generalize ql.map (·.2) = Z at hL' hs
      have mZ' : ∀ w, w ∈ Z ↔ (w < m ∧ btw B x y w = true) := fun w => by rw [hL'.mem_iff, mZ]
      have ndZ : Z.Nodup := by rw [hL'.nodup_iff, ← hZ]; exact List.Nodup.sublist List.filter_sublist List.nodup_range
      have hZl : Z.length ≤ m := by rw [hL'.length_eq]; exact lZ
      -- lower ones stand ahead
      have hpw : Z.Pairwise (fun a b => B b a = false) := by
        rw [List.pairwise_map, List.pairwise_map] at hs
        refine List.Pairwise.imp_of_mem (fun {a b} ha hb h => ?_) hs
        cases e : B b a with
        | false => rfl
        | true =>
          obtain ⟨am, ab⟩ := (mZ' a).mp ha
          obtain ⟨bm, bb⟩ := (mZ' b).mp hb
          have h1 : cn b < cn a := by
            refine sub_lt (fun w hw h => ?_) am ?_ ?_
            · rw [Bool.and_eq_true] at h ⊢
              refine ⟨h.1, ?_⟩
              have h2 := h.2
              unfold leB at h2 ⊢
              rw [Bool.or_eq_true] at h2 ⊢
              rcases h2 with h2 | h2
              · have := of_decide_eq_true h2; subst this; exact .inr e
              · exact .inr (hO.tr w b a hw bm am h2 e)
            · show (btw B x y a && leB B a a) = true
              rw [ab]; unfold leB; simp
            · show (btw B x y a && leB B a b) = false
              have : leB B a b = false := by
                unfold leB
                rw [Bool.or_eq_false_iff]
                refine ⟨decide_eq_false fun z => ?_, ?_⟩
                · subst z; rw [hO.irr a am] at e; cases e
                · cases e3 : B a b with
                  | false => rfl
                  | true => have : B a a = true := hO.tr a b a am bm am e3 e; rw [hO.irr a am] at this; cases this
              rw [this]; simp
          have h : ((cn a : Nat) : Int) < (cn b : Nat) ∨ _ := h
          rcases h with h | ⟨h, _⟩
          · omega
          · have h : ((cn a : Nat) : Int) = (cn b : Nat) := h
            omega
      rw [show cPairs ((Z.map fun z => (cn z, z)).map castP) = (Z.map fun z => pairN (cn z, z)).map C.d by unfold cPairs; rw [List.map_map, List.map_map, List.map_map]; rfl]
      refine newL_data ?_
      refine ⟨[(kI x, .d (.int 1))], rfl, (by show 1 ≤ 15; decide), ?_⟩
      show sSeq _ _ _ _ [some (Own.dK [(kI x, C.d (.int 1))])]
      refine ⟨fun i ρ' S' => ∃ (a b : Option C) (kvs : List (Key × C)) (ν : Nat → Int), ρ' = [some (.d (ordN m qs)), some (.d (nI x)), some (.d (nI y)), some (.d (nI Bt)), some (.d (.lst (Z.map fun z => pairN (cn z, z)))), some (.c 0), some (.d (rowD m L)), some (.d (rowD m H)), a, b, none] ∧ S' = [some (.dK kvs)] ∧ kvs.length ≤ i + 1 ∧ dicM (Z.take i) x ν kvs ∧ ν x = 1 ∧
        ∀ z, z ∈ Z.take i → z ≠ x → ν z = - sm (List.range m) (fun w => if (btw B x y w && B w z) = true then ν w else 0), ⟨none, none, _, fun _ => 1, rfl, rfl, Nat.le_refl _, ?_, rfl, by simp⟩, fun _ _ _ _ _ => trivial, ?_, ?_⟩
      · intro z
        show (if kI x = kI z then some _ else none) = _
        by_cases e : z = x
        · subst e; rw [if_pos rfl, if_pos (.inl rfl)]
        · rw [if_neg (fun q => e (by have := Sum.inl.inj q; omega)), if_neg (by simp [e])]
      · rintro i d ρ' S' hd ⟨a, b, kvs, ν, rfl, rfl, hkl, hdic, hν, hrec⟩
        obtain ⟨z, hz, rfl⟩ := at_map hd
        have hi := (List.getElem?_eq_some_iff.mp hz).1
        have hzi := (List.getElem?_eq_some_iff.mp hz).2
        obtain ⟨hzm, hzb⟩ := (mZ' z).mp (List.mem_of_getElem? hz)
        have e1 : Z.take (i + 1) = Z.take i ++ [z] := by rw [List.take_succ_eq_append_getElem hi, hzi]
        have hnz : z ∉ Z.take i := by rw [← hzi]; exact mem_take_ne ndZ hi
        refine ⟨rfl, _, _, rfl, _, _, rfl, rfl, ?_⟩
        show if (!decide ((z : Int) = x)) = true then _ else _
        split
        · rename_i hne
          have hne : z ≠ x := fun q => by subst q; simp at hne
          -- those below z stand in the dict
          have hin : ∀ w, w < m → btw B x y w = true → B w z = true → w ∈ Z.take i := fun w hw h1 h2 => by
            have hwZ := (mZ' w).mpr ⟨hw, h1⟩
            have hs2 : Z = Z.take i ++ z :: Z.drop (i + 1) := by rw [← hzi, List.getElem_cons_drop, List.take_append_drop]
            rw [hs2] at hwZ hpw
            rcases List.mem_append.mp hwZ with h | h
            · exact h
            · rcases List.mem_cons.mp h with h | h
              · subst h; rw [hO.irr w hw] at h2; cases h2
              · have := (List.pairwise_cons.mp (List.pairwise_append.mp hpw).2.1).1 w h
                rw [this] at h2; cases h2
          refine ⟨_, fnL_atI _ hzm, ?_⟩
          refine dAnd_nat ?_
          refine call_places (bz z hzm) hm ?_
          rw [bbz z hzm]
          refine lc_gen ((List.range m).filter (fun w => btw B x y w && leB B w z)) nI (fun w : Nat => !decide ((w : Int) = z)) (fun w => .d (.int (ν w))) (by refine Nat.le_trans (List.length_filter_le _ _) ?_; rw [List.length_range]; omega) ?_ ?_
          · intro w hw A Bk hA hB'
            rw [List.mem_filter] at hw
            have hwm : w < m := by simpa using hw.1
            show if (!decide ((w : Int) = z)) = true then _ else _
            split
            · rename_i e
              have hwz : w ≠ z := fun q => by subst q; simp at e
              have hw2 := hw.2
              rw [Bool.and_eq_true] at hw2
              have hBw : B w z = true := by
                have := hw2.2
                unfold leB at this
                rw [Bool.or_eq_true] at this
                rcases this with h | h
                · exact absurd (of_decide_eq_true h) hwz
                · exact h
              refine ⟨.d (.int (ν w)), ?_, hA e⟩
              show some (lookK kvs (kI w)) = _
              rw [hdic w, if_pos (.inr (hin w hwm hw2.1 hBw))]
            · rename_i e; exact hB' (Bool.eq_false_iff.mpr e)
          · rw [show ((((List.range m).filter (fun w => btw B x y w && leB B w z)).filter (fun w : Nat => !decide ((w : Int) = z))).map fun w => C.d (.int (ν w))) = (((((List.range m).filter (fun w => btw B x y w && leB B w z)).filter (fun w : Nat => !decide ((w : Int) = z))).map ν).map D.int).map C.d by rw [List.map_map, List.map_map]; rfl]
            refine newL_data ?_
            refine ⟨((((List.range m).filter (fun w => btw B x y w && leB B w z)).filter (fun w : Nat => !decide ((w : Int) = z))).map ν), by rw [cInts_eq]; rfl, ?_⟩
            have hsum : ((((List.range m).filter (fun w => btw B x y w && leB B w z)).filter (fun w : Nat => !decide ((w : Int) = z))).map ν).sum = sm (List.range m) (fun w => if (btw B x y w && B w z) = true then ν w else 0) := by
              show sm _ ν = _
              rw [sm_filter, sm_filter]
              refine sm_lt_congr fun w hw => ?_
              unfold leB
              by_cases e : w = z
              · subst e; simp [hO.irr w hw]
              · have : ¬ (w : Int) = z := by omega
                simp [e, this]
            rw [hsum]
            generalize hv : sm (List.range m) (fun w => if (btw B x y w && B w z) = true then ν w else 0) = vv
            refine .inl ⟨kvs, kI z, rfl, rfl, ltz (by omega), ?_⟩
            obtain ⟨ν', n1, n2⟩ : ∃ ν' : Nat → Int, ν' z = -vv ∧ ∀ w, w ≠ z → ν' w = ν w := ⟨fun w => if w = z then -vv else ν w, if_pos rfl, fun w hw => if_neg hw⟩
            refine ⟨_, _, putG kvs (kI z) (.d (.int (-vv))), ν', rfl, rfl, Nat.le_trans put_len (by omega), fun w => ?_, by rw [n2 x (Ne.symm hne)]; exact hν, fun w hw hwx => ?_⟩
            · rw [look_put, e1]
              by_cases e : w = z
              · subst e; rw [if_pos rfl, if_pos (by simp), n1]
              · rw [if_neg (fun q => e (by have := Sum.inl.inj q; omega)), hdic w, n2 w e]
                by_cases e2 : w = x ∨ w ∈ Z.take i
                · rw [if_pos e2, if_pos (e2.imp id fun h => List.mem_append_left _ h)]
                · rw [if_neg e2, if_neg (by intro q; rcases q with q | q; exact e2 (.inl q); rcases List.mem_append.mp q with q | q; exact e2 (.inr q); exact e (by simpa using q))]
            · rw [e1] at hw
              have hsame : ∀ u, u < m → (u = z ∨ u ∈ Z.take i) → sm (List.range m) (fun w => if (btw B x y w && B w u) = true then ν' w else 0) = sm (List.range m) (fun w => if (btw B x y w && B w u) = true then ν w else 0) := by
                intro u hu hmem
                refine sm_lt_congr fun v hvm => ?_
                by_cases e : (btw B x y v && B v u) = true
                · rw [if_pos e, if_pos e, n2 v]
                  intro q
                  subst q
                  rw [Bool.and_eq_true] at e
                  rcases hmem with h | h
                  · subst h; rw [hO.irr u hu] at e; cases e.2
                  · have hs2 : Z = Z.take i ++ v :: Z.drop (i + 1) := by rw [← hzi, List.getElem_cons_drop, List.take_append_drop]
                    rw [hs2] at hpw
                    have := (List.pairwise_append.mp hpw).2.2 u h v (by simp)
                    rw [this] at e; cases e.2
                · rw [if_neg e, if_neg e]
              rcases List.mem_append.mp hw with hw | hw
              · have hwm := ((mZ' w).mp (List.mem_of_mem_take hw)).1
                rw [n2 w (fun q => hnz (q ▸ hw)), hrec w hw hwx, hsame w hwm (.inr hw)]
              · have hw : w = z := by simpa using hw
                subst hw
                rw [n1, hsame w hzm (.inl rfl), hv]
        · rename_i hne
          have hne : z = x := by
            refine Classical.byContradiction fun q => hne ?_
            have : ¬ (z : Int) = x := by omega
            simp [this]
          refine ⟨_, _, kvs, ν, rfl, rfl, by omega, fun w => ?_, hν, fun w hw hwx => ?_⟩
          · rw [hdic w, e1, hne]
            by_cases e : w = x
            · rw [if_pos (.inl e), if_pos (.inl e)]
            · by_cases e2 : w ∈ Z.take i
              · rw [if_pos (.inr e2), if_pos (.inr (List.mem_append_left _ e2))]
              · rw [if_neg (by simp [e, e2]), if_neg (by simp [e, e2])]
          · rw [e1] at hw
            rcases List.mem_append.mp hw with hw | hw
            · exact hrec w hw hwx
            · exact absurd ((by simpa using hw : w = z).trans hne) hwx
      · rintro ρ' S' ⟨a, b, kvs, ν, rfl, rfl, hkl, hdic, hν, hrec⟩
        rw [List.length_map, List.take_length] at hdic hrec
        refine ⟨⟨_, rfl⟩, lookK kvs (kI y), rfl, ?_⟩
        rw [hdic y]
        have hyy : leB B y y = true := by unfold leB; simp
        have hfin : ∀ v : Int, v = (if leB B x y = true then ν y else 0) → k (.d (.int v)) [some (.dK kvs)] := by
          intro v hv
          refine hk v _ fun μ hμ => ?_
          rw [hv]
          split
          · rename_i hxy
            -- ν is μ on all between
            have : ∀ c z, cntB m B z ≤ c → z ∈ Z → ν z = μ z := by
              intro c
              induction c with
              | zero =>
                intro z hc hz
                by_cases e : z = x
                · subst e; rw [hν, hμ.1]
                · obtain ⟨hzm, hzb⟩ := (mZ' z).mp hz
                  have hz2 := hzb
                  unfold btw at hz2
                  rw [Bool.and_eq_true] at hz2
                  have hxz : B x z = true := by
                    have := hz2.1; unfold leB at this; rw [Bool.or_eq_true] at this
                    rcases this with h | h
                    · exact absurd (of_decide_eq_true h).symm e
                    · exact h
                  have := hO.cnt hzm hx hxz
                  omega
              | succ c ih =>
                intro z hc hz
                by_cases e : z = x
                · subst e; rw [hν, hμ.1]
                · obtain ⟨hzm, hzb⟩ := (mZ' z).mp hz
                  have hz2 := hzb
                  unfold btw at hz2
                  rw [Bool.and_eq_true] at hz2
                  have hxz : B x z = true := by
                    have := hz2.1; unfold leB at this; rw [Bool.or_eq_true] at this
                    rcases this with h | h
                    · exact absurd (of_decide_eq_true h).symm e
                    · exact h
                  rw [hrec z hz e, hμ.2 z hzm hxz]
                  refine congrArg (fun t => -t) (sm_lt_congr fun w hw => ?_)
                  cases e2 : B w z with
                  | false => simp
                  | true =>
                    have hwy : leB B w y = true := by
                      have h3 := hz2.2
                      unfold leB at h3 ⊢
                      rw [Bool.or_eq_true] at h3 ⊢
                      rcases h3 with h | h
                      · have := of_decide_eq_true h; subst this; exact .inr e2
                      · exact .inr (hO.tr w z y hw hzm hy e2 h)
                    unfold btw
                    rw [hwy]
                    cases e3 : leB B x w with
                    | false => simp
                    | true =>
                      simp only [Bool.and_self, if_true]
                      exact ih w (by have := hO.cnt hzm hw e2; omega) ((mZ' w).mpr ⟨hw, by unfold btw; rw [e3, hwy]; rfl⟩)
            exact this _ y (Nat.le_refl _) ((mZ' y).mpr ⟨hy, by unfold btw; rw [hxy, hyy]; rfl⟩)
          · rfl
        by_cases e : y = x
        · subst e
          rw [if_pos (.inl rfl)]
          exact hfin _ (by rw [if_pos hyy])
        · by_cases e2 : leB B x y = true
          · rw [if_pos (.inr ((mZ' y).mpr ⟨hy, by unfold btw; rw [e2, hyy]; rfl⟩))]
            exact hfin _ (by rw [if_pos e2])
          · rw [if_neg (by intro q; rcases q with q | q; exact e q; have := ((mZ' y).mp q).2; unfold btw at this; rw [Bool.and_eq_true] at this; exact e2 this.1)]
            exact hfin _ (by rw [if_neg e2])
end PL

namespace PL
open PySem PySem.Spec L2
open PyProof.Rows hiding St
abbrev wRank : TD := eCB (dSortedP false) (aCons (eLc false (iRange (eRg1 (eVar 1))) (gN 5) (tY) (eTup (aCons (eCB dLen (aCons (eLc false (iRange (eRg1 (eVar 1))) (gN 6) (eB (wBin dIx (wBin dIx (eVar 0) (eVar 6)) (eVar 5))) (eVar 6) [6]) (aNil))) (aCons (eVar 5) (aNil)))) [5]) (aNil))
theorem rank_sort {n : Nat} {R : Nat → Nat → Bool} {S : Sto} {k : C → Sto → Prop} {kx : KX} (hn : n ≤ 500) (h : ∀ L : List Nat, L.Perm (List.range n) → (Ord n R → L.Pairwise (fun a b => R b a = false)) → k (.d (.lst (L.map fun x => pairN (cntB n R x, x)))) S) :
    wRank [some (.d (tabD n R)), some (.d (nI n)), none, none, none, none, none] S k kx := by
  refine ⟨rg_bd (by omega), ?_⟩
  refine lc_rg (n := n) (by omega) (fun _ => true) (fun x => .d (pairN (cntB n R x, x))) ?_ ?_
  · intro x hx A B hA _
    refine ⟨rg_bd (by omega), ?_⟩
    refine lc_rg (n := n) (by omega) (fun y => R y x) (fun y => .d (nI y)) ?_ ?_
    · intro y hy A B hA hB
      refine ⟨_, tab_at hy, _, fnL_atI _ hx, ?_⟩
      show if R y x = true then _ else _
      split
      · rename_i e; exact hA e
      · rename_i e; exact hB (Bool.eq_false_iff.mpr e)
    · rw [show (((List.range n).filter fun y => R y x).map fun y => C.d (nI y)) = (((List.range n).filter fun y => R y x).map nI).map C.d by rw [List.map_map]; rfl]
      refine newL_data ?_
      refine ⟨_, rfl, lez (by show 2 ≤ 1000000; decide), ?_⟩
      rw [List.length_map, List.length_map]
      exact newT_data (ds := [nI (cntB n R x), nI x]) (hA rfl)
  · rw [filter_all]
    refine newL_fn (f := fun x => pairN (cntB n R x, x)) ?_
    refine ⟨((List.range n).map fun x => (cntB n R x, x)).map castP, ?_, fun ps hp hs => ?_⟩
    · show some ((fnL n fun x => pairN (cntB n R x, x)).map C.d) = _
      unfold cPairs fnL; rw [List.map_map, List.map_map, List.map_map]; rfl
    · obtain ⟨qs, rfl, hq⟩ := perm_cast hp
      have hqs : qs = (qs.map (·.2)).map fun x => (cntB n R x, x) := by
        rw [List.map_map]
        refine (List.map_id qs).symm.trans (List.map_congr_left fun q hq' => ?_)
        obtain ⟨x, _, rfl⟩ := List.mem_map.mp (hq.mem_iff.mp hq')
        rfl
      have hL : (qs.map (·.2)).Perm (List.range n) := by
        have := hq.map (·.2)
        rw [List.map_map] at this
        rwa [show ((fun q : Nat × Nat => q.2) ∘ fun x => (cntB n R x, x)) = id from rfl, List.map_id] at this
      rw [hqs] at hs ⊢
      generalize qs.map (·.2) = L at hL hs
      have hlt : ∀ x, x ∈ L → x < n := fun x hx => by simpa using hL.mem_iff.mp hx
      rw [show cPairs ((L.map fun x => (cntB n R x, x)).map castP) = (L.map fun x => pairN (cntB n R x, x)).map C.d by unfold cPairs; rw [List.map_map, List.map_map, List.map_map]; rfl]
      refine newL_data (h L hL fun hR => ?_)
      rw [List.pairwise_map, List.pairwise_map] at hs
      refine List.Pairwise.imp_of_mem (fun {a b} ha hb h => ?_) hs
      cases e : R b a with
      | false => rfl
      | true =>
        have h1 := hR.cnt (hlt a ha) (hlt b hb) e
        have h : ((cntB n R a : Nat) : Int) < (cntB n R b : Nat) ∨ _ := h
        rcases h with h | ⟨h, _⟩
        · omega
        · have h : ((cntB n R a : Nat) : Int) = (cntB n R b : Nat) := h
          omega
def sp_law_signs : SpD := fun cs S k kx => ∃ (n : Nat) (R : Nat → Nat → Bool), cs = [.d (tabD n R)] ∧ S = [] ∧ n ≤ 500 ∧ Ord n R ∧
  ∀ (g : Nat → Int) (S' : Sto), (∀ x, x < n → g x + sm (List.range n) (fun y => if R y x = true then g y else 0) = 1) → k (.d (rowZ n g)) S'
def sp_law_ways : SpD := fun cs S k kx => ∃ (n : Nat) (R : Nat → Nat → Bool), cs = [.d (tabD n R)] ∧ S = [] ∧ n ≤ 500 ∧ ∀ (v : Int) (S' : Sto), k (.d (.int v)) S'
theorem below_sum {n : Nat} {R : Nat → Nat → Bool} {g : Nat → Int} {x : Nat} : (((List.range n).filter fun y => R y x).map g).sum = sm (List.range n) (fun y => if R y x = true then g y else 0) := by
  show sm _ g = _
  rw [sm_filter]
/-- the comprehension of what stands below -/
theorem lc_below {n : Nat} {R : Nat → Nat → Bool} {g : Nat → Int} {x : Nat} {q : Option C} {S : Sto} {k : C → Sto → Prop} {rk a : Option C} (hn : n ≤ 500) (hx : x < n) (hS : S.own 0 = some (.lst (rowZC n g))) (h : k (.d (.int (sm (List.range n) (fun y => if R y x = true then g y else 0)))) S) :
    (eCB dSumA (aCons (eLc false (iRange (eRg1 (eVar 1))) (gN 6) (eB (wBin dIx (wBin dIx (eVar 0) (eVar 6)) (eVar 5))) (wBin dIx (eVar 3) (eVar 6)) [6]) (aNil))) [some (.d (tabD n R)), some (.d (nI n)), rk, some (.c 0), a, some (.d (nI x)), q] S k kF := by
  refine ⟨rg_bd (by omega), ?_⟩
  refine lc_rg (n := n) (by omega) (fun y => R y x) (fun y => .d (.int (g y))) ?_ ?_
  · intro y hy A B hA hB
    refine ⟨_, tab_at hy, _, fnL_atI _ hx, ?_⟩
    show if R y x = true then _ else _
    split
    · rename_i e; exact ⟨_, _, hS, fnL_atI _ hy, hA e⟩
    · rename_i e; exact hB (Bool.eq_false_iff.mpr e)
  · rw [show (((List.range n).filter fun y => R y x).map fun y => C.d (.int (g y))) = ((((List.range n).filter fun y => R y x).map g).map D.int).map C.d by rw [List.map_map, List.map_map]; rfl]
    refine newL_data ?_
    refine ⟨(((List.range n).filter fun y => R y x).map g), by rw [cInts_eq]; rfl, ?_⟩
    rw [below_sum]; exact h
theorem setZ {n : Nat} {g : Nat → Int} {x : Nat} {v : Int} (hx : x < n) : (rowZC n g).set x (.d (.int v)) = rowZC n (fun y => if y = x then v else g y) := by
  unfold rowZC
  rw [fnL_set _ _ hx]
  refine fnL_congr fun y _ => ?_
  show _ = C.d (.int (if y = x then v else g y))
  split <;> rfl
abbrev N_law_signs : List Str := ["up", "many", "ranked", "signs", "rank", "x", "y"]
def W_law_signs : TSD := sSeq (sAsg (eCB dLen (aCons (eVar 0) (aNil))) (gN 1))
  (sSeq (sAsg (eCB (dSortedP false) (aCons (eLc false (iRange (eRg1 (eVar 1))) (gN 5) (tY) (eTup (aCons (eCB dLen (aCons (eLc false (iRange (eRg1 (eVar 1))) (gN 6) (eB (wBin dIx (wBin dIx (eVar 0) (eVar 6)) (eVar 5))) (eVar 6) [6]) (aNil))) (aCons (eVar 5) (aNil)))) [5]) (aNil))) (gN 2))
  (sSeq (sAsg (wBin (dMul true) (eLst false (aCons (eC (.int 0)) (aNil))) (eVar 1)) (gN 3))
  (sSeq (sFor (iAny (eVar 2)) (gT 2 (gsCons (gN 4) (gsCons (gN 5) (gsNil))))
  (sSetL (wBin dSub (eC (.int 1)) (eCB dSumA (aCons (eLc false (iRange (eRg1 (eVar 1))) (gN 6) (eB (wBin dIx (wBin dIx (eVar 0) (eVar 6)) (eVar 5))) (wBin dIx (eVar 3) (eVar 6)) [6]) (aNil)))) (eVar 3) (eVar 5)))
  (sFrz 3 (sRet (eVar 3))))))
theorem len_law_signs : ∀ cs S k kx, sp_law_signs cs S k kx → cs.length = 1 := by
  rintro cs S k kx ⟨n, m, rfl, _⟩; rfl
theorem rd_law_signs : ∀ cs S k kx, sp_law_signs cs S k kx → W_law_signs (DE k) (startE N_law_signs cs) S := by
  rintro cs S k kx ⟨n, R, rfl, rfl, hn, hR, hk⟩
  refine ⟨_, tab_len, ?_⟩
  rw [fnL_len]
  refine rank_sort (kx := kF) hn fun L hL hpw => ?_
  have hpw := hpw hR
  have hlt : ∀ x, x ∈ L → x < n := fun x hx => by simpa using hL.mem_iff.mp hx
  refine ⟨lez (by show 1 ≤ 1000000; decide), by omega, by omega, lez (by show 1 * n ≤ 1000000; omega), ?_⟩
  show newL true (List.replicate ((n : Nat) : Int).toNat [C.d (.int 0)]).flatten _ _
  rw [show (List.replicate ((n : Nat) : Int).toNat [C.d (.int 0)]).flatten = rowZC n (fun _ => 0) by rw [Int.toNat_natCast]; exact fnL_rep n _]
  refine newL_cell ?_
  refine ⟨fun i ρ' S' => ∃ (a b : Option C) (g : Nat → Int), ρ' = [some (.d (tabD n R)), some (.d (nI n)), some (.d (.lst (L.map fun x => pairN (cntB n R x, x)))), some (.c 0), a, b, none] ∧ S' = [some (.lst (rowZC n g))] ∧
    ∀ x, x ∈ L.take i → g x + sm (List.range n) (fun y => if R y x = true then g y else 0) = 1, ⟨none, none, _, rfl, rfl, by simp⟩, fun _ _ _ _ _ => trivial, ?_, ?_⟩
  · rintro i d ρ' S' hd ⟨a, b, g, rfl, rfl, hg⟩
    obtain ⟨z, hz, rfl⟩ := at_map hd
    have hi := (List.getElem?_eq_some_iff.mp hz).1
    have hzi := (List.getElem?_eq_some_iff.mp hz).2
    have hzn := hlt z (List.mem_of_getElem? hz)
    have e1 : L.take (i + 1) = L.take i ++ [z] := by rw [List.take_succ_eq_append_getElem hi, hzi]
    have hs2 : L = L.take i ++ z :: L.drop (i + 1) := by rw [← hzi, List.getElem_cons_drop, List.take_append_drop]
    refine ⟨rfl, _, _, rfl, _, _, rfl, rfl, ?_⟩
    refine lc_below hn hzn rfl ?_
    refine ⟨_, z, rfl, by unfold rowZC; rw [fnL_len]; exact ixN_n hzn, ?_⟩
    obtain ⟨g', hg1, hg2⟩ : ∃ g' : Nat → Int, g' z = 1 - sm (List.range n) (fun y => if R y z = true then g y else 0) ∧ ∀ y, y ≠ z → g' y = g y := ⟨fun y => if y = z then 1 - sm (List.range n) (fun y => if R y z = true then g y else 0) else g y, if_pos rfl, fun y hy => if_neg hy⟩
    refine ⟨_, _, g', rfl, ?_, fun x hx => ?_⟩
    · show [some (Own.lst ((rowZC n g).set z (.d (.int (1 - sm (List.range n) (fun y => if R y z = true then g y else 0))))))] = _
      rw [setZ hzn]
      refine congrArg (fun t => [some (Own.lst t)]) (fnL_congr fun y _ => ?_)
      by_cases e : y = z
      · subst e; rw [hg1]; simp
      · rw [hg2 y e]; simp [e]
    · have hs : ∀ u, R z u = false → sm (List.range n) (fun y => if R y u = true then g' y else 0) = sm (List.range n) (fun y => if R y u = true then g y else 0) := fun u hu => by
        refine sm_lt_congr fun y _ => ?_
        by_cases e : y = z
        · subst e; rw [hu]; simp
        · rw [hg2 y e]
      rw [e1] at hx
      rcases List.mem_append.mp hx with hx | hx
      · rw [hs2] at hpw
        have := (List.pairwise_append.mp hpw).2.2 x hx z (by simp)
        have hne : x ≠ z := fun q => by
          have nd : L.Nodup := hL.nodup_iff.mpr List.nodup_range
          have := mem_take_ne nd hi
          rw [hzi, ← q] at this; exact this hx
        rw [hs x this, hg2 x hne]; exact hg x hx
      · have hx : x = z := by simpa using hx
        subst hx
        rw [hs x (hR.irr x hzn), hg1]; omega
  · rintro ρ' S' ⟨a, b, g, rfl, rfl, hg⟩
    rw [List.length_map, List.take_length] at hg
    refine ⟨0, .lst (rowZC n g), rowZ n g, rfl, rfl, ?_, ?_⟩
    · show (unD (rowZC n g)).map D.lst = _
      unfold rowZC; rw [← fnL_map n (fun a => D.int (g a)) C.d, unD_map]; rfl
    · exact hk g _ fun x hx => hg x (by rw [hL.mem_iff]; simpa using hx)
abbrev N_law_ways : List Str := ["up", "many", "ranked", "ways", "rank", "x", "y"]
def W_law_ways : TSD := sSeq (sAsg (eCB dLen (aCons (eVar 0) (aNil))) (gN 1))
  (sSeq (sAsg (eCB (dSortedP false) (aCons (eLc false (iRange (eRg1 (eVar 1))) (gN 5) (tY) (eTup (aCons (eCB dLen (aCons (eLc false (iRange (eRg1 (eVar 1))) (gN 6) (eB (wBin dIx (wBin dIx (eVar 0) (eVar 6)) (eVar 5))) (eVar 6) [6]) (aNil))) (aCons (eVar 5) (aNil)))) [5]) (aNil))) (gN 2))
  (sSeq (sAsg (wBin (dMul true) (eLst false (aCons (eC (.int 0)) (aNil))) (eVar 1)) (gN 3))
  (sSeq (sFor (iAny (eVar 2)) (gT 2 (gsCons (gN 4) (gsCons (gN 5) (gsNil))))
  (sSetL (wBin (dAdd false) (eC (.int 1)) (eCB dSumA (aCons (eLc false (iRange (eRg1 (eVar 1))) (gN 6) (eB (wBin dIx (wBin dIx (eVar 0) (eVar 6)) (eVar 5))) (wBin dIx (eVar 3) (eVar 6)) [6]) (aNil)))) (eVar 3) (eVar 5)))
  (sRet (eCB dSumA (aCons (eVar 3) (aNil)))))))
theorem len_law_ways : ∀ cs S k kx, sp_law_ways cs S k kx → cs.length = 1 := by
  rintro cs S k kx ⟨n, m, rfl, _⟩; rfl
theorem rd_law_ways : ∀ cs S k kx, sp_law_ways cs S k kx → W_law_ways (DE k) (startE N_law_ways cs) S := by
  rintro cs S k kx ⟨n, R, rfl, rfl, hn, hk⟩
  refine ⟨_, tab_len, ?_⟩
  rw [fnL_len]
  refine rank_sort (kx := kF) hn fun L hL _ => ?_
  have hlt : ∀ x, x ∈ L → x < n := fun x hx => by simpa using hL.mem_iff.mp hx
  refine ⟨lez (by show 1 ≤ 1000000; decide), by omega, by omega, lez (by show 1 * n ≤ 1000000; omega), ?_⟩
  show newL true (List.replicate ((n : Nat) : Int).toNat [C.d (.int 0)]).flatten _ _
  rw [show (List.replicate ((n : Nat) : Int).toNat [C.d (.int 0)]).flatten = rowZC n (fun _ => 0) by rw [Int.toNat_natCast]; exact fnL_rep n _]
  refine newL_cell ?_
  refine ⟨fun i ρ' S' => ∃ (a b : Option C) (g : Nat → Int), ρ' = [some (.d (tabD n R)), some (.d (nI n)), some (.d (.lst (L.map fun x => pairN (cntB n R x, x)))), some (.c 0), a, b, none] ∧ S' = [some (.lst (rowZC n g))], ⟨none, none, _, rfl, rfl⟩, fun _ _ _ _ _ => trivial, ?_, ?_⟩
  · rintro i d ρ' S' hd ⟨a, b, g, rfl, rfl⟩
    obtain ⟨z, hz, rfl⟩ := at_map hd
    have hzn := hlt z (List.mem_of_getElem? hz)
    refine ⟨rfl, _, _, rfl, _, _, rfl, rfl, ?_⟩
    refine lc_below hn hzn rfl ?_
    refine ⟨_, z, rfl, by unfold rowZC; rw [fnL_len]; exact ixN_n hzn, ?_⟩
    refine ⟨_, _, fun y => if y = z then 1 + sm (List.range n) (fun y => if R y z = true then g y else 0) else g y, rfl, ?_⟩
    show [some (Own.lst ((rowZC n g).set z (.d (.int (1 + sm (List.range n) (fun y => if R y z = true then g y else 0))))))] = _
    rw [setZ hzn]
  · rintro ρ' S' ⟨a, b, g, rfl, rfl⟩
    refine ⟨fnL n g, ?_, hk _ _⟩
    show some (rowZC n g) = _
    unfold cInts rowZC; rw [fnL_map]
end PL

namespace PL
open PySem PySem.Spec L2
open PyProof.Rows hiding St
/-! ### a point more -/
def sp_law_with_point : SpD := fun cs S k kx => ∃ (n : Nat) (R : Nat → Nat → Bool) (us vs : List Nat), cs = [.d (tabD n R), .d (natsL us), .d (natsL vs)] ∧ S = [] ∧ n ≤ 500 ∧ ∀ S', k (.d (tabD (n + 1) (wpR n R us vs))) S'
theorem in_nats {x : Nat} {us : List Nat} {S : Sto} {k : C → Sto → Prop} (h : k (.d (.bl (decide (x ∈ us)))) S) : dInSeq (.d (nI x)) (.d (natsL us)) S k := by
  refine ⟨(x : Int), us.map Int.ofNat, rfl, ?_, ?_⟩
  · show some ((us.map nI).map C.d) = some (cInts (us.map Int.ofNat))
    unfold cInts; rw [List.map_map, List.map_map]; rfl
  · have : decide ((x : Int) ∈ us.map Int.ofNat) = decide (x ∈ us) := by
      refine decide_eq_decide.mpr ?_
      rw [List.mem_map]
      constructor
      · rintro ⟨y, hy, e⟩
        have : y = x := Int.ofNat.inj e
        exact this ▸ hy
      · intro h; exact ⟨x, h, rfl⟩
    show k (.d (.bl (if false = true then _ else decide ((x : Int) ∈ us.map Int.ofNat)))) S
    rw [this]; exact h
abbrev N_law_with_point : List Str := ["up", "under", "over", "table", "x", "y"]
def W_law_with_point : TSD := sSeq (sAsg (eLc false (iRange (eRg1 (eCB dLen (aCons (eVar 0) (aNil))))) (gN 4) (tY) (wBin (dAdd false) (wBin dIx (eVar 0) (eVar 4)) (eLst false (aCons (wBin dInSeq (eVar 4) (eVar 1)) (aNil)))) [4]) (gN 3))
  (sRet (wBin (dAdd false) (eVar 3) (eLst false (aCons (wBin (dAdd false) (eLc false (iRange (eRg1 (eCB dLen (aCons (eVar 0) (aNil))))) (gN 5) (tY) (wBin dInSeq (eVar 5) (eVar 2)) [5]) (eLst false (aCons (eC (.bl false)) (aNil)))) (aNil)))))
theorem len_law_with_point : ∀ cs S k kx, sp_law_with_point cs S k kx → cs.length = 3 := by
  rintro cs S k kx ⟨n, m, a, b, rfl, _⟩; rfl
theorem rd_law_with_point : ∀ cs S k kx, sp_law_with_point cs S k kx → W_law_with_point (DE k) (startE N_law_with_point cs) S := by
  rintro cs S k kx ⟨n, R, us, vs, rfl, rfl, hn, hk⟩
  refine ⟨_, tab_len, ?_⟩
  rw [fnL_len]
  refine ⟨rg_bd (by omega), ?_⟩
  refine lc_rg (n := n) (by omega) (fun _ => true) (fun i => .d (.lst ((rowB n (R i)) ++ [.bl (decide (i ∈ us))]))) ?_ ?_
  · intro i hi A B hA _
    refine ⟨_, tab_at hi, ?_⟩
    refine in_nats ⟨lez (by show 1 ≤ 1000000; decide), newL_data (ds := [.bl (decide (i ∈ us))]) ?_⟩
    refine ⟨lez (by simp only [List.length_map, fnL_len]; show n + 1 ≤ _; omega), ?_⟩
    rw [← List.map_append]
    exact newL_data (hA rfl)
  · rw [filter_all]
    refine newL_fn (f := fun i => .lst ((rowB n (R i)) ++ [.bl (decide (i ∈ us))])) ?_
    refine ⟨_, tab_len, ?_⟩
    rw [fnL_len]
    refine ⟨rg_bd (by omega), ?_⟩
    refine lc_rg (n := n) (by omega) (fun _ => true) (fun j => .d (.bl (decide (j ∈ vs)))) ?_ ?_
    · intro i hi A B hA _
      exact in_nats (hA rfl)
    · rw [filter_all]
      refine newL_fn (f := fun j => .bl (decide (j ∈ vs))) ?_
      refine ⟨lez (by decide), newL_data (ds := [.bl false]) ?_⟩
      refine ⟨lez (by simp only [List.length_map, fnL_len]; show n + 1 ≤ _; omega), ?_⟩
      rw [← List.map_append]
      refine newL_data ⟨lez (by show 1 ≤ 1000000; decide), newL_data (ds := [D.lst ((fnL n fun j => D.bl (decide (j ∈ vs))) ++ [D.bl false])]) ?_⟩
      refine ⟨lez (by simp only [List.length_map, fnL_len]; show n + 1 ≤ _; omega), ?_⟩
      rw [← List.map_append]
      refine newL_data ?_
      have : (fnL n fun i => D.lst ((rowB n (R i)) ++ [.bl (decide (i ∈ us))])) ++ [.lst ((fnL n fun j => D.bl (decide (j ∈ vs))) ++ [.bl false])] = fnL (n + 1) fun i => D.lst (fnL (n + 1) fun j => .bl (wpR n R us vs i j)) := by
        rw [fnL_succ]
        refine congr (congrArg _ (fnL_congr fun i hi => ?_)) (congrArg (fun t => [D.lst t]) ?_)
        · rw [fnL_succ, wp_bn hi]
          exact congrArg (fun t => D.lst (t ++ [D.bl (decide (i ∈ us))])) (fnL_congr (f := fun j => D.bl (R i j)) (g := fun j => D.bl (wpR n R us vs i j)) fun j hj => by rw [wp_bb hi hj])
        · rw [fnL_succ, wp_nn]
          exact congrArg (fun t => t ++ [D.bl false]) (fnL_congr (f := fun j => D.bl (decide (j ∈ vs))) (g := fun j => D.bl (wpR n R us vs n j)) fun j hj => by rw [wp_nb hj])
      rw [this]
      exact hk _
/-! ### some of the free points -/
def sp_law_some : SpD := fun cs S k kx => ∃ (t : Tape) (free : List Nat) (n : Nat) (R : Nat → Nat → Bool) (b : Bool), cs = [.c 0, .d (natsL free), .d (tabD n R), .d (.bl b)] ∧ S = T1 t ∧ TGood t ∧ n ≤ 500 ∧ free.length ≤ 500 ∧ (∀ y, y ∈ free → y < n) ∧ TransN n (fun x y => R x y = true) ∧
  ∀ (T : List Nat) (S' : Sto) (t' : Tape), (∀ y, y ∈ T → y ∈ free) → (b = true → ∀ x y, x ∈ T → y ∈ free → R x y = true → y ∈ T) → (b = false → ∀ x y, x ∈ T → y ∈ free → R y x = true → y ∈ T) → TGood t' → S'.own 0 = some (tapeO t') → k (.d (natsL T)) S'
theorem natsL_seq {xs : List Nat} {S : Sto} : seqOf S (.d (natsL xs)) = some (natsC xs) := rfl
theorem natsC_len (xs : List Nat) : (natsC xs).length = xs.length := by unfold natsC; rw [List.length_map, List.length_map]
theorem any_pos (ps : List Nat) (p : Nat → Bool) : decide ((0 : Int) < ((ps.filter p).length : Nat)) = ps.any p := by
  induction ps with
  | nil => rfl
  | cons a r ih =>
    rw [List.any_cons, List.filter_cons, ← ih]
    cases p a with
    | true => simp only [if_true, List.length_cons, Bool.true_or]; exact decide_eq_true (by omega)
    | false => simp
abbrev N_law_some : List Str := ["tape", "free", "up", "is_up", "picks", "k", "y", "x"]
def W_law_some : TSD := sSeq (sAsg (eLc false (iRange (eRg1 (eCall sp_law_draw (aCons (eVar 0) (aCons (eC (.int 3)) (aNil)))))) (gN 5) (eB (wBin dGt (eCB dLen (aCons (eVar 1) (aNil))) (eC (.int 0)))) (wBin dIx (eVar 1) (eCall sp_law_draw (aCons (eVar 0) (aCons (eCB dLen (aCons (eVar 1) (aNil))) (aNil))))) [5]) (gN 4))
  (sSeq (sIf (eB (eVar 3))
  (sRet (eLc false (iAny (eVar 1)) (gN 6) (eOrT (eB (wBin dInSeq (eVar 6) (eVar 4))) (eB (wBin dGt (eCB dLen (aCons (eLc false (iAny (eVar 4)) (gN 7) (eB (wBin dIx (wBin dIx (eVar 2) (eVar 7)) (eVar 6))) (eVar 7) [7]) (aNil))) (eC (.int 0))))) (eVar 6) [6]))
  (sNext))
  (sRet (eLc false (iAny (eVar 1)) (gN 6) (eOrT (eB (wBin dInSeq (eVar 6) (eVar 4))) (eB (wBin dGt (eCB dLen (aCons (eLc false (iAny (eVar 4)) (gN 7) (eB (wBin dIx (wBin dIx (eVar 2) (eVar 6)) (eVar 7))) (eVar 7) [7]) (aNil))) (eC (.int 0))))) (eVar 6) [6])))
theorem len_law_some : ∀ cs S k kx, sp_law_some cs S k kx → cs.length = 4 := by
  rintro cs S k kx ⟨n, m, a, b, c, rfl, _⟩; rfl
theorem rd_law_some : ∀ cs S k kx, sp_law_some cs S k kx → W_law_some (DE k) (startE N_law_some cs) S := by
  rintro cs S k kx ⟨t, free, n, R, b, rfl, rfl, g, hn, hfl, hfr, tr, hk⟩
  refine call_draw (t := t) (t1_own t) g (by decide) fun r t1 g1 hr => ?_
  refine ⟨rg_bd (by omega), fun i acc S' => ∃ (t' : Tape) (ps : List Nat), TGood t' ∧ S' = T1 t' ∧ acc = natsC ps ∧ (∀ p, p ∈ ps → p ∈ free) ∧ ps.length ≤ i, ⟨t1, [], g1, rfl, rfl, by simp, by simp⟩, fun _ _ _ _ _ => trivial, ?_, ?_⟩
  · rintro i d acc S' hd ⟨t', ps, g', rfl, rfl, hps, hpl⟩
    obtain ⟨hi, rfl⟩ := rg_at hd
    refine ⟨natsC free, rfl, ?_⟩
    have hle : (natsC free).length = free.length := natsC_len _
    show if decide ((0 : Int) < ((natsC free).length : Nat)) = true then _ else _
    rw [hle]
    split
    · rename_i h0
      have h0 : 0 < free.length := by have := of_decide_eq_true h0; omega
      refine ⟨_, natsL_seq, ?_⟩
      rw [natsC_len]
      refine call_draw (t := t') (t1_own t') g' (by omega) fun u t2 g2 hu => ?_
      have hu : u < free.length := by omega
      refine ⟨nI free[u], atI_nat (by rw [List.getElem?_map, List.getElem?_eq_getElem hu]; rfl), ltz (by omega), t2, ps ++ [free[u]], g2, rfl, ?_, ?_, by simp; omega⟩
      · unfold natsC; rw [List.map_append, List.map_append]; rfl
      · intro p hp
        rcases List.mem_append.mp hp with hp | hp
        · exact hps p hp
        · rw [List.mem_singleton] at hp; subst hp; exact List.getElem_mem hu
    · exact ⟨t', ps, g', rfl, rfl, hps, by omega⟩
  · rintro acc S' ⟨t', ps, g', rfl, rfl, hps, hpl⟩
    rw [rg_len] at hpl
    refine newL_data ?_
    have hpn : ∀ p, p ∈ ps → p < n := fun p hp => hfr p (hps p hp)
    have body : ∀ (Rx : Nat → Nat → Bool), (∀ y, y ∈ free → ∀ (A Bk : Sto → Prop), ((decide (y ∈ ps) || ps.any fun x => Rx x y) = true → A (T1 t')) → ((decide (y ∈ ps) || ps.any fun x => Rx x y) = false → Bk (T1 t')) → True) := fun _ _ _ _ _ _ _ => trivial
    show if b = true then _ else _
    split
    · rename_i hb
      refine lc_gen free nI (fun y => decide (y ∈ ps) || ps.any fun x => R x y) (fun y => .d (nI y)) (by omega) ?_ ?_
      · intro y hy A B hA hB
        refine in_nats ?_
        show if decide (y ∈ ps) = true then _ else _
        split
        · rename_i e; exact hA (by rw [e]; rfl)
        · rename_i e
          have e : decide (y ∈ ps) = false := Bool.eq_false_iff.mpr e
          refine lc_gen ps nI (fun x => R x y) (fun x => .d (nI x)) (by omega) ?_ ?_
          · intro x hx A B hA hB
            refine ⟨_, tab_at (hpn x hx), _, fnL_atI _ (hfr y hy), ?_⟩
            show if R x y = true then _ else _
            split
            · rename_i e; exact hA e
            · rename_i e; exact hB (Bool.eq_false_iff.mpr e)
          · rw [show ((ps.filter fun x => R x y).map fun x => C.d (nI x)) = ((ps.filter fun x => R x y).map nI).map C.d by rw [List.map_map]; rfl]
            refine newL_data ⟨_, rfl, ?_⟩
            rw [List.length_map, List.length_map]
            show if decide ((0 : Int) < ((ps.filter fun x => R x y).length : Nat)) = true then _ else _
            rw [any_pos]
            split
            · rename_i e2; exact hA (by rw [e, e2]; rfl)
            · rename_i e2; exact hB (by rw [e, Bool.eq_false_iff.mpr e2]; rfl)
      · rw [show ((free.filter fun y => decide (y ∈ ps) || ps.any fun x => R x y).map fun y => C.d (nI y)) = ((free.filter fun y => decide (y ∈ ps) || ps.any fun x => R x y).map nI).map C.d by rw [List.map_map]; rfl]
        refine newL_data ?_
        refine hk _ _ t' (fun y hy => (List.mem_filter.mp hy).1) (fun _ x y hx hy hxy => ?_) (fun e => by rw [hb] at e; cases e) g' rfl
        rw [List.mem_filter] at hx ⊢
        refine ⟨hy, ?_⟩
        have hx2 := hx.2
        rw [Bool.or_eq_true, List.any_eq_true] at hx2 ⊢
        rcases hx2 with h | ⟨p, hp, h⟩
        · exact .inr ⟨x, of_decide_eq_true h, hxy⟩
        · exact .inr ⟨p, hp, tr p x y (hpn p hp) (hfr x hx.1) (hfr y hy) h hxy⟩
    · rename_i hb
      refine lc_gen free nI (fun y => decide (y ∈ ps) || ps.any fun x => R y x) (fun y => .d (nI y)) (by omega) ?_ ?_
      · intro y hy A B hA hB
        refine in_nats ?_
        show if decide (y ∈ ps) = true then _ else _
        split
        · rename_i e; exact hA (by rw [e]; rfl)
        · rename_i e
          have e : decide (y ∈ ps) = false := Bool.eq_false_iff.mpr e
          refine lc_gen ps nI (fun x => R y x) (fun x => .d (nI x)) (by omega) ?_ ?_
          · intro x hx A B hA hB
            refine ⟨_, tab_at (hfr y hy), _, fnL_atI _ (hpn x hx), ?_⟩
            show if R y x = true then _ else _
            split
            · rename_i e; exact hA e
            · rename_i e; exact hB (Bool.eq_false_iff.mpr e)
          · rw [show ((ps.filter fun x => R y x).map fun x => C.d (nI x)) = ((ps.filter fun x => R y x).map nI).map C.d by rw [List.map_map]; rfl]
            refine newL_data ⟨_, rfl, ?_⟩
            rw [List.length_map, List.length_map]
            show if decide ((0 : Int) < ((ps.filter fun x => R y x).length : Nat)) = true then _ else _
            rw [any_pos]
            split
            · rename_i e2; exact hA (by rw [e, e2]; rfl)
            · rename_i e2; exact hB (by rw [e, Bool.eq_false_iff.mpr e2]; rfl)
      · rw [show ((free.filter fun y => decide (y ∈ ps) || ps.any fun x => R y x).map fun y => C.d (nI y)) = ((free.filter fun y => decide (y ∈ ps) || ps.any fun x => R y x).map nI).map C.d by rw [List.map_map]; rfl]
        refine newL_data ?_
        refine hk _ _ t' (fun y hy => (List.mem_filter.mp hy).1) (fun e => absurd e hb) (fun _ x y hx hy hxy => ?_) g' rfl
        rw [List.mem_filter] at hx ⊢
        refine ⟨hy, ?_⟩
        have hx2 := hx.2
        rw [Bool.or_eq_true, List.any_eq_true] at hx2 ⊢
        rcases hx2 with h | ⟨p, hp, h⟩
        · exact .inr ⟨x, of_decide_eq_true h, hxy⟩
        · exact .inr ⟨p, hp, tr y x p (hfr y hy) (hfr x hx.1) (hpn p hp) hxy h⟩
/-! ### grown -/
def sp_law_grown : SpD := fun cs S k kx => ∃ (t : Tape) (n : Nat) (R : Nat → Nat → Bool), cs = [.c 0, .d (tabD n R)] ∧ S = T1 t ∧ TGood t ∧ 0 < n ∧ n ≤ 400 ∧ Ord n R ∧
  ∀ (n' : Nat) (R' : Nat → Nat → Bool) (S' : Sto) (t' : Tape), 0 < n' → n' ≤ n + 1 → Ord n' R' → (∀ e, Chi n R e → Chi n' R' e) → TGood t' → S'.own 0 = some (tapeO t') → k (.d (tabD n' R')) S'
theorem lc_pick {n : Nat} {p : Nat → Bool} {g : TGD} {tt : TTD} {we : TD} {own : List Nat} {ρ : Env} {S : Sto} {k : C → Sto → Prop} (hn : n ≤ 500)
    (hstep : ∀ i, i < n → ∀ (A : C → Sto → Prop) (B : Sto → Prop), (p i = true → A (.d (nI i)) S) → (p i = false → B S) → g (.d (nI i)) (wipeE ρ own) S (fun ρ2 S2 => tt ρ2 S2 (fun b S3 => if b = true then we ρ2 S3 A kF else B S3) kF) kF)
    (h : k (.d (natsL ((List.range n).filter p))) S) :
    ∃ P : Nat → List C → Sto → Prop, P 0 [] S ∧ (∀ i acc S', i ≤ ((rgD 0 (n : Int)).map D.int).length → P i acc S' → True) ∧
  (∀ i d acc S', ((rgD 0 (n : Int)).map D.int)[i]? = some d → P i acc S' → g (.d d) (wipeE ρ own) S' (fun ρ2 S2 => tt ρ2 S2 (fun b S3 => if b = true then we ρ2 S3 (fun c S4 => acc.length < sizeLine ∧ P (i + 1) (acc ++ [c]) S4) kF else P (i + 1) acc S3) kF) kF) ∧
  ∀ acc S', P ((rgD 0 (n : Int)).map D.int).length acc S' → newL false acc S' k := by
  refine lc_rg (n := n) (by omega) p (fun i => .d (nI i)) hstep ?_
  rw [show (((List.range n).filter p).map fun i => C.d (nI i)) = (((List.range n).filter p).map nI).map C.d by rw [List.map_map]; rfl]
  exact newL_data h
abbrev N_law_grown : List Str := ["tape", "up", "many", "q", "low", "high", "table", "y"]
def W_law_grown : TSD := sSeq (sAsg (eCB dLen (aCons (eVar 1) (aNil))) (gN 2))
  (sSeq (sAsg (eCall sp_law_draw (aCons (eVar 0) (aCons (eVar 2) (aNil)))) (gN 3))
  (sSeq (sAsg (eLc false (iRange (eRg1 (eVar 2))) (gN 7) (eB (wBin dIx (wBin dIx (eVar 1) (eVar 7)) (eVar 3))) (eVar 7) [7]) (gN 4))
  (sSeq (sAsg (eLc false (iRange (eRg1 (eVar 2))) (gN 7) (eB (wBin dIx (wBin dIx (eVar 1) (eVar 3)) (eVar 7))) (eVar 7) [7]) (gN 5))
  (sSeq (sIf (eB (wBin dEq (eCall sp_law_draw (aCons (eVar 0) (aCons (eC (.int 2)) (aNil)))) (eC (.int 0))))
  (sAsg (eCall sp_law_with_point (aCons (eVar 1) (aCons (wBin (dAdd false) (eVar 4) (eLst false (aCons (eVar 3) (aNil)))) (aCons (eCall sp_law_some (aCons (eVar 0) (aCons (eVar 5) (aCons (eVar 1) (aCons (eC (.bl true)) (aNil)))))) (aNil))))) (gN 6))
  (sAsg (eCall sp_law_with_point (aCons (eVar 1) (aCons (eCall sp_law_some (aCons (eVar 0) (aCons (eVar 4) (aCons (eVar 1) (aCons (eC (.bl false)) (aNil)))))) (aCons (wBin (dAdd false) (eVar 5) (eLst false (aCons (eVar 3) (aNil)))) (aNil))))) (gN 6)))
  (sSeq (sIf (eB (wBin dGt (eCall sp_law_ways (aCons (eVar 6) (aNil))) (eC (.int 1200))))
  (sRet (eVar 1))
  (sNext))
  (sRet (eVar 6)))))))
theorem len_law_grown : ∀ cs S k kx, sp_law_grown cs S k kx → cs.length = 2 := by
  rintro cs S k kx ⟨n, m, a, rfl, _⟩; rfl
theorem rd_law_grown : ∀ cs S k kx, sp_law_grown cs S k kx → W_law_grown (DE k) (startE N_law_grown cs) S := by
  rintro cs S k kx ⟨t, n, R, rfl, rfl, g, h0, hn, hR, hk⟩
  refine ⟨_, tab_len, ?_⟩
  rw [fnL_len]
  refine call_draw (t := t) (t1_own t) g (by omega) fun q t1 g1 hq => ?_
  have hq : q < n := by omega
  refine ⟨rg_bd (by omega), ?_⟩
  refine lc_pick (n := n) (p := fun y => R y q) (by omega) ?_ ?_
  · intro y hy A B hA hB
    refine ⟨_, tab_at hy, _, fnL_atI _ hq, ?_⟩
    show if R y q = true then _ else _
    split
    · rename_i e; exact hA e
    · rename_i e; exact hB (Bool.eq_false_iff.mpr e)
  refine ⟨rg_bd (by omega), ?_⟩
  refine lc_pick (n := n) (p := fun y => R q y) (by omega) ?_ ?_
  · intro y hy A B hA hB
    refine ⟨_, tab_at hq, _, fnL_atI _ hy, ?_⟩
    show if R q y = true then _ else _
    split
    · rename_i e; exact hA e
    · rename_i e; exact hB (Bool.eq_false_iff.mpr e)
  have mlow : ∀ y, y ∈ (List.range n).filter (fun y => R y q) ↔ y < n ∧ R y q = true := fun y => by rw [List.mem_filter]; simp
  have mhigh : ∀ y, y ∈ (List.range n).filter (fun y => R q y) ↔ y < n ∧ R q y = true := fun y => by rw [List.mem_filter]; simp
  have llow : ((List.range n).filter (fun y => R y q)).length ≤ 400 := by refine Nat.le_trans (List.length_filter_le _ _) ?_; rw [List.length_range]; omega
  have lhigh : ((List.range n).filter (fun y => R q y)).length ≤ 400 := by refine Nat.le_trans (List.length_filter_le _ _) ?_; rw [List.length_range]; omega
  generalize (List.range n).filter (fun y => R y q) = low at mlow llow
  generalize (List.range n).filter (fun y => R q y) = high at mhigh lhigh
  -- the end
  have fin : ∀ (t' : Tape) (us vs : List Nat), TGood t' → Ord (n + 1) (wpR n R us vs) → (∀ e, Chi n R e → Chi (n + 1) (wpR n R us vs) e) →
      (sSeq (sIf (eB (wBin dGt (eCall sp_law_ways (aCons (eVar 6) (aNil))) (eC (.int 1200)))) (sRet (eVar 1)) (sNext)) (sRet (eVar 6))) (DE k) [some (.c 0), some (.d (tabD n R)), some (.d (nI n)), some (.d (nI q)), some (.d (natsL low)), some (.d (natsL high)), some (.d (tabD (n + 1) (wpR n R us vs))), none] (T1 t') := by
    intro t' us vs g' ho hc
    refine ⟨.inl ⟨rfl, n + 1, _, rfl, rfl, by omega, fun v _ => .inl ⟨_, rfl, ?_⟩⟩⟩
    show if decide ((1200 : Int) < v) = true then _ else _
    split
    · exact hk n R _ t' h0 (by omega) hR (fun _ h => h) g' rfl
    · exact hk (n + 1) _ _ t' (by omega) (Nat.le_refl _) ho hc g' rfl
  refine call_draw (t := t1) (t1_own t1) g1 (by decide) fun w t2 g2 hw => ?_
  show if decide ((w : Int) = 0) = true then _ else _
  split
  · refine ⟨lez (by show 1 ≤ 1000000; decide), newL_data (ds := [nI q]) ?_⟩
    refine ⟨lez (by simp only [List.length_map]; show low.length + 1 ≤ 1000000; omega), ?_⟩
    rw [← List.map_append]
    refine newL_data ?_
    refine ⟨.inr (.inl ⟨0, tapeO t2, [.c 0, .d (natsL high), .d (tabD n R), .d (.bl true)], rfl, tp_flat t2, rfl, t2, high, n, R, true, rfl, rfl, g2, by omega, by omega, fun y hy => ((mhigh y).mp hy).1, hR.tr, fun T S' t3 hT hup _ g3 h3 => ⟨_, tapeO t3, rfl, own_of h3, tp_flat t3, ?_⟩⟩)⟩
    have el : D.lst (low.map nI ++ [nI q]) = natsL (low ++ [q]) := by unfold natsL; rw [List.map_append]; rfl
    rw [el]
    refine ⟨.inl ⟨rfl, n, R, low ++ [q], T, rfl, rfl, by omega, fun _ => .inl ⟨_, rfl, ?_⟩⟩⟩
    have mus : ∀ y, y < n → (y ∈ low ++ [q] ↔ R y q = true ∨ y = q) := fun y hy => by
      rw [List.mem_append, List.mem_singleton, mlow]; constructor
      · rintro (h | h); exact .inl h.2; exact .inr h
      · rintro (h | h); exact .inl ⟨hy, h⟩; exact .inr h
    refine fin t3 (low ++ [q]) T g3 (wp_ord hR (fun a b ha hb hab h => ?_) (fun a b ha hb hab h => ?_) (fun a b ha hb h1 h2 => ?_)) (fun e he => wp_chi_up hR hq mus he)
    · rcases (mus b hb).mp h with h | h
      · exact (mus a ha).mpr (.inl (hR.tr a b q ha hb hq hab h))
      · subst h; exact (mus a ha).mpr (.inl hab)
    · have hah := (mhigh a).mp (hT a h)
      exact hup rfl a b h ((mhigh b).mpr ⟨hb, hR.tr q a b hq ha hb hah.2 hab⟩) hab
    · have hbh := (mhigh b).mp (hT b h2)
      rcases (mus a ha).mp h1 with h | h
      · exact hR.tr a q b ha hq hb h hbh.2
      · subst h; exact hbh.2
  · refine ⟨.inr (.inl ⟨0, tapeO t2, [.c 0, .d (natsL low), .d (tabD n R), .d (.bl false)], rfl, tp_flat t2, rfl, t2, low, n, R, false, rfl, rfl, g2, by omega, by omega, fun y hy => ((mlow y).mp hy).1, hR.tr, fun T S' t3 hT _ hdn g3 h3 => ⟨_, tapeO t3, rfl, own_of h3, tp_flat t3, ?_⟩⟩)⟩
    refine ⟨lez (by show 1 ≤ 1000000; decide), newL_data (ds := [nI q]) ?_⟩
    refine ⟨lez (by simp only [List.length_map]; show high.length + 1 ≤ 1000000; omega), ?_⟩
    rw [← List.map_append]
    refine newL_data ?_
    have el : D.lst (high.map nI ++ [nI q]) = natsL (high ++ [q]) := by unfold natsL; rw [List.map_append]; rfl
    rw [el]
    refine ⟨.inl ⟨rfl, n, R, T, high ++ [q], rfl, rfl, by omega, fun _ => .inl ⟨_, rfl, ?_⟩⟩⟩
    have mvs : ∀ y, y < n → (y ∈ high ++ [q] ↔ R q y = true ∨ y = q) := fun y hy => by
      rw [List.mem_append, List.mem_singleton, mhigh]; constructor
      · rintro (h | h); exact .inl h.2; exact .inr h
      · rintro (h | h); exact .inl ⟨hy, h⟩; exact .inr h
    refine fin t3 T (high ++ [q]) g3 (wp_ord hR (fun a b ha hb hab h => ?_) (fun a b ha hb hab h => ?_) (fun a b ha hb h1 h2 => ?_)) (fun e he => wp_chi_down hR hq mvs (fun y hy h => ((mlow y).mp (hT y h)).2) he)
    · have hbh := (mlow b).mp (hT b h)
      exact hdn rfl b a h ((mlow a).mpr ⟨ha, hR.tr a b q ha hb hq hab hbh.2⟩) hab
    · rcases (mvs a ha).mp h with h | h
      · exact (mvs b hb).mpr (.inl (hR.tr q a b hq ha hb h hab))
      · subst h; exact (mvs b hb).mpr (.inl hab)
    · have hah := (mlow a).mp (hT a h1)
      rcases (mvs b hb).mp h2 with h | h
      · exact hR.tr a q b ha hq hb hah.2 h
      · subst h; exact hah.2
end PL

/-! plain mathematics: a lowest and a highest point more; points hung under and over -/
namespace PL
open PySem PySem.Spec L2
open PyProof.Rows hiding St
def bndR (n : Nat) (R : Nat → Nat → Bool) : Nat → Nat → Bool := fun i j => if i < n then (if j < n then R i j else decide (j = n + 1)) else if i = n then decide (j < n ∨ j = n + 1) else false
section
variable {n : Nat} {R : Nat → Nat → Bool}
theorem bn_bb {i j : Nat} (hi : i < n) (hj : j < n) : bndR n R i j = R i j := by unfold bndR; rw [if_pos hi, if_pos hj]
theorem bn_bn {i : Nat} (hi : i < n) : bndR n R i n = false := by unfold bndR; rw [if_pos hi, if_neg (Nat.lt_irrefl _)]; exact decide_eq_false (by omega)
theorem bn_bt {i : Nat} (hi : i < n) : bndR n R i (n + 1) = true := by unfold bndR; rw [if_pos hi, if_neg (by omega)]; exact decide_eq_true rfl
theorem bn_nb {j : Nat} (hj : j < n) : bndR n R n j = true := by unfold bndR; rw [if_neg (Nat.lt_irrefl _), if_pos rfl]; exact decide_eq_true (.inl hj)
theorem bn_nn : bndR n R n n = false := by unfold bndR; rw [if_neg (Nat.lt_irrefl _), if_pos rfl]; exact decide_eq_false (by omega)
theorem bn_nt : bndR n R n (n + 1) = true := by unfold bndR; rw [if_neg (Nat.lt_irrefl _), if_pos rfl]; exact decide_eq_true (.inr rfl)
theorem bn_t {j : Nat} : bndR n R (n + 1) j = false := by unfold bndR; rw [if_neg (by omega), if_neg (by omega)]
theorem bn_ord (h : Ord n R) : Ord (n + 2) (bndR n R) := by
  have cs : ∀ x, x < n + 2 → x < n ∨ x = n ∨ x = n + 1 := fun x hx => by omega
  refine ⟨fun a b c ha hb hc h1 h2 => ?_, fun x hx => ?_⟩
  · change bndR n R a b = true at h1
    change bndR n R b c = true at h2
    show bndR n R a c = true
    rcases cs a ha with ha | ha | ha
    · rcases cs b hb with hb | hb | hb
      · rcases cs c hc with hc | hc | hc
        · rw [bn_bb ha hb] at h1; rw [bn_bb hb hc] at h2; rw [bn_bb ha hc]; exact h.tr a b c ha hb hc h1 h2
        · rw [hc, bn_bn hb] at h2; cases h2
        · rw [hc, bn_bt ha]
      · rw [hb, bn_bn ha] at h1; cases h1
      · rw [hb, bn_t] at h2; cases h2
    · rw [ha] at h1 ⊢
      rcases cs b hb with hb | hb | hb
      · rcases cs c hc with hc | hc | hc
        · rw [bn_nb hc]
        · rw [hc, bn_bn hb] at h2; cases h2
        · rw [hc, bn_nt]
      · rw [hb, bn_nn] at h1; cases h1
      · rw [hb, bn_t] at h2; cases h2
    · rw [ha, bn_t] at h1; cases h1
  · rcases cs x hx with hx | hx | hx
    · rw [bn_bb hx hx]; exact h.irr x hx
    · rw [hx]; exact bn_nn
    · rw [hx]; exact bn_t
end
/-- moebius from a further lowest to a further highest point -/
theorem call_moeb {n : Nat} {R : Nat → Nat → Bool} {π : Nat → Nat} {qs : List (Nat × Nat)} {due : Int} {ρ : Env} {S : Sto} {k : C → Sto → Prop} {kx : KX} (h : Ren (n + 2) π) (hn : n ≤ 400) (hR : Ord n R) (hq : qs.Perm (toldL (n + 2) (bndR n R) π (n + 2))) (hc : Chi n R due)
    (hk : k (.d (.int (due - 1))) S) : callD sp_moebius [.d (ordN (n + 2) qs), .d (nI (π n)), .d (nI (π (n + 1)))] ρ S k kx := by
  obtain ⟨g, g1, rfl⟩ := hc
  have hO := bn_ord hR
  have ei : ∀ u, u < n + 2 → ∃ a, a < n + 2 ∧ u = π a ∧ invP (n + 2) π u = a := fun u hu => by
    obtain ⟨a, ha, e⟩ := h.surj hu
    exact ⟨a, ha, e.symm, by rw [← e]; exact h.inv ha⟩
  let B : Nat → Nat → Bool := fun u v => bndR n R (invP (n + 2) π u) (invP (n + 2) π v)
  have eB : ∀ a b, a < n + 2 → b < n + 2 → B (π a) (π b) = bndR n R a b := fun a b ha hb => by
    show bndR n R (invP (n + 2) π (π a)) (invP (n + 2) π (π b)) = _
    rw [h.inv ha, h.inv hb]
  have hqB : ∀ u v, u < n + 2 → v < n + 2 → (B u v = true ↔ (u, v) ∈ qs) := fun u v hu hv => by
    obtain ⟨a, ha, rfl, _⟩ := ei u hu
    obtain ⟨b, hb, rfl, _⟩ := ei v hv
    rw [eB a b ha hb]
    constructor
    · intro e
      refine hq.mem_iff.mpr ?_
      unfold toldL
      refine List.mem_flatMap.mpr ⟨a, by simpa using ha, ?_⟩
      unfold toldX
      exact List.mem_map.mpr ⟨b, List.mem_filter.mpr ⟨by simpa using hb, e⟩, rfl⟩
    · intro e
      obtain ⟨a', b', ha', hb', hab, e2⟩ := mem_told hq e
      have e3 : π a = π a' := congrArg Prod.fst e2
      have e4 : π b = π b' := congrArg Prod.snd e2
      rw [h.inj ha ha' e3, h.inj hb hb' e4]; exact hab
  have hOB : Ord (n + 2) B := by
    refine ⟨fun u v w hu hv hw h1 h2 => ?_, fun u hu => ?_⟩
    · obtain ⟨a, ha, rfl, _⟩ := ei u hu
      obtain ⟨b, hb, rfl, _⟩ := ei v hv
      obtain ⟨c, hc, rfl, _⟩ := ei w hw
      change B (π a) (π b) = true at h1
      change B (π b) (π c) = true at h2
      show B (π a) (π c) = true
      rw [eB _ _ ha hb] at h1; rw [eB _ _ hb hc] at h2; rw [eB _ _ ha hc]
      exact hO.tr a b c ha hb hc h1 h2
    · obtain ⟨a, ha, rfl, _⟩ := ei u hu
      rw [eB _ _ ha ha]; exact hO.irr a ha
  have n2 : n < n + 2 := by omega
  have n3 : n + 1 < n + 2 := by omega
  refine ⟨.inl ⟨rfl, n + 2, qs, B, π n, π (n + 1), rfl, rfl, by omega, fun p hp => ?_, hqB, hOB, h.lt n2, h.lt n3, fun v _ hv => .inl ⟨_, rfl, ?_⟩⟩⟩
  · obtain ⟨a, b, ha, hb, _, rfl⟩ := mem_told hq hp
    exact ⟨h.lt ha, h.lt hb⟩
  · obtain ⟨μ', m0, mt, mb⟩ : ∃ μ' : Nat → Int, μ' n = 1 ∧ μ' (n + 1) = sm (List.range n) g - 1 ∧ ∀ i, i < n → μ' i = - g i := ⟨fun i => if i < n then - g i else if i = n then 1 else sm (List.range n) g - 1, by simp, (by show (if n + 1 < n then _ else if n + 1 = n then (1 : Int) else _) = _; rw [if_neg (by omega), if_neg (by omega)]), fun i hi => if_pos hi⟩
    have hle : ∀ a, a < n + 2 → leB B (π n) (π a) = decide (a = n ∨ bndR n R n a = true) := fun a ha => by
      unfold leB
      rw [eB n a n2 ha]
      by_cases e : a = n
      · subst e; simp
      · have : ¬ π n = π a := fun q => e (h.inj n2 ha q).symm
        rw [decide_eq_false this]; simp [e]
    have hmu : MuOk (n + 2) B (π n) (fun u => μ' (invP (n + 2) π u)) := by
      refine ⟨by show μ' (invP (n + 2) π (π n)) = 1; rw [h.inv n2, m0], fun z hz hxz => ?_⟩
      obtain ⟨c, hc, rfl, _⟩ := ei z hz
      rw [eB n c n2 hc] at hxz
      show μ' (invP (n + 2) π (π c)) = - sm (List.range (n + 2)) (fun w => if (leB B (π n) w && B w (π c)) = true then μ' (invP (n + 2) π w) else 0)
      rw [h.inv hc, h.sm]
      have e1 : PL.sm (List.range (n + 2)) (fun a => if (leB B (π n) (π a) && B (π a) (π c)) = true then μ' (invP (n + 2) π (π a)) else 0) = PL.sm (List.range (n + 2)) (fun a => if (decide (a = n ∨ bndR n R n a = true) && bndR n R a c) = true then μ' a else 0) := sm_lt_congr fun a ha => by
        rw [hle a ha, eB a c ha hc, h.inv ha]
      rw [e1, sm_range_succ, sm_range_succ, bn_t, m0]
      have e2 : PL.sm (List.range n) (fun a => if (decide (a = n ∨ bndR n R n a = true) && bndR n R a c) = true then μ' a else 0) = - PL.sm (List.range n) (fun a => if bndR n R a c = true then g a else 0) := by
        rw [← sm_neg]
        refine sm_lt_congr fun a ha => ?_
        rw [bn_nb ha, mb a ha]
        cases bndR n R a c <;> simp
      rw [e2, hxz]
      rcases (by omega : c < n ∨ c = n ∨ c = n + 1) with hc' | hc' | hc'
      · have e3 : PL.sm (List.range n) (fun a => if bndR n R a c = true then g a else 0) = PL.sm (List.range n) (fun a => if R a c = true then g a else 0) := sm_lt_congr fun a ha => by rw [bn_bb ha hc']
        rw [e3, mb c hc']
        have := g1 c hc'
        simp; omega
      · rw [hc', bn_nn] at hxz; cases hxz
      · have e3 : PL.sm (List.range n) (fun a => if bndR n R a c = true then g a else 0) = PL.sm (List.range n) g := sm_lt_congr fun a ha => by rw [hc', bn_bt ha, if_pos rfl]
        rw [e3, hc', mt]
        simp; omega
    have := hv _ hmu
    rw [hle (n + 1) n3, if_pos (decide_eq_true (.inr bn_nt)), h.inv n3, mt] at this
    rw [this]; exact hk
/-! ### points hung under and over -/
abbrev Spot := Nat × Nat × Nat
def hangsB (R : Nat → Nat → Bool) (a b : Spot) : Bool :=
  if a.1 = b.1 ∧ a.1 < 2 then decide (a.2.1 = b.2.1) && decide (a.2.2 < b.2.2)
  else if a.1 = 1 ∨ b.1 = 0 then false
  else if a.1 = b.1 then R a.2.1 b.2.1
  else decide (a.2.1 = b.2.1) || R a.2.1 b.2.1
structure SpotOk (n : Nat) (s : Spot) : Prop where
  k : s.1 ≤ 2
  x : s.2.1 < n
  l : s.2.2 ≤ 1
theorem hangs_iff {R : Nat → Nat → Bool} {a b : Spot} : hangsB R a b = true ↔ (a.1 = b.1 ∧ a.1 < 2 ∧ a.2.1 = b.2.1 ∧ a.2.2 < b.2.2) ∨ (a.1 = b.1 ∧ ¬ a.1 < 2 ∧ R a.2.1 b.2.1 = true) ∨ (a.1 ≠ b.1 ∧ a.1 ≠ 1 ∧ b.1 ≠ 0 ∧ (a.2.1 = b.2.1 ∨ R a.2.1 b.2.1 = true)) := by
  unfold hangsB
  by_cases e1 : a.1 = b.1
  · by_cases e2 : a.1 < 2
    · rw [if_pos ⟨e1, e2⟩, Bool.and_eq_true, decide_eq_true_eq, decide_eq_true_eq]
      constructor
      · rintro ⟨p, q⟩; exact .inl ⟨e1, e2, p, q⟩
      · rintro (⟨_, _, p, q⟩ | ⟨_, p, _⟩ | ⟨p, _⟩)
        · exact ⟨p, q⟩
        · exact absurd e2 p
        · exact absurd e1 p
    · rw [if_neg (fun q => e2 q.2), if_neg (by omega), if_pos e1]
      constructor
      · intro p; exact .inr (.inl ⟨e1, e2, p⟩)
      · rintro (⟨_, p, _⟩ | ⟨_, _, p⟩ | ⟨p, _⟩)
        · exact absurd p e2
        · exact p
        · exact absurd e1 p
  · rw [if_neg (fun q => e1 q.1)]
    by_cases e3 : a.1 = 1 ∨ b.1 = 0
    · rw [if_pos e3]
      constructor
      · intro p; cases p
      · rintro (⟨p, _⟩ | ⟨p, _⟩ | ⟨_, p, q, _⟩)
        · exact absurd p e1
        · exact absurd p e1
        · rcases e3 with e3 | e3
          · exact absurd e3 p
          · exact absurd e3 q
    · rw [if_neg e3, if_neg e1, Bool.or_eq_true, decide_eq_true_eq]
      rw [not_or] at e3
      constructor
      · intro p; exact .inr (.inr ⟨e1, e3.1, e3.2, p⟩)
      · rintro (⟨p, _⟩ | ⟨p, _⟩ | ⟨_, _, _, p⟩)
        · exact absurd p e1
        · exact absurd p e1
        · exact p
theorem hangs_tr {n : Nat} {R : Nat → Nat → Bool} (hR : Ord n R) {a b c : Spot} (ha : SpotOk n a) (hb : SpotOk n b) (hc : SpotOk n c) (h1 : hangsB R a b = true) (h2 : hangsB R b c = true) : hangsB R a c = true := by
  rw [hangs_iff] at *
  have tr := hR.tr a.2.1 b.2.1 c.2.1 ha.x hb.x hc.x
  have ka := ha.k; have kb := hb.k; have kc := hc.k
  rcases h1 with ⟨p1, p2, p3, p4⟩ | ⟨p1, p2, p3⟩ | ⟨p1, p2, p3, p4⟩ <;> rcases h2 with ⟨q1, q2, q3, q4⟩ | ⟨q1, q2, q3⟩ | ⟨q1, q2, q3, q4⟩
  · exact .inl ⟨by omega, p2, by omega, by omega⟩
  · omega
  · exact .inr (.inr ⟨by omega, by omega, q3, by rw [p3]; exact q4⟩)
  · omega
  · exact .inr (.inl ⟨by omega, p2, tr p3 q3⟩)
  · refine .inr (.inr ⟨by omega, by omega, q3, .inr ?_⟩)
    rcases q4 with q4 | q4
    · rw [← q4]; exact p3
    · exact tr p3 q4
  · exact .inr (.inr ⟨by omega, p2, by omega, by rw [← q3]; exact p4⟩)
  · refine .inr (.inr ⟨by omega, p2, by omega, .inr ?_⟩)
    rcases p4 with p4 | p4
    · rw [p4]; exact q3
    · exact tr p4 q3
  · refine .inr (.inr ⟨by omega, p2, q3, ?_⟩)
    rcases p4 with p4 | p4
    · rw [p4]; exact q4
    · rcases q4 with q4 | q4
      · rw [← q4]; exact .inr p4
      · exact .inr (tr p4 q4)
theorem hangs_irr {n : Nat} {R : Nat → Nat → Bool} (hR : Ord n R) {a : Spot} (ha : SpotOk n a) : hangsB R a a = false := by
  cases e : hangsB R a a with
  | false => rfl
  | true =>
    rw [hangs_iff] at e
    rcases e with ⟨_, _, _, p⟩ | ⟨_, _, p⟩ | ⟨p, _⟩
    · omega
    · rw [hR.irr _ ha.x] at p; cases p
    · exact absurd rfl p
def spotsL (n : Nat) (hs : List Spot) : List Spot := (fnL n fun x => (2, x, 0)) ++ hs
def hunR (R : Nat → Nat → Bool) (l : List Spot) : Nat → Nat → Bool := fun i j => hangsB R (l.getD i (0, 0, 0)) (l.getD j (0, 0, 0))
theorem spots_ok {n : Nat} {hs : List Spot} (h : ∀ s, s ∈ hs → SpotOk n s) : ∀ s, s ∈ spotsL n hs → SpotOk n s := by
  intro s hm
  rcases List.mem_append.mp hm with hm | hm
  · obtain ⟨x, hx, rfl⟩ := fnL_mem.mp hm
    exact ⟨Nat.le_refl _, hx, Nat.zero_le _⟩
  · exact h s hm
theorem getD_mem {l : List Spot} {i : Nat} (h : i < l.length) : l.getD i (0, 0, 0) ∈ l := by
  rw [List.getD_eq_getElem?_getD, List.getElem?_eq_getElem h]; exact List.getElem_mem h
theorem hun_ord {n : Nat} {R : Nat → Nat → Bool} (hR : Ord n R) {l : List Spot} (h : ∀ s, s ∈ l → SpotOk n s) : Ord l.length (hunR R l) :=
  ⟨fun a b c ha hb hc h1 h2 => hangs_tr hR (h _ (getD_mem ha)) (h _ (getD_mem hb)) (h _ (getD_mem hc)) h1 h2, fun x hx => hangs_irr hR (h _ (getD_mem hx))⟩
theorem sm_getD (l : List Spot) (F : Spot → Int) : sm (List.range l.length) (fun i => F (l.getD i (0, 0, 0))) = sm l F := by
  conv => rhs; rw [fnL_of l (0, 0, 0)]
  unfold fnL
  rw [sm_map]
theorem hun_chi {n : Nat} {R : Nat → Nat → Bool} {e : Int} {hs : List Spot} (hR : Ord n R) (h : ∀ s, s ∈ hs → SpotOk n s ∧ s.1 < 2) (hc : Chi n R e) : Chi (spotsL n hs).length (hunR R (spotsL n hs)) e := by
  obtain ⟨g, g1, rfl⟩ := hc
  let c0 : Nat → Int := fun x => sm hs fun s => if s.1 = 0 ∧ s.2.1 = x ∧ s.2.2 = 0 then 1 else 0
  let γ : Spot → Int := fun s => if s.2.2 = 0 then 1 else 1 - c0 s.2.1
  let U : Nat → Int := fun x => sm hs fun s => if s.1 = 0 ∧ s.2.1 = x then γ s else 0
  let G : Spot → Int := fun s => if s.1 = 2 then g s.2.1 - U s.2.1 else if s.1 = 0 then γ s else 0
  have sp : ∀ F : Spot → Int, sm (spotsL n hs) F = sm (List.range n) (fun x => F (2, x, 0)) + sm hs F := fun F => by
    unfold spotsL
    rw [sm_append]
    unfold fnL
    rw [sm_map]
  have sw : ∀ p : Nat → Bool, sm (List.range n) (fun y => if p y = true then U y else 0) = sm hs (fun s => if s.1 = 0 ∧ p s.2.1 = true then γ s else 0) := fun p => by
    have e1 : sm (List.range n) (fun y => if p y = true then U y else 0) = sm (List.range n) (fun y => sm hs fun s => if p y = true ∧ s.1 = 0 ∧ s.2.1 = y then γ s else 0) := sm_lt_congr fun y _ => by
      by_cases q : p y = true
      · rw [if_pos q]; exact sm_congr fun s _ => by simp [q]
      · rw [if_neg q]; exact (sm_zero' fun s _ => by rw [if_neg (fun z => q z.1)]).symm
    rw [e1, sm_swap]
    refine sm_congr fun s hs' => ?_
    have : sm (List.range n) (fun y => if p y = true ∧ s.1 = 0 ∧ s.2.1 = y then γ s else 0) = sm (List.range n) (fun y => if y = s.2.1 then (if s.1 = 0 ∧ p s.2.1 = true then γ s else 0) else 0) := sm_lt_congr fun y _ => by
      by_cases q : y = s.2.1
      · subst q; rw [if_pos rfl]; simp only [and_true]; congr 1; exact propext ⟨fun z => ⟨z.2, z.1⟩, fun z => ⟨z.2, z.1⟩⟩
      · rw [if_neg q, if_neg (fun z => q z.2.2.symm)]
    rw [this, sm_if_eq List.nodup_range, if_pos (by simpa using (h s hs').1.x)]
  have sub1 : ∀ p : Nat → Bool, sm (List.range n) (fun y => if p y = true then g y - U y else 0) = sm (List.range n) (fun y => if p y = true then g y else 0) - sm hs (fun s => if s.1 = 0 ∧ p s.2.1 = true then γ s else 0) := fun p => by
    rw [← sw p]
    have : sm (List.range n) (fun y => if p y = true then g y - U y else 0) = sm (List.range n) (fun y => (if p y = true then g y else 0) + - (if p y = true then U y else 0)) := sm_lt_congr fun y _ => by split <;> omega
    rw [this, sm_add, sm_neg]; omega
  have key : ∀ s, s ∈ spotsL n hs → G s + sm (spotsL n hs) (fun s' => if hangsB R s' s = true then G s' else 0) = 1 := by
    intro s hs'
    have hok := spots_ok (fun s hs => (h s hs).1) s hs'
    rw [sp]
    rcases (by have := hok.k; omega : s.1 = 2 ∨ s.1 = 0 ∨ s.1 = 1) with hk | hk | hk
    · -- a point of the first order
      have e1 : sm (List.range n) (fun y => if hangsB R (2, y, 0) s = true then G (2, y, 0) else 0) = sm (List.range n) (fun y => if R y s.2.1 = true then g y - U y else 0) := sm_lt_congr fun y _ => by
        have : hangsB R (2, y, 0) s = R y s.2.1 := by
          unfold hangsB
          show (if 2 = s.1 ∧ 2 < 2 then _ else _) = _
          rw [if_neg (by omega), if_neg (by show ¬ (2 = 1 ∨ s.1 = 0); omega), if_pos (by show 2 = s.1; omega)]
        rw [this]; rfl
      have e2 : sm hs (fun s' => if hangsB R s' s = true then G s' else 0) = sm hs (fun s' => (if s'.1 = 0 ∧ s'.2.1 = s.2.1 then γ s' else 0) + (if s'.1 = 0 ∧ R s'.2.1 s.2.1 = true then γ s' else 0)) := sm_congr fun s' hs2 => by
        have h2 := (h s' hs2).2
        by_cases e0 : s'.1 = 0
        · have : hangsB R s' s = (decide (s'.2.1 = s.2.1) || R s'.2.1 s.2.1) := by
            unfold hangsB
            rw [if_neg (by omega), if_neg (by omega), if_neg (by omega)]
          rw [this]
          have hG : G s' = γ s' := by show (if s'.1 = 2 then _ else if s'.1 = 0 then γ s' else 0) = _; rw [if_neg (by omega), if_pos e0]
          rw [hG]
          by_cases e3 : s'.2.1 = s.2.1
          · simp [e0, e3, hR.irr _ hok.x]
          · simp [e3, e0]
        · have : hangsB R s' s = false := by
            unfold hangsB
            rw [if_neg (by omega), if_pos (by omega)]
          rw [this]; simp [e0]
      rw [e1, e2, sub1 (fun y => R y s.2.1), sm_add]
      have hG : G s = g s.2.1 - U s.2.1 := if_pos hk
      rw [hG]
      have := g1 s.2.1 hok.x
      show g s.2.1 - (sm hs fun s' => if s'.1 = 0 ∧ s'.2.1 = s.2.1 then γ s' else 0) + _ = 1
      omega
    · -- a point hung under
      have e1 : sm (List.range n) (fun y => if hangsB R (2, y, 0) s = true then G (2, y, 0) else 0) = 0 := sm_zero' fun y _ => by
        have : hangsB R (2, y, 0) s = false := by
          unfold hangsB
          rw [if_neg (by show ¬ (2 = s.1 ∧ 2 < 2); omega), if_pos (by show 2 = 1 ∨ s.1 = 0; omega)]
        rw [this]; rfl
      have e2 : sm hs (fun s' => if hangsB R s' s = true then G s' else 0) = if s.2.2 = 0 then 0 else c0 s.2.1 := by
        split
        · rename_i e0
          refine sm_zero' fun s' hs2 => ?_
          have : hangsB R s' s = false := by
            cases q : hangsB R s' s with
            | false => rfl
            | true => rw [hangs_iff] at q; have := (h s' hs2).2; omega
          rw [this]; rfl
        · rename_i e0
          refine sm_congr fun s' hs2 => ?_
          have h2 := (h s' hs2).2
          have hl := hok.l
          by_cases q : s'.1 = 0 ∧ s'.2.1 = s.2.1 ∧ s'.2.2 = 0
          · have : hangsB R s' s = true := by rw [hangs_iff]; exact .inl ⟨by omega, h2, q.2.1, by omega⟩
            rw [this, if_pos rfl, if_pos q]
            show (if s'.1 = 2 then _ else if s'.1 = 0 then γ s' else 0) = 1
            rw [if_neg (by omega), if_pos q.1]
            exact if_pos q.2.2
          · have : hangsB R s' s = false := by
              cases z : hangsB R s' s with
              | false => rfl
              | true => rw [hangs_iff] at z; exfalso; apply q; omega
            rw [this, if_neg q]; rfl
      have hG : G s = γ s := by show (if s.1 = 2 then _ else if s.1 = 0 then γ s else 0) = _; rw [if_neg (by omega), if_pos hk]
      rw [e1, e2, hG]
      show (if s.2.2 = 0 then 1 else 1 - c0 s.2.1) + (0 + if s.2.2 = 0 then 0 else c0 s.2.1) = 1
      split <;> omega
    · -- a point hung over
      have e1 : sm (List.range n) (fun y => if hangsB R (2, y, 0) s = true then G (2, y, 0) else 0) = sm (List.range n) (fun y => if (decide (y = s.2.1) || R y s.2.1) = true then g y - U y else 0) := sm_lt_congr fun y _ => by
        have : hangsB R (2, y, 0) s = (decide (y = s.2.1) || R y s.2.1) := by
          unfold hangsB
          rw [if_neg (by show ¬ (2 = s.1 ∧ 2 < 2); omega), if_neg (by show ¬ (2 = 1 ∨ s.1 = 0); omega), if_neg (by show ¬ 2 = s.1; omega)]
        rw [this]; rfl
      have e2 : sm hs (fun s' => if hangsB R s' s = true then G s' else 0) = sm hs (fun s' => if s'.1 = 0 ∧ (decide (s'.2.1 = s.2.1) || R s'.2.1 s.2.1) = true then γ s' else 0) := sm_congr fun s' hs2 => by
        have h2 := (h s' hs2).2
        by_cases e0 : s'.1 = 0
        · have : hangsB R s' s = (decide (s'.2.1 = s.2.1) || R s'.2.1 s.2.1) := by
            unfold hangsB
            rw [if_neg (by omega), if_neg (by omega), if_neg (by omega)]
          rw [this]
          have hG : G s' = γ s' := by show (if s'.1 = 2 then _ else if s'.1 = 0 then γ s' else 0) = _; rw [if_neg (by omega), if_pos e0]
          rw [hG]; simp [e0]
        · have hG : G s' = 0 := by show (if s'.1 = 2 then _ else if s'.1 = 0 then γ s' else 0) = _; rw [if_neg (by omega), if_neg e0]
          rw [hG]; simp [e0]
      have hG : G s = 0 := by show (if s.1 = 2 then _ else if s.1 = 0 then γ s else 0) = _; rw [if_neg (by omega), if_neg (by omega)]
      rw [e1, e2, sub1 (fun y => decide (y = s.2.1) || R y s.2.1), hG]
      have e3 : sm (List.range n) (fun y => if (decide (y = s.2.1) || R y s.2.1) = true then g y else 0) = sm (List.range n) (fun y => (if R y s.2.1 = true then g y else 0) + (if y = s.2.1 then g y else 0)) := sm_lt_congr fun y hy => by
        by_cases q : y = s.2.1
        · subst q; rw [hR.irr _ hok.x]; simp
        · simp [q]
      rw [e3, sm_add, sm_if_eq List.nodup_range, if_pos (by simpa using hok.x)]
      have := g1 s.2.1 hok.x
      omega
  refine ⟨fun i => G ((spotsL n hs).getD i (0, 0, 0)), fun i hi => ?_, ?_⟩
  · have := key _ (getD_mem hi)
    rw [← sm_getD] at this
    exact this
  · rw [sm_getD, sp]
    have e1 : sm (List.range n) (fun x => G (2, x, 0)) = sm (List.range n) (fun y => if (fun _ => true) y = true then g y - U y else 0) := rfl
    rw [e1, sub1 (fun _ => true)]
    have e2 : sm hs G = sm hs (fun s => if s.1 = 0 ∧ (fun _ => true) s.2.1 = true then γ s else 0) := sm_congr fun s hs2 => by
      have h2 := (h s hs2).2
      show (if s.1 = 2 then _ else if s.1 = 0 then γ s else 0) = _
      rw [if_neg (by omega)]
      by_cases q : s.1 = 0
      · rw [if_pos q, if_pos ⟨q, rfl⟩]
      · rw [if_neg q, if_neg (fun z => q z.1)]
    rw [e2]
    simp only [if_true]
    show sm (List.range n) g = sm (List.range n) (fun y => g y) - _ + _
    have e9 : sm (List.range n) (fun y => g y) = sm (List.range n) g := rfl
    rw [e9]; omega
end PL

namespace PL
open PySem PySem.Spec L2
open PyProof.Rows hiding St
def spotD (s : Spot) : D := .tup [nI s.1, nI s.2.1, nI s.2.2]
def sp_law_hangs : SpD := fun cs S k kx => ∃ (n : Nat) (R : Nat → Nat → Bool) (a b : Spot), cs = [.d (tabD n R), .d (spotD a), .d (spotD b)] ∧ S = [] ∧ a.2.1 < n ∧ b.2.1 < n ∧ ∀ S', k (.d (.bl (hangsB R a b))) S'
theorem nat_eqb (a b : Nat) : decide ((a : Int) = b) = decide (a = b) := decide_eq_decide.mpr (by omega)
theorem nat_ltb (a b : Nat) : decide ((a : Int) < b) = decide (a < b) := decide_eq_decide.mpr (by omega)
abbrev N_law_hangs : List Str := ["up", "one", "other"]
def W_law_hangs : TSD := sSeq (sIf (eAndT (eB (wBin dEq (wBin dIx (eVar 1) (eC (.int 0))) (wBin dIx (eVar 2) (eC (.int 0))))) (eB (wBin dLt (wBin dIx (eVar 1) (eC (.int 0))) (eC (.int 2)))))
  (sRet (eAndV (wBin dEq (wBin dIx (eVar 1) (eC (.int 1))) (wBin dIx (eVar 2) (eC (.int 1)))) (wBin dLt (wBin dIx (eVar 1) (eC (.int 2))) (wBin dIx (eVar 2) (eC (.int 2))))))
  (sNext))
  (sSeq (sIf (eOrT (eB (wBin dEq (wBin dIx (eVar 1) (eC (.int 0))) (eC (.int 1)))) (eB (wBin dEq (wBin dIx (eVar 2) (eC (.int 0))) (eC (.int 0)))))
  (sRet (eC (.bl false)))
  (sNext))
  (sSeq (sIf (eB (wBin dEq (wBin dIx (eVar 1) (eC (.int 0))) (wBin dIx (eVar 2) (eC (.int 0)))))
  (sRet (wBin dIx (wBin dIx (eVar 0) (wBin dIx (eVar 1) (eC (.int 1)))) (wBin dIx (eVar 2) (eC (.int 1)))))
  (sNext))
  (sRet (eOrV (wBin dEq (wBin dIx (eVar 1) (eC (.int 1))) (wBin dIx (eVar 2) (eC (.int 1)))) (wBin dIx (wBin dIx (eVar 0) (wBin dIx (eVar 1) (eC (.int 1)))) (wBin dIx (eVar 2) (eC (.int 1))))))))
theorem len_law_hangs : ∀ cs S k kx, sp_law_hangs cs S k kx → cs.length = 3 := by
  rintro cs S k kx ⟨n, m, a, b, rfl, _⟩; rfl
theorem rd_law_hangs : ∀ cs S k kx, sp_law_hangs cs S k kx → W_law_hangs (DE k) (startE N_law_hangs cs) S := by
  rintro cs S k kx ⟨n, R, a, b, rfl, rfl, ha, hb, hk⟩
  have hk := hk []
  have rest : ¬ (a.1 = b.1 ∧ a.1 < 2) → (sSeq (sIf (eOrT (eB (wBin dEq (wBin dIx (eVar 1) (eC (.int 0))) (eC (.int 1)))) (eB (wBin dEq (wBin dIx (eVar 2) (eC (.int 0))) (eC (.int 0)))))
  (sRet (eC (.bl false)))
  (sNext))
  (sSeq (sIf (eB (wBin dEq (wBin dIx (eVar 1) (eC (.int 0))) (wBin dIx (eVar 2) (eC (.int 0)))))
  (sRet (wBin dIx (wBin dIx (eVar 0) (wBin dIx (eVar 1) (eC (.int 1)))) (wBin dIx (eVar 2) (eC (.int 1)))))
  (sNext))
  (sRet (eOrV (wBin dEq (wBin dIx (eVar 1) (eC (.int 1))) (wBin dIx (eVar 2) (eC (.int 1)))) (wBin dIx (wBin dIx (eVar 0) (wBin dIx (eVar 1) (eC (.int 1)))) (wBin dIx (eVar 2) (eC (.int 1)))))))) (DE k) [some (.d (tabD n R)), some (.d (spotD a)), some (.d (spotD b))] [] := by
    intro hn
    unfold hangsB at hk
    rw [if_neg hn] at hk
    have r3 : (¬ (a.1 = 1 ∨ b.1 = 0)) → (sSeq (sIf (eB (wBin dEq (wBin dIx (eVar 1) (eC (.int 0))) (wBin dIx (eVar 2) (eC (.int 0)))))
  (sRet (wBin dIx (wBin dIx (eVar 0) (wBin dIx (eVar 1) (eC (.int 1)))) (wBin dIx (eVar 2) (eC (.int 1)))))
  (sNext))
  (sRet (eOrV (wBin dEq (wBin dIx (eVar 1) (eC (.int 1))) (wBin dIx (eVar 2) (eC (.int 1)))) (wBin dIx (wBin dIx (eVar 0) (wBin dIx (eVar 1) (eC (.int 1)))) (wBin dIx (eVar 2) (eC (.int 1))))))) (DE k) [some (.d (tabD n R)), some (.d (spotD a)), some (.d (spotD b))] [] := by
      intro h3
      rw [if_neg h3] at hk
      refine ⟨_, rfl, _, rfl, ?_⟩
      show if decide ((a.1 : Int) = b.1) = true then _ else _
      rw [nat_eqb]
      split
      · rename_i e
        rw [if_pos (of_decide_eq_true e)] at hk
        exact ⟨_, rfl, _, tab_at ha, _, rfl, _, fnL_atI _ hb, hk⟩
      · rename_i e
        rw [if_neg (fun q => e (decide_eq_true q))] at hk
        refine ⟨_, rfl, _, rfl, ?_⟩
        show if decide ((a.2.1 : Int) = b.2.1) = true then _ else _
        rw [nat_eqb]
        split
        · rename_i e2; rw [e2] at hk; exact hk
        · rename_i e2
          rw [Bool.eq_false_iff.mpr e2] at hk
          exact ⟨_, rfl, _, tab_at ha, _, rfl, _, fnL_atI _ hb, hk⟩
    refine ⟨_, rfl, ?_⟩
    show if decide ((a.1 : Int) = 1) = true then _ else _
    split
    · rename_i e
      have e := of_decide_eq_true e
      rw [if_pos (.inl (by omega))] at hk; exact hk
    · rename_i e
      have e : ¬ (a.1 : Int) = 1 := fun q => e (decide_eq_true q)
      refine ⟨_, rfl, ?_⟩
      show if decide ((b.1 : Int) = 0) = true then _ else _
      split
      · rename_i e2
        have e2 := of_decide_eq_true e2
        rw [if_pos (.inr (by omega))] at hk; exact hk
      · rename_i e2
        have e2 : ¬ (b.1 : Int) = 0 := fun q => e2 (decide_eq_true q)
        exact r3 (by omega)
  refine ⟨_, rfl, _, rfl, ?_⟩
  show if decide ((a.1 : Int) = b.1) = true then _ else _
  split
  · rename_i e
    have e := of_decide_eq_true e
    refine ⟨_, rfl, ?_⟩
    show if decide ((a.1 : Int) < 2) = true then _ else _
    split
    · rename_i e2
      have e2 := of_decide_eq_true e2
      unfold hangsB at hk
      rw [if_pos ⟨by omega, by omega⟩] at hk
      refine ⟨_, rfl, _, rfl, ?_⟩
      show if decide ((a.2.1 : Int) = b.2.1) = true then _ else _
      rw [nat_eqb]
      split
      · rename_i e3
        rw [e3] at hk
        refine ⟨_, rfl, _, rfl, ?_⟩
        show k (.d (.bl (decide ((a.2.2 : Int) < b.2.2)))) []
        rw [nat_ltb]; exact hk
      · rename_i e3
        rw [Bool.eq_false_iff.mpr e3] at hk; exact hk
    · rename_i e2
      have e2 : ¬ (a.1 : Int) < 2 := fun q => e2 (decide_eq_true q)
      exact rest (by omega)
  · rename_i e
    have e : ¬ (a.1 : Int) = b.1 := fun q => e (decide_eq_true q)
    exact rest (by omega)
/-! ### the hung table -/
def hunD (hs : List Spot) : D := .lst (hs.map spotD)
def sp_law_hung_table : SpD := fun cs S k kx => ∃ (n : Nat) (R : Nat → Nat → Bool) (hs : List Spot), cs = [.d (tabD n R), .d (hunD hs)] ∧ S = [] ∧ n ≤ 400 ∧ hs.length ≤ 100 ∧ (∀ s, s ∈ hs → s.2.1 < n) ∧ ∀ S', k (.d (tabD (spotsL n hs).length (hunR R (spotsL n hs)))) S'
theorem tab_spots (R : Nat → Nat → Bool) (l : List Spot) : D.lst (l.map fun a => D.lst (l.map fun b => D.bl (hangsB R a b))) = tabD l.length (hunR R l) := by
  unfold tabD hunR
  have e : ∀ f : Spot → D, l.map f = fnL l.length fun i => f (l.getD i (0, 0, 0)) := fun f => by
    conv => lhs; rw [fnL_of l (0, 0, 0)]
    rw [fnL_map]
  rw [e]
  exact congrArg D.lst (fnL_congr fun i _ => by rw [e])
abbrev N_law_hung_table : List Str := ["up", "hung", "spots", "one", "x", "other"]
def W_law_hung_table : TSD := sSeq (sAsg (wBin (dAdd false) (eLc false (iRange (eRg1 (eCB dLen (aCons (eVar 0) (aNil))))) (gN 4) (tY) (eTup (aCons (eC (.int 2)) (aCons (eVar 4) (aCons (eC (.int 0)) (aNil))))) [4]) (eVar 1)) (gN 2))
  (sRet (eLc false (iAny (eVar 2)) (gN 3) (tY) (eLc false (iAny (eVar 2)) (gN 5) (tY) (eCall sp_law_hangs (aCons (eVar 0) (aCons (eVar 3) (aCons (eVar 5) (aNil))))) [5]) [3]))
theorem len_law_hung_table : ∀ cs S k kx, sp_law_hung_table cs S k kx → cs.length = 2 := by
  rintro cs S k kx ⟨n, m, a, rfl, _⟩; rfl
theorem rd_law_hung_table : ∀ cs S k kx, sp_law_hung_table cs S k kx → W_law_hung_table (DE k) (startE N_law_hung_table cs) S := by
  rintro cs S k kx ⟨n, R, hs, rfl, rfl, hn, hl, hx, hk⟩
  refine ⟨_, tab_len, ?_⟩
  rw [fnL_len]
  refine ⟨rg_bd (by omega), ?_⟩
  refine lc_rg (n := n) (by omega) (fun _ => true) (fun x => .d (spotD (2, x, 0))) ?_ ?_
  · intro i hi A B hA _
    exact ⟨lez (by show 3 ≤ 1000000; decide), newT_data (ds := [nI 2, nI i, nI 0]) (hA rfl)⟩
  · rw [filter_all]
    refine newL_fn (f := fun x => spotD (2, x, 0)) ?_
    refine ⟨lez (by simp only [List.length_map, fnL_len]; omega), ?_⟩
    rw [← List.map_append]
    refine newL_data ?_
    have e : (fnL n fun x => spotD (2, x, 0)) ++ hs.map spotD = (spotsL n hs).map spotD := by unfold spotsL; rw [List.map_append, fnL_map]
    rw [e]
    have hk := hk []
    rw [← tab_spots] at hk
    have hlx : ∀ s, s ∈ spotsL n hs → s.2.1 < n := fun s hm => by
      rcases List.mem_append.mp hm with hm | hm
      · obtain ⟨x, hx, rfl⟩ := fnL_mem.mp hm; exact hx
      · exact hx s hm
    have hll : (spotsL n hs).length ≤ 500 := by unfold spotsL; rw [List.length_append, fnL_len]; omega
    generalize spotsL n hs = l at hk hlx hll
    refine lc_gen l spotD (fun _ => true) (fun a => .d (.lst (l.map fun b => D.bl (hangsB R a b)))) (by omega) ?_ ?_
    · intro a ha A B hA _
      refine lc_gen l spotD (fun _ => true) (fun b => .d (.bl (hangsB R a b))) (by omega) ?_ ?_
      · intro b hb A B hA _
        exact ⟨.inl ⟨rfl, n, R, a, b, rfl, rfl, hlx a ha, hlx b hb, fun _ => .inl ⟨_, rfl, hA rfl⟩⟩⟩
      · rw [filter_all, show (l.map fun b => C.d (.bl (hangsB R a b))) = (l.map fun b => D.bl (hangsB R a b)).map C.d by rw [List.map_map]; rfl]
        exact newL_data (hA rfl)
    · rw [filter_all, show (l.map fun a => C.d (.lst (l.map fun b => D.bl (hangsB R a b)))) = (l.map fun a => D.lst (l.map fun b => D.bl (hangsB R a b))).map C.d by rw [List.map_map]; rfl]
      exact newL_data hk
/-! ### hung points, drawn -/
def sp_law_hung : SpD := fun cs S k kx => ∃ (t : Tape) (n : Nat) (R : Nat → Nat → Bool) (most : Nat) (cap : Int), cs = [.c 0, .d (tabD n R), .d (nI most), .d (.int cap)] ∧ S = T1 t ∧ TGood t ∧ n ≤ 400 ∧ most ≤ 100 ∧
  ∀ (hs : List Spot) (S' : Sto) (t' : Tape), hs.length ≤ 100 → (∀ s, s ∈ hs → SpotOk n s ∧ s.1 < 2) → TGood t' → S'.own 0 = some (tapeO t') → k (.d (hunD hs)) S'
def hunC (hs : List Spot) : List C := (hs.map spotD).map C.d
structure HS (S : Sto) (j n : Nat) (hs : List Spot) : Prop where
  tp : ∃ t, TGood t ∧ S.own 0 = some (tapeO t)
  lk : S.own j = some (.lst (hunC hs))
  j0 : j ≠ 0
  ok : ∀ s, s ∈ hs → SpotOk n s ∧ s.1 < 2
  len : hs.length ≤ 100
theorem dSl_hun {hs : List Spot} {S : Sto} {k : C → Sto → Prop} (h : k (.c S.length) (S ++ [some (.lst (hunC (hs.take (hs.length / 2))))])) : dSl true (.d (hunD hs)) none (some ((((hs.map spotD).map C.d).length : Nat) / 2 : Int)) S k := by
  have e : ((((hs.map spotD).map C.d).length : Nat) : Int) / 2 = ((hs.length / 2 : Nat) : Int) := by rw [List.length_map, List.length_map]; omega
  show newL true (cutG ((hs.map spotD).map C.d) none (some ((((hs.map spotD).map C.d).length : Nat) / 2 : Int))) S k
  rw [e]
  have ecut : cutG ((hs.map spotD).map C.d) none (some ((hs.length / 2 : Nat) : Int)) = hunC (hs.take (hs.length / 2)) := by
    unfold cutG hunC
    rw [HT.sIx_none, HT.sIx_nat, List.drop_zero, Nat.sub_zero, List.length_map, List.length_map, Nat.min_eq_left (by omega), List.map_take, List.map_take]
  rw [ecut]
  exact newL_cell h
abbrev N_law_hung : List Str := ["tape", "up", "most", "cap", "hung", "k"]
def W_law_hung : TSD := sSeq (sAsg (eLst true (aNil)) (gN 4))
  (sSeq (sIf (eB (wBin dGt (eCB dLen (aCons (eVar 1) (aNil))) (eC (.int 0))))
  (sFor (iRange (eRg1 (eCall sp_law_draw (aCons (eVar 0) (aCons (eVar 2) (aNil)))))) (gN 5)
  (sDrop (eMt dAppend (eVar 4) (aCons (eTup (aCons (eCall sp_law_draw (aCons (eVar 0) (aCons (eC (.int 2)) (aNil)))) (aCons (eCall sp_law_draw (aCons (eVar 0) (aCons (eCB dLen (aCons (eVar 1) (aNil))) (aNil)))) (aCons (eCall sp_law_draw (aCons (eVar 0) (aCons (eC (.int 2)) (aNil)))) (aNil))))) (aNil)))))
  (sNext))
  (sSeq (sFor (iRange (eRg1 (eC (.int 7)))) (gN 5)
  (sSeq (sFrz 4 (sIf (eB (wBin dLe (eCall sp_law_ways (aCons (eCall sp_law_hung_table (aCons (eVar 1) (aCons (eVar 4) (aNil)))) (aNil))) (eVar 3)))
  (sRet (eVar 4))
  (sNext)))
  (sAsg (eSl true (eVar 4) (oNone) (oSome (wBin dFdiv (eCB dLen (aCons (eVar 4) (aNil))) (eC (.int 2))))) (gN 4))))
  (sRet (eLst false (aNil)))))
theorem len_law_hung : ∀ cs S k kx, sp_law_hung cs S k kx → cs.length = 4 := by
  rintro cs S k kx ⟨n, m, a, b, c, rfl, _⟩; rfl
theorem rd_law_hung : ∀ cs S k kx, sp_law_hung cs S k kx → W_law_hung (DE k) (startE N_law_hung cs) S := by
  rintro cs S k kx ⟨t, n, R, most, cap, rfl, rfl, g, hn, hm, hk⟩
  refine ⟨lez (by decide), newL_cell ?_⟩
  have fin : ∀ (S' : Sto) (x : Option C) (hs : List Spot), HS S' 1 n hs → (sSeq (sFor (iRange (eRg1 (eC (.int 7)))) (gN 5)
  (sSeq (sFrz 4 (sIf (eB (wBin dLe (eCall sp_law_ways (aCons (eCall sp_law_hung_table (aCons (eVar 1) (aCons (eVar 4) (aNil)))) (aNil))) (eVar 3)))
  (sRet (eVar 4))
  (sNext)))
  (sAsg (eSl true (eVar 4) (oNone) (oSome (wBin dFdiv (eCB dLen (aCons (eVar 4) (aNil))) (eC (.int 2))))) (gN 4))))
  (sRet (eLst false (aNil)))) (DE k) [some (.c 0), some (.d (tabD n R)), some (.d (nI most)), some (.d (.int cap)), some (.c 1), x] S' := by
    intro S' x hs hS
    refine ⟨⟨by decide, by decide, by decide, by decide⟩, fun i ρ' S' => ∃ j x hs, ρ' = [some (.c 0), some (.d (tabD n R)), some (.d (nI most)), some (.d (.int cap)), some (.c j), x] ∧ HS S' j n hs, ⟨1, x, hs, rfl, hS⟩, fun _ _ _ _ _ => trivial, ?_, ?_⟩
    · rintro i d ρ' S' hd ⟨j, x, hs, rfl, hS⟩
      obtain ⟨t', g', h0⟩ := hS.tp
      refine ⟨j, _, hunD hs, rfl, hS.lk, (by show (unD (hunC hs)).map D.lst = _; unfold hunC; rw [unD_map]; rfl), ?_⟩
      have es : subC j (hunD hs) (.c j) = .d (hunD hs) := if_pos rfl
      have es0 : subC j (hunD hs) (.c 0) = .c 0 := if_neg (Ne.symm hS.j0)
      have h0' := own_subS (d := hunD hs) h0 hS.j0
      change Sto.own (subS j (hunD hs) S') 0 = some (tapeO t') at h0'
      generalize subS j (hunD hs) S' = S1 at h0'
      have ee : subE j (hunD hs) ([some (.c 0), some (.d (tabD n R)), some (.d (nI most)), some (.d (.int cap)), some (.c j), x].set 5 (some (.d d))) = [some (.c 0), some (.d (tabD n R)), some (.d (nI most)), some (.d (.int cap)), some (.d (hunD hs)), some (.d d)] := by
        show [some (subC j (hunD hs) (.c 0)), _, _, _, some (subC j (hunD hs) (.c j)), _] = _
        rw [es, es0]; rfl
      rw [ee]
      refine ⟨.inl ⟨rfl, n, R, hs, rfl, rfl, hn, hS.len, fun s hm => (hS.ok s hm).1.x, fun _ => .inl ⟨_, rfl, ?_⟩⟩⟩
      refine ⟨.inl ⟨rfl, _, _, rfl, rfl, ?_, fun v _ => .inl ⟨_, rfl, ?_⟩⟩⟩
      · unfold spotsL; rw [List.length_append, fnL_len]; have := hS.len; omega
      show if decide (v ≤ cap) = true then _ else _
      split
      · exact hk hs S1 t' hS.len hS.ok g' h0'
      · refine ⟨_, rfl, ⟨by decide, by decide⟩, ?_⟩
        refine dSl_hun ?_
        have l0 := own_lt h0'
        refine ⟨S1.length, _, hs.take (hs.length / 2), rfl, ⟨t', g', by rw [own_app l0]; exact h0'⟩, own_new, by omega, fun s hm => hS.ok s (List.mem_of_mem_take hm), by rw [List.length_take]; have := hS.len; omega⟩
    · rintro ρ' S' ⟨j, x, hs, rfl, hS⟩
      obtain ⟨t', g', h0⟩ := hS.tp
      refine ⟨lez (by decide), newL_data (ds := []) ?_⟩
      exact hk [] S' t' (by simp) (by simp) g' h0
  refine ⟨_, tab_len, ?_⟩
  rw [fnL_len]
  have L0 : HS [some (tapeO t), some (.lst (hunC []))] 1 n [] := ⟨⟨t, g, rfl⟩, rfl, by decide, by simp, by simp⟩
  show if decide ((0 : Int) < (n : Int)) = true then _ else _
  split
  · rename_i h0
    have h0 : 0 < n := by have := of_decide_eq_true h0; omega
    refine call_draw (t := t) rfl g (by omega) fun r t1 g1 hr => ?_
    have hr : r ≤ 100 := by omega
    refine ⟨rg_bd (by omega), fun i ρ' S' => ∃ x t hs, i ≤ r ∧ ρ' = [some (.c 0), some (.d (tabD n R)), some (.d (nI most)), some (.d (.int cap)), some (.c 1), x] ∧ S' = [some (tapeO t), some (.lst (hunC hs))] ∧ TGood t ∧ hs.length ≤ i ∧ ∀ s, s ∈ hs → SpotOk n s ∧ s.1 < 2, ⟨none, t1, [], Nat.zero_le _, rfl, rfl, g1, Nat.le_refl _, by simp⟩, fun _ _ _ _ _ => trivial, ?_, ?_⟩
    · rintro i d ρ' S' hd ⟨x, t, hs, _, rfl, rfl, g, hl, hok⟩
      obtain ⟨hi, rfl⟩ := rg_at hd
      refine ⟨⟨_, rfl⟩, ?_⟩
      refine call_draw (t := t) rfl g (by decide) fun a t2 g2 ha => ?_
      refine ⟨_, tab_len, ?_⟩
      rw [fnL_len]
      refine call_draw (t := t2) rfl g2 (by omega) fun b t3 g3 hb => ?_
      refine call_draw (t := t3) rfl g3 (by decide) fun c t4 g4 hc => ?_
      refine ⟨lez (by show 3 ≤ 1000000; decide), newT_data (ds := [nI a, nI b, nI c]) ?_⟩
      refine ⟨hunC hs, rfl, ltz (by unfold hunC; rw [List.length_map, List.length_map]; omega), ?_⟩
      refine ⟨_, t4, hs ++ [(a, b, c)], hi, rfl, ?_, g4, by simp; omega, fun s hm => ?_⟩
      · show [some (tapeO t4), some (Own.lst (hunC hs ++ [.d (.tup [nI a, nI b, nI c])]))] = _
        unfold hunC; rw [List.map_append, List.map_append]; rfl
      · rcases List.mem_append.mp hm with hm | hm
        · exact hok s hm
        · rw [List.mem_singleton] at hm
          subst hm
          exact ⟨⟨by show a ≤ 2; omega, by show b < n; omega, by show c ≤ 1; omega⟩, by show a < 2; omega⟩
    · rintro ρ' S' ⟨x, t, hs, _, rfl, rfl, g, hl, hok⟩
      rw [rg_len] at hl
      exact fin _ _ hs ⟨⟨t, g, rfl⟩, rfl, by decide, hok, by omega⟩
  · exact fin _ _ [] L0
end PL

namespace PL
open PySem PySem.Spec L2
open PyProof.Rows hiding St
theorem call_sameI {i : Int} {ρ : Env} {S : Sto} {k : C → Sto → Prop} {kx : KX} (hk : k (.d (.bl true)) S) : callD sp_law_same [.d (.int i), .d (.int i)] ρ S k kx :=
  ⟨.inl ⟨rfl, .int i, rfl, rfl, .inl ⟨_, rfl⟩, .inl ⟨_, rfl, hk⟩⟩⟩
theorem call_shuf {ρ : Env} {S : Sto} {k : C → Sto → Prop} {kx : KX} {t : Tape} {m : Nat} (h : S.own 0 = some (tapeO t)) (g : TGood t) (hm : m ≤ 1000)
    (hk : ∀ (π : Nat → Nat) (t' : Tape), TGood t' → Ren m π → k (.d (rowD m π)) (S.set 0 (some (tapeO t')))) : callD sp_law_shuffled [.c 0, .d (nI m)] ρ S k kx :=
  ⟨.inr (.inl ⟨0, tapeO t, [.c 0, .d (nI m)], h, tp_flat t, rfl, t, m, rfl, rfl, g, hm, fun π S' t' hp g' h0 => ⟨_, tapeO t', rfl, own_of h0, tp_flat t', hk π t' g' ⟨hp⟩⟩⟩)⟩
theorem call_told {n : Nat} {R : Nat → Nat → Bool} {π : Nat → Nat} {ρ : Env} {S : Sto} {k : C → Sto → Prop} {kx : KX} (hn : n ≤ 500) (hk : ∀ qs, qs.Perm (toldL n R π n) → k (.d (ordN n qs)) S) : callD sp_law_told [.d (tabD n R), .d (rowD n π)] ρ S k kx :=
  ⟨.inl ⟨rfl, n, R, π, rfl, rfl, hn, fun qs _ hq => .inl ⟨_, rfl, hk qs hq⟩⟩⟩
theorem call_drawnG {ρ : Env} {S : Sto} {k : C → Sto → Prop} {kx : KX} {t : Tape} {most : Nat} (h : S.own 0 = some (tapeO t)) (g : TGood t) (hm : most ≤ 500)
    (hk : ∀ (n : Nat) (R : Nat → Nat → Bool) (t' : Tape), TGood t' → n ≤ most → OrdR n R → k (.d (tabD n R)) (S.set 0 (some (tapeO t')))) : callD sp_law_drawn [.c 0, .d (nI most)] ρ S k kx :=
  ⟨.inr (.inl ⟨0, tapeO t, [.c 0, .d (nI most)], h, tp_flat t, rfl, t, most, rfl, rfl, g, hm, fun n R S' t' hn h1 h2 g' h0 => ⟨_, tapeO t', rfl, own_of h0, tp_flat t', hk n R t' g' hn ⟨h1, h2⟩⟩⟩)⟩
/-! ### bounded -/
def sp_law_bounded : SpD := fun cs S k kx => ∃ (n : Nat) (R : Nat → Nat → Bool), cs = [.d (tabD n R)] ∧ S = [] ∧ n ≤ 400 ∧ ∀ S', k (.d (tabD (n + 2) (bndR n R))) S'
theorem repl_bl (b : Bool) (n : Nat) : (List.replicate ((n : Nat) : Int).toNat [C.d (.bl b)]).flatten = (fnL n fun _ => D.bl b).map C.d := by rw [Int.toNat_natCast, fnL_rep, fnL_map]
abbrev N_law_bounded : List Str := ["up", "many", "table", "row"]
def W_law_bounded : TSD := sSeq (sAsg (eCB dLen (aCons (eVar 0) (aNil))) (gN 1))
  (sSeq (sAsg (eLc false (iAny (eVar 0)) (gN 3) (tY) (wBin (dAdd false) (eVar 3) (eLst false (aCons (eC (.bl false)) (aCons (eC (.bl true)) (aNil))))) [3]) (gN 2))
  (sRet (wBin (dAdd false) (eVar 2) (eLst false (aCons (wBin (dAdd false) (wBin (dMul false) (eLst false (aCons (eC (.bl true)) (aNil))) (eVar 1)) (eLst false (aCons (eC (.bl false)) (aCons (eC (.bl true)) (aNil))))) (aCons (wBin (dMul false) (eLst false (aCons (eC (.bl false)) (aNil))) (wBin (dAdd false) (eVar 1) (eC (.int 2)))) (aNil)))))))
theorem len_law_bounded : ∀ cs S k kx, sp_law_bounded cs S k kx → cs.length = 1 := by
  rintro cs S k kx ⟨n, m, rfl, _⟩; rfl
theorem rd_law_bounded : ∀ cs S k kx, sp_law_bounded cs S k kx → W_law_bounded (DE k) (startE N_law_bounded cs) S := by
  rintro cs S k kx ⟨n, R, rfl, rfl, hn, hk⟩
  refine ⟨_, tab_len, ?_⟩
  rw [fnL_len]
  refine lc_tab (n := n) (by omega) (fun i => .lst (fnL n fun j => .bl (R i j))) (fun d => match d with | .lst ds => .d (.lst (ds ++ [.bl false, .bl true])) | _ => .d .non) (fun i => .d (.lst ((fnL n fun j => D.bl (R i j)) ++ [.bl false, .bl true]))) (fun _ _ => rfl) ?_ ?_
  · intro i hi A B hA
    refine ⟨lez (by show 2 ≤ 1000000; decide), newL_data (ds := [.bl false, .bl true]) ?_⟩
    refine ⟨lez (by simp only [List.length_map, fnL_len]; show n + 2 ≤ _; omega), ?_⟩
    rw [← List.map_append]
    exact newL_data hA
  · refine newL_fn (f := fun i => .lst ((fnL n fun j => D.bl (R i j)) ++ [.bl false, .bl true])) ?_
    refine ⟨lez (by show 1 ≤ 1000000; decide), by omega, by omega, lez (by show 1 * n ≤ 1000000; omega), ?_⟩
    show newL false (List.replicate ((n : Nat) : Int).toNat [C.d (.bl true)]).flatten _ _
    rw [repl_bl]
    refine newL_data ⟨lez (by show 2 ≤ 1000000; decide), newL_data (ds := [.bl false, .bl true]) ?_⟩
    refine ⟨lez (by simp only [List.length_map, fnL_len]; show n + 2 ≤ _; omega), ?_⟩
    rw [← List.map_append]
    refine newL_data ⟨lez (by show 1 ≤ 1000000; decide), ?_⟩
    refine ⟨by omega, by omega, lez (by show 1 * ((n : Int) + 2).toNat ≤ 1000000; omega), ?_⟩
    have e2 : ((n : Int) + 2) = ((n + 2 : Nat) : Int) := by omega
    show newL false (List.replicate ((n : Int) + 2).toNat [C.d (.bl false)]).flatten _ _
    rw [e2, repl_bl]
    refine newL_data ⟨lez (by show 2 ≤ 1000000; decide), newL_data (ds := [D.lst ((fnL n fun _ => D.bl true) ++ [D.bl false, D.bl true]), D.lst (fnL (n + 2) fun _ => D.bl false)]) ?_⟩
    refine ⟨lez (by simp only [List.length_map, fnL_len]; show n + 2 ≤ _; omega), ?_⟩
    rw [← List.map_append]
    refine newL_data ?_
    have : (fnL n fun i => D.lst ((fnL n fun j => D.bl (R i j)) ++ [D.bl false, D.bl true])) ++ [D.lst ((fnL n fun _ => D.bl true) ++ [D.bl false, D.bl true]), D.lst (fnL (n + 2) fun _ => D.bl false)] = fnL (n + 2) fun i => D.lst (fnL (n + 2) fun j => .bl (bndR n R i j)) := by
      have row : ∀ i, (fnL (n + 2) fun j => D.bl (bndR n R i j)) = (fnL n fun j => D.bl (bndR n R i j)) ++ [D.bl (bndR n R i n), D.bl (bndR n R i (n + 1))] := fun i => by
        rw [fnL_succ, fnL_succ, List.append_assoc]; rfl
      have h1 : fnL (n + 2) (fun i => D.lst (fnL (n + 2) fun j => .bl (bndR n R i j))) = (fnL n fun i => D.lst (fnL (n + 2) fun j => D.bl (bndR n R i j))) ++ [D.lst (fnL (n + 2) fun j => D.bl (bndR n R n j)), D.lst (fnL (n + 2) fun j => D.bl (bndR n R (n + 1) j))] := by
        rw [fnL_succ, fnL_succ, List.append_assoc]; rfl
      have r1 : (fnL n fun i => D.lst ((fnL n fun j => D.bl (R i j)) ++ [D.bl false, D.bl true])) = fnL n fun i => D.lst (fnL (n + 2) fun j => D.bl (bndR n R i j)) := by
        refine fnL_congr fun i hi => ?_
        rw [row i, bn_bn hi, bn_bt hi]
        exact congrArg (fun t => D.lst (t ++ [D.bl false, D.bl true])) (fnL_congr (f := fun j => D.bl (R i j)) (g := fun j => D.bl (bndR n R i j)) fun j hj => by rw [bn_bb hi hj])
      have r2 : (fnL (n + 2) fun j => D.bl (bndR n R n j)) = (fnL n fun _ => D.bl true) ++ [D.bl false, D.bl true] := by
        rw [row n, bn_nn, bn_nt]
        exact congrArg (fun t => t ++ [D.bl false, D.bl true]) (fnL_congr (f := fun j => D.bl (bndR n R n j)) (g := fun _ => D.bl true) fun j hj => by rw [bn_nb hj])
      have r3 : (fnL (n + 2) fun j => D.bl (bndR n R (n + 1) j)) = fnL (n + 2) fun _ => D.bl false := fnL_congr fun j _ => by rw [bn_t]
      rw [h1, r1, r2, r3]
    rw [this]
    exact hk _
end PL

/-! plain mathematics: chains from one point to another, signed -/
namespace PL
open PySem PySem.Spec L2
open PyProof.Rows hiding St
def sgn (one : List Nat) : Int := if one.length % 2 = 1 then 1 else -1
def wA (a : Nat) (one : List Nat) : Int := if one.head? = some a then sgn one else 0
theorem wA_snoc (a : Nat) (one : List Nat) (x : Nat) : wA a (one ++ [x]) = - wA a one + (if one = [] then (if x = a then 1 else 0) else 0) := by
  cases one with
  | nil =>
    show (if some x = some a then sgn [x] else 0) = - (if (none : Option Nat) = some a then _ else 0) + (if ([] : List Nat) = [] then (if x = a then 1 else 0) else 0)
    by_cases e : x = a
    · subst e; simp [sgn]
    · have : ¬ some x = some a := fun q => e (Option.some.inj q)
      simp [e]
  | cons b r =>
    have hn : ¬ (b :: r) = [] := by simp
    rw [if_neg hn]
    show (if some b = some a then sgn (b :: r ++ [x]) else 0) = - (if some b = some a then sgn (b :: r) else 0) + 0
    unfold sgn
    rw [List.length_append, List.length_singleton]
    split <;> (try split) <;> (try split) <;> omega
theorem signedA {R : Nat → Nat → Bool} (a : Nat) : ∀ L : List Nat, L.Nodup → L.Pairwise (fun x y => R y x = false) → (∀ x, x ∈ L → R x x = false) →
    ∃ g : Nat → Int, (∀ x, x ∈ L → g x + sm L (fun y => if R y x = true then g y else 0) = if x = a then 1 else 0) ∧ sm (foundL R L) (fun one => if one = [] then 1 else 0) = 1 ∧
      ∀ P : Option Nat → Bool, sm (foundL R L) (fun one => if P one.getLast? = true then wA a one else 0) = sm L (fun y => if P (some y) = true then g y else 0) := by
  apply snocRec
  · intro _ _ _
    refine ⟨fun _ => 0, by simp, by simp [foundL, sm], fun P => ?_⟩
    simp [foundL, sm, wA]
  · intro L x ih nd pw irr
    have nd1 := List.nodup_append.mp nd
    have hx : x ∉ L := fun h => nd1.2.2 x h x (by simp) rfl
    have pw1 := List.pairwise_append.mp pw
    obtain ⟨g, h1, h2, h3⟩ := ih nd1.1 pw1.1 (fun y hy => irr y (by simp [hy]))
    have hxx : R x x = false := irr x (by simp)
    let gx : Int := sm ((foundL R L).filter (okF R x)) (fun one => wA a (one ++ [x]))
    let g' : Nat → Int := fun y => if y = x then gx else g y
    have gL : ∀ y, y ∈ L → g' y = g y := fun y hy => if_neg (fun (e : y = x) => hx (e ▸ hy))
    have gX : g' x = gx := if_pos rfl
    have gxv : gx = (if x = a then 1 else 0) - sm L (fun y => if R y x = true then g y else 0) := by
      have e1 : gx = sm ((foundL R L).filter (okF R x)) (fun one => - wA a one + (if one = [] then (if x = a then 1 else 0) else 0)) := sm_congr fun one _ => wA_snoc a one x
      rw [e1, sm_add, sm_neg, sm_filter, sm_filter]
      have e2 := h3 (fun o => match o with | none => true | some y => R y x)
      have e3 : sm (foundL R L) (fun one => if okF R x one = true then wA a one else 0) = sm (foundL R L) (fun one => if (fun o : Option Nat => match o with | none => true | some y => R y x) one.getLast? = true then wA a one else 0) := sm_congr fun one _ => rfl
      have e4 : sm (foundL R L) (fun one => if okF R x one = true then (if one = [] then (if x = a then (1 : Int) else 0) else 0) else 0) = if x = a then 1 else 0 := by
        have : sm (foundL R L) (fun one => if okF R x one = true then (if one = [] then (if x = a then (1 : Int) else 0) else 0) else 0) = sm (foundL R L) (fun one => if x = a then (if one = [] then 1 else 0) else 0) := sm_congr fun one _ => by
          by_cases e : one = []
          · subst e; show (if true = true then _ else _) = _; simp
          · simp [e]
        rw [this]
        split
        · exact h2
        · exact sm_zero _
      rw [e3, e2, e4]
      show - sm L (fun y => if R y x = true then g y else 0) + _ = _
      omega
    refine ⟨g', ?_, ?_, ?_⟩
    · intro z hz
      rw [sm_append]
      have e1 : sm L (fun y => if R y z = true then g' y else 0) = sm L (fun y => if R y z = true then g y else 0) := sm_congr fun y hy => by rw [gL y hy]
      rw [e1, sm_cons, sm_nil]
      rcases List.mem_append.mp hz with hz | hz
      · have : R x z = false := pw1.2.2 z hz x (by simp)
        rw [this, gL z hz]
        have := h1 z hz
        simp only [Bool.false_eq_true, if_false]; omega
      · have hz : z = x := by simpa using hz
        subst hz
        rw [hxx, gX, gxv]
        simp only [Bool.false_eq_true, if_false]; omega
    · rw [foundL_snoc]
      unfold stepF
      rw [sm_append, h2, sm_map]
      have : sm ((foundL R L).filter (okF R x)) (fun one => if one ++ [x] = [] then (1 : Int) else 0) = 0 := sm_zero' fun one _ => if_neg (by simp)
      rw [this]; rfl
    · intro P
      rw [foundL_snoc]
      unfold stepF
      rw [sm_append, h3 P, sm_append, sm_map, sm_cons, sm_nil, gX]
      have e1 : sm L (fun y => if P (some y) = true then g' y else 0) = sm L (fun y => if P (some y) = true then g y else 0) := sm_congr fun y hy => by rw [gL y hy]
      rw [e1]
      have e2 : sm ((foundL R L).filter (okF R x)) (fun one => if P (one ++ [x]).getLast? = true then wA a (one ++ [x]) else 0) = if P (some x) = true then gx else 0 := by
        split
        · rename_i h; exact sm_congr fun one _ => by rw [getLast_snoc, if_pos h]
        · rename_i h; exact sm_zero' fun one _ => by rw [getLast_snoc, if_neg h]
      rw [e2]; omega
/-- the table's row of a: one at a, and what stands below sums up to nought elsewhere -/
def MuA (n : Nat) (R : Nat → Nat → Bool) (a : Nat) (g : Nat → Int) : Prop := ∀ x, x < n → g x + sm (List.range n) (fun y => if R y x = true then g y else 0) = if x = a then 1 else 0
theorem muA_zero {n : Nat} {R : Nat → Nat → Bool} {a : Nat} {g : Nat → Int} (hR : Ord n R) (ha : a < n) (h : MuA n R a g) : ∀ c x, cntB n R x ≤ c → x < n → leB R a x = false → g x = 0 := by
  intro c
  induction c with
  | zero =>
    intro x hc hx hl
    unfold leB at hl
    rw [Bool.or_eq_false_iff] at hl
    have hne : ¬ x = a := fun q => by have := hl.1; rw [q] at this; simp at this
    have := h x hx
    rw [if_neg hne] at this
    have hz : sm (List.range n) (fun y => if R y x = true then g y else 0) = 0 := sm_zero' fun y hy => by
      have hy : y < n := by simpa using hy
      split
      · rename_i e; have := hR.cnt hx hy e; omega
      · rfl
    omega
  | succ c ih =>
    intro x hc hx hl
    have hl0 := hl
    unfold leB at hl
    rw [Bool.or_eq_false_iff] at hl
    have hne : ¬ x = a := fun q => by have := hl.1; rw [q] at this; simp at this
    have := h x hx
    rw [if_neg hne] at this
    have hz : sm (List.range n) (fun y => if R y x = true then g y else 0) = 0 := sm_zero' fun y hy => by
      have hy : y < n := by simpa using hy
      split
      · rename_i e
        refine ih y (by have := hR.cnt hx hy e; omega) hy ?_
        cases q : leB R a y with
        | false => rfl
        | true =>
          exfalso
          unfold leB at q
          rw [Bool.or_eq_true] at q
          rcases q with q | q
          · have := of_decide_eq_true q; subst this; rw [e] at hl; cases hl.2
          · have : R a x = true := hR.tr a y x ha hy hx q e
            rw [this] at hl; cases hl.2
      · rfl
    omega
/-- moebius of two points of an order told with other numbers is the entry of the table -/
theorem call_moeA {n : Nat} {R : Nat → Nat → Bool} {π : Nat → Nat} {qs : List (Nat × Nat)} {a b : Nat} {g : Nat → Int} {ρ : Env} {S : Sto} {k : C → Sto → Prop} {kx : KX} (h : Ren n π) (hn : n ≤ 400) (hR : Ord n R) (hq : qs.Perm (toldL n R π n)) (ha : a < n) (hb : b < n) (hg : MuA n R a g)
    (hk : k (.d (.int (g b))) S) : callD sp_moebius [.d (ordN n qs), .d (nI (π a)), .d (nI (π b))] ρ S k kx := by
  have ei : ∀ u, u < n → ∃ a, a < n ∧ u = π a ∧ invP n π u = a := fun u hu => by
    obtain ⟨a, ha, e⟩ := h.surj hu
    exact ⟨a, ha, e.symm, by rw [← e]; exact h.inv ha⟩
  let B : Nat → Nat → Bool := fun u v => R (invP n π u) (invP n π v)
  have eB : ∀ a b, a < n → b < n → B (π a) (π b) = R a b := fun a b ha hb => by
    show R (invP n π (π a)) (invP n π (π b)) = _
    rw [h.inv ha, h.inv hb]
  have hqB : ∀ u v, u < n → v < n → (B u v = true ↔ (u, v) ∈ qs) := fun u v hu hv => by
    obtain ⟨a, ha, rfl, _⟩ := ei u hu
    obtain ⟨b, hb, rfl, _⟩ := ei v hv
    rw [eB a b ha hb]
    constructor
    · intro e
      refine hq.mem_iff.mpr ?_
      unfold toldL
      refine List.mem_flatMap.mpr ⟨a, by simpa using ha, ?_⟩
      unfold toldX
      exact List.mem_map.mpr ⟨b, List.mem_filter.mpr ⟨by simpa using hb, e⟩, rfl⟩
    · intro e
      obtain ⟨a', b', ha', hb', hab, e2⟩ := mem_told hq e
      have e3 : π a = π a' := congrArg Prod.fst e2
      have e4 : π b = π b' := congrArg Prod.snd e2
      rw [h.inj ha ha' e3, h.inj hb hb' e4]; exact hab
  have hOB : Ord n B := by
    refine ⟨fun u v w hu hv hw h1 h2 => ?_, fun u hu => ?_⟩
    · obtain ⟨a, ha, rfl, _⟩ := ei u hu
      obtain ⟨b, hb, rfl, _⟩ := ei v hv
      obtain ⟨c, hc, rfl, _⟩ := ei w hw
      change B (π a) (π b) = true at h1
      change B (π b) (π c) = true at h2
      show B (π a) (π c) = true
      rw [eB _ _ ha hb] at h1; rw [eB _ _ hb hc] at h2; rw [eB _ _ ha hc]
      exact hR.tr a b c ha hb hc h1 h2
    · obtain ⟨a, ha, rfl, _⟩ := ei u hu
      rw [eB _ _ ha ha]; exact hR.irr a ha
  refine ⟨.inl ⟨rfl, n, qs, B, π a, π b, rfl, rfl, by omega, fun p hp => ?_, hqB, hOB, h.lt ha, h.lt hb, fun v _ hv => .inl ⟨_, rfl, ?_⟩⟩⟩
  · obtain ⟨a, b, ha, hb, _, rfl⟩ := mem_told hq hp
    exact ⟨h.lt ha, h.lt hb⟩
  · have hle : ∀ x y, x < n → y < n → leB B (π x) (π y) = leB R x y := fun x y hx hy => by
      unfold leB
      rw [eB x y hx hy]
      have : decide (π x = π y) = decide (x = y) := decide_eq_decide.mpr ⟨fun q => h.inj hx hy q, fun q => by rw [q]⟩
      rw [this]
    have g0 := muA_zero hR ha hg
    have hmu : MuOk n B (π a) (fun u => g (invP n π u)) := by
      refine ⟨?_, fun z hz hxz => ?_⟩
      · show g (invP n π (π a)) = 1
        rw [h.inv ha]
        have := hg a ha
        rw [if_pos rfl] at this
        have hz : PL.sm (List.range n) (fun y => if R y a = true then g y else 0) = 0 := sm_zero' fun y hy => by
          have hy : y < n := by simpa using hy
          split
          · rename_i e
            refine g0 _ y (Nat.le_refl _) hy ?_
            unfold leB
            rw [Bool.or_eq_false_iff]
            refine ⟨decide_eq_false fun q => ?_, ?_⟩
            · subst q; rw [hR.irr a ha] at e; cases e
            · cases q : R a y with
              | false => rfl
              | true => have : R a a = true := hR.tr a y a ha hy ha q e; rw [hR.irr a ha] at this; cases this
          · rfl
        omega
      · obtain ⟨c, hc, rfl, _⟩ := ei z hz
        rw [eB a c ha hc] at hxz
        show g (invP n π (π c)) = - PL.sm (List.range n) (fun w => if (leB B (π a) w && B w (π c)) = true then g (invP n π w) else 0)
        rw [h.inv hc, h.sm]
        have e1 : PL.sm (List.range n) (fun y => if (leB B (π a) (π y) && B (π y) (π c)) = true then g (invP n π (π y)) else 0) = PL.sm (List.range n) (fun y => if R y c = true then g y else 0) := sm_lt_congr fun y hy => by
          rw [hle a y ha hy, eB y c hy hc, h.inv hy]
          cases q : leB R a y with
          | true => simp
          | false => rw [g0 _ y (Nat.le_refl _) hy q]; simp
        rw [e1]
        have := hg c hc
        have hne : ¬ c = a := fun q => by subst q; rw [hR.irr c hc] at hxz; cases hxz
        rw [if_neg hne] at this
        omega
    have := hv _ hmu
    rw [hle a b ha hb] at this
    have e2 : v = g b := by
      rw [this, h.inv hb]
      cases q : leB R a b with
      | true => rfl
      | false => rw [g0 _ b (Nat.le_refl _) hb q]; rfl
    rw [e2]; exact hk
end PL

namespace PL
open PySem PySem.Spec L2
open PyProof.Rows hiding St
/-! ### signed chains -/
def sp_law_signed : SpD := fun cs S k kx => ∃ (n : Nat) (R : Nat → Nat → Bool), cs = [.d (tabD n R)] ∧ S = [] ∧ n ≤ 16 ∧ OrdR n R ∧
  ∀ (M : Nat → Nat → Int) (total : Int) (S' : Sto), (∀ a, a < n → MuA n R a (M a)) → Chi n R total → k (.d (.tup [.lst (fnL n fun a => rowZ n (M a)), .int total])) S'
structure HeldZ (n : Nat) (S : Sto) (M : Nat → Nat → Int) : Prop where
  own : S.own n = some (.lst (fnL n C.c))
  row : ∀ i, i < n → S.own i = some (.lst (rowZC n (M i)))
theorem sgn_wt (one : List Nat) : wt (fun _ => true) one = sgn one := by
  unfold wt sgn
  rw [if_pos (by simp)]
theorem sgn_val (one : List Nat) : (1 : Int) - 2 * (((one.length : Nat) + 1 : Int) % 2) = sgn one := by
  unfold sgn; split <;> omega
abbrev N_law_signed : List Str := ["up", "many", "table", "total", "one", "sign", "row", "k"]
def W_law_signed : TSD := sSeq (sAsg (eCB dLen (aCons (eVar 0) (aNil))) (gN 1))
  (sSeq (sAsg (eLc true (iRange (eRg1 (eVar 1))) (gN 7) (tY) (wBin (dMul true) (eLst false (aCons (eC (.int 0)) (aNil))) (eVar 1)) [7]) (gN 2))
  (sSeq (sAsg (eC (.int 0)) (gN 3))
  (sSeq (sFor (iAny (eCall sp_law_chain_list (aCons (eVar 0) (aNil)))) (gN 4)
  (sSeq (sAsg (wBin dSub (eC (.int 1)) (wBin (dMul false) (eC (.int 2)) (eCB dToInt (aCons (wBin dMod (eCB dToInt (aCons (wBin (dAdd false) (eCB dLen (aCons (eVar 4) (aNil))) (eC (.int 1))) (aNil))) (eC (.int 2))) (aNil))))) (gN 5))
  (sSeq (sAsg (wBin dIx (eVar 2) (wBin dIx (eVar 4) (eC (.int 0)))) (gN 6))
  (sSeq (sSetL (wBin (dAdd false) (wBin dIx (eVar 6) (wBin dIx (eVar 4) (wUn dNeg (eC (.int 1))))) (eVar 5)) (eVar 6) (wBin dIx (eVar 4) (wUn dNeg (eC (.int 1)))))
  (sAsg (wBin (dAdd false) (eVar 3) (eVar 5)) (gN 3))))))
  (sFrz2 2 (sRet (eTup (aCons (eVar 2) (aCons (eVar 3) (aNil)))))))))
theorem len_law_signed : ∀ cs S k kx, sp_law_signed cs S k kx → cs.length = 1 := by
  rintro cs S k kx ⟨n, R, rfl, _⟩; rfl
theorem rd_law_signed : ∀ cs S k kx, sp_law_signed cs S k kx → W_law_signed (DE k) (startE N_law_signed cs) S := by
  rintro cs S k kx ⟨n, R, rfl, rfl, hn, hR, hk⟩
  refine ⟨_, tab_len, ?_⟩
  rw [fnL_len]
  refine ⟨rg_bd (by omega), fun i acc S' => i ≤ n ∧ acc = fnL i C.c ∧ S' = fnL i (fun _ => some (Own.lst (rowZC n fun _ => 0))), ⟨Nat.zero_le _, rfl, rfl⟩, fun _ _ _ _ _ => trivial, ?_, ?_⟩
  · rintro i d acc S' hd ⟨_, rfl, rfl⟩
    obtain ⟨hi, rfl⟩ := rg_at hd
    refine ⟨lez (by show 1 ≤ 1000000; omega), by omega, by omega, lez (by show 1 * n ≤ 1000000; omega), ?_⟩
    refine newL_cell ?_
    refine ⟨by rw [fnL_len, sizeLine_eq]; omega, hi, ?_, ?_⟩
    · rw [fnL_len, fnL_succ]
    · rw [fnL_succ]
      have : (List.replicate ((n : Nat) : Int).toNat [C.d (.int 0)]).flatten = rowZC n (fun _ => 0) := by rw [Int.toNat_natCast]; exact fnL_rep n _
      exact congrArg (fun z => fnL i (fun _ => some (Own.lst (rowZC n fun _ => 0))) ++ [some (Own.lst z)]) this
  · rintro acc S' ⟨hb, rfl, rfl⟩
    rw [rg_len]
    refine newL_cell ?_
    rw [fnL_len]
    refine ⟨.inl ⟨rfl, n, R, rfl, rfl, hn, hR, fun L _ hp hpw => .inl ⟨_, rfl, ?_⟩⟩⟩
    have hmem : ∀ one, one ∈ chainsD R L → ∀ y, y ∈ one → y < n := fun one h y hy => by
      have := foundL_mem R L one (List.mem_filter.mp h).1 y hy
      simpa using hp.mem_iff.mp this
    have hne : ∀ one, one ∈ chainsD R L → one ≠ [] := fun one h q => by
      have := (List.mem_filter.mp h).2
      rw [q] at this; cases this
    refine ⟨fun i ρ' S' => ∃ (x y z : Option C) (M : Nat → Nat → Int), ρ' = [some (.d (tabD n R)), some (.d (nI n)), some (.c n), some (.d (.int (sm ((chainsD R L).take i) sgn))), x, y, z, none] ∧ HeldZ n S' M ∧
      ∀ a b, a < n → b < n → M a b = sm ((chainsD R L).take i) (fun one => if one.head? = some a ∧ one.getLast? = some b then sgn one else 0), ⟨none, none, none, fun _ _ => 0, rfl, ⟨?_, ?_⟩, fun a b _ _ => rfl⟩, fun _ _ _ _ _ => trivial, ?_, ?_⟩
    · unfold Sto.own; rw [List.getElem?_append_right (by rw [fnL_len]; omega), fnL_len, Nat.sub_self]; rfl
    · intro i hi
      rw [own_app (by rw [fnL_len]; exact hi)]
      unfold Sto.own
      rw [fnL_at _ hi]
    · rintro i d ρ' S' hd ⟨x, y, z, M, rfl, hS, hM⟩
      obtain ⟨one, ho, rfl⟩ := at_map hd
      have hi := (List.getElem?_eq_some_iff.mp ho).1
      have hone := List.mem_of_getElem? ho
      have e : (chainsD R L).take (i + 1) = (chainsD R L).take i ++ [one] := by rw [List.take_succ_eq_append_getElem hi, (List.getElem?_eq_some_iff.mp ho).2]
      obtain ⟨h0, r, rfl⟩ : ∃ h r, one = h :: r := by
        cases one with
        | nil => exact absurd rfl (hne _ hone)
        | cons h r => exact ⟨h, r, rfl⟩
      obtain ⟨o, l0, hol⟩ : ∃ o l, h0 :: r = o ++ [l] := by
        rcases List.eq_nil_or_concat (h0 :: r) with q | ⟨o, l, q⟩
        · cases q
        · exact ⟨o, l, by rw [q, List.concat_eq_append]⟩
      have hh : h0 < n := hmem _ hone h0 (by simp)
      have hl : l0 < n := hmem _ hone l0 (by rw [hol]; simp)
      have elast : atI ((h0 :: r).map nI) (-1) = some (nI l0) := by rw [hol, List.map_append]; exact atI_last _ _
      have egl : (h0 :: r).getLast? = some l0 := by rw [hol]; exact getLast_snoc _ _
      refine ⟨_, natsT_seq, (by show (0 : Int) < 2; decide), .inl (by decide), ?_⟩
      refine ⟨nI h0, (show atI ((h0 :: r).map nI) ((0 : Nat) : Int) = some (nI h0) from atI_nat rfl), _, _, hS.own, fnL_atI C.c hh, ?_⟩
      refine ⟨nI l0, elast, _, _, hS.row h0 hh, fnL_atI _ hl, nI l0, elast, ?_⟩
      refine ⟨_, l0, hS.row h0 hh, by unfold rowZC; rw [fnL_len]; exact ixN_n hl, ?_⟩
      have ev : (1 : Int) - 2 * ((((((h0 :: r).map nI).map C.d).length : Nat) + 1 : Int) % 2) = sgn (h0 :: r) := by rw [List.length_map, List.length_map]; exact sgn_val _
      have es : sm ((chainsD R L).take (i + 1)) sgn = sm ((chainsD R L).take i) sgn + sgn (h0 :: r) := by rw [e, sm_append, sm_cons, sm_nil]; omega
      refine ⟨some (.d (natsT (h0 :: r))), some (.d (.int (sgn (h0 :: r)))), some (.c h0), fun a b => if a = h0 then (if b = l0 then M h0 l0 + sgn (h0 :: r) else M a b) else M a b, ?_, ⟨?_, fun a ha => ?_⟩, fun a b ha hb => ?_⟩
      · show [some (C.d (tabD n R)), some (.d (nI n)), some (.c n), some (.d (.int (sm ((chainsD R L).take i) sgn + (1 - 2 * ((((((h0 :: r).map nI).map C.d).length : Nat) + 1 : Int) % 2))))), some (.d (natsT (h0 :: r))), some (.d (.int (1 - 2 * ((((((h0 :: r).map nI).map C.d).length : Nat) + 1 : Int) % 2)))), some (.c h0), none] = _
        rw [ev, es]
      · rw [own_set_ne (by omega)]; exact hS.own
      · by_cases q : a = h0
        · subst q
          rw [own_set_same (own_lt (hS.row a ha))]
          show some (Own.lst ((rowZC n (M a)).set l0 (.d (.int (M a l0 + (1 - 2 * ((((((a :: r).map nI).map C.d).length : Nat) + 1 : Int) % 2))))))) = _
          rw [ev, setZ hl]
          refine congrArg (fun t => some (Own.lst t)) (fnL_congr fun b _ => ?_)
          show _ = C.d (.int (if a = a then _ else _))
          rw [if_pos rfl]
        · rw [own_set_ne (Ne.symm q), hS.row a ha]
          refine congrArg (fun t => some (Own.lst t)) (fnL_congr fun b _ => ?_)
          show _ = C.d (.int (if a = h0 then _ else _))
          rw [if_neg q]
      · rw [e, sm_append, sm_cons, sm_nil, egl, ← hM a b ha hb]
        show (if a = h0 then (if b = l0 then M h0 l0 + sgn (h0 :: r) else M a b) else M a b) = M a b + ((if some h0 = some a ∧ some l0 = some b then sgn (h0 :: r) else 0) + 0)
        by_cases q : a = h0
        · subst q
          by_cases q2 : b = l0
          · subst q2; simp
          · have : ¬ l0 = b := fun z => q2 z.symm
            simp [q2, this]
        · have : ¬ h0 = a := fun z => q z.symm
          simp [q, this]
    · rintro ρ' S' ⟨x, y, z, M, rfl, hS, hM⟩
      rw [List.length_map, List.take_length] at hM ⊢
      obtain ⟨S2, g1, g2⟩ := frz_held (it := C.c) (rd := fun i => fnL n fun y => .int (M i y)) (List.range n) S' List.nodup_range fun i hi => by
        have hi : i < n := by simpa using hi
        refine ⟨?_, .inl rfl⟩
        show (match S'.own i with | some (.lst xs) => some xs | _ => none) = _
        rw [hS.row i hi]
        unfold rowZC; rw [fnL_map]
      refine ⟨n, _, _, S2, rfl, hS.own, g1, by rw [g2 n (by simp)]; exact hS.own, ?_⟩
      have est : subC n (.lst ((List.range n).map fun i => D.lst (fnL n fun y => .int (M i y)))) (.c n) = .d (.lst (fnL n fun a => rowZ n (M a))) := if_pos rfl
      refine ⟨lez (by show 2 ≤ 1000000; decide), ?_⟩
      show newT [subC n (.lst ((List.range n).map fun i => D.lst (fnL n fun y => .int (M i y)))) (.c n), .d (.int (sm (chainsD R L) sgn))] _ _
      rw [est]
      refine newT_data (ds := [.lst (fnL n fun a => rowZ n (M a)), .int (sm (chainsD R L) sgn)]) ?_
      have hmL : ∀ x, x ∈ L ↔ x < n := fun x => by rw [hp.mem_iff]; simp
      have hirr : ∀ x, x ∈ L → R x x = false := fun x hx => hR.ord.irr x ((hmL x).mp hx)
      have hnd : L.Nodup := hp.nodup_iff.mpr List.nodup_range
      refine hk M _ _ (fun a ha => ?_) ?_
      · obtain ⟨g, q1, _, q3⟩ := signedA (R := R) a L hnd hpw hirr
        have eg : ∀ b, b < n → M a b = g b := fun b hb => by
          rw [hM a b ha hb]
          have := q3 (fun o => decide (o = some b))
          have e1 : sm (chainsD R L) (fun one => if one.head? = some a ∧ one.getLast? = some b then sgn one else 0) = sm (foundL R L) (fun one => if decide (one.getLast? = some b) = true then wA a one else 0) := by
            unfold chainsD
            rw [sm_filter]
            refine sm_congr fun one _ => ?_
            unfold wA
            cases one with
            | nil => rfl
            | cons h r =>
              rw [if_pos (show (!(h :: r).isEmpty) = true from rfl)]
              by_cases z1 : (h :: r).getLast? = some b
              · by_cases z2 : (h :: r).head? = some a
                · rw [if_pos ⟨z2, z1⟩, if_pos (decide_eq_true z1), if_pos z2]
                · rw [if_neg (fun z => z2 z.1), if_pos (decide_eq_true z1), if_neg z2]
              · rw [if_neg (fun z => z1 z.2), if_neg (fun z => z1 (of_decide_eq_true z))]
          rw [e1, this]
          have e2 : sm L (fun y => if decide (some y = some b) = true then g y else 0) = sm L (fun y => if y = b then g y else 0) := sm_congr fun y _ => by simp
          rw [e2, sm_if_eq hnd, if_pos ((hmL b).mpr hb)]
        intro x hx
        rw [eg x hx]
        have e3 : sm (List.range n) (fun y => if R y x = true then M a y else 0) = sm (List.range n) (fun y => if R y x = true then g y else 0) := sm_lt_congr fun y hy => by rw [eg y hy]
        rw [e3, ← sm_perm hp]
        exact q1 x ((hmL x).mpr hx)
      · obtain ⟨g, q1, _, q3⟩ := signed (R := R) (fun _ => true) L hnd hpw hirr
        refine ⟨g, fun x hx => by rw [← sm_perm hp]; exact q1 x ((hmL x).mpr hx) rfl, ?_⟩
        rw [← sm_perm hp]
        have := q3 (fun o => o.isSome)
        simp only [Option.isSome_none, Option.isSome_some, Bool.false_eq_true, if_false, if_true] at this
        have e1 : sm (chainsD R L) sgn = sm (foundL R L) (fun one => if one.getLast?.isSome = true then wt (fun _ => true) one else 0) := by
          unfold chainsD
          rw [sm_filter]
          refine sm_congr fun one _ => ?_
          cases one with
          | nil => rfl
          | cons a o => rw [if_pos (show (!(a :: o).isEmpty) = true from rfl), if_pos (by rw [List.getLast?_isSome]; simp), sgn_wt]
        rw [e1, this, Int.zero_add]
end PL

namespace PL
open PySem PySem.Spec L2
open PyProof.Rows hiding St
theorem bn_chi {n : Nat} {R : Nat → Nat → Bool} : Chi (n + 2) (bndR n R) 1 := by
  have hs : ∀ p : Nat → Bool, sm (List.range (n + 2)) (fun y => if p y = true then (if y = n then (1 : Int) else 0) else 0) = if p n = true then 1 else 0 := fun p => by
    have : sm (List.range (n + 2)) (fun y => if p y = true then (if y = n then (1 : Int) else 0) else 0) = sm (List.range (n + 2)) (fun y => if y = n then (if p n = true then 1 else 0) else 0) := sm_lt_congr fun y _ => by
      by_cases e : y = n
      · subst e; simp
      · simp [e]
    rw [this, sm_if_eq List.nodup_range, if_pos (by simp)]
  refine ⟨fun y => if y = n then 1 else 0, fun x hx => ?_, ?_⟩
  · show (if x = n then (1 : Int) else 0) + sm (List.range (n + 2)) (fun y => if bndR n R y x = true then (if y = n then (1 : Int) else 0) else 0) = 1
    rw [hs (fun y => bndR n R y x)]
    rcases (by omega : x < n ∨ x = n ∨ x = n + 1) with h | h | h
    · rw [bn_nb h, if_neg (by omega)]; rfl
    · subst h; rw [bn_nn, if_pos rfl]; rfl
    · subst h; rw [bn_nt, if_neg (by omega)]; rfl
  · have := hs (fun _ => true)
    simp only [if_true] at this
    exact this.symm
/-! ### bounds_right -/
def sp_law_bounds_right : SpD := fun cs S k kx => ∃ (t : Tape) (n : Nat) (R : Nat → Nat → Bool) (total : Int), cs = [.c 0, .d (tabD n R), .d (.int total)] ∧ S = T1 t ∧ TGood t ∧ n ≤ 300 ∧ Ord n R ∧ Chi n R total ∧
  ∀ (S' : Sto) (t' : Tape), TGood t' → S'.own 0 = some (tapeO t') → k (.d (.bl true)) S'
abbrev N_law_bounds_right : List Str := ["tape", "up", "total", "many", "names", "made"]
def W_law_bounds_right : TSD := sSeq (sAsg (eCB dLen (aCons (eVar 1) (aNil))) (gN 3))
  (sSeq (sAsg (eCall sp_law_shuffled (aCons (eVar 0) (aCons (wBin (dAdd false) (eVar 3) (eC (.int 2))) (aNil)))) (gN 4))
  (sSeq (sAsg (eCall sp_law_told (aCons (eCall sp_law_bounded (aCons (eVar 1) (aNil))) (aCons (eVar 4) (aNil)))) (gN 5))
  (sSeq (sIf (eNotT (eB (eCall sp_law_same (aCons (eCall sp_moebius (aCons (eVar 5) (aCons (wBin dIx (eVar 4) (eVar 3)) (aCons (wBin dIx (eVar 4) (wBin (dAdd false) (eVar 3) (eC (.int 1)))) (aNil))))) (aCons (wBin dSub (eVar 2) (eC (.int 1))) (aNil))))))
  (sRet (eC (.bl false)))
  (sNext))
  (sRet (eCall sp_law_same (aCons (eCall sp_euler (aKw 0 1 [0] aNil (aCons (eVar 5) (aNil)))) (aCons (eC (.int 1)) (aNil))))))))
theorem len_law_bounds_right : ∀ cs S k kx, sp_law_bounds_right cs S k kx → cs.length = 3 := by
  rintro cs S k kx ⟨t, n, R, r, rfl, _⟩; rfl
theorem rd_law_bounds_right : ∀ cs S k kx, sp_law_bounds_right cs S k kx → W_law_bounds_right (DE k) (startE N_law_bounds_right cs) S := by
  rintro cs S k kx ⟨t, n, R, total, rfl, rfl, g, hn, hR, hc, hk⟩
  refine ⟨_, tab_len, ?_⟩
  rw [fnL_len]
  refine call_shuf (t := t) (m := n + 2) (t1_own t) g (by omega) fun π t1 g1 hπ => ?_
  refine ⟨.inl ⟨rfl, n, R, rfl, rfl, by omega, fun _ => .inl ⟨_, rfl, ?_⟩⟩⟩
  refine call_told (by omega) fun qs hq => ?_
  have i1 : atI (fnL (n + 2) fun i => nI (π i)) (n : Int) = some (nI (π n)) := fnL_atI _ (by omega)
  have i2 : atI (fnL (n + 2) fun i => nI (π i)) ((n : Int) + 1) = some (nI (π (n + 1))) := by
    have : ((n : Int) + 1) = ((n + 1 : Nat) : Int) := by omega
    rw [this]; exact fnL_atI _ (by omega)
  refine ⟨_, i1, _, i2, ?_⟩
  refine call_moeb hπ (by omega) hR hq hc ?_
  refine call_sameI ?_
  show if (!true) = true then _ else _
  rw [if_neg (by decide)]
  refine call_eulG hπ (by omega) (bn_ord hR) hq bn_chi ?_
  refine call_sameI ?_
  exact hk _ t1 g1 rfl
theorem call_bright {ρ : Env} {S : Sto} {k : C → Sto → Prop} {kx : KX} {t : Tape} {n : Nat} {R : Nat → Nat → Bool} {due : Int} (h : S.own 0 = some (tapeO t)) (g : TGood t) (hn : n ≤ 300) (hR : Ord n R) (hc : Chi n R due)
    (hk : ∀ (t' : Tape), TGood t' → k (.d (.bl true)) (S.set 0 (some (tapeO t')))) : callD sp_law_bounds_right [.c 0, .d (tabD n R), .d (.int due)] ρ S k kx :=
  ⟨.inr (.inl ⟨0, tapeO t, [.c 0, .d (tabD n R), .d (.int due)], h, tp_flat t, rfl, t, n, R, due, rfl, rfl, g, hn, hR, hc, fun S' t' g' h0 => ⟨_, tapeO t', rfl, own_of h0, tp_flat t', hk t' g'⟩⟩)⟩
/-! ### small_right -/
def sp_law_small_right : SpD := fun cs S k kx => ∃ (t : Tape) (n : Nat) (R : Nat → Nat → Bool), cs = [.c 0, .d (tabD n R)] ∧ S = T1 t ∧ TGood t ∧ n ≤ 16 ∧ OrdR n R ∧
  ∀ (S' : Sto) (t' : Tape), TGood t' → S'.own 0 = some (tapeO t') → k (.d (.bl true)) S'
abbrev N_law_small_right : List Str := ["tape", "up", "names", "made", "x", "table", "total", "y"]
def W_law_small_right : TSD := sSeq (sAsg (eCall sp_law_shuffled (aCons (eVar 0) (aCons (eCB dLen (aCons (eVar 1) (aNil))) (aNil)))) (gN 2))
  (sSeq (sAsg (eCall sp_law_told (aCons (eVar 1) (aCons (eVar 2) (aNil)))) (gN 3))
  (sSeq (sAsg (eCall sp_law_signed (aCons (eVar 1) (aNil))) (gT 2 (gsCons (gN 5) (gsCons (gN 6) (gsNil)))))
  (sSeq (sIf (eNotT (eB (eCall sp_law_same (aCons (eCall sp_euler (aCons (eVar 3) (aNil))) (aCons (eVar 6) (aNil))))))
  (sRet (eC (.bl false)))
  (sNext))
  (sSeq (sFor (iRange (eRg1 (eCB dLen (aCons (eVar 1) (aNil))))) (gN 4)
  (sFor (iRange (eRg1 (eCB dLen (aCons (eVar 1) (aNil))))) (gN 7)
  (sIf (eNotT (eB (eCall sp_law_same (aCons (eCall sp_moebius (aCons (eVar 3) (aCons (wBin dIx (eVar 2) (eVar 4)) (aCons (wBin dIx (eVar 2) (eVar 7)) (aNil))))) (aCons (wBin dIx (wBin dIx (eVar 5) (eVar 4)) (eVar 7)) (aNil))))))
  (sRet (eC (.bl false)))
  (sNext))))
  (sRet (eCall sp_law_bounds_right (aCons (eVar 0) (aCons (eVar 1) (aCons (eVar 6) (aNil))))))))))
theorem len_law_small_right : ∀ cs S k kx, sp_law_small_right cs S k kx → cs.length = 2 := by
  rintro cs S k kx ⟨t, n, R, rfl, _⟩; rfl
theorem rd_law_small_right : ∀ cs S k kx, sp_law_small_right cs S k kx → W_law_small_right (DE k) (startE N_law_small_right cs) S := by
  rintro cs S k kx ⟨t, n, R, rfl, rfl, g, hn, hR, hk⟩
  refine ⟨_, tab_len, ?_⟩
  rw [fnL_len]
  refine call_shuf (t := t) (t1_own t) g (by omega) fun π t1 g1 hπ => ?_
  refine call_told (by omega) fun qs hq => ?_
  refine ⟨.inl ⟨rfl, n, R, rfl, rfl, hn, hR, fun M total _ hM hc => .inl ⟨_, rfl, ?_⟩⟩⟩
  refine ⟨rfl, _, _, rfl, _, _, rfl, rfl, ?_⟩
  refine call_eulG hπ (by omega) hR.ord hq hc ?_
  refine call_sameI ?_
  show if (!true) = true then _ else _
  rw [if_neg (by decide)]
  refine ⟨_, tab_len, ?_⟩
  rw [fnL_len]
  let EV : Option C → Option C → Env := fun x y => [some (.c 0), some (.d (tabD n R)), some (.d (rowD n π)), some (.d (ordN n qs)), x, some (.d (.lst (fnL n fun a => rowZ n (M a)))), some (.d (.int total)), y]
  refine ⟨rg_bd (by omega), fun i ρ' S' => ∃ x y, ρ' = EV x y ∧ S' = T1 t1, ⟨none, none, rfl, rfl⟩, fun _ _ _ _ _ => trivial, ?_, ?_⟩
  · rintro a d ρ' S' hd ⟨x, y, rfl, rfl⟩
    obtain ⟨ha, rfl⟩ := rg_at hd
    refine ⟨_, tab_len, ?_⟩
    rw [fnL_len]
    refine ⟨rg_bd (by omega), fun i ρ' S' => ∃ y, ρ' = EV (some (.d (nI a))) y ∧ S' = T1 t1, ⟨y, rfl, rfl⟩, fun _ _ _ _ _ => trivial, ?_, ?_⟩
    · rintro b d ρ' S' hd ⟨y, rfl, rfl⟩
      obtain ⟨hb, rfl⟩ := rg_at hd
      refine ⟨_, fnL_atI _ ha, _, fnL_atI _ hb, ?_⟩
      refine call_moeA hπ (by omega) hR.ord hq ha hb (hM a ha) ?_
      refine ⟨_, fnL_atI _ ha, _, fnL_atI _ hb, ?_⟩
      refine call_sameI ?_
      show if (!true) = true then _ else _
      rw [if_neg (by decide)]
      exact ⟨_, rfl, rfl⟩
    · rintro ρ' S' ⟨y, rfl, rfl⟩
      exact ⟨_, _, rfl, rfl⟩
  · rintro ρ' S' ⟨x, y, rfl, rfl⟩
    exact call_bright (t := t1) (t1_own t1) g1 (by omega) hR.ord hc fun t2 g2 => hk _ t2 g2 rfl
/-! ### towers -/
def towD (T : List (List Nat)) : D := .lst (T.map natsL)
def spot2D (s : Nat × Nat) : D := pairN s
def twB (a b : Nat × Nat) : Bool := decide (a.1 = b.1) && decide (a.2 < b.2)
def twR (l : List (Nat × Nat)) : Nat → Nat → Bool := fun i j => twB (l.getD i (0, 0)) (l.getD j (0, 0))
theorem tab_tw (l : List (Nat × Nat)) : D.lst (l.map fun a => D.lst (l.map fun b => D.bl (twB a b))) = tabD l.length (twR l) := by
  unfold tabD twR
  have e : ∀ f : Nat × Nat → D, l.map f = fnL l.length fun i => f (l.getD i (0, 0)) := fun f => by
    conv => lhs; rw [fnL_of l (0, 0)]
    rw [fnL_map]
  rw [e]
  exact congrArg D.lst (fnL_congr fun i _ => by rw [e])
def spotsK (k : Nat) (s : List Nat) (i : Nat) : List (Nat × Nat) := (List.range i).flatMap fun lv => List.replicate (s.getD lv 0) (k, lv)
def spotsT (T : List (List Nat)) (i : Nat) : List (Nat × Nat) := (List.range i).flatMap fun k => spotsK k (T.getD k []) (T.getD k []).length
structure TwOk (T : List (List Nat)) : Prop where
  ln : (spotsT T T.length).length ≤ 200
  len : T.length ≤ 100
  lev : ∀ s, s ∈ T → s.length ≤ 100
  sz : ∀ s, s ∈ T → ∀ a, a ∈ s → a ≤ 1000
def sp_law_spots : SpD := fun cs S k kx => ∃ T, cs = [.d (towD T)] ∧ S = [] ∧ TwOk T ∧ ∀ S', k (.d (lnkD (spotsT T T.length))) S'
theorem spotsK_succ (k : Nat) (s : List Nat) (i : Nat) : spotsK k s (i + 1) = spotsK k s i ++ List.replicate (s.getD i 0) (k, i) := by
  unfold spotsK; rw [List.range_succ, List.flatMap_append]; simp
theorem spotsT_succ (T : List (List Nat)) (i : Nat) : spotsT T (i + 1) = spotsT T i ++ spotsK i (T.getD i []) (T.getD i []).length := by
  unfold spotsT; rw [List.range_succ, List.flatMap_append]; simp
theorem spotsK_mono (k : Nat) (s : List Nat) : ∀ i j, i ≤ j → (spotsK k s i).length ≤ (spotsK k s j).length := by
  intro i j h
  obtain ⟨d, rfl⟩ := Nat.exists_eq_add_of_le h
  induction d with
  | zero => exact Nat.le_refl _
  | succ d ih => rw [← Nat.add_assoc, spotsK_succ, List.length_append]; have := ih (by omega); omega
theorem spotsT_mono (T : List (List Nat)) : ∀ i j, i ≤ j → (spotsT T i).length ≤ (spotsT T j).length := by
  intro i j h
  obtain ⟨d, rfl⟩ := Nat.exists_eq_add_of_le h
  induction d with
  | zero => exact Nat.le_refl _
  | succ d ih => rw [← Nat.add_assoc, spotsT_succ, List.length_append]; have := ih (by omega); omega
theorem tow_at {T : List (List Nat)} {i : Nat} (h : i < T.length) : atI (T.map natsL) (i : Int) = some (natsL (T.getD i [])) := by
  refine atI_nat ?_
  rw [List.getElem?_map, List.getElem?_eq_getElem h, List.getD_eq_getElem?_getD, List.getElem?_eq_getElem h]; rfl
theorem nat_at {s : List Nat} {i : Nat} (h : i < s.length) : atI (s.map nI) (i : Int) = some (nI (s.getD i 0)) := by
  refine atI_nat ?_
  rw [List.getElem?_map, List.getElem?_eq_getElem h, List.getD_eq_getElem?_getD, List.getElem?_eq_getElem h]; rfl
theorem rep_one {β : Type} (n : Nat) (x : β) : (List.replicate n [x]).flatten = List.replicate n x := by
  induction n with
  | zero => rfl
  | succ n ih => rw [List.replicate_succ, List.flatten_cons, ih, List.replicate_succ]; rfl
abbrev N_law_spots : List Str := ["towers", "spots", "k", "level"]
def W_law_spots : TSD := sSeq (sAsg (eLst false (aNil)) (gN 1))
  (sSeq (sFor (iRange (eRg1 (eCB dLen (aCons (eVar 0) (aNil))))) (gN 2)
  (sFor (iRange (eRg1 (eCB dLen (aCons (wBin dIx (eVar 0) (eVar 2)) (aNil))))) (gN 3)
  (sAsg (wBin (dAdd false) (eVar 1) (wBin (dMul false) (eLst false (aCons (eTup (aCons (eVar 2) (aCons (eVar 3) (aNil)))) (aNil))) (wBin dIx (wBin dIx (eVar 0) (eVar 2)) (eVar 3)))) (gN 1))))
  (sRet (eVar 1)))
theorem len_law_spots : ∀ cs S k kx, sp_law_spots cs S k kx → cs.length = 1 := by
  rintro cs S k kx ⟨t, rfl, _⟩; rfl
theorem rd_law_spots : ∀ cs S k kx, sp_law_spots cs S k kx → W_law_spots (DE k) (startE N_law_spots cs) S := by
  rintro cs S k kx ⟨T, rfl, rfl, hT, hk⟩
  have h1 := hT.len
  refine ⟨lez (by decide), newL_data (ds := []) ?_⟩
  refine ⟨(T.map natsL).map C.d, rfl, ?_⟩
  rw [List.length_map, List.length_map]
  refine ⟨rg_bd (by omega), fun i ρ' S' => ∃ x y, ρ' = [some (.d (towD T)), some (.d (lnkD (spotsT T i))), x, y] ∧ S' = [], ⟨none, none, rfl, rfl⟩, fun _ _ _ _ _ => trivial, ?_, ?_⟩
  · rintro i d ρ' S' hd ⟨x, y, rfl, rfl⟩
    obtain ⟨hi, rfl⟩ := rg_at hd
    have hsl : (T.getD i []).length ≤ 100 := by
      rw [List.getD_eq_getElem?_getD, List.getElem?_eq_getElem hi]
      exact hT.lev _ (List.getElem_mem hi)
    have htot : (spotsT T i).length + (spotsK i (T.getD i []) (T.getD i []).length).length ≤ 200 := by
      rw [← List.length_append, ← spotsT_succ]
      exact Nat.le_trans (spotsT_mono T _ _ (by omega)) hT.ln
    refine ⟨_, tow_at hi, (((T.getD i []).map nI).map C.d), rfl, ?_⟩
    rw [List.length_map, List.length_map]
    refine ⟨rg_bd (by omega), fun j ρ' S' => ∃ y, ρ' = [some (.d (towD T)), some (.d (lnkD (spotsT T i ++ spotsK i (T.getD i []) j))), some (.d (nI i)), y] ∧ S' = [], ⟨y, ?_, rfl⟩, fun _ _ _ _ _ => trivial, ?_, ?_⟩
    · show _ = [some (C.d (towD T)), some (C.d (lnkD (spotsT T i ++ []))), some (C.d (nI i)), y]
      rw [List.append_nil]; rfl
    · rintro j d ρ' S' hd ⟨y, rfl, rfl⟩
      obtain ⟨hj, rfl⟩ := rg_at hd
      have hm := spotsK_mono i (T.getD i []) (j + 1) _ (by omega : j + 1 ≤ (T.getD i []).length)
      rw [spotsK_succ, List.length_append, List.length_replicate] at hm
      refine ⟨lez (by show 2 ≤ 1000000; decide), newT_data (ds := [nI i, nI j]) ⟨lez (by show 1 ≤ 1000000; decide), newL_data (ds := [pairN (i, j)]) ?_⟩⟩
      refine ⟨_, tow_at hi, _, nat_at hj, by omega, by omega, lez (by show 1 * _ ≤ 1000000; omega), ?_⟩
      show newL false (List.replicate (((T.getD i []).getD j 0 : Nat) : Int).toNat [C.d (pairN (i, j))]).flatten _ _
      rw [Int.toNat_natCast, rep_one, ← List.map_replicate (f := C.d)]
      refine newL_data ⟨lez (by simp only [List.length_map, List.length_append, List.length_replicate]; omega), ?_⟩
      rw [← List.map_append]
      refine newL_data ⟨some (.d (nI j)), ?_, rfl⟩
      have : (spotsT T i ++ spotsK i (T.getD i []) j).map pairN ++ List.replicate ((T.getD i []).getD j 0) (pairN (i, j)) = (spotsT T i ++ spotsK i (T.getD i []) (j + 1)).map pairN := by
        rw [spotsK_succ, ← List.append_assoc, List.map_append (l₂ := List.replicate _ _), List.map_replicate]
      exact congrArg (fun z => [some (C.d (towD T)), some (C.d (.lst z)), some (C.d (nI i)), some (C.d (nI j))]) this
    · rintro ρ' S' ⟨y, rfl, rfl⟩
      rw [rg_len, ← spotsT_succ]
      exact ⟨_, _, rfl, rfl⟩
  · rintro ρ' S' ⟨x, y, rfl, rfl⟩
    rw [rg_len]
    exact hk _
/-! ### tower_table -/
def sp_law_tower_table : SpD := fun cs S k kx => ∃ l : List (Nat × Nat), cs = [.d (lnkD l)] ∧ S = [] ∧ l.length ≤ 200 ∧ ∀ S', k (.d (tabD l.length (twR l))) S'
abbrev N_law_tower_table : List Str := ["spots", "one", "other"]
def W_law_tower_table : TSD := sRet (eLc false (iAny (eVar 0)) (gN 1) (tY) (eLc false (iAny (eVar 0)) (gN 2) (tY) (eAndV (wBin dEq (wBin dIx (eVar 1) (eC (.int 0))) (wBin dIx (eVar 2) (eC (.int 0)))) (wBin dLt (wBin dIx (eVar 1) (eC (.int 1))) (wBin dIx (eVar 2) (eC (.int 1))))) [2]) [1])
theorem len_law_tower_table : ∀ cs S k kx, sp_law_tower_table cs S k kx → cs.length = 1 := by
  rintro cs S k kx ⟨t, rfl, _⟩; rfl
theorem rd_law_tower_table : ∀ cs S k kx, sp_law_tower_table cs S k kx → W_law_tower_table (DE k) (startE N_law_tower_table cs) S := by
  rintro cs S k kx ⟨l, rfl, rfl, hl, hk⟩
  have hk := hk []
  rw [← tab_tw] at hk
  refine lc_gen l pairN (fun _ => true) (fun a => .d (.lst (l.map fun b => D.bl (twB a b)))) (by omega) ?_ ?_
  · intro a ha A B hA _
    refine lc_gen l pairN (fun _ => true) (fun b => .d (.bl (twB a b))) (by omega) ?_ ?_
    · intro b hb A B hA _
      refine ⟨_, rfl, _, rfl, ?_⟩
      have hA := hA rfl
      unfold twB at hA
      show if decide ((a.1 : Int) = b.1) = true then _ else _
      rw [nat_eqb]
      split
      · rename_i e
        rw [e] at hA
        refine ⟨_, rfl, _, rfl, ?_⟩
        show A (.d (.bl (decide ((a.2 : Int) < b.2)))) []
        rw [nat_ltb]; exact hA
      · rename_i e
        rw [Bool.eq_false_iff.mpr e] at hA; exact hA
    · rw [filter_all, show (l.map fun b => C.d (.bl (twB a b))) = (l.map fun b => D.bl (twB a b)).map C.d by rw [List.map_map]; rfl]
      exact newL_data (hA rfl)
  · rw [filter_all, show (l.map fun a => C.d (.lst (l.map fun b => D.bl (twB a b)))) = (l.map fun a => D.lst (l.map fun b => D.bl (twB a b))).map C.d by rw [List.map_map]; rfl]
    exact newL_data hk
end PL

/-! plain mathematics: towers of levels -/
namespace PL
open PySem PySem.Spec L2
open PyProof.Rows hiding St
def pr (s : List Nat) : Nat → Int
  | 0 => 1
  | i + 1 => pr s i * (1 - (s.getD i 0 : Nat))
theorem tele (s : List Nat) : ∀ l, sm (List.range l) (fun i => (s.getD i 0 : Nat) * pr s i) = 1 - pr s l
  | 0 => by simp [sm, pr]
  | l + 1 => by
    rw [sm_range_succ, tele s l]
    show 1 - pr s l + (s.getD l 0 : Nat) * pr s l = 1 - pr s l * (1 - (s.getD l 0 : Nat))
    rw [Int.mul_sub, Int.mul_one, Int.mul_comm (pr s l)]; omega
theorem sm_rep {α : Type} (n : Nat) (x : α) (F : α → Int) : sm (List.replicate n x) F = (n : Int) * F x := by
  induction n with
  | zero => simp [sm]
  | succ n ih => rw [List.replicate_succ, sm_cons, ih, Int.natCast_succ, Int.add_mul, Int.one_mul]; omega
theorem sm_spotsK (k : Nat) (s : List Nat) (i : Nat) (F : Nat × Nat → Int) : sm (spotsK k s i) F = sm (List.range i) (fun lv => (s.getD lv 0 : Nat) * F (k, lv)) := by
  unfold spotsK
  rw [sm_flatMap]
  exact sm_congr fun lv _ => sm_rep _ _ _
theorem sm_spotsT (T : List (List Nat)) (i : Nat) (F : Nat × Nat → Int) : sm (spotsT T i) F = sm (List.range i) (fun k => sm (List.range (T.getD k []).length) (fun lv => ((T.getD k []).getD lv 0 : Nat) * F (k, lv))) := by
  unfold spotsT
  rw [sm_flatMap]
  exact sm_congr fun k _ => sm_spotsK _ _ _ _
theorem mem_spotsT {T : List (List Nat)} {a : Nat × Nat} (h : a ∈ spotsT T T.length) : a.1 < T.length ∧ a.2 < (T.getD a.1 []).length := by
  unfold spotsT at h
  obtain ⟨k, hk, h⟩ := List.mem_flatMap.mp h
  unfold spotsK at h
  obtain ⟨lv, hlv, h⟩ := List.mem_flatMap.mp h
  have := List.eq_of_mem_replicate h
  subst this
  exact ⟨by simpa using hk, by simpa using hlv⟩
theorem sm_getD2 (l : List (Nat × Nat)) (F : Nat × Nat → Int) : sm (List.range l.length) (fun i => F (l.getD i (0, 0))) = sm l F := by
  conv => rhs; rw [fnL_of l (0, 0)]
  unfold fnL
  rw [sm_map]
theorem getD_mem2 {l : List (Nat × Nat)} {i : Nat} (h : i < l.length) : l.getD i (0, 0) ∈ l := by
  rw [List.getD_eq_getElem?_getD, List.getElem?_eq_getElem h]; exact List.getElem_mem h
theorem tw_iff {a b : Nat × Nat} : twB a b = true ↔ a.1 = b.1 ∧ a.2 < b.2 := by
  unfold twB; rw [Bool.and_eq_true, decide_eq_true_eq, decide_eq_true_eq]
theorem tw_ord (l : List (Nat × Nat)) : Ord l.length (twR l) := by
  refine ⟨fun a b c _ _ _ h1 h2 => ?_, fun x _ => ?_⟩
  · change twB _ _ = true at h1
    change twB _ _ = true at h2
    show twB _ _ = true
    rw [tw_iff] at *
    omega
  · cases e : twR l x x with
    | false => rfl
    | true => have := tw_iff.mp (show twB _ _ = true from e); omega
/-- sums over the spots of one tower whose level is in a range -/
theorem sm_tower {T : List (List Nat)} {k0 : Nat} (hk : k0 < T.length) (F : Nat → Int) (p : Nat → Bool) : sm (spotsT T T.length) (fun b => if (decide (b.1 = k0) && p b.2) = true then F b.2 else 0) = sm (List.range (T.getD k0 []).length) (fun lv => ((T.getD k0 []).getD lv 0 : Nat) * (if p lv = true then F lv else 0)) := by
  rw [sm_spotsT]
  have : sm (List.range T.length) (fun k => sm (List.range (T.getD k []).length) (fun lv => ((T.getD k []).getD lv 0 : Nat) * (if (decide (k = k0) && p lv) = true then F lv else 0))) = sm (List.range T.length) (fun k => if k = k0 then sm (List.range (T.getD k []).length) (fun lv => ((T.getD k []).getD lv 0 : Nat) * (if p lv = true then F lv else 0)) else 0) := by
    refine sm_congr fun k _ => ?_
    by_cases e : k = k0
    · rw [if_pos e]; exact sm_congr fun lv _ => by simp [e]
    · rw [if_neg e]; exact sm_zero' fun lv _ => by simp [e]
  refine this.trans ?_
  rw [sm_if_eq List.nodup_range, if_pos (by simpa using hk)]
/-- cut a sum -/
theorem sm_cut {n l : Nat} (h : l ≤ n) (f : Nat → Int) : sm (List.range n) (fun i => if i < l then f i else 0) = sm (List.range l) f := by
  obtain ⟨d, rfl⟩ := Nat.exists_eq_add_of_le h
  rw [sm_range_add]
  have e1 : sm (List.range l) (fun i => if i < l then f i else 0) = sm (List.range l) f := sm_lt_congr fun i hi => if_pos hi
  have e2 : sm (List.range d) (fun i => if l + i < l then f (l + i) else 0) = 0 := sm_zero' fun i _ => if_neg (by omega)
  rw [e1, e2]; omega
theorem tw_chi {T : List (List Nat)} : Chi (spotsT T T.length).length (twR (spotsT T T.length)) (sm (List.range T.length) fun k => 1 - pr (T.getD k []) (T.getD k []).length) := by
  let G : Nat × Nat → Int := fun a => pr (T.getD a.1 []) a.2
  refine ⟨fun i => G ((spotsT T T.length).getD i (0, 0)), fun x hx => ?_, ?_⟩
  · obtain ⟨h1, h2⟩ := mem_spotsT (getD_mem2 hx)
    show G _ + sm (List.range (spotsT T T.length).length) (fun y => if twB ((spotsT T T.length).getD y (0, 0)) ((spotsT T T.length).getD x (0, 0)) = true then G ((spotsT T T.length).getD y (0, 0)) else 0) = 1
    generalize (spotsT T T.length).getD x (0, 0) = a at h1 h2
    have e0 := sm_getD2 (spotsT T T.length) (fun b => if twB b a = true then G b else 0)
    have e1 : sm (spotsT T T.length) (fun b => if twB b a = true then G b else 0) = sm (spotsT T T.length) (fun b => if (decide (b.1 = a.1) && (fun l => decide (l < a.2)) b.2) = true then pr (T.getD a.1 []) b.2 else 0) := sm_congr fun b _ => by
      show (if twB b a = true then pr (T.getD b.1 []) b.2 else 0) = if twB b a = true then pr (T.getD a.1 []) b.2 else 0
      split
      · rename_i q; rw [(tw_iff.mp q).1]
      · rfl
    have e0 := e0.trans (e1.trans (sm_tower h1 (fun l => pr (T.getD a.1 []) l) (fun l => decide (l < a.2))))
    refine (congrArg (fun z => G a + z) e0).trans ?_
    have e2 : sm (List.range (T.getD a.1 []).length) (fun lv => ((T.getD a.1 []).getD lv 0 : Nat) * (if (fun l => decide (l < a.2)) lv = true then pr (T.getD a.1 []) lv else 0)) = sm (List.range (T.getD a.1 []).length) (fun lv => if lv < a.2 then ((T.getD a.1 []).getD lv 0 : Nat) * pr (T.getD a.1 []) lv else 0) := sm_congr fun lv _ => by
      by_cases q : lv < a.2
      · simp [q]
      · simp [q]
    show pr (T.getD a.1 []) a.2 + _ = 1
    rw [e2, sm_cut (by omega), tele]; omega
  · rw [sm_getD2, sm_spotsT]
    refine sm_congr fun k _ => ?_
    exact (tele _ _).symm
/-- moebius from a point of a tower: its row -/
def muT (T : List (List Nat)) (l : List (Nat × Nat)) (a : Nat) : Nat → Int := fun z => if z = a then 1 else if twB (l.getD a (0, 0)) (l.getD z (0, 0)) = true then - pr ((T.getD (l.getD a (0, 0)).1 []).drop ((l.getD a (0, 0)).2 + 1)) ((l.getD z (0, 0)).2 - ((l.getD a (0, 0)).2 + 1)) else 0
theorem muT_ok {T : List (List Nat)} {a : Nat} (ha : a < (spotsT T T.length).length) : MuA (spotsT T T.length).length (twR (spotsT T T.length)) a (muT T (spotsT T T.length) a) := by
  intro z hz
  obtain ⟨k1, k2⟩ := mem_spotsT (getD_mem2 ha)
  obtain ⟨z1, z2⟩ := mem_spotsT (getD_mem2 hz)
  have hirr := (tw_ord (spotsT T T.length)).irr
  -- the sum over what stands below z
  have es : sm (List.range (spotsT T T.length).length) (fun y => if twR (spotsT T T.length) y z = true then muT T (spotsT T T.length) a y else 0) =
      (if twR (spotsT T T.length) a z = true then 1 else 0) + sm (spotsT T T.length) (fun b => if (twB ((spotsT T T.length).getD a (0, 0)) b && twB b ((spotsT T T.length).getD z (0, 0))) = true then - pr ((T.getD ((spotsT T T.length).getD a (0, 0)).1 []).drop (((spotsT T T.length).getD a (0, 0)).2 + 1)) (b.2 - (((spotsT T T.length).getD a (0, 0)).2 + 1)) else 0) := by
    rw [← sm_getD2]
    have : sm (List.range (spotsT T T.length).length) (fun y => if twR (spotsT T T.length) y z = true then muT T (spotsT T T.length) a y else 0) = sm (List.range (spotsT T T.length).length) (fun y => (if y = a then (if twR (spotsT T T.length) a z = true then 1 else 0) else 0) + (if (twB ((spotsT T T.length).getD a (0, 0)) ((spotsT T T.length).getD y (0, 0)) && twB ((spotsT T T.length).getD y (0, 0)) ((spotsT T T.length).getD z (0, 0))) = true then - pr ((T.getD ((spotsT T T.length).getD a (0, 0)).1 []).drop (((spotsT T T.length).getD a (0, 0)).2 + 1)) (((spotsT T T.length).getD y (0, 0)).2 - (((spotsT T T.length).getD a (0, 0)).2 + 1)) else 0)) := by
      refine sm_lt_congr fun y hy => ?_
      by_cases e : y = a
      · subst e
        have h0 : twB ((spotsT T T.length).getD y (0, 0)) ((spotsT T T.length).getD y (0, 0)) = false := hirr y hy
        rw [h0, if_pos rfl]
        show (if _ then (if y = y then (1 : Int) else _) else 0) = _
        rw [if_pos rfl]; simp
      · rw [if_neg e]
        show (if twB ((spotsT T T.length).getD y (0, 0)) ((spotsT T T.length).getD z (0, 0)) = true then (if y = a then (1 : Int) else if _ then _ else 0) else 0) = _
        rw [if_neg e]
        cases twB ((spotsT T T.length).getD y (0, 0)) ((spotsT T T.length).getD z (0, 0)) <;> simp
    rw [this, sm_add, sm_if_eq List.nodup_range, if_pos (by simpa using ha)]
  rw [es]
  by_cases e : z = a
  · subst e
    rw [if_pos rfl, hirr z hz]
    show (if z = z then (1 : Int) else _) + _ = 1
    rw [if_pos rfl]
    have : sm (spotsT T T.length) (fun b => if (twB ((spotsT T T.length).getD z (0, 0)) b && twB b ((spotsT T T.length).getD z (0, 0))) = true then - pr ((T.getD ((spotsT T T.length).getD z (0, 0)).1 []).drop (((spotsT T T.length).getD z (0, 0)).2 + 1)) (b.2 - (((spotsT T T.length).getD z (0, 0)).2 + 1)) else 0) = 0 := sm_zero' fun b _ => by
      split
      · rename_i q
        rw [Bool.and_eq_true, tw_iff, tw_iff] at q; omega
      · rfl
    rw [this]; rfl
  · rw [if_neg e]
    show (if z = a then (1 : Int) else if twB ((spotsT T T.length).getD a (0, 0)) ((spotsT T T.length).getD z (0, 0)) = true then _ else 0) + _ = 0
    rw [if_neg e]
    show (if twB ((spotsT T T.length).getD a (0, 0)) ((spotsT T T.length).getD z (0, 0)) = true then _ else 0) + ((if twB ((spotsT T T.length).getD a (0, 0)) ((spotsT T T.length).getD z (0, 0)) = true then (1 : Int) else 0) + _) = 0
    generalize (spotsT T T.length).getD a (0, 0) = A at k1 k2
    generalize (spotsT T T.length).getD z (0, 0) = Z at z1 z2
    by_cases q : twB A Z = true
    · rw [if_pos q, if_pos q]
      obtain ⟨q1, q2⟩ := tw_iff.mp q
      have e1 : sm (spotsT T T.length) (fun b => if (twB A b && twB b Z) = true then - pr ((T.getD A.1 []).drop (A.2 + 1)) (b.2 - (A.2 + 1)) else 0) = sm (spotsT T T.length) (fun b => if (decide (b.1 = A.1) && (fun l => decide (A.2 < l) && decide (l < Z.2)) b.2) = true then (fun l => - pr ((T.getD A.1 []).drop (A.2 + 1)) (l - (A.2 + 1))) b.2 else 0) := sm_congr fun b _ => by
        have : (twB A b && twB b Z) = (decide (b.1 = A.1) && (decide (A.2 < b.2) && decide (b.2 < Z.2))) := by
          unfold twB
          by_cases w : b.1 = A.1
          · have w1 : A.1 = b.1 := w.symm
            have w2 : b.1 = Z.1 := w.trans q1
            simp [w1, w2]
          · have w1 : ¬ A.1 = b.1 := fun z => w z.symm
            simp [w, w1]
        rw [this]
      rw [e1.trans (sm_tower k1 (fun l => - pr ((T.getD A.1 []).drop (A.2 + 1)) (l - (A.2 + 1))) (fun l => decide (A.2 < l) && decide (l < Z.2)))]
      rw [← q1] at z2
      generalize T.getD A.1 [] = s at k2 z2
      have hd : ∀ i, (s.drop (A.2 + 1)).getD i 0 = s.getD (A.2 + 1 + i) 0 := fun i => by
        rw [List.getD_eq_getElem?_getD, List.getD_eq_getElem?_getD, List.getElem?_drop]
      have e2 : sm (List.range s.length) (fun lv => (s.getD lv 0 : Nat) * (if (fun l => decide (A.2 < l) && decide (l < Z.2)) lv = true then (fun l => - pr (s.drop (A.2 + 1)) (l - (A.2 + 1))) lv else 0)) =
          sm (List.range s.length) (fun lv => if lv < Z.2 then (if A.2 < lv then (s.getD lv 0 : Nat) * - pr (s.drop (A.2 + 1)) (lv - (A.2 + 1)) else 0) else 0) := sm_congr fun lv _ => by
        by_cases w1 : A.2 < lv <;> by_cases w2 : lv < Z.2 <;> simp [w1, w2]
      rw [e2, sm_cut (by omega)]
      obtain ⟨d, hdd⟩ := Nat.exists_eq_add_of_le (show A.2 + 1 ≤ Z.2 by omega)
      rw [hdd, sm_range_add]
      have e3 : sm (List.range (A.2 + 1)) (fun lv => if A.2 < lv then (s.getD lv 0 : Nat) * - pr (s.drop (A.2 + 1)) (lv - (A.2 + 1)) else 0) = 0 := sm_zero' fun lv hlv => if_neg (fun w => by
        have hlv : lv < A.2 + 1 := by simpa using hlv
        omega)
      have e4 : sm (List.range d) (fun i => if A.2 < A.2 + 1 + i then (s.getD (A.2 + 1 + i) 0 : Nat) * - pr (s.drop (A.2 + 1)) (A.2 + 1 + i - (A.2 + 1)) else 0) = - sm (List.range d) (fun i => ((s.drop (A.2 + 1)).getD i 0 : Nat) * pr (s.drop (A.2 + 1)) i) := by
        rw [← sm_neg]
        refine sm_congr fun i _ => ?_
        rw [if_pos (by omega), hd i, show A.2 + 1 + i - (A.2 + 1) = i by omega, Int.mul_neg]
      rw [e3, e4, tele, show A.2 + 1 + d - (A.2 + 1) = d by omega]
      omega
    · rw [if_neg q, if_neg q]
      have : sm (spotsT T T.length) (fun b => if (twB A b && twB b Z) = true then - pr ((T.getD A.1 []).drop (A.2 + 1)) (b.2 - (A.2 + 1)) else 0) = 0 := sm_zero' fun b _ => by
        split
        · rename_i w
          exfalso; apply q
          rw [Bool.and_eq_true, tw_iff, tw_iff] at w
          rw [tw_iff]; omega
        · rfl
      rw [this]; rfl
end PL

namespace PL
open PySem PySem.Spec L2
open PyProof.Rows hiding St
/-! ### towers, checked -/
def sp_law_towers_right : SpD := fun cs S k kx => ∃ (t : Tape) (T : List (List Nat)), cs = [.c 0, .d (towD T)] ∧ S = T1 t ∧ TGood t ∧ TwOk T ∧ 0 < (spotsT T T.length).length ∧
  ∀ (S' : Sto) (t' : Tape), TGood t' → S'.own 0 = some (tapeO t') → k (.d (.bl true)) S'
theorem getD_lst {T : List (List Nat)} {i : Nat} (h : i < T.length) : T.getD i [] ∈ T := by
  rw [List.getD_eq_getElem?_getD, List.getElem?_eq_getElem h]; exact List.getElem_mem h
theorem getD_nat {s : List Nat} {i : Nat} (h : i < s.length) : s.getD i 0 ∈ s := by
  rw [List.getD_eq_getElem?_getD, List.getElem?_eq_getElem h]; exact List.getElem_mem h
theorem at_getD {s : List Nat} {i : Nat} {d : D} (h : (s.map nI)[i]? = some d) : i < s.length ∧ d = nI (s.getD i 0) := by
  obtain ⟨x, hx, rfl⟩ := at_map h
  refine ⟨(List.getElem?_eq_some_iff.mp hx).1, ?_⟩
  rw [List.getD_eq_getElem?_getD, hx]; rfl
theorem at_getT {T : List (List Nat)} {i : Nat} {d : D} (h : (T.map natsL)[i]? = some d) : i < T.length ∧ d = natsL (T.getD i []) := by
  obtain ⟨x, hx, rfl⟩ := at_map h
  refine ⟨(List.getElem?_eq_some_iff.mp hx).1, ?_⟩
  rw [List.getD_eq_getElem?_getD, hx]; rfl
theorem spot_at {l : List (Nat × Nat)} {i : Nat} (h : i < l.length) : atI (l.map pairN) (i : Int) = some (pairN (l.getD i (0, 0))) := by
  refine atI_nat ?_
  rw [List.getElem?_map, List.getElem?_eq_getElem h, List.getD_eq_getElem?_getD, List.getElem?_eq_getElem h]; rfl
theorem dSl_cut {s : List Nat} {a b : Nat} {S : Sto} {k : C → Sto → Prop} (h1 : a + 1 ≤ b) (h2 : b ≤ s.length) (h : k (.d (natsL ((s.drop (a + 1)).take (b - (a + 1))))) S) : dSl false (.d (natsL s)) (some ((a : Int) + 1)) (some (b : Int)) S k := by
  show newL false (cutG ((s.map nI).map C.d) (some ((a : Int) + 1)) (some (b : Int))) S k
  have e : cutG ((s.map nI).map C.d) (some ((a : Int) + 1)) (some (b : Int)) = (((s.drop (a + 1)).take (b - (a + 1))).map nI).map C.d := by
    have e0 : ((a : Int) + 1) = ((a + 1 : Nat) : Int) := by omega
    rw [e0]
    unfold cutG
    rw [HT.sIx_nat, HT.sIx_nat, List.length_map, List.length_map, Nat.min_eq_left h2, Nat.min_eq_left (show a + 1 ≤ s.length by omega), ← List.map_drop, ← List.map_drop, ← List.map_take, ← List.map_take]
  rw [e]
  exact newL_data h
abbrev N_law_towers_right : List Str := ["tape", "towers", "spots", "up", "names", "made", "total", "sizes", "k", "left", "size", "x", "y", "due"]
def W_law_towers_right : TSD := sSeq (sAsg (eCall sp_law_spots (aCons (eVar 1) (aNil))) (gN 2))
  (sSeq (sAsg (eCall sp_law_tower_table (aCons (eVar 2) (aNil))) (gN 3))
  (sSeq (sAsg (eCall sp_law_shuffled (aCons (eVar 0) (aCons (eCB dLen (aCons (eVar 2) (aNil))) (aNil)))) (gN 4))
  (sSeq (sAsg (eCall sp_law_told (aCons (eVar 3) (aCons (eVar 4) (aNil)))) (gN 5))
  (sSeq (sAsg (eC (.int 0)) (gN 6))
  (sSeq (sFor (iAny (eVar 1)) (gN 7)
  (sSeq (sAsg (eC (.int 1)) (gN 9))
  (sSeq (sFor (iAny (eVar 7)) (gN 10)
  (sAsg (wBin (dMul false) (eVar 9) (wBin dSub (eC (.int 1)) (eVar 10))) (gN 9)))
  (sAsg (wBin dSub (wBin (dAdd false) (eVar 6) (eC (.int 1))) (eVar 9)) (gN 6)))))
  (sSeq (sIf (eNotT (eB (eCall sp_law_same (aCons (eCall sp_euler (aCons (eVar 5) (aNil))) (aCons (eVar 6) (aNil))))))
  (sRet (eC (.bl false)))
  (sNext))
  (sSeq (sFor (iRange (eRg1 (eC (.int 6)))) (gN 8)
  (sSeq (sAsg (eCall sp_law_draw (aCons (eVar 0) (aCons (eCB dLen (aCons (eVar 2) (aNil))) (aNil)))) (gN 11))
  (sSeq (sAsg (eCall sp_law_draw (aCons (eVar 0) (aCons (eCB dLen (aCons (eVar 2) (aNil))) (aNil)))) (gN 12))
  (sSeq (sAsg (eCB dToInt (aCons (wBin dEq (eVar 11) (eVar 12)) (aNil))) (gN 13))
  (sSeq (sIf (eB (wBin dIx (wBin dIx (eVar 3) (eVar 11)) (eVar 12)))
  (sSeq (sAsg (wUn dNeg (eC (.int 1))) (gN 13))
  (sFor (iAny (eSl false (wBin dIx (eVar 1) (wBin dIx (wBin dIx (eVar 2) (eVar 11)) (eC (.int 0)))) (oSome (wBin (dAdd false) (wBin dIx (wBin dIx (eVar 2) (eVar 11)) (eC (.int 1))) (eC (.int 1)))) (oSome (wBin dIx (wBin dIx (eVar 2) (eVar 12)) (eC (.int 1)))))) (gN 10)
  (sAsg (wBin (dMul false) (eVar 13) (wBin dSub (eC (.int 1)) (eVar 10))) (gN 13))))
  (sNext))
  (sIf (eNotT (eB (eCall sp_law_same (aCons (eCall sp_moebius (aKw 0 3 [2, 1, 0] aNil (aCons (wBin dIx (eVar 4) (eVar 12)) (aCons (wBin dIx (eVar 4) (eVar 11)) (aCons (eVar 5) (aNil)))))) (aCons (eVar 13) (aNil))))))
  (sRet (eC (.bl false)))
  (sNext)))))))
  (sRet (eCall sp_law_bounds_right (aCons (eVar 0) (aCons (eVar 3) (aCons (eVar 6) (aNil)))))))))))))
theorem len_law_towers_right : ∀ cs S k kx, sp_law_towers_right cs S k kx → cs.length = 2 := by
  rintro cs S k kx ⟨t, T, rfl, _⟩; rfl
theorem rd_law_towers_right : ∀ cs S k kx, sp_law_towers_right cs S k kx → W_law_towers_right (DE k) (startE N_law_towers_right cs) S := by
  rintro cs S k kx ⟨t, T, rfl, rfl, g, hT, hpos, hk⟩
  refine ⟨.inl ⟨rfl, T, rfl, rfl, hT, fun _ => .inl ⟨_, rfl, ?_⟩⟩⟩
  have hl := hT.ln
  have hO := tw_ord (spotsT T T.length)
  have hC := tw_chi (T := T)
  have hM := fun (a : Nat) (ha : a < (spotsT T T.length).length) => muT_ok ha
  have hms := fun (i : Nat) (hi : i < (spotsT T T.length).length) => mem_spotsT (getD_mem2 hi)
  generalize hN : (spotsT T T.length).length = N at hl hO hC hM hms hpos
  refine ⟨.inl ⟨rfl, spotsT T T.length, rfl, rfl, by omega, fun _ => .inl ⟨_, rfl, ?_⟩⟩⟩
  rw [hN]
  refine ⟨((spotsT T T.length).map pairN).map C.d, rfl, ?_⟩
  rw [List.length_map, List.length_map, hN]
  refine call_shuf (t := t) (t1_own t) g (by omega) fun π t1 g1 hπ => ?_
  refine call_told (by omega) fun qs hq => ?_
  let EV : Int → Option C → Option C → Option C → Option C → Option C → Option C → Option C → Env := fun total a b c d e f h => [some (.c 0), some (.d (towD T)), some (.d (lnkD (spotsT T T.length))), some (.d (tabD N (twR (spotsT T T.length)))), some (.d (rowD N π)), some (.d (ordN N qs)), some (.d (.int total)), a, b, c, d, e, f, h]
  refine ⟨fun i ρ' S' => ∃ a c d, ρ' = EV (sm (List.range i) fun k => 1 - pr (T.getD k []) (T.getD k []).length) a none c d none none none ∧ S' = T1 t1, ⟨none, none, none, rfl, rfl⟩, fun _ _ _ _ _ => trivial, ?_, ?_⟩
  · rintro i d ρ' S' hd ⟨a, c, e, rfl, rfl⟩
    obtain ⟨hi, rfl⟩ := at_getT hd
    refine ⟨fun j ρ' S' => ∃ e, ρ' = EV (sm (List.range i) fun k => 1 - pr (T.getD k []) (T.getD k []).length) (some (.d (natsL (T.getD i [])))) none (some (.d (.int (pr (T.getD i []) j)))) e none none none ∧ S' = T1 t1, ⟨e, rfl, rfl⟩, fun _ _ _ _ _ => trivial, ?_, ?_⟩
    · rintro j d ρ' S' hd ⟨e, rfl, rfl⟩
      obtain ⟨hj, rfl⟩ := at_getD hd
      have hs := hT.sz _ (getD_lst hi) _ (getD_nat hj)
      exact ⟨.inr ⟨by show -(2 ^ 64 : Int) < 1 - _; omega, by show (1 : Int) - _ < 2 ^ 64; omega⟩, _, rfl, rfl⟩
    · rintro ρ' S' ⟨e, rfl, rfl⟩
      rw [List.length_map]
      refine ⟨some (.d (natsL (T.getD i []))), some (.d (.int (pr (T.getD i []) (T.getD i []).length))), e, ?_, rfl⟩
      have : (sm (List.range i) fun k => 1 - pr (T.getD k []) (T.getD k []).length) + 1 - pr (T.getD i []) (T.getD i []).length = sm (List.range (i + 1)) fun k => 1 - pr (T.getD k []) (T.getD k []).length := by
        rw [sm_range_succ]; omega
      exact congrArg (fun z => EV z (some (.d (natsL (T.getD i [])))) none (some (.d (.int (pr (T.getD i []) (T.getD i []).length)))) e none none none) this
  · rintro ρ' S' ⟨a, c, d, rfl, rfl⟩
    rw [List.length_map]
    generalize (sm (List.range T.length) fun k => 1 - pr (T.getD k []) (T.getD k []).length) = total at hC
    refine call_eulG hπ (by omega) hO hq hC ?_
    refine call_sameI ?_
    show if (!true) = true then _ else _
    rw [if_neg (by decide)]
    refine ⟨⟨by decide, by decide, by decide, by decide⟩, fun i ρ' S' => ∃ a b c d e f h t, ρ' = EV total a b c d e f h ∧ S' = T1 t ∧ TGood t, ⟨a, none, c, d, none, none, none, t1, rfl, rfl, g1⟩, fun _ _ _ _ _ => trivial, ?_, ?_⟩
    · rintro i d0 ρ' S' hd ⟨a, b, c, d, e, f, h, t, rfl, rfl, g⟩
      refine ⟨((spotsT T T.length).map pairN).map C.d, rfl, ?_⟩
      rw [List.length_map, List.length_map, hN]
      refine call_draw (t := t) (t1_own t) g (by omega) fun x t2 g2 hx => ?_
      refine ⟨((spotsT T T.length).map pairN).map C.d, rfl, ?_⟩
      rw [List.length_map, List.length_map, hN]
      refine call_draw (t := t2) rfl g2 (by omega) fun y t3 g3 hy => ?_
      have hx : x < N := by omega
      have hy : y < N := by omega
      -- the last test
      have fin : ∀ (Dn : EndsD) (d : Option C), (∀ d, Dn.nx (EV total a (some (.d d0)) c d (some (.d (nI x))) (some (.d (nI y))) (some (.d (.int (muT T (spotsT T T.length) x y))))) (T1 t3)) → (sIf (eNotT (eB (eCall sp_law_same (aCons (eCall sp_moebius (aKw 0 3 [2, 1, 0] aNil (aCons (wBin dIx (eVar 4) (eVar 12)) (aCons (wBin dIx (eVar 4) (eVar 11)) (aCons (eVar 5) (aNil)))))) (aCons (eVar 13) (aNil))))))
  (sRet (eC (.bl false)))
  (sNext)) Dn (EV total a (some (.d d0)) c d (some (.d (nI x))) (some (.d (nI y))) (some (.d (.int (muT T (spotsT T T.length) x y))))) (T1 t3) := by
        intro Dn d hnx
        refine ⟨_, fnL_atI _ hy, _, fnL_atI _ hx, ?_⟩
        refine call_moeA hπ (by omega) hO hq hx hy (hM x hx) ?_
        refine call_sameI ?_
        show if (!true) = true then _ else _
        rw [if_neg (by decide)]
        exact hnx d
      have hnx : ∀ d, ∃ a' b' c' d' e' f' h' t', EV total a (some (.d d0)) c d (some (.d (nI x))) (some (.d (nI y))) (some (.d (.int (muT T (spotsT T T.length) x y)))) = EV total a' b' c' d' e' f' h' ∧ T1 t3 = T1 t' ∧ TGood t' := fun d => ⟨_, _, _, _, _, _, _, t3, rfl, rfl, g3⟩
      obtain ⟨x1, x2⟩ := hms x hx
      obtain ⟨y1, y2⟩ := hms y hy
      refine ⟨_, tab_at hx, _, fnL_atI _ hy, ?_⟩
      show if twR (spotsT T T.length) x y = true then _ else _
      split
      · rename_i hup
        have hup' : twB ((spotsT T T.length).getD x (0, 0)) ((spotsT T T.length).getD y (0, 0)) = true := hup
        obtain ⟨q1, q2⟩ := tw_iff.mp hup'
        have hxy : ¬ y = x := fun q => by subst q; omega
        have hmu : muT T (spotsT T T.length) x y = - pr ((T.getD ((spotsT T T.length).getD x (0, 0)).1 []).drop (((spotsT T T.length).getD x (0, 0)).2 + 1)) (((spotsT T T.length).getD y (0, 0)).2 - (((spotsT T T.length).getD x (0, 0)).2 + 1)) := by
          unfold muT
          rw [if_neg hxy, if_pos hup']
        have hxl : x < (spotsT T T.length).length := by omega
        have hyl : y < (spotsT T T.length).length := by omega
        refine ⟨_, spot_at hxl, _, rfl, _, tow_at x1, _, spot_at hxl, nI ((spotsT T T.length).getD x (0, 0)).2, rfl, _, spot_at hyl, nI ((spotsT T T.length).getD y (0, 0)).2, rfl, ?_⟩
        rw [← q1] at y2
        refine dSl_cut (by omega) (by omega) ?_
        have hsz : ∀ v, v ∈ T.getD ((spotsT T T.length).getD x (0, 0)).1 [] → v ≤ 1000 := hT.sz _ (getD_lst x1)
        generalize T.getD ((spotsT T T.length).getD x (0, 0)).1 [] = s at x2 y2 hmu hsz
        generalize ((spotsT T T.length).getD x (0, 0)).2 = lx at x2 q2 hmu
        generalize ((spotsT T T.length).getD y (0, 0)).2 = ly at y2 q2 hmu
        have hlen : ((s.drop (lx + 1)).take (ly - (lx + 1))).length = ly - (lx + 1) := by rw [List.length_take, List.length_drop]; omega
        refine ⟨fun j ρ' S' => ∃ d, ρ' = EV total a (some (.d d0)) c d (some (.d (nI x))) (some (.d (nI y))) (some (.d (.int (- pr (s.drop (lx + 1)) j)))) ∧ S' = T1 t3, ⟨d, rfl, rfl⟩, fun _ _ _ _ _ => trivial, ?_, ?_⟩
        · rintro j dd ρ' S' hd ⟨d, rfl, rfl⟩
          obtain ⟨hj, rfl⟩ := at_getD hd
          have hg : ((s.drop (lx + 1)).take (ly - (lx + 1))).getD j 0 = (s.drop (lx + 1)).getD j 0 := by
            rw [hlen] at hj
            rw [List.getD_eq_getElem?_getD, List.getD_eq_getElem?_getD, List.getElem?_take_of_lt hj]
          have hs := hsz _ (List.mem_of_mem_drop (List.mem_of_mem_take (getD_nat hj)))
          rw [hg] at hs ⊢
          refine ⟨.inr ⟨by show -(2 ^ 64 : Int) < 1 - _; omega, by show (1 : Int) - _ < 2 ^ 64; omega⟩, ?_⟩
          refine ⟨some (.d (nI ((s.drop (lx + 1)).getD j 0))), ?_, rfl⟩
          have : - pr (s.drop (lx + 1)) j * (1 - ((s.drop (lx + 1)).getD j 0 : Nat)) = - pr (s.drop (lx + 1)) (j + 1) := by
            show _ = - (pr (s.drop (lx + 1)) j * _)
            rw [Int.neg_mul]
          exact congrArg (fun z => EV total a (some (.d d0)) c (some (.d (nI ((s.drop (lx + 1)).getD j 0)))) (some (.d (nI x))) (some (.d (nI y))) (some (.d (.int z)))) this
        · rintro ρ' S' ⟨d, rfl, rfl⟩
          rw [List.length_map, hlen, ← hmu]
          exact fin _ d hnx
      · rename_i hup
        have hup' : ¬ twB ((spotsT T T.length).getD x (0, 0)) ((spotsT T T.length).getD y (0, 0)) = true := hup
        have hmu : (if decide ((x : Int) = y) = true then (1 : Int) else 0) = muT T (spotsT T T.length) x y := by
          unfold muT
          rw [nat_eqb]
          by_cases q : y = x
          · subst q; simp
          · rw [if_neg q, if_neg hup', if_neg (by simpa using Ne.symm q)]
        have fin' := fun Dn => fin Dn d
        rw [← hmu] at fin'
        rw [← hmu] at hnx
        exact fin' _ hnx
    · rintro ρ' S' ⟨a, b, c, d, e, f, h, t, rfl, rfl, g⟩
      exact call_bright (t := t) (t1_own t) g (by omega) hO hC fun t2 g2 => hk _ t2 g2 rfl
end PL

namespace PL
open PySem PySem.Spec L2
open PyProof.Rows hiding St
theorem spotsK_len (k : Nat) (s : List Nat) : ∀ i, i ≤ s.length → (spotsK k s i).length = (s.take i).sum
  | 0, _ => by simp [spotsK]
  | i + 1, h => by
    have e : s.take (i + 1) = s.take i ++ [s.getD i 0] := by
      rw [List.take_succ_eq_append_getElem (by omega), List.getD_eq_getElem?_getD, List.getElem?_eq_getElem (by omega)]; rfl
    rw [spotsK_succ, List.length_append, List.length_replicate, spotsK_len k s i (by omega), e, List.sum_append]; simp
theorem spotsT_len (T : List (List Nat)) : ∀ i, i ≤ T.length → (spotsT T i).length = ((T.take i).map List.sum).sum
  | 0, _ => by simp [spotsT]
  | i + 1, h => by
    have e : T.take (i + 1) = T.take i ++ [T.getD i []] := by
      rw [List.take_succ_eq_append_getElem (by omega), List.getD_eq_getElem?_getD, List.getElem?_eq_getElem (by omega)]; rfl
    rw [spotsT_succ, List.length_append, spotsT_len T i (by omega), e, List.map_append, List.sum_append, spotsK_len _ _ _ (Nat.le_refl _), List.take_length]; simp
theorem mem_sum_le {s : List Nat} {a : Nat} (h : a ∈ s) : a ≤ s.sum := by
  induction s with
  | nil => simp at h
  | cons b r ih =>
    rw [List.sum_cons]
    rcases List.mem_cons.mp h with rfl | h
    · omega
    · have := ih h; omega
theorem dAdd1 {m : Bool} {r : Nat} {S : Sto} {k : C → Sto → Prop} (h : k (.d (nI (1 + r))) S) : dAdd m (.d (.int 1)) (.d (nI r)) S k := by
  show k (.d (.int ((1 : Int) + (r : Nat)))) S
  rw [show (1 : Int) + (r : Nat) = ((1 + r : Nat) : Int) by omega]; exact h
theorem dMin_nat {a b : Nat} {S : Sto} {k : C → Sto → Prop} (h : k (.d (nI (if b < a then b else a))) S) : dMin2 [.d (nI a), .d (nI b)] S k := by
  show k (.d (.int (if (b : Int) < (a : Nat) then (b : Int) else (a : Nat)))) S
  have : (if (b : Int) < (a : Nat) then (b : Int) else (a : Nat)) = ((if b < a then b else a : Nat) : Int) := by split <;> split <;> omega
  rw [this]; exact h
/-! ### towers, drawn -/
def sp_law_towers : SpD := fun cs S k kx => ∃ (t : Tape) (most : Nat) (cap : Int), cs = [.c 0, .d (nI most), .d (.int cap)] ∧ S = T1 t ∧ TGood t ∧ 0 < most ∧ most ≤ 200 ∧ 100 ≤ cap ∧
  ∀ (T : List (List Nat)) (S' : Sto) (t' : Tape), TwOk T → 0 < (spotsT T T.length).length → TGood t' → S'.own 0 = some (tapeO t') → k (.d (towD T)) S'
def towC (T : List (List Nat)) : List C := (T.map natsL).map C.d
structure TS1 (S : Sto) (T : List (List Nat)) : Prop where
  tp : ∃ t, TGood t ∧ S.own 0 = some (tapeO t)
  tw : S.own 1 = some (.lst (towC T))
theorem TS1.draw {S : Sto} {T : List (List Nat)} {t : Tape} (h : TS1 S T) (g : TGood t) : TS1 (S.set 0 (some (tapeO t))) T := by
  obtain ⟨t0, _, h0⟩ := h.tp
  exact ⟨⟨t, g, own_set_same (own_lt h0)⟩, by rw [own_set_ne (by decide)]; exact h.tw⟩
structure TS2 (S : Sto) (T : List (List Nat)) (c : Nat) (s : List Nat) : Prop where
  t : TS1 S T
  c2 : 2 ≤ c
  sz : S.own c = some (.lst (natsC s))
theorem TS2.draw {S : Sto} {T : List (List Nat)} {c : Nat} {s : List Nat} {t : Tape} (h : TS2 S T c s) (g : TGood t) : TS2 (S.set 0 (some (tapeO t))) T c s :=
  ⟨h.t.draw g, h.c2, by rw [own_set_ne (by have := h.c2; omega)]; exact h.sz⟩
theorem TS2.put {S : Sto} {T : List (List Nat)} {c : Nat} {s s' : List Nat} (h : TS2 S T c s) : TS2 (S.set c (some (.lst (natsC s')))) T c s' := by
  have hc := h.c2
  obtain ⟨t0, g, h0⟩ := h.t.tp
  exact ⟨⟨⟨t0, g, by rw [own_set_ne (by omega)]; exact h0⟩, by rw [own_set_ne (by omega)]; exact h.t.tw⟩, hc, own_set_same (own_lt h.sz)⟩
abbrev N_law_towers : List Str := ["tape", "most", "cap", "towers", "left", "k", "sizes", "ways", "level", "size"]
def W_law_towers : TSD := sSeq (sAsg (eLst true (aNil)) (gN 3))
  (sSeq (sAsg (eVar 1) (gN 4))
  (sSeq (sFor (iRange (eRg1 (wBin (dAdd false) (eC (.int 1)) (eCall sp_law_draw (aCons (eVar 0) (aCons (eC (.int 4)) (aNil))))))) (gN 5)
  (sSeq (sAsg (eLst true (aNil)) (gN 6))
  (sSeq (sAsg (eC (.int 1)) (gN 7))
  (sSeq (sFor (iRange (eRg1 (wBin (dAdd false) (eC (.int 1)) (eCall sp_law_draw (aCons (eVar 0) (aCons (eC (.int 7)) (aNil))))))) (gN 8)
  (sSeq (sAsg (eCB dMin2 (aCons (eVar 4) (aCons (wBin (dAdd false) (eC (.int 1)) (eCall sp_law_draw (aCons (eVar 0) (aCons (wBin dIx (eLst false (aCons (eC (.int 2)) (aCons (eC (.int 4)) (aCons (eC (.int 20)) (aNil))))) (eCall sp_law_draw (aCons (eVar 0) (aCons (eC (.int 3)) (aNil))))) (aNil))))) (aNil)))) (gN 9))
  (sIf (eAndT (eB (wBin dGt (eVar 9) (eC (.int 0)))) (eB (wBin dLe (wBin (dMul false) (eVar 7) (wBin (dAdd false) (eVar 9) (eC (.int 1)))) (eVar 2))))
  (sSeq (sDrop (eMt dAppend (eVar 6) (aCons (eVar 9) (aNil))))
  (sSeq (sAsg (wBin (dMul false) (eVar 7) (wBin (dAdd false) (eVar 9) (eC (.int 1)))) (gN 7))
  (sAsg (wBin dSub (eVar 4) (eVar 9)) (gN 4))))
  (sNext))))
  (sIf (eB (wBin dGt (eCB dLen (aCons (eVar 6) (aNil))) (eC (.int 0))))
  (sFrz 6 (sDrop (eMt dAppend (eVar 3) (aCons (eVar 6) (aNil)))))
  (sNext))))))
  (sFrz 3 (sRet (eVar 3)))))
theorem len_law_towers : ∀ cs S k kx, sp_law_towers cs S k kx → cs.length = 3 := by
  rintro cs S k kx ⟨t, T, r, rfl, _⟩; rfl
theorem rd_law_towers : ∀ cs S k kx, sp_law_towers cs S k kx → W_law_towers (DE k) (startE N_law_towers cs) S := by
  rintro cs S k kx ⟨t, most, cap, rfl, rfl, g, hm0, hm, hcap, hk⟩
  refine ⟨lez (by decide), newL_cell ?_⟩
  have L0 : TS1 [some (tapeO t), some (.lst (towC []))] [] := ⟨⟨t, g, rfl⟩, rfl⟩
  refine call_draw (t := t) rfl g (by decide) fun r t1 g1 hr => ?_
  have L1 := L0.draw g1
  have hr : r ≤ 3 := by omega
  have er : (1 : Int) + (r : Nat) = ((1 + r : Nat) : Int) := by omega
  let EV : Nat → Option C → Option C → Option C → Option C → Option C → Env := fun L a b c d e => [some (.c 0), some (.d (nI most)), some (.d (.int cap)), some (.c 1), some (.d (nI L)), a, b, c, d, e]
  refine dAdd1 ?_
  refine ⟨rg_bd (by omega), fun i ρ' S' => ∃ (L : Nat) (a b c d e : Option C) (T : List (List Nat)), i ≤ 1 + r ∧ ρ' = EV L a b c d e ∧ TS1 S' T ∧ (T.map List.sum).sum + L = most ∧ T.length ≤ i ∧ (∀ s, s ∈ T → s.length ≤ 7) ∧ (i = 0 → T = []) ∧ (1 ≤ i → 0 < (T.map List.sum).sum),
    ⟨most, none, none, none, none, none, [], Nat.zero_le _, rfl, L1, by simp, by simp, by simp, fun _ => rfl, fun h => absurd h (by decide)⟩, fun _ _ _ _ _ => trivial, ?_, ?_⟩
  · rintro i d ρ' S' hd ⟨L, a, b, c, d', e, T, _, rfl, hS, hL, hTl, hTs, hi0, hi1⟩
    obtain ⟨hi, rfl⟩ := rg_at hd
    refine ⟨lez (by decide), newL_cell ?_⟩
    obtain ⟨t2, g2, h2⟩ := hS.tp
    have l1 := own_lt hS.tw
    have hS2 : TS2 (S' ++ [some (.lst (natsC []))]) T S'.length [] := ⟨⟨⟨t2, g2, by rw [own_app (own_lt h2)]; exact h2⟩, by rw [own_app l1]; exact hS.tw⟩, by omega, own_new⟩
    refine call_draw (t := t2) (by rw [own_app (own_lt h2)]; exact h2) g2 (by decide) fun r2 t3 g3 hr2 => ?_
    have hS3 := hS2.draw g3
    have hr2 : r2 ≤ 6 := by omega
    have er2 : (1 : Int) + (r2 : Nat) = ((1 + r2 : Nat) : Int) := by omega
    refine dAdd1 ?_
    generalize S'.length = cc at hS3
    refine ⟨rg_bd (by omega), fun j ρ' S'' => ∃ (L : Nat) (w : Int) (d e : Option C) (s : List Nat), j ≤ 1 + r2 ∧ ρ' = EV L (some (.d (nI i))) (some (.c cc)) (some (.d (.int w))) d e ∧ TS2 S'' T cc s ∧ (T.map List.sum).sum + s.sum + L = most ∧ s.length ≤ j ∧ (j = 0 → s = [] ∧ w = 1) ∧ (i = 0 → 1 ≤ j → 0 < s.sum),
      ⟨L, 1, d', e, [], Nat.zero_le _, rfl, hS3, by simpa using hL, by simp, fun _ => ⟨rfl, rfl⟩, fun _ h => absurd h (by decide)⟩, fun _ _ _ _ _ => trivial, ?_, ?_⟩
    · rintro j d ρ' S'' hd ⟨L, w, d', e, s, _, rfl, hS, hL, hsl, hj0, hj1⟩
      obtain ⟨hj, rfl⟩ := rg_at hd
      obtain ⟨t4, g4, h4⟩ := hS.t.tp
      refine ⟨lez (by show 3 ≤ 1000000; decide), newL_data (ds := [.int 2, .int 4, .int 20]) ?_⟩
      refine call_draw (t := t4) h4 g4 (by decide) fun u t5 g5 hu => ?_
      have hS5 := hS.draw g5
      have hu : u < 3 := by omega
      obtain ⟨q, hq, hq20⟩ : ∃ q : Nat, atI [D.int 2, D.int 4, D.int 20] (u : Int) = some (nI q) ∧ q ≤ 20 := by
        rcases (by omega : u = 0 ∨ u = 1 ∨ u = 2) with rfl | rfl | rfl
        · exact ⟨2, atI_nat rfl, by decide⟩
        · exact ⟨4, atI_nat rfl, by decide⟩
        · exact ⟨20, atI_nat rfl, by decide⟩
      refine ⟨nI q, hq, ?_⟩
      obtain ⟨t6, g6, h6⟩ := hS5.t.tp
      refine call_draw (t := t6) h6 g6 (by omega) fun v t7 g7 hv => ?_
      have hS7 := hS5.draw g7
      have hv : v ≤ 19 := by omega
      refine dAdd1 (dMin_nat ?_)
      obtain ⟨z, hz, hzl, hz20, hz1⟩ : ∃ z : Nat, (if 1 + v < L then 1 + v else L) = z ∧ z ≤ L ∧ z ≤ 20 ∧ (0 < L → 0 < z) := by
        by_cases h : 1 + v < L
        · exact ⟨1 + v, by rw [if_pos h], by omega, by omega, fun _ => by omega⟩
        · exact ⟨L, by rw [if_neg h], by omega, by omega, fun h => h⟩
      rw [hz]
      generalize List.set (List.set S'' 0 (some (tapeO t5))) 0 (some (tapeO t7)) = S7 at hS7
      have stay : ¬ (i = 0 ∧ j = 0) → ∃ (L' : Nat) (w' : Int) (d e : Option C) (s' : List Nat), j + 1 ≤ 1 + r2 ∧ EV L (some (.d (nI i))) (some (.c cc)) (some (.d (.int w))) (some (.d (nI j))) (some (.d (nI z))) = EV L' (some (.d (nI i))) (some (.c cc)) (some (.d (.int w'))) d e ∧ TS2 S7 T cc s' ∧ (T.map List.sum).sum + s'.sum + L' = most ∧ s'.length ≤ j + 1 ∧ (j + 1 = 0 → s' = [] ∧ w' = 1) ∧ (i = 0 → 1 ≤ j + 1 → 0 < s'.sum) := fun hn =>
        ⟨L, w, _, _, s, hj, rfl, hS7, hL, by omega, fun h => absurd h (by omega), fun h1 _ => hj1 h1 (by omega)⟩
      have first : i = 0 ∧ j = 0 → 0 < z ∧ w * ((z : Nat) + 1) ≤ cap := fun ⟨h1, h2⟩ => by
        obtain ⟨e1, e2⟩ := hj0 h2
        have hT0 := hi0 h1
        rw [hT0, e1] at hL
        simp at hL
        refine ⟨hz1 (by omega), ?_⟩
        rw [e2]; omega
      show if decide ((0 : Int) < (z : Nat)) = true then _ else _
      split
      · rename_i hz0
        have hz0 := of_decide_eq_true hz0
        refine ⟨.inr ⟨by omega, by omega⟩, ?_⟩
        show if decide (w * ((z : Nat) + 1) ≤ cap) = true then _ else _
        split
        · have el : lstOf S7 (.c cc) = some (natsC s) := by simp only [lstOf]; rw [hS7.sz]
          refine ⟨⟨_, el⟩, natsC s, hS7.sz, ltz (by rw [natsC_len]; omega), .inr ⟨by omega, by omega⟩, ?_⟩
          have hput := hS7.put (s' := s ++ [z])
          have ec : natsC s ++ [.d (nI z)] = natsC (s ++ [z]) := by unfold natsC; rw [List.map_append, List.map_append]; rfl
          rw [← ec] at hput
          refine ⟨L - z, w * ((z : Nat) + 1), some (.d (nI j)), some (.d (nI z)), s ++ [z], hj, ?_, hput, ?_, by rw [List.length_append]; show s.length + 1 ≤ _; omega, fun h => absurd h (by omega), fun _ _ => ?_⟩
          · have : ((L : Nat) : Int) - (z : Nat) = ((L - z : Nat) : Int) := by omega
            exact congrArg (fun t => [some (C.c 0), some (.d (nI most)), some (.d (.int cap)), some (.c 1), some (C.d (.int t)), some (.d (nI i)), some (.c cc), some (.d (.int (w * ((z : Nat) + 1)))), some (.d (nI j)), some (.d (nI z))]) this
          · rw [List.sum_append]; simp; omega
          · rw [List.sum_append]; simp; omega
        · rename_i hw
          exact stay fun h => hw (decide_eq_true (first h).2)
      · rename_i hz0
        exact stay fun h => hz0 (decide_eq_true (by have := (first h).1; omega))
    · rintro ρ' S'' ⟨L, w, d', e, s, _, rfl, hS, hL, hsl, hj0, hj1⟩
      rw [rg_len] at hsl hj0 hj1
      refine ⟨natsC s, by simp only [seqOf]; rw [hS.sz], ?_⟩
      rw [natsC_len]
      show if decide ((0 : Int) < (s.length : Nat)) = true then _ else _
      split
      · rename_i hs0
        have hc := hS.c2
        obtain ⟨t4, g4, h4⟩ := hS.t.tp
        refine ⟨cc, _, natsL s, rfl, hS.sz, (by show (unD (natsC s)).map D.lst = _; unfold natsC; rw [unD_map]; rfl), ?_⟩
        have h4' := own_subS (d := natsL s) h4 (by omega : cc ≠ 0)
        have hw' := own_subS (d := natsL s) hS.t.tw (by omega : cc ≠ 1)
        have ew : subO cc (natsL s) (.lst (towC T)) = .lst (towC T) := by
          show Own.lst ((towC T).map _) = _
          unfold towC; rw [List.map_map]; rfl
        rw [ew] at hw'
        change Sto.own (subS cc (natsL s) S'') 0 = some (tapeO t4) at h4'
        generalize subS cc (natsL s) S'' = S9 at h4' hw'
        have ec1 : subC cc (natsL s) (.c 1) = .c 1 := if_neg (by omega)
        have ec0 : subC cc (natsL s) (.c 0) = .c 0 := if_neg (by omega)
        have ecc : subC cc (natsL s) (.c cc) = .d (natsL s) := if_pos rfl
        have ee : subE cc (natsL s) (EV L (some (.d (nI i))) (some (.c cc)) (some (.d (.int w))) d' e) = EV L (some (.d (nI i))) (some (.d (natsL s))) (some (.d (.int w))) (d'.map (subC cc (natsL s))) (e.map (subC cc (natsL s))) := by
          show [some (subC cc (natsL s) (.c 0)), _, _, some (subC cc (natsL s) (.c 1)), _, _, some (subC cc (natsL s) (.c cc)), _, _, _] = _
          rw [ec0, ec1, ecc]; rfl
        rw [ee]
        have el : lstOf S9 (.c 1) = some (towC T) := by simp only [lstOf]; rw [hw']
        refine ⟨⟨_, el⟩, towC T, hw', ltz (by unfold towC; rw [List.length_map, List.length_map]; omega), ?_⟩
        have ec : towC T ++ [.d (natsL s)] = towC (T ++ [s]) := by unfold towC; rw [List.map_append, List.map_append]; rfl
        refine ⟨L, _, _, _, _, _, T ++ [s], hi, rfl, ⟨⟨t4, g4, by rw [own_set_ne (by decide)]; exact h4'⟩, by rw [own_set_same (own_lt hw'), ec]⟩, ?_, by rw [List.length_append]; show T.length + 1 ≤ _; omega, fun s' hs' => ?_, fun h => absurd h (by omega), fun _ => ?_⟩
        · rw [List.map_append, List.sum_append]; simp; omega
        · rcases List.mem_append.mp hs' with h | h
          · exact hTs s' h
          · rw [List.mem_singleton] at h; subst h; omega
        · rw [List.map_append, List.sum_append]
          by_cases h0 : i = 0
          · have := hj1 h0 (by omega); simp; omega
          · have := hi1 (by omega); omega
      · rename_i hs0
        have hs0 : s.length = 0 := by
          refine Classical.byContradiction fun q => hs0 (decide_eq_true (by omega))
        have hse : s = [] := List.eq_nil_of_length_eq_zero hs0
        subst hse
        refine ⟨L, _, _, _, _, _, T, hi, rfl, hS.t, by simpa using hL, by omega, hTs, fun h => absurd h (by omega), fun _ => ?_⟩
        by_cases h0 : i = 0
        · have := hj1 h0 (by omega); simp at this
        · exact hi1 (by omega)
  · rintro ρ' S' ⟨L, a, b, c, d', e, T, _, rfl, hS, hL, hTl, hTs, hi0, hi1⟩
    rw [rg_len] at hTl hi1
    refine ⟨1, _, towD T, rfl, hS.tw, (by show (unD (towC T)).map D.lst = _; unfold towC; rw [unD_map]; rfl), ?_⟩
    show k (subC 1 (towD T) (.c 1)) _
    rw [show subC 1 (towD T) (.c 1) = .d (towD T) by simp [subC]]
    obtain ⟨t', g', h'⟩ := hS.tp
    have hln : (spotsT T T.length).length = (T.map List.sum).sum := by rw [spotsT_len T _ (Nat.le_refl _), List.take_length]
    refine hk T _ t' ⟨by rw [hln]; omega, by omega, fun s hs => by have := hTs s hs; omega, fun s hs a ha => ?_⟩ (by rw [hln]; exact hi1 (by omega)) g' (own_subS h' (by decide))
    have h1 := mem_sum_le ha
    have h2 : s.sum ≤ (T.map List.sum).sum := mem_sum_le (List.mem_map.mpr ⟨s, hs, rfl⟩)
    omega
/-! ### the law -/
def sp_law : SpD := fun cs S k kx => ∃ ns : List Int, cs = [.d (.scr ns)] ∧ S = [] ∧ ns.length ≤ 63 ∧ ∀ S', k (.d (.bl true)) S'
theorem call_small {ρ : Env} {S : Sto} {k : C → Sto → Prop} {kx : KX} {t : Tape} {n : Nat} {R : Nat → Nat → Bool} (h : S.own 0 = some (tapeO t)) (g : TGood t) (hn : n ≤ 16) (hR : OrdR n R)
    (hk : ∀ (t' : Tape), TGood t' → k (.d (.bl true)) (S.set 0 (some (tapeO t')))) : callD sp_law_small_right [.c 0, .d (tabD n R)] ρ S k kx :=
  ⟨.inr (.inl ⟨0, tapeO t, [.c 0, .d (tabD n R)], h, tp_flat t, rfl, t, n, R, rfl, rfl, g, hn, hR, fun S' t' g' h0 => ⟨_, tapeO t', rfl, own_of h0, tp_flat t', hk t' g'⟩⟩)⟩
abbrev N_law : List Str := ["script", "tape"]
def W_law : TSD := sSeq (sAsg (eCall sp_law_tape (aCons (eVar 0) (aNil))) (gN 1))
  (sSeq (sIf (eNotT (eB (eCall sp_law_small_right (aCons (eVar 1) (aCons (eCall sp_law_drawn (aCons (eVar 1) (aCons (eC (.int 8)) (aNil)))) (aNil))))))
  (sRet (eC (.bl false)))
  (sNext))
  (sSeq (sIf (eNotT (eB (eCall sp_law_towers_right (aCons (eVar 1) (aCons (eCall sp_law_towers (aCons (eVar 1) (aCons (eC (.int 62)) (aCons (eC (.int 300)) (aNil))))) (aNil))))))
  (sRet (eC (.bl false)))
  (sNext))
  (sRet (eCall sp_law_small_right (aCons (eVar 1) (aCons (eCall sp_law_drawn (aCons (eVar 1) (aCons (eC (.int 5)) (aNil)))) (aNil)))))))
theorem len_law : ∀ cs S k kx, sp_law cs S k kx → cs.length = 1 := by
  rintro cs S k kx ⟨t, rfl, _⟩; rfl
theorem rd_law : ∀ cs S k kx, sp_law cs S k kx → W_law (DE k) (startE N_law cs) S := by
  rintro cs S k kx ⟨ns, rfl, rfl, hl, hk⟩
  refine ⟨.inl ⟨rfl, ns, rfl, rfl, hl, fun t h0 hc => .inr ⟨0, tapeO t, rfl, rfl, tp_flat t, ?_⟩⟩⟩
  have g : TGood t := ⟨by omega, hc⟩
  refine call_drawnG (t := t) (most := 8) rfl g (by decide) fun n R t1 g1 hn hR => ?_
  refine call_small (t := t1) rfl g1 (by omega) hR fun t2 g2 => ?_
  show if (!true) = true then _ else _
  rw [if_neg (by decide)]
  refine ⟨.inr (.inl ⟨0, tapeO t2, [.c 0, .d (nI 62), .d (.int 300)], rfl, tp_flat t2, rfl, t2, 62, 300, rfl, rfl, g2, by decide, by decide, by decide, fun T S' t3 hT hpos g3 h3 => ⟨_, tapeO t3, rfl, own_of h3, tp_flat t3, ?_⟩⟩)⟩
  refine ⟨.inr (.inl ⟨0, tapeO t3, [.c 0, .d (towD T)], rfl, tp_flat t3, rfl, t3, T, rfl, rfl, g3, hT, hpos, fun S' t4 g4 h4 => ⟨_, tapeO t4, rfl, own_of h4, tp_flat t4, ?_⟩⟩)⟩
  show if (!true) = true then _ else _
  rw [if_neg (by decide)]
  refine call_drawnG (t := t4) (most := 5) rfl g4 (by decide) fun n R t5 g5 hn hR => ?_
  exact call_small (t := t5) rfl g5 (by omega) hR fun t6 g6 => hk _
end PL

namespace PL
open PySem PySem.Spec L2
open PyProof.Rows hiding St
theorem law_start {K : PySem.W.Frag} {H : Hp} {a : Addr} {ns : List Int} {sp : SpD} (hS : SqL K H a (ns.map V.int)) (h : sp [.d (.scr ns)] [] (fun c _ => c = .d (.bl true)) (fun _ _ _ => False)) :
    liftSp K sp [.ref a] H (fun v _ => v = .bl true) fun _ _ _ => False := by
  refine ⟨[], H, [.d (.scr ns)], [], _, _, ⟨Same.refl _, List.nodup_nil, rfl, by simp, by simp⟩, .cons ?_ .nil, h, ?_, ?_⟩
  · show Rep K H (.scr ns) (.ref a)
    unfold Rep; exact ⟨a, rfl, hS⟩
  · rintro c S' α' G' H' v rfl _ _ r
    exact of_bl r
  · intro cls fs S' α' G' H' d h; exact h.elim
theorem sp_law_ok {ns : List Int} (hl : ns.length ≤ 63) : sp_law [.d (.scr ns)] [] (fun c _ => c = .d (.bl true)) (fun _ _ _ => False) := ⟨ns, rfl, rfl, hl, fun _ => rfl⟩
end PL

namespace Endk55
open PySem PySem.Spec L2 PL
open PyProof.Rows hiding St
def topS (i : Nat) : Stmt := PySem.Challenge.pw_strikecore_k55_moebius_and_euler.main.body.getD i (.Pass ⟨0, 0, 0, 0⟩)

abbrev s_places_of : Stmt := topS 1
theorem sc_places_of : FnScope N_places_of ["mask"] (defScope s_places_of) := ⟨rfl, rfl, rfl, by decide +kernel, rfl, by decide +kernel, by decide +kernel⟩
abbrev s_bound_masks : Stmt := topS 2
theorem sc_bound_masks : FnScope N_bound_masks ["order"] (defScope s_bound_masks) := ⟨rfl, rfl, rfl, by decide +kernel, rfl, by decide +kernel, by decide +kernel⟩
abbrev s_chain_counts : Stmt := topS 4
theorem sc_chain_counts : FnScope N_chain_counts ["order"] (defScope s_chain_counts) := ⟨rfl, rfl, rfl, by decide +kernel, rfl, by decide +kernel, by decide +kernel⟩
abbrev s_euler : Stmt := topS 5
theorem sc_euler : FnScope N_euler ["order"] (defScope s_euler) := ⟨rfl, rfl, rfl, by decide +kernel, rfl, by decide +kernel, by decide +kernel⟩
abbrev s_moebius : Stmt := topS 6
theorem sc_moebius : FnScope N_moebius ["order", "x", "y"] (defScope s_moebius) := ⟨rfl, rfl, rfl, by decide +kernel, rfl, by decide +kernel, by decide +kernel⟩
abbrev s_law_tape : Stmt := topS 8
theorem sc_law_tape : FnScope N_law_tape ["script"] (defScope s_law_tape) := ⟨rfl, rfl, rfl, by decide +kernel, rfl, by decide +kernel, by decide +kernel⟩
abbrev s_law_load : Stmt := topS 9
theorem sc_law_load : FnScope N_law_load ["tape"] (defScope s_law_load) := ⟨rfl, rfl, rfl, by decide +kernel, rfl, by decide +kernel, by decide +kernel⟩
abbrev s_law_draw : Stmt := topS 10
theorem sc_law_draw : FnScope N_law_draw ["tape", "many"] (defScope s_law_draw) := ⟨rfl, rfl, rfl, by decide +kernel, rfl, by decide +kernel, by decide +kernel⟩
abbrev s_law_same : Stmt := topS 11
theorem sc_law_same : FnScope N_law_same ["actual", "due"] (defScope s_law_same) := ⟨rfl, rfl, rfl, by decide +kernel, rfl, by decide +kernel, by decide +kernel⟩
abbrev s_law_shuffled : Stmt := topS 12
theorem sc_law_shuffled : FnScope N_law_shuffled ["tape", "many"] (defScope s_law_shuffled) := ⟨rfl, rfl, rfl, by decide +kernel, rfl, by decide +kernel, by decide +kernel⟩
abbrev s_law_closed : Stmt := topS 13
theorem sc_law_closed : FnScope N_law_closed ["many", "links"] (defScope s_law_closed) := ⟨rfl, rfl, rfl, by decide +kernel, rfl, by decide +kernel, by decide +kernel⟩
abbrev s_law_drawn : Stmt := topS 14
theorem sc_law_drawn : FnScope N_law_drawn ["tape", "most"] (defScope s_law_drawn) := ⟨rfl, rfl, rfl, by decide +kernel, rfl, by decide +kernel, by decide +kernel⟩
abbrev s_law_told : Stmt := topS 15
theorem sc_law_told : FnScope N_law_told ["up", "names"] (defScope s_law_told) := ⟨rfl, rfl, rfl, by decide +kernel, rfl, by decide +kernel, by decide +kernel⟩
abbrev s_law_chain_list : Stmt := topS 16
theorem sc_law_chain_list : FnScope N_law_chain_list ["up"] (defScope s_law_chain_list) := ⟨rfl, rfl, rfl, by decide +kernel, rfl, by decide +kernel, by decide +kernel⟩
abbrev s_law_towers : Stmt := topS 17
theorem sc_law_towers : FnScope N_law_towers ["tape", "most", "cap"] (defScope s_law_towers) := ⟨rfl, rfl, rfl, by decide +kernel, rfl, by decide +kernel, by decide +kernel⟩
abbrev s_law_spots : Stmt := topS 18
theorem sc_law_spots : FnScope N_law_spots ["towers"] (defScope s_law_spots) := ⟨rfl, rfl, rfl, by decide +kernel, rfl, by decide +kernel, by decide +kernel⟩
abbrev s_law_tower_table : Stmt := topS 19
theorem sc_law_tower_table : FnScope N_law_tower_table ["spots"] (defScope s_law_tower_table) := ⟨rfl, rfl, rfl, by decide +kernel, rfl, by decide +kernel, by decide +kernel⟩
abbrev s_law_signed : Stmt := topS 20
theorem sc_law_signed : FnScope N_law_signed ["up"] (defScope s_law_signed) := ⟨rfl, rfl, rfl, by decide +kernel, rfl, by decide +kernel, by decide +kernel⟩
abbrev s_law_bounded : Stmt := topS 21
theorem sc_law_bounded : FnScope N_law_bounded ["up"] (defScope s_law_bounded) := ⟨rfl, rfl, rfl, by decide +kernel, rfl, by decide +kernel, by decide +kernel⟩
abbrev s_law_bounds_right : Stmt := topS 22
theorem sc_law_bounds_right : FnScope N_law_bounds_right ["tape", "up", "total"] (defScope s_law_bounds_right) := ⟨rfl, rfl, rfl, by decide +kernel, rfl, by decide +kernel, by decide +kernel⟩
abbrev s_law_small_right : Stmt := topS 23
theorem sc_law_small_right : FnScope N_law_small_right ["tape", "up"] (defScope s_law_small_right) := ⟨rfl, rfl, rfl, by decide +kernel, rfl, by decide +kernel, by decide +kernel⟩
abbrev s_law_towers_right : Stmt := topS 24
theorem sc_law_towers_right : FnScope N_law_towers_right ["tape", "towers"] (defScope s_law_towers_right) := ⟨rfl, rfl, rfl, by decide +kernel, rfl, by decide +kernel, by decide +kernel⟩
abbrev s_law : Stmt := topS 25
theorem sc_law : FnScope N_law ["script"] (defScope s_law) := ⟨rfl, rfl, rfl, by decide +kernel, rfl, by decide +kernel, by decide +kernel⟩
structure Tx (K : PySem.W.Frag) (mg : Str → Option Value) where
  f_places_of : Addr
  d_places_of : FuncData
  F_places_of : Fun K "places_of" "places_of" s_places_of f_places_of d_places_of
  m_places_of : mg "places_of" = some (.ref f_places_of)
  b_places_of : Binds K d_places_of ["mask"] []
  f_bound_masks : Addr
  d_bound_masks : FuncData
  F_bound_masks : Fun K "bound_masks" "bound_masks" s_bound_masks f_bound_masks d_bound_masks
  m_bound_masks : mg "bound_masks" = some (.ref f_bound_masks)
  b_bound_masks : Binds K d_bound_masks ["order"] []
  f_chain_counts : Addr
  d_chain_counts : FuncData
  F_chain_counts : Fun K "chain_counts" "chain_counts" s_chain_counts f_chain_counts d_chain_counts
  m_chain_counts : mg "chain_counts" = some (.ref f_chain_counts)
  b_chain_counts : Binds K d_chain_counts ["order"] []
  f_euler : Addr
  d_euler : FuncData
  F_euler : Fun K "euler" "euler" s_euler f_euler d_euler
  m_euler : mg "euler" = some (.ref f_euler)
  b_euler : Binds K d_euler ["order"] []
  f_moebius : Addr
  d_moebius : FuncData
  F_moebius : Fun K "moebius" "moebius" s_moebius f_moebius d_moebius
  m_moebius : mg "moebius" = some (.ref f_moebius)
  b_moebius : Binds K d_moebius ["order", "x", "y"] []
  f_law_tape : Addr
  d_law_tape : FuncData
  F_law_tape : Fun K "_law_tape" "_law_tape" s_law_tape f_law_tape d_law_tape
  m_law_tape : mg "_law_tape" = some (.ref f_law_tape)
  b_law_tape : Binds K d_law_tape ["script"] []
  f_law_load : Addr
  d_law_load : FuncData
  F_law_load : Fun K "_law_load" "_law_load" s_law_load f_law_load d_law_load
  m_law_load : mg "_law_load" = some (.ref f_law_load)
  b_law_load : Binds K d_law_load ["tape"] []
  f_law_draw : Addr
  d_law_draw : FuncData
  F_law_draw : Fun K "_law_draw" "_law_draw" s_law_draw f_law_draw d_law_draw
  m_law_draw : mg "_law_draw" = some (.ref f_law_draw)
  b_law_draw : Binds K d_law_draw ["tape", "many"] []
  f_law_same : Addr
  d_law_same : FuncData
  F_law_same : Fun K "_law_same" "_law_same" s_law_same f_law_same d_law_same
  m_law_same : mg "_law_same" = some (.ref f_law_same)
  b_law_same : Binds K d_law_same ["actual", "due"] []
  f_law_shuffled : Addr
  d_law_shuffled : FuncData
  F_law_shuffled : Fun K "_law_shuffled" "_law_shuffled" s_law_shuffled f_law_shuffled d_law_shuffled
  m_law_shuffled : mg "_law_shuffled" = some (.ref f_law_shuffled)
  b_law_shuffled : Binds K d_law_shuffled ["tape", "many"] []
  f_law_closed : Addr
  d_law_closed : FuncData
  F_law_closed : Fun K "_law_closed" "_law_closed" s_law_closed f_law_closed d_law_closed
  m_law_closed : mg "_law_closed" = some (.ref f_law_closed)
  b_law_closed : Binds K d_law_closed ["many", "links"] []
  f_law_drawn : Addr
  d_law_drawn : FuncData
  F_law_drawn : Fun K "_law_drawn" "_law_drawn" s_law_drawn f_law_drawn d_law_drawn
  m_law_drawn : mg "_law_drawn" = some (.ref f_law_drawn)
  b_law_drawn : Binds K d_law_drawn ["tape", "most"] []
  f_law_told : Addr
  d_law_told : FuncData
  F_law_told : Fun K "_law_told" "_law_told" s_law_told f_law_told d_law_told
  m_law_told : mg "_law_told" = some (.ref f_law_told)
  b_law_told : Binds K d_law_told ["up", "names"] []
  f_law_chain_list : Addr
  d_law_chain_list : FuncData
  F_law_chain_list : Fun K "_law_chain_list" "_law_chain_list" s_law_chain_list f_law_chain_list d_law_chain_list
  m_law_chain_list : mg "_law_chain_list" = some (.ref f_law_chain_list)
  b_law_chain_list : Binds K d_law_chain_list ["up"] []
  f_law_towers : Addr
  d_law_towers : FuncData
  F_law_towers : Fun K "_law_towers" "_law_towers" s_law_towers f_law_towers d_law_towers
  m_law_towers : mg "_law_towers" = some (.ref f_law_towers)
  b_law_towers : Binds K d_law_towers ["tape", "most", "cap"] []
  f_law_spots : Addr
  d_law_spots : FuncData
  F_law_spots : Fun K "_law_spots" "_law_spots" s_law_spots f_law_spots d_law_spots
  m_law_spots : mg "_law_spots" = some (.ref f_law_spots)
  b_law_spots : Binds K d_law_spots ["towers"] []
  f_law_tower_table : Addr
  d_law_tower_table : FuncData
  F_law_tower_table : Fun K "_law_tower_table" "_law_tower_table" s_law_tower_table f_law_tower_table d_law_tower_table
  m_law_tower_table : mg "_law_tower_table" = some (.ref f_law_tower_table)
  b_law_tower_table : Binds K d_law_tower_table ["spots"] []
  f_law_signed : Addr
  d_law_signed : FuncData
  F_law_signed : Fun K "_law_signed" "_law_signed" s_law_signed f_law_signed d_law_signed
  m_law_signed : mg "_law_signed" = some (.ref f_law_signed)
  b_law_signed : Binds K d_law_signed ["up"] []
  f_law_bounded : Addr
  d_law_bounded : FuncData
  F_law_bounded : Fun K "_law_bounded" "_law_bounded" s_law_bounded f_law_bounded d_law_bounded
  m_law_bounded : mg "_law_bounded" = some (.ref f_law_bounded)
  b_law_bounded : Binds K d_law_bounded ["up"] []
  f_law_bounds_right : Addr
  d_law_bounds_right : FuncData
  F_law_bounds_right : Fun K "_law_bounds_right" "_law_bounds_right" s_law_bounds_right f_law_bounds_right d_law_bounds_right
  m_law_bounds_right : mg "_law_bounds_right" = some (.ref f_law_bounds_right)
  b_law_bounds_right : Binds K d_law_bounds_right ["tape", "up", "total"] []
  f_law_small_right : Addr
  d_law_small_right : FuncData
  F_law_small_right : Fun K "_law_small_right" "_law_small_right" s_law_small_right f_law_small_right d_law_small_right
  m_law_small_right : mg "_law_small_right" = some (.ref f_law_small_right)
  b_law_small_right : Binds K d_law_small_right ["tape", "up"] []
  f_law_towers_right : Addr
  d_law_towers_right : FuncData
  F_law_towers_right : Fun K "_law_towers_right" "_law_towers_right" s_law_towers_right f_law_towers_right d_law_towers_right
  m_law_towers_right : mg "_law_towers_right" = some (.ref f_law_towers_right)
  b_law_towers_right : Binds K d_law_towers_right ["tape", "towers"] []
  f_law : Addr
  d_law : FuncData
  F_law : Fun K "law" "law" s_law f_law d_law
  m_law : mg "law" = some (.ref f_law)
  b_law : Binds K d_law ["script"] []
  n_abs : mg "abs" = none
  n_bool : mg "bool" = none
  n_int : mg "int" = none
  n_isinstance : mg "isinstance" = none
  n_len : mg "len" = none
  n_list : mg "list" = none
  n_min : mg "min" = none
  n_range : mg "range" = none
  n_sorted : mg "sorted" = none
  n_sum : mg "sum" = none
  n_tuple : mg "tuple" = none
section
variable {P : Program} {w_ : World} {K : PySem.W.Frag} {mg : Str → Option Value} {base : Heap}
theorem kb_euler_order (T : Tx K mg) : KBinds K T.d_euler ["order"] ["order"] (kwG 0 1 [0]) (kwG 0 1 [0]) :=
  kb_of T.F_euler (by decide) fun _ _ _ _ _ _ us ws h1 h2 => match us, ws, h1, h2 with | [], [_], _, _ => rfl
theorem kb_moebius_y_x_order (T : Tx K mg) : KBinds K T.d_moebius ["order", "x", "y"] ["y", "x", "order"] (kwG 0 3 [2, 1, 0]) (kwG 0 3 [2, 1, 0]) :=
  kb_of T.F_moebius (by decide) fun _ _ _ _ _ _ us ws h1 h2 => match us, ws, h1, h2 with | [], [_, _, _], _, _ => rfl
theorem ok_places_of (T : Tx K mg) : FnOk P w_ K mg base CX0 1 T.f_places_of T.d_places_of ["mask"] (liftSp K sp_places_of) := by
  refine fn_ok T.F_places_of sc_places_of len_places_of fun cdv A outer s H E hr => ?_
  have hu := hu_of hr
  exact ⟨W_places_of, qss_cons (qs_set (i := 1) sc_places_of.nd rfl (by first | exact Or.inl rfl | exact Or.inr rfl) (q_lst true (qa_nil)))
  (qss_cons (qs_while PassesOwn.never (qt_truth (q_var 0) (by intro _; rfl))
  (qss_cons (qs_set (i := 2) sc_places_of.nd rfl (by first | exact Or.inl rfl | exact Or.inr rfl) (q_op op_and d_and (q_var 0) (q_un un_neg d_neg (q_var 0))))
  (qss_cons (qs_expr (q_mtA d_append (pe_bm PySem.F.plainAttrs_list PySem.F.slot_list_append PySem.F.type_list_append mt_append (q_var 1) (qa_cons (q_op op_sub d_sub (q_bits (q_var 2)) (q_int)) (qa_nil)))))
  (qss_one (qs_set (i := 0) sc_places_of.nd rfl (by first | exact Or.inl rfl | exact Or.inr rfl) (q_op op_xor d_xor (q_var 0) (q_var 2)))))))
  (qss_one (qs_frz 1 (qs_ret (q_var 1))))), rd_places_of⟩
theorem ok_bound_masks (T : Tx K mg) : FnOk P w_ K mg base CX0 1 T.f_bound_masks T.d_bound_masks ["order"] (liftSp K sp_bound_masks) := by
  refine fn_ok T.F_bound_masks sc_bound_masks len_bound_masks fun cdv A outer s H E hr => ?_
  have hu := hu_of hr
  exact ⟨W_bound_masks, qss_cons (qs_setLc (i := 1) (own := [("x", 3)]) (m := true) rfl sc_bound_masks.nd rfl rfl (sw_true rfl rfl rfl (by decide +kernel)) (qi_range1 (by rfl) T.n_range (q_ix (q_var 0) (q_int))) (blkOk_by (own := [("x", 3)]) (N := N_bound_masks) (by kernel_rfl)) (fun _ _ _ _ _ => qg_name (i := 3) sc_bound_masks.nd rfl (by first | exact Or.inl rfl | exact Or.inr rfl)) (fun _ _ _ _ _ => qts_nil) (fun _ _ _ _ _ => q_op op_shl d_shl (q_int) (q_var 3)))
  (qss_cons (qs_setLc (i := 2) (own := [("x", 3)]) (m := true) rfl sc_bound_masks.nd rfl rfl (sw_true rfl rfl rfl (by decide +kernel)) (qi_range1 (by rfl) T.n_range (q_ix (q_var 0) (q_int))) (blkOk_by (own := [("x", 3)]) (N := N_bound_masks) (by kernel_rfl)) (fun _ _ _ _ _ => qg_name (i := 3) sc_bound_masks.nd rfl (by first | exact Or.inl rfl | exact Or.inr rfl)) (fun _ _ _ _ _ => qts_nil) (fun _ _ _ _ _ => q_op op_shl d_shl (q_int) (q_var 3)))
  (qss_cons (qs_for PassesOwn.never rfl (qi_any (q_ix (q_var 0) (q_int))) (qg_tup rfl (qgs_cons (qg_name (i := 3) sc_bound_masks.nd rfl (by first | exact Or.inl rfl | exact Or.inr rfl)) (qgs_cons (qg_name (i := 4) sc_bound_masks.nd rfl (by first | exact Or.inl rfl | exact Or.inr rfl)) (qgs_nil))))
  (qss_cons (qs_setL (q_op op_or d_or (q_ix (q_var 1) (q_var 4)) (q_op op_shl d_shl (q_int) (q_var 3))) (q_var 1) (q_var 4))
  (qss_one (qs_setL (q_op op_or d_or (q_ix (q_var 2) (q_var 3)) (q_op op_shl d_shl (q_int) (q_var 4))) (q_var 2) (q_var 3)))))
  (qss_one (qs_frz 2 (qs_frz 1 (qs_ret (q_tup (qa_cons (q_var 1) (qa_cons (q_var 2) (qa_nil)))))))))), rd_bound_masks⟩
theorem ok_chain_counts (T : Tx K mg) : FnOk P w_ K mg base CX0 1 T.f_chain_counts T.d_chain_counts ["order"] (liftSp K sp_chain_counts) := by
  refine fn_ok T.F_chain_counts sc_chain_counts len_chain_counts fun cdv A outer s H E hr => ?_
  have hu := hu_of hr
  exact ⟨W_chain_counts, qss_cons (qs_set (i := 1) sc_chain_counts.nd rfl (by first | exact Or.inl rfl | exact Or.inr rfl) (q_lst true (qa_nil)))
  (qss_cons (qs_set (i := 2) sc_chain_counts.nd rfl (by first | exact Or.inl rfl | exact Or.inr rfl) (q_op op_mulA (d_mul (m := false)) (q_lst false (qa_cons (q_int) (qa_nil))) (q_ix (q_var 0) (q_int))))
  (qss_cons (qs_while PassesOwn.never (qt_cmp op_gt d_gt (q_callB (cr_sumA rfl) d_sumA (by rfl) T.n_sum (by decide +kernel) (qa_cons (q_var 2) (qa_nil))) (q_int) (nomark _))
  (qss_cons (qs_expr (q_mtA d_append (pe_bm PySem.F.plainAttrs_list PySem.F.slot_list_append PySem.F.type_list_append mt_append (q_var 1) (qa_cons (q_callB (cr_sumA rfl) d_sumA (by rfl) T.n_sum (by decide +kernel) (qa_cons (q_var 2) (qa_nil))) (qa_nil)))))
  (qss_cons (qs_set (i := 3) sc_chain_counts.nd rfl (by first | exact Or.inl rfl | exact Or.inr rfl) (q_op op_mulA (d_mul (m := true)) (q_lst false (qa_cons (q_int) (qa_nil))) (q_ix (q_var 0) (q_int))))
  (qss_cons (qs_for PassesOwn.never rfl (qi_any (q_ix (q_var 0) (q_int))) (qg_tup rfl (qgs_cons (qg_name (i := 4) sc_chain_counts.nd rfl (by first | exact Or.inl rfl | exact Or.inr rfl)) (qgs_cons (qg_name (i := 5) sc_chain_counts.nd rfl (by first | exact Or.inl rfl | exact Or.inr rfl)) (qgs_nil))))
  (qss_one (qs_setL (q_op op_addA (d_add (m := false)) (q_ix (q_var 3) (q_var 5)) (q_ix (q_var 2) (q_var 4))) (q_var 3) (q_var 5))))
  (qss_one (qs_frz 3 (qs_set (i := 2) sc_chain_counts.nd rfl (by first | exact Or.inl rfl | exact Or.inr rfl) (q_var 3))))))))
  (qss_one (qs_ret (q_callTy call_tuple_of d_tuple (by rfl) T.n_tuple (by decide +kernel) (qa_cons (q_var 1) (qa_nil))))))), rd_chain_counts⟩
theorem ok_euler (T : Tx K mg) : FnOk P w_ K mg base CX0 2 T.f_euler T.d_euler ["order"] (liftSp K sp_euler) := by
  refine fn_ok T.F_euler sc_euler len_euler fun cdv A outer s H E hr => ?_
  have hu := hu_of hr
  exact ⟨W_euler, qss_cons (qs_set (i := 1) sc_euler.nd rfl (by first | exact Or.inl rfl | exact Or.inr rfl) (q_call (ok_chain_counts T) (hr.mono (by decide)) (by rfl) T.m_chain_counts T.F_chain_counts.kp T.b_chain_counts (qa_cons (q_var 0) (qa_nil))))
  (qss_one (qs_ret (q_op op_sub d_sub (q_callB (cr_sumA rfl) d_sumA (by rfl) T.n_sum (by decide +kernel) (qa_cons (q_sliceK (k := 2) (by decide) rfl (q_var 1) (qo_none)) (qa_nil))) (q_callB (cr_sumA rfl) d_sumA (by rfl) T.n_sum (by decide +kernel) (qa_cons (q_sliceK (k := 2) (by decide) rfl (q_var 1) (qo_some (q_int))) (qa_nil)))))), rd_euler⟩
theorem ok_moebius (T : Tx K mg) : FnOk P w_ K mg base CX0 2 T.f_moebius T.d_moebius ["order", "x", "y"] (liftSp K sp_moebius) := by
  refine fn_ok T.F_moebius sc_moebius len_moebius fun cdv A outer s H E hr => ?_
  have hu := hu_of hr
  exact ⟨W_moebius, qss_cons (qs_asg (q_call (ok_bound_masks T) (hr.mono (by decide)) (by rfl) T.m_bound_masks T.F_bound_masks.kp T.b_bound_masks (qa_cons (q_var 0) (qa_nil))) (qg_tup rfl (qgs_cons (qg_name (i := 6) sc_moebius.nd rfl (by first | exact Or.inl rfl | exact Or.inr rfl)) (qgs_cons (qg_name (i := 7) sc_moebius.nd rfl (by first | exact Or.inl rfl | exact Or.inr rfl)) (qgs_nil)))))
  (qss_cons (qs_set (i := 3) sc_moebius.nd rfl (by first | exact Or.inl rfl | exact Or.inr rfl) (q_op op_and d_and (q_ix (q_var 7) (q_var 1)) (q_ix (q_var 6) (q_var 2))))
  (qss_cons (qs_set (i := 4) sc_moebius.nd rfl (by first | exact Or.inl rfl | exact Or.inr rfl) (q_callB cr_sortedPO (d_sortedP (m := false)) (by rfl) T.n_sorted (by decide +kernel) (qa_cons (q_lc (own := [("z", 9)]) (m := false) rfl sc_moebius.nd (qi_any (q_call (ok_places_of T) (hr.mono (by decide)) (by rfl) T.m_places_of T.F_places_of.kp T.b_places_of (qa_cons (q_var 3) (qa_nil)))) (blkOk_by (own := [("z", 9)]) (N := N_moebius) (by kernel_rfl)) (fun _ _ _ _ _ => qg_name (i := 9) sc_moebius.nd rfl (by first | exact Or.inl rfl | exact Or.inr rfl)) (fun _ _ _ _ _ => qts_nil) (fun _ _ _ _ _ => q_tup (qa_cons (q_callB call_len_seq d_len (by rfl) T.n_len PySem.boot_len (qa_cons (q_call (ok_places_of T) (hr.mono (by decide)) (by rfl) T.m_places_of T.F_places_of.kp T.b_places_of (qa_cons (q_op op_and d_and (q_var 3) (q_ix (q_var 6) (q_var 9))) (qa_nil))) (qa_nil))) (qa_cons (q_var 9) (qa_nil))))) (qa_nil))))
  (qss_cons (qs_set (i := 5) sc_moebius.nd rfl (by first | exact Or.inl rfl | exact Or.inr rfl) (q_disp (qps_cons (q_var 1) (q_int) (qps_nil))))
  (qss_cons (qs_for PassesOwn.never rfl (qi_any (q_var 4)) (qg_tup rfl (qgs_cons (qg_name (i := 8) sc_moebius.nd rfl (by first | exact Or.inl rfl | exact Or.inr rfl)) (qgs_cons (qg_name (i := 9) sc_moebius.nd rfl (by first | exact Or.inl rfl | exact Or.inr rfl)) (qgs_nil))))
  (qss_one (qs_if (qt_cmp op_ne d_ne (q_var 9) (q_var 1) (nomark _))
  (qss_one (qs_setD hu (q_un un_neg d_neg (q_callB (cr_sumA rfl) d_sumA (by rfl) T.n_sum (by decide +kernel) (qa_cons (q_lc (own := [("w", 10)]) (m := false) rfl sc_moebius.nd (qi_any (q_call (ok_places_of T) (hr.mono (by decide)) (by rfl) T.m_places_of T.F_places_of.kp T.b_places_of (qa_cons (q_op op_and d_and (q_var 3) (q_ix (q_var 6) (q_var 9))) (qa_nil)))) (blkOk_by (own := [("w", 10)]) (N := N_moebius) (by kernel_rfl)) (fun _ _ _ _ _ => qg_name (i := 10) sc_moebius.nd rfl (by first | exact Or.inl rfl | exact Or.inr rfl)) (fun _ _ _ _ _ => qts_one (qt_cmp op_ne d_ne (q_var 10) (q_var 9) (nomark _))) (fun _ _ _ _ _ => q_dget hu (q_var 5) (q_var 10))) (qa_nil)))) (q_var 5) (q_var 9)))
  (qss_nil))))
  (qss_one (qs_ret (q_dget2 hu (q_var 5) (q_var 2) (q_int)))))))), rd_moebius⟩
theorem ok_law_tape (T : Tx K mg) : FnOk P w_ K mg base CX0 1 T.f_law_tape T.d_law_tape ["script"] (liftSp K sp_law_tape) := by
  refine fn_ok T.F_law_tape sc_law_tape len_law_tape fun cdv A outer s H E hr => ?_
  have hu := hu_of hr
  exact ⟨W_law_tape, qss_cons (qs_set (i := 1) sc_law_tape.nd rfl (by first | exact Or.inl rfl | exact Or.inr rfl) (q_op op_addA (d_add (m := false)) (q_int) (q_callB call_len_seq d_len (by rfl) T.n_len PySem.boot_len (qa_cons (q_var 0) (qa_nil)))))
  (qss_cons (qs_for PassesOwn.never rfl (qi_any (q_var 0)) (qg_name (i := 2) sc_law_tape.nd rfl (by first | exact Or.inl rfl | exact Or.inr rfl))
  (qss_one (qs_set (i := 1) sc_law_tape.nd rfl (by first | exact Or.inl rfl | exact Or.inr rfl) (q_op op_mod d_mod (q_callTy call_int1 d_toint (by rfl) T.n_int (by decide +kernel) (qa_cons (q_op op_addA (d_add (m := false)) (q_op op_addA (d_add (m := false)) (q_op op_mulA (d_mul (m := false)) (q_var 1) (q_int)) (q_callB call_abs d_abs (by rfl) T.n_abs (by decide +kernel) (qa_cons (q_var 2) (qa_nil)))) (q_int)) (qa_nil))) (q_int)))))
  (qss_one (qs_ret (q_disp (qps_cons (q_str) (q_callTy call_list_of (d_list (m := false)) (by rfl) T.n_list (by decide +kernel) (qa_cons (q_var 0) (qa_nil))) (qps_cons (q_str) (q_int) (qps_cons (q_str) (q_int) (qps_cons (q_str) (q_int) (qps_cons (q_str) (q_int) (qps_cons (q_str) (q_var 1) (qps_nil))))))))))), rd_law_tape⟩
theorem ok_law_load (T : Tx K mg) : FnOk P w_ K mg base CX0 1 T.f_law_load T.d_law_load ["tape"] (liftSp K sp_law_load) := by
  refine fn_ok T.F_law_load sc_law_load len_law_load fun cdv A outer s H E hr => ?_
  have hu := hu_of hr
  exact ⟨W_law_load, qss_cons (qs_set (i := 1) sc_law_load.nd rfl (by first | exact Or.inl rfl | exact Or.inr rfl) (q_ix (q_dget hu (q_var 0) (q_str)) (q_dget hu (q_var 0) (q_str))))
  (qss_cons (qs_setD hu (q_op op_addA (d_add (m := false)) (q_dget hu (q_var 0) (q_str)) (q_int)) (q_var 0) (q_str))
  (qss_one (qs_if (qt_cmp op_eq d_eq (q_op op_mod d_mod (q_callTy call_int1 d_toint (by rfl) T.n_int (by decide +kernel) (qa_cons (q_var 1) (qa_nil))) (q_int)) (q_int) (nomark _))
  (qss_cons (qs_setD hu (q_op op_fdiv d_fdiv (q_callB call_abs d_abs (by rfl) T.n_abs (by decide +kernel) (qa_cons (q_var 1) (qa_nil))) (q_int)) (q_var 0) (q_str))
  (qss_one (qs_setD hu (q_int) (q_var 0) (q_str))))
  (qss_cons (qs_setD hu (q_op op_mod d_mod (q_callTy call_int1 d_toint (by rfl) T.n_int (by decide +kernel) (qa_cons (q_op op_addA (d_add (m := false)) (q_op op_addA (d_add (m := false)) (q_op op_mulA (d_mul (m := false)) (q_dget hu (q_var 0) (q_str)) (q_int)) (q_op op_fdiv d_fdiv (q_callB call_abs d_abs (by rfl) T.n_abs (by decide +kernel) (qa_cons (q_var 1) (qa_nil))) (q_int))) (q_int)) (qa_nil))) (q_int)) (q_var 0) (q_str))
  (qss_one (qs_setD hu (q_int) (q_var 0) (q_str))))))), rd_law_load⟩
theorem ok_law_draw (T : Tx K mg) : FnOk P w_ K mg base CX0 2 T.f_law_draw T.d_law_draw ["tape", "many"] (liftSp K sp_law_draw) := by
  refine fn_ok T.F_law_draw sc_law_draw len_law_draw fun cdv A outer s H E hr => ?_
  have hu := hu_of hr
  exact ⟨W_law_draw, qss_cons (qs_if (qt_cmp op_lt d_lt (q_var 1) (q_int) (nomark _))
  (qss_one (qs_ret (q_int)))
  (qss_nil))
  (qss_cons (qs_for PassesOwn.never rfl (qi_range1 (by rfl) T.n_range (q_int)) (qg_name (i := 2) sc_law_draw.nd rfl (by first | exact Or.inl rfl | exact Or.inr rfl))
  (qss_cons (qs_if (qt_bool (qw_and (qt_cmp op_gt d_gt (q_dget hu (q_var 0) (q_str)) (q_int) (nomark _)) (qw_and1 (qt_cmp op_gt d_gt (q_dget hu (q_var 0) (q_str)) (q_int) (nomark _)))))
  (qss_cons (qs_set (i := 3) sc_law_draw.nd rfl (by first | exact Or.inl rfl | exact Or.inr rfl) (q_op op_mod d_mod (q_callTy call_int1 d_toint (by rfl) T.n_int (by decide +kernel) (qa_cons (q_dget hu (q_var 0) (q_str)) (qa_nil))) (q_var 1)))
  (qss_cons (qs_setD hu (q_op op_sub d_sub (q_dget hu (q_var 0) (q_str)) (q_int)) (q_var 0) (q_str))
  (qss_cons (qs_setD hu (q_op op_fdiv d_fdiv (q_dget hu (q_var 0) (q_str)) (q_var 1)) (q_var 0) (q_str))
  (qss_one (qs_ret (q_var 3))))))
  (qss_nil))
  (qss_cons (qs_if (qt_bool (qw_or (qt_cmp op_gt d_gt (q_dget hu (q_var 0) (q_str)) (q_int) (nomark _)) (qw_or1 (qt_cmp op_ge d_ge (q_dget hu (q_var 0) (q_str)) (q_callB call_len_seq d_len (by rfl) T.n_len PySem.boot_len (qa_cons (q_dget hu (q_var 0) (q_str)) (qa_nil))) (nomark _)))))
  (qss_one (qs_break))
  (qss_nil))
  (qss_one (qs_expr (q_call (ok_law_load T) (hr.mono (by decide)) (by rfl) T.m_law_load T.F_law_load.kp T.b_law_load (qa_cons (q_var 0) (qa_nil))))))))
  (qss_cons (qs_if (qt_cmp op_gt d_gt (q_dget hu (q_var 0) (q_str)) (q_int) (nomark _))
  (qss_one (qs_setD hu (q_op op_sub d_sub (q_dget hu (q_var 0) (q_str)) (q_int)) (q_var 0) (q_str)))
  (qss_nil))
  (qss_cons (qs_setD hu (q_op op_mod d_mod (q_callTy call_int1 d_toint (by rfl) T.n_int (by decide +kernel) (qa_cons (q_op op_addA (d_add (m := false)) (q_op op_mulA (d_mul (m := false)) (q_dget hu (q_var 0) (q_str)) (q_int)) (q_int)) (qa_nil))) (q_int)) (q_var 0) (q_str))
  (qss_one (qs_ret (q_op op_mod d_mod (q_op op_mod d_mod (q_callTy call_int1 d_toint (by rfl) T.n_int (by decide +kernel) (qa_cons (q_op op_addA (d_add (m := false)) (q_op op_mulA (d_mul (m := false)) (q_op op_fdiv d_fdiv (q_dget hu (q_var 0) (q_str)) (q_int)) (q_int)) (q_int)) (qa_nil))) (q_int)) (q_var 1))))))), rd_law_draw⟩
theorem okR_law_same (T : Tx K mg) : ∀ n, FnOk P w_ K mg base CX0 n T.f_law_same T.d_law_same ["actual", "due"] (liftSp K (spR_law_same n))
  | 0 => ⟨fun vs H Q E h => (by obtain ⟨α, G, cs, S, k, kx, o, r, h, _⟩ := h; exact h.elim), fun A outer s H args us vs Q E hr he hb hv h => (by obtain ⟨α, G, cs, S, k, kx, o, r, h, _⟩ := h; exact h.elim)⟩
  | n + 1 => by
    refine fn_ok T.F_law_same sc_law_same (lenR_law_same n) fun cdv A outer s H E hr => ?_
    have hu := hu_of hr
    exact ⟨W_law_same (spR_law_same n), qss_cons (qs_if (qt_val (q_callB call_isi d_isi (by rfl) T.n_isinstance (by decide +kernel) (qa_cons (q_var 1) (qa_cons (q_bltn (by rfl) T.n_tuple (by decide +kernel)) qa_nil))))
  (qss_cons (qs_if (qt_bool (qw_or (qt_not (qt_val (q_callB call_isi d_isi (by rfl) T.n_isinstance (by decide +kernel) (qa_cons (q_var 0) (qa_cons (q_bltn (by rfl) T.n_tuple (by decide +kernel)) qa_nil))))) (qw_or1 (qt_cmp op_ne d_ne (q_callB call_len_seq d_len (by rfl) T.n_len PySem.boot_len (qa_cons (q_var 0) (qa_nil))) (q_callB call_len_seq d_len (by rfl) T.n_len PySem.boot_len (qa_cons (q_var 1) (qa_nil))) (nomark _)))))
  (qss_one (qs_ret (q_bl)))
  (qss_nil))
  (qss_cons (qs_for PassesOwn.never rfl (qi_range1 (by rfl) T.n_range (q_callB call_len_seq d_len (by rfl) T.n_len PySem.boot_len (qa_cons (q_var 1) (qa_nil)))) (qg_name (i := 2) sc_law_same.nd rfl (by first | exact Or.inl rfl | exact Or.inr rfl))
  (qss_one (qs_if (qt_not (qt_val (q_call (okR_law_same T n) hr (by rfl) T.m_law_same T.F_law_same.kp T.b_law_same (qa_cons (q_ix (q_var 0) (q_var 2)) (qa_cons (q_ix (q_var 1) (q_var 2)) (qa_nil))))))
  (qss_one (qs_ret (q_bl)))
  (qss_nil))))
  (qss_one (qs_ret (q_bl)))))
  (qss_nil))
  (qss_one (qs_ret (q_and (q_callB call_isi d_isi (by rfl) T.n_isinstance (by decide +kernel) (qa_cons (q_var 0) (qa_cons (q_bltn (by rfl) T.n_int (by decide +kernel)) qa_nil))) (q_and (q_not (q_callB call_isi d_isi (by rfl) T.n_isinstance (by decide +kernel) (qa_cons (q_var 0) (qa_cons (q_bltn (by rfl) T.n_bool (by decide +kernel)) qa_nil)))) (q_one (q_cmp op_eq d_eq (q_var 0) (q_var 1) (nomark _))))))), rdR_law_same n⟩
theorem ok_law_same (T : Tx K mg) : FnOk P w_ K mg base CX0 3 T.f_law_same T.d_law_same ["actual", "due"] (liftSp K sp_law_same) := okR_law_same T 3
theorem ok_law_shuffled (T : Tx K mg) : FnOk P w_ K mg base CX0 3 T.f_law_shuffled T.d_law_shuffled ["tape", "many"] (liftSp K sp_law_shuffled) := by
  refine fn_ok T.F_law_shuffled sc_law_shuffled len_law_shuffled fun cdv A outer s H E hr => ?_
  have hu := hu_of hr
  exact ⟨W_law_shuffled, qss_cons (qs_set (i := 2) sc_law_shuffled.nd rfl (by first | exact Or.inl rfl | exact Or.inr rfl) (q_listRg (m := true) rfl (by rfl) T.n_list (qr_1 (by rfl) T.n_range (q_var 1))))
  (qss_one (qs_ret (q_lc (own := [("k", 3)]) (m := false) rfl sc_law_shuffled.nd (qi_range1 (by rfl) T.n_range (q_callB call_len_seq d_len (by rfl) T.n_len PySem.boot_len (qa_cons (q_var 2) (qa_nil)))) (blkOk_by (own := [("k", 3)]) (N := N_law_shuffled) (by kernel_rfl)) (fun _ _ _ _ _ => qg_name (i := 3) sc_law_shuffled.nd rfl (by first | exact Or.inl rfl | exact Or.inr rfl)) (fun _ _ _ _ _ => qts_nil) (fun _ _ _ _ _ => q_mtA d_popAt (pe_bm PySem.F.plainAttrs_list PySem.F.slot_list_pop PySem.F.type_list_pop mt_popAt (q_var 2) (qa_cons (q_call (ok_law_draw T) (hr.mono (by decide)) (by rfl) T.m_law_draw T.F_law_draw.kp T.b_law_draw (qa_cons (q_var 0) (qa_cons (q_callB call_len_seq d_len (by rfl) T.n_len PySem.boot_len (qa_cons (q_var 2) (qa_nil))) (qa_nil)))) (qa_nil))))))), rd_law_shuffled⟩
theorem ok_law_closed (T : Tx K mg) : FnOk P w_ K mg base CX0 1 T.f_law_closed T.d_law_closed ["many", "links"] (liftSp K sp_law_closed) := by
  refine fn_ok T.F_law_closed sc_law_closed len_law_closed fun cdv A outer s H E hr => ?_
  have hu := hu_of hr
  exact ⟨W_law_closed, qss_cons (qs_set (i := 2) sc_law_closed.nd rfl (by first | exact Or.inl rfl | exact Or.inr rfl) (q_lc (own := [("k", 7)]) (m := true) rfl sc_law_closed.nd (qi_range1 (by rfl) T.n_range (q_var 0)) (blkOk_by (own := [("k", 7)]) (N := N_law_closed) (by kernel_rfl)) (fun _ _ _ _ _ => qg_name (i := 7) sc_law_closed.nd rfl (by first | exact Or.inl rfl | exact Or.inr rfl)) (fun _ _ _ _ _ => qts_nil) (fun _ _ _ _ _ => q_op op_mulA (d_mul (m := true)) (q_lst false (qa_cons (q_bl) (qa_nil))) (q_var 0))))
  (qss_cons (qs_for PassesOwn.never rfl (qi_any (q_var 1)) (qg_tup rfl (qgs_cons (qg_name (i := 4) sc_law_closed.nd rfl (by first | exact Or.inl rfl | exact Or.inr rfl)) (qgs_cons (qg_name (i := 5) sc_law_closed.nd rfl (by first | exact Or.inl rfl | exact Or.inr rfl)) (qgs_nil))))
  (qss_cons (qs_set (i := 6) sc_law_closed.nd rfl (by first | exact Or.inl rfl | exact Or.inr rfl) (q_ix (q_var 2) (q_var 4)))
  (qss_one (qs_setL (q_bl) (q_var 6) (q_var 5)))))
  (qss_cons (qs_for PassesOwn.never rfl (qi_range1 (by rfl) T.n_range (q_var 0)) (qg_name (i := 3) sc_law_closed.nd rfl (by first | exact Or.inl rfl | exact Or.inr rfl))
  (qss_one (qs_for PassesOwn.never rfl (qi_range1 (by rfl) T.n_range (q_var 0)) (qg_name (i := 4) sc_law_closed.nd rfl (by first | exact Or.inl rfl | exact Or.inr rfl))
  (qss_one (qs_if (qt_val (q_ix (q_ix (q_var 2) (q_var 4)) (q_var 3)))
  (qss_one (qs_setL (q_lc (own := [("y", 5)]) (m := false) rfl sc_law_closed.nd (qi_range1 (by rfl) T.n_range (q_var 0)) (blkOk_by (own := [("y", 5)]) (N := N_law_closed) (by kernel_rfl)) (fun _ _ _ _ _ => qg_name (i := 5) sc_law_closed.nd rfl (by first | exact Or.inl rfl | exact Or.inr rfl)) (fun _ _ _ _ _ => qts_nil) (fun _ _ _ _ _ => q_or (q_ix (q_ix (q_var 2) (q_var 4)) (q_var 5)) (q_one (q_ix (q_ix (q_var 2) (q_var 3)) (q_var 5))))) (q_var 2) (q_var 4)))
  (qss_nil))))))
  (qss_one (qs_frz2 2 (qs_ret (q_var 2)))))), rd_law_closed⟩
theorem ok_law_drawn (T : Tx K mg) : FnOk P w_ K mg base CX0 3 T.f_law_drawn T.d_law_drawn ["tape", "most"] (liftSp K sp_law_drawn) := by
  refine fn_ok T.F_law_drawn sc_law_drawn len_law_drawn fun cdv A outer s H E hr => ?_
  have hu := hu_of hr
  exact ⟨W_law_drawn, qss_cons (qs_set (i := 2) sc_law_drawn.nd rfl (by first | exact Or.inl rfl | exact Or.inr rfl) (q_call (ok_law_draw T) (hr.mono (by decide)) (by rfl) T.m_law_draw T.F_law_draw.kp T.b_law_draw (qa_cons (q_var 0) (qa_cons (q_op op_addA (d_add (m := false)) (q_var 1) (q_int)) (qa_nil)))))
  (qss_cons (qs_set (i := 3) sc_law_drawn.nd rfl (by first | exact Or.inl rfl | exact Or.inr rfl) (q_call (ok_law_draw T) (hr.mono (by decide)) (by rfl) T.m_law_draw T.F_law_draw.kp T.b_law_draw (qa_cons (q_var 0) (qa_cons (q_int) (qa_nil)))))
  (qss_cons (qs_set (i := 4) sc_law_drawn.nd rfl (by first | exact Or.inl rfl | exact Or.inr rfl) (q_lst true (qa_nil)))
  (qss_cons (qs_if (qt_cmp op_eq d_eq (q_var 3) (q_int) (nomark _))
  (qss_cons (qs_set (i := 8) sc_law_drawn.nd rfl (by first | exact Or.inl rfl | exact Or.inr rfl) (q_op op_fdiv d_fdiv (q_var 2) (q_int)))
  (qss_cons (qs_for PassesOwn.never rfl (qi_range1 (by rfl) T.n_range (q_var 8)) (qg_name (i := 9) sc_law_drawn.nd rfl (by first | exact Or.inl rfl | exact Or.inr rfl))
  (qss_one (qs_set (i := 4) sc_law_drawn.nd rfl (by first | exact Or.inl rfl | exact Or.inr rfl) (q_op op_addA (d_add (m := true)) (q_var 4) (q_lst false (qa_cons (q_tup (qa_cons (q_var 9) (qa_cons (q_op op_addA (d_add (m := false)) (q_var 8) (q_var 9)) (qa_nil)))) (qa_cons (q_tup (qa_cons (q_op op_mod d_mod (q_callTy call_int1 d_toint (by rfl) T.n_int (by decide +kernel) (qa_cons (q_op op_addA (d_add (m := false)) (q_var 9) (q_int)) (qa_nil))) (q_var 8)) (qa_cons (q_op op_addA (d_add (m := false)) (q_var 8) (q_var 9)) (qa_nil)))) (qa_nil))))))))
  (qss_one (qs_frz 4 (qs_ret (q_call (ok_law_closed T) (hr.mono (by decide)) (by rfl) T.m_law_closed T.F_law_closed.kp T.b_law_closed (qa_cons (q_var 2) (qa_cons (q_var 4) (qa_nil)))))))))
  (qss_nil))
  (qss_cons (qs_set (i := 5) sc_law_drawn.nd rfl (by first | exact Or.inl rfl | exact Or.inr rfl) (q_op op_addA (d_add (m := false)) (q_int) (q_call (ok_law_draw T) (hr.mono (by decide)) (by rfl) T.m_law_draw T.F_law_draw.kp T.b_law_draw (qa_cons (q_var 0) (qa_cons (q_int) (qa_nil))))))
  (qss_cons (qs_set (i := 6) sc_law_drawn.nd rfl (by first | exact Or.inl rfl | exact Or.inr rfl) (q_op op_mulA (d_mul (m := false)) (q_lst false (qa_cons (q_int) (qa_nil))) (q_var 2)))
  (qss_cons (qs_if (qt_cmp op_eq d_eq (q_var 3) (q_int) (nomark _))
  (qss_one (qs_setLc (i := 6) (own := [("k", 9)]) (m := false) rfl sc_law_drawn.nd rfl rfl (sw_true rfl rfl rfl (by decide +kernel)) (qi_range1 (by rfl) T.n_range (q_var 2)) (blkOk_by (own := [("k", 9)]) (N := N_law_drawn) (by kernel_rfl)) (fun _ _ _ _ _ => qg_name (i := 9) sc_law_drawn.nd rfl (by first | exact Or.inl rfl | exact Or.inr rfl)) (fun _ _ _ _ _ => qts_nil) (fun _ _ _ _ _ => q_call (ok_law_draw T) (hr.mono (by decide)) (by rfl) T.m_law_draw T.F_law_draw.kp T.b_law_draw (qa_cons (q_var 0) (qa_cons (q_int) (qa_nil))))))
  (qss_nil))
  (qss_cons (qs_for PassesOwn.never rfl (qi_range1 (by rfl) T.n_range (q_var 2)) (qg_name (i := 7) sc_law_drawn.nd rfl (by first | exact Or.inl rfl | exact Or.inr rfl))
  (qss_one (qs_for PassesOwn.never rfl (qi_range2 (by rfl) T.n_range (q_op op_addA (d_add (m := false)) (q_var 7) (q_int)) (q_var 2)) (qg_name (i := 10) sc_law_drawn.nd rfl (by first | exact Or.inl rfl | exact Or.inr rfl))
  (qss_cons (qs_if (qt_bool (qw_and (qt_cmp op_eq d_eq (q_var 3) (q_int) (nomark _)) (qw_and (qt_cmp op_lt d_lt (q_ix (q_var 6) (q_var 7)) (q_ix (q_var 6) (q_var 10)) (nomark _)) (qw_and1 (qt_cmp op_gt d_gt (q_call (ok_law_draw T) (hr.mono (by decide)) (by rfl) T.m_law_draw T.F_law_draw.kp T.b_law_draw (qa_cons (q_var 0) (qa_cons (q_int) (qa_nil)))) (q_int) (nomark _))))))
  (qss_one (qs_expr (q_mtA d_append (pe_bm PySem.F.plainAttrs_list PySem.F.slot_list_append PySem.F.type_list_append mt_append (q_var 4) (qa_cons (q_tup (qa_cons (q_var 7) (qa_cons (q_var 10) (qa_nil)))) (qa_nil))))))
  (qss_nil))
  (qss_one (qs_if (qt_bool (qw_and (qt_cmp op_lt d_lt (q_var 3) (q_int) (nomark _)) (qw_and1 (qt_cmp op_eq d_eq (q_call (ok_law_draw T) (hr.mono (by decide)) (by rfl) T.m_law_draw T.F_law_draw.kp T.b_law_draw (qa_cons (q_var 0) (qa_cons (q_var 5) (qa_nil)))) (q_int) (nomark _)))))
  (qss_one (qs_expr (q_mtA d_append (pe_bm PySem.F.plainAttrs_list PySem.F.slot_list_append PySem.F.type_list_append mt_append (q_var 4) (qa_cons (q_tup (qa_cons (q_var 7) (qa_cons (q_var 10) (qa_nil)))) (qa_nil))))))
  (qss_nil)))))))
  (qss_one (qs_frz 4 (qs_ret (q_call (ok_law_closed T) (hr.mono (by decide)) (by rfl) T.m_law_closed T.F_law_closed.kp T.b_law_closed (qa_cons (q_var 2) (qa_cons (q_var 4) (qa_nil)))))))))))))), rd_law_drawn⟩
theorem ok_law_told (T : Tx K mg) : FnOk P w_ K mg base CX0 1 T.f_law_told T.d_law_told ["up", "names"] (liftSp K sp_law_told) := by
  refine fn_ok T.F_law_told sc_law_told len_law_told fun cdv A outer s H E hr => ?_
  have hu := hu_of hr
  exact ⟨W_law_told, qss_cons (qs_set (i := 2) sc_law_told.nd rfl (by first | exact Or.inl rfl | exact Or.inr rfl) (q_lst false (qa_nil)))
  (qss_cons (qs_for PassesOwn.never rfl (qi_range1 (by rfl) T.n_range (q_callB call_len_seq d_len (by rfl) T.n_len PySem.boot_len (qa_cons (q_var 0) (qa_nil)))) (qg_name (i := 3) sc_law_told.nd rfl (by first | exact Or.inl rfl | exact Or.inr rfl))
  (qss_one (qs_set (i := 2) sc_law_told.nd rfl (by first | exact Or.inl rfl | exact Or.inr rfl) (q_op op_addA (d_add (m := false)) (q_var 2) (q_lc (own := [("y", 4)]) (m := false) rfl sc_law_told.nd (qi_range1 (by rfl) T.n_range (q_callB call_len_seq d_len (by rfl) T.n_len PySem.boot_len (qa_cons (q_var 0) (qa_nil)))) (blkOk_by (own := [("y", 4)]) (N := N_law_told) (by kernel_rfl)) (fun _ _ _ _ _ => qg_name (i := 4) sc_law_told.nd rfl (by first | exact Or.inl rfl | exact Or.inr rfl)) (fun _ _ _ _ _ => qts_one (qt_val (q_ix (q_ix (q_var 0) (q_var 3)) (q_var 4)))) (fun _ _ _ _ _ => q_tup (qa_cons (q_ix (q_var 1) (q_var 3)) (qa_cons (q_ix (q_var 1) (q_var 4)) (qa_nil)))))))))
  (qss_one (qs_ret (q_tup (qa_cons (q_callB call_len_seq d_len (by rfl) T.n_len PySem.boot_len (qa_cons (q_var 0) (qa_nil))) (qa_cons (q_callTy call_tuple_of d_tuple (by rfl) T.n_tuple (by decide +kernel) (qa_cons (q_callB cr_sortedPO (d_sortedP (m := false)) (by rfl) T.n_sorted (by decide +kernel) (qa_cons (q_var 2) (qa_nil))) (qa_nil))) (qa_nil))))))), rd_law_told⟩
theorem ok_law_chain_list (T : Tx K mg) : FnOk P w_ K mg base CX0 1 T.f_law_chain_list T.d_law_chain_list ["up"] (liftSp K sp_law_chain_list) := by
  refine fn_ok T.F_law_chain_list sc_law_chain_list len_law_chain_list fun cdv A outer s H E hr => ?_
  have hu := hu_of hr
  exact ⟨W_law_chain_list, qss_cons (qs_set (i := 1) sc_law_chain_list.nd rfl (by first | exact Or.inl rfl | exact Or.inr rfl) (q_callB call_len_seq d_len (by rfl) T.n_len PySem.boot_len (qa_cons (q_var 0) (qa_nil))))
  (qss_cons (qs_set (i := 2) sc_law_chain_list.nd rfl (by first | exact Or.inl rfl | exact Or.inr rfl) (q_callB cr_sortedPO (d_sortedP (m := false)) (by rfl) T.n_sorted (by decide +kernel) (qa_cons (q_lc (own := [("x", 5)]) (m := false) rfl sc_law_chain_list.nd (qi_range1 (by rfl) T.n_range (q_var 1)) (blkOk_by (own := [("x", 5)]) (N := N_law_chain_list) (by kernel_rfl)) (fun _ _ _ _ _ => qg_name (i := 5) sc_law_chain_list.nd rfl (by first | exact Or.inl rfl | exact Or.inr rfl)) (fun _ _ _ _ _ => qts_nil) (fun _ _ _ _ _ => q_tup (qa_cons (q_callB call_len_seq d_len (by rfl) T.n_len PySem.boot_len (qa_cons (q_lc (own := [("y", 7)]) (m := false) rfl sc_law_chain_list.nd (qi_range1 (by rfl) T.n_range (q_var 1)) (blkOk_by (own := [("y", 7)]) (N := N_law_chain_list) (by kernel_rfl)) (fun _ _ _ _ _ => qg_name (i := 7) sc_law_chain_list.nd rfl (by first | exact Or.inl rfl | exact Or.inr rfl)) (fun _ _ _ _ _ => qts_one (qt_val (q_ix (q_ix (q_var 0) (q_var 7)) (q_var 5)))) (fun _ _ _ _ _ => q_var 7)) (qa_nil))) (qa_cons (q_var 5) (qa_nil))))) (qa_nil))))
  (qss_cons (qs_set (i := 3) sc_law_chain_list.nd rfl (by first | exact Or.inl rfl | exact Or.inr rfl) (q_lst false (qa_cons (q_tup (qa_nil)) (qa_nil))))
  (qss_cons (qs_for PassesOwn.never rfl (qi_any (q_var 2)) (qg_tup rfl (qgs_cons (qg_name (i := 4) sc_law_chain_list.nd rfl (by first | exact Or.inl rfl | exact Or.inr rfl)) (qgs_cons (qg_name (i := 5) sc_law_chain_list.nd rfl (by first | exact Or.inl rfl | exact Or.inr rfl)) (qgs_nil))))
  (qss_one (qs_set (i := 3) sc_law_chain_list.nd rfl (by first | exact Or.inl rfl | exact Or.inr rfl) (q_op op_addA (d_add (m := false)) (q_var 3) (q_lc (own := [("one", 6)]) (m := false) rfl sc_law_chain_list.nd (qi_any (q_var 3)) (blkOk_by (own := [("one", 6)]) (N := N_law_chain_list) (by kernel_rfl)) (fun _ _ _ _ _ => qg_name (i := 6) sc_law_chain_list.nd rfl (by first | exact Or.inl rfl | exact Or.inr rfl)) (fun _ _ _ _ _ => qts_one (qt_bool (qw_or (qt_cmp op_eq d_eq (q_callB call_len_seq d_len (by rfl) T.n_len PySem.boot_len (qa_cons (q_var 6) (qa_nil))) (q_int) (nomark _)) (qw_or1 (qt_val (q_ix (q_ix (q_var 0) (q_ix (q_var 6) (q_un un_neg d_neg (q_int)))) (q_var 5))))))) (fun _ _ _ _ _ => q_op op_addA (d_add (m := false)) (q_var 6) (q_tup (qa_cons (q_var 5) (qa_nil)))))))))
  (qss_one (qs_ret (q_lc (own := [("one", 6)]) (m := false) rfl sc_law_chain_list.nd (qi_any (q_var 3)) (blkOk_by (own := [("one", 6)]) (N := N_law_chain_list) (by kernel_rfl)) (fun _ _ _ _ _ => qg_name (i := 6) sc_law_chain_list.nd rfl (by first | exact Or.inl rfl | exact Or.inr rfl)) (fun _ _ _ _ _ => qts_one (qt_cmp op_gt d_gt (q_callB call_len_seq d_len (by rfl) T.n_len PySem.boot_len (qa_cons (q_var 6) (qa_nil))) (q_int) (nomark _))) (fun _ _ _ _ _ => q_var 6))))))), rd_law_chain_list⟩
theorem ok_law_towers (T : Tx K mg) : FnOk P w_ K mg base CX0 3 T.f_law_towers T.d_law_towers ["tape", "most", "cap"] (liftSp K sp_law_towers) := by
  refine fn_ok T.F_law_towers sc_law_towers len_law_towers fun cdv A outer s H E hr => ?_
  have hu := hu_of hr
  exact ⟨W_law_towers, qss_cons (qs_set (i := 3) sc_law_towers.nd rfl (by first | exact Or.inl rfl | exact Or.inr rfl) (q_lst true (qa_nil)))
  (qss_cons (qs_set (i := 4) sc_law_towers.nd rfl (by first | exact Or.inl rfl | exact Or.inr rfl) (q_var 1))
  (qss_cons (qs_for PassesOwn.never rfl (qi_range1 (by rfl) T.n_range (q_op op_addA (d_add (m := false)) (q_int) (q_call (ok_law_draw T) (hr.mono (by decide)) (by rfl) T.m_law_draw T.F_law_draw.kp T.b_law_draw (qa_cons (q_var 0) (qa_cons (q_int) (qa_nil)))))) (qg_name (i := 5) sc_law_towers.nd rfl (by first | exact Or.inl rfl | exact Or.inr rfl))
  (qss_cons (qs_set (i := 6) sc_law_towers.nd rfl (by first | exact Or.inl rfl | exact Or.inr rfl) (q_lst true (qa_nil)))
  (qss_cons (qs_set (i := 7) sc_law_towers.nd rfl (by first | exact Or.inl rfl | exact Or.inr rfl) (q_int))
  (qss_cons (qs_for PassesOwn.never rfl (qi_range1 (by rfl) T.n_range (q_op op_addA (d_add (m := false)) (q_int) (q_call (ok_law_draw T) (hr.mono (by decide)) (by rfl) T.m_law_draw T.F_law_draw.kp T.b_law_draw (qa_cons (q_var 0) (qa_cons (q_int) (qa_nil)))))) (qg_name (i := 8) sc_law_towers.nd rfl (by first | exact Or.inl rfl | exact Or.inr rfl))
  (qss_cons (qs_set (i := 9) sc_law_towers.nd rfl (by first | exact Or.inl rfl | exact Or.inr rfl) (q_callB (call_min2 rfl) d_min2 (by rfl) T.n_min (by decide +kernel) (qa_cons (q_var 4) (qa_cons (q_op op_addA (d_add (m := false)) (q_int) (q_call (ok_law_draw T) (hr.mono (by decide)) (by rfl) T.m_law_draw T.F_law_draw.kp T.b_law_draw (qa_cons (q_var 0) (qa_cons (q_ix (q_lst false (qa_cons (q_int) (qa_cons (q_int) (qa_cons (q_int) (qa_nil))))) (q_call (ok_law_draw T) (hr.mono (by decide)) (by rfl) T.m_law_draw T.F_law_draw.kp T.b_law_draw (qa_cons (q_var 0) (qa_cons (q_int) (qa_nil))))) (qa_nil))))) (qa_nil)))))
  (qss_one (qs_if (qt_bool (qw_and (qt_cmp op_gt d_gt (q_var 9) (q_int) (nomark _)) (qw_and1 (qt_cmp op_le d_le (q_op op_mulA (d_mul (m := false)) (q_var 7) (q_op op_addA (d_add (m := false)) (q_var 9) (q_int))) (q_var 2) (nomark _)))))
  (qss_cons (qs_expr (q_mtA d_append (pe_bm PySem.F.plainAttrs_list PySem.F.slot_list_append PySem.F.type_list_append mt_append (q_var 6) (qa_cons (q_var 9) (qa_nil)))))
  (qss_cons (qs_set (i := 7) sc_law_towers.nd rfl (by first | exact Or.inl rfl | exact Or.inr rfl) (q_op op_mulA (d_mul (m := false)) (q_var 7) (q_op op_addA (d_add (m := false)) (q_var 9) (q_int))))
  (qss_one (qs_set (i := 4) sc_law_towers.nd rfl (by first | exact Or.inl rfl | exact Or.inr rfl) (q_op op_sub d_sub (q_var 4) (q_var 9))))))
  (qss_nil)))))
  (qss_one (qs_if (qt_cmp op_gt d_gt (q_callB call_len_seq d_len (by rfl) T.n_len PySem.boot_len (qa_cons (q_var 6) (qa_nil))) (q_int) (nomark _))
  (qss_one (qs_frz 6 (qs_expr (q_mtA d_append (pe_bm PySem.F.plainAttrs_list PySem.F.slot_list_append PySem.F.type_list_append mt_append (q_var 3) (qa_cons (q_var 6) (qa_nil)))))))
  (qss_nil)))))))
  (qss_one (qs_frz 3 (qs_ret (q_var 3)))))), rd_law_towers⟩
theorem ok_law_spots (T : Tx K mg) : FnOk P w_ K mg base CX0 1 T.f_law_spots T.d_law_spots ["towers"] (liftSp K sp_law_spots) := by
  refine fn_ok T.F_law_spots sc_law_spots len_law_spots fun cdv A outer s H E hr => ?_
  have hu := hu_of hr
  exact ⟨W_law_spots, qss_cons (qs_set (i := 1) sc_law_spots.nd rfl (by first | exact Or.inl rfl | exact Or.inr rfl) (q_lst false (qa_nil)))
  (qss_cons (qs_for PassesOwn.never rfl (qi_range1 (by rfl) T.n_range (q_callB call_len_seq d_len (by rfl) T.n_len PySem.boot_len (qa_cons (q_var 0) (qa_nil)))) (qg_name (i := 2) sc_law_spots.nd rfl (by first | exact Or.inl rfl | exact Or.inr rfl))
  (qss_one (qs_for PassesOwn.never rfl (qi_range1 (by rfl) T.n_range (q_callB call_len_seq d_len (by rfl) T.n_len PySem.boot_len (qa_cons (q_ix (q_var 0) (q_var 2)) (qa_nil)))) (qg_name (i := 3) sc_law_spots.nd rfl (by first | exact Or.inl rfl | exact Or.inr rfl))
  (qss_one (qs_set (i := 1) sc_law_spots.nd rfl (by first | exact Or.inl rfl | exact Or.inr rfl) (q_op op_addA (d_add (m := false)) (q_var 1) (q_op op_mulA (d_mul (m := false)) (q_lst false (qa_cons (q_tup (qa_cons (q_var 2) (qa_cons (q_var 3) (qa_nil)))) (qa_nil))) (q_ix (q_ix (q_var 0) (q_var 2)) (q_var 3)))))))))
  (qss_one (qs_ret (q_var 1)))), rd_law_spots⟩
theorem ok_law_tower_table (T : Tx K mg) : FnOk P w_ K mg base CX0 1 T.f_law_tower_table T.d_law_tower_table ["spots"] (liftSp K sp_law_tower_table) := by
  refine fn_ok T.F_law_tower_table sc_law_tower_table len_law_tower_table fun cdv A outer s H E hr => ?_
  have hu := hu_of hr
  exact ⟨W_law_tower_table, qss_one (qs_ret (q_lc (own := [("one", 1)]) (m := false) rfl sc_law_tower_table.nd (qi_any (q_var 0)) (blkOk_by (own := [("one", 1)]) (N := N_law_tower_table) (by kernel_rfl)) (fun _ _ _ _ _ => qg_name (i := 1) sc_law_tower_table.nd rfl (by first | exact Or.inl rfl | exact Or.inr rfl)) (fun _ _ _ _ _ => qts_nil) (fun _ _ _ _ _ => q_lc (own := [("other", 2)]) (m := false) rfl sc_law_tower_table.nd (qi_any (q_var 0)) (blkOk_by (own := [("other", 2)]) (N := N_law_tower_table) (by kernel_rfl)) (fun _ _ _ _ _ => qg_name (i := 2) sc_law_tower_table.nd rfl (by first | exact Or.inl rfl | exact Or.inr rfl)) (fun _ _ _ _ _ => qts_nil) (fun _ _ _ _ _ => q_and (q_cmp op_eq d_eq (q_ix (q_var 1) (q_int)) (q_ix (q_var 2) (q_int)) (nomark _)) (q_one (q_cmp op_lt d_lt (q_ix (q_var 1) (q_int)) (q_ix (q_var 2) (q_int)) (nomark _))))))), rd_law_tower_table⟩
theorem ok_law_signed (T : Tx K mg) : FnOk P w_ K mg base CX0 2 T.f_law_signed T.d_law_signed ["up"] (liftSp K sp_law_signed) := by
  refine fn_ok T.F_law_signed sc_law_signed len_law_signed fun cdv A outer s H E hr => ?_
  have hu := hu_of hr
  exact ⟨W_law_signed, qss_cons (qs_set (i := 1) sc_law_signed.nd rfl (by first | exact Or.inl rfl | exact Or.inr rfl) (q_callB call_len_seq d_len (by rfl) T.n_len PySem.boot_len (qa_cons (q_var 0) (qa_nil))))
  (qss_cons (qs_setLc (i := 2) (own := [("k", 7)]) (m := true) rfl sc_law_signed.nd rfl rfl (sw_true rfl rfl rfl (by decide +kernel)) (qi_range1 (by rfl) T.n_range (q_var 1)) (blkOk_by (own := [("k", 7)]) (N := N_law_signed) (by kernel_rfl)) (fun _ _ _ _ _ => qg_name (i := 7) sc_law_signed.nd rfl (by first | exact Or.inl rfl | exact Or.inr rfl)) (fun _ _ _ _ _ => qts_nil) (fun _ _ _ _ _ => q_op op_mulA (d_mul (m := true)) (q_lst false (qa_cons (q_int) (qa_nil))) (q_var 1)))
  (qss_cons (qs_set (i := 3) sc_law_signed.nd rfl (by first | exact Or.inl rfl | exact Or.inr rfl) (q_int))
  (qss_cons (qs_for PassesOwn.never rfl (qi_any (q_call (ok_law_chain_list T) (hr.mono (by decide)) (by rfl) T.m_law_chain_list T.F_law_chain_list.kp T.b_law_chain_list (qa_cons (q_var 0) (qa_nil)))) (qg_name (i := 4) sc_law_signed.nd rfl (by first | exact Or.inl rfl | exact Or.inr rfl))
  (qss_cons (qs_set (i := 5) sc_law_signed.nd rfl (by first | exact Or.inl rfl | exact Or.inr rfl) (q_op op_sub d_sub (q_int) (q_op op_mulA (d_mul (m := false)) (q_int) (q_callTy call_int1 d_toint (by rfl) T.n_int (by decide +kernel) (qa_cons (q_op op_mod d_mod (q_callTy call_int1 d_toint (by rfl) T.n_int (by decide +kernel) (qa_cons (q_op op_addA (d_add (m := false)) (q_callB call_len_seq d_len (by rfl) T.n_len PySem.boot_len (qa_cons (q_var 4) (qa_nil))) (q_int)) (qa_nil))) (q_int)) (qa_nil))))))
  (qss_cons (qs_set (i := 6) sc_law_signed.nd rfl (by first | exact Or.inl rfl | exact Or.inr rfl) (q_ix (q_var 2) (q_ix (q_var 4) (q_int))))
  (qss_cons (qs_setL (q_op op_addA (d_add (m := false)) (q_ix (q_var 6) (q_ix (q_var 4) (q_un un_neg d_neg (q_int)))) (q_var 5)) (q_var 6) (q_ix (q_var 4) (q_un un_neg d_neg (q_int))))
  (qss_one (qs_set (i := 3) sc_law_signed.nd rfl (by first | exact Or.inl rfl | exact Or.inr rfl) (q_op op_addA (d_add (m := false)) (q_var 3) (q_var 5))))))))
  (qss_one (qs_frz2 2 (qs_ret (q_tup (qa_cons (q_var 2) (qa_cons (q_var 3) (qa_nil)))))))))), rd_law_signed⟩
theorem ok_law_bounded (T : Tx K mg) : FnOk P w_ K mg base CX0 1 T.f_law_bounded T.d_law_bounded ["up"] (liftSp K sp_law_bounded) := by
  refine fn_ok T.F_law_bounded sc_law_bounded len_law_bounded fun cdv A outer s H E hr => ?_
  have hu := hu_of hr
  exact ⟨W_law_bounded, qss_cons (qs_set (i := 1) sc_law_bounded.nd rfl (by first | exact Or.inl rfl | exact Or.inr rfl) (q_callB call_len_seq d_len (by rfl) T.n_len PySem.boot_len (qa_cons (q_var 0) (qa_nil))))
  (qss_cons (qs_setLc (i := 2) (own := [("row", 3)]) (m := false) rfl sc_law_bounded.nd rfl rfl (sw_true rfl rfl rfl (by decide +kernel)) (qi_any (q_var 0)) (blkOk_by (own := [("row", 3)]) (N := N_law_bounded) (by kernel_rfl)) (fun _ _ _ _ _ => qg_name (i := 3) sc_law_bounded.nd rfl (by first | exact Or.inl rfl | exact Or.inr rfl)) (fun _ _ _ _ _ => qts_nil) (fun _ _ _ _ _ => q_op op_addA (d_add (m := false)) (q_var 3) (q_lst false (qa_cons (q_bl) (qa_cons (q_bl) (qa_nil))))))
  (qss_one (qs_ret (q_op op_addA (d_add (m := false)) (q_var 2) (q_lst false (qa_cons (q_op op_addA (d_add (m := false)) (q_op op_mulA (d_mul (m := false)) (q_lst false (qa_cons (q_bl) (qa_nil))) (q_var 1)) (q_lst false (qa_cons (q_bl) (qa_cons (q_bl) (qa_nil))))) (qa_cons (q_op op_mulA (d_mul (m := false)) (q_lst false (qa_cons (q_bl) (qa_nil))) (q_op op_addA (d_add (m := false)) (q_var 1) (q_int))) (qa_nil)))))))), rd_law_bounded⟩
theorem ok_law_bounds_right (T : Tx K mg) : FnOk P w_ K mg base CX0 4 T.f_law_bounds_right T.d_law_bounds_right ["tape", "up", "total"] (liftSp K sp_law_bounds_right) := by
  refine fn_ok T.F_law_bounds_right sc_law_bounds_right len_law_bounds_right fun cdv A outer s H E hr => ?_
  have hu := hu_of hr
  exact ⟨W_law_bounds_right, qss_cons (qs_set (i := 3) sc_law_bounds_right.nd rfl (by first | exact Or.inl rfl | exact Or.inr rfl) (q_callB call_len_seq d_len (by rfl) T.n_len PySem.boot_len (qa_cons (q_var 1) (qa_nil))))
  (qss_cons (qs_set (i := 4) sc_law_bounds_right.nd rfl (by first | exact Or.inl rfl | exact Or.inr rfl) (q_call (ok_law_shuffled T) (hr.mono (by decide)) (by rfl) T.m_law_shuffled T.F_law_shuffled.kp T.b_law_shuffled (qa_cons (q_var 0) (qa_cons (q_op op_addA (d_add (m := false)) (q_var 3) (q_int)) (qa_nil)))))
  (qss_cons (qs_set (i := 5) sc_law_bounds_right.nd rfl (by first | exact Or.inl rfl | exact Or.inr rfl) (q_call (ok_law_told T) (hr.mono (by decide)) (by rfl) T.m_law_told T.F_law_told.kp T.b_law_told (qa_cons (q_call (ok_law_bounded T) (hr.mono (by decide)) (by rfl) T.m_law_bounded T.F_law_bounded.kp T.b_law_bounded (qa_cons (q_var 1) (qa_nil))) (qa_cons (q_var 4) (qa_nil)))))
  (qss_cons (qs_if (qt_not (qt_val (q_call (ok_law_same T) (hr.mono (by decide)) (by rfl) T.m_law_same T.F_law_same.kp T.b_law_same (qa_cons (q_call (ok_moebius T) (hr.mono (by decide)) (by rfl) T.m_moebius T.F_moebius.kp T.b_moebius (qa_cons (q_var 5) (qa_cons (q_ix (q_var 4) (q_var 3)) (qa_cons (q_ix (q_var 4) (q_op op_addA (d_add (m := false)) (q_var 3) (q_int))) (qa_nil))))) (qa_cons (q_op op_sub d_sub (q_var 2) (q_int)) (qa_nil))))))
  (qss_one (qs_ret (q_bl)))
  (qss_nil))
  (qss_one (qs_ret (q_call (ok_law_same T) (hr.mono (by decide)) (by rfl) T.m_law_same T.F_law_same.kp T.b_law_same (qa_cons (q_callK0 (ok_euler T) (hr.mono (by decide)) (by rfl) T.m_euler T.F_euler.kp (kb_euler_order T) (qk_cons (q_var 5) (qk_nil))) (qa_cons (q_int) (qa_nil))))))))), rd_law_bounds_right⟩
theorem ok_law_small_right (T : Tx K mg) : FnOk P w_ K mg base CX0 5 T.f_law_small_right T.d_law_small_right ["tape", "up"] (liftSp K sp_law_small_right) := by
  refine fn_ok T.F_law_small_right sc_law_small_right len_law_small_right fun cdv A outer s H E hr => ?_
  have hu := hu_of hr
  exact ⟨W_law_small_right, qss_cons (qs_set (i := 2) sc_law_small_right.nd rfl (by first | exact Or.inl rfl | exact Or.inr rfl) (q_call (ok_law_shuffled T) (hr.mono (by decide)) (by rfl) T.m_law_shuffled T.F_law_shuffled.kp T.b_law_shuffled (qa_cons (q_var 0) (qa_cons (q_callB call_len_seq d_len (by rfl) T.n_len PySem.boot_len (qa_cons (q_var 1) (qa_nil))) (qa_nil)))))
  (qss_cons (qs_set (i := 3) sc_law_small_right.nd rfl (by first | exact Or.inl rfl | exact Or.inr rfl) (q_call (ok_law_told T) (hr.mono (by decide)) (by rfl) T.m_law_told T.F_law_told.kp T.b_law_told (qa_cons (q_var 1) (qa_cons (q_var 2) (qa_nil)))))
  (qss_cons (qs_asg (q_call (ok_law_signed T) (hr.mono (by decide)) (by rfl) T.m_law_signed T.F_law_signed.kp T.b_law_signed (qa_cons (q_var 1) (qa_nil))) (qg_tup rfl (qgs_cons (qg_name (i := 5) sc_law_small_right.nd rfl (by first | exact Or.inl rfl | exact Or.inr rfl)) (qgs_cons (qg_name (i := 6) sc_law_small_right.nd rfl (by first | exact Or.inl rfl | exact Or.inr rfl)) (qgs_nil)))))
  (qss_cons (qs_if (qt_not (qt_val (q_call (ok_law_same T) (hr.mono (by decide)) (by rfl) T.m_law_same T.F_law_same.kp T.b_law_same (qa_cons (q_call (ok_euler T) (hr.mono (by decide)) (by rfl) T.m_euler T.F_euler.kp T.b_euler (qa_cons (q_var 3) (qa_nil))) (qa_cons (q_var 6) (qa_nil))))))
  (qss_one (qs_ret (q_bl)))
  (qss_nil))
  (qss_cons (qs_for PassesOwn.never rfl (qi_range1 (by rfl) T.n_range (q_callB call_len_seq d_len (by rfl) T.n_len PySem.boot_len (qa_cons (q_var 1) (qa_nil)))) (qg_name (i := 4) sc_law_small_right.nd rfl (by first | exact Or.inl rfl | exact Or.inr rfl))
  (qss_one (qs_for PassesOwn.never rfl (qi_range1 (by rfl) T.n_range (q_callB call_len_seq d_len (by rfl) T.n_len PySem.boot_len (qa_cons (q_var 1) (qa_nil)))) (qg_name (i := 7) sc_law_small_right.nd rfl (by first | exact Or.inl rfl | exact Or.inr rfl))
  (qss_one (qs_if (qt_not (qt_val (q_call (ok_law_same T) (hr.mono (by decide)) (by rfl) T.m_law_same T.F_law_same.kp T.b_law_same (qa_cons (q_call (ok_moebius T) (hr.mono (by decide)) (by rfl) T.m_moebius T.F_moebius.kp T.b_moebius (qa_cons (q_var 3) (qa_cons (q_ix (q_var 2) (q_var 4)) (qa_cons (q_ix (q_var 2) (q_var 7)) (qa_nil))))) (qa_cons (q_ix (q_ix (q_var 5) (q_var 4)) (q_var 7)) (qa_nil))))))
  (qss_one (qs_ret (q_bl)))
  (qss_nil))))))
  (qss_one (qs_ret (q_call (ok_law_bounds_right T) (hr.mono (by decide)) (by rfl) T.m_law_bounds_right T.F_law_bounds_right.kp T.b_law_bounds_right (qa_cons (q_var 0) (qa_cons (q_var 1) (qa_cons (q_var 6) (qa_nil))))))))))), rd_law_small_right⟩
theorem ok_law_towers_right (T : Tx K mg) : FnOk P w_ K mg base CX0 5 T.f_law_towers_right T.d_law_towers_right ["tape", "towers"] (liftSp K sp_law_towers_right) := by
  refine fn_ok T.F_law_towers_right sc_law_towers_right len_law_towers_right fun cdv A outer s H E hr => ?_
  have hu := hu_of hr
  exact ⟨W_law_towers_right, qss_cons (qs_set (i := 2) sc_law_towers_right.nd rfl (by first | exact Or.inl rfl | exact Or.inr rfl) (q_call (ok_law_spots T) (hr.mono (by decide)) (by rfl) T.m_law_spots T.F_law_spots.kp T.b_law_spots (qa_cons (q_var 1) (qa_nil))))
  (qss_cons (qs_set (i := 3) sc_law_towers_right.nd rfl (by first | exact Or.inl rfl | exact Or.inr rfl) (q_call (ok_law_tower_table T) (hr.mono (by decide)) (by rfl) T.m_law_tower_table T.F_law_tower_table.kp T.b_law_tower_table (qa_cons (q_var 2) (qa_nil))))
  (qss_cons (qs_set (i := 4) sc_law_towers_right.nd rfl (by first | exact Or.inl rfl | exact Or.inr rfl) (q_call (ok_law_shuffled T) (hr.mono (by decide)) (by rfl) T.m_law_shuffled T.F_law_shuffled.kp T.b_law_shuffled (qa_cons (q_var 0) (qa_cons (q_callB call_len_seq d_len (by rfl) T.n_len PySem.boot_len (qa_cons (q_var 2) (qa_nil))) (qa_nil)))))
  (qss_cons (qs_set (i := 5) sc_law_towers_right.nd rfl (by first | exact Or.inl rfl | exact Or.inr rfl) (q_call (ok_law_told T) (hr.mono (by decide)) (by rfl) T.m_law_told T.F_law_told.kp T.b_law_told (qa_cons (q_var 3) (qa_cons (q_var 4) (qa_nil)))))
  (qss_cons (qs_set (i := 6) sc_law_towers_right.nd rfl (by first | exact Or.inl rfl | exact Or.inr rfl) (q_int))
  (qss_cons (qs_for PassesOwn.never rfl (qi_any (q_var 1)) (qg_name (i := 7) sc_law_towers_right.nd rfl (by first | exact Or.inl rfl | exact Or.inr rfl))
  (qss_cons (qs_set (i := 9) sc_law_towers_right.nd rfl (by first | exact Or.inl rfl | exact Or.inr rfl) (q_int))
  (qss_cons (qs_for PassesOwn.never rfl (qi_any (q_var 7)) (qg_name (i := 10) sc_law_towers_right.nd rfl (by first | exact Or.inl rfl | exact Or.inr rfl))
  (qss_one (qs_set (i := 9) sc_law_towers_right.nd rfl (by first | exact Or.inl rfl | exact Or.inr rfl) (q_op op_mulA (d_mul (m := false)) (q_var 9) (q_op op_sub d_sub (q_int) (q_var 10))))))
  (qss_one (qs_set (i := 6) sc_law_towers_right.nd rfl (by first | exact Or.inl rfl | exact Or.inr rfl) (q_op op_sub d_sub (q_op op_addA (d_add (m := false)) (q_var 6) (q_int)) (q_var 9)))))))
  (qss_cons (qs_if (qt_not (qt_val (q_call (ok_law_same T) (hr.mono (by decide)) (by rfl) T.m_law_same T.F_law_same.kp T.b_law_same (qa_cons (q_call (ok_euler T) (hr.mono (by decide)) (by rfl) T.m_euler T.F_euler.kp T.b_euler (qa_cons (q_var 5) (qa_nil))) (qa_cons (q_var 6) (qa_nil))))))
  (qss_one (qs_ret (q_bl)))
  (qss_nil))
  (qss_cons (qs_for PassesOwn.never rfl (qi_range1 (by rfl) T.n_range (q_int)) (qg_name (i := 8) sc_law_towers_right.nd rfl (by first | exact Or.inl rfl | exact Or.inr rfl))
  (qss_cons (qs_set (i := 11) sc_law_towers_right.nd rfl (by first | exact Or.inl rfl | exact Or.inr rfl) (q_call (ok_law_draw T) (hr.mono (by decide)) (by rfl) T.m_law_draw T.F_law_draw.kp T.b_law_draw (qa_cons (q_var 0) (qa_cons (q_callB call_len_seq d_len (by rfl) T.n_len PySem.boot_len (qa_cons (q_var 2) (qa_nil))) (qa_nil)))))
  (qss_cons (qs_set (i := 12) sc_law_towers_right.nd rfl (by first | exact Or.inl rfl | exact Or.inr rfl) (q_call (ok_law_draw T) (hr.mono (by decide)) (by rfl) T.m_law_draw T.F_law_draw.kp T.b_law_draw (qa_cons (q_var 0) (qa_cons (q_callB call_len_seq d_len (by rfl) T.n_len PySem.boot_len (qa_cons (q_var 2) (qa_nil))) (qa_nil)))))
  (qss_cons (qs_set (i := 13) sc_law_towers_right.nd rfl (by first | exact Or.inl rfl | exact Or.inr rfl) (q_callTy call_int1 d_toint (by rfl) T.n_int (by decide +kernel) (qa_cons (q_cmp op_eq d_eq (q_var 11) (q_var 12) (nomark _)) (qa_nil))))
  (qss_cons (qs_if (qt_val (q_ix (q_ix (q_var 3) (q_var 11)) (q_var 12)))
  (qss_cons (qs_set (i := 13) sc_law_towers_right.nd rfl (by first | exact Or.inl rfl | exact Or.inr rfl) (q_un un_neg d_neg (q_int)))
  (qss_one (qs_for PassesOwn.never rfl (qi_any (q_slice (m := false) (q_ix (q_var 1) (q_ix (q_ix (q_var 2) (q_var 11)) (q_int))) (qo_some (q_op op_addA (d_add (m := false)) (q_ix (q_ix (q_var 2) (q_var 11)) (q_int)) (q_int))) (qo_some (q_ix (q_ix (q_var 2) (q_var 12)) (q_int))))) (qg_name (i := 10) sc_law_towers_right.nd rfl (by first | exact Or.inl rfl | exact Or.inr rfl))
  (qss_one (qs_set (i := 13) sc_law_towers_right.nd rfl (by first | exact Or.inl rfl | exact Or.inr rfl) (q_op op_mulA (d_mul (m := false)) (q_var 13) (q_op op_sub d_sub (q_int) (q_var 10))))))))
  (qss_nil))
  (qss_one (qs_if (qt_not (qt_val (q_call (ok_law_same T) (hr.mono (by decide)) (by rfl) T.m_law_same T.F_law_same.kp T.b_law_same (qa_cons (q_callK0 (ok_moebius T) (hr.mono (by decide)) (by rfl) T.m_moebius T.F_moebius.kp (kb_moebius_y_x_order T) (qk_cons (q_ix (q_var 4) (q_var 12)) (qk_cons (q_ix (q_var 4) (q_var 11)) (qk_cons (q_var 5) (qk_nil))))) (qa_cons (q_var 13) (qa_nil))))))
  (qss_one (qs_ret (q_bl)))
  (qss_nil))))))))
  (qss_one (qs_ret (q_call (ok_law_bounds_right T) (hr.mono (by decide)) (by rfl) T.m_law_bounds_right T.F_law_bounds_right.kp T.b_law_bounds_right (qa_cons (q_var 0) (qa_cons (q_var 3) (qa_cons (q_var 6) (qa_nil)))))))))))))), rd_law_towers_right⟩
theorem ok_law (T : Tx K mg) : FnOk P w_ K mg base CX0 6 T.f_law T.d_law ["script"] (liftSp K sp_law) := by
  refine fn_ok T.F_law sc_law len_law fun cdv A outer s H E hr => ?_
  have hu := hu_of hr
  exact ⟨W_law, qss_cons (qs_set (i := 1) sc_law.nd rfl (by first | exact Or.inl rfl | exact Or.inr rfl) (q_call (ok_law_tape T) (hr.mono (by decide)) (by rfl) T.m_law_tape T.F_law_tape.kp T.b_law_tape (qa_cons (q_var 0) (qa_nil))))
  (qss_cons (qs_if (qt_not (qt_val (q_call (ok_law_small_right T) (hr.mono (by decide)) (by rfl) T.m_law_small_right T.F_law_small_right.kp T.b_law_small_right (qa_cons (q_var 1) (qa_cons (q_call (ok_law_drawn T) (hr.mono (by decide)) (by rfl) T.m_law_drawn T.F_law_drawn.kp T.b_law_drawn (qa_cons (q_var 1) (qa_cons (q_int) (qa_nil)))) (qa_nil))))))
  (qss_one (qs_ret (q_bl)))
  (qss_nil))
  (qss_cons (qs_if (qt_not (qt_val (q_call (ok_law_towers_right T) (hr.mono (by decide)) (by rfl) T.m_law_towers_right T.F_law_towers_right.kp T.b_law_towers_right (qa_cons (q_var 1) (qa_cons (q_call (ok_law_towers T) (hr.mono (by decide)) (by rfl) T.m_law_towers T.F_law_towers.kp T.b_law_towers (qa_cons (q_var 1) (qa_cons (q_int) (qa_cons (q_int) (qa_nil))))) (qa_nil))))))
  (qss_one (qs_ret (q_bl)))
  (qss_nil))
  (qss_one (qs_ret (q_call (ok_law_small_right T) (hr.mono (by decide)) (by rfl) T.m_law_small_right T.F_law_small_right.kp T.b_law_small_right (qa_cons (q_var 1) (qa_cons (q_call (ok_law_drawn T) (hr.mono (by decide)) (by rfl) T.m_law_drawn T.F_law_drawn.kp T.b_law_drawn (qa_cons (q_var 1) (qa_cons (q_int) (qa_nil)))) (qa_nil)))))))), rd_law⟩
theorem all_mk {l : PySem.W.OpenLaw} {w : World} {h : Heap} {fa : Addr} (X : K.In h) (G : h.Ns mainGlobals mg) (hfa : mg "law" = some (.ref fa))
    {f_places_of : Addr} {od_places_of an_places_of : Option Addr} {sl_places_of : Array (Option Value)} {oc_places_of kV_places_of dc_places_of pm_places_of cd_places_of ct_places_of : Value}
    (a_places_of : PySem.W.nsIn K mainGlobals "places_of" = some (some (.ref f_places_of))) (l_places_of : K.lookup f_places_of = some ⟨oc_places_of, od_places_of, .func (PySem.W.fnOf "places_of" "places_of" (defArgs s_places_of) (defBody s_places_of) (defScope s_places_of) .none kV_places_of dc_places_of pm_places_of an_places_of cd_places_of ct_places_of), sl_places_of⟩) (c_places_of : PySem.W.codeIn K cd_places_of "places_of" = true) (k_places_of : PySem.W.keepIn K (.ref f_places_of) = true)
    {f_bound_masks : Addr} {od_bound_masks an_bound_masks : Option Addr} {sl_bound_masks : Array (Option Value)} {oc_bound_masks kV_bound_masks dc_bound_masks pm_bound_masks cd_bound_masks ct_bound_masks : Value}
    (a_bound_masks : PySem.W.nsIn K mainGlobals "bound_masks" = some (some (.ref f_bound_masks))) (l_bound_masks : K.lookup f_bound_masks = some ⟨oc_bound_masks, od_bound_masks, .func (PySem.W.fnOf "bound_masks" "bound_masks" (defArgs s_bound_masks) (defBody s_bound_masks) (defScope s_bound_masks) .none kV_bound_masks dc_bound_masks pm_bound_masks an_bound_masks cd_bound_masks ct_bound_masks), sl_bound_masks⟩) (c_bound_masks : PySem.W.codeIn K cd_bound_masks "bound_masks" = true) (k_bound_masks : PySem.W.keepIn K (.ref f_bound_masks) = true)
    {f_chain_counts : Addr} {od_chain_counts an_chain_counts : Option Addr} {sl_chain_counts : Array (Option Value)} {oc_chain_counts kV_chain_counts dc_chain_counts pm_chain_counts cd_chain_counts ct_chain_counts : Value}
    (a_chain_counts : PySem.W.nsIn K mainGlobals "chain_counts" = some (some (.ref f_chain_counts))) (l_chain_counts : K.lookup f_chain_counts = some ⟨oc_chain_counts, od_chain_counts, .func (PySem.W.fnOf "chain_counts" "chain_counts" (defArgs s_chain_counts) (defBody s_chain_counts) (defScope s_chain_counts) .none kV_chain_counts dc_chain_counts pm_chain_counts an_chain_counts cd_chain_counts ct_chain_counts), sl_chain_counts⟩) (c_chain_counts : PySem.W.codeIn K cd_chain_counts "chain_counts" = true) (k_chain_counts : PySem.W.keepIn K (.ref f_chain_counts) = true)
    {f_euler : Addr} {od_euler an_euler : Option Addr} {sl_euler : Array (Option Value)} {oc_euler kV_euler dc_euler pm_euler cd_euler ct_euler : Value}
    (a_euler : PySem.W.nsIn K mainGlobals "euler" = some (some (.ref f_euler))) (l_euler : K.lookup f_euler = some ⟨oc_euler, od_euler, .func (PySem.W.fnOf "euler" "euler" (defArgs s_euler) (defBody s_euler) (defScope s_euler) .none kV_euler dc_euler pm_euler an_euler cd_euler ct_euler), sl_euler⟩) (c_euler : PySem.W.codeIn K cd_euler "euler" = true) (k_euler : PySem.W.keepIn K (.ref f_euler) = true)
    {f_moebius : Addr} {od_moebius an_moebius : Option Addr} {sl_moebius : Array (Option Value)} {oc_moebius kV_moebius dc_moebius pm_moebius cd_moebius ct_moebius : Value}
    (a_moebius : PySem.W.nsIn K mainGlobals "moebius" = some (some (.ref f_moebius))) (l_moebius : K.lookup f_moebius = some ⟨oc_moebius, od_moebius, .func (PySem.W.fnOf "moebius" "moebius" (defArgs s_moebius) (defBody s_moebius) (defScope s_moebius) .none kV_moebius dc_moebius pm_moebius an_moebius cd_moebius ct_moebius), sl_moebius⟩) (c_moebius : PySem.W.codeIn K cd_moebius "moebius" = true) (k_moebius : PySem.W.keepIn K (.ref f_moebius) = true)
    {f_law_tape : Addr} {od_law_tape an_law_tape : Option Addr} {sl_law_tape : Array (Option Value)} {oc_law_tape kV_law_tape dc_law_tape pm_law_tape cd_law_tape ct_law_tape : Value}
    (a_law_tape : PySem.W.nsIn K mainGlobals "_law_tape" = some (some (.ref f_law_tape))) (l_law_tape : K.lookup f_law_tape = some ⟨oc_law_tape, od_law_tape, .func (PySem.W.fnOf "_law_tape" "_law_tape" (defArgs s_law_tape) (defBody s_law_tape) (defScope s_law_tape) .none kV_law_tape dc_law_tape pm_law_tape an_law_tape cd_law_tape ct_law_tape), sl_law_tape⟩) (c_law_tape : PySem.W.codeIn K cd_law_tape "_law_tape" = true) (k_law_tape : PySem.W.keepIn K (.ref f_law_tape) = true)
    {f_law_load : Addr} {od_law_load an_law_load : Option Addr} {sl_law_load : Array (Option Value)} {oc_law_load kV_law_load dc_law_load pm_law_load cd_law_load ct_law_load : Value}
    (a_law_load : PySem.W.nsIn K mainGlobals "_law_load" = some (some (.ref f_law_load))) (l_law_load : K.lookup f_law_load = some ⟨oc_law_load, od_law_load, .func (PySem.W.fnOf "_law_load" "_law_load" (defArgs s_law_load) (defBody s_law_load) (defScope s_law_load) .none kV_law_load dc_law_load pm_law_load an_law_load cd_law_load ct_law_load), sl_law_load⟩) (c_law_load : PySem.W.codeIn K cd_law_load "_law_load" = true) (k_law_load : PySem.W.keepIn K (.ref f_law_load) = true)
    {f_law_draw : Addr} {od_law_draw an_law_draw : Option Addr} {sl_law_draw : Array (Option Value)} {oc_law_draw kV_law_draw dc_law_draw pm_law_draw cd_law_draw ct_law_draw : Value}
    (a_law_draw : PySem.W.nsIn K mainGlobals "_law_draw" = some (some (.ref f_law_draw))) (l_law_draw : K.lookup f_law_draw = some ⟨oc_law_draw, od_law_draw, .func (PySem.W.fnOf "_law_draw" "_law_draw" (defArgs s_law_draw) (defBody s_law_draw) (defScope s_law_draw) .none kV_law_draw dc_law_draw pm_law_draw an_law_draw cd_law_draw ct_law_draw), sl_law_draw⟩) (c_law_draw : PySem.W.codeIn K cd_law_draw "_law_draw" = true) (k_law_draw : PySem.W.keepIn K (.ref f_law_draw) = true)
    {f_law_same : Addr} {od_law_same an_law_same : Option Addr} {sl_law_same : Array (Option Value)} {oc_law_same kV_law_same dc_law_same pm_law_same cd_law_same ct_law_same : Value}
    (a_law_same : PySem.W.nsIn K mainGlobals "_law_same" = some (some (.ref f_law_same))) (l_law_same : K.lookup f_law_same = some ⟨oc_law_same, od_law_same, .func (PySem.W.fnOf "_law_same" "_law_same" (defArgs s_law_same) (defBody s_law_same) (defScope s_law_same) .none kV_law_same dc_law_same pm_law_same an_law_same cd_law_same ct_law_same), sl_law_same⟩) (c_law_same : PySem.W.codeIn K cd_law_same "_law_same" = true) (k_law_same : PySem.W.keepIn K (.ref f_law_same) = true)
    {f_law_shuffled : Addr} {od_law_shuffled an_law_shuffled : Option Addr} {sl_law_shuffled : Array (Option Value)} {oc_law_shuffled kV_law_shuffled dc_law_shuffled pm_law_shuffled cd_law_shuffled ct_law_shuffled : Value}
    (a_law_shuffled : PySem.W.nsIn K mainGlobals "_law_shuffled" = some (some (.ref f_law_shuffled))) (l_law_shuffled : K.lookup f_law_shuffled = some ⟨oc_law_shuffled, od_law_shuffled, .func (PySem.W.fnOf "_law_shuffled" "_law_shuffled" (defArgs s_law_shuffled) (defBody s_law_shuffled) (defScope s_law_shuffled) .none kV_law_shuffled dc_law_shuffled pm_law_shuffled an_law_shuffled cd_law_shuffled ct_law_shuffled), sl_law_shuffled⟩) (c_law_shuffled : PySem.W.codeIn K cd_law_shuffled "_law_shuffled" = true) (k_law_shuffled : PySem.W.keepIn K (.ref f_law_shuffled) = true)
    {f_law_closed : Addr} {od_law_closed an_law_closed : Option Addr} {sl_law_closed : Array (Option Value)} {oc_law_closed kV_law_closed dc_law_closed pm_law_closed cd_law_closed ct_law_closed : Value}
    (a_law_closed : PySem.W.nsIn K mainGlobals "_law_closed" = some (some (.ref f_law_closed))) (l_law_closed : K.lookup f_law_closed = some ⟨oc_law_closed, od_law_closed, .func (PySem.W.fnOf "_law_closed" "_law_closed" (defArgs s_law_closed) (defBody s_law_closed) (defScope s_law_closed) .none kV_law_closed dc_law_closed pm_law_closed an_law_closed cd_law_closed ct_law_closed), sl_law_closed⟩) (c_law_closed : PySem.W.codeIn K cd_law_closed "_law_closed" = true) (k_law_closed : PySem.W.keepIn K (.ref f_law_closed) = true)
    {f_law_drawn : Addr} {od_law_drawn an_law_drawn : Option Addr} {sl_law_drawn : Array (Option Value)} {oc_law_drawn kV_law_drawn dc_law_drawn pm_law_drawn cd_law_drawn ct_law_drawn : Value}
    (a_law_drawn : PySem.W.nsIn K mainGlobals "_law_drawn" = some (some (.ref f_law_drawn))) (l_law_drawn : K.lookup f_law_drawn = some ⟨oc_law_drawn, od_law_drawn, .func (PySem.W.fnOf "_law_drawn" "_law_drawn" (defArgs s_law_drawn) (defBody s_law_drawn) (defScope s_law_drawn) .none kV_law_drawn dc_law_drawn pm_law_drawn an_law_drawn cd_law_drawn ct_law_drawn), sl_law_drawn⟩) (c_law_drawn : PySem.W.codeIn K cd_law_drawn "_law_drawn" = true) (k_law_drawn : PySem.W.keepIn K (.ref f_law_drawn) = true)
    {f_law_told : Addr} {od_law_told an_law_told : Option Addr} {sl_law_told : Array (Option Value)} {oc_law_told kV_law_told dc_law_told pm_law_told cd_law_told ct_law_told : Value}
    (a_law_told : PySem.W.nsIn K mainGlobals "_law_told" = some (some (.ref f_law_told))) (l_law_told : K.lookup f_law_told = some ⟨oc_law_told, od_law_told, .func (PySem.W.fnOf "_law_told" "_law_told" (defArgs s_law_told) (defBody s_law_told) (defScope s_law_told) .none kV_law_told dc_law_told pm_law_told an_law_told cd_law_told ct_law_told), sl_law_told⟩) (c_law_told : PySem.W.codeIn K cd_law_told "_law_told" = true) (k_law_told : PySem.W.keepIn K (.ref f_law_told) = true)
    {f_law_chain_list : Addr} {od_law_chain_list an_law_chain_list : Option Addr} {sl_law_chain_list : Array (Option Value)} {oc_law_chain_list kV_law_chain_list dc_law_chain_list pm_law_chain_list cd_law_chain_list ct_law_chain_list : Value}
    (a_law_chain_list : PySem.W.nsIn K mainGlobals "_law_chain_list" = some (some (.ref f_law_chain_list))) (l_law_chain_list : K.lookup f_law_chain_list = some ⟨oc_law_chain_list, od_law_chain_list, .func (PySem.W.fnOf "_law_chain_list" "_law_chain_list" (defArgs s_law_chain_list) (defBody s_law_chain_list) (defScope s_law_chain_list) .none kV_law_chain_list dc_law_chain_list pm_law_chain_list an_law_chain_list cd_law_chain_list ct_law_chain_list), sl_law_chain_list⟩) (c_law_chain_list : PySem.W.codeIn K cd_law_chain_list "_law_chain_list" = true) (k_law_chain_list : PySem.W.keepIn K (.ref f_law_chain_list) = true)
    {f_law_towers : Addr} {od_law_towers an_law_towers : Option Addr} {sl_law_towers : Array (Option Value)} {oc_law_towers kV_law_towers dc_law_towers pm_law_towers cd_law_towers ct_law_towers : Value}
    (a_law_towers : PySem.W.nsIn K mainGlobals "_law_towers" = some (some (.ref f_law_towers))) (l_law_towers : K.lookup f_law_towers = some ⟨oc_law_towers, od_law_towers, .func (PySem.W.fnOf "_law_towers" "_law_towers" (defArgs s_law_towers) (defBody s_law_towers) (defScope s_law_towers) .none kV_law_towers dc_law_towers pm_law_towers an_law_towers cd_law_towers ct_law_towers), sl_law_towers⟩) (c_law_towers : PySem.W.codeIn K cd_law_towers "_law_towers" = true) (k_law_towers : PySem.W.keepIn K (.ref f_law_towers) = true)
    {f_law_spots : Addr} {od_law_spots an_law_spots : Option Addr} {sl_law_spots : Array (Option Value)} {oc_law_spots kV_law_spots dc_law_spots pm_law_spots cd_law_spots ct_law_spots : Value}
    (a_law_spots : PySem.W.nsIn K mainGlobals "_law_spots" = some (some (.ref f_law_spots))) (l_law_spots : K.lookup f_law_spots = some ⟨oc_law_spots, od_law_spots, .func (PySem.W.fnOf "_law_spots" "_law_spots" (defArgs s_law_spots) (defBody s_law_spots) (defScope s_law_spots) .none kV_law_spots dc_law_spots pm_law_spots an_law_spots cd_law_spots ct_law_spots), sl_law_spots⟩) (c_law_spots : PySem.W.codeIn K cd_law_spots "_law_spots" = true) (k_law_spots : PySem.W.keepIn K (.ref f_law_spots) = true)
    {f_law_tower_table : Addr} {od_law_tower_table an_law_tower_table : Option Addr} {sl_law_tower_table : Array (Option Value)} {oc_law_tower_table kV_law_tower_table dc_law_tower_table pm_law_tower_table cd_law_tower_table ct_law_tower_table : Value}
    (a_law_tower_table : PySem.W.nsIn K mainGlobals "_law_tower_table" = some (some (.ref f_law_tower_table))) (l_law_tower_table : K.lookup f_law_tower_table = some ⟨oc_law_tower_table, od_law_tower_table, .func (PySem.W.fnOf "_law_tower_table" "_law_tower_table" (defArgs s_law_tower_table) (defBody s_law_tower_table) (defScope s_law_tower_table) .none kV_law_tower_table dc_law_tower_table pm_law_tower_table an_law_tower_table cd_law_tower_table ct_law_tower_table), sl_law_tower_table⟩) (c_law_tower_table : PySem.W.codeIn K cd_law_tower_table "_law_tower_table" = true) (k_law_tower_table : PySem.W.keepIn K (.ref f_law_tower_table) = true)
    {f_law_signed : Addr} {od_law_signed an_law_signed : Option Addr} {sl_law_signed : Array (Option Value)} {oc_law_signed kV_law_signed dc_law_signed pm_law_signed cd_law_signed ct_law_signed : Value}
    (a_law_signed : PySem.W.nsIn K mainGlobals "_law_signed" = some (some (.ref f_law_signed))) (l_law_signed : K.lookup f_law_signed = some ⟨oc_law_signed, od_law_signed, .func (PySem.W.fnOf "_law_signed" "_law_signed" (defArgs s_law_signed) (defBody s_law_signed) (defScope s_law_signed) .none kV_law_signed dc_law_signed pm_law_signed an_law_signed cd_law_signed ct_law_signed), sl_law_signed⟩) (c_law_signed : PySem.W.codeIn K cd_law_signed "_law_signed" = true) (k_law_signed : PySem.W.keepIn K (.ref f_law_signed) = true)
    {f_law_bounded : Addr} {od_law_bounded an_law_bounded : Option Addr} {sl_law_bounded : Array (Option Value)} {oc_law_bounded kV_law_bounded dc_law_bounded pm_law_bounded cd_law_bounded ct_law_bounded : Value}
    (a_law_bounded : PySem.W.nsIn K mainGlobals "_law_bounded" = some (some (.ref f_law_bounded))) (l_law_bounded : K.lookup f_law_bounded = some ⟨oc_law_bounded, od_law_bounded, .func (PySem.W.fnOf "_law_bounded" "_law_bounded" (defArgs s_law_bounded) (defBody s_law_bounded) (defScope s_law_bounded) .none kV_law_bounded dc_law_bounded pm_law_bounded an_law_bounded cd_law_bounded ct_law_bounded), sl_law_bounded⟩) (c_law_bounded : PySem.W.codeIn K cd_law_bounded "_law_bounded" = true) (k_law_bounded : PySem.W.keepIn K (.ref f_law_bounded) = true)
    {f_law_bounds_right : Addr} {od_law_bounds_right an_law_bounds_right : Option Addr} {sl_law_bounds_right : Array (Option Value)} {oc_law_bounds_right kV_law_bounds_right dc_law_bounds_right pm_law_bounds_right cd_law_bounds_right ct_law_bounds_right : Value}
    (a_law_bounds_right : PySem.W.nsIn K mainGlobals "_law_bounds_right" = some (some (.ref f_law_bounds_right))) (l_law_bounds_right : K.lookup f_law_bounds_right = some ⟨oc_law_bounds_right, od_law_bounds_right, .func (PySem.W.fnOf "_law_bounds_right" "_law_bounds_right" (defArgs s_law_bounds_right) (defBody s_law_bounds_right) (defScope s_law_bounds_right) .none kV_law_bounds_right dc_law_bounds_right pm_law_bounds_right an_law_bounds_right cd_law_bounds_right ct_law_bounds_right), sl_law_bounds_right⟩) (c_law_bounds_right : PySem.W.codeIn K cd_law_bounds_right "_law_bounds_right" = true) (k_law_bounds_right : PySem.W.keepIn K (.ref f_law_bounds_right) = true)
    {f_law_small_right : Addr} {od_law_small_right an_law_small_right : Option Addr} {sl_law_small_right : Array (Option Value)} {oc_law_small_right kV_law_small_right dc_law_small_right pm_law_small_right cd_law_small_right ct_law_small_right : Value}
    (a_law_small_right : PySem.W.nsIn K mainGlobals "_law_small_right" = some (some (.ref f_law_small_right))) (l_law_small_right : K.lookup f_law_small_right = some ⟨oc_law_small_right, od_law_small_right, .func (PySem.W.fnOf "_law_small_right" "_law_small_right" (defArgs s_law_small_right) (defBody s_law_small_right) (defScope s_law_small_right) .none kV_law_small_right dc_law_small_right pm_law_small_right an_law_small_right cd_law_small_right ct_law_small_right), sl_law_small_right⟩) (c_law_small_right : PySem.W.codeIn K cd_law_small_right "_law_small_right" = true) (k_law_small_right : PySem.W.keepIn K (.ref f_law_small_right) = true)
    {f_law_towers_right : Addr} {od_law_towers_right an_law_towers_right : Option Addr} {sl_law_towers_right : Array (Option Value)} {oc_law_towers_right kV_law_towers_right dc_law_towers_right pm_law_towers_right cd_law_towers_right ct_law_towers_right : Value}
    (a_law_towers_right : PySem.W.nsIn K mainGlobals "_law_towers_right" = some (some (.ref f_law_towers_right))) (l_law_towers_right : K.lookup f_law_towers_right = some ⟨oc_law_towers_right, od_law_towers_right, .func (PySem.W.fnOf "_law_towers_right" "_law_towers_right" (defArgs s_law_towers_right) (defBody s_law_towers_right) (defScope s_law_towers_right) .none kV_law_towers_right dc_law_towers_right pm_law_towers_right an_law_towers_right cd_law_towers_right ct_law_towers_right), sl_law_towers_right⟩) (c_law_towers_right : PySem.W.codeIn K cd_law_towers_right "_law_towers_right" = true) (k_law_towers_right : PySem.W.keepIn K (.ref f_law_towers_right) = true)
    {f_law : Addr} {od_law an_law : Option Addr} {sl_law : Array (Option Value)} {oc_law kV_law dc_law pm_law cd_law ct_law : Value}
    (a_law : PySem.W.nsIn K mainGlobals "law" = some (some (.ref f_law))) (l_law : K.lookup f_law = some ⟨oc_law, od_law, .func (PySem.W.fnOf "law" "law" (defArgs s_law) (defBody s_law) (defScope s_law) .none kV_law dc_law pm_law an_law cd_law ct_law), sl_law⟩) (c_law : PySem.W.codeIn K cd_law "law" = true) (k_law : PySem.W.keepIn K (.ref f_law) = true)
    (z_abs : PySem.W.nsIn K mainGlobals "abs" = some none)
    (z_bool : PySem.W.nsIn K mainGlobals "bool" = some none)
    (z_int : PySem.W.nsIn K mainGlobals "int" = some none)
    (z_isinstance : PySem.W.nsIn K mainGlobals "isinstance" = some none)
    (z_len : PySem.W.nsIn K mainGlobals "len" = some none)
    (z_list : PySem.W.nsIn K mainGlobals "list" = some none)
    (z_min : PySem.W.nsIn K mainGlobals "min" = some none)
    (z_range : PySem.W.nsIn K mainGlobals "range" = some none)
    (z_sorted : PySem.W.nsIn K mainGlobals "sorted" = some none)
    (z_sum : PySem.W.nsIn K mainGlobals "sum" = some none)
    (z_tuple : PySem.W.nsIn K mainGlobals "tuple" = some none) :
    ∃ fd : FuncData, (∀ (s : Shared) (v : Value), BindsTo s fd ⟨[v], []⟩ [("script", v)]) ∧ ∀ base : Heap, K.In base → base.Ns mainGlobals mg → FnOk l.prog w K mg base CX0 6 fa fd ["script"] (liftSp K sp_law) := by
  have e := hfa.symm.trans (PySem.W.mg_of X G a_law)
  cases e
  have F_places_of := fun_mk (st := s_places_of) l_places_of c_places_of k_places_of
  have b_places_of := F_places_of.binds (ps := ["mask"]) fun _ _ _ _ _ _ us hl => match us, hl with | [_], _ => rfl
  have F_bound_masks := fun_mk (st := s_bound_masks) l_bound_masks c_bound_masks k_bound_masks
  have b_bound_masks := F_bound_masks.binds (ps := ["order"]) fun _ _ _ _ _ _ us hl => match us, hl with | [_], _ => rfl
  have F_chain_counts := fun_mk (st := s_chain_counts) l_chain_counts c_chain_counts k_chain_counts
  have b_chain_counts := F_chain_counts.binds (ps := ["order"]) fun _ _ _ _ _ _ us hl => match us, hl with | [_], _ => rfl
  have F_euler := fun_mk (st := s_euler) l_euler c_euler k_euler
  have b_euler := F_euler.binds (ps := ["order"]) fun _ _ _ _ _ _ us hl => match us, hl with | [_], _ => rfl
  have F_moebius := fun_mk (st := s_moebius) l_moebius c_moebius k_moebius
  have b_moebius := F_moebius.binds (ps := ["order", "x", "y"]) fun _ _ _ _ _ _ us hl => match us, hl with | [_, _, _], _ => rfl
  have F_law_tape := fun_mk (st := s_law_tape) l_law_tape c_law_tape k_law_tape
  have b_law_tape := F_law_tape.binds (ps := ["script"]) fun _ _ _ _ _ _ us hl => match us, hl with | [_], _ => rfl
  have F_law_load := fun_mk (st := s_law_load) l_law_load c_law_load k_law_load
  have b_law_load := F_law_load.binds (ps := ["tape"]) fun _ _ _ _ _ _ us hl => match us, hl with | [_], _ => rfl
  have F_law_draw := fun_mk (st := s_law_draw) l_law_draw c_law_draw k_law_draw
  have b_law_draw := F_law_draw.binds (ps := ["tape", "many"]) fun _ _ _ _ _ _ us hl => match us, hl with | [_, _], _ => rfl
  have F_law_same := fun_mk (st := s_law_same) l_law_same c_law_same k_law_same
  have b_law_same := F_law_same.binds (ps := ["actual", "due"]) fun _ _ _ _ _ _ us hl => match us, hl with | [_, _], _ => rfl
  have F_law_shuffled := fun_mk (st := s_law_shuffled) l_law_shuffled c_law_shuffled k_law_shuffled
  have b_law_shuffled := F_law_shuffled.binds (ps := ["tape", "many"]) fun _ _ _ _ _ _ us hl => match us, hl with | [_, _], _ => rfl
  have F_law_closed := fun_mk (st := s_law_closed) l_law_closed c_law_closed k_law_closed
  have b_law_closed := F_law_closed.binds (ps := ["many", "links"]) fun _ _ _ _ _ _ us hl => match us, hl with | [_, _], _ => rfl
  have F_law_drawn := fun_mk (st := s_law_drawn) l_law_drawn c_law_drawn k_law_drawn
  have b_law_drawn := F_law_drawn.binds (ps := ["tape", "most"]) fun _ _ _ _ _ _ us hl => match us, hl with | [_, _], _ => rfl
  have F_law_told := fun_mk (st := s_law_told) l_law_told c_law_told k_law_told
  have b_law_told := F_law_told.binds (ps := ["up", "names"]) fun _ _ _ _ _ _ us hl => match us, hl with | [_, _], _ => rfl
  have F_law_chain_list := fun_mk (st := s_law_chain_list) l_law_chain_list c_law_chain_list k_law_chain_list
  have b_law_chain_list := F_law_chain_list.binds (ps := ["up"]) fun _ _ _ _ _ _ us hl => match us, hl with | [_], _ => rfl
  have F_law_towers := fun_mk (st := s_law_towers) l_law_towers c_law_towers k_law_towers
  have b_law_towers := F_law_towers.binds (ps := ["tape", "most", "cap"]) fun _ _ _ _ _ _ us hl => match us, hl with | [_, _, _], _ => rfl
  have F_law_spots := fun_mk (st := s_law_spots) l_law_spots c_law_spots k_law_spots
  have b_law_spots := F_law_spots.binds (ps := ["towers"]) fun _ _ _ _ _ _ us hl => match us, hl with | [_], _ => rfl
  have F_law_tower_table := fun_mk (st := s_law_tower_table) l_law_tower_table c_law_tower_table k_law_tower_table
  have b_law_tower_table := F_law_tower_table.binds (ps := ["spots"]) fun _ _ _ _ _ _ us hl => match us, hl with | [_], _ => rfl
  have F_law_signed := fun_mk (st := s_law_signed) l_law_signed c_law_signed k_law_signed
  have b_law_signed := F_law_signed.binds (ps := ["up"]) fun _ _ _ _ _ _ us hl => match us, hl with | [_], _ => rfl
  have F_law_bounded := fun_mk (st := s_law_bounded) l_law_bounded c_law_bounded k_law_bounded
  have b_law_bounded := F_law_bounded.binds (ps := ["up"]) fun _ _ _ _ _ _ us hl => match us, hl with | [_], _ => rfl
  have F_law_bounds_right := fun_mk (st := s_law_bounds_right) l_law_bounds_right c_law_bounds_right k_law_bounds_right
  have b_law_bounds_right := F_law_bounds_right.binds (ps := ["tape", "up", "total"]) fun _ _ _ _ _ _ us hl => match us, hl with | [_, _, _], _ => rfl
  have F_law_small_right := fun_mk (st := s_law_small_right) l_law_small_right c_law_small_right k_law_small_right
  have b_law_small_right := F_law_small_right.binds (ps := ["tape", "up"]) fun _ _ _ _ _ _ us hl => match us, hl with | [_, _], _ => rfl
  have F_law_towers_right := fun_mk (st := s_law_towers_right) l_law_towers_right c_law_towers_right k_law_towers_right
  have b_law_towers_right := F_law_towers_right.binds (ps := ["tape", "towers"]) fun _ _ _ _ _ _ us hl => match us, hl with | [_, _], _ => rfl
  have F_law := fun_mk (st := s_law) l_law c_law k_law
  have b_law := F_law.binds (ps := ["script"]) fun _ _ _ _ _ _ us hl => match us, hl with | [_], _ => rfl
  let T : Tx K mg := {
    f_places_of := f_places_of,
    d_places_of := _,
    F_places_of := F_places_of,
    m_places_of := PySem.W.mg_of X G a_places_of,
    b_places_of := b_places_of,
    f_bound_masks := f_bound_masks,
    d_bound_masks := _,
    F_bound_masks := F_bound_masks,
    m_bound_masks := PySem.W.mg_of X G a_bound_masks,
    b_bound_masks := b_bound_masks,
    f_chain_counts := f_chain_counts,
    d_chain_counts := _,
    F_chain_counts := F_chain_counts,
    m_chain_counts := PySem.W.mg_of X G a_chain_counts,
    b_chain_counts := b_chain_counts,
    f_euler := f_euler,
    d_euler := _,
    F_euler := F_euler,
    m_euler := PySem.W.mg_of X G a_euler,
    b_euler := b_euler,
    f_moebius := f_moebius,
    d_moebius := _,
    F_moebius := F_moebius,
    m_moebius := PySem.W.mg_of X G a_moebius,
    b_moebius := b_moebius,
    f_law_tape := f_law_tape,
    d_law_tape := _,
    F_law_tape := F_law_tape,
    m_law_tape := PySem.W.mg_of X G a_law_tape,
    b_law_tape := b_law_tape,
    f_law_load := f_law_load,
    d_law_load := _,
    F_law_load := F_law_load,
    m_law_load := PySem.W.mg_of X G a_law_load,
    b_law_load := b_law_load,
    f_law_draw := f_law_draw,
    d_law_draw := _,
    F_law_draw := F_law_draw,
    m_law_draw := PySem.W.mg_of X G a_law_draw,
    b_law_draw := b_law_draw,
    f_law_same := f_law_same,
    d_law_same := _,
    F_law_same := F_law_same,
    m_law_same := PySem.W.mg_of X G a_law_same,
    b_law_same := b_law_same,
    f_law_shuffled := f_law_shuffled,
    d_law_shuffled := _,
    F_law_shuffled := F_law_shuffled,
    m_law_shuffled := PySem.W.mg_of X G a_law_shuffled,
    b_law_shuffled := b_law_shuffled,
    f_law_closed := f_law_closed,
    d_law_closed := _,
    F_law_closed := F_law_closed,
    m_law_closed := PySem.W.mg_of X G a_law_closed,
    b_law_closed := b_law_closed,
    f_law_drawn := f_law_drawn,
    d_law_drawn := _,
    F_law_drawn := F_law_drawn,
    m_law_drawn := PySem.W.mg_of X G a_law_drawn,
    b_law_drawn := b_law_drawn,
    f_law_told := f_law_told,
    d_law_told := _,
    F_law_told := F_law_told,
    m_law_told := PySem.W.mg_of X G a_law_told,
    b_law_told := b_law_told,
    f_law_chain_list := f_law_chain_list,
    d_law_chain_list := _,
    F_law_chain_list := F_law_chain_list,
    m_law_chain_list := PySem.W.mg_of X G a_law_chain_list,
    b_law_chain_list := b_law_chain_list,
    f_law_towers := f_law_towers,
    d_law_towers := _,
    F_law_towers := F_law_towers,
    m_law_towers := PySem.W.mg_of X G a_law_towers,
    b_law_towers := b_law_towers,
    f_law_spots := f_law_spots,
    d_law_spots := _,
    F_law_spots := F_law_spots,
    m_law_spots := PySem.W.mg_of X G a_law_spots,
    b_law_spots := b_law_spots,
    f_law_tower_table := f_law_tower_table,
    d_law_tower_table := _,
    F_law_tower_table := F_law_tower_table,
    m_law_tower_table := PySem.W.mg_of X G a_law_tower_table,
    b_law_tower_table := b_law_tower_table,
    f_law_signed := f_law_signed,
    d_law_signed := _,
    F_law_signed := F_law_signed,
    m_law_signed := PySem.W.mg_of X G a_law_signed,
    b_law_signed := b_law_signed,
    f_law_bounded := f_law_bounded,
    d_law_bounded := _,
    F_law_bounded := F_law_bounded,
    m_law_bounded := PySem.W.mg_of X G a_law_bounded,
    b_law_bounded := b_law_bounded,
    f_law_bounds_right := f_law_bounds_right,
    d_law_bounds_right := _,
    F_law_bounds_right := F_law_bounds_right,
    m_law_bounds_right := PySem.W.mg_of X G a_law_bounds_right,
    b_law_bounds_right := b_law_bounds_right,
    f_law_small_right := f_law_small_right,
    d_law_small_right := _,
    F_law_small_right := F_law_small_right,
    m_law_small_right := PySem.W.mg_of X G a_law_small_right,
    b_law_small_right := b_law_small_right,
    f_law_towers_right := f_law_towers_right,
    d_law_towers_right := _,
    F_law_towers_right := F_law_towers_right,
    m_law_towers_right := PySem.W.mg_of X G a_law_towers_right,
    b_law_towers_right := b_law_towers_right,
    f_law := fa,
    d_law := _,
    F_law := F_law,
    m_law := PySem.W.mg_of X G a_law,
    b_law := b_law,
    n_abs := PySem.W.mg_none_of X G z_abs,
    n_bool := PySem.W.mg_none_of X G z_bool,
    n_int := PySem.W.mg_none_of X G z_int,
    n_isinstance := PySem.W.mg_none_of X G z_isinstance,
    n_len := PySem.W.mg_none_of X G z_len,
    n_list := PySem.W.mg_none_of X G z_list,
    n_min := PySem.W.mg_none_of X G z_min,
    n_range := PySem.W.mg_none_of X G z_range,
    n_sorted := PySem.W.mg_none_of X G z_sorted,
    n_sum := PySem.W.mg_none_of X G z_sum,
    n_tuple := PySem.W.mg_none_of X G z_tuple }
  exact ⟨_, fun s v => .of_eq rfl, fun base _ _ => ok_law T⟩
end
end Endk55
open PySem PySem.W PyProof.Rows
set_option maxHeartbeats 0 in
theorem PySem.Challenge.cw_strikecore_k55_moebius_and_euler_holds : PySem.Challenge.rw_strikecore_k55_moebius_and_euler.Holds := by
  w_on; o_law; k_head; (case hw => w_witness2)
  k_fill
  refine L2.walk_of (l := PySem.Challenge.rw_strikecore_k55_moebius_and_euler) (n := 63) (k := 6) (x := "script") (CX := fun _ => L2.CX0) (sp := fun w => PL.liftSp _ PL.sp_law) rfl (by decide) rfl ⟨rfl, by decide, by decide⟩ (fun w h Y => PySem.W.kIn_of Y) ?F (fun _ H a ns hl _ hS => PL.law_start hS (PL.sp_law_ok hl)) (fun _ _ _ _ _ h => h)
  case F =>
    intro w mg fa h KX G hmg
    refine' Endk55.all_mk KX G hmg ?a_places_of ?l_places_of ?c_places_of ?k_places_of ?a_bound_masks ?l_bound_masks ?c_bound_masks ?k_bound_masks ?a_chain_counts ?l_chain_counts ?c_chain_counts ?k_chain_counts ?a_euler ?l_euler ?c_euler ?k_euler ?a_moebius ?l_moebius ?c_moebius ?k_moebius ?a_law_tape ?l_law_tape ?c_law_tape ?k_law_tape ?a_law_load ?l_law_load ?c_law_load ?k_law_load ?a_law_draw ?l_law_draw ?c_law_draw ?k_law_draw ?a_law_same ?l_law_same ?c_law_same ?k_law_same ?a_law_shuffled ?l_law_shuffled ?c_law_shuffled ?k_law_shuffled ?a_law_closed ?l_law_closed ?c_law_closed ?k_law_closed ?a_law_drawn ?l_law_drawn ?c_law_drawn ?k_law_drawn ?a_law_told ?l_law_told ?c_law_told ?k_law_told ?a_law_chain_list ?l_law_chain_list ?c_law_chain_list ?k_law_chain_list ?a_law_towers ?l_law_towers ?c_law_towers ?k_law_towers ?a_law_spots ?l_law_spots ?c_law_spots ?k_law_spots ?a_law_tower_table ?l_law_tower_table ?c_law_tower_table ?k_law_tower_table ?a_law_signed ?l_law_signed ?c_law_signed ?k_law_signed ?a_law_bounded ?l_law_bounded ?c_law_bounded ?k_law_bounded ?a_law_bounds_right ?l_law_bounds_right ?c_law_bounds_right ?k_law_bounds_right ?a_law_small_right ?l_law_small_right ?c_law_small_right ?k_law_small_right ?a_law_towers_right ?l_law_towers_right ?c_law_towers_right ?k_law_towers_right ?a_law ?l_law ?c_law ?k_law ?z_abs ?z_bool ?z_int ?z_isinstance ?z_len ?z_list ?z_min ?z_range ?z_sorted ?z_sum ?z_tuple
    (case a_places_of => k_is); (case l_places_of => k_is); (case c_places_of => k_is); (case k_places_of => k_is); (case a_bound_masks => k_is); (case l_bound_masks => k_is); (case c_bound_masks => k_is); (case k_bound_masks => k_is); (case a_chain_counts => k_is); (case l_chain_counts => k_is); (case c_chain_counts => k_is); (case k_chain_counts => k_is); (case a_euler => k_is); (case l_euler => k_is); (case c_euler => k_is); (case k_euler => k_is); (case a_moebius => k_is); (case l_moebius => k_is); (case c_moebius => k_is); (case k_moebius => k_is); (case a_law_tape => k_is); (case l_law_tape => k_is); (case c_law_tape => k_is); (case k_law_tape => k_is); (case a_law_load => k_is); (case l_law_load => k_is); (case c_law_load => k_is); (case k_law_load => k_is); (case a_law_draw => k_is); (case l_law_draw => k_is); (case c_law_draw => k_is); (case k_law_draw => k_is); (case a_law_same => k_is); (case l_law_same => k_is); (case c_law_same => k_is); (case k_law_same => k_is); (case a_law_shuffled => k_is); (case l_law_shuffled => k_is); (case c_law_shuffled => k_is); (case k_law_shuffled => k_is); (case a_law_closed => k_is); (case l_law_closed => k_is); (case c_law_closed => k_is); (case k_law_closed => k_is); (case a_law_drawn => k_is); (case l_law_drawn => k_is); (case c_law_drawn => k_is); (case k_law_drawn => k_is); (case a_law_told => k_is); (case l_law_told => k_is); (case c_law_told => k_is); (case k_law_told => k_is); (case a_law_chain_list => k_is); (case l_law_chain_list => k_is); (case c_law_chain_list => k_is); (case k_law_chain_list => k_is); (case a_law_towers => k_is); (case l_law_towers => k_is); (case c_law_towers => k_is); (case k_law_towers => k_is); (case a_law_spots => k_is); (case l_law_spots => k_is); (case c_law_spots => k_is); (case k_law_spots => k_is); (case a_law_tower_table => k_is); (case l_law_tower_table => k_is); (case c_law_tower_table => k_is); (case k_law_tower_table => k_is); (case a_law_signed => k_is); (case l_law_signed => k_is); (case c_law_signed => k_is); (case k_law_signed => k_is); (case a_law_bounded => k_is); (case l_law_bounded => k_is); (case c_law_bounded => k_is); (case k_law_bounded => k_is); (case a_law_bounds_right => k_is); (case l_law_bounds_right => k_is); (case c_law_bounds_right => k_is); (case k_law_bounds_right => k_is); (case a_law_small_right => k_is); (case l_law_small_right => k_is); (case c_law_small_right => k_is); (case k_law_small_right => k_is); (case a_law_towers_right => k_is); (case l_law_towers_right => k_is); (case c_law_towers_right => k_is); (case k_law_towers_right => k_is); (case a_law => k_is); (case l_law => k_is); (case c_law => k_is); (case k_law => k_is); (case z_abs => k_is); (case z_bool => k_is); (case z_int => k_is); (case z_isinstance => k_is); (case z_len => k_is); (case z_list => k_is); (case z_min => k_is); (case z_range => k_is); (case z_sorted => k_is); (case z_sum => k_is); (case z_tuple => k_is)
