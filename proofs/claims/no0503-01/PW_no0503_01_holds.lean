import PyProof.Rows.All
import Wide.All
import OpenK.AllK
import Wide.FinOn
import PySem.Challenge.RW_no0503_01
open PySem PySem.W PyProof.Rows
set_option Elab.async false
set_option maxRecDepth 100000
set_option compiler.extract_closed false
namespace Mine
def vw : Program := view PySem.Challenge.rw_no0503_01.prog [0,2,3,4,5,6,7,8,9,11,12,13,14,15,16,17,18,19,20,21,22,24,25,26,27,28,29,30,31,32,33,34,35,36]
local macro_rules | `(tactic| o_law) => `(tactic| refine holds_law (by decide +kernel) fun _ => ?_)
set_option hygiene false in
local macro_rules | `(tactic| o_head $H) => `(tactic| (refine holds_open (q := vw) (loose := []) (Xt := fun s => xlAt vw [] s && recOk (RowW.records PySem.Challenge.rw_no0503_01.row.toRowW) s) (XP := XL vw []) (Yf := Hook.obs $H) (Ya := Hook.val $H) (YP := Hook.says $H) (N := 4242) ?hl (Hook.of $H) (Hook.keeps $H) (fun s e => xl_of s (Bool.and_eq_true_iff.mp e).1) XL.keeps (by rfl) (by rfl) (by rfl) (fun s e => recFacts_of (Bool.and_eq_true_iff.mp e).2) (by rfl) (by decide +kernel) (by decide +kernel) ⟨rfl, rfl, rfl, rfl, rfl, by decide +kernel⟩ ?hw ?hc; (case hl => (intro w; kernel_rfl))))
set_option maxRecDepth 100000 in
set_option maxHeartbeats 8000000 in
open_top hd for PySem.Challenge.rw_no0503_01
noncomputable abbrev KK (w : World) : Frag := hd.heap_1 w.params
noncomputable abbrev MM (w : World) : Model := model PySem.Challenge.pw_no0503_01 w

/-- what the static part must tell -/
structure Stat (w : World) (h : Heap) : Prop where
  k : (KK w).In h
  g : ∃ mg, h.Ns mainGlobals mg
  b : ∃ mb, h.Ns builtinsNs mb ∧ ∀ x : Str, x ≠ "__name__" → mb x = bootBuiltins x
  lim : h.NoLimit
theorem Stat.keeps {w : World} {h h' : Heap} (S : Stat w h) (k : ∀ b o, h.get? b = some o → h'.get? b = some o) : Stat w h' :=
  ⟨S.k.keeps k, let ⟨mg, x⟩ := S.g; ⟨mg, x.keeps k⟩, let ⟨mb, x, y⟩ := S.b; ⟨mb, x.keeps k, y⟩, S.lim.keeps k⟩

/-- a dict of str keys, its size known -/
noncomputable def NsK (h : Heap) (a : Addr) (m : Str → Option Value) (k : Nat) : Prop :=
  ∃ o es ep, h.get? a = some o ∧ o.data = .dict es ep ∧ StrKeys es ∧ (∀ name, nsFind es name = m name) ∧ es.size ≤ k
theorem NsK.ns {h : Heap} {a : Addr} {m : Str → Option Value} {k : Nat} (x : NsK h a m k) : h.Ns a m := let ⟨o, es, ep, e, r1, r2, r3, _⟩ := x; ⟨o, es, ep, e, r1, r2, r3⟩
theorem NsK.of {h h' : Heap} {a : Addr} {m : Str → Option Value} {k : Nat} (x : NsK h a m k) (q : ∀ o, h.get? a = some o → h'.get? a = some o) : NsK h' a m k := let ⟨o, es, ep, e, r⟩ := x; ⟨o, es, ep, q _ e, r⟩
theorem NsK.le {h : Heap} {a : Addr} {m : Str → Option Value} {k l : Nat} (x : NsK h a m k) (q : k ≤ l) : NsK h a m l := let ⟨o, es, ep, e, r1, r2, r3, r4⟩ := x; ⟨o, es, ep, e, r1, r2, r3, Nat.le_trans r4 q⟩

inductive Cell where
  | ns (a : Addr) (m : Str → Option Value)
  | nk (a : Addr) (m : Str → Option Value) (k : Nat)
  | ls (a : Addr) (xs : List Value)
  | pr (a : Addr) (p : Obj → Prop)
noncomputable def Cell.addr : Cell → Addr
  | .ns a _ => a
  | .nk a _ _ => a
  | .ls a _ => a
  | .pr a _ => a
noncomputable def Cell.at (h : Heap) : Cell → Prop
  | .ns a m => h.Ns a m
  | .nk a m k => NsK h a m k
  | .ls a xs => h.PlainList a xs.toArray
  | .pr a p => ∃ o, h.get? a = some o ∧ p o
theorem Cell.at_get {h : Heap} {p : Cell} (x : p.at h) : ∃ o, h.get? p.addr = some o := by
  cases p with
  | ns a m => obtain ⟨o, _, _, e, _⟩ := x; exact ⟨o, e⟩
  | nk a m k => obtain ⟨o, _, _, e, _⟩ := x; exact ⟨o, e⟩
  | ls a m => obtain ⟨n, e⟩ := x; exact ⟨_, e⟩
  | pr a m => obtain ⟨o, e, _⟩ := x; exact ⟨o, e⟩
theorem Cell.at_of {h h' : Heap} {p : Cell} (x : p.at h) (k : ∀ o, h.get? p.addr = some o → h'.get? p.addr = some o) : p.at h' := by
  cases p with
  | ns a m => obtain ⟨o, es, ep, e, r⟩ := x; exact ⟨o, es, ep, k o e, r⟩
  | nk a m z => obtain ⟨o, es, ep, e, r⟩ := x; exact ⟨o, es, ep, k o e, r⟩
  | ls a m => obtain ⟨n, e⟩ := x; exact ⟨n, k _ e⟩
  | pr a m => obtain ⟨o, e, r⟩ := x; exact ⟨o, k o e, r⟩

noncomputable def shName : Str := "shared"
/-- a vector's dict: its attributes, the flag «shared» may turn -/
noncomputable def VecAt (h : Heap) (d : Addr) (m : Str → Option Value) : Prop := ∃ b : Bool, NsK h d (fun x => if x = shName then some (.bool b) else m x) 9
theorem VecAt.of {h h' : Heap} {d : Addr} {m : Str → Option Value} (x : VecAt h d m) (k : ∀ o, h.get? d = some o → h'.get? d = some o) : VecAt h' d m := by
  obtain ⟨b, o, es, ep, e, r⟩ := x; exact ⟨b, o, es, ep, k o e, r⟩

structure Ctx where
  I : Heap
  D : List (Addr × (Str → Option Value))
  g : Array GenState
  d : Drawn
  o : OsState

structure Ctx.Le (c c' : Ctx) : Prop where
  keep : ∀ b o, c.I.get? b = some o → c'.I.get? b = some o
  sub : ∀ p ∈ c.D, p ∈ c'.D
  same : c'.g = c.g ∧ c'.o = c.o
theorem Ctx.Le.refl (c : Ctx) : c.Le c := ⟨fun _ _ e => e, fun _ e => e, rfl, rfl⟩
theorem Ctx.Le.trans {a b c : Ctx} (x : a.Le b) (y : b.Le c) : a.Le c := ⟨fun p o e => y.keep p o (x.keep p o e), fun p e => y.sub p (x.sub p e), y.same.1.trans x.same.1, y.same.2.trans x.same.2⟩

structure Sat (w : World) (c : Ctx) (V : List Cell) (s : Shared) : Prop where
  st : Stat w c.I
  keep : ∀ b o, c.I.get? b = some o → s.heap.get? b = some o
  vol : ∀ p ∈ V, p.at s.heap
  vd : ∀ p ∈ c.D, VecAt s.heap p.1 p.2
  sepV : ∀ p ∈ V, c.I.get? p.addr = none
  sepD : ∀ p ∈ c.D, c.I.get? p.1 = none
  sepVD : ∀ p ∈ V, ∀ q ∈ c.D, p.addr ≠ q.1
  nod : V.Pairwise (fun p q => p.addr ≠ q.addr)
  gens : s.gens = c.g
  drawn : s.drawn = c.d
  os : s.os = c.o

section
variable {w : World} {c : Ctx} {V V' : List Cell} {s : Shared}

theorem Sat.kk (x : Sat w c V s) : (KK w).In s.heap := x.st.k.keeps x.keep

theorem Sat.lt {p : Cell} (x : Sat w c V s) (hp : p ∈ V) : p.addr < s.heap.objs.size := let ⟨_, e⟩ := Cell.at_get (x.vol p hp); Heap.lt_size e
theorem VecAt.lt {h : Heap} {d : Addr} {m : Str → Option Value} (x : VecAt h d m) : d < h.objs.size := let ⟨_, y⟩ := x; y.ns.lt

/-- the heap has grown -/
theorem Sat.ext (x : Sat w c V s) {h' : Heap} {t : Nat} (k : ∀ b o, s.heap.get? b = some o → h'.get? b = some o) : Sat w c V { s with heap := h', toks := t } where
  st := x.st
  keep := fun b o e => k b o (x.keep b o e)
  vol := fun p hp => Cell.at_of (x.vol p hp) fun o e => k _ o e
  vd := fun p hp => (x.vd p hp).of fun o e => k _ o e
  sepV := x.sepV
  sepD := x.sepD
  sepVD := x.sepVD
  nod := x.nod
  gens := x.gens
  drawn := x.drawn
  os := x.os
theorem Sat.toks (x : Sat w c V s) (t : Nat) : Sat w c V { s with toks := t } := x.ext fun _ _ e => e
theorem Sat.heap (x : Sat w c V s) {h' : Heap} (k : ∀ b o, s.heap.get? b = some o → h'.get? b = some o) : Sat w c V { s with heap := h' } := x.ext (t := s.toks) k
theorem Sat.push (x : Sat w c V s) (o : Obj) (t : Nat) : Sat w c V { s with heap := s.heap.push o, toks := t } := x.ext fun _ _ e => Heap.get?_push_of_some _ e

theorem Sat.none_new (x : Sat w c V s) : c.I.get? s.heap.objs.size = none := by
  cases q : c.I.get? s.heap.objs.size with
  | none => rfl
  | some o => exact absurd (Heap.lt_size (x.keep _ _ q)) (Nat.lt_irrefl _)

/-- a new cell at the old heap's end -/
theorem Sat.new (x : Sat w c V s) {p : Cell} {h' : Heap} {t : Nat} (k : ∀ b o, s.heap.get? b = some o → h'.get? b = some o) (ha : s.heap.objs.size ≤ p.addr) (hp : p.at h') : Sat w c (p :: V) { s with heap := h', toks := t } := by
  have y := x.ext (t := t) k
  have hne : ∀ q ∈ V, p.addr ≠ q.addr := fun q hq e => Nat.not_le_of_gt (x.lt hq) (e ▸ ha)
  refine ⟨y.st, y.keep, fun q hq => ?_, y.vd, fun q hq => ?_, y.sepD, fun q hq r hr => ?_, List.pairwise_cons.mpr ⟨hne, y.nod⟩, y.gens, y.drawn, y.os⟩
  · rcases List.mem_cons.mp hq with rfl | hq
    · exact hp
    · exact y.vol q hq
  · rcases List.mem_cons.mp hq with rfl | hq
    · cases z : c.I.get? q.addr with
      | none => rfl
      | some o => exact absurd (Heap.lt_size (x.keep _ _ z)) (Nat.not_lt.mpr ha)
    · exact y.sepV q hq
  · rcases List.mem_cons.mp hq with rfl | hq
    · exact fun e => Nat.not_le_of_gt (x.vd r hr).lt (e ▸ ha)
    · exact y.sepVD q hq r hr

theorem Sat.sub (x : Sat w c V s) (hs : V'.Sublist V) : Sat w c V' s :=
  ⟨x.st, x.keep, fun p hp => x.vol p (hs.subset hp), x.vd, fun p hp => x.sepV p (hs.subset hp), x.sepD, fun p hp => x.sepVD p (hs.subset hp), x.nod.sublist hs, x.gens, x.drawn, x.os⟩
theorem Sat.drop {p : Cell} (x : Sat w c (p :: V) s) : Sat w c V s := x.sub (List.sublist_cons_self _ _)

theorem pairwise_perm {V V' : List Cell} (h : V.Perm V') (x : V.Pairwise (fun p q => p.addr ≠ q.addr)) : V'.Pairwise (fun p q => p.addr ≠ q.addr) :=
  h.pairwise x fun e => Ne.symm e
theorem Sat.perm (x : Sat w c V s) (h : V.Perm V') : Sat w c V' s :=
  ⟨x.st, x.keep, fun p hp => x.vol p (h.mem_iff.mpr hp), x.vd, fun p hp => x.sepV p (h.mem_iff.mpr hp), x.sepD, fun p hp => x.sepVD p (h.mem_iff.mpr hp), pairwise_perm h x.nod, x.gens, x.drawn, x.os⟩
theorem Sat.swap {p q : Cell} (x : Sat w c (p :: q :: V) s) : Sat w c (q :: p :: V) s := x.perm (List.Perm.swap q p V)

/-- one cell is turned -/
theorem Sat.upd {p p' : Cell} (x : Sat w c (p :: V) s) {h' : Heap} {t : Nat} (k : ∀ b o, b ≠ p.addr → s.heap.get? b = some o → h'.get? b = some o) (ha : p'.addr = p.addr) (hp : p'.at h') : Sat w c (p' :: V) { s with heap := h', toks := t } := by
  have hne := (List.pairwise_cons.mp x.nod).1
  have hp0 : p ∈ p :: V := .head _
  refine ⟨x.st, fun b o e => k b o (fun q => ?_) (x.keep b o e), fun q hq => ?_, fun q hq => (x.vd q hq).of fun o e => k _ o (Ne.symm (x.sepVD p hp0 q hq)) e, fun q hq => ?_, x.sepD, fun q hq r hr => ?_, List.pairwise_cons.mpr ⟨fun q hq => ha ▸ hne q hq, (List.pairwise_cons.mp x.nod).2⟩, x.gens, x.drawn, x.os⟩
  · have := x.sepV p hp0; rw [← q, e] at this; cases this
  · rcases List.mem_cons.mp hq with rfl | hq
    · exact hp
    · exact Cell.at_of (x.vol q (.tail _ hq)) fun o e => k _ o (Ne.symm (hne q hq)) e
  · rcases List.mem_cons.mp hq with rfl | hq
    · rw [ha]; exact x.sepV p hp0
    · exact x.sepV q (.tail _ hq)
  · rcases List.mem_cons.mp hq with rfl | hq
    · rw [ha]; exact x.sepVD p hp0 r hr
    · exact x.sepVD q (.tail _ hq) r hr

/-- replaced in place -/
inductive Rep (p p' : Cell) : List Cell → List Cell → Prop
  | head {V : List Cell} : Rep p p' (p :: V) (p' :: V)
  | tail {q : Cell} {V V' : List Cell} : Rep p p' V V' → Rep p p' (q :: V) (q :: V')
theorem Rep.front {p p' : Cell} {V V' : List Cell} (r : Rep p p' V V') : ∃ R, V.Perm (p :: R) ∧ (p' :: R).Perm V' := by
  induction r with
  | head => exact ⟨_, .refl _, .refl _⟩
  | @tail q V V' _ ih =>
    obtain ⟨R, h1, h2⟩ := ih
    exact ⟨q :: R, (h1.cons q).trans (.swap p q R), (List.Perm.swap q p' R).trans (h2.cons q)⟩
theorem Rep.mem {p p' : Cell} {V V' : List Cell} (r : Rep p p' V V') : p ∈ V := by
  induction r with
  | head => exact .head _
  | tail _ ih => exact .tail _ ih
theorem Sat.rep {p p' : Cell} (x : Sat w c V s) (r : Rep p p' V V') {h' : Heap} {t : Nat} (k : ∀ b o, b ≠ p.addr → s.heap.get? b = some o → h'.get? b = some o) (ha : p'.addr = p.addr) (hp : p'.at h') : Sat w c V' { s with heap := h', toks := t } := by
  obtain ⟨R, h1, h2⟩ := r.front
  exact ((x.perm h1).upd k ha hp).perm h2

/-- taken out -/
inductive Out (p : Cell) : List Cell → List Cell → Prop
  | head {V : List Cell} : Out p (p :: V) V
  | tail {q : Cell} {V V' : List Cell} : Out p V V' → Out p (q :: V) (q :: V')
theorem Out.perm {p : Cell} {V V' : List Cell} (r : Out p V V') : V.Perm (p :: V') := by
  induction r with
  | head => exact .refl _
  | @tail q V V' _ ih => exact (ih.cons q).trans (.swap p q V')

noncomputable def Ctx.set (c : Ctx) (I : Heap) (D : List (Addr × (Str → Option Value))) : Ctx := ⟨I, D, c.g, c.d, c.o⟩

/-- everything but the cells and the vectors' dicts is fixed from here on -/
theorem Sat.fix (x : Sat w c V s) : ∃ I', c.Le (c.set I' c.D) ∧ Sat w (c.set I' c.D) V s ∧ ∀ b o, s.heap.get? b = some o → (∀ p ∈ V, p.addr ≠ b) → (∀ p ∈ c.D, p.1 ≠ b) → I'.get? b = some o := by
  have nin : ∀ b, (∀ p ∈ V, p.addr ≠ b) → (∀ p ∈ c.D, p.1 ≠ b) → b ∉ V.map Cell.addr ++ c.D.map (·.1) := fun b h1 h2 hm => by
    rcases List.mem_append.mp hm with hm | hm
    · obtain ⟨p, hp, e⟩ := List.mem_map.mp hm; exact h1 p hp e
    · obtain ⟨p, hp, e⟩ := List.mem_map.mp hm; exact h2 p hp e
  have g : ∀ b o, s.heap.get? b = some o → (∀ p ∈ V, p.addr ≠ b) → (∀ p ∈ c.D, p.1 ≠ b) → (hideAll s.heap (V.map Cell.addr ++ c.D.map (·.1))).get? b = some o :=
    fun b o e h1 h2 => hideAll_get _ e (nin b h1 h2)
  have kp : ∀ b o, c.I.get? b = some o → (hideAll s.heap (V.map Cell.addr ++ c.D.map (·.1))).get? b = some o := fun b o e =>
    g b o (x.keep b o e) (fun p hp q => by have := x.sepV p hp; rw [q, e] at this; cases this) fun p hp q => by have := x.sepD p hp; rw [q, e] at this; cases this
  refine ⟨hideAll s.heap (V.map Cell.addr ++ c.D.map (·.1)), ⟨kp, fun _ e => e, rfl, rfl⟩, ⟨x.st.keeps kp, fun b o e => of_hideAll _ e, x.vol, x.vd, fun p hp => hideAll_none _ ?_, fun p hp => hideAll_none _ ?_, x.sepVD, x.nod, x.gens, x.drawn, x.os⟩, g⟩
  · exact List.mem_append.mpr (.inl (List.mem_map_of_mem hp))
  · exact List.mem_append.mpr (.inr (List.mem_map_of_mem hp))

/-- a cell is frozen -/
theorem Sat.freeze {p : Cell} (x : Sat w c V s) (r : Out p V V') : ∃ c', c.Le c' ∧ Sat w c' V' s ∧ p.at c'.I := by
  have y := x.perm r.perm
  obtain ⟨I', le, z, g⟩ := y.drop.fix
  refine ⟨_, le, z, ?_⟩
  have h0 := y.vol p (.head _)
  refine Cell.at_of h0 fun o e => g _ o e (fun q hq => Ne.symm ((List.pairwise_cons.mp y.nod).1 q hq)) fun q hq => Ne.symm (y.sepVD p (.head _) q hq)

/-- a dict becomes a vector's -/
theorem Sat.freezeV {d : Addr} {m : Str → Option Value} {b : Bool} (x : Sat w c V s) (r : Out (.nk d (fun x => if x = shName then some (.bool b) else m x) 9) V V') : ∃ c', c.Le c' ∧ Sat w c' V' s ∧ (d, m) ∈ c'.D := by
  have y := x.perm r.perm
  have hd : (Cell.nk d (fun x => if x = shName then some (Value.bool b) else m x) 9) ∈ (Cell.nk d (fun x => if x = shName then some (Value.bool b) else m x) 9) :: V' := .head _
  refine ⟨c.set c.I ((d, m) :: c.D), ⟨fun _ _ e => e, fun p hp => .tail _ hp, rfl, rfl⟩, ⟨y.st, y.keep, fun p hp => y.vol p (.tail _ hp), fun p hp => ?_, fun p hp => y.sepV p (.tail _ hp), fun p hp => ?_, fun p hp q hq => ?_, (List.pairwise_cons.mp y.nod).2, y.gens, y.drawn, y.os⟩, .head _⟩
  · rcases List.mem_cons.mp hp with rfl | hp
    · exact ⟨b, y.vol _ hd⟩
    · exact y.vd p hp
  · rcases List.mem_cons.mp hp with rfl | hp
    · exact y.sepV _ hd
    · exact y.sepD p hp
  · rcases List.mem_cons.mp hq with rfl | hq
    · exact Ne.symm ((List.pairwise_cons.mp y.nod).1 p hp)
    · exact y.sepVD p (.tail _ hp) q hq
end
/-! frames -/
noncomputable def fm : List Str → List (Option Value) → Str → Option Value
  | x :: nm, v :: vs, y => if y = x then v else fm nm vs y
  | _, _, _ => none
inductive LookF : List Str → List (Option Value) → Str → Value → Prop
  | head {x : Str} {nm : List Str} {v : Value} {vs : List (Option Value)} : LookF (x :: nm) (some v :: vs) x v
  | tail {x y : Str} {nm : List Str} {v : Value} {u : Option Value} {vs : List (Option Value)} : LookF nm vs x v → LookF (y :: nm) (u :: vs) x v
inductive SetF : List Str → List (Option Value) → Str → Value → List (Option Value) → Prop
  | head {x : Str} {nm : List Str} {v : Value} {u : Option Value} {vs : List (Option Value)} : SetF (x :: nm) (u :: vs) x v (some v :: vs)
  | tail {x y : Str} {nm : List Str} {v : Value} {u : Option Value} {vs vs' : List (Option Value)} : SetF nm vs x v vs' → SetF (y :: nm) (u :: vs) x v (u :: vs')
theorem LookF.mem {x : Str} {nm : List Str} {v : Value} {vs : List (Option Value)} (h : LookF nm vs x v) : x ∈ nm := by
  induction h with
  | head => exact .head _
  | tail _ ih => exact .tail _ ih
theorem LookF.val {x : Str} {nm : List Str} {v : Value} {vs : List (Option Value)} (h : LookF nm vs x v) : some v ∈ vs := by
  induction h with
  | head => exact .head _
  | tail _ ih => exact .tail _ ih
theorem SetF.mem {x : Str} {nm : List Str} {v : Value} {vs vs' : List (Option Value)} (h : SetF nm vs x v vs') : x ∈ nm := by
  induction h with
  | head => exact .head _
  | tail _ ih => exact .tail _ ih
theorem fm_look {x : Str} {nm : List Str} {v : Value} {vs : List (Option Value)} (hn : nm.Nodup) (h : LookF nm vs x v) : fm nm vs x = some v := by
  induction h with
  | head => simp [fm]
  | @tail x y nm v u vs h ih =>
    have hne : x ≠ y := fun e => (List.nodup_cons.mp hn).1 (e ▸ h.mem)
    simp only [fm, if_neg hne]
    exact ih (List.nodup_cons.mp hn).2
theorem fm_set {x : Str} {nm : List Str} {v : Value} {vs vs' : List (Option Value)} (hn : nm.Nodup) (h : SetF nm vs x v vs') : (fun y => if y = x then some v else fm nm vs y) = fm nm vs' := by
  induction h with
  | @head x nm v u vs =>
    funext y
    by_cases e : y = x <;> simp [fm, e]
  | @tail x y nm v u vs vs' h ih =>
    have hne : x ≠ y := fun e => (List.nodup_cons.mp hn).1 (e ▸ h.mem)
    have := ih (List.nodup_cons.mp hn).2
    funext z
    have hz := congrFun this z
    by_cases e1 : z = y
    · subst e1; simp [fm, Ne.symm hne]
    · simp only [fm, if_neg e1]; exact hz
theorem fm_none : ∀ (nm : List Str) (y : Str), fm nm (nm.map fun _ => none) y = none
  | [], _ => rfl
  | x :: nm, y => by
    simp only [List.map_cons, fm]
    split
    · rfl
    · exact fm_none nm y
/-- the parameters and the other locals of a frame that has just been laid -/
theorem fm_binds {binds : List (Str × Value)} {rest nm : List Str} {vs : List (Option Value)} (h1 : nm = binds.map (·.1) ++ rest) (h2 : vs = binds.map (fun p => some p.2) ++ rest.map fun _ => none) (hn : nm.Nodup) :
    (fun y => binds.reverse.lookup y) = fm nm vs := by
  subst h1 h2
  funext y
  have main : ∀ (binds : List (Str × Value)), (binds.map (·.1)).Nodup → (∀ y, binds.reverse.lookup y = binds.lookup y) := by
    intro binds
    induction binds with
    | nil => intro _ _; rfl
    | cons p r ih =>
      intro hn y
      obtain ⟨k, v⟩ := p
      rw [List.map_cons, List.nodup_cons] at hn
      rw [List.reverse_cons, List.lookup_append, ih hn.2 y, List.lookup_cons, List.lookup_cons]
      by_cases e : y == k
      · have : y = k := by simpa using e
        subst this
        have hnone : r.lookup y = none := by
          rw [List.lookup_eq_none_iff]
          intro p hp
          have : y ≠ p.1 := fun e => hn.1 (e ▸ List.mem_map.mpr ⟨p, hp, rfl⟩)
          simpa using this
        simp [hnone]
      · simp only [e]
        cases r.lookup y <;> rfl
  rw [main binds (List.nodup_append.mp hn).1 y]
  clear main hn
  induction binds with
  | nil => simp [fm_none]
  | cons p r ih =>
    obtain ⟨k, v⟩ := p
    simp only [List.map_cons, List.cons_append, fm, List.lookup_cons]
    by_cases e : y = k
    · subst e; simp
    · have : (y == k) = false := by simpa using e
      simp only [this, if_neg e]; exact ih

/-- a global name's value -/
inductive GVal (w : World) : Str → Value → Prop
  | own {x : Str} {v : Value} : nsIn (KK w) mainGlobals x = some (some v) → GVal w x v
  | boot {x : Str} {v : Value} : nsIn (KK w) mainGlobals x = some none → bootBuiltins x = some v → x ≠ "__name__" → GVal w x v

structure FrOk (w : World) (env : Env) (nm : List Str) (gl : List (Str × Value)) : Prop where
  kind : env.scope.kind = .function
  nod : nm.Nodup
  loc : ∀ x ∈ nm, env.kindOf x = some .local ∧ (x == ("__debug__" : Str)) = false
  glb : ∀ p ∈ gl, env.kindOf p.1 = some .globalImplicit ∧ (p.1 == ("__debug__" : Str)) = false ∧ GVal w p.1 p.2
  glo : env.globals = mainGlobals
  bui : env.builtins = builtinsNs

inductive LookG : List (Str × Value) → Str → Value → Prop
  | head {x : Str} {v : Value} {l : List (Str × Value)} : LookG ((x, v) :: l) x v
  | tail {x : Str} {v : Value} {p : Str × Value} {l : List (Str × Value)} : LookG l x v → LookG (p :: l) x v
theorem LookG.mem {x : Str} {v : Value} {l : List (Str × Value)} (h : LookG l x v) : (x, v) ∈ l := by
  induction h with
  | head => exact .head _
  | tail _ ih => exact .tail _ ih

section
variable {w : World} {A : Around} {E : Value → Shared → Prop} {c : Ctx} {V : List Cell} {s : Shared} {env : Env} {nm : List Str} {gl : List (Str × Value)} {vs vs' : List (Option Value)}

theorem ldn {x : Str} {v : Value} {Q : Value → Shared → Prop} (hE : FrOk w env nm gl) (hS : Sat w c (.ns env.locals (fm nm vs) :: V) s) (hl : LookF nm vs x v) (h : Q v s) : wpAny (MM w) A (loadName env x) Q E s :=
  wpAny_loadName_local hE.kind (hE.loc x hl.mem).1 (hS.vol _ (.head _)) (fm_look hE.nod hl) h
theorem ld {x : Str} {pos : Pos} {v : Value} {Q : Value → Shared → Prop} (hE : FrOk w env nm gl) (hS : Sat w c (.ns env.locals (fm nm vs) :: V) s) (hl : LookF nm vs x v) (h : Q v s) : wpAny (MM w) A (eval (.Name x pos) env) Q E s :=
  wpAny_Name (ldn hE hS hl h) (hE.loc x hl.mem).2
theorem st {x : Str} {v : Value} {Q : Unit → Shared → Prop} (hE : FrOk w env nm gl) (hS : Sat w c (.ns env.locals (fm nm vs) :: V) s) (hl : SetF nm vs x v vs') (h : ∀ s', Sat w c (.ns env.locals (fm nm vs') :: V) s' → Q () s') : wpAny (MM w) A (storeName env x v) Q E s :=
  wpAny_storeName_local (hE.loc x hl.mem).1 (hS.vol _ (.head _)) (fun h' hn hs => h _ (hS.upd (fun b o hb e => hs.extBut b o hb e) rfl (by rw [fm_set hE.nod hl] at hn; exact hn)))
    (by rw [hE.kind]; rfl)
theorem ldg {x : Str} {pos : Pos} {v : Value} {Q : Value → Shared → Prop} (hE : FrOk w env nm gl) (hS : Sat w c V s) (hl : LookG gl x v) (h : Q v s) : wpAny (MM w) A (eval (.Name x pos) env) Q E s := by
  obtain ⟨hk, hd, hg⟩ := hE.glb _ hl.mem
  obtain ⟨mg, hmg⟩ := hS.st.g
  obtain ⟨mb, hmb, hb⟩ := hS.st.b
  have g' : s.heap.Ns env.globals mg := by rw [hE.glo]; exact hmg.keeps hS.keep
  have b' : s.heap.Ns env.builtins mb := by rw [hE.bui]; exact hmb.keeps hS.keep
  cases hg with
  | own e => exact Calls.Name_function_global hE.kind hk (Calls.loadGlobal_global g' (mg_of hS.st.k hmg e) h) hd
  | boot e1 e2 e3 => exact Calls.Name_function_global hE.kind hk (Calls.loadGlobal_builtin g' (mg_none_of hS.st.k hmg e1) b' ((hb x e3).trans e2) h) hd

theorem csts {x : Str} {k : Nat} {pos : Pos} {Q : Value → Shared → Prop} (hS : Sat w c V s) (h : ∀ t s', Sat w c V s' → Q (.str x t) s') : wpAny (MM w) A (eval (.Constant (.str x) k pos) env) Q E s :=
  wpAny_Constant_str (h _ _ (hS.toks _))
theorem csti {i : Int} {k : Nat} {pos : Pos} {Q : Value → Shared → Prop} (hS : Sat w c V s) (h : ∀ t s', Sat w c V s' → Q (.int i t) s') : wpAny (MM w) A (eval (.Constant (.int i) k pos) env) Q E s :=
  wpAny_Constant_int (h _ _ (hS.toks _))
end

/-! instances -/
structure ClsOk (w : World) (C : Addr) (nm : List Str) : Prop where
  nod : nm.Nodup
  ga : findIn (KK w) (.ref C) "__getattribute__" = some (some (.builtin "object.__getattribute__"))
  cls : ∃ cd, clsIn (KK w) C = some cd ∧ cd.hasDict = true
  attr : ∀ x ∈ nm, findIn (KK w) (.ref C) x = some none

noncomputable def Handed (vs : List (Option Value)) : Prop := ∀ v, some v ∈ vs → handedIn v = true
noncomputable def ObjI (w : World) (c : Ctx) (a C : Addr) (nm : List Str) (vs : List (Option Value)) : Prop :=
  ∃ d, c.I.get? a = some (instObj C d) ∧ c.I.Ns d (fm nm vs) ∧ ClsOk w C nm ∧ Handed vs
theorem ObjI.mono {w : World} {c c' : Ctx} {a C : Addr} {nm : List Str} {vs : List (Option Value)} (x : ObjI w c a C nm vs) (l : c.Le c') : ObjI w c' a C nm vs :=
  let ⟨d, h1, h2, h3⟩ := x; ⟨d, l.keep _ _ h1, h2.keeps l.keep, h3⟩
noncomputable def VecI (w : World) (c : Ctx) (a C : Addr) (nm : List Str) (vs : List (Option Value)) : Prop :=
  ∃ d, c.I.get? a = some (instObj C d) ∧ (d, fm nm vs) ∈ c.D ∧ ClsOk w C nm ∧ Handed vs ∧ shName ∉ nm
theorem VecI.mono {w : World} {c c' : Ctx} {a C : Addr} {nm : List Str} {vs : List (Option Value)} (x : VecI w c a C nm vs) (l : c.Le c') : VecI w c' a C nm vs :=
  let ⟨d, h1, h2, h3⟩ := x; ⟨d, l.keep _ _ h1, l.sub _ h2, h3⟩

theorem lookIn_ns {h : Heap} {d : Addr} {o : Obj} {m : Str → Option Value} {x : Str} {v : Value} (hn : h.Ns d m) (ho : h.get? d = some o) (hv : m x = some v) : lookIn x o = some (some v) := by
  obtain ⟨o', es, ep, e, hd, hk, hf⟩ := hn
  rw [ho] at e; cases e
  have := hf x
  rw [hv] at this
  unfold lookIn
  rw [hd]
  dsimp only
  unfold nsFind findBy at this
  rw [Array.find?_toList]
  cases q : es.find? (fun e => e.key.isStr x) with
  | none => rw [q] at this; cases this
  | some e => rw [q] at this; simp only [Option.map_some, Option.some.injEq] at this; rw [← this]

section
variable {w : World} {A : Around} {E : Value → Shared → Prop} {c : Ctx} {V : List Cell} {s : Shared}

theorem ga_at {a C d : Addr} {nm : List Str} {m : Str → Option Value} {x : Str} {v : Value} {ex : Bool} {Q : Value → Shared → Prop} (hS : Sat w c V s) (ho : s.heap.get? a = some (instObj C d)) (hn : s.heap.Ns d m) (hC : ClsOk w C nm) (hx : x ∈ nm) (hv : m x = some v) (hh : handedIn v = true)
    (h : ∀ s', Sat w c V s' → Q v s') : wpAny (MM w) A (getAttr (.ref a) x ex) Q E s := by
  obtain ⟨cd, hcd, hdict⟩ := hC.cls
  obtain ⟨od, es, ep, e1, e2⟩ := id hn
  have I : InstAt s.heap a (instObj C d) C (some od) := ⟨ho, rfl, rfl, e1⟩
  have hl := lookIn_ns hn e1 hv
  refine get_value hS.kk I hC.ga ?_ hh (h _ (hS.toks _))
  unfold findObj
  rw [hcd, Option.bind_some, hC.attr x hx, Option.bind_some]
  simp only [Option.bind_some, PySem.W.ownOf, hdict, if_true, hl]
theorem ga {a C : Addr} {nm : List Str} {vs : List (Option Value)} {x : Str} {v : Value} {ex : Bool} {Q : Value → Shared → Prop} (hS : Sat w c V s) (hO : ObjI w c a C nm vs) (hl : LookF nm vs x v) (h : ∀ s', Sat w c V s' → Q v s') : wpAny (MM w) A (getAttr (.ref a) x ex) Q E s := by
  obtain ⟨d, h1, h2, h3, h4⟩ := hO
  exact ga_at hS (hS.keep _ _ h1) (h2.keeps hS.keep) h3 hl.mem (fm_look h3.nod hl) (h4 v hl.val) h
theorem gaV {a C : Addr} {nm : List Str} {vs : List (Option Value)} {x : Str} {v : Value} {ex : Bool} {Q : Value → Shared → Prop} (hS : Sat w c V s) (hO : VecI w c a C nm vs) (hl : LookF nm vs x v) (h : ∀ s', Sat w c V s' → Q v s') : wpAny (MM w) A (getAttr (.ref a) x ex) Q E s := by
  obtain ⟨d, h1, h2, h3, h4, h5⟩ := hO
  obtain ⟨b, hn⟩ := hS.vd _ h2
  refine ga_at hS (hS.keep _ _ h1) hn.ns h3 hl.mem ?_ (h4 v hl.val) h
  have hne : x ≠ shName := fun e => by subst e; exact h5 hl.mem
  rw [if_neg hne]
  exact fm_look h3.nod hl
end
/-- room for n nested calls -/
structure Room (A : Around) (n : Nat) : Prop where
  h : A.handled = none
  d : A.depth + 6 * n + 20 < 1000
  u : A.units + 40 * n + 200 < 9900
theorem Room.deeper {A : Around} {n : Nat} (r : Room A (n + 1)) (env : Env) : Room (A.deeper env) n :=
  ⟨r.h, by have := r.d; show A.depth + 1 + 6 * n + 20 < 1000; (first | lia | omega), by have := r.u; show A.units + 3 + 40 * n + 200 < 9900; (first | lia | omega)⟩
theorem Room.less {A : Around} {n m : Nat} (r : Room A n) (h : m ≤ n) : Room A m := ⟨r.h, by have := r.d; (first | lia | omega), by have := r.u; (first | lia | omega)⟩
theorem Room.in1 {A : Around} {n : Nat} (r : Room A (n + 1)) : Room A.in1 n := ⟨r.h, by have := r.d; show A.depth + 6 * n + 20 < 1000; (first | lia | omega), by have := r.u; show A.units + 1 + 40 * n + 200 < 9900; (first | lia | omega)⟩
theorem Room.depth {A : Around} {n : Nat} (r : Room A n) : A.depth < recursionLimit := by have := r.d; show A.depth < 1000; (first | lia | omega)
theorem Room.units {A : Around} {n : Nat} (r : Room A n) : A.units + 64 < cLine := by have := r.u; show A.units + 64 < 9900; (first | lia | omega)

noncomputable def fdAt (w : World) (f : Addr) : FuncData := match (KK w).lookup f with
  | some ⟨_, _, .func fd, _⟩ => fd
  | _ => default
noncomputable def bodyAt (w : World) (f : Addr) : List Stmt := match (fdAt w f).body with
  | .stmts b => b
  | _ => []

structure FnOk (w : World) (f : Addr) (nm : List Str) (gl : List (Str × Value)) : Prop where
  at_ : ∃ o, (KK w).lookup f = some o ∧ o.data = .func (fdAt w f)
  body : (fdAt w f).body = .stmts (bodyAt w f)
  code : codeIn (KK w) (fdAt w f).code (fdAt w f).qualname = true
  fr : ∀ L, FrOk w (callEnv (fdAt w f) L f) nm gl
  cell : ∀ x ∈ (fdAt w f).scope.names, x.2 ≠ .cell
  loc : ∀ x ∈ nm, (fdAt w f).scope.names.lookup x = some .local
  co : (fdAt w f).scope.isCoroutine = false
  gen : (fdAt w f).scope.isGenerator = false

noncomputable def flv : Flow → Value
  | .ret v => v
  | _ => .none

/-- what stands behind a def's body -/
noncomputable def Fin (w : World) (c : Ctx) (L : Addr) (Post : Value → Ctx → List Cell → Prop) (fl : Flow) (s : Shared) : Prop :=
  ∃ c' m V', c.Le c' ∧ Sat w c' (.ns L m :: V') s ∧ Post (flv fl) c' V'
theorem Fin.mono {w : World} {c c' : Ctx} {L : Addr} {Post : Value → Ctx → List Cell → Prop} {fl : Flow} {s : Shared} (x : Fin w c' L Post fl s) (l : c.Le c') : Fin w c L Post fl s :=
  let ⟨c'', m, V', h1, h2, h3⟩ := x; ⟨c'', m, V', l.trans h1, h2, h3⟩

section
variable {w : World} {A : Around} {E : Value → Shared → Prop} {c : Ctx} {V : List Cell} {s : Shared} {n : Nat}

theorem code_fn {f : Addr} {nm rest : List Str} {gl : List (Str × Value)} {vs : List (Option Value)} {args : Args} {binds : List (Str × Value)} {Post : Value → Ctx → List Cell → Prop} {R : Result → Shared → Prop}
    (hF : FnOk w f nm gl) (hS : Sat w c V s) (hR : Room A (n + 1)) (hb : BindsTo s (fdAt w f) args binds) (h1 : nm = binds.map (·.1) ++ rest) (h2 : vs = binds.map (fun p => some p.2) ++ rest.map fun _ => none)
    (h : ∀ env A' s', FrOk w env nm gl → Room A' n → Sat w c (.ns env.locals (fm nm vs) :: V) s' → wpAny (MM w) A' (execs (bodyAt w f) env) (Fin w c env.locals Post) (fun _ _ => False) s')
    (k : ∀ v c' V' s', c.Le c' → Sat w c' V' s' → Post v c' V' → R (.ok (.ret v)) s') : codeAny (MM w) A (.call (.ref f) args) R s := by
  obtain ⟨o, ho, hd⟩ := hF.at_
  have fr := hF.fr
  refine codeAny_call_def (fd := fdAt w f) (body := bodyAt w f) (binds := binds) hR.depth (hS.kk _ _ ho) hd (hS.st.lim.keeps hS.keep) (codeRec_of hS.kk hF.code) hF.body hb hF.cell (fun x hx => hF.loc x.1 ?_) (fun h₀ hns hk => ?_) hF.co hF.gen (fr 0).kind
  · rw [h1]; exact List.mem_append.mpr (.inl (List.mem_map.mpr ⟨x, hx, rfl⟩))
  · have F := fr s.heap.objs.size
    have e : (fun y => binds.reverse.lookup y) = fm nm vs := fm_binds h1 h2 F.nod
    have hns' : h₀.Ns (callEnv (fdAt w f) s.heap.objs.size f).locals (fm nm vs) := e ▸ hns
    have hS' : Sat w c (.ns (callEnv (fdAt w f) s.heap.objs.size f).locals (fm nm vs) :: V) { s with heap := h₀, toks := s.toks + binds.length } := hS.new hk (Nat.le_refl _) hns'
    refine wpAny_mono (h _ _ _ F (hR.deeper _) hS') (fun fl s' x => ?_) fun _ _ x => x.elim
    obtain ⟨c', m, V', l1, l2, l3⟩ := x
    cases fl <;> exact k _ c' V' s' l1 l2.drop l3

theorem call_fn {f : Addr} {nm rest : List Str} {gl : List (Str × Value)} {vs : List (Option Value)} {args : List Value} {binds : List (Str × Value)} {Post : Value → Ctx → List Cell → Prop} {Q : Value → Shared → Prop}
    (hF : FnOk w f nm gl) (hS : Sat w c V s) (hR : Room A (n + 1)) (hb : bindArgs (fdAt w f) ⟨args, []⟩ = pure binds) (h1 : nm = binds.map (·.1) ++ rest) (h2 : vs = binds.map (fun p => some p.2) ++ rest.map fun _ => none)
    (h : ∀ env A' s', FrOk w env nm gl → Room A' n → Sat w c (.ns env.locals (fm nm vs) :: V) s' → wpAny (MM w) A' (execs (bodyAt w f) env) (Fin w c env.locals Post) (fun _ _ => False) s')
    (k : ∀ v c' V' s', c.Le c' → Sat w c' V' s' → Post v c' V' → Q v s') : wpAny (MM w) A (call (.ref f) args) Q E s :=
  wpAny_call (code_fn hF hS hR (BindsTo.of_eq hb) h1 h2 h k)

/-- a class of the text's own is called -/
theorem make_fn {C fI : Addr} {nm rest : List Str} {gl : List (Str × Value)} {args : List Value} {Post : Addr → Addr → Ctx → List Cell → Prop} {Q : Value → Shared → Prop}
    (hS : Sat w c V s) (hR : Room A (n + 2)) (hm : makesIn (KK w) C = true) (hi : findIn (KK w) (.ref C) "__init__" = some (some (.ref fI))) (hf : typeIn (KK w) (.ref fI) = some (.type "function")) (hF : FnOk w fI nm gl)
    (hb : ∀ s', Sat w c V s' → ∀ x, ∃ binds, BindsTo s' (fdAt w fI) ⟨.ref x :: args, []⟩ binds ∧ nm = binds.map (·.1) ++ rest ∧ 
      ∀ vs, vs = binds.map (fun p => some p.2) ++ rest.map (fun _ => none) → ∀ d env A' s'', d ≠ x → FrOk w env nm gl → Room A' n → Sat w c (.ns env.locals (fm nm vs) :: .nk d (fun _ => none) 0 :: .pr x (· = instObj C d) :: V) s'' →
        wpAny (MM w) A' (execs (bodyAt w fI) env) (Fin w c env.locals (fun v c' V' => v = .none ∧ Post x d c' V')) (fun _ _ => False) s'')
    (k : ∀ x d c' V' s', c.Le c' → Sat w c' V' s' → Post x d c' V' → Q (.ref x) s') : wpAny (MM w) A (call (.ref C) args) Q E s := by
  refine wpAny_call ?_
  obtain ⟨hh, g, d, t, os⟩ := s
  refine make_core (makes_of hS.kk hm) (looks_findIn hS.kk hi) (fun self => bind_fn hS.kk self hf) (.inl rfl) ?_
  have h1 : Sat w c (.nk hh.objs.size (fun _ => none) 0 :: V) ⟨hh.push emptyDict, g, d, t, os⟩ :=
    hS.new (s := ⟨hh, g, d, t, os⟩) (t := t) (fun _ _ e => Heap.get?_push_of_some _ e) (Nat.le_refl _) ⟨_, #[], 0, Heap.get?_push_size _ rfl, rfl, fun _ he => by simp at he, fun _ => rfl, Nat.le_refl _⟩
  have h2 : Sat w c (.pr (hh.objs.size + 1) (· = instObj C hh.objs.size) :: .nk hh.objs.size (fun _ => none) 0 :: V) ⟨(hh.push emptyDict).push (instObj C hh.objs.size), g, d, t, os⟩ :=
    h1.new (s := ⟨hh.push emptyDict, g, d, t, os⟩) (t := t) (fun _ _ e => Heap.get?_push_of_some _ e) (by show (hh.push emptyDict).objs.size ≤ _; rw [Heap.size_push]; exact Nat.le_refl _) ⟨_, by have := Heap.get?_push_size (o := instObj C hh.objs.size) (hh.push emptyDict) rfl; rwa [Heap.size_push] at this, rfl⟩
  have h3 := h2.swap
  have h0 : Sat w c V ⟨(hh.push emptyDict).push (instObj C hh.objs.size), g, d, t, os⟩ := h2.drop.drop
  obtain ⟨binds, b1, b2, b3⟩ := hb _ h0 (hh.objs.size + 1)
  have hR' : Room (A.under (.builtin "type.__call__" ⟨.ref C :: args, []⟩)) (n + 1) := by
    have e1 : (Code.builtin "type.__call__" ⟨.ref C :: args, []⟩).weight ≤ 1 := by
      have : (Code.builtin "type.__call__" ⟨.ref C :: args, []⟩).weight = 1 := by
        simp [Code.weight, Code.frames, Code.isCreation, Code.isGuard, guardIds, Code.isCaller, Code.isFrame]
      (first | lia | omega)
    have e2 : (Code.builtin "type.__call__" ⟨.ref C :: args, []⟩).cUnits ≤ 8 := by
      have : ∀ b : Bool, 1 + 3 * (if b = true then 1 else 0) ≤ 8 := by decide
      simp only [Code.cUnits, Code.frames]
      exact this _
    exact ⟨hR.h, by have := hR.d; show A.depth + _ + 6 * (n + 1) + 20 < 1000; (first | lia | omega), by have := hR.u; show A.units + _ + 40 * (n + 1) + 200 < 9900; (first | lia | omega)⟩
  refine code_fn (n := n) (Post := fun v c' V' => v = .none ∧ Post (hh.objs.size + 1) hh.objs.size c' V') hF h3 hR' b1 b2 rfl (fun env A' s' e1 e2 e3 => b3 _ rfl _ env A' s' (Nat.ne_of_lt (Nat.lt_succ_self _)) e1 e2 e3) ?_
  rintro v c' V' s' l1 l2 ⟨rfl, l3⟩
  exact ⟨rfl, k _ _ c' V' s' l1 l2 l3⟩
end
section
variable {M : Model} {A : Around} {E : Value → Shared → Prop} {s : Shared}
theorem nsSetK {a : Addr} {m : Str → Option Value} {k : Nat} {name : Str} {v : Value} {Q : Unit → Shared → Prop} (hn : NsK s.heap a m k)
    (hQ : ∀ h', NsK h' a (fun x => if x = name then some v else m x) (if m name = none then k + 1 else k) → Heap.SameBut a s.heap h' → Q () { s with heap := h', toks := s.toks + 1 }) : wpAny M A (nsSet a name v) Q E s := by
  obtain ⟨o, es, ep, ho, hd, hk, hm, hz⟩ := hn
  have hany : es.any (·.refKey) = false := by
    rw [Array.any_eq_false']; intro e he; obtain ⟨n, t, h⟩ := hk e he; simp [DictEntry.refKey, h]
  unfold nsSet
  refine wpAny_bind (wpAny_bind (wpAny_askSetting (wpAny_pure (wpAny_bind (wpAny_mkText (wpAny_bind (wpAny_loadPart ho ?_)))))))
  simp only [hd, aRefKeyMayBeTheName_eq, aRefKeyMayBeTheNameByArray, hany, Bool.and_false, Bool.false_eq_true, if_false]
  refine wpAny_updatePart ho ?_
  refine hQ _ ?_ (Heap.SameBut.update ..)
  obtain ⟨c, d, dt, sl⟩ := o
  subst hd
  cases hi : es.findIdx? (·.key.isStr name) with
  | some i =>
    refine ⟨_, _, ep, Heap.get?_update_self _ ho (by simp only [Obj.putName_eq, Obj.putNameByArray, hi]; rfl), by simp only [Obj.putName_eq, Obj.putNameByArray, hi]; rfl, hk.modify _ _, fun x => ?_, ?_⟩
    · show _ = if x = name then some v else m x
      rw [← hm]; exact findBy_modify (fun n v => v.isStr n) Value.isStr_inj es name x v i hi
    · rw [Array.size_modify]
      split
      · (first | lia | omega)
      · exact hz
  | none =>
    have hnone : m name = none := by
      rw [← hm name]
      unfold nsFind findBy
      rw [Array.findIdx?_eq_none_iff] at hi
      have : es.find? (fun e => e.key.isStr name) = none := by
        rw [Array.find?_eq_none]; intro e he; simpa using hi e he
      simp [this]
    refine ⟨_, _, ep + 1, Heap.get?_update_self _ ho (by simp only [Obj.putName_eq, Obj.putNameByArray, hi]; rfl), by simp only [Obj.putName_eq, Obj.putNameByArray, hi]; rfl, hk.push _ _ _ _, fun x => ?_, ?_⟩
    · show _ = if x = name then some v else m x
      rw [← hm]
      exact findBy_push (fun n v => v.isStr n) es name x _ _ v (fun y => by
        show (name == y) = decide (y = name)
        by_cases h : y = name
        · subst h; simp
        · have : ¬ name = y := fun e => h e.symm
          simp [h, this]) hi
    · rw [if_pos hnone, Array.size_push]; (first | lia | omega)
end

structure ClsSet (w : World) (C : Addr) (nm : List Str) : Prop where
  set : findIn (KK w) (.ref C) "__setattr__" = some (some (.builtin "object.__setattr__"))
  plain : plainOver (KK w) C = true
  take : ∀ x ∈ nm, takerIn (KK w) C x = some none
  dict : (clsIn (KK w) C).any (·.hasDict) = true

section
variable {w : World} {A : Around} {E : Value → Shared → Prop} {c : Ctx} {V V' : List Cell} {s : Shared}

theorem sa_core {x C d : Addr} {m : Str → Option Value} {k : Nat} {nm : List Str} {name : Str} {v : Value} {Q : Unit → Shared → Prop} (hS : Sat w c V s) (hx : s.heap.get? x = some (instObj C d)) (hn : NsK s.heap d m k) (hk : k ≤ 9) (hC : ClsSet w C nm) (hm : name ∈ nm)
    (h : ∀ h' t, NsK h' d (fun y => if y = name then some v else m y) (if m name = none then k + 1 else k) → Heap.SameBut d s.heap h' → Q () { s with heap := h', toks := t }) : wpAny (MM w) A (setAttr (.ref x) name v) Q E s := by
  obtain ⟨od, es, ep, ed, er⟩ := id hn
  have I : InstAt s.heap x (instObj C d) C (some od) := ⟨hx, rfl, rfl, ed⟩
  refine set_plain hS.kk I hC.set ?_
  refine osa_open (s := { s with toks := s.toks + 1 }) hS.kk I hC.plain (hC.take _ hm) fun b => ?_
  obtain ⟨cd, hc, hd'⟩ := any_some hC.dict
  refine wpAny_bind (wpAny_pure (wpAny_bind (wpAny_bind (wpAny_loadPart hx (wpAny_bind ((looks_clsIn (hS.toks (s.toks + 1)).kk hc).here ?_))))))
  rw [hd']
  refine wpAny_pure (a := some d) (wpAny_bind (wpAny_pure (wpAny_bind ?_)))
  refine nsSetK (s := { s with toks := s.toks + 1 }) hn fun h' hn' hs' => ?_
  obtain ⟨o2, es2, ep2, e2, d2, _, _, z2⟩ := id hn'
  refine wpAny_bind (wpAny_lookBehind e2 (by rw [d2]; exact pastItsLine_dict (by rw [sizeLine_eq]; split at z2 <;> (first | lia | omega))) ?_)
  exact wpAny_pure (h _ _ hn' hs')

/-- a fresh instance's attribute -/
theorem sa {x C d : Addr} {m : Str → Option Value} {k : Nat} {nm : List Str} {name : Str} {v : Value} {Q : Unit → Shared → Prop} (hS : Sat w c V s) (hx : .pr x (· = instObj C d) ∈ V) (hr : Rep (.nk d m k) (.nk d (fun y => if y = name then some v else m y) (k + 1)) V V') (hC : ClsSet w C nm) (hm : name ∈ nm) (hk : k ≤ 8)
    (h : ∀ s', Sat w c V' s' → Q () s') : wpAny (MM w) A (setAttr (.ref x) name v) Q E s := by
  obtain ⟨o, ho, rfl⟩ := hS.vol _ hx
  refine sa_core hS ho (hS.vol _ hr.mem) (Nat.le_succ_of_le hk) hC hm fun h' t hn hs => h _ ?_
  refine hS.rep hr (fun b o hb e => hs.extBut b o hb e) rfl (hn.le ?_)
  split <;> (first | lia | omega)

/-- a vector is shared -/
theorem sa_share {x C : Addr} {nm nm' : List Str} {vs : List (Option Value)} {b : Bool} {Q : Unit → Shared → Prop} (hS : Sat w c V s) (hO : VecI w c x C nm vs) (hC : ClsSet w C nm') (hm : shName ∈ nm')
    (h : ∀ s', Sat w c V s' → Q () s') : wpAny (MM w) A (setAttr (.ref x) shName (.bool b)) Q E s := by
  obtain ⟨d, h1, h2, h3, h4, h5⟩ := hO
  obtain ⟨b0, hn⟩ := hS.vd _ h2
  refine sa_core hS (hS.keep _ _ h1) hn (Nat.le_refl 9) hC hm fun h' t hn' hs => h _ ?_
  have hne : ∀ p ∈ V, p.addr ≠ d := fun p hp => hS.sepVD p hp _ h2
  have hI : c.I.get? d = none := hS.sepD _ h2
  have e : (fun y => if y = shName then some (Value.bool b) else (fun z => if z = shName then some (Value.bool b0) else fm nm vs z) y) = fun z => if z = shName then some (Value.bool b) else fm nm vs z := by
    funext y; by_cases q : y = shName <;> simp [q]
  refine ⟨hS.st, fun b o e => hs.extBut b o (fun q => by rw [q, hI] at e; cases e) (hS.keep b o e), fun p hp => Cell.at_of (hS.vol p hp) fun o e => hs.extBut _ o (hne p hp) e, fun p hp => ?_, hS.sepV, hS.sepD, hS.sepVD, hS.nod, hS.gens, hS.drawn, hS.os⟩
  by_cases q : p.1 = d
  · -- the very dict: two entries of D at one address say the same of it
    have hn2 : NsK h' d (fun z => if z = shName then some (Value.bool b) else fm nm vs z) 9 := by
      have := hn'
      simp only [if_pos rfl] at this
      rw [← e]
      exact this.le (by simp)
    obtain ⟨b1, k1⟩ := hS.vd p hp
    rw [q] at k1 ⊢
    refine ⟨b, ?_⟩
    have e2 : ∀ z, (if z = shName then some (Value.bool b0) else fm nm vs z) = (if z = shName then some (Value.bool b1) else p.2 z) := fun z => by
      obtain ⟨o1, es1, ep1, g1, d1, _, f1, _⟩ := hn
      obtain ⟨o2, es2, ep2, g2, d2, _, f2, _⟩ := k1
      rw [g1] at g2; cases g2
      rw [d1] at d2; cases d2
      exact (f1 z).symm.trans (f2 z)
    have e3 : (fun z => if z = shName then some (Value.bool b) else fm nm vs z) = fun z => if z = shName then some (Value.bool b) else p.2 z := by
      funext z
      by_cases qz : z = shName
      · simp [qz]
      · have := e2 z; simp only [if_neg qz] at this ⊢; exact this
    rw [← e3]; exact hn2
  · exact (hS.vd p hp).of fun o e => hs.extBut _ o q e
end
inductive ListAt (c : Ctx) (V : List Cell) (a : Addr) (xs : List Value) : Prop
  | imm : c.I.PlainList a xs.toArray → ListAt c V a xs
  | vol : .ls a xs ∈ V → ListAt c V a xs
theorem Heap.PlainList.keeps {h h' : Heap} {a : Addr} {xs : Array Value} (x : h.PlainList a xs) (k : ∀ b o, h.get? b = some o → h'.get? b = some o) : h'.PlainList a xs := let ⟨n, e⟩ := x; ⟨n, k _ _ e⟩

section
variable {w : World} {A : Around} {E : Value → Shared → Prop} {c : Ctx} {V V' : List Cell} {s : Shared} {env : Env} {p : Cell}

theorem Sat.plain {a : Addr} {xs : List Value} (hS : Sat w c V s) (h : ListAt c V a xs) : s.heap.PlainList a xs.toArray := by
  cases h with
  | imm h => exact Heap.PlainList.keeps h hS.keep
  | vol h => exact hS.vol _ h
theorem Sat.list {a : Addr} {xs : List Value} (hS : Sat w c V s) (h : ListAt c V a xs) : s.heap.IsList a xs.toArray := (hS.plain h).isList
theorem Sat.isl {a : Addr} {xs : List Value} (hS : Sat w c V s) (h : c.I.IsList a xs.toArray) : s.heap.IsList a xs.toArray := h.at fun o e => hS.keep _ o e
theorem Sat.tup {a : Addr} {xs : List Value} (hS : Sat w c V s) (h : c.I.IsTuple a xs.toArray) : s.heap.IsTuple a xs.toArray := let ⟨o, e, r⟩ := h; ⟨o, hS.keep _ _ e, r⟩

/-- a new cell, behind the first -/
theorem Sat.new2 {q : Cell} (x : Sat w c (q :: V) s) {h' : Heap} {t : Nat} (k : ∀ b o, s.heap.get? b = some o → h'.get? b = some o) (ha : s.heap.objs.size ≤ p.addr) (hp : p.at h') : Sat w c (q :: p :: V) { s with heap := h', toks := t } :=
  (x.new k ha hp).swap

/-- a new object that stays as it is -/
theorem Sat.newI (x : Sat w c V s) {a : Addr} {o : Obj} {h' : Heap} {t : Nat} (k : ∀ b o, s.heap.get? b = some o → h'.get? b = some o) (ha : s.heap.objs.size ≤ a) (ho : h'.get? a = some o) :
    ∃ c', c.Le c' ∧ Sat w c' V { s with heap := h', toks := t } ∧ c'.I.get? a = some o := by
  have y := x.new (p := .pr a (· = o)) (t := t) k ha ⟨o, ho, rfl⟩
  obtain ⟨c', l, z, o', e, rfl⟩ := y.freeze .head
  exact ⟨c', l, z, e⟩

theorem subl {value slice : Expr} {a : Addr} {xs : List Value} {i : Int} {t : Tok} {v : Value} {Q : Value → Shared → Prop} (hl : s.heap.IsList a xs.toArray) (h0 : 0 ≤ i) (hf : i < 2 ^ 63) (hx : xs[i.toNat]? = some v) (h : Q v s)
    (hs : subscripted slice false (.ref a) (.int i t) = operate [.ref a, .int i t] (getItem (.ref a) (.int i t)) := by with_unfolding_all rfl) : wpAny (MM w) A (subscriptTail value slice (.ref a) (.int i t)) Q E s :=
  tail_any hl.typeIs slot_list_getitem.lookup (wpAny_getItem_list hl h0 hf (by simpa using hx) h) hs
theorem subt {value slice : Expr} {a : Addr} {xs : List Value} {i : Int} {t : Tok} {v : Value} {Q : Value → Shared → Prop} (hS : Sat w c V s) (ht : c.I.IsTuple a xs.toArray) (h0 : 0 ≤ i) (hf : i < 2 ^ 63) (hx : xs[i.toNat]? = some v) (h : Q v s)
    (hs : subscripted slice false (.ref a) (.int i t) = operate [.ref a, .int i t] (getItem (.ref a) (.int i t)) := by with_unfolding_all rfl) : wpAny (MM w) A (subscriptTail value slice (.ref a) (.int i t)) Q E s := by
  have ht' : IsTup s.heap a xs.toArray := hS.tup ht
  have hlt : i.toNat < xs.length := by
    rcases Nat.lt_or_ge i.toNat xs.length with q | q
    · exact q
    · rw [List.getElem?_eq_none q] at hx; cases hx
  refine tail_any (T := "tuple") ⟨_, ht'.choose_spec.1, ht'.choose_spec.2.1⟩ slot_tuple_getitem.lookup (getItem_tuple ht' (by (first | lia | omega)) hf (j := i.toNat) ?_ (by simpa using hx) h) hs
  unfold seqIndex?
  simp only [List.size_toArray]
  have e1 : ¬ i < 0 := by (first | lia | omega)
  simp only [e1, if_false]
  rw [if_pos (by simp; (first | lia | omega))]

/-- a new tuple -/
theorem newTup {vs : List Value} {Q : Value → Shared → Prop} (hS : Sat w c V s) (hz : vs.length ≤ 1000) (h : ∀ a c' s', c.Le c' → Sat w c' V s' → c'.I.IsTuple a vs.toArray → Q (.ref a) s') : wpAny (MM w) A (newTuple vs) Q E s := by
  refine wpAny_newObj_type ?_ (by show vs.toArray.size ≤ sizeLine; rw [List.size_toArray, sizeLine_eq]; (first | lia | omega))
  obtain ⟨c', l, z, e⟩ := hS.newI (t := s.toks) (h' := s.heap.push { cls := .type "tuple", data := .seq vs.toArray }) (fun _ _ e => Heap.get?_push_of_some _ e) (Nat.le_refl _) (Heap.get?_push_size _ rfl)
  exact h _ c' _ l z ⟨_, e, rfl, 0, rfl⟩
/-- a new list, a cell behind the first -/
theorem newLst {vs : List Value} {Q : Value → Shared → Prop} (hS : Sat w c (p :: V) s) (hz : vs.length ≤ 1000) (h : ∀ a s', Sat w c (p :: .ls a vs :: V) s' → Q (.ref a) s') : wpAny (MM w) A (newList vs) Q E s := by
  refine wpAny_newObj_type ?_ (by show vs.toArray.size ≤ sizeLine; rw [List.size_toArray, sizeLine_eq]; (first | lia | omega))
  exact h _ _ (hS.new2 (p := .ls s.heap.objs.size vs) (t := s.toks) (fun _ _ e => Heap.get?_push_of_some _ e) (Nat.le_refl _) ⟨0, Heap.get?_push_size _ rfl⟩)
/-- a new list that stays -/
theorem newLstI {vs : List Value} {Q : Value → Shared → Prop} (hS : Sat w c V s) (hz : vs.length ≤ 1000) (h : ∀ a c' s', c.Le c' → Sat w c' V s' → c'.I.PlainList a vs.toArray → Q (.ref a) s') : wpAny (MM w) A (newList vs) Q E s := by
  refine wpAny_newObj_type ?_ (by show vs.toArray.size ≤ sizeLine; rw [List.size_toArray, sizeLine_eq]; (first | lia | omega))
  obtain ⟨c', l, z, e⟩ := hS.newI (t := s.toks) (h' := s.heap.push { cls := .type "list", data := .seq vs.toArray }) (fun _ _ e => Heap.get?_push_of_some _ e) (Nat.le_refl _) (Heap.get?_push_size _ rfl)
  exact h _ c' _ l z ⟨0, e⟩

theorem gmAppend {a : Addr} {xs : List Value} {pl : Sem Bool} {Q : Value × List Value → Shared → Prop} (hS : Sat w c V s) (hl : .ls a xs ∈ V) (h : Q (.builtin "list.append", [.ref a]) s) : wpAny (MM w) A (getMethod (.ref a) "append" pl) Q E s := by
  obtain ⟨n, e⟩ := hS.vol _ hl
  exact Calls.getMethod_list_append e rfl rfl h
theorem append_ {a : Addr} {xs : List Value} {v : Value} {Q : Value → Shared → Prop} (hS : Sat w c V s) (hr : Rep (.ls a xs) (.ls a (xs ++ [v])) V V') (hz : xs.length ≤ 100000) (h : ∀ s', Sat w c V' s' → Q .none s') : wpAny (MM w) A (call (.builtin "list.append") [.ref a, v]) Q E s := by
  refine wpAny_list_append_plain (hS.vol _ hr.mem) (fun h' hp hs => h _ (hS.rep (t := s.toks) hr (fun b o hb e => hs.extBut b o hb e) rfl ?_)) (by rw [List.size_toArray, sizeLine_eq]; (first | lia | omega))
  show h'.PlainList a _
  simpa using hp
/-- a list that is never grown -/
noncomputable def il (a : Addr) (xs : List Value) : Cell := .pr a (fun o => o.cls = .type "list" ∧ ∃ n, o.data = .seq xs.toArray n)
theorem il_at {h : Heap} {a : Addr} {xs : List Value} (x : (il a xs).at h) : h.IsList a xs.toArray := let ⟨o, e, h1, h2⟩ := x; ⟨o, e, h1, h2⟩
theorem il_of {h : Heap} {a : Addr} {xs : List Value} (x : h.IsList a xs.toArray) : (il a xs).at h := let ⟨o, e, h1, h2⟩ := x; ⟨o, e, h1, h2⟩
theorem Sat.il {a : Addr} {xs : List Value} (hS : Sat w c V s) (h : Mine.il a xs ∈ V) : s.heap.IsList a xs.toArray := il_at (hS.vol _ h)
theorem setl {a : Addr} {xs : List Value} {i : Int} {t : Tok} {v : Value} {Q : Unit → Shared → Prop} (hS : Sat w c V s) (h0 : 0 ≤ i) (hi : i < xs.length) (hf : i < 2 ^ 63) (hr : Rep (Mine.il a xs) (Mine.il a (xs.set i.toNat v)) V V') (h : ∀ s', Sat w c V' s' → Q () s') : wpAny (MM w) A (setItem (.ref a) (.int i t) v) Q E s := by
  refine wpAny_setItem_list (hS.il hr.mem) h0 hf (by simpa using hi) fun h' hl hs => h _ (hS.rep (t := s.toks) hr (fun b o hb e => hs.extBut b o hb e) rfl (il_of ?_))
  simpa using hl
theorem getl {a : Addr} {xs : List Value} {i : Int} {t : Tok} {v : Value} {Q : Value → Shared → Prop} (hl : s.heap.IsList a xs.toArray) (h0 : 0 ≤ i) (hf : i < 2 ^ 63) (hx : xs[i.toNat]? = some v) (h : Q v s) : wpAny (MM w) A (getItem (.ref a) (.int i t)) Q E s :=
  wpAny_getItem_list hl h0 hf (by simpa using hx) h

theorem len_ {a : Addr} {xs : List Value} {Q : Value → Shared → Prop} (hS : Sat w c V s) (hl : s.heap.IsList a xs.toArray) (hz : xs.length ≤ 1000000) (h : ∀ t s', Sat w c V s' → Q (.int xs.length t) s') : wpAny (MM w) A (call (.builtin "len") [.ref a]) Q E s := by
  refine len_list hl (by rw [List.size_toArray]; (first | lia | omega)) ?_
  rw [List.size_toArray]
  exact h _ _ ((hS.toks _).toks _)

theorem cwf {f : Addr} {e : Expr} {rest : List Expr} {pos : Pos} {Q : Value → Shared → Prop} (hk : keepIn (KK w) (.ref f) = true) (h : wpAny (MM w) A (spliced (backTo pos (starEach (e :: rest) env))) (fun vs s₁ => (∃ c V, Sat w c V s₁) ∧ wpAny (MM w) A (call (.ref f) vs) Q E s₁) E s)
    (he : starEach (e :: rest) env = (false, eval e env) :: starEach rest env := by rfl) (hplain : (backTo pos (starEach rest env)).any (·.1) = false := by rfl) :
    wpAny (MM w) A (callWith pos (.ref f) [] (backTo pos (starEach (e :: rest) env)) []) Q E s := by
  rw [he] at h ⊢
  exact callWith_of (by show ((false || (backTo pos (starEach rest env)).any (·.1)) || false) = false; rw [hplain]; rfl) (keeps_K hk) (Calls.evalArgs_plain (wpAny_mono h (fun vs s₁ x => ⟨let ⟨⟨_, _, y⟩, _⟩ := x; y.kk, x.2⟩) fun _ _ x => x))
theorem cwf0 {f : Addr} {pos : Pos} {Q : Value → Shared → Prop} (hS : Sat w c V s) (hk : keepIn (KK w) (.ref f) = true) (h : wpAny (MM w) A (call (.ref f) []) Q E s) : wpAny (MM w) A (callWith pos (.ref f) [] (backTo pos (starEach [] env)) []) Q E s :=
  callWith_K0 hS.kk hk h

theorem eqs_t {x y : Str} {t u : Tok} {Q : Value → Shared → Prop} (e : x = y) (h : Q (.bool true) s) : wpAny (MM w) A (compareOp .Eq (.str x t) (.str y u)) Q E s :=
  PyProof.Rows.eq_str (by rw [e]; simpa using h)
theorem eqs_f {x y : Str} {t u : Tok} {Q : Value → Shared → Prop} (e : x ≠ y) (h : Q (.bool false) s) : wpAny (MM w) A (compareOp .Eq (.str x t) (.str y u)) Q E s :=
  PyProof.Rows.eq_str (by rw [show (x == y) = false from by simpa using e]; exact h)
theorem eqs_d {x y : Str} {t u : Tok} {Q : Value → Shared → Prop} (h : Q (.bool (decide (x = y))) s) : wpAny (MM w) A (compareOp .Eq (.str x t) (.str y u)) Q E s :=
  PyProof.Rows.eq_str (by rw [show (x == y) = decide (x = y) from by by_cases q : x = y <;> simp [q]]; exact h)
end
noncomputable def oc (p : Addr × Obj) : Cell := .pr p.1 (· = p.2)

section
variable {w : World} {A : Around} {E : Value → Shared → Prop} {c : Ctx} {V V' : List Cell} {s : Shared} {env : Env} {p : Cell}

/-- the cells of an iterator turn -/
theorem Sat.turnIt (x : Sat w c V s) {R : List Cell} {os : List (Addr × Obj)} (hV : V.Perm (os.map oc ++ R)) {h' : Heap} {t : Nat} (k : ∀ b o, b ∉ os.map (·.1) → s.heap.get? b = some o → h'.get? b = some o) (ho : ∀ b ∈ os.map (·.1), ∃ o, h'.get? b = some o) :
    ∃ os' : List (Addr × Obj), os'.map (·.1) = os.map (·.1) ∧ ∀ V', (os'.map oc ++ R).Perm V' → Sat w c V' { s with heap := h', toks := t } := by
  have y := x.perm hV
  have hnI : ∀ b ∈ os.map (·.1), c.I.get? b = none := fun b hb => by
    obtain ⟨q, hq, rfl⟩ := List.mem_map.mp hb
    exact y.sepV (oc q) (List.mem_append.mpr (.inl (List.mem_map_of_mem hq)))
  have hnD : ∀ b ∈ os.map (·.1), ∀ q ∈ c.D, q.1 ≠ b := fun b hb q hq => by
    obtain ⟨z, hz, rfl⟩ := List.mem_map.mp hb
    exact Ne.symm (y.sepVD (oc z) (List.mem_append.mpr (.inl (List.mem_map_of_mem hz))) q hq)
  have hnR : ∀ b ∈ os.map (·.1), ∀ q ∈ R, q.addr ≠ b := fun b hb q hq => by
    obtain ⟨z, hz, rfl⟩ := List.mem_map.mp hb
    exact Ne.symm ((List.pairwise_append.mp y.nod).2.2 (oc z) (List.mem_map_of_mem hz) q hq)
  have mk : ∃ os' : List (Addr × Obj), os'.map (·.1) = os.map (·.1) ∧ ∀ q ∈ os', h'.get? q.1 = some q.2 := by
    have gen : ∀ l : List Addr, (∀ b ∈ l, ∃ o, h'.get? b = some o) → ∃ os' : List (Addr × Obj), os'.map (·.1) = l ∧ ∀ q ∈ os', h'.get? q.1 = some q.2 := by
      intro l
      induction l with
      | nil => exact fun _ => ⟨[], rfl, fun _ hq => nomatch hq⟩
      | cons b l ih =>
        intro hl
        obtain ⟨o, e⟩ := hl b (.head _)
        obtain ⟨r, h1, h2⟩ := ih fun d hd => hl d (.tail _ hd)
        refine ⟨(b, o) :: r, by simp [h1], fun q hq => ?_⟩
        rcases List.mem_cons.mp hq with rfl | hq
        · exact e
        · exact h2 q hq
    exact gen _ ho
  obtain ⟨os', e1, e2⟩ := mk
  have hmem : ∀ q ∈ os', q.1 ∈ os.map (·.1) := fun q hq => e1 ▸ List.mem_map_of_mem hq
  refine ⟨os', e1, fun V' hp => Sat.perm (V := os'.map oc ++ R) ⟨y.st, fun b o e => k b o (fun hb => by rw [hnI b hb] at e; cases e) (y.keep b o e), fun q hq => ?_, fun q hq => (y.vd q hq).of fun o e => k _ o (fun hb => hnD _ hb q hq rfl) e, fun q hq => ?_, y.sepD, fun q hq z hz => ?_, ?_, y.gens, y.drawn, y.os⟩ hp⟩
  · rcases List.mem_append.mp hq with hq | hq
    · obtain ⟨z, hz, rfl⟩ := List.mem_map.mp hq
      exact ⟨_, e2 z hz, rfl⟩
    · exact Cell.at_of (y.vol q (List.mem_append.mpr (.inr hq))) fun o e => k _ o (fun hb => hnR _ hb q hq rfl) e
  · rcases List.mem_append.mp hq with hq | hq
    · obtain ⟨z, hz, rfl⟩ := List.mem_map.mp hq
      exact hnI _ (hmem z hz)
    · exact y.sepV q (List.mem_append.mpr (.inr hq))
  · rcases List.mem_append.mp hq with hq | hq
    · obtain ⟨r, hr, rfl⟩ := List.mem_map.mp hq
      exact Ne.symm (hnD _ (hmem r hr) z hz)
    · exact y.sepVD q (List.mem_append.mpr (.inr hq)) z hz
  · have n0 := List.pairwise_append.mp y.nod
    refine List.pairwise_append.mpr ⟨?_, n0.2.1, fun q hq z hz => ?_⟩
    · have : (os'.map oc).map Cell.addr = (os.map oc).map Cell.addr := by
        rw [List.map_map, List.map_map]; exact e1
      have n1 : ((os.map oc).map Cell.addr).Pairwise (· ≠ ·) := List.pairwise_map.mpr n0.1
      rw [← this] at n1
      exact List.pairwise_map.mp n1
    · obtain ⟨r, hr, rfl⟩ := List.mem_map.mp hq
      exact Ne.symm (hnR _ (hmem r hr) z hz)

/-- the iterator is dropped -/
theorem Sat.endIt (x : Sat w c V s) {R : List Cell} {os : List (Addr × Obj)} (hV : V.Perm (os.map oc ++ R)) {h' : Heap} {t : Nat} (k : ∀ b o, b ∉ os.map (·.1) → s.heap.get? b = some o → h'.get? b = some o) : Sat w c R { s with heap := h', toks := t } := by
  have y := x.perm hV
  have hnI : ∀ b ∈ os.map (·.1), c.I.get? b = none := fun b hb => by
    obtain ⟨q, hq, rfl⟩ := List.mem_map.mp hb
    exact y.sepV (oc q) (List.mem_append.mpr (.inl (List.mem_map_of_mem hq)))
  have hnD : ∀ b ∈ os.map (·.1), ∀ q ∈ c.D, q.1 ≠ b := fun b hb q hq => by
    obtain ⟨z, hz, rfl⟩ := List.mem_map.mp hb
    exact Ne.symm (y.sepVD (oc z) (List.mem_append.mpr (.inl (List.mem_map_of_mem hz))) q hq)
  have hnR : ∀ b ∈ os.map (·.1), ∀ q ∈ R, q.addr ≠ b := fun b hb q hq => by
    obtain ⟨z, hz, rfl⟩ := List.mem_map.mp hb
    exact Ne.symm ((List.pairwise_append.mp y.nod).2.2 (oc z) (List.mem_map_of_mem hz) q hq)
  have z : Sat w c R s := y.sub (List.sublist_append_right _ _)
  exact ⟨z.st, fun b o e => k b o (fun hb => by rw [hnI b hb] at e; cases e) (z.keep b o e), fun q hq => Cell.at_of (z.vol q hq) fun o e => k _ o (fun hb => hnR _ hb q hq rfl) e,
    fun q hq => (z.vd q hq).of fun o e => k _ o (fun hb => hnD _ hb q hq rfl) e, z.sepV, z.sepD, z.sepVD, z.nod, z.gens, z.drawn, z.os⟩

theorem perm_out {fr : Cell} {U os R : List Cell} : (fr :: (U ++ (os ++ R))).Perm (os ++ (fr :: (U ++ R))) := by
  have h1 : (fr :: (U ++ (os ++ R))) = (fr :: U) ++ (os ++ R) := rfl
  have h2 : os ++ (fr :: (U ++ R)) = os ++ ((fr :: U) ++ R) := rfl
  rw [h1, h2, ← List.append_assoc, ← List.append_assoc]
  exact List.Perm.append_right R List.perm_append_comm

/-- what an iterator offers (its own cells: wr) -/
structure Iter (w : World) (A : Around) (I : Addr) (fp wr : List Addr) (n : Nat) (P : Nat → Value → Prop) (St : Nat → Heap → Prop) : Prop where
  W : Walks PySem.Challenge.pw_no0503_01 w A I fp wr n P St
  has : ∀ i h, St i h → ∀ b ∈ wr, ∃ o, h.get? b = some o

/-- a for over an iterator: J says what holds ahead of turn i (of the context, the frame's values, the cells of the frame's own) -/
theorem for_walk {I : Addr} {fp wr : List Addr} {n : Nat} {P : Nat → Value → Prop} {St : Nat → Heap → Prop} {target : Expr} {body : List Stmt} {Q : Flow → Shared → Prop} {L : Addr} {nm : List Str} {vs : List (Option Value)} {U R : List Cell} {os : List (Addr × Obj)}
    (J : Nat → Ctx → List (Option Value) → List Cell → Prop)
    (it : Iter w A I fp wr n P St) (hfp : ∀ b ∈ fp, b ∈ wr ∨ ∃ o, c.I.get? b = some o) (hos : os.map (·.1) = wr)
    (hgo : ∀ i (s : Shared) v (Q : Unit → Shared → Prop) (E : Value → Shared → Prop), St (i + 1) s.heap → P i v → Q () s → wpAny (MM w) A (letOwnedTupleGo target (.ref I) v) Q E s)
    (hS : Sat w c (.ns L (fm nm vs) :: (U ++ (os.map oc ++ R))) s) (hst : St 0 s.heap) (hJ : J 0 c vs U)
    (turn : ∀ i v c' vs' U' R' s', i < n → c.Le c' → P i v → J i c' vs' U' → R.Sublist R' → Sat w c' (.ns L (fm nm vs') :: (U' ++ R')) s' →
      wpAny (MM w) A (assign target env v) (fun _ s₂ => wpAny (MM w) A (execs body env) (fun f s₃ => match f with
        | .brk => ∃ c'' vs'' U'', c'.Le c'' ∧ Sat w c'' (.ns L (fm nm vs'') :: (U'' ++ R')) s₃ ∧ (∀ s₄, Sat w c'' (.ns L (fm nm vs'') :: (U'' ++ R)) s₄ → Q .next s₄)
        | .ret v => Q (.ret v) s₃
        | _ => ∃ c'' vs'' U'', c'.Le c'' ∧ J (i + 1) c'' vs'' U'' ∧ Sat w c'' (.ns L (fm nm vs'') :: (U'' ++ R')) s₃) (fun _ _ => False) s₂) (fun _ _ => False) s')
    (done : ∀ c' vs' U' s', c.Le c' → J n c' vs' U' → Sat w c' (.ns L (fm nm vs') :: (U' ++ R)) s' → Q .next s') :
    codeAny (MM w) A (.forLoop target (.ref I) body [] env) (fun r s' => match r with | .ok f => Q f s' | .error _ => False) s := by
  subst hos
  have step : ∀ i (c' : Ctx) (vs' : List (Option Value)) (U' : List Cell) (os' : List (Addr × Obj)) (s' : Shared), c.Le c' → os'.map (·.1) = os.map (·.1) → Sat w c' (.ns L (fm nm vs') :: (U' ++ (os'.map oc ++ R))) s' → ∀ h' t, (∀ b o, b ∉ os.map (·.1) → s'.heap.get? b = some o → h'.get? b = some o) → St i h' →
      ∃ os'' : List (Addr × Obj), os''.map (·.1) = os.map (·.1) ∧ Sat w c' (.ns L (fm nm vs') :: (U' ++ (os''.map oc ++ R))) { s' with heap := h', toks := t } := by
    intro i c' vs' U' os' s' _ e1 hs h' t k hst
    obtain ⟨os'', e2, h2⟩ := hs.turnIt perm_out (h' := h') (t := t) (fun b o hb => k b o (e1 ▸ hb)) (fun b hb => it.has i h' hst b (e1 ▸ hb))
    exact ⟨os'', e2.trans e1, h2 _ perm_out.symm⟩
  refine codeAny_forLoop_any (fun k s' => ∃ i c' vs' U' os', k = n - i ∧ i ≤ n ∧ c.Le c' ∧ J i c' vs' U' ∧ os'.map (·.1) = os.map (·.1) ∧ Sat w c' (.ns L (fm nm vs') :: (U' ++ (os'.map oc ++ R))) s' ∧ St i s'.heap) ?_ n ⟨0, c, vs, U, os, rfl, Nat.zero_le _, .refl _, hJ, rfl, hS, hst⟩
  rintro k s' ⟨i, c', vs', U', os', rfl, hin, hle, hj, e1, hs, hst'⟩
  rcases Nat.lt_or_ge i n with hlt | hge
  · refine it.W.item i s' _ _ hlt hst' fun v h' tk hP hst2 hk => ?_
    obtain ⟨os'', e2, hs2⟩ := step (i + 1) c' vs' U' os' s' hle e1 hs h' tk hk hst2
    dsimp only
    refine hgo i _ v _ _ hst2 hP ?_
    refine wpAny_mono (turn i v c' vs' U' (os''.map oc ++ R) _ hlt hle hP hj (List.sublist_append_right _ _) hs2) (fun _ s₂ h₂ => ?_) fun _ _ x => x.elim
    refine wpAny_mono h₂ (fun f s₃ h₃ => ?_) fun _ _ x => x.elim
    have back : ∀ {c'' vs'' U''}, c'.Le c'' → Sat w c'' (.ns L (fm nm vs'') :: (U'' ++ (os''.map oc ++ R))) s₃ → St (i + 1) s₃.heap := by
      intro c'' vs'' U'' l2 hs3
      refine it.W.frame _ _ _ hst2 fun b hb o e => ?_
      rcases hfp b hb with hb | ⟨o', ho'⟩
      · rw [← e2] at hb
        obtain ⟨q, hq, rfl⟩ := List.mem_map.mp hb
        have hm : ∀ X : List (Option Value), ∀ Y : List Cell, oc q ∈ Cell.ns L (fm nm X) :: (Y ++ (os''.map oc ++ R)) := fun X Y => .tail _ (List.mem_append.mpr (.inr (List.mem_append.mpr (.inl (List.mem_map_of_mem hq)))))
        obtain ⟨o1, k1, rfl⟩ := hs2.vol _ (hm vs' U')
        obtain ⟨o2, k2, rfl⟩ := hs3.vol _ (hm vs'' U'')
        have k1' : h'.get? q.1 = some q.2 := k1
        rw [k1'] at e
        cases e
        exact k2
      · have a1 : h'.get? b = some o' := hs2.keep b o' (hle.keep b o' ho')
        have e5 : o' = o := by rw [a1] at e; exact Option.some.inj e
        subst e5
        exact hs3.keep b _ (l2.keep b _ (hle.keep b _ ho'))
    cases f with
    | brk =>
      obtain ⟨c'', vs'', U'', l2, hs3, hq⟩ := h₃
      exact hq _ (hs3.sub (List.Sublist.cons_cons _ (List.Sublist.append_left (List.sublist_append_right _ _) _)))
    | ret v => exact h₃
    | next =>
      obtain ⟨c'', vs'', U'', l2, hj2, hs3⟩ := h₃
      exact ⟨n - (i + 1), by omega, i + 1, c'', vs'', U'', os'', rfl, hlt, hle.trans l2, hj2, e2, hs3, back l2 hs3⟩
    | cont =>
      obtain ⟨c'', vs'', U'', l2, hj2, hs3⟩ := h₃
      exact ⟨n - (i + 1), by omega, i + 1, c'', vs'', U'', os'', rfl, hlt, hle.trans l2, hj2, e2, hs3, back l2 hs3⟩
  · obtain rfl : i = n := Nat.le_antisymm hin hge
    refine it.W.done s' _ _ hst' fun h' tk hk => ?_
    dsimp only
    refine wpAny_execs_nil ?_
    exact done c' vs' U' _ hle hj (hs.endIt perm_out (fun b o hb => hk b o (e1 ▸ hb)))
end
inductive Atom where
  | none
  | str (s : Str)
  | pair (i j : Int)
noncomputable abbrev Tag := Option Str
inductive T where
  | name (s : Str)
  | null
  | miss
  | leaf (k : Str) (ds : List Atom)
  | call (l : List (Tag × T))

theorem T.ind {P : T → Prop} (h1 : ∀ s, P (.name s)) (h2 : P .null) (h3 : P .miss) (h4 : ∀ k ds, P (.leaf k ds)) (h5 : ∀ l, (∀ p ∈ l, P p.2) → P (.call l)) (t : T) : P t := by
  match t with
  | .name s => exact h1 s
  | .null => exact h2
  | .miss => exact h3
  | .leaf k ds => exact h4 k ds
  | .call l => exact h5 l fun p hp => T.ind h1 h2 h3 h4 h5 p.2
termination_by sizeOf t
decreasing_by
  have := List.sizeOf_lt_of_mem hp
  obtain ⟨g, u⟩ := p
  simp only [Prod.mk.sizeOf_spec] at this
  simp only [T.call.sizeOf_spec]
  (first | lia | omega)

theorem szT {p : Tag × T} {l : List (Tag × T)} (h : p ∈ l) : sizeOf p.2 < 1 + sizeOf l := by
  have := List.sizeOf_lt_of_mem h
  obtain ⟨g, u⟩ := p
  simp only [Prod.mk.sizeOf_spec] at this
  show sizeOf u < _
  (first | lia | omega)

noncomputable def Atom.toP : Atom → PyData
  | .none => .none
  | .str s => .str s
  | .pair i j => .tuple [.int i, .int j]
noncomputable def tagP : Tag → PyData
  | none => .none
  | some s => .str s
noncomputable def T.toP : T → PyData
  | .name s => .tuple [.str "name", .str s]
  | .null => .tuple [.str "NULL"]
  | .miss => .tuple [.str "missing"]
  | .leaf k ds => .tuple [.str k, .list (ds.map Atom.toP)]
  | .call l => .tuple [.str "call", .list (l.map fun p => p.2.toP), .list (l.map fun p => tagP p.1)]
termination_by t => sizeOf t
decreasing_by simpa using szT ‹_›
theorem toP_call (l : List (Tag × T)) : (T.call l).toP = .tuple [.str "call", .list (l.map fun p => p.2.toP), .list (l.map fun p => tagP p.1)] := by rw [T.toP]

noncomputable def dots : Str := "..."
noncomputable def one : Str := "."
noncomputable def two : Str := ".."

structure Tab where
  kvs : List (Str × T)
  rows : Option (List (Tag × T))

noncomputable def isDots : T → Bool
  | .name s => decide (s = dots)
  | _ => false
noncomputable def put (tab : Tab) : T → T
  | .name s => if s = dots then .name s else (tab.kvs.lookup s).getD (.name s)
  | .call l => .call (l.flatMap fun p => match isDots p.2, tab.rows with
      | true, some r => r
      | _, _ => [(p.1, put tab p.2)])
  | t => t
termination_by t => sizeOf t
decreasing_by simpa using szT ‹_›
theorem put_call (tab : Tab) (l : List (Tag × T)) : put tab (.call l) = .call (l.flatMap fun p => match isDots p.2, tab.rows with
      | true, some r => r
      | _, _ => [(p.1, put tab p.2)]) := by rw [put]

/-- '.', '..' or '' -/
noncomputable def hole : T → Str
  | .call [(_, .name s), _] => if s = one ∨ s = two then s else ""
  | _ => ""
noncomputable def inner : T → T
  | .call [_, (_, t)] => t
  | t => t
noncomputable def parts : T → List (Tag × T)
  | .call l => l
  | .null => []
  | .name s => [(none, .name s)]
  | .miss => [(none, .miss)]
  | .leaf k ds => ds.map fun d => (none, .leaf k [d])
noncomputable def quoted : T → T
  | .call l => if hole (.call l) = one then inner (.call l) else match l with
    | [] => .call []
    | p :: r => .call ((p.1, quoted p.2) :: r.flatMap fun q => if hole q.2 = two then parts (inner q.2) else [(q.1, quoted q.2)])
  | t => t
termination_by t => sizeOf t
decreasing_by
  · have := szT (List.mem_cons_self (a := p) (l := r)); simpa using this
  · have := szT (List.mem_cons_of_mem p ‹_›); simpa using this
noncomputable def qlist : List (Tag × T) → List (Tag × T)
  | [] => []
  | p :: r => (p.1, quoted p.2) :: r.flatMap fun q => if hole q.2 = two then parts (inner q.2) else [(q.1, quoted q.2)]
theorem quoted_call (l : List (Tag × T)) : quoted (.call l) = if hole (.call l) = one then inner (.call l) else .call (qlist l) := by
  rw [quoted.eq_def]
  cases l <;> rfl

noncomputable def isName : T → Bool
  | .name _ => true
  | _ => false
noncomputable def names (heads : Bool) : T → List Str
  | .name s => [s]
  | .call l => (match l with
    | [] => []
    | p :: r => (if heads || !isName p.2 then names heads p.2 else []) ++ r.flatMap fun q => names heads q.2)
  | _ => []
termination_by t => sizeOf t
decreasing_by
  · have := szT (List.mem_cons_self (a := p) (l := r)); simpa using this
  · have := szT (List.mem_cons_of_mem p ‹_›); simpa using this
noncomputable def deep : T → Nat
  | .call l => 1 + (l.map fun p => deep p.2).foldr max 0
  | _ => 0
termination_by t => sizeOf t
decreasing_by simpa using szT ‹_›
theorem deep_call (l : List (Tag × T)) : deep (.call l) = 1 + (l.map fun p => deep p.2).foldr max 0 := by rw [deep]

noncomputable def sz : T → Nat
  | .call l => 1 + (l.map fun p => sz p.2).sum
  | _ => 1
termination_by t => sizeOf t
decreasing_by simpa using szT ‹_›
theorem sz_call (l : List (Tag × T)) : sz (.call l) = 1 + (l.map fun p => sz p.2).sum := by rw [sz]
theorem deep_mem {l : List (Tag × T)} {p : Tag × T} (h : p ∈ l) : deep p.2 + 1 ≤ deep (.call l) := by
  rw [deep_call]
  have : ∀ l : List (Tag × T), p ∈ l → deep p.2 ≤ (l.map fun p => deep p.2).foldr max 0 := by
    intro l
    induction l with
    | nil => intro h; cases h
    | cons q r ih =>
      intro h
      simp only [List.map_cons, List.foldr_cons]
      rcases List.mem_cons.mp h with rfl | h
      · (first | lia | omega)
      · have := ih h; (first | lia | omega)
  have := this l h; (first | lia | omega)
theorem names_call (b : Bool) (p : Tag × T) (r : List (Tag × T)) : names b (.call (p :: r)) = (if b || !isName p.2 then names b p.2 else []) ++ r.flatMap fun q => names b q.2 := by
  rw [names]
theorem names_sz (b : Bool) (t : T) : (names b t).length ≤ sz t := by
  induction t using T.ind with
  | h1 s => simp [names, sz]
  | h2 => simp [names]
  | h3 => simp [names]
  | h4 k ds => simp [names]
  | h5 l ih =>
    cases l with
    | nil => simp [names]
    | cons p r =>
      rw [names_call, sz_call]
      have h1 := ih p (.head _)
      have h2 : ∀ r : List (Tag × T), (∀ q ∈ r, (names b q.2).length ≤ sz q.2) → (r.flatMap fun q => names b q.2).length ≤ (r.map fun p => sz p.2).sum := by
        intro r
        induction r with
        | nil => intro _; simp
        | cons q r ih =>
          intro h
          have a := h q (.head _)
          have b := ih fun z hz => h z (.tail _ hz)
          simp only [List.flatMap_cons, List.length_append, List.map_cons, List.sum_cons]
          (first | lia | omega)
      have h3 := h2 r fun q hq => ih q (.tail _ hq)
      simp only [List.length_append, List.map_cons, List.sum_cons]
      split
      · (first | lia | omega)
      · simp only [List.length_nil]; (first | lia | omega)

/-- every call holds between one and n items; the texts are texts -/
inductive Wide (n : Nat) : T → Prop
  | name {s : Str} : PyData.strOk s = true → s ≠ "" → Wide n (.name s)
  | null : Wide n .null
  | miss : Wide n .miss
  | leaf {k : Str} {ds : List Atom} : PyData.strOk k = true → ds.length ≤ n → (∀ d ∈ ds, ∀ s, d = .str s → PyData.strOk s = true) → Wide n (.leaf k ds)
  | call {l : List (Tag × T)} : l ≠ [] → l.length ≤ n → (∀ p ∈ l, Wide n p.2) → (∀ p ∈ l, ∀ s, p.1 = some s → PyData.strOk s = true) → Wide n (.call l)
noncomputable def fnChk (w : World) (f : Addr) (nm : List Str) (gl : List (Str × Value)) : Bool :=
  (match (KK w).lookup f with | some ⟨_, _, .func _, _⟩ => true | _ => false) &&
  (match (fdAt w f).body with | .stmts _ => true | _ => false) &&
  codeIn (KK w) (fdAt w f).code (fdAt w f).qualname &&
  decide ((fdAt w f).scope.kind = .function) && decide (nm.Nodup) &&
  (nm.all fun x => decide ((fdAt w f).scope.names.lookup x = some .local) && !(x == ("__debug__" : Str))) &&
  (gl.all fun p => decide ((fdAt w f).scope.names.lookup p.1 = some .globalImplicit) && !(p.1 == ("__debug__" : Str)) &&
    (decide (nsIn (KK w) mainGlobals p.1 = some (some p.2)) || (decide (nsIn (KK w) mainGlobals p.1 = some none) && decide (bootBuiltins p.1 = some p.2) && decide (p.1 ≠ "__name__")))) &&
  decide ((fdAt w f).globals = mainGlobals) && decide ((fdAt w f).builtins = builtinsNs) &&
  ((fdAt w f).scope.names.all fun x => decide (x.2 ≠ .cell)) && !(fdAt w f).scope.isCoroutine && !(fdAt w f).scope.isGenerator
theorem FnOk.of {w : World} {f : Addr} {nm : List Str} {gl : List (Str × Value)} (h : fnChk w f nm gl = true) : FnOk w f nm gl := by
  unfold fnChk at h
  simp only [Bool.and_eq_true, decide_eq_true_eq, List.all_eq_true, Bool.or_eq_true, Bool.not_eq_true'] at h
  obtain ⟨⟨⟨⟨⟨⟨⟨⟨⟨⟨⟨h1, h2⟩, h3⟩, h4⟩, h5⟩, h6⟩, h7⟩, h8⟩, h9⟩, h10⟩, h11⟩, h12⟩ := h
  refine ⟨?_, ?_, h3, fun L => ⟨h4, h5, fun x hx => ⟨(h6 x hx).1, (h6 x hx).2⟩, fun p hp => ?_, h8, h9⟩, h10, fun x hx => (h6 x hx).1, h11, h12⟩
  · unfold fdAt
    split at h1
    · rename_i fd _ e; exact ⟨_, e, by first | rfl | rw [e]⟩
    · cases h1
  · unfold bodyAt
    split at h2
    · rename_i b e; rw [e]
    · cases h2
  · obtain ⟨⟨a1, a2⟩, a3⟩ := h7 p hp
    refine ⟨a1, a2, ?_⟩
    rcases a3 with a | ⟨⟨a, b⟩, d⟩
    · exact .own a
    · exact .boot a b d

noncomputable abbrev nmNull : List Str := ["kind", "attrs"]
noncomputable abbrev nmSym : List Str := ["kind", "name", "attrs"]
noncomputable abbrev nmCall : List Str := ["kind", "items", "tags", "attrs", "code"]
noncomputable abbrev nmVec : List Str := ["kind", "items", "attrs", "loose"]
noncomputable abbrev nmVecS : List Str := ["kind", "items", "attrs", "shared", "loose"]

noncomputable def clsChk (w : World) (C : Addr) (nm : List Str) : Bool :=
  decide (nm.Nodup) && decide (findIn (KK w) (.ref C) "__getattribute__" = some (some (.builtin "object.__getattribute__"))) &&
  (match clsIn (KK w) C with | some cd => cd.hasDict | none => false) && (nm.all fun x => decide (findIn (KK w) (.ref C) x = some none)) &&
  decide (findIn (KK w) (.ref C) "__setattr__" = some (some (.builtin "object.__setattr__"))) && plainOver (KK w) C && (nm.all fun x => decide (takerIn (KK w) C x = some none))
theorem cls_of {w : World} {C : Addr} {nm : List Str} (h : clsChk w C nm = true) : ClsOk w C nm ∧ ClsSet w C nm := by
  unfold clsChk at h
  simp only [Bool.and_eq_true, decide_eq_true_eq, List.all_eq_true] at h
  obtain ⟨⟨⟨⟨⟨⟨h1, h2⟩, h3⟩, h4⟩, h5⟩, h6⟩, h7⟩ := h
  split at h3
  · rename_i cd e
    refine ⟨⟨h1, h2, ⟨cd, e, h3⟩, h4⟩, ⟨h5, h6, h7, ?_⟩⟩
    rw [e]; exact h3
  · cases h3

theorem clsNull (w : World) : ClsOk w 38 nmNull ∧ ClsSet w 38 nmNull := cls_of (by kernel_rfl)
theorem clsMiss (w : World) : ClsOk w 59 nmNull ∧ ClsSet w 59 nmNull := cls_of (by kernel_rfl)
theorem clsSym (w : World) : ClsOk w 109 nmSym ∧ ClsSet w 109 nmSym := cls_of (by kernel_rfl)
theorem clsCall (w : World) : ClsOk w 131 nmCall ∧ ClsSet w 131 nmCall := cls_of (by kernel_rfl)
theorem clsVec (w : World) : ClsOk w 88 nmVec ∧ ClsSet w 88 nmVec := cls_of (by kernel_rfl)
theorem clsVecS (w : World) : ClsOk w 88 nmVecS ∧ ClsSet w 88 nmVecS := cls_of (by kernel_rfl)

noncomputable abbrev nm163 : List Str := ["e"]
theorem ok163 (w : World) : FnOk w 163 nm163 [] := .of (by kernel_rfl)
noncomputable abbrev nm170 : List Str := ["e", "functions", "found", "parts", "part"]
noncomputable abbrev gl170 : List (Str × Value) := [("children", .ref 163), ("add_names", .ref 170)]
theorem ok170 (w : World) : FnOk w 170 nm170 gl170 := .of (by kernel_rfl)
noncomputable def TagIs : Tag → Value → Prop
  | none, v => v = .none
  | some s, v => ∃ t, v = .str s t
noncomputable def RD (c : Ctx) (d : PyData) (v : Value) : Prop := ∃ as, Reads c.I v d as
noncomputable def RDs (c : Ctx) (ds : List PyData) (vs : List Value) : Prop := ∃ as, ReadsAll c.I vs ds as
/-- the law's tree -/
noncomputable def IsL (c : Ctx) (t : T) (v : Value) : Prop := RD c t.toP v

structure LeafK (k : Str) : Prop where
  h1 : k ≠ "symbol"
  h2 : k ≠ "language"
  h3 : k ≠ "expression"
  h4 : k ≠ "NULL"
  h5 : k ≠ "missing"
  h6 : k ≠ "list"
  h7 : k ≠ "pairlist"
  h8 : k ≠ "name"
  h9 : k ≠ "call"
inductive IsV (w : World) (c : Ctx) : T → Value → Prop
  | name {a : Addr} {t t' : Tok} {s : Str} : ObjI w c a 109 nmSym [some (.str "symbol" t), some (.str s t'), some .none] → IsV w c (.name s) (.ref a)
  | null {a : Addr} {t : Tok} : ObjI w c a 38 nmNull [some (.str "NULL" t), some .none] → IsV w c .null (.ref a)
  | miss {a : Addr} {t : Tok} : ObjI w c a 59 nmNull [some (.str "missing" t), some .none] → IsV w c .miss (.ref a)
  | leaf {a li : Addr} {t : Tok} {k : Str} {ds : List Atom} {vs : List Value} : LeafK k → VecI w c a 88 nmVec [some (.str k t), some (.ref li), some .none, some (.bool false)] → c.I.PlainList li vs.toArray → RDs c (ds.map Atom.toP) vs → IsV w c (.leaf k ds) (.ref a)
  | call {a li lt : Addr} {t : Tok} {l : List (Tag × T)} {vs ts : List Value} : ObjI w c a 131 nmCall [some (.str "language" t), some (.ref li), some (.ref lt), some .none, some .none] → c.I.PlainList li vs.toArray → c.I.PlainList lt ts.toArray →
      vs.length = l.length → ts.length = l.length → (∀ (i : Nat) p u, l[i]? = some p → vs[i]? = some u → IsV w c p.2 u) → (∀ (i : Nat) p u, l[i]? = some p → ts[i]? = some u → TagIs p.1 u) → IsV w c (.call l) (.ref a)
noncomputable def IsVs (w : World) (c : Ctx) (l : List T) (vs : List Value) : Prop := vs.length = l.length ∧ ∀ (i : Nat) p u, l[i]? = some p → vs[i]? = some u → IsV w c p u
noncomputable def TagsAre (l : List Tag) (vs : List Value) : Prop := vs.length = l.length ∧ ∀ (i : Nat) p u, l[i]? = some p → vs[i]? = some u → TagIs p u

theorem RD.mono {c c' : Ctx} {d : PyData} {v : Value} (x : RD c d v) (l : c.Le c') : RD c' d v := let ⟨as, r⟩ := x; ⟨as, PyProof.Rows.Reads.keeps l.keep r⟩
theorem RDs.mono {c c' : Ctx} {d : List PyData} {v : List Value} (x : RDs c d v) (l : c.Le c') : RDs c' d v := let ⟨as, r⟩ := x; ⟨as, ReadsAll.keeps l.keep r⟩
theorem IsL.mono {c c' : Ctx} {t : T} {v : Value} (x : IsL c t v) (l : c.Le c') : IsL c' t v := RD.mono x l
theorem IsV.mono {w : World} {c c' : Ctx} {t : T} {v : Value} (x : IsV w c t v) (l : c.Le c') : IsV w c' t v := by
  induction x with
  | name h => exact .name (h.mono l)
  | null h => exact .null (h.mono l)
  | miss h => exact .miss (h.mono l)
  | leaf h0 h1 h2 h3 => exact .leaf h0 (h1.mono l) (Heap.PlainList.keeps h2 l.keep) (h3.mono l)
  | call h1 h2 h3 h4 h5 _ h7 ih => exact .call (h1.mono l) (Heap.PlainList.keeps h2 l.keep) (Heap.PlainList.keeps h3 l.keep) h4 h5 ih h7
theorem IsVs.mono {w : World} {c c' : Ctx} {t : List T} {v : List Value} (x : IsVs w c t v) (l : c.Le c') : IsVs w c' t v := ⟨x.1, fun i p u h1 h2 => (x.2 i p u h1 h2).mono l⟩
theorem IsV.handed {w : World} {c : Ctx} {t : T} {v : Value} (x : IsV w c t v) : handedIn v = true := by cases x <;> rfl
theorem IsV.ref {w : World} {c : Ctx} {t : T} {v : Value} (x : IsV w c t v) : ∃ a, v = .ref a := by cases x <;> exact ⟨_, rfl⟩

/-! reading the law's data -/
theorem rd_tup {c : Ctx} {ds : List PyData} {v : Value} (x : RD c (.tuple ds) v) : ∃ a vs, v = .ref a ∧ c.I.IsTuple a vs.toArray ∧ RDs c ds vs := by
  obtain ⟨as, r⟩ := x
  cases r with
  | @tuple a o vs n _ _ h1 h2 h3 h4 => exact ⟨a, vs.toList, rfl, ⟨o, h1, h2, n, by simpa using h3⟩, _, h4⟩
theorem rd_list {c : Ctx} {ds : List PyData} {v : Value} (x : RD c (.list ds) v) : ∃ a vs, v = .ref a ∧ c.I.IsList a vs.toArray ∧ RDs c ds vs := by
  obtain ⟨as, r⟩ := x
  cases r with
  | @list a o vs n _ _ h1 h2 h3 h4 => exact ⟨a, vs.toList, rfl, ⟨o, h1, h2, n, by simpa using h3⟩, _, h4⟩
theorem rd_str {c : Ctx} {s : Str} {v : Value} (x : RD c (.str s) v) : ∃ t, v = .str s t := by obtain ⟨as, r⟩ := x; cases r; exact ⟨_, rfl⟩
theorem rd_int {c : Ctx} {s : Int} {v : Value} (x : RD c (.int s) v) : ∃ t, v = .int s t := by obtain ⟨as, r⟩ := x; cases r; exact ⟨_, rfl⟩
theorem rd_none {c : Ctx} {v : Value} (x : RD c .none v) : v = .none := by obtain ⟨as, r⟩ := x; cases r; rfl
theorem rds_cons {c : Ctx} {d : PyData} {ds : List PyData} {vs : List Value} (x : RDs c (d :: ds) vs) : ∃ v r, vs = v :: r ∧ RD c d v ∧ RDs c ds r := by
  obtain ⟨as, r⟩ := x; cases r with | cons h1 h2 => exact ⟨_, _, rfl, ⟨_, h1⟩, ⟨_, h2⟩⟩
theorem rds_nil {c : Ctx} {vs : List Value} (x : RDs c [] vs) : vs = [] := by obtain ⟨as, r⟩ := x; cases r; rfl
theorem rds_mk {c : Ctx} : RDs c [] [] := ⟨_, .nil⟩
theorem rds_mkc {c : Ctx} {d : PyData} {ds : List PyData} {v : Value} {vs : List Value} (h1 : RD c d v) (h2 : RDs c ds vs) : RDs c (d :: ds) (v :: vs) := let ⟨_, a⟩ := h1; let ⟨_, b⟩ := h2; ⟨_, .cons a b⟩
theorem rds_len {c : Ctx} {ds : List PyData} {vs : List Value} (x : RDs c ds vs) : vs.length = ds.length := by
  induction ds generalizing vs with
  | nil => rw [rds_nil x]; rfl
  | cons d ds ih => obtain ⟨v, r, rfl, _, h⟩ := rds_cons x; simp [ih h]
theorem rds_get {c : Ctx} {ds : List PyData} {vs : List Value} (x : RDs c ds vs) {i : Nat} {d : PyData} {v : Value} (h1 : ds[i]? = some d) (h2 : vs[i]? = some v) : RD c d v := by
  induction ds generalizing vs i with
  | nil => cases h1
  | cons e ds ih =>
    obtain ⟨u, r, rfl, h, hr⟩ := rds_cons x
    cases i with
    | zero => simp at h1 h2; subst h1 h2; exact h
    | succ i => exact ih hr (by simpa using h1) (by simpa using h2)
theorem rds_of {c : Ctx} {ds : List PyData} {vs : List Value} (hl : vs.length = ds.length) (h : ∀ (i : Nat) d v, ds[i]? = some d → vs[i]? = some v → RD c d v) : RDs c ds vs := by
  induction ds generalizing vs with
  | nil => rw [List.length_eq_zero_iff.mp hl]; exact rds_mk
  | cons d ds ih =>
    cases vs with
    | nil => cases hl
    | cons v vs => exact rds_mkc (h 0 d v rfl rfl) (ih (by simpa using hl) fun i e u h1 h2 => h (i + 1) e u (by simpa using h1) (by simpa using h2))
theorem rd_mkt {c : Ctx} {ds : List PyData} {vs : List Value} {a : Addr} (h : c.I.IsTuple a vs.toArray) (r : RDs c ds vs) : RD c (.tuple ds) (.ref a) := by
  obtain ⟨o, e, h1, n, h2⟩ := h; obtain ⟨as, q⟩ := r
  exact ⟨_, .tuple e h1 h2 (by simpa using q)⟩
theorem rd_mkl {c : Ctx} {ds : List PyData} {vs : List Value} {a : Addr} (h : c.I.IsList a vs.toArray) (r : RDs c ds vs) : RD c (.list ds) (.ref a) := by
  obtain ⟨o, e, h1, n, h2⟩ := h; obtain ⟨as, q⟩ := r
  exact ⟨_, .list e h1 h2 (by simpa using q)⟩
theorem tag_rd {c : Ctx} {g : Tag} {v : Value} (x : RD c (tagP g) v) : TagIs g v := by
  cases g with
  | none => exact rd_none x
  | some s => exact rd_str x
theorem rd_tag {c : Ctx} {g : Tag} {v : Value} (x : TagIs g v) : RD c (tagP g) v := by
  cases g with
  | none => rw [show v = .none from x]; exact ⟨_, .none⟩
  | some s => obtain ⟨t, rfl⟩ := x; exact ⟨_, .str s t⟩

theorem rds_append {c : Ctx} {ds es : List PyData} {vs us : List Value} (h1 : RDs c ds vs) (h2 : RDs c es us) : RDs c (ds ++ es) (vs ++ us) := by
  induction ds generalizing vs with
  | nil => rw [rds_nil h1]; exact h2
  | cons d ds ih => obtain ⟨v, r, rfl, a, b⟩ := rds_cons h1; exact rds_mkc a (ih b)
theorem rds_one {c : Ctx} {d : PyData} {v : Value} (h : RD c d v) : RDs c [d] [v] := rds_mkc h rds_mk
theorem rd_s {c : Ctx} {x : Str} {t : Tok} : RD c (.str x) (.str x t) := ⟨_, .str x t⟩
theorem rd_i {c : Ctx} {x : Int} {t : Tok} : RD c (.int x) (.int x t) := ⟨_, .int x t⟩
theorem rd_n {c : Ctx} : RD c .none .none := ⟨_, .none⟩

noncomputable def kids : T → List (Tag × T)
  | .call l => l
  | _ => []
section
variable {w : World} {A : Around} {E : Value → Shared → Prop} {c : Ctx} {V V' : List Cell} {s : Shared} {env : Env} {p : Cell}

theorem Sat.dropBut (x : Sat w c (p :: V) s) {h' : Heap} {t : Nat} (k : ∀ b o, b ≠ p.addr → s.heap.get? b = some o → h'.get? b = some o) : Sat w c V { s with heap := h', toks := t } := by
  have hp : p ∈ p :: V := .head _
  have z : Sat w c V s := x.drop
  exact ⟨z.st, fun b o e => k b o (fun q => by have := x.sepV p hp; rw [← q, e] at this; cases this) (z.keep b o e), fun q hq => Cell.at_of (z.vol q hq) fun o e => k _ o (Ne.symm ((List.pairwise_cons.mp x.nod).1 q hq)) e,
    fun q hq => (z.vd q hq).of fun o e => k _ o (Ne.symm (x.sepVD p hp q hq)) e, z.sepV, z.sepD, z.sepVD, z.nod, z.gens, z.drawn, z.os⟩

theorem perm_in {q fr : Cell} {U R : List Cell} : (q :: fr :: (U ++ R)).Perm (fr :: (U ++ ([q] ++ R))) := (perm_out (fr := fr) (U := U) (os := [q]) (R := R)).symm
theorem asgn {x : Str} {px : Pos} {nm : List Str} {gl : List (Str × Value)} {vs vs' : List (Option Value)} {v : Value} {Q : Unit → Shared → Prop} (hE : FrOk w env nm gl) (hS : Sat w c (.ns env.locals (fm nm vs) :: V) s) (hl : SetF nm vs x v vs') (h : ∀ s', Sat w c (.ns env.locals (fm nm vs') :: V) s' → Q () s') :
    wpAny (MM w) A (assign (.Name x px) env v) Q E s := wpAny_assign_Name (st hE hS hl h)

/-- iterators -/
theorem iter_list (hh : A.handled = none) {I l : Addr} (hne : l ≠ I) (xs : List Value) : Iter w A I [I, l] [I] xs.length (fun i v => xs[i]? = some v) (fun i h => h.IsListIter I l i ∧ h.IsList l xs.toArray) where
  W := by
    have W := Walks.list (prog := PySem.Challenge.pw_no0503_01) (w := w) hh I l hne xs.toArray
    rw [List.size_toArray] at W
    exact ⟨W.sub, W.frame, fun i s Q E hi hs hQ => W.item i s Q E hi hs (fun v h' tk hv => hQ v h' tk (by simpa using hv)), W.done, W.self⟩
  has := fun i h st b hb => by rw [List.mem_singleton.mp hb]; obtain ⟨⟨o, e, _⟩, _⟩ := st; exact ⟨o, e⟩
theorem iter_range (hh : A.handled = none) (I : Addr) (n : Nat) : Iter w A I [I] [I] n (fun i v => ∃ t, v = .int (i : Int) t) (fun i h => IsRangeIter h I ((i : Nat) : Int) ((n : Int) - (i : Nat)) 1) where
  W := by
    have W := Walks.range (prog := PySem.Challenge.pw_no0503_01) (w := w) hh I 0 1 n
    have e : ∀ i : Nat, (0 : Int) + (i : Int) * 1 = (i : Int) := fun i => by omega
    simp only [e] at W
    exact W
  has := fun i h st b hb => by rw [List.mem_singleton.mp hb]; exact ⟨_, st⟩

/-- a for over a list that stays -/
theorem for_list {l : Addr} {xs : List Value} {target : Expr} {body : List Stmt} {Q : Flow → Shared → Prop} {nm : List Str} {vs : List (Option Value)} (U R : List Cell)
    (J : Nat → Ctx → List (Option Value) → List Cell → Prop) (hh : A.handled = none) (hl : c.I.IsList l xs.toArray)
    (hgo : ∀ I i (s : Shared) v (Q : Unit → Shared → Prop) (E : Value → Shared → Prop), s.heap.IsListIter I l i → Q () s → wpAny (MM w) A (letOwnedTupleGo target (.ref I) v) Q E s)
    (hS : Sat w c (.ns env.locals (fm nm vs) :: (U ++ R)) s) (hJ : J 0 c vs U)
    (turn : ∀ i v c' vs' U' R' s', xs[i]? = some v → c.Le c' → J i c' vs' U' → R.Sublist R' → Sat w c' (.ns env.locals (fm nm vs') :: (U' ++ R')) s' →
      wpAny (MM w) A (assign target env v) (fun _ s₂ => wpAny (MM w) A (execs body env) (fun f s₃ => match f with
        | .brk => ∃ c'' vs'' U'', c'.Le c'' ∧ Sat w c'' (.ns env.locals (fm nm vs'') :: (U'' ++ R')) s₃ ∧ (∀ s₄, Sat w c'' (.ns env.locals (fm nm vs'') :: (U'' ++ R)) s₄ → Q .next s₄)
        | .ret v => Q (.ret v) s₃
        | _ => ∃ c'' vs'' U'', c'.Le c'' ∧ J (i + 1) c'' vs'' U'' ∧ Sat w c'' (.ns env.locals (fm nm vs'') :: (U'' ++ R')) s₃) (fun _ _ => False) s₂) (fun _ _ => False) s')
    (done : ∀ c' vs' U' s', c.Le c' → J xs.length c' vs' U' → Sat w c' (.ns env.locals (fm nm vs') :: (U' ++ R)) s' → Q .next s') :
    wpAny (MM w) A (pyIter (.ref l)) (fun it s₂ => codeAny (MM w) A (.forLoop target it body [] env) (fun r s' => match r with | .ok f => Q f s' | .error e => cameBackBy (MM w) A env E e s') s₂) E s := by
  have hls := hS.isl hl
  have hne : l ≠ s.heap.objs.size := Nat.ne_of_lt (let ⟨o, e, _⟩ := hls; Heap.lt_size e)
  refine wpAny_pyIter_list hls ?_
  have hS2 : Sat w c (.ns env.locals (fm nm vs) :: (U ++ ([(s.heap.objs.size, ({ cls := .type "list_iterator", data := .fields #[.ref l, .int 0 0] } : Obj))].map oc ++ R))) { s with heap := s.heap.push { cls := .type "list_iterator", data := .fields #[.ref l, .int 0 0] } } := by
    have y := hS.new (p := oc (s.heap.objs.size, ({ cls := .type "list_iterator", data := .fields #[.ref l, .int 0 0] } : Obj))) (t := s.toks) (h' := s.heap.push { cls := .type "list_iterator", data := .fields #[.ref l, .int 0 0] }) (fun _ _ e => Heap.get?_push_of_some _ e) (Nat.le_refl _) ⟨_, Heap.get?_push_size _ rfl, rfl⟩
    exact y.perm perm_in
  refine codeAny_mono (for_walk J (iter_list hh hne xs) ?_ rfl ?_ hS2 ?_ hJ (fun i v c' vs' U' R' s' hi => ?_) done) (fun r s' h => ?_)
  · intro b hb
    rcases List.mem_cons.mp hb with rfl | hb
    · exact .inl (.head _)
    · rw [List.mem_singleton.mp hb]
      obtain ⟨o, e, _⟩ := hl
      exact .inr ⟨o, e⟩
  · intro i s' v Q' E' st _ q
    exact hgo _ _ s' v Q' E' st.1 q
  · exact ⟨⟨_, Heap.get?_push_size _ rfl, rfl, rfl⟩, hls.push _⟩
  · intro l1 hv
    exact turn i v c' vs' U' R' s' hv l1
  · cases r with
    | ok f => exact h
    | error e => exact h.elim

theorem range_ {n : Nat} {t : Tok} {Q : Value → Shared → Prop} (hS : Sat w c V s) (h : ∀ r s' t u v, Sat w c V s' → IsRange s'.heap r 0 n 1 t u v → Q (.ref r) s') : wpAny (MM w) A (call (.type "range") [.int n t]) Q E s :=
  call_range_1 (h _ _ _ _ _ (hS.push _ _) (IsRange.new _ _ _ _ _ _ _))

/-- a for over range(n) -/
theorem for_range {r : Addr} {n : Nat} {t u v : Tok} {x : Str} {px : Pos} {body : List Stmt} {Q : Flow → Shared → Prop} {nm : List Str} {vs : List (Option Value)} (U R : List Cell)
    (J : Nat → Ctx → List (Option Value) → List Cell → Prop) (hh : A.handled = none) (hr : IsRange s.heap r 0 n 1 t u v) (hn : n ≤ 100000)
    (hS : Sat w c (.ns env.locals (fm nm vs) :: (U ++ R)) s) (hJ : J 0 c vs U)
    (turn : ∀ (i : Nat) t c' vs' U' R' s', i < n → c.Le c' → J i c' vs' U' → R.Sublist R' → Sat w c' (.ns env.locals (fm nm vs') :: (U' ++ R')) s' →
      wpAny (MM w) A (assign (.Name x px) env (.int i t)) (fun _ s₂ => wpAny (MM w) A (execs body env) (fun f s₃ => match f with
        | .brk => ∃ c'' vs'' U'', c'.Le c'' ∧ Sat w c'' (.ns env.locals (fm nm vs'') :: (U'' ++ R')) s₃ ∧ (∀ s₄, Sat w c'' (.ns env.locals (fm nm vs'') :: (U'' ++ R)) s₄ → Q .next s₄)
        | .ret v => Q (.ret v) s₃
        | _ => ∃ c'' vs'' U'', c'.Le c'' ∧ J (i + 1) c'' vs'' U'' ∧ Sat w c'' (.ns env.locals (fm nm vs'') :: (U'' ++ R')) s₃) (fun _ _ => False) s₂) (fun _ _ => False) s')
    (done : ∀ c' vs' U' s', c.Le c' → J n c' vs' U' → Sat w c' (.ns env.locals (fm nm vs') :: (U' ++ R)) s' → Q .next s') :
    wpAny (MM w) A (pyIter (.ref r)) (fun it s₂ => codeAny (MM w) A (.forLoop (.Name x px) it body [] env) (fun r s' => match r with | .ok f => Q f s' | .error e => cameBackBy (MM w) A env E e s') s₂) E s := by
  refine wpAny_pyIter_range hr (small_one (by decide) (by decide) (by omega) (by omega)) ?_
  have e1 : Builtin.Range.rangeSize 0 n 1 = (n : Int) := by rw [rangeSize_one]; split <;> omega
  rw [e1]
  have hS2 : Sat w c (.ns env.locals (fm nm vs) :: (U ++ ([(s.heap.objs.size, ({ cls := .type "range_iterator", data := .fields #[rawInt 0, rawInt n, rawInt 1] } : Obj))].map oc ++ R))) { s with heap := s.heap.push { cls := .type "range_iterator", data := .fields #[rawInt 0, rawInt n, rawInt 1] } } := by
    have y := hS.new (p := oc (s.heap.objs.size, ({ cls := .type "range_iterator", data := .fields #[rawInt 0, rawInt n, rawInt 1] } : Obj))) (t := s.toks) (h' := s.heap.push { cls := .type "range_iterator", data := .fields #[rawInt 0, rawInt n, rawInt 1] }) (fun _ _ e => Heap.get?_push_of_some _ e) (Nat.le_refl _) ⟨_, Heap.get?_push_size _ rfl, rfl⟩
    exact y.perm perm_in
  refine codeAny_mono (for_walk J (iter_range hh _ n) ?_ rfl ?_ hS2 ?_ hJ (fun i v c' vs' U' R' s' hi l1 hv => ?_) done) (fun r s' h => ?_)
  · intro b hb; exact .inl hb
  · intro i s' v Q' E' _ _ q
    exact wpAny_pure q
  · show IsRangeIter _ _ _ _ _
    simpa using Heap.get?_push_size s.heap (o := { cls := .type "range_iterator", data := .fields #[rawInt 0, rawInt n, rawInt 1] }) rfl
  · obtain ⟨t, rfl⟩ := hv
    exact turn i t c' vs' U' R' s' hi l1
  · cases r with
    | ok f => exact h
    | error e => exact h.elim
end
noncomputable def tests (ifs : List Expr) (env : Env) : Sem Bool := forIn ifs true fun c r => if r = true then do let ok ← isTrue c env (eval c env); pure (ForInStep.yield ok) else pure (ForInStep.yield r)

section
variable {w : World} {A : Around} {E : Value → Shared → Prop} {c : Ctx} {V V' : List Cell} {s : Shared} {env : Env} {p : Cell} {R' : Result → Shared → Prop}

theorem compLoop_any {elt target iter : Expr} {ifs : List Expr} {scope : Scope} {pos : Pos} {it acc : Value} {R : Result → Shared → Prop} (I : Nat → Shared → Prop)
    (turn : ∀ n s, I n s → wpAny (MM w) A (pyNext it) (fun r s₁ => match r with
      | none => R (.ok .next) s₁
      | some v => wpAny (MM w) A (letOwnedTupleGo target it v) (fun _ s₁' => wpAny (MM w) A (assign target env v) (fun _ s₂ =>
          wpAny (MM w) A (tests ifs env) (fun ok s₃ =>
            if ok = true then wpAny (MM w) A (eval elt env) (fun x s₄ =>
              wpAny (MM w) A (call (.builtin "list.append") [acc, x]) (fun _ s₅ => ∃ m, m < n ∧ I m s₅) (notedBy (MM w) A env fun e s' => R (.error e) s') s₄) (notedBy (MM w) A env fun e s' => R (.error e) s') s₃
            else ∃ m, m < n ∧ I m s₃) (notedBy (MM w) A env fun e s' => R (.error e) s') s₂) (notedBy (MM w) A env fun e s' => R (.error e) s') s₁') (notedBy (MM w) A env fun e s' => R (.error e) s') s₁) (notedBy (MM w) A env fun e s' => R (.error e) s') s)
    (n : Nat) (h : I n s) : codeAny (MM w) A (.compLoop (.ListComp elt [⟨target, iter, ifs, 0⟩] scope pos) 0 it acc env) R s := by
  refine codeAny_loop rfl I (fun n s hI => ?_) n h
  show wpAny _ A ((compTurn (.ListComp elt [⟨target, iter, ifs, 0⟩] scope pos) 0 it acc env).onRaise (fun x => do noteFrame x env; theTreesLotGoes x)) _ _ s
  refine wpAny_noted ?_
  rw [compTurn_list]
  refine wpAny_bind (wpAny_standAt (wpAny_bind (wpAny_mono (turn n s hI) (fun r s₁ h₁ => ?_) fun _ _ h' => h')))
  cases r with
  | none => exact wpAny_pure h₁
  | some v =>
    refine wpAny_bind (wpAny_mono h₁ (fun _ s₁' h₁' => ?_) fun _ _ h' => h')
    refine wpAny_bind (wpAny_mono h₁' (fun _ s₂ h₂ => wpAny_bind (wpAny_mono h₂ (fun ok s₃ h₃ => ?_) fun _ _ h' => h')) fun _ _ h' => h')
    cases ok with
    | false => exact wpAny_pure ⟨rfl, h₃⟩
    | true =>
      exact wpAny_bind (wpAny_bind (wpAny_mono h₃ (fun x s₄ h₄ => wpAny_bind (wpAny_mono h₄ (fun _ s₅ h₅ => wpAny_pure (wpAny_pure ⟨rfl, h₅⟩)) fun _ _ h' => h')) fun _ _ h' => h'))

/-- what stands behind a comprehension's head: its own env is laid, its list is empty -/
theorem comp_walk {elt target iter : Expr} {ifs : List Expr} {scope : Scope} {cl : List (Str × Addr)} {pos : Pos} {I : Addr} {fp wr : List Addr} {n : Nat} {P : Nat → Value → Prop} {St : Nat → Heap → Prop} {Q : Value → Shared → Prop} {nm : List Str} {gl : List (Str × Value)} {fr : Cell} (U R : List Cell) {os : List (Addr × Obj)}
    (J : Nat → Ctx → List Value → List Cell → Prop)
    (hcell : ∀ y ∈ scope.names, y.2 ≠ .cell) (hkind : scope.kind = .function) (hfr : ∀ C, FrOk w (compEnvC scope cl C env) nm gl)
    (it : Iter w A I fp wr n P St) (hfp : ∀ b ∈ fp, b ∈ wr ∨ ∃ o, c.I.get? b = some o) (hos : os.map (·.1) = wr) (hn : n ≤ 100000)
    (hgo : ∀ i (s : Shared) v (Q : Unit → Shared → Prop) (E : Value → Shared → Prop), St (i + 1) s.heap → P i v → Q () s → wpAny (MM w) A (letOwnedTupleGo target (.ref I) v) Q E s)
    (hS : Sat w c (fr :: (U ++ (os.map oc ++ R))) s) (hst : St 0 s.heap) (hJ : J 0 c [] U) (hlen : ∀ i c' ys U', J i c' ys U' → ys.length ≤ i)
    (turn : ∀ i v c' ys U' R' vs' cenv s', i < n → c.Le c' → P i v → J i c' ys U' → (fr :: R).Sublist R' → FrOk w cenv nm gl → (∃ C, cenv = compEnvC scope cl C env) → Sat w c' (.ns cenv.locals (fm nm vs') :: (U' ++ R')) s' →
      wpAny (MM w) A (assign target cenv v) (fun _ s₂ => wpAny (MM w) A (tests ifs cenv) (fun ok s₃ =>
        if ok = true then wpAny (MM w) A (eval elt cenv) (fun x s₄ => ∃ c'' vs'' U'', c'.Le c'' ∧ J (i + 1) c'' (ys ++ [x]) U'' ∧ Sat w c'' (.ns cenv.locals (fm nm vs'') :: (U'' ++ R')) s₄) (fun _ _ => False) s₃
        else ∃ c'' vs'' U'', c'.Le c'' ∧ J (i + 1) c'' ys U'' ∧ Sat w c'' (.ns cenv.locals (fm nm vs'') :: (U'' ++ R')) s₃) (fun _ _ => False) s₂) (fun _ _ => False) s')
    (done : ∀ c' ys U' D s', c.Le c' → J n c' ys U' → Sat w c' (fr :: .ls D ys :: (U' ++ R)) s' → Q (.ref D) s') :
    wpAny (MM w) A (newList []) (fun acc s₃ => wpAny (MM w) A (newFunctionEnv scope env.globals cl [] env.qual none .none (some env)) (fun cenv s₄ =>
        codeAny (MM w) A (.compStart (.ListComp elt [⟨target, iter, ifs, 0⟩] scope pos) 0 (.ref I) acc { cenv with scope := relabel scope env }) (compPost (MM w) A E none Q acc cenv.locals) s₄) E s₃) E s := by
  subst hos
  refine wpAny_newObj_type ?_
  generalize hD : s.heap.objs.size = D
  have hS1 : Sat w c (.ls D [] :: fr :: (U ++ (os.map oc ++ R))) { s with heap := s.heap.push { cls := .type "list", dict := none, data := .seq ([] : List Value).toArray } } :=
    hS.new (t := s.toks) (fun _ _ e => Heap.get?_push_of_some _ e) (by rw [hD]; exact Nat.le_refl _) ⟨0, by rw [← hD]; exact Heap.get?_push_size _ rfl⟩
  have hst1 : St 0 (s.heap.push { cls := .type "list", dict := none, data := .seq ([] : List Value).toArray }) := it.W.frame _ _ _ hst fun b _ o e => Heap.get?_push_of_some _ e
  refine wpAny_newFunctionEnv hcell (by intro y hy; simp at hy) (fun h₁ hns₁ hsb₁ => ?_) hkind
  dsimp only at hns₁ hsb₁ ⊢
  generalize hH : s.heap.push { cls := .type "list", dict := none, data := .seq ([] : List Value).toArray } = H at hns₁ hsb₁ hS1 hst1 ⊢
  have kp : ∀ b o, H.get? b = some o → h₁.get? b = some o := fun b o e => hsb₁.extBut b o (Nat.ne_of_lt (Heap.lt_size e)) (Heap.get?_push_of_some _ e)
  have F := hfr H.objs.size
  have hns2 : h₁.Ns H.objs.size (fm nm (nm.map fun _ => none)) := by
    have e : (fun x => ([] : List (Str × Value)).reverse.lookup x) = fm nm (nm.map fun _ => none) := by funext y; rw [fm_none]; rfl
    rw [← e]; exact hns₁
  have hS2 : Sat w c (.ns H.objs.size (fm nm (nm.map fun _ => none)) :: .ls D [] :: fr :: (U ++ (os.map oc ++ R))) { s with heap := h₁, toks := s.toks + ([] : List (Str × Value)).length } :=
    hS1.new (s := { s with heap := H }) kp (Nat.le_refl _) hns2
  have hst2 : St 0 h₁ := it.W.frame _ _ _ hst1 fun b _ o e => kp b o e
  generalize hC : H.objs.size = C at F hS2 ⊢
  -- the order: the env's cell, the list, the iterator, the rest
  have P0 : ∀ {q1 q2 : Cell} {U os R : List Cell}, (q1 :: q2 :: fr :: (U ++ (os ++ R))).Perm (q1 :: q2 :: (U ++ (os ++ (fr :: R)))) := by
    intro q1 q2 U os R
    refine List.Perm.cons _ (List.Perm.cons _ ?_)
    rw [← List.append_assoc, ← List.append_assoc]
    exact List.perm_middle.symm
  have hS3 := hS2.perm P0
  have loop : ∀ s₃ : Shared, s₃ = { s with heap := h₁, toks := s.toks + ([] : List (Str × Value)).length } →
      codeAny (MM w) A (.compLoop (.ListComp elt [⟨target, iter, ifs, 0⟩] scope pos) 0 (.ref I) (.ref D) (compEnvC scope cl C env)) (compPost (MM w) A E none Q (.ref D) C) s₃ := by
    rintro s₃ rfl
    have P1 : ∀ {q1 q2 : Cell} {U os R : List Cell}, (q1 :: q2 :: (U ++ (os ++ R))).Perm (os ++ (q1 :: q2 :: (U ++ R))) := by
      intro q1 q2 U os R
      have := perm_out (fr := q1) (U := q2 :: U) (os := os) (R := R)
      exact this
    refine compLoop_any (fun k s' => ∃ i c' ys vs' U' os', k = n + 1 - i ∧ i ≤ n ∧ c.Le c' ∧ J i c' ys U' ∧ os'.map (·.1) = os.map (·.1) ∧ Sat w c' (.ns C (fm nm vs') :: .ls D ys :: (U' ++ (os'.map oc ++ (fr :: R)))) s' ∧ St i s'.heap) ?_ (n + 1) ⟨0, c, [], _, U, os, rfl, Nat.zero_le _, .refl _, hJ, rfl, hS3, hst2⟩
    rintro k s' ⟨i, c', ys, vs', U', os', rfl, hin, hle, hj, e1, hs, hst'⟩
    rcases Nat.lt_or_ge i n with hlt | hge
    · refine it.W.item i s' _ _ hlt hst' fun v h' tk hP hst2 hk => ?_
      obtain ⟨os'', e2, hX⟩ := hs.turnIt P1 (h' := h') (t := tk) (fun b o hb => hk b o (e1 ▸ hb)) (fun b hb => it.has (i + 1) h' hst2 b (e1 ▸ hb))
      have e2' := e2.trans e1
      have hs2 := hX _ P1.symm
      dsimp only
      refine hgo i _ v _ _ hst2 hP ?_
      -- the list stands among the own cells' tail
      have Pa : ∀ {q1 q2 : Cell} {U os R : List Cell}, (q1 :: q2 :: (U ++ (os ++ R))).Perm (q1 :: (U ++ (q2 :: (os ++ R)))) := by
        intro q1 q2 U os R
        exact List.Perm.cons _ List.perm_middle.symm
      have back : ∀ {s₃ : Shared} {c'' ys'' vs'' U''}, c'.Le c'' → Sat w c'' (.ns C (fm nm vs'') :: .ls D ys'' :: (U'' ++ (os''.map oc ++ (fr :: R)))) s₃ → St (i + 1) s₃.heap := by
        intro s₃ c'' ys'' vs'' U'' l2 hs3
        refine it.W.frame _ _ _ hst2 fun b hb o e => ?_
        rcases hfp b hb with hb | ⟨o', ho'⟩
        · rw [← e2'] at hb
          obtain ⟨q, hq, rfl⟩ := List.mem_map.mp hb
          have hm : ∀ (X : List (Option Value)) (Z : List Value) (Y : List Cell), oc q ∈ Cell.ns C (fm nm X) :: .ls D Z :: (Y ++ (os''.map oc ++ (fr :: R))) := fun X Z Y => .tail _ (.tail _ (List.mem_append.mpr (.inr (List.mem_append.mpr (.inl (List.mem_map_of_mem hq))))))
          obtain ⟨o1, k1, rfl⟩ := hs2.vol _ (hm vs' ys U')
          obtain ⟨o2, k2, rfl⟩ := hs3.vol _ (hm vs'' ys'' U'')
          have k1' : h'.get? q.1 = some q.2 := k1
          rw [k1'] at e
          cases e
          exact k2
        · have a1 : h'.get? b = some o' := hs2.keep b o' (hle.keep b o' ho')
          have e5 : o' = o := by rw [a1] at e; exact Option.some.inj e
          subst e5
          exact hs3.keep b _ (l2.keep b _ (hle.keep b _ ho'))
      have hlenys : ys.length ≤ 100000 := Nat.le_trans (hlen _ _ _ _ hj) (Nat.le_trans hin hn)
      refine wpAny_mono (turn i v c' ys U' (.ls D ys :: (os''.map oc ++ (fr :: R))) vs' (compEnvC scope cl C env) _ hlt hle hP hj ((List.sublist_append_right _ _).cons _) F ⟨C, rfl⟩ (hs2.perm Pa)) (fun _ s₂ h₂ => ?_) fun _ _ x => x.elim
      refine wpAny_mono h₂ (fun ok s₃ h₃ => ?_) fun _ _ x => x.elim
      cases ok with
      | false =>
        simp only [Bool.false_eq_true, if_false] at h₃ ⊢
        obtain ⟨c'', vs'', U'', l2, hj2, hs3⟩ := h₃
        have hs4 := hs3.perm Pa.symm
        exact ⟨n + 1 - (i + 1), by omega, i + 1, c'', ys, vs'', U'', os'', rfl, hlt, hle.trans l2, hj2, e2', hs4, back l2 hs4⟩
      | true =>
        simp only [if_true] at h₃ ⊢
        refine wpAny_mono h₃ (fun x s₄ h₄ => ?_) fun _ _ x => x.elim
        obtain ⟨c'', vs'', U'', l2, hj2, hs3⟩ := h₄
        have hs4 := hs3.perm Pa.symm
        refine append_ (V' := .ns C (fm nm vs'') :: .ls D (ys ++ [x]) :: (U'' ++ (os''.map oc ++ (fr :: R)))) hs4 (.tail .head) hlenys fun s₅ hs5 => ?_
        exact ⟨n + 1 - (i + 1), by omega, i + 1, c'', ys ++ [x], vs'', U'', os'', rfl, hlt, hle.trans l2, hj2, e2', hs5, back l2 hs5⟩
    · obtain rfl : i = n := Nat.le_antisymm hin hge
      refine it.W.done s' _ _ hst' fun h' tk hk => ?_
      dsimp only
      have hs2 := hs.endIt P1 (h' := h') (t := tk) (fun b o hb => hk b o (e1 ▸ hb))
      refine ⟨_, hs2.vol _ (.head _), fun h'' hs'' => ?_⟩
      have hs3 := hs2.dropBut (h' := h'') (t := tk) (fun b o hb e => hs''.extBut b o hb e)
      refine done c' ys U' D _ hle hj (hs3.perm ?_)
      have : (Cell.ls D ys :: (U' ++ fr :: R)).Perm (.ls D ys :: fr :: (U' ++ R)) := List.Perm.cons _ List.perm_middle
      exact this.trans (List.Perm.swap _ _ _)
  have hself : ∀ s₃ : Shared, s₃ = { s with heap := h₁, toks := s.toks + ([] : List (Str × Value)).length } → St 0 s₃.heap := by rintro _ rfl; exact hst2
  have e0 : ({ (newEnv scope C env.globals cl env.qual none Value.none (some env) env.builtins) with scope := relabel scope env } : Env) = compEnvC scope cl C env := rfl
  subst hC
  exact codeAny_compStart_list (loop _ rfl) (it.W.self 0 _ _ _ hst2 (loop _ rfl))
end
noncomputable def compChk (w : World) (scope : Scope) (env : Env) (nm : List Str) (gl : List (Str × Value)) : Bool :=
  decide (scope.kind = .function) && decide (nm.Nodup) &&
  (nm.all fun x => decide ((relabel scope env).names.lookup x = some .local) && !(x == ("__debug__" : Str))) &&
  (gl.all fun p => decide ((relabel scope env).names.lookup p.1 = some .globalImplicit) && !(p.1 == ("__debug__" : Str)) &&
    (decide (nsIn (KK w) mainGlobals p.1 = some (some p.2)) || (decide (nsIn (KK w) mainGlobals p.1 = some none) && decide (bootBuiltins p.1 = some p.2) && decide (p.1 ≠ "__name__"))))
theorem FrOk.comp {w : World} {scope : Scope} {cl : List (Str × Addr)} {C : Addr} {env : Env} {nm0 nm : List Str} {gl0 gl : List (Str × Value)} (hE : FrOk w env nm0 gl0) (h : compChk w scope env nm gl = true) : FrOk w (compEnvC scope cl C env) nm gl := by
  unfold compChk at h
  simp only [Bool.and_eq_true, decide_eq_true_eq, List.all_eq_true, Bool.or_eq_true, Bool.not_eq_true'] at h
  obtain ⟨⟨⟨h4, h5⟩, h6⟩, h7⟩ := h
  refine ⟨h4, h5, fun x hx => ⟨(h6 x hx).1, (h6 x hx).2⟩, fun p hp => ?_, hE.glo, hE.bui⟩
  obtain ⟨⟨a1, a2⟩, a3⟩ := h7 p hp
  refine ⟨a1, a2, ?_⟩
  rcases a3 with a | ⟨⟨a, b⟩, d⟩
  · exact .own a
  · exact .boot a b d

section
variable {w : World} {A : Around} {E : Value → Shared → Prop} {c : Ctx} {V V' : List Cell} {s : Shared} {env : Env} {p : Cell}

theorem ListComp_ {elt target iter : Expr} {ifs : List Expr} {scope : Scope} {cl : List (Str × Addr)} {pos : Pos} {Q : Value → Shared → Prop}
    (hclos : closureFor scope env = pure cl) (hkind : scope.kind = .function) (hnames : ∀ x ∈ scope.names, x.2 = .local → scope.names.lookup x.1 = some .local)
    (h : wpAny (MM w) A (eval iter env) (fun x s₁ => wpAny (MM w) A (pyIter x) (fun it s₂ => wpAny (MM w) A (newList []) (fun acc s₃ =>
      wpAny (MM w) A (newFunctionEnv scope env.globals cl [] env.qual none .none (some env)) (fun cenv s₄ =>
        codeAny (MM w) A (.compStart (.ListComp elt [⟨target, iter, ifs, 0⟩] scope pos) 0 it acc { cenv with scope := relabel scope env }) (compPost (MM w) A E none Q acc cenv.locals) s₄) E s₃) E s₂) E s₁) E s)
    (hs : ∀ x, foldedSetIterable iter env x = pure x := by intro _; rfl) :
    wpAny (MM w) A (eval (.ListComp elt [⟨target, iter, ifs, 0⟩] scope pos) env) Q E s := by
  rw [eval_ListComp]
  exact wpAny_comprehension_free (use := none) rfl hs hclos hkind hnames h

theorem comp_list {l : Addr} {xs : List Value} {elt target iter : Expr} {ifs : List Expr} {scope : Scope} {cl : List (Str × Addr)} {pos : Pos} {Q : Value → Shared → Prop} {nm : List Str} {gl : List (Str × Value)} {fr : Cell} (U R : List Cell)
    (J : Nat → Ctx → List Value → List Cell → Prop) (hh : A.handled = none)
    (hcell : ∀ y ∈ scope.names, y.2 ≠ .cell) (hkind : scope.kind = .function) (hfr : ∀ C, FrOk w (compEnvC scope cl C env) nm gl) (hl : c.I.IsList l xs.toArray) (hn : xs.length ≤ 100000)
    (hgo : ∀ I i (s : Shared) v (Q : Unit → Shared → Prop) (E : Value → Shared → Prop), s.heap.IsListIter I l i → Q () s → wpAny (MM w) A (letOwnedTupleGo target (.ref I) v) Q E s)
    (hS : Sat w c (fr :: (U ++ R)) s) (hJ : J 0 c [] U) (hlen : ∀ i c' ys U', J i c' ys U' → ys.length ≤ i)
    (turn : ∀ i v c' ys U' R' vs' cenv s', xs[i]? = some v → c.Le c' → J i c' ys U' → (fr :: R).Sublist R' → FrOk w cenv nm gl → (∃ C, cenv = compEnvC scope cl C env) → Sat w c' (.ns cenv.locals (fm nm vs') :: (U' ++ R')) s' →
      wpAny (MM w) A (assign target cenv v) (fun _ s₂ => wpAny (MM w) A (tests ifs cenv) (fun ok s₃ =>
        if ok = true then wpAny (MM w) A (eval elt cenv) (fun x s₄ => ∃ c'' vs'' U'', c'.Le c'' ∧ J (i + 1) c'' (ys ++ [x]) U'' ∧ Sat w c'' (.ns cenv.locals (fm nm vs'') :: (U'' ++ R')) s₄) (fun _ _ => False) s₃
        else ∃ c'' vs'' U'', c'.Le c'' ∧ J (i + 1) c'' ys U'' ∧ Sat w c'' (.ns cenv.locals (fm nm vs'') :: (U'' ++ R')) s₃) (fun _ _ => False) s₂) (fun _ _ => False) s')
    (done : ∀ c' ys U' D s', c.Le c' → J xs.length c' ys U' → Sat w c' (fr :: .ls D ys :: (U' ++ R)) s' → Q (.ref D) s') :
    wpAny (MM w) A (pyIter (.ref l)) (fun it s₂ => wpAny (MM w) A (newList []) (fun acc s₃ =>
      wpAny (MM w) A (newFunctionEnv scope env.globals cl [] env.qual none .none (some env)) (fun cenv s₄ =>
        codeAny (MM w) A (.compStart (.ListComp elt [⟨target, iter, ifs, 0⟩] scope pos) 0 it acc { cenv with scope := relabel scope env }) (compPost (MM w) A E none Q acc cenv.locals) s₄) E s₃) E s₂) E s := by
  have hls := hS.isl hl
  have hne : l ≠ s.heap.objs.size := Nat.ne_of_lt (let ⟨o, e, _⟩ := hls; Heap.lt_size e)
  refine wpAny_pyIter_list hls ?_
  have hS2 : Sat w c (fr :: (U ++ ([(s.heap.objs.size, ({ cls := .type "list_iterator", data := .fields #[.ref l, .int 0 0] } : Obj))].map oc ++ R))) { s with heap := s.heap.push { cls := .type "list_iterator", data := .fields #[.ref l, .int 0 0] } } := by
    have y := hS.new (p := oc (s.heap.objs.size, ({ cls := .type "list_iterator", data := .fields #[.ref l, .int 0 0] } : Obj))) (t := s.toks) (h' := s.heap.push { cls := .type "list_iterator", data := .fields #[.ref l, .int 0 0] }) (fun _ _ e => Heap.get?_push_of_some _ e) (Nat.le_refl _) ⟨_, Heap.get?_push_size _ rfl, rfl⟩
    exact y.perm perm_in
  refine comp_walk U R J hcell hkind hfr (iter_list hh hne xs) ?_ rfl hn ?_ hS2 ?_ hJ hlen (fun i v c' ys U' R' vs' cenv s' hi l1 hv => ?_) done
  · intro b hb
    rcases List.mem_cons.mp hb with rfl | hb
    · exact .inl (.head _)
    · rw [List.mem_singleton.mp hb]
      obtain ⟨o, e, _⟩ := hl
      exact .inr ⟨o, e⟩
  · intro i s' v Q' E' st _ q
    exact hgo _ _ s' v Q' E' st.1 q
  · exact ⟨⟨_, Heap.get?_push_size _ rfl, rfl, rfl⟩, hls.push _⟩
  · exact turn i v c' ys U' R' vs' cenv s' hv l1

theorem comp_range {r : Addr} {n : Nat} {t u v : Tok} {elt iter : Expr} {x : Str} {px : Pos} {ifs : List Expr} {scope : Scope} {cl : List (Str × Addr)} {pos : Pos} {Q : Value → Shared → Prop} {nm : List Str} {gl : List (Str × Value)} {fr : Cell} (U R : List Cell)
    (J : Nat → Ctx → List Value → List Cell → Prop) (hh : A.handled = none)
    (hcell : ∀ y ∈ scope.names, y.2 ≠ .cell) (hkind : scope.kind = .function) (hfr : ∀ C, FrOk w (compEnvC scope cl C env) nm gl) (hr : IsRange s.heap r 0 n 1 t u v) (hn : n ≤ 100000)
    (hS : Sat w c (fr :: (U ++ R)) s) (hJ : J 0 c [] U) (hlen : ∀ i c' ys U', J i c' ys U' → ys.length ≤ i)
    (turn : ∀ (i : Nat) t c' ys U' R' vs' cenv s', i < n → c.Le c' → J i c' ys U' → (fr :: R).Sublist R' → FrOk w cenv nm gl → (∃ C, cenv = compEnvC scope cl C env) → Sat w c' (.ns cenv.locals (fm nm vs') :: (U' ++ R')) s' →
      wpAny (MM w) A (assign (.Name x px) cenv (.int i t)) (fun _ s₂ => wpAny (MM w) A (tests ifs cenv) (fun ok s₃ =>
        if ok = true then wpAny (MM w) A (eval elt cenv) (fun x s₄ => ∃ c'' vs'' U'', c'.Le c'' ∧ J (i + 1) c'' (ys ++ [x]) U'' ∧ Sat w c'' (.ns cenv.locals (fm nm vs'') :: (U'' ++ R')) s₄) (fun _ _ => False) s₃
        else ∃ c'' vs'' U'', c'.Le c'' ∧ J (i + 1) c'' ys U'' ∧ Sat w c'' (.ns cenv.locals (fm nm vs'') :: (U'' ++ R')) s₃) (fun _ _ => False) s₂) (fun _ _ => False) s')
    (done : ∀ c' ys U' D s', c.Le c' → J n c' ys U' → Sat w c' (fr :: .ls D ys :: (U' ++ R)) s' → Q (.ref D) s') :
    wpAny (MM w) A (pyIter (.ref r)) (fun it s₂ => wpAny (MM w) A (newList []) (fun acc s₃ =>
      wpAny (MM w) A (newFunctionEnv scope env.globals cl [] env.qual none .none (some env)) (fun cenv s₄ =>
        codeAny (MM w) A (.compStart (.ListComp elt [⟨.Name x px, iter, ifs, 0⟩] scope pos) 0 it acc { cenv with scope := relabel scope env }) (compPost (MM w) A E none Q acc cenv.locals) s₄) E s₃) E s₂) E s := by
  refine wpAny_pyIter_range hr (small_one (by decide) (by decide) (by (first | lia | omega)) (by (first | lia | omega))) ?_
  have e1 : Builtin.Range.rangeSize 0 n 1 = (n : Int) := by rw [rangeSize_one]; split <;> (first | lia | omega)
  rw [e1]
  have hS2 : Sat w c (fr :: (U ++ ([(s.heap.objs.size, ({ cls := .type "range_iterator", data := .fields #[rawInt 0, rawInt n, rawInt 1] } : Obj))].map oc ++ R))) { s with heap := s.heap.push { cls := .type "range_iterator", data := .fields #[rawInt 0, rawInt n, rawInt 1] } } := by
    have y := hS.new (p := oc (s.heap.objs.size, ({ cls := .type "range_iterator", data := .fields #[rawInt 0, rawInt n, rawInt 1] } : Obj))) (t := s.toks) (h' := s.heap.push { cls := .type "range_iterator", data := .fields #[rawInt 0, rawInt n, rawInt 1] }) (fun _ _ e => Heap.get?_push_of_some _ e) (Nat.le_refl _) ⟨_, Heap.get?_push_size _ rfl, rfl⟩
    exact y.perm perm_in
  refine comp_walk U R J hcell hkind hfr (iter_range hh _ n) ?_ rfl hn ?_ hS2 ?_ hJ hlen (fun i v c' ys U' R' vs' cenv s' hi l1 hv => ?_) done
  · intro b hb; exact .inl hb
  · intro i s' v Q' E' _ _ q
    exact wpAny_pure q
  · show IsRangeIter _ _ _ _ _
    simpa using Heap.get?_push_size s.heap (o := { cls := .type "range_iterator", data := .fields #[rawInt 0, rawInt n, rawInt 1] }) rfl
  · obtain ⟨t, rfl⟩ := hv
    exact turn i t c' ys U' R' vs' cenv s' hi l1

theorem tests_nil {Q : Bool → Shared → Prop} (h : Q true s) : wpAny (MM w) A (tests [] env) Q E s := wpAny_tests_nil h
theorem tests_one {x : Expr} {Q : Bool → Shared → Prop} (h : wpAny (MM w) A (isTrue x env (eval x env)) Q E s) : wpAny (MM w) A (tests [x] env) Q E s := wpAny_tests_one h

/-! dicts of str keys -/
noncomputable abbrev SK (w : World) : KeyKind PySem.Challenge.pw_no0503_01 w Str := strKind PySem.Challenge.pw_no0503_01 w
noncomputable def dc (w : World) (a : Addr) (kvs : List (Str × Value)) : Cell := .pr a (fun o => o.IsDictOf (SK w) kvs ∧ (a == sysModules) = false)
theorem dc_at {h : Heap} {a : Addr} {kvs : List (Str × Value)} (x : (dc w a kvs).at h) : h.DictOf (SK w) a kvs ∧ (a == sysModules) = false := let ⟨o, e, h1, h2⟩ := x; ⟨Heap.dictOf_iff.mpr ⟨o, e, h1⟩, h2⟩
theorem dc_of {h : Heap} {a : Addr} {kvs : List (Str × Value)} (x : h.DictOf (SK w) a kvs) (y : (a == sysModules) = false) : (dc w a kvs).at h := let ⟨o, e, h1⟩ := Heap.dictOf_iff.mp x; ⟨o, e, h1, y⟩
inductive DictAt (w : World) (c : Ctx) (V : List Cell) (a : Addr) (kvs : List (Str × Value)) : Prop
  | imm : (dc w a kvs).at c.I → DictAt w c V a kvs
  | vol : dc w a kvs ∈ V → DictAt w c V a kvs
theorem Sat.dict {a : Addr} {kvs : List (Str × Value)} (hS : Sat w c V s) (h : DictAt w c V a kvs) : s.heap.DictOf (SK w) a kvs ∧ (a == sysModules) = false := by
  cases h with
  | imm h => exact dc_at (Cell.at_of h fun o e => hS.keep _ o e)
  | vol h => exact dc_at (hS.vol _ h)
theorem sk_is (x : Str) (t : Tok) : (SK w).is x (.str x t) = true := by
  show Value.isStr (.str x t) x = true
  simp [Value.isStr]

theorem newDct {Q : Value → Shared → Prop} {pos : Pos} (hS : Sat w c (p :: V) s) (h : ∀ a s', Sat w c (p :: dc w a [] :: V) s' → Q (.ref a) s') : wpAny (MM w) A (eval (.Dict [] [] pos) env) Q E s := by
  refine wpAny_Dict_empty (h _ _ (hS.new2 (p := dc w s.heap.objs.size []) (t := s.toks) (fun _ _ e => Heap.get?_push_of_some _ e) (Nat.le_refl _) (dc_of (Heap.DictOf.new _) ?_)))
  have := modules_low (hS.st.lim.keeps hS.keep)
  exact beq_eq_false_iff_ne.mpr (Nat.ne_of_gt this)
theorem setd {a : Addr} {kvs : List (Str × Value)} {x : Str} {t : Tok} {v : Value} {Q : Unit → Shared → Prop} (hS : Sat w c V s) (hr : Rep (dc w a kvs) (dc w a (stored kvs x v)) V V') (hz : kvs.length ≤ 10000) (h : ∀ s', Sat w c V' s' → Q () s') : wpAny (MM w) A (setItem (.ref a) (.str x t) v) Q E s := by
  obtain ⟨h1, h2⟩ := dc_at (hS.vol _ hr.mem)
  exact wpAny_setItem_pairs (sk_is x t) h1 (fun h' hd hs => h _ (hS.rep hr (fun b o hb e => hs.extBut b o hb e) rfl (dc_of hd h2))) (by rw [sizeLine_eq]; (first | lia | omega))
theorem getd {a : Addr} {kvs : List (Str × Value)} {x : Str} {t : Tok} {v : Value} {Q : Value → Shared → Prop} (hS : Sat w c V s) (hd : DictAt w c V a kvs) (hv : valueAt kvs x = some v) (h : ∀ s', Sat w c V s' → Q v s') : wpAny (MM w) A (getItem (.ref a) (.str x t)) Q E s :=
  wpAny_getItem_of (sk_is x t) (hS.dict hd).1.mapOf hv (h _ (hS.toks _))
theorem subd {value slice : Expr} {a : Addr} {kvs : List (Str × Value)} {x : Str} {t : Tok} {v : Value} {Q : Value → Shared → Prop} (hS : Sat w c V s) (hd : DictAt w c V a kvs) (hv : valueAt kvs x = some v) (h : ∀ s', Sat w c V s' → Q v s')
    (hs : subscripted slice false (.ref a) (.str x t) = operate [.ref a, .str x t] (getItem (.ref a) (.str x t)) := by with_unfolding_all rfl) : wpAny (MM w) A (subscriptTail value slice (.ref a) (.str x t)) Q E s :=
  tail_any (hS.dict hd).1.typeIs slot_dict_getitem.lookup (getd hS hd hv h) hs
theorem ind {a : Addr} {kvs : List (Str × Value)} {x : Str} {t : Tok} {Q : Value → Shared → Prop} (hS : Sat w c V s) (hd : DictAt w c V a kvs) (h : ∀ s', Sat w c V s' → Q (.bool (valueAt kvs x).isSome) s') : wpAny (MM w) A (compareOp .In (.str x t) (.ref a)) Q E s :=
  wpAny_in_of (sk_is x t) (hS.dict hd).2 (hS.dict hd).1.mapOf (h _ (hS.toks _))
theorem nind {a : Addr} {kvs : List (Str × Value)} {x : Str} {t : Tok} {Q : Value → Shared → Prop} (hS : Sat w c V s) (hd : DictAt w c V a kvs) (h : ∀ s', Sat w c V s' → Q (.bool (!(valueAt kvs x).isSome)) s') : wpAny (MM w) A (compareOp .NotIn (.str x t) (.ref a)) Q E s :=
  wpAny_notIn_of (sk_is x t) (hS.dict hd).2 (hS.dict hd).1.mapOf (h _ (hS.toks _))
end
theorem itt {P Q : Prop} (h : P) : if true = true then P else Q := h
theorem iff_ {P Q : Prop} (h : Q) : if false = true then P else Q := h
section
variable {w : World} {A : Around} {E : Value → Shared → Prop} {c : Ctx} {V V' : List Cell} {s : Shared} {env : Env} {p : Cell}

theorem slice_ {value : Expr} {lower upper : Option Expr} {p pos : Pos} {Q : Value → Shared → Prop}
    (h : wpAny (MM w) A (eval value env) (fun o s₁ => wpAny (MM w) A (evalPart lower env) (fun vl s₂ => wpAny (MM w) A (evalPart upper env) (fun vu s₃ =>
      ∃ (c : Ctx) (V : List Cell) (l : Addr) (xs : List Value) (lo hi : Option Int), Sat w c V s₃ ∧ o = .ref l ∧ s₃.heap.IsList l xs.toArray ∧ xs.length ≤ 100000 ∧ IsPart vl lo ∧ IsPart vu hi ∧
        ∀ a c' s', c.Le c' → Sat w c' V s' → c'.I.PlainList a (slicePick xs.toArray lo hi none) → Q (.ref a) s') E s₂) E s₁) E s)
    (ht : ∀ o r, letTemporaryGo value o r = pure () := by intro _ _; rfl) : wpAny (MM w) A (eval (.Subscript value (.Slice lower upper none p) pos) env) Q E s := by
  refine wpAny_Subscript_list_slice (wpAny_mono h (fun o s₁ h₁ => wpAny_mono h₁ (fun vl s₂ h₂ => wpAny_mono h₂ (fun vu s₃ h₃ => ?_) fun _ _ e => e) fun _ _ e => e) fun _ _ e => e) ht
  obtain ⟨c, V, l, xs, lo, hi, hS, rfl, hl, hz, pl, pu, k⟩ := h₃
  refine ⟨l, xs.toArray, lo, hi, rfl, hl, by rw [List.size_toArray, sizeLine_eq]; (first | lia | omega), pl, pu, ?_⟩
  have h1 := hS.push { cls := .type "slice", data := .fields #[vl, vu, .none] } s₃.toks
  obtain ⟨c', le, h2, h3⟩ := h1.newI (t := s₃.toks) (a := s₃.heap.objs.size + 1) (o := { cls := .type "list", data := .seq (slicePick xs.toArray lo hi none) }) (h' := (s₃.heap.push { cls := .type "slice", data := .fields #[vl, vu, .none] }).push { cls := .type "list", data := .seq (slicePick xs.toArray lo hi none) })
    (fun _ _ e => Heap.get?_push_of_some _ e) (by rw [Heap.size_push]; exact Nat.le_refl _) (by have := Heap.get?_push_size (o := ({ cls := .type "list", data := .seq (slicePick xs.toArray lo hi none) } : Obj)) (s₃.heap.push { cls := .type "slice", data := .fields #[vl, vu, .none] }) rfl; rwa [Heap.size_push] at this)
  exact k _ c' _ le h2 ⟨0, h3⟩

theorem seq_cut {st : Stmt} {rest : List Stmt} {Q : Flow → Shared → Prop} (Mid : Flow → Shared → Prop) (h1 : wpAny (MM w) A (exec st env) Mid (fun _ _ => False) s) (h2 : ∀ f s', Mid f s' → match f with | .next => wpAny (MM w) A (execs rest env) Q E s' | f => Q f s') :
    wpAny (MM w) A (execs (st :: rest) env) Q E s := wpAny_execs_cons (wpAny_mono h1 h2 fun _ _ x => x.elim)
theorem expr_ {e : Expr} {pos : Pos} {nm : List Str} {gl : List (Str × Value)} {Q : Flow → Shared → Prop} (hE : FrOk w env nm gl) (h : wpAny (MM w) A (eval e env) (fun v s' => match v with | .ref _ => False | _ => Q .next s') E s)
    (hs : swapsWith e none pos.line env = pure false := by rfl) : wpAny (MM w) A (exec (.Expr e pos) env) Q E s :=
  wpAny_Expr h (by unfold interactive; rw [hE.kind]; rfl) hs
theorem nes_f {x y : Str} {t u : Tok} {Q : Value → Shared → Prop} (e : x = y) (h : Q (.bool false) s) : wpAny (MM w) A (compareOp .NotEq (.str x t) (.str y u)) Q E s :=
  PyProof.Rows.ne_str (by rw [e]; simpa using h)
theorem nes_t {x y : Str} {t u : Tok} {Q : Value → Shared → Prop} (e : x ≠ y) (h : Q (.bool true) s) : wpAny (MM w) A (compareOp .NotEq (.str x t) (.str y u)) Q E s :=
  PyProof.Rows.ne_str (by rw [show (x != y) = true from by simpa using e]; exact h)
theorem nes_d {x y : Str} {t u : Tok} {Q : Value → Shared → Prop} (h : Q (.bool (!decide (x = y))) s) : wpAny (MM w) A (compareOp .NotEq (.str x t) (.str y u)) Q E s :=
  PyProof.Rows.ne_str (by rw [show (x != y) = !decide (x = y) from by by_cases q : x = y <;> simp [q]]; exact h)
/-- the first item of a list that stays -/
theorem sub0 {value slice : Expr} {a : Addr} {xs : List Value} {t : Tok} {v : Value} {Q : Value → Shared → Prop} (hS : Sat w c V s) (hl : c.I.PlainList a (v :: xs).toArray) (h : Q v s)
    (hs : subscripted slice false (.ref a) (.int 0 t) = operate [.ref a, .int 0 t] (getItem (.ref a) (.int 0 t)) := by with_unfolding_all rfl) : wpAny (MM w) A (subscriptTail value slice (.ref a) (.int 0 t)) Q E s :=
  subl (hS.list (.imm hl)) (by decide) (by decide) rfl h hs
/-- an if whose test is not known -/
theorem ifb {b : Bool} {P Q : Prop} (h1 : b = true → P) (h2 : b = false → Q) : if b = true then P else Q := by cases b <;> simp_all
noncomputable def kindS : T → Str
  | .name _ => "symbol"
  | .null => "NULL"
  | .miss => "missing"
  | .leaf k _ => k
  | .call _ => "language"
theorem gk {t : T} {a : Addr} {ex : Bool} {Q : Value → Shared → Prop} (hS : Sat w c V s) (hv : IsV w c t (.ref a)) (h : ∀ u s', Sat w c V s' → Q (.str (kindS t) u) s') : wpAny (MM w) A (getAttr (.ref a) "kind" ex) Q E s := by
  cases hv with
  | name hO => exact ga hS hO .head (h _)
  | null hO => exact ga hS hO .head (h _)
  | miss hO => exact ga hS hO .head (h _)
  | leaf _ hO => exact gaV hS hO .head (h _)
  | call hO => exact ga hS hO .head (h _)
theorem kind_sym {t : T} {v : Value} (hv : IsV w c t v) : decide (kindS t = "symbol") = isName t := by
  cases hv with
  | leaf hk => exact decide_eq_false hk.h1
  | name => rfl
  | null => exact (by decide : decide (("NULL" : Str) = "symbol") = false)
  | miss => exact (by decide : decide (("missing" : Str) = "symbol") = false)
  | call => exact (by decide : decide (("language" : Str) = "symbol") = false)
noncomputable def isCall : T → Bool
  | .call _ => true
  | _ => false
theorem kind_lang {t : T} {v : Value} (hv : IsV w c t v) : decide (kindS t = "language") = isCall t := by
  cases hv with
  | leaf hk => exact decide_eq_false hk.h2
  | call => rfl
  | null => exact (by decide : decide (("NULL" : Str) = "language") = false)
  | miss => exact (by decide : decide (("missing" : Str) = "language") = false)
  | name => exact (by decide : decide (("symbol" : Str) = "language") = false)
theorem eqk_sym {t : T} {v : Value} {b : Bool} {u u' : Tok} {Q : Value → Shared → Prop} (hv : IsV w c t v) (e : isName t = b) (h : Q (.bool b) s) : wpAny (MM w) A (compareOp .Eq (.str (kindS t) u) (.str "symbol" u')) Q E s :=
  eqs_d (by rw [kind_sym hv, e]; exact h)
theorem eqk_lang {t : T} {v : Value} {b : Bool} {u u' : Tok} {Q : Value → Shared → Prop} (hv : IsV w c t v) (e : isCall t = b) (h : Q (.bool b) s) : wpAny (MM w) A (compareOp .Eq (.str (kindS t) u) (.str "language" u')) Q E s :=
  eqs_d (by rw [kind_lang hv, e]; exact h)
theorem nek_sym {t : T} {v : Value} {b : Bool} {u u' : Tok} {Q : Value → Shared → Prop} (hv : IsV w c t v) (e : isName t = b) (h : Q (.bool (!b)) s) : wpAny (MM w) A (compareOp .NotEq (.str (kindS t) u) (.str "symbol" u')) Q E s :=
  nes_d (by rw [kind_sym hv, e]; exact h)
theorem nek_lang {t : T} {v : Value} {b : Bool} {u u' : Tok} {Q : Value → Shared → Prop} (hv : IsV w c t v) (e : isCall t = b) (h : Q (.bool (!b)) s) : wpAny (MM w) A (compareOp .NotEq (.str (kindS t) u) (.str "language" u')) Q E s :=
  nes_d (by rw [kind_lang hv, e]; exact h)
end
theorem atIf {w : World} {A : Around} {a : Expr} {b c : List Stmt} {d : Pos} {r : List Stmt} {env : Env} {Q : Flow → Shared → Prop} {E : Value → Shared → Prop} {s : Shared} (h : wpAny (MM w) A (execs (.If a b c d :: r) env) Q E s) : wpAny (MM w) A (execs (.If a b c d :: r) env) Q E s := h
theorem atFor {w : World} {A : Around} {x y : Expr} {b c : List Stmt} {d : Pos} {r : List Stmt} {env : Env} {Q : Flow → Shared → Prop} {E : Value → Shared → Prop} {s : Shared} (h : wpAny (MM w) A (execs (.For x y b c d :: r) env) Q E s) : wpAny (MM w) A (execs (.For x y b c d :: r) env) Q E s := h
/-- marks a place where a walk is to stop -/
theorem atCut {w : World} {A : Around} {f : Addr} {vs : List Value} {Q : Value → Shared → Prop} {E : Value → Shared → Prop} {s : Shared} (h : wpAny (MM w) A (call (.ref f) vs) Q E s) : wpAny (MM w) A (call (.ref f) vs) Q E s := h
theorem go_list {w : World} {A : Around} {x : Str} {px : Pos} {l : Addr} : ∀ I i (s : Shared) v (Q : Unit → Shared → Prop) (E : Value → Shared → Prop), s.heap.IsListIter I l i → Q () s → wpAny (MM w) A (letOwnedTupleGo (.Name x px) (.ref I) v) Q E s :=
  fun _ _ _ _ _ _ _ q => wpAny_pure q
theorem Room.h' {A : Around} {n : Nat} (r : Room A n) : A.handled = none := r.h
section
variable {w : World} {A : Around} {E : Value → Shared → Prop} {c : Ctx} {V V' : List Cell} {s : Shared}
theorem saF {x C d : Addr} {k : Nat} {nm : List Str} {vs vs' : List (Option Value)} {name : Str} {v : Value} {Q : Unit → Shared → Prop} (hS : Sat w c V s) (hx : .pr x (· = instObj C d) ∈ V) (hr : Rep (.nk d (fm nm vs) k) (.nk d (fm nm vs') (k + 1)) V V') (hl : SetF nm vs name v vs') (hC : ClsOk w C nm ∧ ClsSet w C nm) (hk : k ≤ 8)
    (h : ∀ s', Sat w c V' s' → Q () s') : wpAny (MM w) A (setAttr (.ref x) name v) Q E s := by
  rw [← fm_set hC.1.nod hl] at hr
  exact sa hS hx hr hC.2 hl.mem hk h
theorem mk_obj {x C d : Addr} {k : Nat} {nm : List Str} {vs : List (Option Value)} (hS : Sat w c (.nk d (fm nm vs) k :: .pr x (· = instObj C d) :: V) s) (hC : ClsOk w C nm) (hh : Handed vs) : ∃ c', c.Le c' ∧ Sat w c' V s ∧ ObjI w c' x C nm vs := by
  obtain ⟨c1, l1, h1, n1⟩ := hS.freeze .head
  obtain ⟨c2, l2, h2, o, n2, rfl⟩ := h1.freeze .head
  refine ⟨c2, l1.trans l2, h2, d, n2, ?_, hC, hh⟩
  obtain ⟨o, e⟩ := Cell.at_get n1
  exact NsK.ns (NsK.of n1 fun o e => l2.keep _ o e)
theorem nk_start {d : Addr} {p : Cell} (hS : Sat w c (p :: .nk d (fun _ => none) 0 :: V) s) (nm : List Str) : Sat w c (p :: .nk d (fm nm (nm.map fun _ => none)) 0 :: V) s := by
  have : (fm nm (nm.map fun _ => none)) = fun _ => none := by funext y; exact fm_none nm y
  rw [this]; exact hS
end
theorem handed_nil : Handed [] := fun _ h => nomatch h
theorem handed_cons {v : Value} {vs : List (Option Value)} (h : handedIn v = true) (hs : Handed vs) : Handed (some v :: vs) := fun u hu => by
  rcases List.mem_cons.mp hu with e | hu
  · cases e; exact h
  · exact hs u hu
section
variable {w : World} {A : Around} {E : Value → Shared → Prop} {c : Ctx} {V V' : List Cell} {s : Shared} {env : Env} {p : Cell}
/-- two names at once -/
theorem asgn2 {x y : Str} {p1 p2 pos : Pos} {k} {nm : List Str} {gl : List (Str × Value)} {vs vs1 vs2 : List (Option Value)} {t : Addr} {g u : Value} {Q : Unit → Shared → Prop} (hh : A.handled = none) (hE : FrOk w env nm gl) (hS : Sat w c (.ns env.locals (fm nm vs) :: V) s)
    (ht : c.I.IsTuple t [g, u].toArray) (h1 : SetF nm vs x g vs1) (h2 : SetF nm vs1 y u vs2) (h : ∀ s', Sat w c (.ns env.locals (fm nm vs2) :: V) s' → Q () s') : wpAny (MM w) A (assign (.Tuple [.Name x p1, .Name y p2] k pos) env (.ref t)) Q E s := by
  have ht' : IsTup s.heap t [g, u].toArray := hS.tup ht
  refine assign_Tuple_tuple hh ht' rfl rfl fun h' he => ?_
  have hS' : Sat w c (.ns env.locals (fm nm vs) :: V) { s with heap := h' } := hS.heap fun b o e => he b o (Nat.ne_of_lt (Heap.lt_size e)) e
  show wpAny (MM w) A (assignInOrder [assign (.Name x p1) env, assign (.Name y p2) env] [g, u]) Q E _
  refine assignInOrder_cons (asgn hE hS' h1 fun s1 hS1 => assignInOrder_cons (asgn hE hS1 h2 fun s2 hS2 => assignInOrder_nil (h _ hS2)))
theorem go_list2 {elts : List Expr} {k} {px : Pos} {l : Addr} : ∀ I i (s : Shared) v (Q : Unit → Shared → Prop) (E : Value → Shared → Prop), s.heap.IsListIter I l i → Q () s → wpAny (MM w) A (letOwnedTupleGo (.Tuple elts k px) (.ref I) v) Q E s := by
  intro I i s v Q E hi q
  cases v with
  | ref T => exact wpAny_letOwnedTupleGo_listiter hi q
  | _ => exact wpAny_pure q
/-- a test is cut off -/
theorem cutB {X : Sem Bool} {Q : Bool → Shared → Prop} (B : Bool) (hS : Sat w c V s) (h1 : wpAny (MM w) A X (fun b s' => b = B ∧ Sat w c V s') (fun _ _ => False) s) (h2 : ∀ s', Sat w c V s' → Q B s') : wpAny (MM w) A X Q E s :=
  wpAny_mono h1 (fun b s' x => x.1 ▸ h2 s' x.2) fun _ _ x => x.elim
theorem subN {value slice : Expr} {a : Addr} {xs : List Value} {i : Nat} {t : Tok} {v : Value} {Q : Value → Shared → Prop} (hS : Sat w c V s) (hl : c.I.PlainList a xs.toArray) (hx : xs[i]? = some v) (hz : xs.length ≤ 100000) (h : Q v s)
    (hs : subscripted slice false (.ref a) (.int i t) = operate [.ref a, .int i t] (getItem (.ref a) (.int i t)) := by with_unfolding_all rfl) : wpAny (MM w) A (subscriptTail value slice (.ref a) (.int i t)) Q E s := by
  have := (List.getElem?_eq_some_iff.mp hx).1
  exact subl (hS.list (.imm hl)) (Int.natCast_nonneg i) (by omega) (by simpa using hx) h hs
theorem subL {value slice : Expr} {a : Addr} {xs : List Value} {i : Nat} {t : Tok} {v : Value} {Q : Value → Shared → Prop} (hS : Sat w c V s) (hl : c.I.IsList a xs.toArray) (hx : xs[i]? = some v) (hz : xs.length ≤ 100000) (h : Q v s)
    (hs : subscripted slice false (.ref a) (.int i t) = operate [.ref a, .int i t] (getItem (.ref a) (.int i t)) := by with_unfolding_all rfl) : wpAny (MM w) A (subscriptTail value slice (.ref a) (.int i t)) Q E s := by
  have := (List.getElem?_eq_some_iff.mp hx).1
  exact subl (hS.isl hl) (Int.natCast_nonneg i) (by omega) (by simpa using hx) h hs
end

theorem IsVs.append {w : World} {c : Ctx} {l l' : List T} {vs vs' : List Value} (x : IsVs w c l vs) (y : IsVs w c l' vs') : IsVs w c (l ++ l') (vs ++ vs') := by
  refine ⟨by simp [x.1, y.1], fun i p u h1 h2 => ?_⟩
  rw [List.getElem?_append] at h1 h2
  rw [x.1] at h2
  by_cases q : i < l.length
  · rw [if_pos q] at h1 h2; exact x.2 i p u h1 h2
  · rw [if_neg q] at h1 h2; exact y.2 _ p u h1 h2
theorem TagsAre.append {l l' : List Tag} {vs vs' : List Value} (x : TagsAre l vs) (y : TagsAre l' vs') : TagsAre (l ++ l') (vs ++ vs') := by
  refine ⟨by simp [x.1, y.1], fun i p u h1 h2 => ?_⟩
  rw [List.getElem?_append] at h1 h2
  rw [x.1] at h2
  by_cases q : i < l.length
  · rw [if_pos q] at h1 h2; exact x.2 i p u h1 h2
  · rw [if_neg q] at h1 h2; exact y.2 _ p u h1 h2
theorem IsVs.nil {w : World} {c : Ctx} : IsVs w c [] [] := ⟨rfl, fun _ _ _ h => by simp at h⟩
theorem TagsAre.nil : TagsAre [] [] := ⟨rfl, fun _ _ _ h => by simp at h⟩
theorem IsVs.one {w : World} {c : Ctx} {t : T} {v : Value} (h : IsV w c t v) : IsVs w c [t] [v] := ⟨rfl, fun i p u h1 h2 => by
  cases i with
  | zero => simp at h1 h2; subst h1 h2; exact h
  | succ i => simp at h1⟩
theorem TagsAre.one {t : Tag} {v : Value} (h : TagIs t v) : TagsAre [t] [v] := ⟨rfl, fun i p u h1 h2 => by
  cases i with
  | zero => simp at h1 h2; subst h1 h2; exact h
  | succ i => simp at h1⟩

/-- the rows of a table of language objects -/
noncomputable def RowV (w : World) (c : Ctx) (p : Tag × T) (v : Value) : Prop := ∃ a g u, v = .ref a ∧ c.I.IsTuple a [g, u].toArray ∧ TagIs p.1 g ∧ IsV w c p.2 u
noncomputable def RowVs (w : World) (c : Ctx) (l : List (Tag × T)) (vs : List Value) : Prop := vs.length = l.length ∧ ∀ (i : Nat) p u, l[i]? = some p → vs[i]? = some u → RowV w c p u
theorem tuple_keeps {c c' : Ctx} {a : Addr} {xs : Array Value} (h : c.I.IsTuple a xs) (l : c.Le c') : c'.I.IsTuple a xs := let ⟨o, e, r⟩ := h; ⟨o, l.keep _ _ e, r⟩
theorem list_keeps {c c' : Ctx} {a : Addr} {xs : Array Value} (h : c.I.IsList a xs) (l : c.Le c') : c'.I.IsList a xs := let ⟨o, e, r⟩ := h; ⟨o, l.keep _ _ e, r⟩
theorem RowV.mono {w : World} {c c' : Ctx} {p : Tag × T} {v : Value} (x : RowV w c p v) (l : c.Le c') : RowV w c' p v := let ⟨a, g, u, e, h1, h2, h3⟩ := x; ⟨a, g, u, e, tuple_keeps h1 l, h2, h3.mono l⟩
theorem RowVs.mono {w : World} {c c' : Ctx} {p : List (Tag × T)} {v : List Value} (x : RowVs w c p v) (l : c.Le c') : RowVs w c' p v := ⟨x.1, fun i p u h1 h2 => (x.2 i p u h1 h2).mono l⟩
structure RealTab (w : World) (c : Ctx) (tab : Tab) (tb : Addr) (kvs : List (Str × Value)) : Prop where
  at_ : (dc w tb kvs).at c.I
  n0 : ∀ x, x ≠ dots → tab.kvs.lookup x = none → valueAt kvs x = none
  n1 : ∀ x t, x ≠ dots → tab.kvs.lookup x = some t → ∃ v, valueAt kvs x = some v ∧ IsV w c t v
  d0 : tab.rows = none → valueAt kvs dots = none
  d1 : ∀ r, tab.rows = some r → r.length ≤ 50 ∧ ∃ la us, valueAt kvs dots = some (.ref la) ∧ c.I.PlainList la us.toArray ∧ RowVs w c r us
theorem RealTab.mono {w : World} {c c' : Ctx} {tab : Tab} {tb : Addr} {kvs : List (Str × Value)} (x : RealTab w c tab tb kvs) (l : c.Le c') : RealTab w c' tab tb kvs :=
  ⟨Cell.at_of x.at_ fun o e => l.keep _ o e, x.n0, fun y t h1 h2 => let ⟨v, a, b⟩ := x.n1 y t h1 h2; ⟨v, a, b.mono l⟩, x.d0, fun r h => let ⟨a, la, us, b, d, e⟩ := x.d1 r h; ⟨a, la, us, b, Heap.PlainList.keeps d l.keep, e.mono l⟩⟩
noncomputable def putl (tab : Tab) (l : List (Tag × T)) : List (Tag × T) := l.flatMap fun p => match isDots p.2, tab.rows with
  | true, some r => r
  | _, _ => [(p.1, put tab p.2)]
theorem put_calll (tab : Tab) (l : List (Tag × T)) : put tab (.call l) = .call (putl tab l) := put_call tab l
theorem putl_len {tab : Tab} (h : ∀ r, tab.rows = some r → r.length ≤ 50) (l : List (Tag × T)) : (putl tab l).length ≤ 50 * l.length := by
  induction l with
  | nil => simp [putl]
  | cons p l ih =>
    have e : putl tab (p :: l) = (match isDots p.2, tab.rows with | true, some r => r | _, _ => [(p.1, put tab p.2)]) ++ putl tab l := rfl
    rw [e, List.length_append, List.length_cons]
    have : (match isDots p.2, tab.rows with | true, some r => r | _, _ => [(p.1, put tab p.2)]).length ≤ 50 := by
      split
      · rename_i r _ q; exact h r q
      · simp
    omega
theorem putl_take {tab : Tab} {l : List (Tag × T)} {i : Nat} {p : Tag × T} (h : l[i]? = some p) : putl tab (l.take (i + 1)) = putl tab (l.take i) ++ (match isDots p.2, tab.rows with | true, some r => r | _, _ => [(p.1, put tab p.2)]) := by
  rw [List.take_add_one, h]
  simp [putl]
/-! equality of data -/
mutual
noncomputable def plainP : PyData → Bool
  | .none | .int _ | .str _ => true
  | .bool _ => false
  | .list xs | .tuple xs => plainPs xs
  | .dict _ => false
noncomputable def plainPs : List PyData → Bool
  | [] => true
  | x :: xs => plainP x && plainPs xs
end
mutual
theorem eqv_iff : ∀ x y : PyData, plainP x = true → plainP y = true → (PyData.eqv x y = true ↔ x = y)
  | .none, y, _, hy => by cases y <;> simp_all [PyData.eqv, plainP]
  | .bool _, _, hx, _ => by simp [plainP] at hx
  | .int i, y, _, hy => by cases y <;> simp_all [PyData.eqv, plainP]
  | .str s, y, _, hy => by cases y <;> simp_all [PyData.eqv, plainP]
  | .list xs, y, hx, hy => by
    cases y with
    | list ys =>
      have := eqvs_iff xs ys (by simpa [plainP] using hx) (by simpa [plainP] using hy)
      simpa [PyData.eqv] using this
    | _ => simp_all [PyData.eqv, plainP]
  | .tuple xs, y, hx, hy => by
    cases y with
    | tuple ys =>
      have := eqvs_iff xs ys (by simpa [plainP] using hx) (by simpa [plainP] using hy)
      simpa [PyData.eqv] using this
    | _ => simp_all [PyData.eqv, plainP]
  | .dict _, _, hx, _ => by simp [plainP] at hx
theorem eqvs_iff : ∀ x y : List PyData, plainPs x = true → plainPs y = true → (PyData.eqvAll x y = true ↔ x = y)
  | [], y, _, _ => by cases y <;> simp [PyData.eqvAll]
  | a :: x, y, hx, hy => by
    cases y with
    | nil => simp [PyData.eqvAll]
    | cons b y =>
      simp only [plainPs, Bool.and_eq_true] at hx hy
      have h1 := eqv_iff a b hx.1 hy.1
      have h2 := eqvs_iff x y hx.2 hy.2
      simp [PyData.eqvAll, h1, h2]
end
theorem plainPs_of {xs : List PyData} (h : ∀ x ∈ xs, plainP x = true) : plainPs xs = true := by
  induction xs with
  | nil => rfl
  | cons x xs ih => simp only [plainPs, Bool.and_eq_true]; exact ⟨h x (.head _), ih fun y hy => h y (.tail _ hy)⟩
theorem canLayAll_of {xs : List PyData} (h : ∀ x ∈ xs, x.canLay0 = true) : PyData.canLayAll0 xs = true := by
  induction xs with
  | nil => rfl
  | cons x xs ih => simp only [PyData.canLayAll0, Bool.and_eq_true]; exact ⟨h x (.head _), ih fun y hy => h y (.tail _ hy)⟩
theorem depthAll_of {xs : List PyData} {n : Nat} (h : ∀ x ∈ xs, x.depth ≤ n) : PyData.depthAll xs ≤ n := by
  induction xs with
  | nil => simp [PyData.depthAll]
  | cons x xs ih =>
    have a := h x (.head _)
    have b := ih fun y hy => h y (.tail _ hy)
    simp only [PyData.depthAll]; (first | lia | omega)
theorem plain_atom (d : Atom) : plainP d.toP = true := by cases d <;> rfl
theorem plain_tag (g : Tag) : plainP (tagP g) = true := by cases g <;> rfl
theorem plain_T (t : T) : plainP t.toP = true := by
  induction t using T.ind with
  | h1 s => simp [T.toP, plainP, plainPs]
  | h2 => simp [T.toP, plainP, plainPs]
  | h3 => simp [T.toP, plainP, plainPs]
  | h4 k ds =>
    simp only [T.toP, plainP, plainPs, Bool.true_and, Bool.and_true]
    exact plainPs_of fun x hx => by obtain ⟨d, _, rfl⟩ := List.mem_map.mp hx; exact plain_atom d
  | h5 l ih =>
    rw [toP_call]
    simp only [plainP, plainPs, Bool.true_and, Bool.and_true, Bool.and_eq_true]
    exact ⟨plainPs_of fun x hx => by obtain ⟨d, hd, rfl⟩ := List.mem_map.mp hx; exact ih d hd, plainPs_of fun x hx => by obtain ⟨d, _, rfl⟩ := List.mem_map.mp hx; exact plain_tag _⟩
theorem lay_atom {d : Atom} (h : ∀ s, d = .str s → PyData.strOk s = true) : d.toP.canLay0 = true := by
  cases d with
  | none => rfl
  | str s => simpa [Atom.toP, PyData.canLay0] using h s rfl
  | pair i j => rfl
theorem lay_tag {g : Tag} (h : ∀ s, g = some s → PyData.strOk s = true) : (tagP g).canLay0 = true := by
  cases g with
  | none => rfl
  | some s => simpa [tagP, PyData.canLay0] using h s rfl
theorem lay_T {m : Nat} {t : T} (h : Wide m t) : t.toP.canLay0 = true := by
  induction h with
  | name h1 => simpa [T.toP, PyData.canLay0, PyData.canLayAll0] using ⟨(by kernel_rfl : PyData.strOk ("name" : Str) = true), h1⟩
  | null => rw [T.toP]; kernel_rfl
  | miss => rw [T.toP]; kernel_rfl
  | leaf h1 h2 h3 =>
    simp only [T.toP, PyData.canLay0, PyData.canLayAll0, Bool.and_true, Bool.and_eq_true]
    exact ⟨h1, canLayAll_of fun x hx => by obtain ⟨d, hd, rfl⟩ := List.mem_map.mp hx; exact lay_atom (h3 d hd)⟩
  | call h1 h2 _ h4 ih =>
    rw [toP_call]
    simp only [PyData.canLay0, PyData.canLayAll0, Bool.and_true, Bool.and_eq_true]
    exact ⟨by kernel_rfl, canLayAll_of fun x hx => by obtain ⟨d, hd, rfl⟩ := List.mem_map.mp hx; exact ih d hd, canLayAll_of fun x hx => by obtain ⟨d, hd, rfl⟩ := List.mem_map.mp hx; exact lay_tag (h4 d hd)⟩
theorem dep_atom (d : Atom) : d.toP.depth ≤ 1 := by cases d <;> simp [Atom.toP, PyData.depth, PyData.depthAll]
theorem dep_tag (g : Tag) : (tagP g).depth ≤ 0 := by cases g <;> simp [tagP, PyData.depth]
theorem dep_T (t : T) : t.toP.depth ≤ 3 + 2 * deep t := by
  induction t using T.ind with
  | h1 s => simp [T.toP, PyData.depth, PyData.depthAll]; (first | lia | omega)
  | h2 => simp [T.toP, PyData.depth, PyData.depthAll]; (first | lia | omega)
  | h3 => simp [T.toP, PyData.depth, PyData.depthAll]; (first | lia | omega)
  | h4 k ds =>
    have := depthAll_of (xs := ds.map Atom.toP) (n := 1) fun x hx => by obtain ⟨d, _, rfl⟩ := List.mem_map.mp hx; exact dep_atom d
    simp only [T.toP, PyData.depth, PyData.depthAll]; (first | lia | omega)
  | h5 l ih =>
    have h1 := depthAll_of (xs := l.map fun p => p.2.toP) (n := 3 + 2 * (deep (.call l) - 1)) fun x hx => by
      obtain ⟨d, hd, rfl⟩ := List.mem_map.mp hx
      have := ih d hd; have := deep_mem hd; (first | lia | omega)
    have h2 := depthAll_of (xs := l.map fun p => tagP p.1) (n := 0) fun x hx => by obtain ⟨d, _, rfl⟩ := List.mem_map.mp hx; exact dep_tag _
    have h3 : 1 ≤ deep (.call l) := by rw [deep_call]; (first | lia | omega)
    rw [toP_call]
    simp only [PyData.depth, PyData.depthAll]; (first | lia | omega)
theorem shaped_T {m : Nat} {t : T} (h : Wide m t) (hd : deep t ≤ 20)   : SeqAt.shaped t.toP = true := by
  have := dep_T t
  simp only [SeqAt.shaped, Bool.and_eq_true, decide_eq_true_eq]
  exact ⟨lay_T h, by (first | lia | omega)⟩
noncomputable def same (a b : T) : Bool := PyData.eqv a.toP b.toP
theorem same_iff {a b : T} : same a b = true ↔ a.toP = b.toP := eqv_iff _ _ (plain_T a) (plain_T b)
theorem same_refl (a : T) : same a a = true := same_iff.mpr rfl
theorem same_ne {a b : T} (h : a.toP ≠ b.toP) : same a b = false := Bool.eq_false_iff.mpr fun q => h (same_iff.mp q)
section
variable {w : World} {A : Around} {E : Value → Shared → Prop} {c : Ctx} {V V' : List Cell} {s : Shared} {env : Env} {p : Cell} {n : Nat}
theorem addI {a b : Int} {t u : Tok} {Q : Value → Shared → Prop} (hS : Sat w c V s) (h : ∀ t s', Sat w c V s' → Q (.int (a + b) t) s') : wpAny (MM w) A (binaryOp .Add (.int a t) (.int b u)) Q E s := PyProof.Rows.add_int (h _ _ (hS.toks _))
theorem iaddI {a b : Int} {t u : Tok} {Q : Value → Shared → Prop} (hS : Sat w c V s) (h : ∀ t s', Sat w c V s' → Q (.int (a + b) t) s') : wpAny (MM w) A (inplaceOp .Add (.int a t) (.int b u)) Q E s := PyProof.Rows.iadd_int (h _ _ (hS.toks _))
theorem isubI {a b : Int} {t u : Tok} {Q : Value → Shared → Prop} (hS : Sat w c V s) (h : ∀ t s', Sat w c V s' → Q (.int (a - b) t) s') : wpAny (MM w) A (inplaceOp .Sub (.int a t) (.int b u)) Q E s := isub_int (h _ _ (hS.toks _))
theorem eqI {a b : Int} {t u : Tok} {Q : Value → Shared → Prop} (h : Q (.bool (decide (a = b))) s) : wpAny (MM w) A (compareOp .Eq (.int a t) (.int b u)) Q E s := PyProof.Rows.eq_int (by rw [show (a == b) = decide (a = b) from by by_cases q : a = b <;> simp [q]]; exact h)
theorem neI {a b : Int} {t u : Tok} {Q : Value → Shared → Prop} (h : Q (.bool (!decide (a = b))) s) : wpAny (MM w) A (compareOp .NotEq (.int a t) (.int b u)) Q E s := PyProof.Rows.ne_int (by rw [show (a != b) = !decide (a = b) from by by_cases q : a = b <;> simp [q]]; exact h)
theorem ltI {a b : Int} {t u : Tok} {Q : Value → Shared → Prop} (h : Q (.bool (decide (a < b))) s) : wpAny (MM w) A (compareOp .Lt (.int a t) (.int b u)) Q E s := PyProof.Rows.lt_int h
theorem gtI {a b : Int} {t u : Tok} {Q : Value → Shared → Prop} (h : Q (.bool (decide (b < a))) s) : wpAny (MM w) A (compareOp .Gt (.int a t) (.int b u)) Q E s := PyProof.Rows.gt_int h
theorem max_ {a b : Nat} {t u : Tok} {Q : Value → Shared → Prop} (hh : A.handled = none) (hS : Sat w c V s) (h : ∀ t s', Sat w c V s' → Q (.int ((max a b : Nat) : Int) t) s') : wpAny (MM w) A (call (.builtin "max") [.int a t, .int b u]) Q E s := by
  refine Flt.max_two_num hh (.int _ _) (.int _ _) fun h' tk k => ?_
  have hS' := hS.ext (t := tk) k
  by_cases q : a < b
  · have e : max a b = b := by (first | lia | omega)
    have f : Flt.ltV (.int (a : Int) t) (.int (b : Int) u) = true := decide_eq_true (by (first | lia | omega))
    rw [if_pos f]
    have := h u _ hS'
    rwa [e] at this
  · have e : max a b = a := by (first | lia | omega)
    have f : Flt.ltV (.int (a : Int) t) (.int (b : Int) u) = false := decide_eq_false (by (first | lia | omega))
    rw [if_neg (by rw [f]; exact Bool.noConfusion)]
    have := h t _ hS'
    rwa [e] at this

theorem Room.u64 {A : Around} {n : Nat} (r : Room A n) : A.units + 64 < cLine := r.units
theorem in_room {A : Around} {n k : Nat} {xs : List PyData} {d : PyData} (r : Room A n) (h : d.depth ≤ k) (hk : k ≤ 60) : A.units + 1 + min (PyData.depthAll xs) d.depth < cLine := by
  have := r.u
  show A.units + 1 + min (PyData.depthAll xs) d.depth < 9900
  have h2 : min (PyData.depthAll xs) d.depth ≤ d.depth := Nat.min_le_right _ _
  (first | lia | omega)
theorem inT {a : Addr} {vs : List Value} {l : List PyData} {d : PyData} {v : Value} {Q : Value → Shared → Prop} (hS : Sat w c V s) (hR : Room A n) (ht : c.I.IsTuple a vs.toArray) (hr : RDs c l vs) (hd : RD c d v) (h1 : PyData.canLayAll0 l = true) (h2 : d.canLay0 = true) (h3 : d.depth ≤ 60)
    (h : Q (.bool (l.any fun y => PyData.eqv y d)) s) : wpAny (MM w) A (compareOp .In v (.ref a)) Q E s := by
  obtain ⟨as, r1⟩ := rd_mkt ht hr
  obtain ⟨bs, r2⟩ := hd
  exact SeqAt.in_tuple_reads (PyProof.Rows.Reads.keeps hS.keep r1) (PyProof.Rows.Reads.keeps hS.keep r2) h1 h2 (in_room hR h3 (Nat.le_refl _)) h
theorem inLs {a : Addr} {vs : List Value} {l : List PyData} {d : PyData} {v : Value} {Q : Value → Shared → Prop} (hS : Sat w c V s) (hR : Room A n) (ht : c.I.IsList a vs.toArray) (hr : RDs c l vs) (hd : RD c d v) (h1 : PyData.canLayAll0 l = true) (h2 : d.canLay0 = true) (h3 : d.depth ≤ 60)
    (h : Q (.bool (l.any fun y => PyData.eqv y d)) s) : wpAny (MM w) A (compareOp .In v (.ref a)) Q E s := by
  obtain ⟨as, r1⟩ := rd_mkl ht hr
  obtain ⟨bs, r2⟩ := hd
  exact SeqAt.in_list_reads (PyProof.Rows.Reads.keeps hS.keep r1) (PyProof.Rows.Reads.keeps hS.keep r2) h1 h2 (in_room hR h3 (Nat.le_refl _)) h
theorem ninT {a : Addr} {vs : List Value} {l : List PyData} {d : PyData} {v : Value} {Q : Value → Shared → Prop} (hS : Sat w c V s) (hR : Room A n) (ht : c.I.IsTuple a vs.toArray) (hr : RDs c l vs) (hd : RD c d v) (h1 : PyData.canLayAll0 l = true) (h2 : d.canLay0 = true) (h3 : d.depth ≤ 60)
    (h : Q (.bool (!l.any fun y => PyData.eqv y d)) s) : wpAny (MM w) A (compareOp .NotIn v (.ref a)) Q E s := by
  obtain ⟨as, r1⟩ := rd_mkt ht hr
  obtain ⟨bs, r2⟩ := hd
  exact SeqAt.notIn_tuple_reads (PyProof.Rows.Reads.keeps hS.keep r1) (PyProof.Rows.Reads.keeps hS.keep r2) h1 h2 (in_room hR h3 (Nat.le_refl _)) h
theorem ninLs {a : Addr} {vs : List Value} {l : List PyData} {d : PyData} {v : Value} {Q : Value → Shared → Prop} (hS : Sat w c V s) (hR : Room A n) (ht : c.I.IsList a vs.toArray) (hr : RDs c l vs) (hd : RD c d v) (h1 : PyData.canLayAll0 l = true) (h2 : d.canLay0 = true) (h3 : d.depth ≤ 60)
    (h : Q (.bool (!l.any fun y => PyData.eqv y d)) s) : wpAny (MM w) A (compareOp .NotIn v (.ref a)) Q E s := by
  obtain ⟨as, r1⟩ := rd_mkl ht hr
  obtain ⟨bs, r2⟩ := hd
  exact SeqAt.notIn_list_reads (PyProof.Rows.Reads.keeps hS.keep r1) (PyProof.Rows.Reads.keeps hS.keep r2) h1 h2 (in_room hR h3 (Nat.le_refl _)) h
theorem eqD {a b : Value} {da db : PyData} {Q : Value → Shared → Prop} (hS : Sat w c V s) (hR : Room A n) (ra : RD c da a) (rb : RD c db b) (ha : SeqAt.shaped da = true) (hb : SeqAt.shaped db = true) (h : Q (.bool (PyData.eqv da db)) s) : wpAny (MM w) A (compareOp .Eq a b) Q E s := by
  obtain ⟨as, r1⟩ := ra
  obtain ⟨bs, r2⟩ := rb
  exact eq_dataH (PyProof.Rows.Reads.keeps hS.keep r1) (PyProof.Rows.Reads.keeps hS.keep r2) ha hb hR.units h
theorem neD {a b : Value} {da db : PyData} {Q : Value → Shared → Prop} (hS : Sat w c V s) (hR : Room A n) (ra : RD c da a) (rb : RD c db b) (ha : SeqAt.shaped da = true) (hb : SeqAt.shaped db = true) (h : Q (.bool (!PyData.eqv da db)) s) : wpAny (MM w) A (compareOp .NotEq a b) Q E s := by
  obtain ⟨as, r1⟩ := ra
  obtain ⟨bs, r2⟩ := rb
  exact ne_dataH (PyProof.Rows.Reads.keeps hS.keep r1) (PyProof.Rows.Reads.keeps hS.keep r2) ha hb hR.units h
end
theorem any_strs {l : List Str} {x : Str} : ((l.map PyData.str).any fun y => PyData.eqv y (.str x)) = decide (x ∈ l) := by
  induction l with
  | nil => rfl
  | cons y l ih =>
    have e : (y == x) = decide (x = y) := by
      by_cases q : x = y
      · subst q; simp
      · have q' : ¬ y = x := fun h => q h.symm
        simp [q, q']
    simp only [List.map_cons, List.any_cons, ih, PyData.eqv, e, List.mem_cons]
    by_cases q : x = y <;> simp [q]
noncomputable def mx (l : List (Tag × T)) : Nat := (l.map fun p => deep p.2).foldr max 0
theorem mx_app (l : List (Tag × T)) (p : Tag × T) : mx (l ++ [p]) = max (mx l) (deep p.2) := by
  induction l with
  | nil => simp [mx]
  | cons q l ih =>
    have e : ∀ r : List (Tag × T), mx (q :: r) = max (deep q.2) (mx r) := fun _ => rfl
    rw [List.cons_append, e, e, ih]; (first | lia | omega)
theorem deep_kids (t : T) : deep t = (if isCall t then 1 else 0) + mx (kids t) := by
  cases t with
  | call l => rw [deep_call]; rfl
  | _ => simp [deep, isCall, kids, mx]
/-! functions with cells -/
noncomputable def fnChkC (w : World) (f : Addr) (nm : List Str) (gl : List (Str × Value)) : Bool :=
  (match (KK w).lookup f with | some ⟨_, _, .func _, _⟩ => true | _ => false) &&
  (match (fdAt w f).body with | .stmts _ => true | _ => false) &&
  codeIn (KK w) (fdAt w f).code (fdAt w f).qualname &&
  decide ((fdAt w f).scope.kind = .function) && decide (nm.Nodup) &&
  (nm.all fun x => decide ((fdAt w f).scope.names.lookup x = some .local) && !(x == ("__debug__" : Str))) &&
  (gl.all fun p => decide ((fdAt w f).scope.names.lookup p.1 = some .globalImplicit) && !(p.1 == ("__debug__" : Str)) &&
    (decide (nsIn (KK w) mainGlobals p.1 = some (some p.2)) || (decide (nsIn (KK w) mainGlobals p.1 = some none) && decide (bootBuiltins p.1 = some p.2) && decide (p.1 ≠ "__name__")))) &&
  decide ((fdAt w f).globals = mainGlobals) && decide ((fdAt w f).builtins = builtinsNs) &&
  (fdAt w f).closure.isEmpty && !(fdAt w f).scope.isCoroutine && !(fdAt w f).scope.isGenerator
structure FnOkC (w : World) (f : Addr) (nm : List Str) (gl : List (Str × Value)) : Prop where
  at_ : ∃ o, (KK w).lookup f = some o ∧ o.data = .func (fdAt w f)
  body : (fdAt w f).body = .stmts (bodyAt w f)
  code : codeIn (KK w) (fdAt w f).code (fdAt w f).qualname = true
  fr : ∀ L, FrOk w (callEnvC (fdAt w f) L f) nm gl
  clo : (fdAt w f).closure = []
  co : (fdAt w f).scope.isCoroutine = false
  gen : (fdAt w f).scope.isGenerator = false
  kind : (fdAt w f).scope.kind = .function
theorem FnOkC.of {w : World} {f : Addr} {nm : List Str} {gl : List (Str × Value)} (h : fnChkC w f nm gl = true) : FnOkC w f nm gl := by
  unfold fnChkC at h
  simp only [Bool.and_eq_true, decide_eq_true_eq, List.all_eq_true, Bool.or_eq_true, Bool.not_eq_true', List.isEmpty_iff] at h
  obtain ⟨⟨⟨⟨⟨⟨⟨⟨⟨⟨⟨h1, h2⟩, h3⟩, h4⟩, h5⟩, h6⟩, h7⟩, h8⟩, h9⟩, h10⟩, h11⟩, h12⟩ := h
  refine ⟨?_, ?_, h3, fun L => ⟨h4, h5, fun x hx => ⟨(h6 x hx).1, (h6 x hx).2⟩, fun p hp => ?_, h8, h9⟩, h10, h11, h12, h4⟩
  · unfold fdAt
    split at h1
    · rename_i fd _ e; exact ⟨_, e, by first | rfl | rw [e]⟩
    · cases h1
  · unfold bodyAt
    split at h2
    · rename_i b e; rw [e]
    · cases h2
  · obtain ⟨⟨a1, a2⟩, a3⟩ := h7 p hp
    refine ⟨a1, a2, ?_⟩
    rcases a3 with a | ⟨⟨a, b⟩, d⟩
    · exact .own a
    · exact .boot a b d

noncomputable def cl (a : Addr) (v : Option Value) : Cell := .pr a (fun o => o.data = .cell v)
theorem cl_at {h : Heap} {a : Addr} {v : Option Value} (x : h.IsCell a v) : (cl a v).at h := x

section
variable {w : World} {A : Around} {E : Value → Shared → Prop} {c : Ctx} {V : List Cell} {s : Shared} {n : Nat}

theorem Sat.add (x : Sat w c V s) {p : Cell} (hp : p.at s.heap) (h1 : c.I.get? p.addr = none) (h2 : ∀ q ∈ V, p.addr ≠ q.addr) (h3 : ∀ q ∈ c.D, p.addr ≠ q.1) : Sat w c (p :: V) s := by
  refine ⟨x.st, x.keep, fun q hq => ?_, x.vd, fun q hq => ?_, x.sepD, fun q hq => ?_, List.pairwise_cons.mpr ⟨h2, x.nod⟩, x.gens, x.drawn, x.os⟩
  · rcases List.mem_cons.mp hq with rfl | hq
    · exact hp
    · exact x.vol q hq
  · rcases List.mem_cons.mp hq with rfl | hq
    · exact h1
    · exact x.sepV q hq
  · rcases List.mem_cons.mp hq with rfl | hq
    · exact h3
    · exact x.sepVD q hq
theorem Sat.none_ge (x : Sat w c V s) {a : Addr} (h : s.heap.objs.size ≤ a) : c.I.get? a = none := by
  cases q : c.I.get? a with
  | none => rfl
  | some o => exact absurd (Heap.lt_size (x.keep _ _ q)) (Nat.not_lt.mpr h)

/-- the frame and the cells of a call that has just begun -/
theorem Sat.inCall (x : Sat w c V s) {L : Addr} {m cm : Str → Option Value} {cs : List (Str × Addr)} {s1 : Shared} (y : InCallC s L m cs cm s1) (hn : (cs.map (·.1)).Nodup) :
    Sat w c (.ns L m :: (cs.map (fun p => cl p.2 (cm p.1)) ++ V)) s1 := by
  obtain ⟨h', tk, rfl⟩ := y.toInCall.same
  have fresh := y.toInCall.fresh
  have h1 : Sat w c (.ns L m :: V) { s with heap := h', toks := tk } := x.new y.toInCall.keep fresh y.toInCall.ns
  have lk : ∀ p ∈ cs, cs.lookup p.1 = some p.2 := by
    have gen : ∀ l : List (Str × Addr), (l.map (·.1)).Nodup → ∀ p ∈ l, l.lookup p.1 = some p.2 := by
      intro l
      induction l with
      | nil => intro _ p hp; cases hp
      | cons q r ih =>
        intro hn p hp
        obtain ⟨k, v⟩ := q
        simp only [List.map_cons, List.nodup_cons] at hn
        rcases List.mem_cons.mp hp with rfl | hp
        · simp [List.lookup_cons]
        · have hne : ¬ p.1 = k := fun e => hn.1 (e ▸ List.mem_map_of_mem hp)
          have hb : (p.1 == k) = false := by simpa using hne
          rw [List.lookup_cons, hb]; exact ih hn.2 p hp
    exact gen cs hn
  have gen : ∀ r : List (Str × Addr), (∀ p ∈ r, p ∈ cs) → r.Pairwise (fun x y => x.2 ≠ y.2) → Sat w c (r.map (fun p => cl p.2 (cm p.1)) ++ (.ns L m :: V)) { s with heap := h', toks := tk } := by
    intro r
    induction r with
    | nil => intro _ _; exact h1
    | cons q r ih =>
      intro hm hp
      have h2 := ih (fun p hq => hm p (.tail _ hq)) (List.pairwise_cons.mp hp).2
      have hq := hm q (.head _)
      have hL : L < q.2 := y.above q.1 q.2 hq
      refine h2.add (p := cl q.2 (cm q.1)) (cl_at (y.cell q.1 q.2 (lk q hq))) (x.none_ge (Nat.le_of_lt (Nat.lt_of_le_of_lt fresh hL))) (fun z hz => ?_) fun z hz => ?_
      · rcases List.mem_append.mp hz with hz | hz
        · obtain ⟨u, hu, rfl⟩ := List.mem_map.mp hz
          exact (List.pairwise_cons.mp hp).1 u hu
        · rcases List.mem_cons.mp hz with rfl | hz
          · exact Nat.ne_of_gt hL
          · exact fun e => Nat.lt_irrefl _ (Nat.lt_of_lt_of_le (x.lt hz) (Nat.le_of_lt (e ▸ Nat.lt_of_le_of_lt fresh hL)))
      · exact fun e => Nat.lt_irrefl _ (Nat.lt_of_lt_of_le (x.vd z hz).lt (Nat.le_of_lt (e ▸ Nat.lt_of_le_of_lt fresh hL)))
  exact (gen cs (fun _ h => h) y.apart).perm List.perm_middle

structure CEnv (w : World) (f : Addr) (env : Env) (cs : List (Str × Addr)) : Prop where
  scope : env.scope = (fdAt w f).scope
  cells : env.cells = cs

theorem code_fnC {f : Addr} {nm cn : List Str} {gl : List (Str × Value)} {vs : List (Option Value)} {args : List Value} {binds : List (Str × Value)} {cs : Nat → List (Str × Addr)} {cm : Str → Option Value} {Post : Value → Ctx → List Cell → Prop} {R : Result → Shared → Prop}
    (hF : FnOkC w f nm gl) (hS : Sat w c V s) (hR : Room A (n + 1)) (hb : bindArgs (fdAt w f) ⟨args, []⟩ = pure binds) (hc : ∀ k, cellsFrom k (fdAt w f).scope.names [] = cs k) (hcn : ∀ k, (cs k).map (·.1) = cn) (hn : cn.Nodup)
    (hk : ∀ x ∈ binds, (fdAt w f).scope.names.lookup x.1 = some .local ∨ ((fdAt w f).scope.names.lookup x.1 = some .cell ∧ x.1 ∈ cn))
    (h1 : bindL (fun x => (fdAt w f).scope.names.lookup x) binds (fun _ => none) = fm nm vs) (h2 : bindC (fun x => (fdAt w f).scope.names.lookup x) binds (fun _ => none) = cm)
    (h : ∀ env A' s' L, FrOk w env nm gl → CEnv w f env (cs (L + 1)) → Room A' n → Sat w c (.ns env.locals (fm nm vs) :: ((cs (L + 1)).map (fun p => cl p.2 (cm p.1)) ++ V)) s' → wpAny (MM w) A' (execs (bodyAt w f) env) (Fin w c env.locals Post) (fun _ _ => False) s')
    (k : ∀ v c' V' s', c.Le c' → Sat w c' V' s' → Post v c' V' → R (.ok (.ret v)) s') : codeAny (MM w) A (.call (.ref f) ⟨args, []⟩) R s := by
  obtain ⟨o, ho, hd⟩ := hF.at_
  refine codeAny_call_cells (fd := fdAt w f) (body := bodyAt w f) (binds := binds) hR.depth (hS.kk _ _ ho) hd (hS.st.lim.keeps hS.keep) (codeRec_of hS.kk hF.code) hF.body hb hF.clo ?_ (fun s1 y => ?_) hF.co hF.gen hF.kind
  · intro x hx
    rcases hk x hx with q | ⟨q, q2⟩
    · exact .inl q
    · refine .inr ⟨q, ?_⟩
      rw [hc]
      rw [← hcn (s.heap.objs.size + 1)] at q2
      obtain ⟨p, hp, e⟩ := List.mem_map.mp q2
      have : ∀ l : List (Str × Addr), p ∈ l → (l.lookup x.1).isSome = true := by
        intro l
        induction l with
        | nil => intro hp; cases hp
        | cons q r ih =>
          intro hp
          obtain ⟨k, v⟩ := q
          rw [List.lookup_cons]
          cases hb : x.1 == k with
          | true => rfl
          | false =>
            rcases List.mem_cons.mp hp with rfl | hp
            · rw [← e] at hb; simp at hb
            · exact ih hp
      exact this _ hp
  · have F := hF.fr s.heap.objs.size
    have e1 : (callEnvC (fdAt w f) s.heap.objs.size f).cells = cs (s.heap.objs.size + 1) := hc _
    have e2 : bindL (callEnvC (fdAt w f) s.heap.objs.size f).kindOf binds (fun _ => none) = fm nm vs := h1
    have e3 : bindC (callEnvC (fdAt w f) s.heap.objs.size f).kindOf binds (fun _ => none) = cm := h2
    rw [e1, e2, e3] at y
    have hS' := hS.inCall y (by rw [hcn]; exact hn)
    refine wpAny_mono (h _ _ _ s.heap.objs.size F ⟨rfl, e1⟩ (hR.deeper _) hS') (fun fl s' x => ?_) fun _ _ x => x.elim
    obtain ⟨c', m, V', l1, l2, l3⟩ := x
    cases fl <;> exact k _ c' V' s' l1 l2.drop l3

/-- one parameter, a cell -/
theorem call_cell1 {f : Addr} {x : Str} {nm : List Str} {gl : List (Str × Value)} {v : Value} {Post : Value → Ctx → List Cell → Prop} {Q : Value → Shared → Prop}
    (hF : FnOkC w f nm gl) (hS : Sat w c V s) (hR : Room A (n + 1)) (hb : bindArgs (fdAt w f) ⟨[v], []⟩ = pure [(x, v)]) (hc : ∀ k, cellsFrom k (fdAt w f).scope.names [] = [(x, k)]) (hx : (fdAt w f).scope.names.lookup x = some .cell)
    (h : ∀ env A' s' C c', c.Le c' → c'.I.IsCell C (some v) → FrOk w env nm gl → CEnv w f env [(x, C)] → Room A' n → Sat w c' (.ns env.locals (fm nm (nm.map fun _ => none)) :: V) s' → wpAny (MM w) A' (execs (bodyAt w f) env) (Fin w c' env.locals Post) (fun _ _ => False) s')
    (k : ∀ v c' V' s', c.Le c' → Sat w c' V' s' → Post v c' V' → Q v s') : wpAny (MM w) A (call (.ref f) [v]) Q E s := by
  have hb1 : bindL (fun x => (fdAt w f).scope.names.lookup x) [(x, v)] (fun _ => none) = fm nm (nm.map fun _ => none) := by
    unfold bindL bindL
    rw [if_neg (by rw [hx]; exact fun e => nomatch e)]
    funext y; exact (fm_none nm y).symm
  have hb2 : bindC (fun x => (fdAt w f).scope.names.lookup x) [(x, v)] (fun _ => none) = fun y => if y = x then some v else none := by
    unfold bindC bindC
    rw [if_neg (by rw [hx]; exact fun e => nomatch e)]
  refine wpAny_call (code_fnC (cn := [x]) (cs := fun k => [(x, k)]) hF hS hR hb hc (fun _ => rfl) (by simp) (fun p hp => ?_) hb1 hb2 (fun env A' s' L e1 e2 e3 hS' => ?_) k)
  · rw [List.mem_singleton.mp hp]; exact .inr ⟨hx, .head _⟩
  · have hS' : Sat w c (.ns env.locals (fm nm (nm.map fun _ => none)) :: cl (L + 1) (some v) :: V) s' := by
      have q : (if x = x then some v else none) = some v := if_pos rfl
      rw [← q]; exact hS'
    obtain ⟨c', l, z, hz⟩ := hS'.freeze (p := cl (L + 1) (some v)) (.tail .head)
    exact wpAny_mono (h env A' s' (L + 1) c' l hz e1 e2 e3 z) (fun fl s1 y => y.mono l) fun _ _ y => y

theorem ldc {f : Addr} {env : Env} {cs : List (Str × Addr)} {x : Str} {pos : Pos} {a : Addr} {v : Value} {Q : Value → Shared → Prop} (hS : Sat w c V s) (hC : CEnv w f env cs) (hk : (fdAt w f).scope.kind = .function) (hx : (fdAt w f).scope.names.lookup x = some .cell) (hl : cs.lookup x = some a) (hv : c.I.IsCell a (some v)) (h : Q v s)
    (hd : (x == ("__debug__" : Str)) = false := by decide) : wpAny (MM w) A (eval (.Name x pos) env) Q E s :=
  wpAny_Name (wpAny_loadName_cell (by rw [hC.scope]; exact hk) (by unfold Env.kindOf; rw [hC.scope]; exact hx) (by rw [hC.cells]; exact hl) (hv.keeps hS.keep) h) hd
end

/-! comprehensions that read cells -/
noncomputable def env0 (sc : Scope) (cs : List (Str × Addr)) : Env := { (default : Env) with scope := sc, cells := cs }
theorem clos_of {scope : Scope} {env : Env} {w : World} {f : Addr} {cs cl : List (Str × Addr)} (hC : CEnv w f env cs) (h : closureFor scope (env0 default cs) = pure cl) : closureFor scope env = pure cl := by
  rw [← h, ← hC.cells]; rfl
noncomputable def compChkC (w : World) (f : Addr) (scope : Scope) (nm : List Str) (gl : List (Str × Value)) (cn : List Str) : Bool :=
  decide (scope.kind = .function) && decide (nm.Nodup) &&
  (nm.all fun x => decide ((relabel scope (env0 (fdAt w f).scope [])).names.lookup x = some .local) && !(x == ("__debug__" : Str))) &&
  (gl.all fun p => decide ((relabel scope (env0 (fdAt w f).scope [])).names.lookup p.1 = some .globalImplicit) && !(p.1 == ("__debug__" : Str)) &&
    (decide (nsIn (KK w) mainGlobals p.1 = some (some p.2)) || (decide (nsIn (KK w) mainGlobals p.1 = some none) && decide (bootBuiltins p.1 = some p.2) && decide (p.1 ≠ "__name__")))) &&
  (cn.all fun x => decide ((relabel scope (env0 (fdAt w f).scope [])).names.lookup x = some .cell) && !(x == ("__debug__" : Str)))
/-- cells of a comprehension's own env -/
structure CelOk (env : Env) (cn : List Str) : Prop where
  h : ∀ x ∈ cn, env.kindOf x = some .cell ∧ (x == ("__debug__" : Str)) = false
theorem FrOk.compC {w : World} {f : Addr} {scope : Scope} {cl cs : List (Str × Addr)} {C : Addr} {env : Env} {nm0 nm cn : List Str} {gl0 gl : List (Str × Value)} (hE : FrOk w env nm0 gl0) (hC : CEnv w f env cs) (h : compChkC w f scope nm gl cn = true) : FrOk w (compEnvC scope cl C env) nm gl ∧ CelOk (compEnvC scope cl C env) cn := by
  unfold compChkC at h
  simp only [Bool.and_eq_true, decide_eq_true_eq, List.all_eq_true, Bool.or_eq_true, Bool.not_eq_true'] at h
  obtain ⟨⟨⟨⟨h4, h5⟩, h6⟩, h7⟩, h8⟩ := h
  have e : (relabel scope (env0 (fdAt w f).scope [])) = relabel scope env := by
    rw [← hC.scope]; rfl
  rw [e] at h6 h7 h8
  refine ⟨⟨h4, h5, fun x hx => ⟨(h6 x hx).1, (h6 x hx).2⟩, fun p hp => ?_, hE.glo, hE.bui⟩, ⟨fun x hx => ⟨(h8 x hx).1, (h8 x hx).2⟩⟩⟩
  obtain ⟨⟨a1, a2⟩, a3⟩ := h7 p hp
  refine ⟨a1, a2, ?_⟩
  rcases a3 with a | ⟨⟨a, b⟩, d⟩
  · exact .own a
  · exact .boot a b d
theorem ldcC {w : World} {A : Around} {E : Value → Shared → Prop} {c : Ctx} {V : List Cell} {s : Shared} {env : Env} {cn : List Str} {cs : List (Str × Addr)} {x : Str} {pos : Pos} {a : Addr} {v : Value} {nm : List Str} {gl : List (Str × Value)} {Q : Value → Shared → Prop} (hE : FrOk w env nm gl) (hS : Sat w c V s) (hK : CelOk env cn) (hC : env.cells = cs) (hx : x ∈ cn) (hl : cs.lookup x = some a) (hv : c.I.IsCell a (some v)) (h : Q v s) : wpAny (MM w) A (eval (.Name x pos) env) Q E s :=
  wpAny_Name (wpAny_loadName_cell hE.kind (hK.h x hx).1 (by rw [hC]; exact hl) (hv.keeps hS.keep) h) (hK.h x hx).2
section
variable {w : World} {A : Around} {E : Value → Shared → Prop} {c : Ctx} {V V' : List Cell} {s : Shared} {env : Env} {p : Cell} {n : Nat}
/-- list(l) -/
theorem listOf {l : Addr} {xs : List Value} {Q : Value → Shared → Prop} (hS : Sat w c V s) (hl : s.heap.IsList l xs.toArray) (hz : xs.length ≤ 100000) (h : ∀ a c' s', c.Le c' → Sat w c' V s' → c'.I.PlainList a xs.toArray → Q (.ref a) s') : wpAny (MM w) A (call (.type "list") [.ref l]) Q E s := by
  obtain ⟨o, ho, hc, m, hd⟩ := hl
  refine call_list_seq l (.inl rfl) ho hc hd (fun h' k' hk hn => ?_) (by rw [List.size_toArray, sizeLine_eq]; (first | lia | omega))
  obtain ⟨c', l1, z, e⟩ := hS.newI (t := s.toks) hk (Nat.le_refl _) hn
  exact h _ c' _ l1 z ⟨k', e⟩
theorem noI_list : fillsInplaceSlot (.type "list") "add" true = pure false := by
  unfold fillsInplaceSlot
  show (typeLookup (.type "list") (dunderI "add") >>= fun fi => pure (fi.isSome && !isSeqSlot fi)) = pure false
  rw [F.slot_list_iadd.lookup, pure_bind]
  have : isSeqSlot (some (.builtin "list.__iadd__")) = true := by decide +kernel
  rw [this]; rfl
theorem seqI_list : seqSlot? (.type "list") (dunderI "add") = pure (some (.builtin "list.__iadd__")) := PySem.seqSlot_of F.slot_list_iadd.lookup (by decide +kernel)
/-- a += b, lists -/
theorem iaddL {a b : Addr} {xs ys : List Value} {Q : Value → Shared → Prop} (hS : Sat w c V s) (hr : Rep (.ls a xs) (.ls a (xs ++ ys)) V V') (hb : s.heap.IsList b ys.toArray) (hz : xs.length + ys.length ≤ 100000) (h : ∀ s', Sat w c V' s' → Q (.ref a) s') : wpAny (MM w) A (inplaceOp .Add (.ref a) (.ref b)) Q E s := by
  obtain ⟨m, ho⟩ := hS.vol _ hr.mem
  obtain ⟨ob, hob, hcb, mb, hdb⟩ := hb
  have ha : s.TypeIs (.ref a) "list" := ⟨_, ho, rfl⟩
  have hb : s.TypeIs (.ref b) "list" := ⟨_, hob, hcb⟩
  unfold inplaceOp
  refine wpAny_holding ?_
  refine wpAny_bind (wpAny_typeOf ha (wpAny_bind (wpAny_of_eq noI_list ?_)))
  show wpAny _ A (if false = true then _ else _) Q E s
  rw [if_neg Bool.false_ne_true]
  refine wpAny_bind (wpAny_binaryOp1_none (nm := "add") ha hb noFill_list_add ?_)
  refine wpAny_bind (wpAny_of_eq seqI_list ?_)
  refine wpAny_bind (wpAny_rule ?_)
  refine wpAny_call_entry F.slot_list_iadd ha F.entry_list_iadd ?_ (F.args_list_iadd_2 _ _)
  show wpAny _ _ (Builtin.List.listExtendWith (.ref a) (.ref b) (.ref a)) _ _ s
  unfold Builtin.List.listExtendWith
  refine wpAny_bind (wpAny_typeOf hb ?_)
  have h1 : (Builtin.List.listSameRef (.ref a) (.ref b) || Value.type "list" == Value.type "list" || Value.type "list" == Value.type "tuple") = true := by simp
  simp only [h1, if_true]
  refine wpAny_bind ?_
  unfold Builtin.List.listItems
  refine wpAny_bind (wpAny_seqItems hob hdb (wpAny_pure ?_))
  refine wpAny_bind ?_
  refine wpAny_bind (wpAny_seqItems ho rfl (wpAny_pure ?_))
  have hg : (!xs.toArray.isEmpty && Builtin.List.listTooLong (xs.toArray.size + ys.toArray.size)) = false := by
    have : Builtin.List.listTooLong (xs.toArray.size + ys.toArray.size) = false := by
      unfold Builtin.List.listTooLong
      simp only [List.size_toArray, decide_eq_false_iff_not, gt_iff_lt, sizeLine_eq]
      (first | lia | omega)
    rw [this, Bool.and_false]
  rw [if_neg (by rw [hg]; exact Bool.false_ne_true)]
  show wpAny _ _ (updateSeq a (· ++ ys.toArray) >>= fun _ => ret (.ref a)) _ _ s
  refine wpAny_bind (wpAny_updateSeq (hz := by rw [List.size_toArray, sizeLine_eq]; (first | lia | omega)) (_hz' := by rw [Array.size_append, List.size_toArray, List.size_toArray, sizeLine_eq]; (first | lia | omega)) ho rfl ?_)
  have hu := IsL.update ho (· ++ ys.toArray)
  have e : xs.toArray ++ ys.toArray = (xs ++ ys).toArray := by simp
  rw [e] at hu
  exact wpAny_pure ⟨_, rfl, h _ (hS.rep (t := s.toks) hr (fun b' o hb' e => (Heap.get?_update_other _ _ (Ne.symm hb')).trans e) rfl ⟨_, hu⟩)⟩
end
/-! the law's trees -/
inductive LK : T → Prop
  | name {s : Str} : LK (.name s)
  | null : LK .null
  | miss : LK .miss
  | leaf {k : Str} {ds : List Atom} : LeafK k → LK (.leaf k ds)
  | call {l : List (Tag × T)} : (∀ p ∈ l, LK p.2) → LK (.call l)
noncomputable def kindL : T → Str
  | .name _ => "name"
  | .null => "NULL"
  | .miss => "missing"
  | .leaf k _ => k
  | .call _ => "call"
noncomputable def IsLs (c : Ctx) (l : List T) (us : List Value) : Prop := us.length = l.length ∧ ∀ (i : Nat) p u, l[i]? = some p → us[i]? = some u → IsL c p u
theorem IsLs.mono {c c' : Ctx} {l : List T} {us : List Value} (x : IsLs c l us) (le : c.Le c') : IsLs c' l us := ⟨x.1, fun i p u h1 h2 => (x.2 i p u h1 h2).mono le⟩
theorem isls_of {c : Ctx} {l : List T} {us : List Value} (x : RDs c (l.map T.toP) us) : IsLs c l us := ⟨by simpa using rds_len x, fun i p u h1 h2 => rds_get x (by simp [h1]) h2⟩
theorem rds_isls {c : Ctx} {l : List T} {us : List Value} (x : IsLs c l us) : RDs c (l.map T.toP) us := rds_of (by simpa using x.1) fun i d v h1 h2 => by
  simp only [List.getElem?_map, Option.map_eq_some_iff] at h1
  obtain ⟨t, ht, rfl⟩ := h1
  exact x.2 i t v ht h2
theorem rds_tags {c : Ctx} {l : List Tag} {ts : List Value} (h : TagsAre l ts) : RDs c (l.map tagP) ts := by
  refine rds_of (by simpa using h.1) fun i d v h1 h2 => ?_
  simp only [List.getElem?_map, Option.map_eq_some_iff] at h1
  obtain ⟨g, hg, rfl⟩ := h1
  exact rd_tag (h.2 i g v hg h2)
theorem tags_of {c : Ctx} {l : List Tag} {us : List Value} (x : RDs c (l.map tagP) us) : TagsAre l us := ⟨by simpa using rds_len x, fun i p u h1 h2 => tag_rd (rds_get x (by simp [h1]) h2)⟩
section
variable {c : Ctx} {v : Value} {a : Addr}
theorem isl_name {x : Str} (h : IsL c (.name x) v) : ∃ a t1 t2, v = .ref a ∧ c.I.IsTuple a [.str "name" t1, .str x t2].toArray := by
  unfold IsL at h; rw [T.toP] at h
  obtain ⟨a, vs, rfl, h1, h2⟩ := rd_tup h
  obtain ⟨v1, r, rfl, g1, h2⟩ := rds_cons h2
  obtain ⟨v2, r, rfl, g2, h2⟩ := rds_cons h2
  rw [rds_nil h2] at h1
  obtain ⟨t1, rfl⟩ := rd_str g1
  obtain ⟨t2, rfl⟩ := rd_str g2
  exact ⟨a, t1, t2, rfl, h1⟩
theorem isl_null (h : IsL c .null v) : ∃ a t1, v = .ref a ∧ c.I.IsTuple a [.str "NULL" t1].toArray := by
  unfold IsL at h; rw [T.toP] at h
  obtain ⟨a, vs, rfl, h1, h2⟩ := rd_tup h
  obtain ⟨v1, r, rfl, g1, h2⟩ := rds_cons h2
  rw [rds_nil h2] at h1
  obtain ⟨t1, rfl⟩ := rd_str g1
  exact ⟨a, t1, rfl, h1⟩
theorem isl_miss (h : IsL c .miss v) : ∃ a t1, v = .ref a ∧ c.I.IsTuple a [.str "missing" t1].toArray := by
  unfold IsL at h; rw [T.toP] at h
  obtain ⟨a, vs, rfl, h1, h2⟩ := rd_tup h
  obtain ⟨v1, r, rfl, g1, h2⟩ := rds_cons h2
  rw [rds_nil h2] at h1
  obtain ⟨t1, rfl⟩ := rd_str g1
  exact ⟨a, t1, rfl, h1⟩
theorem isl_leaf {k : Str} {ds : List Atom} (h : IsL c (.leaf k ds) v) : ∃ a t1 li us, v = .ref a ∧ c.I.IsTuple a [.str k t1, .ref li].toArray ∧ c.I.IsList li us.toArray ∧ RDs c (ds.map Atom.toP) us := by
  unfold IsL at h; rw [T.toP] at h
  obtain ⟨a, vs, rfl, h1, h2⟩ := rd_tup h
  obtain ⟨v1, r, rfl, g1, h2⟩ := rds_cons h2
  obtain ⟨v2, r, rfl, g2, h2⟩ := rds_cons h2
  rw [rds_nil h2] at h1
  obtain ⟨t1, rfl⟩ := rd_str g1
  obtain ⟨li, us, rfl, h3, h4⟩ := rd_list g2
  exact ⟨a, t1, li, us, rfl, h1, h3, h4⟩
theorem isl_call {l : List (Tag × T)} (h : IsL c (.call l) v) : ∃ a t1 li lt us ts, v = .ref a ∧ c.I.IsTuple a [.str "call" t1, .ref li, .ref lt].toArray ∧ c.I.IsList li us.toArray ∧ c.I.IsList lt ts.toArray ∧ IsLs c (l.map (·.2)) us ∧ TagsAre (l.map (·.1)) ts := by
  unfold IsL at h; rw [toP_call] at h
  obtain ⟨a, vs, rfl, h1, h2⟩ := rd_tup h
  obtain ⟨v1, r, rfl, g1, h2⟩ := rds_cons h2
  obtain ⟨v2, r, rfl, g2, h2⟩ := rds_cons h2
  obtain ⟨v3, r, rfl, g3, h2⟩ := rds_cons h2
  rw [rds_nil h2] at h1
  obtain ⟨t1, rfl⟩ := rd_str g1
  obtain ⟨li, us, rfl, h3, h4⟩ := rd_list g2
  obtain ⟨lt, ts, rfl, h5, h6⟩ := rd_list g3
  have e1 : (l.map fun p => p.2.toP) = (l.map (·.2)).map T.toP := by simp
  have e2 : (l.map fun p => tagP p.1) = (l.map (·.1)).map tagP := by simp
  rw [e1] at h4
  rw [e2] at h6
  exact ⟨a, t1, li, lt, us, ts, rfl, h1, h3, h5, isls_of h4, tags_of h6⟩
theorem mkl_name {x : Str} {t1 t2 : Tok} (h : c.I.IsTuple a [.str "name" t1, .str x t2].toArray) : IsL c (.name x) (.ref a) := by
  unfold IsL; rw [T.toP]; exact rd_mkt h (rds_mkc rd_s (rds_mkc rd_s rds_mk))
theorem mkl_null {t1 : Tok} (h : c.I.IsTuple a [.str "NULL" t1].toArray) : IsL c .null (.ref a) := by
  unfold IsL; rw [T.toP]; exact rd_mkt h (rds_mkc rd_s rds_mk)
theorem mkl_miss {t1 : Tok} (h : c.I.IsTuple a [.str "missing" t1].toArray) : IsL c .miss (.ref a) := by
  unfold IsL; rw [T.toP]; exact rd_mkt h (rds_mkc rd_s rds_mk)
theorem mkl_leaf {k : Str} {ds : List Atom} {t1 : Tok} {li : Addr} {us : List Value} (h : c.I.IsTuple a [.str k t1, .ref li].toArray) (h1 : c.I.IsList li us.toArray) (h2 : RDs c (ds.map Atom.toP) us) : IsL c (.leaf k ds) (.ref a) := by
  unfold IsL; rw [T.toP]; exact rd_mkt h (rds_mkc rd_s (rds_mkc (rd_mkl h1 h2) rds_mk))
theorem mkl_call {l : List (Tag × T)} {t1 : Tok} {li lt : Addr} {us ts : List Value} (h : c.I.IsTuple a [.str "call" t1, .ref li, .ref lt].toArray) (h1 : c.I.IsList li us.toArray) (h2 : c.I.IsList lt ts.toArray) (h3 : IsLs c (l.map (·.2)) us) (h4 : TagsAre (l.map (·.1)) ts) : IsL c (.call l) (.ref a) := by
  unfold IsL; rw [toP_call]
  have e1 : (l.map fun p => p.2.toP) = (l.map (·.2)).map T.toP := by simp
  have e2 : (l.map fun p => tagP p.1) = (l.map (·.1)).map tagP := by simp
  rw [e1, e2]
  exact rd_mkt h (rds_mkc rd_s (rds_mkc (rd_mkl h1 (rds_isls h3)) (rds_mkc (rd_mkl h2 (rds_tags h4)) rds_mk)))
theorem IsL.ref {t : T} (h : IsL c t v) : ∃ a, v = .ref a := by
  cases t with
  | name x => obtain ⟨a, _, _, rfl, _⟩ := isl_name h; exact ⟨a, rfl⟩
  | null => obtain ⟨a, _, rfl, _⟩ := isl_null h; exact ⟨a, rfl⟩
  | miss => obtain ⟨a, _, rfl, _⟩ := isl_miss h; exact ⟨a, rfl⟩
  | leaf k ds => obtain ⟨a, _, _, _, rfl, _⟩ := isl_leaf h; exact ⟨a, rfl⟩
  | call l => obtain ⟨a, _, _, _, _, _, rfl, _⟩ := isl_call h; exact ⟨a, rfl⟩
theorem isl_kind {t : T} (h : IsL c t v) : ∃ a t1 r, v = .ref a ∧ c.I.IsTuple a (.str (kindL t) t1 :: r).toArray := by
  cases t with
  | name x => obtain ⟨a, _, _, rfl, h'⟩ := isl_name h; exact ⟨a, _, _, rfl, h'⟩
  | null => obtain ⟨a, _, rfl, h'⟩ := isl_null h; exact ⟨a, _, _, rfl, h'⟩
  | miss => obtain ⟨a, _, rfl, h'⟩ := isl_miss h; exact ⟨a, _, _, rfl, h'⟩
  | leaf k ds => obtain ⟨a, _, _, _, rfl, h', _⟩ := isl_leaf h; exact ⟨a, _, _, rfl, h'⟩
  | call l => obtain ⟨a, _, _, _, _, _, rfl, h', _⟩ := isl_call h; exact ⟨a, _, _, rfl, h'⟩
end
section
variable {w : World} {A : Around} {E : Value → Shared → Prop} {c : Ctx} {V V' : List Cell} {s : Shared} {env : Env} {p : Cell} {n : Nat}
theorem lk0 {value slice : Expr} {t : T} {a : Addr} {u : Tok} {Q : Value → Shared → Prop} (hS : Sat w c V s) (hl : IsL c t (.ref a)) (h : ∀ u, Q (.str (kindL t) u) s)
    (hs : subscripted slice false (.ref a) (.int 0 u) = operate [.ref a, .int 0 u] (getItem (.ref a) (.int 0 u)) := by with_unfolding_all rfl) : wpAny (MM w) A (subscriptTail value slice (.ref a) (.int 0 u)) Q E s := by
  obtain ⟨b, t1, r, e, ht⟩ := isl_kind hl
  cases e
  exact subt hS ht (by decide) (by decide) rfl (h t1) hs
theorem kindL_name {t : T} (h : LK t) : decide (kindL t = "name") = isName t := by
  cases h with
  | leaf hk => exact decide_eq_false hk.h8
  | name => rfl
  | null => exact (by decide : decide (("NULL" : Str) = "name") = false)
  | miss => exact (by decide : decide (("missing" : Str) = "name") = false)
  | call => exact (by decide : decide (("call" : Str) = "name") = false)
theorem kindL_call {t : T} (h : LK t) : decide (kindL t = "call") = isCall t := by
  cases h with
  | leaf hk => exact decide_eq_false hk.h9
  | call => rfl
  | null => exact (by decide : decide (("NULL" : Str) = "call") = false)
  | miss => exact (by decide : decide (("missing" : Str) = "call") = false)
  | name => exact (by decide : decide (("name" : Str) = "call") = false)
theorem eqL_name {t : T} {b : Bool} {u u' : Tok} {Q : Value → Shared → Prop} (hv : LK t) (e : isName t = b) (h : Q (.bool b) s) : wpAny (MM w) A (compareOp .Eq (.str (kindL t) u) (.str "name" u')) Q E s :=
  eqs_d (by rw [kindL_name hv, e]; exact h)
theorem eqL_call {t : T} {b : Bool} {u u' : Tok} {Q : Value → Shared → Prop} (hv : LK t) (e : isCall t = b) (h : Q (.bool b) s) : wpAny (MM w) A (compareOp .Eq (.str (kindL t) u) (.str "call" u')) Q E s :=
  eqs_d (by rw [kindL_call hv, e]; exact h)
theorem neL_name {t : T} {b : Bool} {u u' : Tok} {Q : Value → Shared → Prop} (hv : LK t) (e : isName t = b) (h : Q (.bool (!b)) s) : wpAny (MM w) A (compareOp .NotEq (.str (kindL t) u) (.str "name" u')) Q E s :=
  nes_d (by rw [kindL_name hv, e]; exact h)
theorem neL_call {t : T} {b : Bool} {u u' : Tok} {Q : Value → Shared → Prop} (hv : LK t) (e : isCall t = b) (h : Q (.bool (!b)) s) : wpAny (MM w) A (compareOp .NotEq (.str (kindL t) u) (.str "call" u')) Q E s :=
  nes_d (by rw [kindL_call hv, e]; exact h)
theorem subT {value slice : Expr} {a : Addr} {xs : List Value} {i : Int} {t : Tok} {v : Value} {Q : Value → Shared → Prop} (hS : Sat w c V s) (ht : c.I.IsTuple a xs.toArray) (h0 : decide (0 ≤ i ∧ i < 2 ^ 63) = true) (hx : xs[i.toNat]? = some v) (h : Q v s)
    (hs : subscripted slice false (.ref a) (.int i t) = operate [.ref a, .int i t] (getItem (.ref a) (.int i t)) := by with_unfolding_all rfl) : wpAny (MM w) A (subscriptTail value slice (.ref a) (.int i t)) Q E s :=
  have h0 := of_decide_eq_true h0
  subt hS ht h0.1 h0.2 hx h hs
theorem subI {value slice : Expr} {a : Addr} {xs : List Value} {i : Int} {t : Tok} {v : Value} {Q : Value → Shared → Prop} (hS : Sat w c V s) (hl : c.I.IsList a xs.toArray) (h0 : decide (0 ≤ i ∧ i < 2 ^ 63) = true) (hx : xs[i.toNat]? = some v) (h : Q v s)
    (hs : subscripted slice false (.ref a) (.int i t) = operate [.ref a, .int i t] (getItem (.ref a) (.int i t)) := by with_unfolding_all rfl) : wpAny (MM w) A (subscriptTail value slice (.ref a) (.int i t)) Q E s :=
  have h0 := of_decide_eq_true h0
  subl (hS.isl hl) h0.1 h0.2 hx h hs
theorem subPI {value slice : Expr} {a : Addr} {xs : List Value} {i : Int} {t : Tok} {v : Value} {Q : Value → Shared → Prop} (hS : Sat w c V s) (hl : c.I.PlainList a xs.toArray) (h0 : decide (0 ≤ i ∧ i < 2 ^ 63) = true) (hx : xs[i.toNat]? = some v) (h : Q v s)
    (hs : subscripted slice false (.ref a) (.int i t) = operate [.ref a, .int i t] (getItem (.ref a) (.int i t)) := by with_unfolding_all rfl) : wpAny (MM w) A (subscriptTail value slice (.ref a) (.int i t)) Q E s := subI hS hl.isList h0 hx h hs
/-- max over ints -/
theorem maxL {l : Addr} {ns : List Nat} {vs : List Value} {Q : Value → Shared → Prop} (hh : A.handled = none) (hS : Sat w c V s) (hl : s.heap.IsList l vs.toArray) (hv : vs.length = ns.length ∧ ∀ (i : Nat) n v, ns[i]? = some n → vs[i]? = some v → ∃ t, v = .int (n : Int) t) (hne : ns ≠ [])
    (h : ∀ t s', Sat w c V s' → Q (.int ((ns.foldr max 0 : Nat) : Int) t) s') : wpAny (MM w) A (call (.builtin "max") [.ref l]) Q E s := by
  have key : ∀ (ns : List Nat) (vs : List Value), (vs.length = ns.length ∧ ∀ (i : Nat) n v, ns[i]? = some n → vs[i]? = some v → ∃ t, v = .int (n : Int) t) → ∃ xs : List (Int × Tok), vs = xs.map (fun p => .int p.1 p.2) ∧ xs.map (·.1) = ns.map (fun n : Nat => (n : Int)) := by
    intro ns
    induction ns with
    | nil => rintro vs ⟨h1, _⟩; exact ⟨[], by simpa using h1, rfl⟩
    | cons n ns ih =>
      rintro vs ⟨h1, h2⟩
      cases vs with
      | nil => cases h1
      | cons v vs =>
        obtain ⟨t, rfl⟩ := h2 0 n v rfl rfl
        obtain ⟨xs, e1, e2⟩ := ih vs ⟨by simpa using h1, fun i m u a b => h2 (i + 1) m u (by simpa using a) (by simpa using b)⟩
        exact ⟨((n : Int), t) :: xs, by rw [e1]; rfl, by simp [e2]⟩
  obtain ⟨xs, rfl, e⟩ := key ns vs hv
  have hl' : s.heap.IsList l (intItems xs.toArray) := by
    have : (xs.map (fun p => Value.int p.1 p.2)).toArray = intItems xs.toArray := by simp [intItems]
    rw [← this]; exact hl
  have hlen : xs.length = ns.length := by simpa using congrArg List.length e
  have hpos : 0 < xs.toArray.size := by
    rw [List.size_toArray, hlen]; exact List.length_pos_iff.mpr hne
  refine max_intList hh hl' hpos fun v h' tk hv' hk => ?_
  obtain ⟨t, rfl⟩ := intItems_at hv'
  obtain ⟨h1, h2⟩ := argBest_gt (numAt xs.toArray) (xs.toArray.size - 1)
  have hat : ∀ j, j < ns.length → numAt xs.toArray j = ((ns.getD j 0 : Nat) : Int) := by
    intro j hj
    have hj' : j < xs.length := by (first | lia | omega)
    have q := congrArg (fun l : List Int => l[j]?) e
    simp only [List.getElem?_map, List.getElem?_eq_getElem hj', List.getElem?_eq_getElem hj, Option.map_some, Option.some.injEq] at q
    simp only [numAt, List.getElem?_toArray, List.getElem?_eq_getElem hj', Option.map_some, Option.getD_some, List.getD_eq_getElem?_getD, List.getElem?_eq_getElem hj]
    exact q
  have hmax : ∀ (ns : List Nat), (∀ a ∈ ns, a ≤ ns.foldr max 0) ∧ (ns ≠ [] → ns.foldr max 0 ∈ ns) := by
    intro ns
    induction ns with
    | nil => exact ⟨fun _ h => (nomatch h), fun h => absurd rfl h⟩
    | cons a r ih =>
      refine ⟨fun b hb => ?_, fun _ => ?_⟩
      · rcases List.mem_cons.mp hb with rfl | hb
        · simp only [List.foldr_cons]; (first | lia | omega)
        · have := ih.1 b hb; simp only [List.foldr_cons]; (first | lia | omega)
      · simp only [List.foldr_cons]
        by_cases q : r.foldr max 0 ≤ a
        · rw [Nat.max_eq_left q]; exact .head _
        · rw [Nat.max_eq_right (by (first | lia | omega))]
          refine .tail _ (ih.2 fun e => ?_)
          subst e
          simp at q
  generalize argBest (fun i j => decide (numAt xs.toArray i > numAt xs.toArray j)) (xs.toArray.size - 1) = b at h1 h2 hv' ⊢
  rw [List.size_toArray] at h1 h2
  have hb : b < ns.length := by have : 0 < xs.length := by simpa using hpos
                                (first | lia | omega)
  have e2 : numAt xs.toArray b = ((ns.foldr max 0 : Nat) : Int) := by
    rw [hat b hb]
    congr 1
    apply Nat.le_antisymm
    · refine (hmax ns).1 _ ?_
      rw [List.getD_eq_getElem?_getD, List.getElem?_eq_getElem hb]
      exact List.getElem_mem hb
    · obtain ⟨j, hj⟩ := List.mem_iff_getElem?.mp ((hmax ns).2 hne)
      have hjl := (List.getElem?_eq_some_iff.mp hj).1
      have := h2 j (by (first | lia | omega))
      rw [hat j hjl, hat b hb] at this
      rw [List.getD_eq_getElem?_getD, hj] at this
      exact_mod_cast this
  rw [e2]
  exact h t _ (hS.ext (t := tk) hk)
end
theorem fm_pad (nm : List Str) (vs : List (Option Value)) : ∃ us : List (Option Value), us.length = nm.length ∧ fm nm vs = fm nm us := by
  induction nm generalizing vs with
  | nil => exact ⟨[], rfl, by funext y; cases vs <;> rfl⟩
  | cons x nm ih =>
    cases vs with
    | nil =>
      refine ⟨none :: nm.map fun _ => none, by simp, ?_⟩
      funext y
      simp only [fm]
      split
      · rfl
      · exact (fm_none nm y).symm
    | cons v vs =>
      obtain ⟨us, h1, h2⟩ := ih vs
      refine ⟨v :: us, by simp [h1], ?_⟩
      funext y
      simp only [fm, h2]
section
variable {w : World} {A : Around} {E : Value → Shared → Prop} {c : Ctx} {V V' : List Cell} {s : Shared} {env : Env} {p : Cell} {n : Nat}
/-- [elt for target in l], item by item -/
theorem map_list {l : Addr} {xs : List Value} {elt target iter : Expr} {scope : Scope} {cl : List (Str × Addr)} {pos : Pos} {Q : Value → Shared → Prop} {nm : List Str} {gl : List (Str × Value)} {fr : Cell} {R : List Cell}
    (P : Ctx → Nat → Value → Prop) (mono : ∀ c c' i y, P c i y → c.Le c' → P c' i y) (hh : A.handled = none)
    (hcell : ∀ y ∈ scope.names, y.2 ≠ .cell) (hkind : scope.kind = .function) (hfr : ∀ C, FrOk w (compEnvC scope cl C env) nm gl) (hl : c.I.IsList l xs.toArray) (hn : xs.length ≤ 100000)
    (hgo : ∀ I i (s : Shared) v (Q : Unit → Shared → Prop) (E : Value → Shared → Prop), s.heap.IsListIter I l i → Q () s → wpAny (MM w) A (letOwnedTupleGo target (.ref I) v) Q E s)
    (hS : Sat w c (fr :: R) s)
    (turn : ∀ i v c' R' vs' cenv s', xs[i]? = some v → c.Le c' → FrOk w cenv nm gl → (∃ C, cenv = compEnvC scope cl C env) → vs'.length = nm.length → Sat w c' (.ns cenv.locals (fm nm vs') :: R') s' →
      wpAny (MM w) A (assign target cenv v) (fun _ s₂ => wpAny (MM w) A (eval elt cenv) (fun x s₄ => ∃ c'' vs'', c'.Le c'' ∧ P c'' i x ∧ Sat w c'' (.ns cenv.locals (fm nm vs'') :: R') s₄) (fun _ _ => False) s₂) (fun _ _ => False) s')
    (done : ∀ c' ys D s', c.Le c' → ys.length = xs.length → (∀ i y, ys[i]? = some y → P c' i y) → Sat w c' (fr :: .ls D ys :: R) s' → Q (.ref D) s') :
    wpAny (MM w) A (pyIter (.ref l)) (fun it s₂ => wpAny (MM w) A (newList []) (fun acc s₃ =>
      wpAny (MM w) A (newFunctionEnv scope env.globals cl [] env.qual none .none (some env)) (fun cenv s₄ =>
        codeAny (MM w) A (.compStart (.ListComp elt [⟨target, iter, [], 0⟩] scope pos) 0 it acc { cenv with scope := relabel scope env }) (compPost (MM w) A E none Q acc cenv.locals) s₄) E s₃) E s₂) E s := by
  refine comp_list [] R (fun i c' ys U' => U' = [] ∧ ys.length = i ∧ ∀ j y, ys[j]? = some y → P c' j y) hh hcell hkind hfr hl hn hgo hS ⟨rfl, rfl, fun j y h => by simp at h⟩ (fun i c' ys U' h => Nat.le_of_eq h.2.1) ?_ ?_
  · rintro i v c' ys U' R' vs' cenv s' hv le ⟨rfl, h1, h2⟩ _ hE hC hS
    obtain ⟨us, hu1, hu2⟩ := fm_pad nm vs'
    rw [hu2] at hS
    refine wpAny_mono (turn i v c' R' us cenv s' hv le hE hC hu1 hS) (fun _ s₂ h => ?_) fun _ _ x => x
    refine tests_nil ?_
    refine itt ?_
    refine wpAny_mono h (fun x s₄ h => ?_) fun _ _ x => x
    obtain ⟨c'', vs'', l2, hp, hS2⟩ := h
    refine ⟨c'', vs'', [], l2, ⟨rfl, by simp [h1], fun j y hy => ?_⟩, hS2⟩
    rcases Nat.lt_or_ge j ys.length with q | q
    · rw [List.getElem?_append_left q] at hy
      exact mono _ _ _ _ (h2 j y hy) l2
    · rw [List.getElem?_append_right q] at hy
      have e : j - ys.length = 0 := by
        have := (List.getElem?_eq_some_iff.mp hy).1
        simp at this; (first | lia | omega)
      have e2 : j = i := by (first | lia | omega)
      rw [e] at hy
      simp at hy
      subst hy e2
      exact hp
  · rintro c' ys U' D s' le ⟨rfl, h1, h2⟩ hS
    exact done c' ys D s' le h1 h2 hS
/-- [elt for x in range(n)], item by item -/
theorem map_range {r : Addr} {n : Nat} {t u v : Tok} {elt iter : Expr} {x : Str} {px : Pos} {scope : Scope} {cl : List (Str × Addr)} {pos : Pos} {Q : Value → Shared → Prop} {nm : List Str} {gl : List (Str × Value)} {fr : Cell} {R : List Cell}
    (P : Ctx → Nat → Value → Prop) (mono : ∀ c c' i y, P c i y → c.Le c' → P c' i y) (hh : A.handled = none)
    (hcell : ∀ y ∈ scope.names, y.2 ≠ .cell) (hkind : scope.kind = .function) (hfr : ∀ C, FrOk w (compEnvC scope cl C env) nm gl) (hr : IsRange s.heap r 0 n 1 t u v) (hn : n ≤ 100000)
    (hS : Sat w c (fr :: R) s)
    (turn : ∀ (i : Nat) t c' R' vs' cenv s', i < n → c.Le c' → FrOk w cenv nm gl → (∃ C, cenv = compEnvC scope cl C env) → vs'.length = nm.length → Sat w c' (.ns cenv.locals (fm nm vs') :: R') s' →
      wpAny (MM w) A (assign (.Name x px) cenv (.int i t)) (fun _ s₂ => wpAny (MM w) A (eval elt cenv) (fun y s₄ => ∃ c'' vs'', c'.Le c'' ∧ P c'' i y ∧ Sat w c'' (.ns cenv.locals (fm nm vs'') :: R') s₄) (fun _ _ => False) s₂) (fun _ _ => False) s')
    (done : ∀ c' ys D s', c.Le c' → ys.length = n → (∀ i y, ys[i]? = some y → P c' i y) → Sat w c' (fr :: .ls D ys :: R) s' → Q (.ref D) s') :
    wpAny (MM w) A (pyIter (.ref r)) (fun it s₂ => wpAny (MM w) A (newList []) (fun acc s₃ =>
      wpAny (MM w) A (newFunctionEnv scope env.globals cl [] env.qual none .none (some env)) (fun cenv s₄ =>
        codeAny (MM w) A (.compStart (.ListComp elt [⟨.Name x px, iter, [], 0⟩] scope pos) 0 it acc { cenv with scope := relabel scope env }) (compPost (MM w) A E none Q acc cenv.locals) s₄) E s₃) E s₂) E s := by
  refine comp_range [] R (fun i c' ys U' => U' = [] ∧ ys.length = i ∧ ∀ j y, ys[j]? = some y → P c' j y) hh hcell hkind hfr hr hn hS ⟨rfl, rfl, fun j y h => by simp at h⟩ (fun i c' ys U' h => Nat.le_of_eq h.2.1) ?_ ?_
  · rintro i t c' ys U' R' vs' cenv s' hv le ⟨rfl, h1, h2⟩ _ hE hC hS
    obtain ⟨us, hu1, hu2⟩ := fm_pad nm vs'
    rw [hu2] at hS
    refine wpAny_mono (turn i t c' R' us cenv s' hv le hE hC hu1 hS) (fun _ s₂ h => ?_) fun _ _ x => x
    refine tests_nil ?_
    refine itt ?_
    refine wpAny_mono h (fun x s₄ h => ?_) fun _ _ x => x
    obtain ⟨c'', vs'', l2, hp, hS2⟩ := h
    refine ⟨c'', vs'', [], l2, ⟨rfl, by simp [h1], fun j y hy => ?_⟩, hS2⟩
    rcases Nat.lt_or_ge j ys.length with q | q
    · rw [List.getElem?_append_left q] at hy
      exact mono _ _ _ _ (h2 j y hy) l2
    · rw [List.getElem?_append_right q] at hy
      have e : j - ys.length = 0 := by
        have := (List.getElem?_eq_some_iff.mp hy).1
        simp at this; (first | lia | omega)
      have e2 : j = i := by (first | lia | omega)
      rw [e] at hy
      simp at hy
      subst hy e2
      exact hp
  · rintro c' ys U' D s' le ⟨rfl, h1, h2⟩ hS
    exact done c' ys D s' le h1 h2 hS
end
/-! cells that stay -/
structure CelsAt (c : Ctx) (env : Env) (L : List (Str × Value)) : Prop where
  h : ∀ p ∈ L, env.kindOf p.1 = some .cell ∧ (p.1 == ("__debug__" : Str)) = false ∧ ∃ a, env.cells.lookup p.1 = some a ∧ c.I.IsCell a (some p.2)
theorem CelsAt.mono {c c' : Ctx} {env : Env} {L : List (Str × Value)} (x : CelsAt c env L) (l : c.Le c') : CelsAt c' env L :=
  ⟨fun p hp => let ⟨a, b, d, e, g⟩ := x.h p hp; ⟨a, b, d, e, g.keeps l.keep⟩⟩
theorem CelsAt.nil {c : Ctx} {env : Env} : CelsAt c env [] := ⟨fun _ h => nomatch h⟩
theorem CelsAt.comp {w : World} {c : Ctx} {f : Addr} {scope : Scope} {env : Env} {cs cl : List (Str × Addr)} {C : Addr} {nm : List Str} {gl : List (Str × Value)} {L : List (Str × Value)} (hC : CEnv w f env cs) (hK : CelsAt c env L) (hk : CelOk (compEnvC scope cl C env) (L.map (·.1))) (hcl : ∀ p ∈ L, cl.lookup p.1 = cs.lookup p.1) : CelsAt c (compEnvC scope cl C env) L :=
  ⟨fun p hp => by
    obtain ⟨_, h2, a, h3, h4⟩ := hK.h p hp
    rw [hC.cells, ← hcl p hp] at h3
    exact ⟨(hk.h p.1 (List.mem_map_of_mem hp)).1, h2, a, h3, h4⟩⟩
section
variable {w : World} {A : Around} {E : Value → Shared → Prop} {c : Ctx} {V V' : List Cell} {s : Shared} {env : Env} {p : Cell} {n : Nat}
theorem ldx {x : Str} {pos : Pos} {v : Value} {nm : List Str} {gl : List (Str × Value)} {L : List (Str × Value)} {Q : Value → Shared → Prop} (hE : FrOk w env nm gl) (hS : Sat w c V s) (hK : CelsAt c env L) (hl : LookG L x v) (h : Q v s) : wpAny (MM w) A (eval (.Name x pos) env) Q E s := by
  obtain ⟨h1, h2, a, h3, h4⟩ := hK.h _ hl.mem
  exact wpAny_Name (wpAny_loadName_cell hE.kind h1 h3 (h4.keeps hS.keep) h) h2
/-- one parameter, a cell -/
theorem call_cell2 {f : Addr} {x : Str} {nm : List Str} {gl : List (Str × Value)} {v : Value} {Post : Value → Ctx → List Cell → Prop} {Q : Value → Shared → Prop}
    (hF : FnOkC w f nm gl) (hS : Sat w c V s) (hR : Room A (n + 1)) (hb : bindArgs (fdAt w f) ⟨[v], []⟩ = pure [(x, v)]) (hc : ∀ k, cellsFrom k (fdAt w f).scope.names [] = [(x, k)]) (hx : (fdAt w f).scope.names.lookup x = some .cell) (hd : (x == ("__debug__" : Str)) = false)
    (h : ∀ env A' s' C c', c.Le c' → CelsAt c' env [(x, v)] → FrOk w env nm gl → CEnv w f env [(x, C)] → Room A' n → Sat w c' (.ns env.locals (fm nm (nm.map fun _ => none)) :: V) s' → wpAny (MM w) A' (execs (bodyAt w f) env) (Fin w c' env.locals Post) (fun _ _ => False) s')
    (k : ∀ v c' V' s', c.Le c' → Sat w c' V' s' → Post v c' V' → Q v s') : wpAny (MM w) A (call (.ref f) [v]) Q E s :=
  call_cell1 hF hS hR hb hc hx (fun env A' s' C c' l hv hE hC hR hS => h env A' s' C c' l ⟨fun p hp => by
    rw [List.mem_singleton.mp hp]
    exact ⟨by unfold Env.kindOf; rw [hC.scope]; exact hx, hd, C, by rw [hC.cells]; simp, hv⟩⟩ hE hC hR hS) k

/-- what a zip offers -/
structure IterT (w : World) (A : Around) (I : Addr) (fp wr : List Addr) (n : Nat) (Pt : Nat → Array Value → Prop) (St : Nat → Heap → Prop) (Mid : Nat → Addr → Heap → Prop) : Prop where
  W : WalksT PySem.Challenge.pw_no0503_01 w A I fp wr n Pt St Mid
  has : ∀ i h, St i h → ∀ b ∈ wr, ∃ o, h.get? b = some o
  hasM : ∀ i T h, Mid i T h → ∀ b ∈ wr, ∃ o, h.get? b = some o

theorem for_walkT {I : Addr} {fp wr : List Addr} {n : Nat} {Pt : Nat → Array Value → Prop} {St : Nat → Heap → Prop} {Mid : Nat → Addr → Heap → Prop} {elts : List Expr} {k0 : Nat} {px : Pos} {body : List Stmt} {Q : Flow → Shared → Prop} {L : Addr} {nm : List Str} {vs : List (Option Value)} {U R : List Cell} {os : List (Addr × Obj)}
    (J : Nat → Ctx → List (Option Value) → List Cell → Prop)
    (it : IterT w A I fp wr n Pt St Mid) (hfp : ∀ b ∈ fp, b ∈ wr ∨ ∃ o, c.I.get? b = some o) (hos : os.map (·.1) = wr)
    (hS : Sat w c (.ns L (fm nm vs) :: (U ++ (os.map oc ++ R))) s) (hst : St 0 s.heap) (hJ : J 0 c vs U)
    (turn : ∀ i vals T c' vs' U' R' s', i < n → c.Le c' → Pt i vals → c'.I.IsTuple T vals → (∀ c'', c''.Le c' → J i c'' vs' U' → True) → (∃ c'', c''.Le c' ∧ c.Le c'' ∧ J i c'' vs' U') → R.Sublist R' → Sat w c' (.ns L (fm nm vs') :: (U' ++ R')) s' →
      wpAny (MM w) A (assign (.Tuple elts k0 px) env (.ref T)) (fun _ s₂ => wpAny (MM w) A (execs body env) (fun f s₃ => match f with
        | .brk => ∃ c'' vs'' U'', c'.Le c'' ∧ Sat w c'' (.ns L (fm nm vs'') :: (U'' ++ R')) s₃ ∧ (∀ s₄, Sat w c'' (.ns L (fm nm vs'') :: (U'' ++ R)) s₄ → Q .next s₄)
        | .ret v => Q (.ret v) s₃
        | _ => ∃ c'' vs'' U'', c'.Le c'' ∧ J (i + 1) c'' vs'' U'' ∧ Sat w c'' (.ns L (fm nm vs'') :: (U'' ++ R')) s₃) (fun _ _ => False) s₂) (fun _ _ => False) s')
    (done : ∀ c' vs' U' s', c.Le c' → J n c' vs' U' → Sat w c' (.ns L (fm nm vs') :: (U' ++ R)) s' → Q .next s') :
    codeAny (MM w) A (.forLoop (.Tuple elts k0 px) (.ref I) body [] env) (fun r s' => match r with | .ok f => Q f s' | .error _ => False) s := by
  subst hos
  refine codeAny_forLoop_any (fun k s' => ∃ i c' vs' U' os', k = n - i ∧ i ≤ n ∧ c.Le c' ∧ J i c' vs' U' ∧ os'.map (·.1) = os.map (·.1) ∧ Sat w c' (.ns L (fm nm vs') :: (U' ++ (os'.map oc ++ R))) s' ∧ St i s'.heap) ?_ n ⟨0, c, vs, U, os, rfl, Nat.zero_le _, .refl _, hJ, rfl, hS, hst⟩
  rintro k s' ⟨i, c', vs', U', os', rfl, hin, hle, hj, e1, hs, hst'⟩
  rcases Nat.lt_or_ge i n with hlt | hge
  · refine it.W.item i s' _ _ hlt hst' fun T vals h' tk hP hTn hT hM hk => ?_
    obtain ⟨os1, e2, hX⟩ := hs.turnIt perm_out (h' := h') (t := tk) (fun b o hb => hk b o (e1 ▸ hb)) (fun b hb => it.hasM i T h' hM b (e1 ▸ hb))
    have hs1 := hX _ perm_out.symm
    have e2' := e2.trans e1
    have hTV : ∀ q ∈ Cell.ns L (fm nm vs') :: (U' ++ (os1.map oc ++ R)), T ≠ q.addr := by
      intro q hq
      have lt : q.addr < s'.heap.objs.size := by
        rcases List.mem_cons.mp hq with rfl | hq
        · exact hs.lt (p := .ns L (fm nm vs')) (.head _)
        · rcases List.mem_append.mp hq with hq | hq
          · exact hs.lt (.tail _ (List.mem_append.mpr (.inl hq)))
          · rcases List.mem_append.mp hq with hq | hq
            · obtain ⟨z, hz, rfl⟩ := List.mem_map.mp hq
              have hz1 : z.1 ∈ os'.map (·.1) := by rw [← e2]; exact List.mem_map_of_mem hz
              obtain ⟨z', hz', e⟩ := List.mem_map.mp hz1
              have := hs.lt (p := oc z') (.tail _ (List.mem_append.mpr (.inr (List.mem_append.mpr (.inl (List.mem_map_of_mem hz'))))))
              have e' : (oc z').addr = (oc z).addr := e
              rw [← e']; exact this
            · exact hs.lt (.tail _ (List.mem_append.mpr (.inr (List.mem_append.mpr (.inr hq)))))
      exact fun e => Nat.lt_irrefl _ (Nat.lt_of_lt_of_le lt (e ▸ hTn))
    obtain ⟨oT, hoT, hcT, nT, hdT⟩ := hT
    have hs2 := hs1.add (p := .pr T (· = oT)) ⟨oT, hoT, rfl⟩ (hs.none_ge hTn) hTV (fun q hq => fun e => Nat.lt_irrefl _ (Nat.lt_of_lt_of_le (hs.vd q hq).lt (e ▸ hTn)))
    obtain ⟨c1, l1, hs3, o', n', rfl⟩ := hs2.freeze .head
    have hT1 : c1.I.IsTuple T vals := ⟨_, n', hcT, nT, hdT⟩
    dsimp only
    refine it.W.go elts k0 px i T _ _ _ hM fun h'' hst2 hk2 => ?_
    obtain ⟨os2, e3, hX2⟩ := hs3.turnIt perm_out (h' := h'') (t := tk) (fun b o hb => hk2 b o (e2' ▸ hb)) (fun b hb => it.has (i + 1) h'' hst2 b (e2' ▸ hb))
    have hs4 := hX2 _ perm_out.symm
    have e3' := e3.trans e2'
    refine wpAny_mono (turn i vals T c1 vs' U' (os2.map oc ++ R) _ hlt (hle.trans l1) hP hT1 (fun _ _ _ => trivial) ⟨c', l1, hle, hj⟩ (List.sublist_append_right _ _) hs4) (fun _ s₂ h₂ => ?_) fun _ _ x => x.elim
    refine wpAny_mono h₂ (fun f s₃ h₃ => ?_) fun _ _ x => x.elim
    have back : ∀ {c'' vs'' U''}, c1.Le c'' → Sat w c'' (.ns L (fm nm vs'') :: (U'' ++ (os2.map oc ++ R))) s₃ → St (i + 1) s₃.heap := by
      intro c'' vs'' U'' l2 hs5
      refine it.W.frame _ _ _ hst2 fun b hb o e => ?_
      rcases hfp b hb with hb | ⟨o', ho'⟩
      · rw [← e3'] at hb
        obtain ⟨q, hq, rfl⟩ := List.mem_map.mp hb
        have hm : ∀ X : List (Option Value), ∀ Y : List Cell, oc q ∈ Cell.ns L (fm nm X) :: (Y ++ (os2.map oc ++ R)) := fun X Y => .tail _ (List.mem_append.mpr (.inr (List.mem_append.mpr (.inl (List.mem_map_of_mem hq)))))
        obtain ⟨o1, k1, rfl⟩ := hs4.vol _ (hm vs' U')
        obtain ⟨o2, k2, rfl⟩ := hs5.vol _ (hm vs'' U'')
        have k1' : h''.get? q.1 = some q.2 := k1
        rw [k1'] at e
        cases e
        exact k2
      · have a1 : h''.get? b = some o' := hs4.keep b o' (l1.keep b _ (hle.keep b o' ho'))
        have e5 : o' = o := by rw [a1] at e; exact Option.some.inj e
        subst e5
        exact hs5.keep b _ (l2.keep b _ (l1.keep b _ (hle.keep b _ ho')))
    cases f with
    | brk =>
      obtain ⟨c'', vs'', U'', l2, hs5, hq⟩ := h₃
      exact hq _ (hs5.sub (List.Sublist.cons_cons _ (List.Sublist.append_left (List.sublist_append_right _ _) _)))
    | ret v => exact h₃
    | next =>
      obtain ⟨c'', vs'', U'', l2, hj2, hs5⟩ := h₃
      exact ⟨n - (i + 1), by omega, i + 1, c'', vs'', U'', os2, rfl, hlt, (hle.trans l1).trans l2, hj2, e3', hs5, back l2 hs5⟩
    | cont =>
      obtain ⟨c'', vs'', U'', l2, hj2, hs5⟩ := h₃
      exact ⟨n - (i + 1), by omega, i + 1, c'', vs'', U'', os2, rfl, hlt, (hle.trans l1).trans l2, hj2, e3', hs5, back l2 hs5⟩
  · obtain rfl : i = n := Nat.le_antisymm hin hge
    refine it.W.done s' _ _ hst' fun h' tk hk => ?_
    dsimp only
    refine wpAny_execs_nil ?_
    exact done c' vs' U' _ hle hj (hs.endIt perm_out (fun b o hb => hk b o (e1 ▸ hb)))

theorem iter_zip (hh : A.handled = none) {N l1 l2 : Addr} (h1 : l1 < N) (h2 : l2 < N) (xs ys : List Value) (hxy : xs.length = ys.length) :
    IterT w A (N + 4) [N + 4, N + 2, N + 3, N, N + 1, l1, l2] [N + 4, N + 3, N, N + 1] xs.length (fun i vals => ∃ x y, xs[i]? = some x ∧ ys[i]? = some y ∧ vals = #[x, y])
      (fun i h => IsZip h (N + 4) (N + 2) (N + 3) .none ∧ IsPair h (N + 2) (.ref N) (.ref (N + 1)) ∧ (∃ a b, IsPair h (N + 3) a b) ∧ h.IsListIter N l1 i ∧ h.IsListIter (N + 1) l2 i ∧ h.IsList l1 xs.toArray ∧ h.IsList l2 ys.toArray)
      (fun i T h => IsZip h (N + 4) (N + 2) (N + 3) (rawInt T) ∧ IsPair h (N + 2) (.ref N) (.ref (N + 1)) ∧ (∃ a b, IsPair h (N + 3) a b) ∧ h.IsListIter N l1 (i + 1) ∧ h.IsListIter (N + 1) l2 (i + 1) ∧ h.IsList l1 xs.toArray ∧ h.IsList l2 ys.toArray ∧
        T ≠ N + 4 ∧ T ≠ N + 3 ∧ T ≠ N ∧ T ≠ N + 1) where
  W := by
    have W := WalksT.zip2 (prog := PySem.Challenge.pw_no0503_01) (w := w) hh (N + 4) (N + 2) (N + 3) N (N + 1) l1 l2 (zipApart_new h1 h2) xs.toArray ys.toArray
    have e : min xs.toArray.size ys.toArray.size = xs.length := by rw [List.size_toArray, List.size_toArray, hxy, Nat.min_self]
    rw [e] at W
    exact ⟨W.sub, W.frame, fun i s Q E hi hs hQ => W.item i s Q E hi hs (fun T vals h' tk hv => hQ T vals h' tk (by simpa using hv)), W.go, W.apart, W.done, W.self⟩
  has := fun i h st b hb => by
    obtain ⟨g1, _, ⟨a, b', g3⟩, ⟨o4, g4, _⟩, ⟨o5, g5, _⟩, _⟩ := st
    simp only [List.mem_cons, List.not_mem_nil, or_false] at hb
    rcases hb with rfl | rfl | rfl | rfl
    · exact ⟨_, g1⟩
    · exact ⟨_, g3⟩
    · exact ⟨_, g4⟩
    · exact ⟨_, g5⟩
  hasM := fun i T h st b hb => by
    obtain ⟨g1, _, ⟨a, b', g3⟩, ⟨o4, g4, _⟩, ⟨o5, g5, _⟩, _⟩ := st
    simp only [List.mem_cons, List.not_mem_nil, or_false] at hb
    rcases hb with rfl | rfl | rfl | rfl
    · exact ⟨_, g1⟩
    · exact ⟨_, g3⟩
    · exact ⟨_, g4⟩
    · exact ⟨_, g5⟩

/-- for a, b in zip(l1, l2) -/
theorem for_zip {l1 l2 : Addr} {xs ys : List Value} {elts : List Expr} {k0 : Nat} {px : Pos} {body : List Stmt} {Q : Flow → Shared → Prop} {nm : List Str} {vs : List (Option Value)} (U R : List Cell)
    (J : Nat → Ctx → List (Option Value) → List Cell → Prop) (mono : ∀ i c c' vs U, J i c vs U → c.Le c' → J i c' vs U) (hh : A.handled = none) (hl1 : c.I.IsList l1 xs.toArray) (hl2 : c.I.IsList l2 ys.toArray) (hxy : xs.length = ys.length)
    (hS : Sat w c (.ns env.locals (fm nm vs) :: (U ++ R)) s) (hJ : J 0 c vs U)
    (turn : ∀ i x y T c' vs' U' R' s', xs[i]? = some x → ys[i]? = some y → c.Le c' → c'.I.IsTuple T [x, y].toArray → J i c' vs' U' → R.Sublist R' → Sat w c' (.ns env.locals (fm nm vs') :: (U' ++ R')) s' →
      wpAny (MM w) A (assign (.Tuple elts k0 px) env (.ref T)) (fun _ s₂ => wpAny (MM w) A (execs body env) (fun f s₃ => match f with
        | .brk => ∃ c'' vs'' U'', c'.Le c'' ∧ Sat w c'' (.ns env.locals (fm nm vs'') :: (U'' ++ R')) s₃ ∧ (∀ s₄, Sat w c'' (.ns env.locals (fm nm vs'') :: (U'' ++ R)) s₄ → Q .next s₄)
        | .ret v => Q (.ret v) s₃
        | _ => ∃ c'' vs'' U'', c'.Le c'' ∧ J (i + 1) c'' vs'' U'' ∧ Sat w c'' (.ns env.locals (fm nm vs'') :: (U'' ++ R')) s₃) (fun _ _ => False) s₂) (fun _ _ => False) s')
    (done : ∀ c' vs' U' s', c.Le c' → J xs.length c' vs' U' → Sat w c' (.ns env.locals (fm nm vs') :: (U' ++ R)) s' → Q .next s') :
    wpAny (MM w) A (call (.type "zip") [.ref l1, .ref l2]) (fun z s₁ => wpAny (MM w) A (pyIter z) (fun it s₂ => codeAny (MM w) A (.forLoop (.Tuple elts k0 px) it body [] env) (fun r s' => match r with | .ok f => Q f s' | .error e => cameBackBy (MM w) A env E e s') s₂) E s₁) E s := by
  have hls1 := hS.isl hl1
  have hls2 := hS.isl hl2
  have hlt1 : l1 < s.heap.objs.size := let ⟨o, e, _⟩ := hls1; Heap.lt_size e
  have hlt2 : l2 < s.heap.objs.size := let ⟨o, e, _⟩ := hls2; Heap.lt_size e
  refine call_zip_2 hls1 hls2 fun h' hz hTI hTO hi1 hi2 hsz hk => ?_
  refine wpAny_pyIter_zip hz ?_
  generalize hN : s.heap.objs.size = N at hlt1 hlt2 hz hTI hTO hi1 hi2 hsz ⊢
  obtain ⟨o1, ho1, hc1, hd1⟩ := id hi1
  obtain ⟨o2, ho2, hc2, hd2⟩ := id hi2
  have ge : ∀ k, s.heap.objs.size ≤ N + k := fun k => by omega
  -- the five new objects
  have hs0 : Sat w c (.ns env.locals (fm nm vs) :: (U ++ R)) { s with heap := h' } := hS.heap hk
  have hnV : ∀ k, ∀ q ∈ Cell.ns env.locals (fm nm vs) :: (U ++ R), N + k ≠ q.addr := fun k q hq e => Nat.lt_irrefl _ (Nat.lt_of_lt_of_le (hS.lt hq) (e ▸ ge k))
  have hnD : ∀ k, ∀ q ∈ c.D, N + k ≠ q.1 := fun k q hq e => Nat.lt_irrefl _ (Nat.lt_of_lt_of_le (hS.vd q hq).lt (e ▸ ge k))
  have hnI : ∀ k, c.I.get? (N + k) = none := fun k => hS.none_ge (ge k)
  have b1 := hs0.add (p := .pr (N + 2) (· = ({ cls := .type "tuple", data := .seq #[.ref N, .ref (N + 1)] } : Obj))) ⟨_, hTI, rfl⟩ (hnI 2) (hnV 2) (hnD 2)
  have b2 := b1.add (p := oc (N + 1, o2)) ⟨_, ho2, rfl⟩ (hnI 1) (fun q hq => by
    rcases List.mem_cons.mp hq with rfl | hq
    · show N + 1 ≠ N + 2; omega
    · exact hnV 1 q hq) (hnD 1)
  have b3 := b2.add (p := oc (N, o1)) ⟨_, ho1, rfl⟩ (hnI 0) (fun q hq => by
    rcases List.mem_cons.mp hq with rfl | hq
    · show N ≠ N + 1; omega
    · rcases List.mem_cons.mp hq with rfl | hq
      · show N ≠ N + 2; omega
      · exact hnV 0 q hq) (hnD 0)
  have b4 := b3.add (p := oc (N + 3, ({ cls := .type "tuple", data := .seq #[.none, .none] } : Obj))) ⟨_, hTO, rfl⟩ (hnI 3) (fun q hq => by
    rcases List.mem_cons.mp hq with rfl | hq
    · show N + 3 ≠ N; omega
    · rcases List.mem_cons.mp hq with rfl | hq
      · show N + 3 ≠ N + 1; omega
      · rcases List.mem_cons.mp hq with rfl | hq
        · show N + 3 ≠ N + 2; omega
        · exact hnV 3 q hq) (hnD 3)
  have b5 := b4.add (p := oc (N + 4, ({ cls := .type "zip", dict := none, data := .fields #[.none, .bool false, .bool false, .ref (N + 2), .ref (N + 3)], slots := #[] } : Obj))) ⟨_, hz, rfl⟩ (hnI 4) (fun q hq => by
    rcases List.mem_cons.mp hq with rfl | hq
    · show N + 4 ≠ N + 3; omega
    · rcases List.mem_cons.mp hq with rfl | hq
      · show N + 4 ≠ N; omega
      · rcases List.mem_cons.mp hq with rfl | hq
        · show N + 4 ≠ N + 1; omega
        · rcases List.mem_cons.mp hq with rfl | hq
          · show N + 4 ≠ N + 2; omega
          · exact hnV 4 q hq) (hnD 4)
  obtain ⟨c1, l1', b6, o6, n6, rfl⟩ := b5.freeze (p := .pr (N + 2) (· = ({ cls := .type "tuple", data := .seq #[.ref N, .ref (N + 1)] } : Obj))) (.tail (.tail (.tail (.tail .head))))
  have P1 : (oc (N + 4, ({ cls := .type "zip", dict := none, data := .fields #[.none, .bool false, .bool false, .ref (N + 2), .ref (N + 3)], slots := #[] } : Obj)) :: oc (N + 3, ({ cls := .type "tuple", data := .seq #[.none, .none] } : Obj)) :: oc (N, o1) :: oc (N + 1, o2) :: Cell.ns env.locals (fm nm vs) :: (U ++ R)).Perm
      (Cell.ns env.locals (fm nm vs) :: (U ++ (([(N + 4, ({ cls := .type "zip", dict := none, data := .fields #[.none, .bool false, .bool false, .ref (N + 2), .ref (N + 3)], slots := #[] } : Obj)), (N + 3, ({ cls := .type "tuple", data := .seq #[.none, .none] } : Obj)), (N, o1), (N + 1, o2)] : List (Addr × Obj)).map oc ++ R))) :=
    (perm_out (fr := Cell.ns env.locals (fm nm vs)) (U := U) (os := ([(N + 4, ({ cls := .type "zip", dict := none, data := .fields #[.none, .bool false, .bool false, .ref (N + 2), .ref (N + 3)], slots := #[] } : Obj)), (N + 3, ({ cls := .type "tuple", data := .seq #[.none, .none] } : Obj)), (N, o1), (N + 1, o2)] : List (Addr × Obj)).map oc) (R := R)).symm
  have b7 := b6.perm P1
  refine codeAny_mono (for_walkT (c := c1) J (iter_zip hh hlt1 hlt2 xs ys hxy) ?_ rfl b7 ?_ (mono _ _ _ _ _ hJ l1') (fun i vals T c' vs' U' R' s' hi le hv hT _ hj hsub hs => ?_) (fun c' vs' U' s' le => done c' vs' U' s' (l1'.trans le))) (fun r s' h => ?_)
  · intro b hb
    simp only [List.mem_cons, List.not_mem_nil, or_false] at hb
    rcases hb with rfl | rfl | rfl | rfl | rfl | rfl | rfl
    · exact .inl (by simp)
    · exact .inr ⟨_, n6⟩
    · exact .inl (by simp)
    · exact .inl (by simp)
    · exact .inl (by simp)
    · obtain ⟨o, e, _⟩ := hl1; exact .inr ⟨o, l1'.keep _ _ e⟩
    · obtain ⟨o, e, _⟩ := hl2; exact .inr ⟨o, l1'.keep _ _ e⟩
  · exact ⟨hz, hTI, ⟨_, _, hTO⟩, hi1, hi2, hls1.at fun o e => hk _ o e, hls2.at fun o e => hk _ o e⟩
  · obtain ⟨x, y, hx, hy, rfl⟩ := hv
    obtain ⟨c'', g1, g2, hj⟩ := hj
    exact turn i x y T c' vs' U' R' s' hx hy (l1'.trans le) hT (mono _ _ _ _ _ hj g1) hsub hs
  · cases r with
    | ok f => exact h
    | error e => exact h.elim
end
noncomputable abbrev IsZipK (h : Heap) (z TI TO a : Addr) (f : Bool) : Prop := h.get? z = some { cls := .type "zip", dict := none, data := .fields #[rawInt a, .bool f, .bool false, .ref TI, .ref TO], slots := #[] }
section
variable {prog : Program} {w : World} {A : Around} {E : Value → Shared → Prop} {s : Shared}
theorem zk_alive {a : Addr} {o : Obj} {Q : Option Obj → Shared → Prop} (ho : s.heap.get? a = some o) (h : Q (some o) s) : wpAny (model prog w) A (loadIfAlive a) Q E s := by
  have h' : Q (s.heap.get? a) s := by rw [ho]; exact h
  exact fun _ _ _ => h'
/-- the last tuple is still held -/
theorem zk_free {z TI TO a : Addr} {f : Bool} {oa : Obj} {Q : Bool → Shared → Prop} (hz : IsZipK s.heap z TI TO a f) (ha : s.heap.get? a = some oa) (h : ∀ h', IsZipK h' z TI TO a true → Heap.SameBut z s.heap h' → Q false { s with heap := h' }) : wpAny (model prog w) A (Builtin.SmallTypes.ownedTupleIsFree (.ref z)) Q E s := by
  unfold Builtin.SmallTypes.ownedTupleIsFree
  refine wpAny_bind (wpAny_field hz rfl (x := rawInt a) rfl ?_)
  show wpAny _ _ (loadIfAlive ((a : Int).toNat) >>= _) _ _ _
  rw [Int.toNat_natCast]
  refine wpAny_bind (zk_alive ha ?_)
  simp only [Option.isNone_some, Bool.false_eq_true, if_false]
  refine wpAny_bind (wpAny_field hz rfl (x := .bool f) rfl ?_)
  cases f with
  | true =>
    rw [if_neg (show ¬ ((Value.bool true != Value.bool true) = true) from Bool.false_ne_true)]
    exact wpAny_pure (h _ hz (Heap.SameBut.refl _ _))
  | false =>
    rw [if_pos (show (Value.bool false != Value.bool true) = true from rfl)]
    exact wpAny_bind (wpAny_setField_rec hz (by simp) fun h₃ hz₃ hs₃ => wpAny_pure (h _ hz₃ hs₃))
theorem zk_next {z TI TO i1 i2 l1 l2 a : Addr} {f : Bool} {oa : Obj} {k : Nat} {xs ys : Array Value} {x y : Value} {Q : Value → Shared → Prop} (D : ZipApart z TI TO i1 i2 l1 l2)
    (hz : IsZipK s.heap z TI TO a f) (ha : s.heap.get? a = some oa) (hTI : IsPair s.heap TI (.ref i1) (.ref i2))
    (h1 : s.heap.IsListIter i1 l1 k) (h2 : s.heap.IsListIter i2 l2 k) (hl1 : s.heap.IsList l1 xs) (hl2 : s.heap.IsList l2 ys) (hx : xs[k]? = some x) (hy : ys[k]? = some y)
    (hQ : ∀ h', IsZipK h' z TI TO a true → h'.IsListIter i1 l1 (k + 1) → h'.IsListIter i2 l2 (k + 1) → IsPair h' s.heap.objs.size x y → h'.objs.size = s.heap.objs.size + 1 →
      (∀ c o, c ≠ z → c ≠ i1 → c ≠ i2 → s.heap.get? c = some o → h'.get? c = some o) → Q (.ref s.heap.objs.size) { s with heap := h' }) :
    wpAny (model prog w) A (Builtin.«zip.__next__» ⟨[.ref z], []⟩) (fun fin s' => ∃ v, fin = .done (.ret v) ∧ Q v s') E s := by
  show wpAny _ _ (field (.ref z) 2 >>= _) _ _ _
  refine wpAny_bind (wpAny_field hz rfl (x := .bool false) rfl ?_)
  show wpAny _ _ (field (.ref z) 3 >>= _) _ _ _
  refine wpAny_bind (wpAny_field hz rfl (x := .ref TI) rfl ?_)
  refine wpAny_bind (wpAny_seqItems hTI rfl ?_)
  show wpAny _ _ (Builtin.SmallTypes.ownedTupleIsFree (.ref z) >>= _) _ _ _
  refine wpAny_bind (zk_free hz ha fun h₁ hz₁ hs₁ => ?_)
  simp only [Bool.false_eq_true, if_false]
  refine wpAny_bind ?_
  rw [← Array.forIn_toList]
  simp only [List.forIn_cons, List.forIn_nil]
  refine wpAny_bind (wpAny_bind (wpAny_holding ?_))
  show wpAny _ _ (Builtin.SmallTypes.nextOf (.ref i1) >>= _) _ _ _
  refine wpAny_bind (wpAny_nextOf_list_item (h1.extBut hs₁.extBut D.i1z) (hl1.extBut hs₁.extBut D.l1z) hx fun h₂ h1₂ hs₂ => wpAny_pure ?_)
  refine wpAny_pure ?_
  refine wpAny_bind (wpAny_bind (wpAny_holding ?_))
  show wpAny _ _ (Builtin.SmallTypes.nextOf (.ref i2) >>= _) _ _ _
  refine wpAny_bind (wpAny_nextOf_list_item ((h2.extBut hs₁.extBut D.i2z).extBut hs₂.extBut D.i12.symm) ((hl2.extBut hs₁.extBut D.l2z).extBut hs₂.extBut D.l2i1) hy fun h₃ h2₃ hs₃ => wpAny_pure ?_)
  refine wpAny_pure (wpAny_pure ?_)
  show wpAny _ _ (newTuple [x, y] >>= _) _ _ _
  refine wpAny_bind (wpAny_newTuple ?_)
  have hsz : h₃.objs.size = s.heap.objs.size := by rw [hs₃.1, hs₂.1, hs₁.1]
  have hz₃ : IsZipK h₃ z TI TO a true := hs₃.extBut _ _ D.i2z.symm (hs₂.extBut _ _ D.i1z.symm hz₁)
  have hk₃ : ∀ c o, c ≠ z → c ≠ i1 → c ≠ i2 → s.heap.get? c = some o → h₃.get? c = some o := fun c o c1 c3 c4 e => hs₃.extBut _ _ c4 (hs₂.extBut _ _ c3 (hs₁.extBut _ _ c1 e))
  have h1₃ := h1₂.extBut hs₃.extBut D.i12
  refine wpAny_pure ⟨_, rfl, ?_⟩
  show Q (.ref h₃.objs.size) _
  rw [hsz]
  refine hQ _ (Heap.get?_push_of_some _ hz₃) (h1₃.at fun o e => Heap.get?_push_of_some _ e) (h2₃.at fun o e => Heap.get?_push_of_some _ e) ?_ ?_ fun c o c1 c3 c4 e => Heap.get?_push_of_some _ (hk₃ c o c1 c3 c4 e)
  · rw [← hsz]; exact Heap.get?_push_size _ rfl
  · rw [Heap.size_push, hsz]
theorem zk_nextEnd {z TI TO i1 i2 l1 l2 a : Addr} {f : Bool} {oa : Obj} {k : Nat} {xs : Array Value} {Q : PySem.Fin → Shared → Prop} (hh : A.handled = none) (D : ZipApart z TI TO i1 i2 l1 l2)
    (hz : IsZipK s.heap z TI TO a f) (ha : s.heap.get? a = some oa) (hTI : IsPair s.heap TI (.ref i1) (.ref i2))
    (h1 : s.heap.IsListIter i1 l1 k) (hl1 : s.heap.IsList l1 xs) (hx : xs[k]? = none)
    (hE : ∀ h' e, (∀ c o, c ≠ z → c ≠ i1 → c ≠ i2 → s.heap.get? c = some o → h'.get? c = some o) → (∃ o, h'.get? e = some o ∧ o.cls = .type "StopIteration") → E (.ref e) { s with heap := h' }) :
    wpAny (model prog w) A (Builtin.«zip.__next__» ⟨[.ref z], []⟩) Q E s := by
  show wpAny _ _ (field (.ref z) 2 >>= _) _ _ _
  refine wpAny_bind (wpAny_field hz rfl (x := .bool false) rfl ?_)
  show wpAny _ _ (field (.ref z) 3 >>= _) _ _ _
  refine wpAny_bind (wpAny_field hz rfl (x := .ref TI) rfl ?_)
  refine wpAny_bind (wpAny_seqItems hTI rfl ?_)
  show wpAny _ _ (Builtin.SmallTypes.ownedTupleIsFree (.ref z) >>= _) _ _ _
  refine wpAny_bind (zk_free hz ha fun h₁ hz₁ hs₁ => ?_)
  simp only [Bool.false_eq_true, if_false]
  refine wpAny_bind ?_
  rw [← Array.forIn_toList]
  simp only [List.forIn_cons, List.forIn_nil]
  refine wpAny_bind (wpAny_bind (wpAny_holding ?_))
  show wpAny _ _ (Builtin.SmallTypes.nextOf (.ref i1) >>= _) _ _ _
  refine wpAny_bind (wpAny_nextOf_list_end hh (h1.extBut hs₁.extBut D.i1z) (hl1.extBut hs₁.extBut D.l1z) hx fun h₂ e hs₂ he => ?_)
  exact hE h₂ e (fun c o c1 c3 _ x => hs₂ _ _ c3 (hs₁.extBut _ _ c1 x)) he
theorem zk_pyNext {z TI TO i1 i2 l1 l2 a : Addr} {f : Bool} {oa : Obj} {k : Nat} {xs ys : Array Value} {x y : Value} {Q : Option Value → Shared → Prop} (D : ZipApart z TI TO i1 i2 l1 l2)
    (hz : IsZipK s.heap z TI TO a f) (ha : s.heap.get? a = some oa) (hTI : IsPair s.heap TI (.ref i1) (.ref i2))
    (h1 : s.heap.IsListIter i1 l1 k) (h2 : s.heap.IsListIter i2 l2 k) (hl1 : s.heap.IsList l1 xs) (hl2 : s.heap.IsList l2 ys) (hx : xs[k]? = some x) (hy : ys[k]? = some y)
    (hQ : ∀ h', IsZipK h' z TI TO a true → h'.IsListIter i1 l1 (k + 1) → h'.IsListIter i2 l2 (k + 1) → IsPair h' s.heap.objs.size x y → h'.objs.size = s.heap.objs.size + 1 →
      (∀ c o, c ≠ z → c ≠ i1 → c ≠ i2 → s.heap.get? c = some o → h'.get? c = some o) → Q (some (.ref s.heap.objs.size)) { s with heap := h' }) :
    wpAny (model prog w) A (pyNext (.ref z)) Q E s := by
  have hT : s.TypeIs (.ref z) "zip" := ⟨_, hz, rfl⟩
  unfold pyNext
  exact wpAny_bind (wpAny_attempt (wpAny_callSpecial?_slot (name := Str.ofString "__next__") hT F.slot_zip_next
    (wpAny_call_entry F.slot_zip_next hT F.entry_zip_next
      (zk_next D hz ha hTI h1 h2 hl1 hl2 hx hy fun h' a1 a2 a3 a4 a5 a6 => wpAny_pure (hQ h' a1 a2 a3 a4 a5 a6)) (F.args_zip_next_1 _))))
theorem zk_pyNextEnd {z TI TO i1 i2 l1 l2 a : Addr} {f : Bool} {oa : Obj} {k : Nat} {xs : Array Value} {Q : Option Value → Shared → Prop} (hh : A.handled = none) (D : ZipApart z TI TO i1 i2 l1 l2)
    (hz : IsZipK s.heap z TI TO a f) (ha : s.heap.get? a = some oa) (hTI : IsPair s.heap TI (.ref i1) (.ref i2))
    (h1 : s.heap.IsListIter i1 l1 k) (hl1 : s.heap.IsList l1 xs) (hx : xs[k]? = none)
    (hQ : ∀ h', (∀ c o, c ≠ z → c ≠ i1 → c ≠ i2 → s.heap.get? c = some o → h'.get? c = some o) → Q none { s with heap := h' }) : wpAny (model prog w) A (pyNext (.ref z)) Q E s := by
  have hT : s.TypeIs (.ref z) "zip" := ⟨_, hz, rfl⟩
  unfold pyNext
  refine wpAny_bind (wpAny_attempt (wpAny_callSpecial?_slot (name := Str.ofString "__next__") hT F.slot_zip_next
    (wpAny_call_entry F.slot_zip_next hT F.entry_zip_next (zk_nextEnd hh D hz ha hTI h1 hl1 hx fun h' e hk he => ?_) (F.args_zip_next_1 _))))
  obtain ⟨o, ho, hc⟩ := he
  refine wpAny_bind (wpAny_isInstance (T := "StopIteration") (b := true) ⟨o, ho, hc⟩ isSubtype_stop ?_)
  exact wpAny_pure (hQ _ hk)

/-- a zip that list() takes from -/
structure ZkSt (h : Heap) (S z TI TO i1 i2 l1 l2 : Addr) (xs ys : Array Value) (i : Nat) : Prop where
  zip : (i = 0 ∧ IsZip h z TI TO .none ∧ ∃ a b, IsPair h TO a b) ∨ ∃ a f oa, IsZipK h z TI TO a f ∧ h.get? a = some oa ∧ a ≠ z ∧ a ≠ i1 ∧ a ≠ i2 ∧ a ≠ S
  pair : IsPair h TI (.ref i1) (.ref i2)
  it1 : h.IsListIter i1 l1 i
  it2 : h.IsListIter i2 l2 i
  ls1 : h.IsList l1 xs
  ls2 : h.IsList l2 ys
theorem ZkSt.keep {h h' : Heap} {S z TI TO i1 i2 l1 l2 : Addr} {xs ys : Array Value} {i : Nat} (x : ZkSt h S z TI TO i1 i2 l1 l2 xs ys i) (k : ∀ b o, b ≠ S → h.get? b = some o → h'.get? b = some o) (hS : ∀ b ∈ [z, TI, TO, i1, i2, l1, l2], b ≠ S) : ZkSt h' S z TI TO i1 i2 l1 l2 xs ys i := by
  refine ⟨?_, k _ _ (hS TI (by simp)) x.pair, x.it1.at fun o e => k _ o (hS i1 (by simp)) e, x.it2.at fun o e => k _ o (hS i2 (by simp)) e, x.ls1.at fun o e => k _ o (hS l1 (by simp)) e, x.ls2.at fun o e => k _ o (hS l2 (by simp)) e⟩
  rcases x.zip with ⟨e, g1, a, b, g2⟩ | ⟨a, f, oa, g1, g2, n1, n2, n3, n4⟩
  · exact .inl ⟨e, k _ _ (hS z (by simp)) g1, a, b, k _ _ (hS TO (by simp)) g2⟩
  · exact .inr ⟨a, f, oa, k _ _ (hS z (by simp)) g1, k _ _ n4 g2, n1, n2, n3, n4⟩
theorem zk_item {S z TI TO i1 i2 l1 l2 : Addr} {xs ys : Array Value} {i : Nat} {x y : Value} {Q : Option Value → Shared → Prop} (D : ZipApart z TI TO i1 i2 l1 l2) (hst : ZkSt s.heap S z TI TO i1 i2 l1 l2 xs ys i) (hS : S < s.heap.objs.size) (hx : xs[i]? = some x) (hy : ys[i]? = some y)
    (hQ : ∀ h', ZkSt h' S z TI TO i1 i2 l1 l2 xs ys (i + 1) → IsPair h' s.heap.objs.size x y → h'.objs.size = s.heap.objs.size + 1 →
      (∀ c o, c ∉ [z, TO, i1, i2] → s.heap.get? c = some o → h'.get? c = some o) → Q (some (.ref s.heap.objs.size)) { s with heap := h' }) :
    wpAny (model prog w) A (pyNext (.ref z)) Q E s := by
  have lt : ∀ {c o}, s.heap.get? c = some o → s.heap.objs.size ≠ c := fun e => Nat.ne_of_gt (Heap.lt_size e)
  have i1lt : s.heap.objs.size ≠ i1 := by obtain ⟨_, e, _⟩ := hst.it1; exact lt e
  have i2lt : s.heap.objs.size ≠ i2 := by obtain ⟨_, e, _⟩ := hst.it2; exact lt e
  rcases hst.zip with ⟨rfl, hz, a, b, hTO⟩ | ⟨a, f, oa, hz, ha, n1, n2, n3, n4⟩
  · refine wpAny_pyNext_zip_item D hz hst.pair hTO hst.it1 hst.it2 hst.ls1 hst.ls2 hx hy fun h' a1 a2 a3 a4 a5 a6 hk => ?_
    refine hQ h' ⟨.inr ⟨s.heap.objs.size, false, _, a1, a5, lt hz, i1lt, i2lt, Nat.ne_of_gt hS⟩, hk _ _ D.TIz D.TITO D.TIi1 D.TIi2 hst.pair, a3, a4, hst.ls1.at fun o e => hk _ o D.l1z D.l1TO D.l1i1 D.l1i2 e, hst.ls2.at fun o e => hk _ o D.l2z D.l2TO D.l2i1 D.l2i2 e⟩ a5 a6 fun c o hc e => ?_
    simp only [List.mem_cons, List.not_mem_nil, or_false, not_or] at hc
    exact hk c o hc.1 hc.2.1 hc.2.2.1 hc.2.2.2 e
  · refine zk_pyNext D hz ha hst.pair hst.it1 hst.it2 hst.ls1 hst.ls2 hx hy fun h' a1 a2 a3 a4 a5 hk => ?_
    refine hQ h' ⟨.inr ⟨a, true, oa, a1, hk _ _ n1 n2 n3 ha, n1, n2, n3, n4⟩, hk _ _ D.TIz D.TIi1 D.TIi2 hst.pair, a2, a3, hst.ls1.at fun o e => hk _ o D.l1z D.l1i1 D.l1i2 e, hst.ls2.at fun o e => hk _ o D.l2z D.l2i1 D.l2i2 e⟩ a4 a5 fun c o hc e => ?_
    simp only [List.mem_cons, List.not_mem_nil, or_false, not_or] at hc
    exact hk c o hc.1 hc.2.2.1 hc.2.2.2 e
theorem zk_done {S z TI TO i1 i2 l1 l2 : Addr} {xs ys : Array Value} {i : Nat} {Q : Option Value → Shared → Prop} (hh : A.handled = none) (D : ZipApart z TI TO i1 i2 l1 l2) (hst : ZkSt s.heap S z TI TO i1 i2 l1 l2 xs ys i) (hx : xs[i]? = none)
    (hQ : ∀ h', (∀ c o, c ∉ [z, TO, i1, i2] → s.heap.get? c = some o → h'.get? c = some o) → Q none { s with heap := h' }) : wpAny (model prog w) A (pyNext (.ref z)) Q E s := by
  rcases hst.zip with ⟨rfl, hz, a, b, hTO⟩ | ⟨a, f, oa, hz, ha, n1, n2, n3, n4⟩
  · refine wpAny_pyNext_zip_end hh D hz hst.pair hTO hst.it1 hst.it2 hst.ls1 hst.ls2 (.inl hx) fun h' hk => hQ h' fun c o hc e => ?_
    simp only [List.mem_cons, List.not_mem_nil, or_false, not_or] at hc
    exact hk c o hc.1 hc.2.1 hc.2.2.1 hc.2.2.2 e
  · refine zk_pyNextEnd hh D hz ha hst.pair hst.it1 hst.ls1 hx fun h' hk => hQ h' fun c o hc e => ?_
    simp only [List.mem_cons, List.not_mem_nil, or_false, not_or] at hc
    exact hk c o hc.1 hc.2.2.1 hc.2.2.2 e
end

/-- the tuples that have been drawn -/
structure ZkG (xs ys : List Value) (lo : Addr) (h : Heap) (as : List Addr) : Prop where
  rise : as.Pairwise (· < ·)
  above : ∀ a ∈ as, lo < a
  pairs : ∀ (j : Nat) (a : Addr), as[j]? = some a → ∃ x y, xs[j]? = some x ∧ ys[j]? = some y ∧ IsPair h a x y
theorem ZkG.there {xs ys : List Value} {lo : Addr} {h : Heap} {as : List Addr} (g : ZkG xs ys lo h as) {a : Addr} (ha : a ∈ as) : a < h.objs.size := by
  obtain ⟨j, hj⟩ := List.mem_iff_getElem?.mp ha
  obtain ⟨_, _, _, _, e⟩ := g.pairs j a hj
  exact Heap.lt_size e
section
variable {prog : Program} {w : World} {A : Around} {s : Shared} {R : Result → Shared → Prop}
theorem zk_loop {S z TI TO i1 i2 l1 l2 lo : Addr} {xs ys : List Value} (hh : A.handled = none) (D : ZipApart z TI TO i1 i2 l1 l2) (hxy : xs.length = ys.length) (hn : xs.length ≤ 1000) (hap : ∀ b ∈ [z, TI, TO, i1, i2, l1, l2], b ≠ S) (hSlo : S ≤ lo) (hlo : ∀ b ∈ [z, TO, i1, i2], b ≤ lo) (res : Value) {h₁ : Heap}
    (hR : ∀ h' tk acc c as, (∀ b o, b ≠ S → b ∉ [z, TO, i1, i2] → h₁.get? b = some o → h'.get? b = some o) → h'.get? S = some { cls := .type "list", dict := none, data := .seq acc c, slots := #[] } → as.length = xs.length → ZkG xs ys lo h' as →
      acc.toList = as.map Value.ref → R (.ok (.ret res)) { s with heap := h', toks := tk }) :
    ∀ (k i : Nat) (h : Heap) (tk c : Nat) (acc : Array Value) (as : List Addr), xs.length - i = k → i ≤ xs.length → ZkSt h S z TI TO i1 i2 l1 l2 xs.toArray ys.toArray i → (∀ b o, b ≠ S → b ∉ [z, TO, i1, i2] → h₁.get? b = some o → h.get? b = some o) →
      h.get? S = some { cls := .type "list", dict := none, data := .seq acc c, slots := #[] } → acc.toList = as.map Value.ref → as.length = i → ZkG xs ys lo h as → lo < h.objs.size →
      codeAny (model prog w) A (.builtin "list.extend.loop" ⟨[.ref S, .ref z, res], []⟩) R { s with heap := h, toks := tk } := by
  have hSn : S ∉ [z, TO, i1, i2] := fun hm => by
    simp only [List.mem_cons, List.not_mem_nil, or_false] at hm
    rcases hm with e | e | e | e
    · exact hap z (by simp) e.symm
    · exact hap TO (by simp) e.symm
    · exact hap i1 (by simp) e.symm
    · exact hap i2 (by simp) e.symm
  have hnlo : ∀ b, lo < b → b ∉ [z, TO, i1, i2] := fun b hb hm => Nat.lt_irrefl _ (Nat.lt_of_lt_of_le hb (hlo b hm))
  intro k
  induction k with
  | zero =>
    intro i h tk c acc as hk hi hst hkeep hS hacc hal hG hIs
    have hin : i = xs.length := by (first | lia | omega)
    refine codeAny_builtin PySem.F.entry_extend_loop ?_
    rw [Around.under_plainId PySem.F.plain_extend_loop _]
    show wpAny _ A.in1 (pyNext (.ref z) >>= _) _ _ _
    refine wpAny_bind (zk_done (s := { s with heap := h, toks := tk }) (A := A.in1) hh D hst (by simp; (first | lia | omega)) fun h' he => ?_)
    refine wpAny_pure (hR h' tk acc c as (fun b o h1 h2 e => he b o h2 (hkeep b o h1 h2 e)) (he S _ hSn hS) (by (first | lia | omega)) ⟨hG.rise, hG.above, fun j a hj => ?_⟩ hacc)
    obtain ⟨x, y, e1, e2, e3⟩ := hG.pairs j a hj
    exact ⟨x, y, e1, e2, he a _ (hnlo a (hG.above a (List.mem_of_getElem? hj))) e3⟩
  | succ k ih =>
    intro i h tk c acc as hk hi hst hkeep hS hacc hal hG hIs
    have hlt : i < xs.length := by (first | lia | omega)
    have hlt2 : i < ys.length := by (first | lia | omega)
    have hsz : acc.size = i := by rw [← Array.length_toList, hacc, List.length_map, hal]
    refine codeAny_builtin PySem.F.entry_extend_loop ?_
    rw [Around.under_plainId PySem.F.plain_extend_loop _]
    show wpAny _ A.in1 (pyNext (.ref z) >>= _) _ _ _
    refine wpAny_bind (zk_item (s := { s with heap := h, toks := tk }) (x := xs[i]) (y := ys[i]) D hst (Heap.lt_size hS) (by simp [hlt]) (by simp [hlt2]) fun h' hst' ht hz hkp => ?_)
    dsimp only at ht hz hkp ⊢
    have hS' := hkp S _ hSn hS
    have up : ∀ b o, b ≠ S → h'.get? b = some o → (h'.update S (Obj.mapSeq (·.push (Value.ref h.objs.size)))).get? b = some o := fun b o hb e => (Heap.get?_update_other _ _ (Ne.symm hb)).trans e
    have hSl : S < h.objs.size := Heap.lt_size hS
    show wpAny _ A.in1 (updateSeq S (·.push (Value.ref h.objs.size)) >>= _) _ _ _
    refine wpAny_bind ?_
    refine wpAny_updateSeq hS' rfl (wpAny_pure ⟨plainId_quiet PySem.F.plain_extend_loop _, ih (i + 1) _ tk _ (acc.push (Value.ref h.objs.size)) (as ++ [h.objs.size]) (by (first | lia | omega)) hlt (hst'.keep up hap)
      (fun b o h1 h2 e => up b o h1 (hkp b o h2 (hkeep b o h1 h2 e))) (Heap.get?_update_self _ hS' rfl) (by rw [Array.toList_push, hacc, List.map_append]; rfl) (by rw [List.length_append, hal]; rfl) ⟨?_, ?_, ?_⟩ ?_⟩) (by rw [hsz, sizeLine_eq]; (first | lia | omega)) (by show (acc.push (Value.ref h.objs.size)).size ≤ sizeLine + 1; rw [Array.size_push, hsz, sizeLine_eq]; (first | lia | omega))
    · refine List.pairwise_append.mpr ⟨hG.rise, List.pairwise_singleton _ _, fun a ha b hb => ?_⟩
      rw [List.mem_singleton.mp hb]
      exact hG.there ha
    · intro a ha
      rcases List.mem_append.mp ha with ha | ha
      · exact hG.above a ha
      · rw [List.mem_singleton.mp ha]; exact hIs
    · intro j b hj
      rcases Nat.lt_trichotomy j as.length with h1 | h1 | h1
      · rw [List.getElem?_append_left h1] at hj
        obtain ⟨x', y', e1, e2, e3⟩ := hG.pairs j b hj
        have hb := hG.above b (List.mem_of_getElem? hj)
        exact ⟨x', y', e1, e2, up b _ (Nat.ne_of_gt (Nat.lt_of_le_of_lt hSlo hb)) (hkp b _ (hnlo b hb) e3)⟩
      · subst h1
        have hb : h.objs.size = b := by simpa using hj
        subst hb
        exact ⟨xs[i], ys[i], by rw [hal]; exact List.getElem?_eq_getElem hlt, by rw [hal]; exact List.getElem?_eq_getElem hlt2, up _ _ (Nat.ne_of_gt hSl) ht⟩
      · have hnone : (as ++ [h.objs.size])[j]? = none := List.getElem?_eq_none (by rw [List.length_append, List.length_singleton]; (first | lia | omega))
        rw [hnone] at hj; cases hj
    · have e : (h'.update S (Obj.mapSeq (·.push (Value.ref h.objs.size)))).get? h.objs.size = _ := up _ _ (Nat.ne_of_gt hSl) ht
      exact Nat.lt_trans hIs (Heap.lt_size e)
theorem zk_len : typeLookup (.type "zip") "__len__" = pure none := by rw [typeLookup_type, builtinLookup_eq_fast]; kernel_rfl
theorem zk_hint : typeLookup (.type "zip") "__length_hint__" = pure none := by rw [typeLookup_type, builtinLookup_eq_fast]; kernel_rfl
end
section
variable {prog : Program} {w : World} {A : Around} {E : Value → Shared → Prop} {s : Shared}
theorem zk_hint0 {z : Addr} (hT : s.TypeIs (.ref z) "zip") {Q : Bool → Shared → Prop} (h : Q true s) : wpAny (model prog w) A (Builtin.List.listLengthHint (.ref z)) Q E s := by
  unfold Builtin.List.listLengthHint
  refine wpAny_bind (wpAny_specialOf hT zk_len ?_)
  show wpAny _ A (specialOf (Value.ref z) (Str.ofString "__length_hint__") >>= _) _ _ _
  refine wpAny_bind (wpAny_specialOf hT zk_hint ?_)
  exact wpAny_pure h
theorem zk_extend {R : Result → Shared → Prop} {S z TI TO i1 i2 l1 l2 lo : Addr} {xs ys : List Value} (hh : A.handled = none) (D : ZipApart z TI TO i1 i2 l1 l2) (hxy : xs.length = ys.length) (hn : xs.length ≤ 1000) (hap : ∀ b ∈ [z, TI, TO, i1, i2, l1, l2], b ≠ S) (hSlo : S ≤ lo) (hlo : ∀ b ∈ [z, TO, i1, i2], b ≤ lo) (hls : lo < s.heap.objs.size) (res : Value) (c₀ : Nat)
    (hst : ZkSt s.heap S z TI TO i1 i2 l1 l2 xs.toArray ys.toArray 0) (hz : IsZip s.heap z TI TO .none) (hS : s.heap.get? S = some { cls := .type "list", data := .seq #[] c₀ })
    (hR : ∀ h' tk acc c as, (∀ b o, b ≠ S → b ∉ [z, TO, i1, i2] → s.heap.get? b = some o → h'.get? b = some o) → h'.get? S = some { cls := .type "list", dict := none, data := .seq acc c, slots := #[] } → as.length = xs.length → ZkG xs ys lo h' as →
      acc.toList = as.map Value.ref → R (.ok (.ret res)) { s with heap := h', toks := tk }) :
    wpAny (model prog w) A.in1 (Builtin.List.listExtendWith (.ref S) (.ref z) res)
      (fun fin s' => match fin with | .done f => R (.ok f) s' | .again c' => c'.quiet = true ∧ codeAny (model prog w) A c' R s') (fun e s' => R (.error e) s') s := by
  have hT : s.TypeIs (.ref z) "zip" := ⟨_, hz, rfl⟩
  have hSz : S ≠ z := fun e => hap z (by simp) e.symm
  have key : ∀ (h : Heap) (c₁ tk : Nat), (∀ b o, b ≠ S → s.heap.get? b = some o → h.get? b = some o) → s.heap.objs.size ≤ h.objs.size →
      h.get? S = some { cls := .type "list", data := .seq #[] c₁ } → codeAny (model prog w) A (.builtin "list.extend.loop" ⟨[.ref S, .ref z, res], []⟩) R { s with heap := h, toks := tk } := by
    intro h c₁ tk hk hsz hS₁
    exact zk_loop (h₁ := s.heap) hh D hxy hn hap hSlo hlo res hR xs.length 0 h tk c₁ #[] [] (Nat.sub_zero _) (Nat.zero_le _) (hst.keep hk hap) (fun b o hb _ e => hk b o hb e) hS₁ rfl rfl
      ⟨List.Pairwise.nil, (fun _ ha => nomatch ha), (fun j a hj => by simp at hj)⟩ (Nat.lt_of_lt_of_le hls hsz)
  unfold Builtin.List.listExtendWith
  refine wpAny_bind (wpAny_typeOf (T := "zip") hT ?_)
  have h1 : Builtin.List.listSameRef (.ref S) (.ref z) = false := by simp [Builtin.List.listSameRef, hSz]
  have h2 : (Value.type "zip" == Value.type "list") = false := by decide
  have h3 : (Value.type "zip" == Value.type "tuple") = false := by decide
  simp only [h1, h2, h3, Bool.or_false, Bool.false_eq_true, if_false]
  refine wpAny_bind (wpAny_pyIter_zip hz ?_)
  refine wpAny_bind (wpAny_holding (zk_hint0 hT ?_))
  refine wpAny_ite_split (fun _ => ?_) (fun _ => wpAny_pure ⟨plainId_quiet PySem.F.plain_extend_loop _, key _ c₀ _ (fun b o _ e => e) (Nat.le_refl _) hS⟩)
  refine wpAny_bind (wpAny_rule ?_)
  refine wpAny_bind ?_
  show wpAny _ _ (updateSeq S (·.push .none) >>= fun _ => updateSeq S (·.pop)) _ _ _
  refine wpAny_bind (wpAny_updateSeq hS rfl ?_)
  have hS₂ := Heap.get?_update_self (Obj.mapSeq (·.push Value.none)) hS rfl
  refine wpAny_updateSeq (hz := by seq_fits) hS₂ rfl ?_
  have hS₃ := Heap.get?_update_self (Obj.mapSeq (·.pop)) hS₂ rfl
  refine wpAny_pure ⟨plainId_quiet PySem.F.plain_extend_loop _, key _ _ _ (fun b o hb e => ?_) ?_ hS₃⟩
  · exact (Heap.get?_update_other _ _ (Ne.symm hb)).trans ((Heap.get?_update_other _ _ (Ne.symm hb)).trans e)
  · rw [Heap.size_update, Heap.size_update]; exact Nat.le_refl _
theorem zk_init {R : Result → Shared → Prop} {S z TI TO i1 i2 l1 l2 lo : Addr} {xs ys : List Value} (hh : A.handled = none) (D : ZipApart z TI TO i1 i2 l1 l2) (hxy : xs.length = ys.length) (hn : xs.length ≤ 1000) (hap : ∀ b ∈ [z, TI, TO, i1, i2, l1, l2], b ≠ S) (hSlo : S ≤ lo) (hlo : ∀ b ∈ [z, TO, i1, i2], b ≤ lo) (hls : lo < s.heap.objs.size)
    (hst : ZkSt s.heap S z TI TO i1 i2 l1 l2 xs.toArray ys.toArray 0) (hz : IsZip s.heap z TI TO .none) (hS : s.heap.get? S = some { cls := .type "list", data := .seq #[] })
    (hR : ∀ h' tk acc c as, (∀ b o, b ≠ S → b ∉ [z, TO, i1, i2] → s.heap.get? b = some o → h'.get? b = some o) → h'.get? S = some { cls := .type "list", dict := none, data := .seq acc c, slots := #[] } → as.length = xs.length → ZkG xs ys lo h' as →
      acc.toList = as.map Value.ref → R (.ok (.ret .none)) { s with heap := h', toks := tk }) :
    wpAny (model prog w) A.in1 (Builtin.«list.__init__» ⟨[.ref S, .ref z], []⟩)
      (fun fin s' => match fin with | .done f => R (.ok f) s' | .again c' => c'.quiet = true ∧ codeAny (model prog w) A c' R s') (fun e s' => R (.error e) s') s := by
  show wpAny _ _ (do let old ← Builtin.List.listItems (.ref S); Builtin.List.listUpdate (.ref S) (fun _ => #[]); letGo old.toList.reverse; Builtin.List.listExtendWith (.ref S) (.ref z) .none) _ _ s
  refine wpAny_bind ?_
  unfold Builtin.List.listItems
  refine wpAny_bind (wpAny_seqItems hS rfl (wpAny_pure ?_))
  show wpAny _ _ (updateSeq S (fun _ => #[]) >>= fun _ => letGo (#[] : Array Value).toList.reverse >>= fun _ => Builtin.List.listExtendWith (.ref S) (.ref z) .none) _ _ s
  refine wpAny_bind (wpAny_updateSeq hS rfl ?_)
  have hS₂ := Heap.get?_update_self (Obj.mapSeq (fun _ => (#[] : Array Value))) hS rfl
  have oth : ∀ b o, b ≠ S → s.heap.get? b = some o → (s.heap.update S (Obj.mapSeq (fun _ => (#[] : Array Value)))).get? b = some o :=
    fun b o hb e => (Heap.get?_update_other _ _ (Ne.symm hb)).trans e
  refine wpAny_bind (wpAny_letGo ?_)
  exact zk_extend (lo := lo) hh D hxy hn hap hSlo hlo (by rw [Heap.size_update]; exact hls) .none _ (hst.keep oth hap) (oth _ _ (hap z (by simp)) hz) hS₂ fun h' tk acc c as hk hS' hl hG hacc =>
    hR h' tk acc c as (fun b o hb h2 e => hk b o hb h2 (oth b o hb e)) hS' hl hG hacc
theorem zk_call {Q : Value → Shared → Prop} {z TI TO i1 i2 l1 l2 : Addr} {xs ys : List Value} (hh : A.handled = none) (D : ZipApart z TI TO i1 i2 l1 l2) (hxy : xs.length = ys.length) (hn : xs.length ≤ 1000) (hlt : ∀ b ∈ [z, TI, TO, i1, i2, l1, l2], b < s.heap.objs.size)
    (hst : ∀ S, ZkSt s.heap S z TI TO i1 i2 l1 l2 xs.toArray ys.toArray 0) (hz : IsZip s.heap z TI TO .none)
    (hQ : ∀ h' tk acc c as, (∀ b o, b ∉ [z, TO, i1, i2] → s.heap.get? b = some o → h'.get? b = some o) → h'.get? s.heap.objs.size = some { cls := .type "list", dict := none, data := .seq acc c, slots := #[] } → as.length = xs.length → ZkG xs ys s.heap.objs.size h' as →
      acc.toList = as.map Value.ref → Q (.ref s.heap.objs.size) { s with heap := h', toks := tk }) :
    wpAny (model prog w) A (call (.type "list") [.ref z]) Q E s := by
  refine callType_codes (Q₁ := fun obj s₁ => obj = .ref s.heap.objs.size ∧ s₁ = { s with heap := s.heap.push { cls := .type "list", data := .seq #[] } }) PySem.F.called_list (PySem.F.typeCall_list_1 _) PySem.F.entry_list_init
    (code_list_new _ ⟨rfl, rfl⟩) fun obj s₁ h₁ => ?_
  obtain ⟨rfl, rfl⟩ := h₁
  have hS : (s.heap.push { cls := .type "list", data := .seq #[] }).get? s.heap.objs.size = some { cls := .type "list", data := .seq #[] } := Heap.get?_push_size _ rfl
  have up : ∀ b o, s.heap.get? b = some o → (s.heap.push { cls := .type "list", data := .seq #[] }).get? b = some o := fun b o e => Heap.get?_push_of_some _ e
  have st0 := hst s.heap.objs.size
  have st1 : ZkSt (s.heap.push { cls := .type "list", data := .seq #[] }) s.heap.objs.size z TI TO i1 i2 l1 l2 xs.toArray ys.toArray 0 := st0.keep (fun b o _ e => up b o e) fun b hb => Nat.ne_of_lt (hlt b hb)
  refine ⟨⟨_, hS, rfl⟩, PySem.F.args_list_init_2 _ _, zk_init (A := A.in1) (lo := s.heap.objs.size) hh D hxy hn (fun b hb => Nat.ne_of_lt (hlt b hb)) (Nat.le_refl _) (fun b hb => Nat.le_of_lt (hlt b (by simp only [List.mem_cons, List.not_mem_nil, or_false] at hb ⊢; rcases hb with h | h | h | h <;> simp [h]))) (by rw [Heap.size_push]; exact Nat.lt_succ_self _) st1 (up _ _ hz) hS fun h' tk acc c as hk hS' hl hG hacc => ?_⟩
  exact ⟨rfl, hQ h' tk acc c as (fun b o h2 e => hk b o (Nat.ne_of_lt (Heap.lt_size e)) h2 (up b o e)) hS' hl hG hacc⟩
end
section
variable {w : World} {A : Around} {E : Value → Shared → Prop} {c : Ctx} {V : List Cell} {s : Shared}
theorem zlt {N M b l1 l2 : Nat} (h : M = N + 5) (h1 : l1 < N) (h2 : l2 < N) (hb : b = N + 4 ∨ b = N + 2 ∨ b = N + 3 ∨ b = N ∨ b = N + 1 ∨ b = l1 ∨ b = l2) : b < M := by (first | lia | omega)
theorem znot {N b : Nat} (h : b < N) (hm : b = N + 4 ∨ b = N + 3 ∨ b = N ∨ b = N + 1) : False := by (first | lia | omega)
theorem zge {N M a : Nat} (h : M = N + 5) (ha : M ≤ a) : N ≤ a := by (first | lia | omega)
/-- a zip just made -/
noncomputable def FreshZip (w : World) (c : Ctx) (V : List Cell) (s : Shared) (z : Addr) (xs ys : List Value) : Prop :=
  ∃ (s0 : Shared) (h' : Heap) (l1 l2 : Addr), Sat w c V s0 ∧ s = { s0 with heap := h' } ∧ z = s0.heap.objs.size + 4 ∧ h'.objs.size = s0.heap.objs.size + 5 ∧ (∀ b o, s0.heap.get? b = some o → h'.get? b = some o) ∧ l1 < s0.heap.objs.size ∧ l2 < s0.heap.objs.size ∧
    IsZip h' (s0.heap.objs.size + 4) (s0.heap.objs.size + 2) (s0.heap.objs.size + 3) .none ∧ ∀ S, ZkSt h' S (s0.heap.objs.size + 4) (s0.heap.objs.size + 2) (s0.heap.objs.size + 3) s0.heap.objs.size (s0.heap.objs.size + 1) l1 l2 xs.toArray ys.toArray 0
theorem zipNew {l1 l2 : Addr} {xs ys : List Value} {Q : Value → Shared → Prop} (hS : Sat w c V s) (hl1 : c.I.IsList l1 xs.toArray) (hl2 : c.I.IsList l2 ys.toArray)
    (h : ∀ z s', Sat w c V s' → FreshZip w c V s' z xs ys → Q (.ref z) s') : wpAny (MM w) A (call (.type "zip") [.ref l1, .ref l2]) Q E s := by
  have hls1 := hS.isl hl1
  have hls2 := hS.isl hl2
  have hlt1 : l1 < s.heap.objs.size := let ⟨o, e, _⟩ := hls1; Heap.lt_size e
  have hlt2 : l2 < s.heap.objs.size := let ⟨o, e, _⟩ := hls2; Heap.lt_size e
  refine call_zip_2 hls1 hls2 fun h' hz hTI hTO hi1 hi2 hsz hk => ?_
  exact h _ _ (hS.heap hk) ⟨s, h', l1, l2, hS, rfl, rfl, hsz, hk, hlt1, hlt2, hz, fun S => ⟨.inl ⟨rfl, hz, _, _, hTO⟩, hTI, hi1, hi2, hls1.at fun o e => hk _ o e, hls2.at fun o e => hk _ o e⟩⟩
theorem listZip {z : Addr} {xs ys : List Value} {Q : Value → Shared → Prop} (hh : A.handled = none) (hF : FreshZip w c V s z xs ys) (hxy : xs.length = ys.length) (hn : xs.length ≤ 1000)
    (h : ∀ D c' s' (as : List Addr), c.Le c' → Sat w c' V s' → c'.I.PlainList D (as.map Value.ref).toArray → as.length = xs.length → (∀ (j : Nat) a, as[j]? = some a → ∃ x y, xs[j]? = some x ∧ ys[j]? = some y ∧ c'.I.IsTuple a [x, y].toArray) → Q (.ref D) s') : wpAny (MM w) A (call (.type "list") [.ref z]) Q E s := by
  obtain ⟨s0, h', l1, l2, hS, rfl, rfl, hsz, hk, hlt1, hlt2, hz, hst⟩ := hF
  refine zk_call hh (zipApart_new hlt1 hlt2) hxy hn (fun b hb => ?_) hst hz fun h'' tk acc k as hk2 hD hal hG hacc => ?_
  · show b < h'.objs.size
    simp only [List.mem_cons, List.not_mem_nil, or_false] at hb
    exact zlt hsz hlt1 hlt2 hb
  · dsimp only at hD hG hk2 ⊢
    have kp : ∀ b o, s0.heap.get? b = some o → h''.get? b = some o := fun b o e => by
      have hb := Heap.lt_size e
      refine hk2 b o (fun hm => ?_) (hk b o e)
      simp only [List.mem_cons, List.not_mem_nil, or_false] at hm
      exact znot hb hm
    have hS' : Sat w c V { s0 with heap := h'', toks := tk } := hS.ext kp
    obtain ⟨I', le, hS2, hI⟩ := hS'.fix
    have fresh : ∀ b o, s0.heap.objs.size ≤ b → h''.get? b = some o → I'.get? b = some o := fun b o hb e =>
      hI b o e (fun p hp q => Nat.lt_irrefl _ (Nat.lt_of_lt_of_le (q ▸ hS.lt hp) hb)) fun p hp q => Nat.lt_irrefl _ (Nat.lt_of_lt_of_le (q ▸ (hS.vd p hp).lt) hb)
    refine h _ (c.set I' c.D) _ as le hS2 ⟨k, ?_⟩ hal fun j a hj => ?_
    · have : (as.map Value.ref).toArray = acc := by rw [← hacc]
      rw [this]
      exact fresh _ _ (zge hsz (Nat.le_refl _)) hD
    · obtain ⟨x, y, e1, e2, e3⟩ := hG.pairs j a hj
      have := hG.above a (List.mem_of_getElem? hj)
      exact ⟨x, y, e1, e2, _, fresh _ _ (zge hsz (Nat.le_of_lt this)) e3, rfl, 0, rfl⟩
end
section
variable {w : World} {A : Around} {E : Value → Shared → Prop} {c : Ctx} {V V' : List Cell} {s : Shared} {env : Env} {p : Cell} {n : Nat}
theorem mulI {a b : Int} {t u : Tok} {Q : Value → Shared → Prop} (hS : Sat w c V s) (hb : decide (0 ≤ b ∧ b ≤ 1000) = true) (h : ∀ t s', Sat w c V s' → Q (.int (a * b) t) s') : wpAny (MM w) A (binaryOp .Mult (.int a t) (.int b u)) Q E s :=
  have hb := of_decide_eq_true hb
  PyProof.Rows.mul_int (h _ _ (hS.toks _)) (IntMulOk.of_right (PySem.intBits_le_64 (by omega) (by omega)))
theorem modI {a b : Int} {t u : Tok} {Q : Value → Shared → Prop} (hS : Sat w c V s) (hb : b ≠ 0) (h : ∀ t s', Sat w c V s' → Q (.int (a.fmod b) t) s') : wpAny (MM w) A (binaryOp .Mod (.int a t) (.int b u)) Q E s :=
  PyProof.Rows.mod_int' hb (h _ _ (hS.toks _))
theorem ifdivI {a : Int} {t u : Tok} {Q : Value → Shared → Prop} (hS : Sat w c V s) (h : ∀ t s', Sat w c V s' → Q (.int (a.fdiv 840) t) s') : wpAny (MM w) A (inplaceOp .FloorDiv (.int a t) (.int 840 u)) Q E s :=
  PyProof.Rows.ifloordiv_int (by decide) (h _ _ (hS.toks _)) (.inl (PyProof.noPylong_of_log2 (by decide +kernel)))
theorem absI {a : Int} {t : Tok} {Q : Value → Shared → Prop} (hS : Sat w c V s) (h : ∀ b t s', Sat w c V s' → Q (.int b t) s') : wpAny (MM w) A (call (.builtin "abs") [.int a t]) Q E s :=
  call_abs_int fun u tk => h _ u _ (hS.toks tk)
theorem intI {a : Int} {t : Tok} {Q : Value → Shared → Prop} (h : Q (.int a t) s) : wpAny (MM w) A (call (.type "int") [.int a t]) Q E s := call_int_int h
/-- a cell of a list that is never grown -/
theorem subC {value slice : Expr} {a : Addr} {xs : List Value} {i : Int} {t : Tok} {v : Value} {Q : Value → Shared → Prop} (hS : Sat w c V s) (hl : il a xs ∈ V) (h0 : decide (0 ≤ i ∧ i < 2 ^ 63) = true) (hx : xs[i.toNat]? = some v) (h : Q v s)
    (hs : subscripted slice false (.ref a) (.int i t) = operate [.ref a, .int i t] (getItem (.ref a) (.int i t)) := by with_unfolding_all rfl) : wpAny (MM w) A (subscriptTail value slice (.ref a) (.int i t)) Q E s :=
  have h0 := of_decide_eq_true h0
  subl (hS.il hl) h0.1 h0.2 hx h hs
theorem getC {a : Addr} {xs : List Value} {i : Int} {t : Tok} {v : Value} {Q : Value → Shared → Prop} (hS : Sat w c V s) (hl : il a xs ∈ V) (h0 : decide (0 ≤ i ∧ i < 2 ^ 63) = true) (hx : xs[i.toNat]? = some v) (h : Q v s) : wpAny (MM w) A (getItem (.ref a) (.int i t)) Q E s :=
  have h0 := of_decide_eq_true h0
  getl (hS.il hl) h0.1 h0.2 hx h
theorem setC {a : Addr} {xs : List Value} {i : Int} {t : Tok} {v : Value} {Q : Unit → Shared → Prop} (hS : Sat w c V s) (hi : decide (0 ≤ i ∧ i < xs.length ∧ i < 2 ^ 63) = true) (hr : Rep (Mine.il a xs) (Mine.il a (xs.set i.toNat v)) V V') (h : ∀ s', Sat w c V' s' → Q () s') : wpAny (MM w) A (setItem (.ref a) (.int i t) v) Q E s :=
  have hi := of_decide_eq_true hi
  setl hS hi.1 hi.2.1 hi.2.2 hr h
theorem Sat.weaken {p p' : Cell} (x : Sat w c (p :: V) s) (h : ∀ h, p.at h → p'.at h) (ha : p'.addr = p.addr) : Sat w c (p' :: V) s :=
  x.upd (t := s.toks) (fun _ _ _ e => e) ha (h _ (x.vol p (.head _)))
theorem Sat.toIl {a : Addr} {xs : List Value} (x : Sat w c (.ls a xs :: V) s) : Sat w c (Mine.il a xs :: V) s := x.weaken (fun h y => il_of (Heap.PlainList.isList y)) rfl
end
theorem atIfE {w : World} {A : Around} {a b d : Expr} {p : Pos} {env : Env} {Q : Value → Shared → Prop} {E : Value → Shared → Prop} {s : Shared} (h : wpAny (MM w) A (eval (.IfExp a b d p) env) Q E s) : wpAny (MM w) A (eval (.IfExp a b d p) env) Q E s := h
theorem mod_range {a : Int} {b : Nat} (hb : 0 < b) : ∃ i : Nat, a.fmod (b : Int) = (i : Int) ∧ i < b := by
  have h1 := Int.fmod_nonneg_of_pos a (show (0 : Int) < b by omega)
  have h2 := Int.fmod_lt_of_pos a (show (0 : Int) < b by omega)
  exact ⟨(a.fmod b).toNat, by omega, by omega⟩
/-- the pool -/
noncomputable def PoolOk (c : Ctx) (xs : List Value) : Prop := ∃ (fa : Addr) (figs : List Value) (k : Nat) (t : Tok) (mx : Int) (t2 : Tok), xs = [.ref fa, .int (k : Int) t, .int mx t2] ∧ c.I.PlainList fa figs.toArray ∧ figs.length ≤ 1000 ∧ ∀ v ∈ figs, ∃ i t, v = Value.int i t
theorem PoolOk.mono {c c' : Ctx} {xs : List Value} (x : PoolOk c xs) (l : c.Le c') : PoolOk c' xs := let ⟨a, f, k, t, m, t2, h1, h2, h3⟩ := x; ⟨a, f, k, t, m, t2, h1, Heap.PlainList.keeps h2 l.keep, h3⟩
/-! the plain law -/
inductive W0 (n : Nat) : T → Prop
  | name {s : Str} : PyData.strOk s = true → W0 n (.name s)
  | null : W0 n .null
  | miss : W0 n .miss
  | leaf {k : Str} {ds : List Atom} : PyData.strOk k = true → ds.length ≤ n → (∀ d ∈ ds, ∀ s, d = .str s → PyData.strOk s = true) → W0 n (.leaf k ds)
  | call {l : List (Tag × T)} : l.length ≤ n → (∀ p ∈ l, W0 n p.2) → (∀ p ∈ l, ∀ s, p.1 = some s → PyData.strOk s = true) → W0 n (.call l)
theorem Wide.w0 {n : Nat} {t : T} (h : Wide n t) : W0 n t := by
  induction h with
  | name h1 h2 => exact .name h1
  | null => exact .null
  | miss => exact .miss
  | leaf h1 h2 h3 => exact .leaf h1 h2 h3
  | call h1 h2 h3 h4 ih => exact .call h2 ih h4
theorem W0.le {n m : Nat} {t : T} (h : W0 n t) (l : n ≤ m) : W0 m t := by
  induction h with
  | name h1 => exact .name h1
  | null => exact .null
  | miss => exact .miss
  | leaf h1 h2 h3 => exact .leaf h1 (Nat.le_trans h2 l) h3
  | call h2 h3 h4 ih => exact .call (Nat.le_trans h2 l) ih h4
theorem lay_T0 {m : Nat} {t : T} (h : W0 m t) : t.toP.canLay0 = true := by
  induction h with
  | name h1 => simpa [T.toP, PyData.canLay0, PyData.canLayAll0] using ⟨(by kernel_rfl : PyData.strOk ("name" : Str) = true), h1⟩
  | null => rw [T.toP]; kernel_rfl
  | miss => rw [T.toP]; kernel_rfl
  | leaf h1 h2 h3 =>
    simp only [T.toP, PyData.canLay0, PyData.canLayAll0, Bool.and_true, Bool.and_eq_true]
    exact ⟨h1, canLayAll_of fun x hx => by obtain ⟨d, hd, rfl⟩ := List.mem_map.mp hx; exact lay_atom (h3 d hd)⟩
  | call h2 _ h4 ih =>
    rw [toP_call]
    simp only [PyData.canLay0, PyData.canLayAll0, Bool.and_true, Bool.and_eq_true]
    exact ⟨by kernel_rfl, canLayAll_of fun x hx => by obtain ⟨d, hd, rfl⟩ := List.mem_map.mp hx; exact ih d hd, canLayAll_of fun x hx => by obtain ⟨d, hd, rfl⟩ := List.mem_map.mp hx; exact lay_tag (h4 d hd)⟩
theorem shaped_T0 {m : Nat} {t : T} (h : W0 m t) (hd : deep t ≤ 20) : SeqAt.shaped t.toP = true := by
  have := dep_T t
  simp only [SeqAt.shaped, Bool.and_eq_true, decide_eq_true_eq]
  exact ⟨lay_T0 h, by (first | lia | omega)⟩
theorem deep_le {l : List (Tag × T)} {n : Nat} (h : ∀ p ∈ l, deep p.2 ≤ n) : deep (.call l) ≤ 1 + n := by
  rw [deep_call]
  have : (l.map fun p => deep p.2).foldr max 0 ≤ n := by
    induction l with
    | nil => exact Nat.zero_le _
    | cons p r ih =>
      have a := h p (.head _)
      have b := ih fun q hq => h q (.tail _ hq)
      simp only [List.map_cons, List.foldr_cons]; (first | lia | omega)
  (first | lia | omega)
theorem put_name' {tab : Tab} {x : Str} : put tab (.name x) = if x = dots then .name x else (tab.kvs.lookup x).getD (.name x) := by rw [put]
theorem putl_mem {tab : Tab} {l : List (Tag × T)} {q : Tag × T} (h : q ∈ putl tab l) : (∃ r, tab.rows = some r ∧ q ∈ r) ∨ ∃ p ∈ l, q = (p.1, put tab p.2) := by
  unfold putl at h
  obtain ⟨p, hp, hq⟩ := List.mem_flatMap.mp h
  split at hq
  · rename_i r _ e; exact .inl ⟨r, e, hq⟩
  · exact .inr ⟨p, hp, List.mem_singleton.mp hq⟩
theorem put_w0 {tab : Tab} {t : T} (ht : W0 4 t) (hk : ∀ x u, tab.kvs.lookup x = some u → W0 200 u ∧ deep u ≤ 1)
    (hr : ∀ r, tab.rows = some r → r.length ≤ 50 ∧ ∀ p ∈ r, W0 200 p.2 ∧ deep p.2 ≤ 1 ∧ ∀ s, p.1 = some s → PyData.strOk s = true) : W0 200 (put tab t) ∧ deep (put tab t) ≤ deep t + 1 := by
  induction ht with
  | @name s h1 =>
    rw [put_name']
    by_cases q : s = dots
    · rw [if_pos q]; exact ⟨.name h1, by simp [deep]⟩
    · rw [if_neg q]
      cases e : tab.kvs.lookup s with
      | none => exact ⟨.name h1, by simp [deep]⟩
      | some u =>
        have := hk s u e
        exact ⟨this.1, Nat.le_trans this.2 (Nat.le_add_left _ _)⟩
  | null => rw [put]; exact ⟨.null, Nat.le_succ _⟩; all_goals simp
  | miss => rw [put]; exact ⟨.miss, Nat.le_succ _⟩; all_goals simp
  | leaf h1 h2 h3 => rw [put]; exact ⟨.leaf h1 (Nat.le_trans h2 (by decide)) h3, Nat.le_succ _⟩; all_goals simp
  | @call l h2 h3 h4 ih =>
    rw [put_calll]
    have hlen := putl_len (tab := tab) (fun r h => (hr r h).1) l
    refine ⟨.call (by (first | lia | omega)) (fun q hq => ?_) (fun q hq => ?_), ?_⟩
    · rcases putl_mem hq with ⟨r, e, hq⟩ | ⟨p, hp, rfl⟩
      · exact ((hr r e).2 q hq).1
      · exact (ih p hp).1
    · rcases putl_mem hq with ⟨r, e, hq⟩ | ⟨p, hp, rfl⟩
      · exact ((hr r e).2 q hq).2.2
      · exact h4 p hp
    · have h5 : 1 ≤ deep (.call l) := by rw [deep_call]; (first | lia | omega)
      have := deep_le (l := putl tab l) (n := deep (.call l)) fun q hq => by
        rcases putl_mem hq with ⟨r, e, hq⟩ | ⟨p, hp, rfl⟩
        · exact Nat.le_trans ((hr r e).2 q hq).2.1 h5
        · exact Nat.le_trans (ih p hp).2 (deep_mem hp)
      (first | lia | omega)
theorem names_ok {m : Nat} {b : Bool} {t : T} (h : Wide m t) : ∀ x ∈ names b t, PyData.strOk x = true := by
  induction h with
  | name h1 h2 => intro x hx; simp [names] at hx; subst hx; exact h1
  | null => intro x hx; simp [names] at hx
  | miss => intro x hx; simp [names] at hx
  | leaf h1 h2 h3 => intro x hx; simp [names] at hx
  | @call l h1 h2 h3 h4 ih =>
    intro x hx
    cases l with
    | nil => simp [names] at hx
    | cons p r =>
      rw [names_call] at hx
      rcases List.mem_append.mp hx with hx | hx
      · split at hx
        · exact ih p (.head _) x hx
        · cases hx
      · obtain ⟨q, hq, hx⟩ := List.mem_flatMap.mp hx
        exact ih q (.tail _ hq) x hx
theorem shaped_strs {l : List Str} (h : ∀ x ∈ l, PyData.strOk x = true) : SeqAt.shaped (.list (l.map .str)) = true := by
  have h1 : PyData.canLayAll0 (l.map .str) = true := canLayAll_of fun x hx => by
    obtain ⟨y, hy, rfl⟩ := List.mem_map.mp hx
    simpa [PyData.canLay0] using h y hy
  have h2 := depthAll_of (xs := l.map PyData.str) (n := 0) fun x hx => by obtain ⟨d, _, rfl⟩ := List.mem_map.mp hx; simp [PyData.depth]
  have h3 : (PyData.list (l.map .str)).depth ≤ 3 := by simp only [PyData.depth]; (first | lia | omega)
  simp only [SeqAt.shaped, Bool.and_eq_true, decide_eq_true_eq]
  exact ⟨by simpa only [PyData.canLay0] using h1, by (first | lia | omega)⟩
theorem plain_strs (l : List Str) : plainP (.list (l.map .str)) = true := plainPs_of fun x hx => by obtain ⟨d, _, rfl⟩ := List.mem_map.mp hx; rfl
theorem eqv_self {d : PyData} (h : plainP d = true) : PyData.eqv d d = true := (eqv_iff d d h h).mpr rfl

/-! tables -/
inductive Par (P : T → Value → Prop) : List (Str × Value) → List (Str × T) → Prop
  | nil : Par P [] []
  | cons {x : Str} {v : Value} {t : T} {kvs : List (Str × Value)} {tk : List (Str × T)} : P t v → Par P kvs tk → Par P ((x, v) :: kvs) ((x, t) :: tk)
theorem Par.mono {P Q : T → Value → Prop} (h : ∀ t v, P t v → Q t v) {kvs : List (Str × Value)} {tk : List (Str × T)} (x : Par P kvs tk) : Par Q kvs tk := by
  induction x with
  | nil => exact .nil
  | cons a _ ih => exact .cons (h _ _ a) ih
theorem Par.len {P : T → Value → Prop} {kvs : List (Str × Value)} {tk : List (Str × T)} (x : Par P kvs tk) : kvs.length = tk.length := by
  induction x with
  | nil => rfl
  | cons a _ ih => simp [ih]
theorem Par.app {P : T → Value → Prop} {kvs : List (Str × Value)} {tk : List (Str × T)} (x : Par P kvs tk) {y : Str} {v : Value} {t : T} (h : P t v) : Par P (kvs ++ [(y, v)]) (tk ++ [(y, t)]) := by
  induction x with
  | nil => exact .cons h .nil
  | cons a _ ih => exact .cons a ih
theorem valueAt_cons {x y : Str} {v : Value} {kvs : List (Str × Value)} : valueAt ((x, v) :: kvs) y = if x = y then some v else valueAt kvs y := by
  unfold valueAt
  rw [List.find?_cons]
  by_cases q : x = y
  · simp [q]
  · simp [q]
theorem Par.none {P : T → Value → Prop} {kvs : List (Str × Value)} {tk : List (Str × T)} (x : Par P kvs tk) {y : Str} (h : tk.lookup y = none) : valueAt kvs y = none := by
  induction x with
  | nil => rfl
  | @cons x v t kvs tk a _ ih =>
    rw [valueAt_cons]
    rw [List.lookup_cons] at h
    by_cases q : x = y
    · subst q; simp at h
    · have q' : (y == x) = false := by simpa using fun e => q e.symm
      rw [q'] at h
      rw [if_neg q]; exact ih h
theorem Par.some {P : T → Value → Prop} {kvs : List (Str × Value)} {tk : List (Str × T)} (x : Par P kvs tk) {y : Str} {t : T} (h : tk.lookup y = some t) : ∃ v, valueAt kvs y = some v ∧ P t v := by
  induction x with
  | nil => cases h
  | @cons x v u kvs tk a _ ih =>
    rw [valueAt_cons]
    rw [List.lookup_cons] at h
    by_cases q : x = y
    · subst q
      simp at h
      subst h
      exact ⟨v, if_pos rfl, a⟩
    · have q' : (y == x) = false := by simpa using fun e => q e.symm
      rw [q'] at h
      rw [if_neg q]; exact ih h
theorem lookup_none {tk : List (Str × T)} {y : Str} (h : ∀ p ∈ tk, p.1 ≠ y) : tk.lookup y = none := by
  induction tk with
  | nil => rfl
  | cons p r ih =>
    obtain ⟨k, v⟩ := p
    rw [List.lookup_cons]
    have q : (y == k) = false := by simpa using fun e => h (k, v) (.head _) e.symm
    rw [q]; exact ih fun z hz => h z (.tail _ hz)
theorem lookup_mem {tk : List (Str × T)} {y : Str} {t : T} (h : tk.lookup y = some t) : (y, t) ∈ tk := by
  induction tk with
  | nil => cases h
  | cons p r ih =>
    obtain ⟨k, v⟩ := p
    rw [List.lookup_cons] at h
    by_cases q : y = k
    · subst q; simp at h; subst h; exact .head _
    · have q' : (y == k) = false := by simpa using q
      rw [q'] at h; exact .tail _ (ih h)
theorem Par.get {P : T → Value → Prop} {kvs : List (Str × Value)} {tk : List (Str × T)} (x : Par P kvs tk) {i : Nat} {q : Str × Value} (h : kvs[i]? = Option.some q) : ∃ t, tk[i]? = Option.some (q.1, t) ∧ P t q.2 := by
  induction x generalizing i with
  | nil => cases h
  | @cons x v u kvs tk a _ ih =>
    cases i with
    | zero => simp at h; subst h; exact ⟨u, rfl, a⟩
    | succ i => simpa using ih (i := i) (by simpa using h)
section
variable {w : World} {A : Around} {E : Value → Shared → Prop} {c : Ctx} {V V' : List Cell} {s : Shared} {env : Env} {p : Cell} {n : Nat}
theorem iter_dict (hh : A.handled = none) {I d : Addr} (hne : d ≠ I) (kvs : List (Str × Value)) (ep : Nat) : Iter w A I [I, d] [I] kvs.length (fun i v => ∃ k x t, kvs[i]? = some (k, x) ∧ v = .str k t) (fun i h => h.IsKeyIter I d i kvs.length ep ∧ h.DictAt (SK w) d kvs ep) where
  W := by
    have W := Walks.dictKeys (prog := PySem.Challenge.pw_no0503_01) (w := w) (knd := SK w) hh I d hne kvs ep
    exact ⟨W.sub, W.frame, fun i s Q E hi hs hQ => W.item i s Q E hi hs (fun v h' tk hv => hQ v h' tk (by
      obtain ⟨k, x, h1, h2⟩ := hv
      obtain ⟨t, rfl⟩ := Value.isStrOf_shape h2
      exact ⟨k, x, t, h1, rfl⟩)), W.done, W.self⟩
  has := fun i h st b hb => by rw [List.mem_singleton.mp hb]; obtain ⟨⟨o, e, _⟩, _⟩ := st; exact ⟨o, e⟩
/-- a for over a dict's keys -/
theorem for_dict {d : Addr} {kvs : List (Str × Value)} {x : Str} {px : Pos} {body : List Stmt} {Q : Flow → Shared → Prop} {nm : List Str} {vs : List (Option Value)} (U R : List Cell)
    (J : Nat → Ctx → List (Option Value) → List Cell → Prop) (hh : A.handled = none) (hd : (dc w d kvs).at c.I)
    (hS : Sat w c (.ns env.locals (fm nm vs) :: (U ++ R)) s) (hJ : J 0 c vs U)
    (turn : ∀ i k y t c' vs' U' R' s', kvs[i]? = some (k, y) → c.Le c' → J i c' vs' U' → R.Sublist R' → Sat w c' (.ns env.locals (fm nm vs') :: (U' ++ R')) s' →
      wpAny (MM w) A (assign (.Name x px) env (.str k t)) (fun _ s₂ => wpAny (MM w) A (execs body env) (fun f s₃ => match f with
        | .brk => ∃ c'' vs'' U'', c'.Le c'' ∧ Sat w c'' (.ns env.locals (fm nm vs'') :: (U'' ++ R')) s₃ ∧ (∀ s₄, Sat w c'' (.ns env.locals (fm nm vs'') :: (U'' ++ R)) s₄ → Q .next s₄)
        | .ret v => Q (.ret v) s₃
        | _ => ∃ c'' vs'' U'', c'.Le c'' ∧ J (i + 1) c'' vs'' U'' ∧ Sat w c'' (.ns env.locals (fm nm vs'') :: (U'' ++ R')) s₃) (fun _ _ => False) s₂) (fun _ _ => False) s')
    (done : ∀ c' vs' U' s', c.Le c' → J kvs.length c' vs' U' → Sat w c' (.ns env.locals (fm nm vs') :: (U' ++ R)) s' → Q .next s') :
    wpAny (MM w) A (pyIter (.ref d)) (fun it s₂ => codeAny (MM w) A (.forLoop (.Name x px) it body [] env) (fun r s' => match r with | .ok f => Q f s' | .error e => cameBackBy (MM w) A env E e s') s₂) E s := by
  have hds := hS.dict (.imm hd)
  obtain ⟨ep, hat⟩ := hds.1.dictAt
  have hlt : d < s.heap.objs.size := hat.lt_size
  have hne : d ≠ s.heap.objs.size := Nat.ne_of_lt hlt
  refine wpAny_pyIter_dict hds.2 hat ?_
  have hS2 : Sat w c (.ns env.locals (fm nm vs) :: (U ++ ([(s.heap.objs.size, ({ cls := .type "dict_keyiterator", data := .fields #[.ref d, .int 0 0, .int kvs.length 0, .int ep 0] } : Obj))].map oc ++ R))) { s with heap := s.heap.push { cls := .type "dict_keyiterator", data := .fields #[.ref d, .int 0 0, .int kvs.length 0, .int ep 0] } } := by
    have y := hS.new (p := oc (s.heap.objs.size, ({ cls := .type "dict_keyiterator", data := .fields #[.ref d, .int 0 0, .int kvs.length 0, .int ep 0] } : Obj))) (t := s.toks) (h' := s.heap.push { cls := .type "dict_keyiterator", data := .fields #[.ref d, .int 0 0, .int kvs.length 0, .int ep 0] }) (fun _ _ e => Heap.get?_push_of_some _ e) (Nat.le_refl _) ⟨_, Heap.get?_push_size _ rfl, rfl⟩
    exact y.perm perm_in
  refine codeAny_mono (for_walk J (iter_dict hh hne kvs ep) ?_ rfl ?_ hS2 ?_ hJ (fun i v c' vs' U' R' s' hi l1 hv => ?_) done) (fun r s' h => ?_)
  · intro b hb
    rcases List.mem_cons.mp hb with rfl | hb
    · exact .inl (.head _)
    · rw [List.mem_singleton.mp hb]
      obtain ⟨o, e, _⟩ := hd
      exact .inr ⟨o, e⟩
  · intro i s' v Q' E' _ _ q
    exact wpAny_pure q
  · exact ⟨⟨_, Heap.get?_push_size _ rfl, rfl, rfl⟩, hat.push _⟩
  · obtain ⟨k, y, t, h1, rfl⟩ := hv
    exact turn i k y t c' vs' U' R' s' h1 l1
  · cases r with
    | ok f => exact h
    | error e => exact h.elim

/-- a cell is stored, once -/
theorem stc {f : Addr} {cs : List (Str × Addr)} {x : Str} {a : Addr} {v : Value} {v0 : Option Value} {Q : Unit → Shared → Prop} (hS : Sat w c V s) (hC : CEnv w f env cs) (hk : (fdAt w f).scope.kind = .function) (hx : (fdAt w f).scope.names.lookup x = some .cell) (hl : cs.lookup x = some a) (hr : Out (cl a v0) V V')
    (h : ∀ c' s', c.Le c' → Sat w c' V' s' → c'.I.IsCell a (some v) → Q () s') : wpAny (MM w) A (storeName env x v) Q E s := by
  have y := hS.perm hr.perm
  refine wpAny_storeName_cell (v₀ := v0) (by rw [hC.scope]; exact hk) (by unfold Env.kindOf; rw [hC.scope]; exact hx) (by rw [hC.cells]; exact hl) (y.vol _ (.head _)) fun h' hc hs => ?_
  have z := y.upd (p' := cl a (some v)) (t := s.toks) (fun b o hb e => hs.extBut b o hb e) rfl (cl_at hc)
  obtain ⟨c', le, z2, hz⟩ := z.freeze .head
  exact h c' _ le z2 hz
theorem CelsAt.cons {f : Addr} {cs : List (Str × Addr)} {L : List (Str × Value)} {x : Str} {a : Addr} {v : Value} (hK : CelsAt c env L) (hC : CEnv w f env cs) (hx : (fdAt w f).scope.names.lookup x = some .cell) (hl : cs.lookup x = some a) (hv : c.I.IsCell a (some v)) (hd : (x == ("__debug__" : Str)) = false) : CelsAt c env ((x, v) :: L) :=
  ⟨fun p hp => by
    rcases List.mem_cons.mp hp with rfl | hp
    · exact ⟨by unfold Env.kindOf; rw [hC.scope]; exact hx, hd, a, by rw [hC.cells]; exact hl, hv⟩
    · exact hK.h p hp⟩
theorem neB {a b : Bool} {Q : Value → Shared → Prop} (h : Q (.bool (a != b)) s) : wpAny (MM w) A (compareOp .NotEq (.bool a) (.bool b)) Q E s := PyProof.Rows.ne_bool h
end
noncomputable def Lift {α : Type} (Q K : α → Shared → Prop) : Prop := ∀ x s, Q x s → K x s
theorem Lift.go {α : Type} {Q K : α → Shared → Prop} (h : Lift Q K) {x : α} {s : Shared} (q : Q x s) : K x s := h x s q
theorem wpAny_gen {α : Type} {M : Model} {A : Around} {c : Sem α} {Q : α → Shared → Prop} {E : Value → Shared → Prop} {s : Shared} (h : ∀ K : α → Shared → Prop, Lift Q K → wpAny M A c K E s) : wpAny M A c Q E s := h Q fun _ _ q => q
theorem cons_gen {M : Model} {A : Around} {st : Stmt} {rest : List Stmt} {env : Env} {Q : Flow → Shared → Prop} {E : Value → Shared → Prop} {s : Shared}
    (h : ∀ K : Flow → Shared → Prop, Lift (fun f s' => match f with | .next => wpAny M A (execs rest env) Q E s' | f => Q f s') K → wpAny M A (exec st env) K E s) : wpAny M A (execs (st :: rest) env) Q E s := wpAny_execs_cons (wpAny_gen h)
theorem len1k {α : Type} {n : List α} {P : Prop} (h : n.length = 1) (k : ∀ a, n = [a] → P) : P := by
  obtain ⟨a, rfl⟩ := List.length_eq_one_iff.mp h; exact k _ rfl
theorem len2k {α : Type} {n : List α} {P : Prop} (h : n.length = 2) (k : ∀ a b, n = [a, b] → P) : P := by
  match n, h with
  | [a, b], _ => exact k _ _ rfl
theorem namek {t : T} {P : Prop} (h : isName t = true) (k : ∀ x, t = .name x → P) : P := by
  cases t with
  | name x => exact k x rfl
  | _ => cases h
theorem callk {t : T} {P : Prop} (h : isCall t = true) (k : ∀ l, t = .call l → P) : P := by
  cases t with
  | call l => exact k l rfl
  | _ => cases h
local macro_rules | `(tactic| row_hasAny m_lk) => `(tactic| with_reducible (first
  | exact LookF.head | exact LookG.head | exact SetF.head | exact Rep.head | exact Out.head | exact List.mem_cons_self
  | (refine' LookF.tail ?k9; (case k9 => row_hasAny m_lk)) | (refine' LookG.tail ?k9; (case k9 => row_hasAny m_lk)) | (refine' SetF.tail ?k9; (case k9 => row_hasAny m_lk)) | (refine' Rep.tail ?k9; (case k9 => row_hasAny m_lk)) | (refine' Out.tail ?k9; (case k9 => row_hasAny m_lk)) | (refine' List.mem_cons_of_mem _ ?k9; (case k9 => row_hasAny m_lk))))
local macro_rules | `(tactic| row_hasAny m_open) => `(tactic| refine cons_gen fun _ _ => ?_)
local macro_rules | `(tactic| row_hasAny m_g_execs) => `(tactic| ((with_reducible show wpAny _ _ (execs _ _) _ _ _); first
  | with_reducible refine cons_gen fun _ _ => ?_
  | with_reducible refine wpAny_execs_nil ?_))
local macro_rules | `(tactic| row_hasAny m_k) => `(tactic| with_reducible refine wpAny_gen fun _ _ => ?_)
local macro_rules | `(tactic| row_hasAny m_out) => `(tactic| with_reducible refine Lift.go (by assumption) ?_)
local macro_rules | `(tactic| row_hasAny m_g_exec) => `(tactic| ((with_reducible show wpAny _ _ (exec _ _) _ _ _); first
  | (with_reducible refine wpAny_If ?_)
  | (with_reducible refine wpAny_Return_some ?_)
  | (with_reducible refine wpAny_Assign_Name ?_ ?_; rotate_left; with_unfolding_all rfl)
  | (with_reducible refine plainObj_wpAny_Assign_Attribute ?_ ?_; rotate_left; with_unfolding_all rfl)
  | (with_reducible refine wpAny_Assign_Subscript ?_ ?_; rotate_left; with_unfolding_all rfl)
  | (with_reducible refine wpAny_AugAssign_Name ?_)
  | (with_reducible refine wpAny_AugAssign_SubscriptAny ?_ ?_; rotate_left; (with_unfolding_all (intros; rfl)))
  | (rename FrOk _ _ _ _ => hE; with_reducible refine expr_ hE ?_ ?_; rotate_left; (with_unfolding_all rfl))
  | (with_reducible refine wpAny_For ?_ ?_; rotate_left; (with_unfolding_all (intro _; rfl)))
  | (with_reducible refine wpAny_Break ?_)
  | (with_reducible refine wpAny_Return_none ?_)))
local macro_rules | `(tactic| row_hasAny m_g_eval) => `(tactic| ((with_reducible show wpAny _ _ (eval _ _) _ _ _); (rename Sat _ _ _ _ => hS; rename FrOk _ _ _ _ => hE); first
  | (with_reducible refine' ld hE hS ?k1 ?_; (case k1 => row_hasAny m_lk))
  | (with_reducible refine' ldg hE hS ?k1 ?_; (case k1 => row_hasAny m_lk))
  | (rename CelsAt _ _ _ => hK; with_reducible refine' ldx hE hS hK ?k1 ?_; (case k1 => row_hasAny m_lk))
  | (with_reducible refine csts hS ?_; clear hS; intro t s hS)
  | (with_reducible refine csti hS ?_; clear hS; intro t s hS)
  | (with_reducible refine wpAny_Constant_none ?_) | (with_reducible refine wpAny_Constant_bool ?_)
  | (with_reducible refine Attribute_any_ ?_ ?_; rotate_left; with_unfolding_all rfl)
  | (with_reducible refine slice_ ?_ ?_; rotate_left; (with_unfolding_all (intros; rfl)))
  | (with_reducible refine Subscript_ ?_)
  | (with_reducible refine' MethodCall_ ?_ ?k2; (case k2 => with_unfolding_all rfl))
  | (with_reducible refine Call_ ?_ ?_; rotate_left; with_unfolding_all rfl)
  | (with_reducible refine wpAny_Compare1 ?_ ?_; rotate_left; with_unfolding_all rfl)
  | (with_reducible refine wpAny_And2 ?_) | (with_reducible refine wpAny_Or2 ?_)
  | (with_reducible refine wpAny_BinOp ?_)
  | (with_reducible refine wpAny_IfExp ?_)
  | (with_reducible refine Tuple_ ?_) | (with_reducible refine List_ ?_)
  | (with_reducible refine wpAny_UnaryOp ?_)))
local macro_rules | `(tactic| row_hasAny m_g_test) => `(tactic| first
  | (with_reducible refine wpAny_isTrue_Compare1 ?_ ?_; rotate_left; with_unfolding_all rfl)
  | (with_reducible refine wpAny_isTrue_BoolOp ?_)
  | (with_reducible refine wpAny_isTrue_Not ?_)
  | (with_reducible refine wpAny_isTrue_value ?_ ?_; rotate_left; with_unfolding_all rfl)
  | (with_reducible refine wpAny_allTrue_And_cons ?_) | (with_reducible refine wpAny_allTrue_And_nil ?_)
  | (with_reducible refine wpAny_allTrue_Or_cons ?_) | (with_reducible refine wpAny_allTrue_Or_nil ?_)
  | (with_reducible refine wpAny_truthy_bool ?_)
  | (with_reducible refine itt ?_) | (with_reducible refine iff_ ?_))
local macro_rules | `(tactic| row_hasAny m_g_call) => `(tactic| first
  | (with_reducible refine PyProof.Rows.args_cons ?_ ?_; rotate_left; with_unfolding_all rfl)
  | (with_reducible refine PyProof.Rows.args_nil ?_)
  | (with_reducible refine evalPart_none_step ?_) | (with_reducible refine evalPart_some_step ?_)
  | (with_reducible refine cwf ?_ ?_ ?_ ?_; (kernel_rfl); rotate_left; (with_unfolding_all rfl); (with_unfolding_all rfl))
  | (rename Sat _ _ _ _ => hS; with_reducible refine And.intro (Exists.intro _ (Exists.intro _ hS)) ?_)
  | (with_reducible refine Calls.callWith_builtin1 ?_ ?_ ?_; rotate_left; (with_unfolding_all rfl); (with_unfolding_all rfl))
  | (with_reducible refine PyProof.Rows.callWith_builtin1 ?_ ?_ ?_; rotate_left; (with_unfolding_all rfl); (with_unfolding_all rfl))
  | (with_reducible refine PyProof.Rows.callWith_type1 ?_ ?_ ?_; rotate_left; (with_unfolding_all rfl); (with_unfolding_all rfl))
  | (with_reducible refine PyProof.Rows.callWith_method1 ?_ ?_ ?_; rotate_left; (with_unfolding_all rfl); (with_unfolding_all rfl)))
local macro_rules | `(tactic| row_hasAny m_g_mem) => `(tactic| (rename Sat _ _ _ _ => hS; first
  | (with_reducible refine' ga hS ?k0 ?k1 ?_; (case k0 => assumption); (case k1 => row_hasAny m_lk); clear hS; intro s hS)
  | (with_reducible refine' gaV hS ?k0 ?k1 ?_; (case k0 => assumption); (case k1 => row_hasAny m_lk); clear hS; intro s hS)
  | (with_reducible refine' gmAppend hS ?k0 ?_; (case k0 => row_hasAny m_lk))
  | (rename FrOk _ _ _ _ => hE; with_reducible refine' st hE hS ?k1 ?_; (case k1 => row_hasAny m_lk); clear hS; intro s hS)
  | (rename FrOk _ _ _ _ => hE; with_reducible refine' asgn hE hS ?k1 ?_; (case k1 => row_hasAny m_lk); clear hS; intro s hS)
  | (rename FrOk _ _ _ _ => hE; with_reducible refine' ldn hE hS ?k1 ?_; (case k1 => row_hasAny m_lk))))
local macro_rules | `(tactic| row_hasAny m_g_cmp) => `(tactic| first
  | (with_reducible refine eqs_t rfl ?_) | (with_reducible refine nes_f rfl ?_) | (with_reducible refine nes_t ?_ ?_; (first | assumption | decide)) | (with_reducible refine' eqs_f ?k1 ?_; (case k1 => first | (with_reducible exact LeafK.h2 (by assumption)) | (with_reducible exact LeafK.h1 (by assumption)) | (with_reducible exact LeafK.h3 (by assumption)) | (with_reducible exact LeafK.h4 (by assumption)) | (with_reducible exact LeafK.h5 (by assumption)) | (with_reducible exact LeafK.h6 (by assumption)) | (with_reducible exact LeafK.h7 (by assumption)) | (with_reducible exact LeafK.h8 (by assumption)) | (with_reducible exact LeafK.h9 (by assumption)) | decide))
  | (with_reducible refine is_none ?_) | (with_reducible refine isNot_none ?_))
local macro_rules | `(tactic| row_hasAny m_one) => `(tactic| first | row_hasAny m_out | row_hasAny m_g_execs | row_hasAny m_g_eval | row_hasAny m_g_exec | row_hasAny m_g_test | row_hasAny m_g_call | row_hasAny m_g_mem | row_hasAny m_g_cmp)
local macro_rules | `(tactic| row_hasAny m_go) => `(tactic| repeat (row_hasAny m_one))
local macro_rules | `(tactic| row_hasAny m_goI) => `(tactic| repeat ((fail_if_success (with_reducible refine atIf ?_)); row_hasAny m_one))
local macro_rules | `(tactic| row_hasAny m_goF) => `(tactic| repeat ((fail_if_success (with_reducible refine atFor ?_)); row_hasAny m_one))
local macro_rules | `(tactic| row_hasAny m_kind) => `(tactic| (rename Sat _ _ _ _ => hS; first
  | (with_reducible refine' gk hS ?k0 ?_; (case k0 => assumption); clear hS; intro _ s hS)
  | (with_reducible refine' subT hS ?k0 ?k1 ?k2 ?_ ?k3; (case k0 => assumption); (case k2 => with_unfolding_all rfl); (case k1 => with_unfolding_all decide); (case k3 => with_unfolding_all rfl))
  | (with_reducible refine' lk0 hS ?k0 ?_ ?k2; (case k0 => assumption); intro _; (case k2 => with_unfolding_all rfl))
  | (with_reducible refine' subI hS ?k0 ?k1 ?k2 ?_ ?k3; (case k0 => assumption); (case k2 => with_unfolding_all rfl); (case k1 => with_unfolding_all decide); (case k3 => with_unfolding_all rfl))
  | (with_reducible refine' subC hS ?k0 ?k1 ?k2 ?_ ?k3; (case k0 => row_hasAny m_lk); (case k2 => with_unfolding_all rfl); (case k1 => with_unfolding_all decide); (case k3 => with_unfolding_all rfl))
  | (with_reducible refine' getC hS ?k0 ?k1 ?k2 ?_; (case k0 => row_hasAny m_lk); (case k2 => with_unfolding_all rfl); (case k1 => with_unfolding_all decide))
  | (with_reducible refine' setC hS ?k0 ?k1 ?_; (case k1 => row_hasAny m_lk); (case k0 => with_unfolding_all rfl); clear hS; intro s hS)
  | (with_reducible refine' mulI hS ?k0 ?_; (case k0 => with_unfolding_all decide); clear hS; intro _ s hS)
  | (with_reducible refine' modI hS ?k0 ?_; (case k0 => with_unfolding_all decide); clear hS; intro _ s hS)
  | (with_reducible refine ifdivI hS ?_; clear hS; intro _ s hS)
  | (with_reducible refine absI hS ?_; clear hS; intro _ _ s hS) | (with_reducible refine intI ?_)
  | (with_reducible refine' sub0 hS ?k0 ?_ ?k2; (case k0 => assumption); (case k2 => with_unfolding_all rfl))
  | (with_reducible refine' subN hS ?k0 ?k1 ?k2 ?_ ?k3; (case k0 => assumption); (case k1 => assumption); (case k3 => with_unfolding_all rfl); (case k2 => first | assumption | lia | omega | (with_unfolding_all exact Nat.le_of_ble_eq_true rfl)))
  | (with_reducible refine' subL hS ?k0 ?k1 ?k2 ?_ ?k3; (case k0 => assumption); (case k1 => assumption); (case k3 => with_unfolding_all rfl); (case k2 => first | assumption | lia | omega | (with_unfolding_all exact Nat.le_of_ble_eq_true rfl)))
  | (rename FrOk _ _ _ _ => hE; with_reducible refine' asgn2 ?k9 hE hS ?k0 ?k1 ?k2 ?_; (case k0 => assumption); (case k1 => row_hasAny m_lk); (case k2 => row_hasAny m_lk); (case k9 => exact Room.h (by assumption)); clear hS; intro s hS)
  | (with_reducible refine addI hS ?_; clear hS; intro _ s hS) | (with_reducible refine iaddI hS ?_; clear hS; intro _ s hS) | (with_reducible refine isubI hS ?_; clear hS; intro _ s hS)
  | (with_reducible refine eqI ?_) | (with_reducible refine neI ?_) | (with_reducible refine ltI ?_) | (with_reducible refine gtI ?_)
  | (with_reducible refine' eqL_call ?k0 ?k1 ?_; (case k0 => assumption); (case k1 => first | assumption | rfl))
  | (with_reducible refine' eqL_name ?k0 ?k1 ?_; (case k0 => assumption); (case k1 => first | assumption | rfl))
  | (with_reducible refine' neL_call ?k0 ?k1 ?_; (case k0 => assumption); (case k1 => first | assumption | rfl))
  | (with_reducible refine' neL_name ?k0 ?k1 ?_; (case k0 => assumption); (case k1 => first | assumption | rfl))
  | (with_reducible refine' eqk_sym ?k0 ?k1 ?_; (case k0 => assumption); (case k1 => first | assumption | rfl))
  | (with_reducible refine' eqk_lang ?k0 ?k1 ?_; (case k0 => assumption); (case k1 => first | assumption | rfl))
  | (with_reducible refine' nek_sym ?k0 ?k1 ?_; (case k0 => assumption); (case k1 => first | assumption | rfl))
  | (with_reducible refine' nek_lang ?k0 ?k1 ?_; (case k0 => assumption); (case k1 => first | assumption | rfl))
  | (refine iff_ ?_) | (refine itt ?_)))
local macro_rules | `(tactic| row_hasAny m_goK) => `(tactic| repeat ((fail_if_success (with_reducible refine atCut ?_)); first | row_hasAny m_one | row_hasAny m_kind))
local macro_rules | `(tactic| row_hasAny m_sa) => `(tactic| (rename Sat _ _ _ _ => hS; (with_reducible refine' saF hS ?k0 ?k1 ?k2 ?k3 ?k4 ?_); (case k0 => row_hasAny m_lk); (case k1 => row_hasAny m_lk); (case k2 => row_hasAny m_lk); (case k3 => first | exact clsNull _ | exact clsMiss _ | exact clsSym _ | exact clsCall _ | exact clsVecS _); (case k4 => decide); clear hS; intro s hS))
local macro_rules | `(tactic| row_hasAny m_goC) => `(tactic| repeat (first | row_hasAny m_one | row_hasAny m_sa))
local macro_rules | `(tactic| row_hasAny m_goT) => `(tactic| (repeat ((fail_if_success (with_reducible refine atIf ?_)); first | row_hasAny m_one | row_hasAny m_kind)); (with_reducible refine cons_gen fun _ _ => ?_); (with_reducible refine wpAny_If ?_))
local macro_rules | `(tactic| row_hasAny m_goX) => `(tactic| repeat ((fail_if_success (with_reducible refine atFor ?_)); (fail_if_success (with_reducible refine atIfE ?_)); (fail_if_success (with_reducible refine atCut ?_)); first | row_hasAny m_one | row_hasAny m_kind))
theorem fn163 {w : World} {A : Around} {E : Value → Shared → Prop} {c : Ctx} {V : List Cell} {s : Shared} {n : Nat} {t : T} {v : Value} {Q : Value → Shared → Prop} (hS : Sat w c V s) (hR : Room A (n + 1)) (hv : IsV w c t v)
    (k : ∀ c' s' a vs, c.Le c' → Sat w c' V s' → c'.I.PlainList a vs.toArray → IsVs w c' ((kids t).map (·.2)) vs → Q (.ref a) s') : wpAny (MM w) A (call (.ref 163) [v]) Q E s := by
  refine call_fn (n := n) (rest := []) (Post := fun r c' V' => V' = V ∧ ∃ a vs, r = .ref a ∧ c'.I.PlainList a vs.toArray ∧ IsVs w c' ((kids t).map (·.2)) vs) (ok163 w) hS hR (binds := [("e", v)]) (vs := [some v]) (by kernel_rfl) rfl rfl ?_ ?_
  · intro env A' s hE hR hS
    row_hasAny m_k
    row_hasAny m_open
    cases hv with
    | call hO h1 h2 h3 h4 h5 h6 =>
      row_hasAny m_go
      exact ⟨c, _, V, .refl _, by assumption, rfl, _, _, rfl, h1, by simpa [kids] using h3, fun i p u hp hu => by
        simp only [kids, List.getElem?_map, Option.map_eq_some_iff] at hp
        obtain ⟨q, hq, rfl⟩ := hp
        exact h5 i q u hq hu⟩
    | leaf hk hO h1 h2 =>
      row_hasAny m_go
      rename Sat _ _ _ _ => hS
      refine newLstI hS (by decide) fun a c' s' l hS' hl => ?_
      repeat row_hasAny m_out
      exact ⟨c', _, V, l, hS', rfl, a, [], rfl, hl, rfl, fun i p u hp => by simp [kids] at hp⟩
    | _ hO =>
      row_hasAny m_go
      rename Sat _ _ _ _ => hS
      refine newLstI hS (by decide) fun a c' s' l hS' hl => ?_
      repeat row_hasAny m_out
      exact ⟨c', _, V, l, hS', rfl, a, [], rfl, hl, rfl, fun i p u hp => by simp [kids] at hp⟩
  · rintro r c' V' s' l h ⟨rfl, a, vs, rfl, h2, h3⟩
    exact k c' s' a vs l h h2 h3

theorem names_kids (b : Bool) {t : T} (hn : isName t = false) : names b t = (match kids t with | [] => [] | p :: r => (if b || !isName p.2 then names b p.2 else []) ++ r.flatMap fun q => names b q.2) := by
  cases t with
  | name => cases hn
  | call l => cases l with
    | nil => simp [names, kids]
    | cons p r => exact names_call b p r
  | _ => simp [names, kids]
theorem names_at (b : Bool) {l : List (Tag × T)} {i : Nat} {q : Tag × T} (h : l[i]? = some q) : ((l.take i).flatMap fun p => names b p.2).length + sz q.2 ≤ (l.map fun p => sz p.2).sum := by
  induction l generalizing i with
  | nil => cases h
  | cons p r ih =>
    have h0 := names_sz b p.2
    cases i with
    | zero => simp at h; subst h; simp
    | succ i =>
      have := ih (i := i) (by simpa using h)
      simp only [List.take_succ_cons, List.flatMap_cons, List.length_append, List.map_cons, List.sum_cons]
      (first | lia | omega)
theorem kids_deep {t : T} {p : Tag × T} (h : p ∈ kids t) : deep p.2 + 1 ≤ deep t := by
  cases t with
  | call l => exact deep_mem h
  | _ => cases h
theorem kids_sz (t : T) : ((kids t).map fun p => sz p.2).sum + 1 ≤ sz t := by
  cases t with
  | call l => rw [sz_call]; simp only [kids]; (first | lia | omega)
  | _ => simp [kids, sz]
theorem kids_wide {m : Nat} {t : T} (h : Wide m t) : (kids t).length ≤ m ∧ ∀ p ∈ kids t, Wide m p.2 := by
  cases h with
  | call h1 h2 h3 h4 => exact ⟨h2, h3⟩
  | _ => exact ⟨Nat.zero_le _, fun _ h => nomatch h⟩
/-- add_names -/
noncomputable def C170 (w : World) (b : Bool) (t : T) : Prop := ∀ {A : Around} {E : Value → Shared → Prop} {c : Ctx} {V : List Cell} {s : Shared} {v : Value} {f : Addr} {xs : List Value} {m : Nat} {Q : Value → Shared → Prop}, Sat w c (.ls f xs :: V) s → Room A (deep t + 2) → IsV w c t v → Wide m t → m ≤ 1000 → xs.length + sz t ≤ 90000 →
    (∀ c' s' ys, c.Le c' → Sat w c' (.ls f (xs ++ ys) :: V) s' → RDs c' ((names b t).map .str) ys → Q .none s') → wpAny (MM w) A (call (.ref 170) [v, .bool b, .ref f]) Q E s
theorem fn170_in {w : World} {b : Bool} {t : T} (hn : isName t = false) (ih : ∀ p ∈ kids t, C170 w b p.2) : C170 w b t := by
  intro A E c V s v f xs m Q hS hR hv hw hm hz k
  refine call_fn (n := deep t + 1) (rest := ["parts", "part"]) (Post := fun r c' V' => r = .none ∧ ∃ ys, V' = .ls f (xs ++ ys) :: V ∧ RDs c' ((names b t).map .str) ys) (ok170 w) hS (hR.less (by (first | lia | omega))) (binds := [("e", v), ("functions", .bool b), ("found", .ref f)]) (vs := [some v, some (.bool b), some (.ref f), none, none]) (by kernel_rfl) rfl rfl ?_ ?_
  · intro env A' s hE hR hS
    obtain ⟨a, rfl⟩ := hv.ref
    have hd : deep t + 1 = (deep t) + 1 := rfl
    row_hasAny m_k
    row_hasAny m_open
    row_hasAny m_goK
    rename Sat _ _ _ _ => hS
    refine fn163 (n := deep t) hS (hR.less (by (first | lia | omega))) hv fun c' s' pa ps le hS hpa hps => ?_
    have hv' := hv.mono le
    row_hasAny m_goI
    rename Sat _ _ _ _ => hS
    refine seq_cut (fun f' s' => f' = .next ∧ ∃ c'' pa ps, ∃ rest : List (Tag × T), c'.Le c'' ∧ c''.I.PlainList pa ps.toArray ∧ IsVs w c'' (rest.map (·.2)) ps ∧ (∀ q ∈ rest, q ∈ kids t) ∧ rest.length ≤ m ∧ (rest.map fun p => sz p.2).sum ≤ sz t ∧ names b t = rest.flatMap (fun q => names b q.2) ∧
      Sat w c'' (.ns env.locals (fm nm170 [some (.ref a), some (.bool b), some (.ref f), some (.ref pa), none]) :: .ls f xs :: V) s') ?_ ?_
    · row_hasAny m_goK
      refine ifb (fun hc => ?_) (fun hc => ?_)
      · cases t with
        | name => cases hc
        | null => cases hc
        | miss => cases hc
        | leaf => cases hc
        | call l =>
        cases b with
        | true =>
          row_hasAny m_goK
          rename Sat _ _ _ _ => hS
          refine ⟨rfl, c', pa, ps, l, .refl _, hpa, hps, fun q h => h, (kids_wide hw).1, by have := kids_sz (.call l); simp only [kids] at this; (first | lia | omega), ?_, hS⟩
          rw [names_kids true hn]
          cases l <;> simp [kids]
        | false =>
          have hw' := hw
          cases hw with
          | call hw1 hw2 hw3 hw4 =>
          obtain ⟨p0, l, rfl⟩ := List.exists_cons_of_ne_nil hw1
          obtain ⟨q0, qs, rfl⟩ : ∃ q0 qs, ps = q0 :: qs := by cases ps with | nil => cases hps.1 | cons x y => exact ⟨x, y, rfl⟩
          cases hv' with
          | @call a li lt t0 _ us ts hO h1 h2 h3 h4 h5 h6 =>
          obtain ⟨u0, us, rfl⟩ : ∃ u0 ur, us = u0 :: ur := by cases us with | nil => cases h3 | cons x y => exact ⟨x, y, rfl⟩
          have hu0 := h5 0 p0 u0 rfl rfl
          obtain ⟨a0, rfl⟩ := hu0.ref
          row_hasAny m_goK
          refine ifb (fun hn0 => ?_) (fun hn0 => ?_)
          · row_hasAny m_goK
            rename Sat _ _ _ _ => hS
            refine ⟨_, _, pa, _, some 1, none, hS, rfl, hS.list (.imm hpa), by have := hps.1; have := (kids_wide hw').1; simp only [kids, List.length_map, List.length_cons] at *; (first | lia | omega), .int _ _, .none, fun pa' c2 s2 l2 hS hl2 => ?_⟩
            row_hasAny m_goK
            rename Sat _ _ _ _ => hS
            have e : slicePick (q0 :: qs).toArray (some ((1 : Nat) : Int)) none none = _ := slicePick_from' _ _
            refine ⟨rfl, c2, pa', qs, l, l2, ?_, ⟨by have := hps.1; simpa [kids] using this, fun i p u h1 h2 => (hps.2 (i + 1) p u h1 h2).mono l2⟩, fun q h => .tail _ h, by simp at hw2; (first | lia | omega), by have := kids_sz (.call (p0 :: l)); simp [kids] at this; (first | lia | omega), ?_, hS⟩
            · simpa using e ▸ hl2
            · rw [names_kids false hn]
              simp [kids, hn0]
          · row_hasAny m_goK
            rename Sat _ _ _ _ => hS
            refine ⟨rfl, c', pa, _, p0 :: l, .refl _, hpa, hps, fun q h => h, hw2, by have := kids_sz (.call (p0 :: l)); simp only [kids] at this; (first | lia | omega), ?_, hS⟩
            rw [names_kids false hn]
            simp [kids, hn0]
      · row_hasAny m_goK
        rename Sat _ _ _ _ => hS
        refine ⟨rfl, c', pa, ps, kids t, .refl _, hpa, hps, fun q h => h, (kids_wide hw).1, by have := kids_sz t; (first | lia | omega), ?_, hS⟩
        rw [names_kids b hn]
        cases t with
        | call => cases hc
        | _ => rfl
    · rintro _ s' ⟨rfl, c'', pa, ps, rest, le', hpa, hps, hsub, hlen, hsum, hnm, hS⟩
      dsimp only
      row_hasAny m_go
      refine for_list (U := [.ls f xs]) (R := V) (fun i c' vs' U' => ∃ ys pv, vs' = [some (.ref a), some (.bool b), some (.ref f), some (.ref pa), pv] ∧ U' = [.ls f (xs ++ ys)] ∧ RDs c' (((rest.take i).flatMap fun p => names b p.2).map .str) ys) hR.h hpa.isList go_list (by assumption) ⟨[], none, rfl, by simp, by simpa using rds_mk⟩ ?_ ?_
      · rintro i u c3 vs' U' R' s' hu l3 ⟨ys, pv, rfl, rfl, hys⟩ hsub' hS
        have hi : i < rest.length := by have := List.getElem?_eq_some_iff.mp hu; obtain ⟨h, _⟩ := this; have := hps.1; simp at this; (first | lia | omega)
        have hq : rest[i]? = some rest[i] := List.getElem?_eq_getElem hi
        have hqm := hsub _ (List.getElem_mem hi)
        have hqv := (hps.2 i rest[i].2 u (by simp [hq]) hu).mono l3
        have hn1 := names_at b hq
        have hyl := rds_len hys
        simp only [List.length_map] at hyl
        row_hasAny m_k
        row_hasAny m_go
        rename Sat _ _ _ _ => hS
        refine ih _ hqm (V := _ :: R') hS.swap (hR.less (by have := kids_deep hqm; (first | lia | omega))) hqv ((kids_wide hw).2 _ hqm) hm (by simp only [List.length_append]; (first | lia | omega)) fun c4 s4 zs l4 hS hzs => ?_
        have hS := hS.swap
        row_hasAny m_go
        rename Sat _ _ _ _ => hS
        refine ⟨c4, _, [.ls f (xs ++ (ys ++ zs))], l4, ⟨ys ++ zs, some u, rfl, rfl, ?_⟩, by simpa [List.append_assoc] using hS⟩
        rw [List.take_add_one, hq]
        simp only [Option.toList_some, List.flatMap_append, List.flatMap_cons, List.flatMap_nil, List.append_nil, List.map_append]
        exact rds_append (hys.mono l4) hzs
      · rintro c3 vs' U' s' l3 ⟨ys, pv, rfl, rfl, hys⟩ hS
        row_hasAny m_go
        have e : ps.length = rest.length := by simpa using hps.1
        rw [e, List.take_length, ← hnm] at hys
        exact ⟨c3, _, _, (le.trans le').trans l3, hS, rfl, ys, rfl, hys⟩
  · rintro r c' V' s' l h ⟨rfl, ys, rfl, h3⟩
    exact k c' s' ys l h h3
theorem fn170 (w : World) (b : Bool) (t : T) : C170 w b t := by
  induction t using T.ind with
  | h1 x =>
    intro A E c V s v f xs m Q hS hR hv hw hm hz k
    refine call_fn (n := 1) (rest := ["parts", "part"]) (Post := fun r c' V' => r = .none ∧ ∃ ys, V' = .ls f (xs ++ ys) :: V ∧ RDs c' ((names b (.name x)).map .str) ys) (ok170 w) hS (hR.less (by (first | lia | omega))) (binds := [("e", v), ("functions", .bool b), ("found", .ref f)]) (vs := [some v, some (.bool b), some (.ref f), none, none]) (by kernel_rfl) rfl rfl ?_ ?_
    · intro env A' s hE hR hS
      row_hasAny m_k
      row_hasAny m_open
      cases hv with
      | name hO =>
      cases hw with
      | name hw1 hw2 =>
      row_hasAny m_go
      rename Sat _ _ _ _ => hS
      refine append_ hS (by row_hasAny m_lk) (by (first | lia | omega)) fun s hS => ?_
      row_hasAny m_go
      exact ⟨c, _, _, .refl _, hS, rfl, _, rfl, by simpa [names] using rds_one rd_s⟩
    · rintro r c' V' s' l h ⟨rfl, ys, rfl, h3⟩
      exact k c' s' ys l h h3
  | h2 => exact fn170_in (t := .null) rfl fun _ h => nomatch h
  | h3 => exact fn170_in (t := .miss) rfl fun _ h => nomatch h
  | h4 k ds => exact fn170_in (t := .leaf k ds) rfl fun _ h => nomatch h
  | h5 l ih => exact fn170_in (t := .call l) rfl ih
theorem ok35 (w : World) : FnOk w 35 ["self"] [] := .of (by kernel_rfl)
theorem ok56 (w : World) : FnOk w 56 ["self"] [] := .of (by kernel_rfl)
theorem ok78 (w : World) : FnOk w 78 ["self", "kind", "items", "attrs"] [] := .of (by kernel_rfl)
theorem ok106 (w : World) : FnOk w 106 ["self", "name"] [] := .of (by kernel_rfl)
theorem ok128 (w : World) : FnOk w 128 ["self", "items", "tags", "attrs"] [] := .of (by kernel_rfl)

section
variable {w : World} {A : Around} {E : Value → Shared → Prop} {c : Ctx} {V V' : List Cell} {s : Shared} {n : Nat}
theorem new_null {Q : Value → Shared → Prop} (hS : Sat w c V s) (hR : Room A (n + 2)) (k : ∀ a c' s', c.Le c' → Sat w c' V s' → IsV w c' .null (.ref a) → Q (.ref a) s') : wpAny (MM w) A (call (.ref 38) []) Q E s := by
  refine make_fn (Post := fun x d c' V' => ∃ t, V' = .nk d (fm nmNull [some (.str "NULL" t), some .none]) 2 :: .pr x (· = instObj 38 d) :: V) (rest := []) hS hR (by kernel_rfl) (by kernel_rfl) (by kernel_rfl) (ok35 w) ?_ ?_
  · intro s' hS x
    refine ⟨[("self", .ref x)], BindsTo.of_eq (by kernel_rfl), rfl, ?_⟩
    rintro vs hvs d env A' s hne hE hR hS
    have hvs : vs = [some (.ref x)] := hvs
    subst hvs
    have hS : Sat w c (_ :: .nk d (fm nmNull [none, none]) 0 :: _) s := nk_start hS nmNull
    row_hasAny m_k
    row_hasAny m_open
    row_hasAny m_goC
    rename Sat _ _ _ _ => hS
    exact ⟨c, _, _, .refl _, hS, rfl, _, rfl⟩
  · rintro x d c' V' s' l hS ⟨t, rfl⟩
    obtain ⟨c2, l2, h2, h3⟩ := mk_obj hS (clsNull w).1 (handed_cons rfl (handed_cons rfl handed_nil))
    exact k x c2 s' (l.trans l2) h2 (.null h3)
theorem new_miss {Q : Value → Shared → Prop} (hS : Sat w c V s) (hR : Room A (n + 2)) (k : ∀ a c' s', c.Le c' → Sat w c' V s' → IsV w c' .miss (.ref a) → Q (.ref a) s') : wpAny (MM w) A (call (.ref 59) []) Q E s := by
  refine make_fn (Post := fun x d c' V' => ∃ t, V' = .nk d (fm nmNull [some (.str "missing" t), some .none]) 2 :: .pr x (· = instObj 59 d) :: V) (rest := []) hS hR (by kernel_rfl) (by kernel_rfl) (by kernel_rfl) (ok56 w) ?_ ?_
  · intro s' hS x
    refine ⟨[("self", .ref x)], BindsTo.of_eq (by kernel_rfl), rfl, ?_⟩
    rintro vs hvs d env A' s hne hE hR hS
    have hvs : vs = [some (.ref x)] := hvs
    subst hvs
    have hS : Sat w c (_ :: .nk d (fm nmNull [none, none]) 0 :: _) s := nk_start hS nmNull
    row_hasAny m_k
    row_hasAny m_open
    row_hasAny m_goC
    rename Sat _ _ _ _ => hS
    exact ⟨c, _, _, .refl _, hS, rfl, _, rfl⟩
  · rintro x d c' V' s' l hS ⟨t, rfl⟩
    obtain ⟨c2, l2, h2, h3⟩ := mk_obj hS (clsMiss w).1 (handed_cons rfl (handed_cons rfl handed_nil))
    exact k x c2 s' (l.trans l2) h2 (.miss h3)
theorem bind106 {u : Value} {x : Addr} : bindArgs (fdAt w 106) ⟨[Value.ref x, u], []⟩ = pure [(("self" : Str), Value.ref x), (("name" : Str), u)] := by kernel_rfl
theorem binds106 {u : Value} {x : Addr} : BindsTo s (fdAt w 106) ⟨[.ref x, u], []⟩ [("self", .ref x), ("name", u)] := by
  have h := bind106 (w := w) (u := u) (x := x)
  generalize fdAt w 106 = fd at h ⊢
  exact BindsTo.of_eq h
theorem new_sym {u : Str} {tu : Tok} {Q : Value → Shared → Prop} (hS : Sat w c V s) (hR : Room A (n + 2)) (k : ∀ a c' s', c.Le c' → Sat w c' V s' → IsV w c' (.name u) (.ref a) → Q (.ref a) s') : wpAny (MM w) A (call (.ref 109) [.str u tu]) Q E s := by
  refine make_fn (Post := fun x d c' V' => ∃ t, V' = .nk d (fm nmSym [some (.str "symbol" t), some (.str u tu), some .none]) 3 :: .pr x (· = instObj 109 d) :: V) (rest := []) hS hR (by kernel_rfl) (by kernel_rfl) (by kernel_rfl) (ok106 w) ?_ ?_
  · intro s' hS x
    refine ⟨[("self", .ref x), ("name", .str u tu)], by with_reducible exact binds106, rfl, ?_⟩
    rintro vs hvs d env A' s hne hE hR hS
    have hvs : vs = [some (.ref x), some (.str u tu)] := hvs
    subst hvs
    have hS : Sat w c (_ :: .nk d (fm nmSym [none, none, none]) 0 :: _) s := nk_start hS nmSym
    row_hasAny m_k
    row_hasAny m_open
    row_hasAny m_goC
    rename Sat _ _ _ _ => hS
    exact ⟨c, _, _, .refl _, hS, rfl, _, rfl⟩
  · rintro x d c' V' s' l hS ⟨t, rfl⟩
    obtain ⟨c2, l2, h2, h3⟩ := mk_obj hS (clsSym w).1 (handed_cons rfl (handed_cons rfl (handed_cons rfl handed_nil)))
    exact k x c2 s' (l.trans l2) h2 (.name h3)
theorem new_call {l : List (Tag × T)} {li lt : Addr} {vs ts : List Value} {Q : Value → Shared → Prop} (hS : Sat w c V s) (hR : Room A (n + 2)) (h2 : c.I.PlainList li vs.toArray) (h3 : c.I.PlainList lt ts.toArray) (h4 : IsVs w c (l.map (·.2)) vs) (h5 : TagsAre (l.map (·.1)) ts)
    (k : ∀ a c' s', c.Le c' → Sat w c' V s' → IsV w c' (.call l) (.ref a) → Q (.ref a) s') : wpAny (MM w) A (call (.ref 131) [.ref li, .ref lt]) Q E s := by
  refine make_fn (Post := fun x d c' V' => ∃ t, V' = .nk d (fm nmCall [some (.str "language" t), some (.ref li), some (.ref lt), some .none, some .none]) 5 :: .pr x (· = instObj 131 d) :: V) (rest := []) hS hR (by kernel_rfl) (by kernel_rfl) (by kernel_rfl) (ok128 w) ?_ ?_
  · intro s' hS x
    refine ⟨[("self", .ref x), ("items", .ref li), ("tags", .ref lt), ("attrs", .none)], kp_binds hS.kk (fun _ => by kernel_rfl), rfl, ?_⟩
    rintro vs hvs d env A' s hne hE hR hS
    have hvs : vs = [some (.ref x), some (.ref li), some (.ref lt), some .none] := hvs
    subst hvs
    have hS : Sat w c (_ :: .nk d (fm nmCall [none, none, none, none, none]) 0 :: _) s := nk_start hS nmCall
    row_hasAny m_k
    row_hasAny m_open
    row_hasAny m_goC
    rename Sat _ _ _ _ => hS
    exact ⟨c, _, _, .refl _, hS, rfl, _, rfl⟩
  · rintro x d c' V' s' le hS ⟨t, rfl⟩
    obtain ⟨c2, l2, h6, h7⟩ := mk_obj hS (clsCall w).1 (handed_cons rfl (handed_cons rfl (handed_cons rfl (handed_cons rfl (handed_cons rfl handed_nil)))))
    have le := le.trans l2
    refine k x c2 s' le h6 (.call h7 (Heap.PlainList.keeps h2 le.keep) (Heap.PlainList.keeps h3 le.keep) (by simpa using h4.1) (by simpa using h5.1) (fun i p u hp hu => (h4.2 i p.2 u (by simp [hp]) hu).mono le) fun i p u hp hu => h5.2 i p.1 u (by simp [hp]) hu)
theorem new_leaf {kd : Str} {tk : Tok} {ds : List Atom} {li : Addr} {vs : List Value} {Q : Value → Shared → Prop} (hS : Sat w c V s) (hR : Room A (n + 2)) (h1 : LeafK kd) (h2 : c.I.PlainList li vs.toArray) (h3 : RDs c (ds.map Atom.toP) vs)
    (k : ∀ a c' s', c.Le c' → Sat w c' V s' → IsV w c' (.leaf kd ds) (.ref a) → Q (.ref a) s') : wpAny (MM w) A (call (.ref 88) [.str kd tk, .ref li]) Q E s := by
  refine make_fn (Post := fun x d c' V' => V' = .nk d (fm nmVecS [some (.str kd tk), some (.ref li), some .none, some (.bool false), some (.bool false)]) 5 :: .pr x (· = instObj 88 d) :: V) (rest := []) hS hR (by kernel_rfl) (by kernel_rfl) (by kernel_rfl) (ok78 w) ?_ ?_
  · intro s' hS x
    refine ⟨[("self", .ref x), ("kind", .str kd tk), ("items", .ref li), ("attrs", .none)], kp_binds hS.kk (fun _ => by kernel_rfl), rfl, ?_⟩
    rintro vs hvs d env A' s hne hE hR hS
    have hvs : vs = [some (.ref x), some (.str kd tk), some (.ref li), some .none] := hvs
    subst hvs
    have hS : Sat w c (_ :: .nk d (fm nmVecS [none, none, none, none, none]) 0 :: _) s := nk_start hS nmVecS
    row_hasAny m_k
    row_hasAny m_open
    row_hasAny m_goC
    rename Sat _ _ _ _ => hS
    exact ⟨c, _, _, .refl _, hS, rfl, rfl⟩
  · rintro x d c' V' s' le hS rfl
    have e : fm nmVecS [some (.str kd tk), some (.ref li), some .none, some (.bool false), some (.bool false)] = fun x => if x = shName then some (.bool false) else fm nmVec [some (.str kd tk), some (.ref li), some .none, some (.bool false)] x := by
      funext y
      by_cases q : y = shName
      · subst q
        rw [if_pos rfl]
        exact fm_look (clsVecS w).1.nod (.tail (.tail (.tail .head)))
      · rw [if_neg q]
        have q' : ¬ y = "shared" := q
        simp only [fm, if_neg q']
    have hS' : Sat w c' (.nk d (fun x => if x = shName then some (.bool false) else fm nmVec [some (.str kd tk), some (.ref li), some .none, some (.bool false)] x) 9 :: .pr x (· = instObj 88 d) :: V) s' := by
      rw [e] at hS
      exact ⟨hS.st, hS.keep, fun p hp => by
        rcases List.mem_cons.mp hp with rfl | hp
        · exact NsK.le (hS.vol _ (.head _)) (by decide)
        · exact hS.vol _ (.tail _ hp), hS.vd, fun p hp => by
        rcases List.mem_cons.mp hp with rfl | hp
        · exact hS.sepV (.nk d _ 5) (.head _)
        · exact hS.sepV _ (.tail _ hp), hS.sepD, fun p hp => by
        rcases List.mem_cons.mp hp with rfl | hp
        · exact hS.sepVD (.nk d _ 5) (.head _)
        · exact hS.sepVD _ (.tail _ hp), List.pairwise_cons.mpr (List.pairwise_cons.mp hS.nod), hS.gens, hS.drawn, hS.os⟩
    obtain ⟨c1, l1, hS1, m1⟩ := hS'.freezeV .head
    obtain ⟨c2, l2, hS2, o, n2, rfl⟩ := hS1.freeze .head
    have le := (le.trans l1).trans l2
    refine k x c2 s' le hS2 (.leaf h1 ⟨d, n2, l2.sub _ m1, (clsVec w).1, handed_cons rfl (handed_cons rfl (handed_cons rfl (handed_cons rfl handed_nil))), ?_⟩ (Heap.PlainList.keeps h2 le.keep) (h3.mono le))
    decide
end
noncomputable abbrev nm142 : List Str := []
noncomputable abbrev gl142 : List (Str × Value) := [("Null", .ref 38)]
theorem ok142 (w : World) : FnOk w 142 nm142 gl142 := .of (by kernel_rfl)
noncomputable abbrev nm149 : List Str := []
noncomputable abbrev gl149 : List (Str × Value) := [("Missing", .ref 59)]
theorem ok149 (w : World) : FnOk w 149 nm149 gl149 := .of (by kernel_rfl)
noncomputable abbrev nm156 : List Str := ["v"]
noncomputable abbrev gl156 : List (Str × Value) := [("isinstance", .builtin "isinstance"), ("Vector", .ref 88)]
theorem ok156 (w : World) : FnOk w 156 nm156 gl156 := .of (by kernel_rfl)
noncomputable abbrev nm177 : List Str := ["e", "functions", "found"]
noncomputable abbrev gl177 : List (Str × Value) := [("add_names", .ref 170)]
theorem ok177 (w : World) : FnOk w 177 nm177 gl177 := .of (by kernel_rfl)
noncomputable abbrev nm184 : List Str := ["e", "seen", "found", "name"]
noncomputable abbrev gl184 : List (Str × Value) := [("all_names", .ref 177)]
theorem ok184 (w : World) : FnOk w 184 nm184 gl184 := .of (by kernel_rfl)
noncomputable abbrev nm191 : List Str := ["e", "table", "items", "tags", "place", "part", "tag", "value"]
noncomputable abbrev gl191 : List (Str × Value) := [("range", .type "range"), ("Call", .ref 131), ("len", .builtin "len"), ("share", .ref 156), ("substitute_in", .ref 191)]
theorem ok191 (w : World) : FnOk w 191 nm191 gl191 := .of (by kernel_rfl)
noncomputable abbrev nm198 : List Str := ["u", "v", "first", "second", "name"]
noncomputable abbrev gl198 : List (Str × Value) := [("sorted", .builtin "sorted"), ("len", .builtin "len"), ("language_equal", .ref 205)]
theorem ok198 (w : World) : FnOk w 198 nm198 gl198 := .of (by kernel_rfl)
noncomputable abbrev nm205 : List Str := ["u", "v"]
noncomputable abbrev gl205 : List (Str × Value) := [("all_equal", .ref 212), ("isinstance", .builtin "isinstance"), ("Vector", .ref 88), ("same_attrs", .ref 198)]
theorem ok205 (w : World) : FnOk w 205 nm205 gl205 := .of (by kernel_rfl)
noncomputable abbrev nm212 : List Str := ["first", "second", "place"]
noncomputable abbrev gl212 : List (Str × Value) := [("range", .type "range"), ("len", .builtin "len"), ("language_equal", .ref 205)]
theorem ok212 (w : World) : FnOk w 212 nm212 gl212 := .of (by kernel_rfl)
noncomputable abbrev nm219 : List Str := ["e", "deepest", "part"]
noncomputable abbrev gl219 : List (Str × Value) := [("children", .ref 163), ("max", .builtin "max"), ("depth", .ref 219)]
theorem ok219 (w : World) : FnOk w 219 nm219 gl219 := .of (by kernel_rfl)
noncomputable abbrev nm231 : List Str := ["e"]
noncomputable abbrev gl231 : List (Str × Value) := [("len", .builtin "len")]
theorem ok231 (w : World) : FnOk w 231 nm231 gl231 := .of (by kernel_rfl)
noncomputable abbrev nm238 : List Str := ["e", "pick", "items", "tags", "place", "part", "tag", "value"]
noncomputable abbrev gl238 : List (Str × Value) := [("range", .type "range"), ("Call", .ref 131), ("hole_of", .ref 231), ("share", .ref 156), ("len", .builtin "len"), ("elements_of", .ref 224), ("bquote_in", .ref 238)]
theorem ok238 (w : World) : FnOk w 238 nm238 gl238 := .of (by kernel_rfl)
noncomputable abbrev nm245 : List Str := ["script", "figures", "mix", "cell", "big", "rest", "step"]
noncomputable abbrev gl245 : List (Str × Value) := [("int", .type "int"), ("abs", .builtin "abs"), ("range", .type "range"), ("len", .builtin "len")]
theorem ok245 (w : World) : FnOk w 245 nm245 gl245 := .of (by kernel_rfl)
noncomputable abbrev nm252 : List Str := ["pool", "bound", "figure"]
noncomputable abbrev gl252 : List (Str × Value) := [("len", .builtin "len")]
theorem ok252 (w : World) : FnOk w 252 nm252 gl252 := .of (by kernel_rfl)
noncomputable abbrev nm257 : List Str := ["value", "kind"]
noncomputable abbrev gl257 : List (Str × Value) := [("list", .type "list")]
theorem ok257 (w : World) : FnOk w 257 nm257 gl257 := .of (by kernel_rfl)
noncomputable abbrev nm262 : List Str := ["tree"]
noncomputable abbrev gl262 : List (Str × Value) := [("Symbol", .ref 109), ("Call", .ref 131), ("null", .ref 142), ("missing", .ref 149), ("Vector", .ref 88), ("list", .type "list")]
theorem ok262 (w : World) : FnOk w 262 nm262 gl262 := .of (by kernel_rfl)
noncomputable abbrev nm269 : List Str := ["pool", "spare", "deep", "kind", "head", "items", "tags", "step"]
noncomputable abbrev gl269 : List (Str × Value) := [("_law_pick", .ref 252), ("range", .type "range"), ("_law_tree", .ref 269)]
theorem ok269 (w : World) : FnOk w 269 nm269 gl269 := .of (by kernel_rfl)
noncomputable abbrev nm274 : List Str := ["tree", "table", "items", "tags", "piece", "tag"]
noncomputable abbrev gl274 : List (Str × Value) := [("zip", .type "zip"), ("_law_put", .ref 274)]
theorem ok274 (w : World) : FnOk w 274 nm274 gl274 := .of (by kernel_rfl)
noncomputable abbrev nm281 : List Str := ["tree"]
noncomputable abbrev gl281 : List (Str × Value) := [("len", .builtin "len")]
theorem ok281 (w : World) : FnOk w 281 nm281 gl281 := .of (by kernel_rfl)
noncomputable abbrev nm293 : List Str := ["value"]
noncomputable abbrev gl293 : List (Str × Value) := []
theorem ok293 (w : World) : FnOk w 293 nm293 gl293 := .of (by kernel_rfl)
noncomputable abbrev nm300 : List Str := ["tree", "items", "tags", "step", "piece", "tag", "item"]
noncomputable abbrev gl300 : List (Str × Value) := [("range", .type "range"), ("_law_hole", .ref 281), ("len", .builtin "len"), ("_law_parts", .ref 286), ("_law_quoted", .ref 300)]
theorem ok300 (w : World) : FnOk w 300 nm300 gl300 := .of (by kernel_rfl)
noncomputable abbrev nm307 : List Str := ["tree", "heads", "found", "step"]
noncomputable abbrev gl307 : List (Str × Value) := [("range", .type "range"), ("len", .builtin "len"), ("_law_names", .ref 307)]
theorem ok307 (w : World) : FnOk w 307 nm307 gl307 := .of (by kernel_rfl)
noncomputable abbrev nm312 : List Str := ["tree"]
noncomputable abbrev gl312 : List (Str × Value) := [("max", .builtin "max")]
theorem ok312 (w : World) : FnOk w 312 nm312 gl312 := .of (by kernel_rfl)
/-! isinstance -/
noncomputable def isLeaf : T → Bool
  | .leaf _ _ => true
  | _ => false
structure NotVec (w : World) (D : Addr) : Prop where
  e : kin_not (KK w) D 88 = true
  hg : plainGet (KK w) D "__class__" = true
  hdct : hasDictIn (KK w) D = true
  ha : findIn (KK w) (.ref D) "__class__" = some (some (.builtin "object.__class__"))
  hn : specialIn (KK w) (.builtin "object.__class__") "__get__" = some (some (.builtin "getset_descriptor.__get__"))
  htk : takesIn (KK w) (.builtin "object.__class__") = some true
  hm : mroIn (KK w) D (.type "object") = some true
theorem nv38 (w : World) : NotVec w 38 := ⟨by kernel_rfl, by kernel_rfl, by kernel_rfl, by kernel_rfl, by kernel_rfl, by kernel_rfl, by kernel_rfl⟩
theorem nv59 (w : World) : NotVec w 59 := ⟨by kernel_rfl, by kernel_rfl, by kernel_rfl, by kernel_rfl, by kernel_rfl, by kernel_rfl, by kernel_rfl⟩
theorem nv109 (w : World) : NotVec w 109 := ⟨by kernel_rfl, by kernel_rfl, by kernel_rfl, by kernel_rfl, by kernel_rfl, by kernel_rfl, by kernel_rfl⟩
theorem nv131 (w : World) : NotVec w 131 := ⟨by kernel_rfl, by kernel_rfl, by kernel_rfl, by kernel_rfl, by kernel_rfl, by kernel_rfl, by kernel_rfl⟩
section
variable {w : World} {A : Around} {E : Value → Shared → Prop} {c : Ctx} {V V' : List Cell} {s : Shared} {env : Env} {p : Cell}
theorem isi_obj {a D : Addr} {nm : List Str} {vs : List (Option Value)} {Q : Value → Shared → Prop} (hS : Sat w c V s) (hO : ObjI w c a D nm vs) (N : NotVec w D) (h : ∀ s', Sat w c V s' → Q (.bool false) s') : wpAny (MM w) A (call (.builtin "isinstance") [.ref a, .ref 88]) Q E s := by
  obtain ⟨d, h1, ⟨od, es, ep, h2, _⟩, _⟩ := hO
  exact kin_callC (od := od) hS.kk ⟨hS.keep _ _ h1, rfl, rfl, hS.keep _ _ h2⟩ N.e N.hg N.hdct N.ha N.hn N.htk N.hm (h _ (hS.toks _))
theorem isi_vec {a : Addr} {nm : List Str} {vs : List (Option Value)} {Q : Value → Shared → Prop} (hS : Sat w c V s) (hO : VecI w c a 88 nm vs) (h : Q (.bool true) s) : wpAny (MM w) A (call (.builtin "isinstance") [.ref a, .ref 88]) Q E s := by
  obtain ⟨d, h1, h2, _⟩ := hO
  obtain ⟨b, od, es, ep, h3, _⟩ := hS.vd _ h2
  have I : InstAt s.heap a (instObj 88 d) 88 (some od) := ⟨hS.keep _ _ h1, rfl, rfl, h3⟩
  exact isi_call (t := .ref 88) hS.kk (fun M => I.type) (by kernel_rfl) (by intro q; cases q) h
theorem isi {t : T} {a : Addr} {Q : Value → Shared → Prop} (hS : Sat w c V s) (hv : IsV w c t (.ref a)) (h : ∀ s', Sat w c V s' → Q (.bool (isLeaf t)) s') : wpAny (MM w) A (call (.builtin "isinstance") [.ref a, .ref 88]) Q E s := by
  cases hv with
  | name hO => exact isi_obj hS hO (nv109 w) h
  | null hO => exact isi_obj hS hO (nv38 w) h
  | miss hO => exact isi_obj hS hO (nv59 w) h
  | leaf _ hO => exact isi_vec hS hO (h _ hS)
  | call hO => exact isi_obj hS hO (nv131 w) h
end
local macro_rules | `(tactic| row_hasAny m_kind) => `(tactic| (rename Sat _ _ _ _ => hS; with_reducible refine' isi hS ?k0 ?_; (case k0 => assumption); clear hS; intro s hS))
noncomputable def uq (l : List Str) : Nat → List Str
  | 0 => []
  | i + 1 => uq l i ++ (match l[i]? with
    | some x => if x ∈ l.take i then [] else [x]
    | none => [])
theorem valueAt_app {kvs : List (Str × Value)} {x y : Str} {v : Value} : valueAt (kvs ++ [(x, v)]) y = (valueAt kvs y).or (if x = y then some v else none) := by
  unfold valueAt
  rw [List.find?_append]
  cases kvs.find? (fun kv => kv.1 = y) with
  | some p => rfl
  | none =>
    by_cases q : x = y <;> simp [q]
theorem stored_new {kvs : List (Str × Value)} {x : Str} {v : Value} (h : valueAt kvs x = none) : stored kvs x v = kvs ++ [(x, v)] := by
  unfold stored
  rw [if_neg]
  intro q
  simp only [List.any_eq_true] at q
  obtain ⟨p, hp, e⟩ := q
  have e' : p.1 = x := by simpa using e
  unfold valueAt at h
  simp only [Option.map_eq_none_iff, List.find?_eq_none] at h
  exact h p hp (by simpa using e')
section
variable {w : World} {A : Around} {E : Value → Shared → Prop} {c : Ctx} {V : List Cell} {s : Shared} {n : Nat}
theorem fn142 {Q : Value → Shared → Prop} (hS : Sat w c V s) (hR : Room A (n + 3)) (k : ∀ a c' s', c.Le c' → Sat w c' V s' → IsV w c' .null (.ref a) → Q (.ref a) s') : wpAny (MM w) A (call (.ref 142) []) Q E s := by
  refine call_fn (n := n + 2) (rest := []) (Post := fun r c' V' => V' = V ∧ ∃ a, r = .ref a ∧ IsV w c' .null (.ref a)) (ok142 w) hS hR (binds := []) (vs := []) (by kernel_rfl) rfl rfl ?_ ?_
  · intro env A' s hE hR hS
    row_hasAny m_k
    row_hasAny m_open
    row_hasAny m_go
    rename Sat _ _ _ _ => hS
    refine cwf0 hS (by kernel_rfl) (new_null hS hR fun a c' s' l hS hv => ?_)
    repeat row_hasAny m_out
    exact ⟨c', _, V, l, hS, rfl, a, rfl, hv⟩
  · rintro r c' V' s' l h ⟨rfl, a, rfl, hv⟩
    exact k a c' s' l h hv
theorem fn149 {Q : Value → Shared → Prop} (hS : Sat w c V s) (hR : Room A (n + 3)) (k : ∀ a c' s', c.Le c' → Sat w c' V s' → IsV w c' .miss (.ref a) → Q (.ref a) s') : wpAny (MM w) A (call (.ref 149) []) Q E s := by
  refine call_fn (n := n + 2) (rest := []) (Post := fun r c' V' => V' = V ∧ ∃ a, r = .ref a ∧ IsV w c' .miss (.ref a)) (ok149 w) hS hR (binds := []) (vs := []) (by kernel_rfl) rfl rfl ?_ ?_
  · intro env A' s hE hR hS
    row_hasAny m_k
    row_hasAny m_open
    row_hasAny m_go
    rename Sat _ _ _ _ => hS
    refine cwf0 hS (by kernel_rfl) (new_miss hS hR fun a c' s' l hS hv => ?_)
    repeat row_hasAny m_out
    exact ⟨c', _, V, l, hS, rfl, a, rfl, hv⟩
  · rintro r c' V' s' l h ⟨rfl, a, rfl, hv⟩
    exact k a c' s' l h hv
/-- share -/
theorem fn156 {t : T} {v : Value} {Q : Value → Shared → Prop} (hS : Sat w c V s) (hR : Room A (n + 1)) (hv : IsV w c t v) (k : ∀ s', Sat w c V s' → Q v s') : wpAny (MM w) A (call (.ref 156) [v]) Q E s := by
  obtain ⟨a, rfl⟩ := hv.ref
  have hSk : ∀ {c' : Ctx} {s' : Shared}, c' = c → Sat w c' V s' → Q (.ref a) s' := fun e h => k _ (e ▸ h)
  refine call_fn (n := n) (rest := []) (Post := fun r c' V' => V' = V ∧ c' = c ∧ r = .ref a) (ok156 w) hS hR (binds := [("v", .ref a)]) (vs := [some (.ref a)]) (by kernel_rfl) rfl rfl ?_ ?_
  · intro env A' s hE hR hS
    row_hasAny m_k
    row_hasAny m_open
    row_hasAny m_goK
    cases hv with
    | @leaf _ li tk kd ds vs h0 hO h1 h2 =>
      row_hasAny m_goK
      rename Sat _ _ _ _ => hS
      refine sa_share hS hO (clsVecS w).2 (by decide) fun s hS => ?_
      row_hasAny m_goK
      rename Sat _ _ _ _ => hS
      exact ⟨c, _, V, .refl _, hS, rfl, rfl, rfl⟩
    | _ hO =>
      row_hasAny m_goK
      rename Sat _ _ _ _ => hS
      exact ⟨c, _, V, .refl _, hS, rfl, rfl, rfl⟩
  · rintro r c' V' s' l h ⟨rfl, e, rfl⟩
    exact hSk e h
/-- _law_same -/
theorem fn293 {v : Value} {Q : Value → Shared → Prop} (hS : Sat w c V s) (hR : Room A (n + 1)) (k : ∀ s', Sat w c V s' → Q v s') : wpAny (MM w) A (call (.ref 293) [v]) Q E s := by
  refine call_fn (n := n) (rest := []) (Post := fun r c' V' => V' = V ∧ c' = c ∧ r = v) (ok293 w) hS hR (binds := [("value", v)]) (vs := [some v]) (by kernel_rfl) rfl rfl ?_ ?_
  · intro env A' s hE hR hS
    row_hasAny m_k
    row_hasAny m_open
    row_hasAny m_goK
    rename Sat _ _ _ _ => hS
    exact ⟨c, _, V, .refl _, hS, rfl, rfl, rfl⟩
  · rintro r c' V' s' l h ⟨rfl, rfl, rfl⟩
    exact k _ h
/-- all_names -/
theorem fn177 {b : Bool} {t : T} {v : Value} {m : Nat} {Q : Value → Shared → Prop} (hS : Sat w c V s) (hR : Room A (deep t + 3)) (hv : IsV w c t v) (hw : Wide m t) (hm : m ≤ 1000) (hz : sz t ≤ 90000)
    (k : ∀ a c' s' ys, c.Le c' → Sat w c' V s' → c'.I.PlainList a ys.toArray → RDs c' ((names b t).map .str) ys → Q (.ref a) s') : wpAny (MM w) A (call (.ref 177) [v, .bool b]) Q E s := by
  refine call_fn (n := deep t + 2) (rest := ["found"]) (Post := fun r c' V' => V' = V ∧ ∃ a ys, r = .ref a ∧ c'.I.PlainList a ys.toArray ∧ RDs c' ((names b t).map .str) ys) (ok177 w) hS hR (binds := [("e", v), ("functions", .bool b)]) (vs := [some v, some (.bool b), none]) (by kernel_rfl) rfl rfl ?_ ?_
  · intro env A' s hE hR hS
    row_hasAny m_k
    row_hasAny m_open
    row_hasAny m_goK
    rename Sat _ _ _ _ => hS
    refine newLst hS (by decide) fun f s hS => ?_
    row_hasAny m_goK
    rename Sat _ _ _ _ => hS
    refine fn170 w b t (xs := []) (V := _ :: V) hS.swap (hR.less (by (first | lia | omega))) hv hw hm (by simpa using hz) fun c' s' ys l hS hys => ?_
    have hS := hS.swap
    row_hasAny m_goK
    rename Sat _ _ _ _ => hS
    obtain ⟨c2, l2, h2, h3⟩ := hS.freeze (p := .ls f ([] ++ ys)) (.tail .head)
    exact ⟨c2, _, V, l.trans l2, h2, rfl, f, ys, rfl, h3, hys.mono l2⟩
  · rintro r c' V' s' l h ⟨rfl, a, ys, rfl, h1, h2⟩
    exact k a c' s' ys l h h1 h2
/-- all_vars -/
theorem fn184 {t : T} {v : Value} {m : Nat} {Q : Value → Shared → Prop} (hS : Sat w c V s) (hR : Room A (deep t + 4)) (hv : IsV w c t v) (hw : Wide m t) (hm : m ≤ 1000) (hz : sz t ≤ 9000)
    (k : ∀ a c' s' ys, c.Le c' → Sat w c' V s' → c'.I.PlainList a ys.toArray → RDs c' ((uq (names false t) (names false t).length).map .str) ys → Q (.ref a) s') : wpAny (MM w) A (call (.ref 184) [v]) Q E s := by
  refine call_fn (n := deep t + 3) (rest := ["seen", "found", "name"]) (Post := fun r c' V' => V' = V ∧ ∃ a ys, r = .ref a ∧ c'.I.PlainList a ys.toArray ∧ RDs c' ((uq (names false t) (names false t).length).map .str) ys) (ok184 w) hS hR (binds := [("e", v)]) (vs := [some v, none, none, none]) (by kernel_rfl) rfl rfl ?_ ?_
  · intro env A' s hE hR hS
    row_hasAny m_k
    row_hasAny m_open
    row_hasAny m_goK
    rename Sat _ _ _ _ => hS
    refine newDct hS fun sd s hS => ?_
    row_hasAny m_goK
    rename Sat _ _ _ _ => hS
    refine newLst hS (by decide) fun f s hS => ?_
    row_hasAny m_goK
    rename Sat _ _ _ _ => hS
    refine fn177 (t := t) hS (hR.less (by (first | lia | omega))) hv hw hm (by (first | lia | omega)) fun la c' s' ns l hS hl hns => ?_
    have hnl := rds_len hns
    have hnz := names_sz false t
    simp only [List.length_map] at hnl
    refine for_list (U := [.ls f [], dc w sd []]) (R := V) (fun i c' vs' U' => ∃ kvs xs nv, vs' = [some v, some (.ref sd), some (.ref f), nv] ∧ U' = [.ls f xs, dc w sd kvs] ∧ kvs.length ≤ i ∧ (∀ x, (valueAt kvs x).isSome = decide (x ∈ (names false t).take i)) ∧ xs.length ≤ i ∧ RDs c' ((uq (names false t) i).map .str) xs) hR.h hl.isList go_list hS ⟨[], [], none, rfl, rfl, Nat.zero_le _, by simp [valueAt], Nat.zero_le _, rds_mk⟩ ?_ ?_
    · rintro i u c3 vs' U' R' s' hu l3 ⟨kvs, xs, nv, rfl, rfl, hk1, hk2, hk3, hys⟩ hsub' hS
      have hi : i < ns.length := (List.getElem?_eq_some_iff.mp hu).1
      have hi' : i < (names false t).length := by (first | lia | omega)
      have hx : (names false t)[i]? = some (names false t)[i] := List.getElem?_eq_getElem hi'
      generalize (names false t)[i] = x at hx
      obtain ⟨tk, rfl⟩ := rd_str (rds_get hns (i := i) (d := .str x) (by simp [hx]) hu)
      have ek := hk2 x
      replace hS : Sat w c3 (_ :: .ls f xs :: dc w sd kvs :: R') s' := hS
      row_hasAny m_k
      row_hasAny m_goK
      rename Sat _ _ _ _ => hS
      refine nind hS (.vol (by row_hasAny m_lk)) fun s hS => ?_
      row_hasAny m_goK
      rename Sat _ _ _ _ => hS
      refine ifb (fun hn => ?_) (fun hn => ?_)
      · have hv0 : valueAt kvs x = none := by simpa using hn
        have hnm : x ∉ (names false t).take i := by rw [hv0] at ek; simpa using ek
        row_hasAny m_goK
        rename Sat _ _ _ _ => hS
        refine setd hS (by row_hasAny m_lk) (by (first | lia | omega)) fun s hS => ?_
        row_hasAny m_goK
        rename Sat _ _ _ _ => hS
        refine append_ hS (by row_hasAny m_lk) (by (first | lia | omega)) fun s hS => ?_
        row_hasAny m_goK
        rename Sat _ _ _ _ => hS
        rw [stored_new hv0] at hS
        refine ⟨c3, _, [.ls f (xs ++ [.str x tk]), dc w sd (kvs ++ [(x, .bool true)])], .refl _, ⟨_, _, _, rfl, rfl, by simp; (first | lia | omega), fun y => ?_, by simp; (first | lia | omega), ?_⟩, hS⟩
        · rw [valueAt_app, List.take_add_one, hx]
          by_cases q : x = y
          · subst q; simp [hv0]
          · have q' : ¬ y = x := fun e => q e.symm
            simp [q, q', hk2 y]
        · simp only [uq, hx, if_neg hnm, List.map_append, List.map_cons, List.map_nil]
          exact rds_append hys (rds_one rd_s)
      · row_hasAny m_goK
        rename Sat _ _ _ _ => hS
        have hm' : x ∈ (names false t).take i := by rw [show (valueAt kvs x).isSome = true by simpa using hn] at ek; simpa using ek.symm
        refine ⟨c3, _, _, .refl _, ⟨kvs, xs, _, rfl, rfl, by (first | lia | omega), fun y => ?_, by (first | lia | omega), ?_⟩, hS⟩
        · rw [hk2 y, List.take_add_one, hx]
          by_cases q : y = x
          · subst q; simp [hm']
          · simp [q]
        · simp only [uq, hx, if_pos hm', List.append_nil]
          exact hys
    · rintro c3 vs' U' s' l3 ⟨kvs, xs, nv, rfl, rfl, hk1, hk2, hk3, hys⟩ hS
      row_hasAny m_goK
      rename Sat _ _ _ _ => hS
      obtain ⟨c4, l4, h4, h5⟩ := hS.freeze (p := .ls f xs) (.tail .head)
      have h6 : Sat w c4 (_ :: V) _ := h4.sub (.cons_cons _ (.cons _ (.refl _)))
      rw [hnl] at hys
      exact ⟨c4, _, V, (l.trans l3).trans l4, h6, rfl, f, xs, rfl, h5, hys.mono l4⟩
  · rintro r c' V' s' l h ⟨rfl, a, ys, rfl, h1, h2⟩
    exact k a c' s' ys l h h1 h2
end
theorem put_name {tab : Tab} {x : Str} : put tab (.name x) = if x = dots then .name x else (tab.kvs.lookup x).getD (.name x) := by rw [put]
theorem put_other {tab : Tab} {t : T} (h1 : isName t = false) (h2 : isCall t = false) : put tab t = t := by
  cases t with
  | name => cases h1
  | call => cases h2
  | _ => simp [put]
/-- substitute_in -/
noncomputable def C191 (w : World) (tab : Tab) (t : T) : Prop := ∀ {A : Around} {E : Value → Shared → Prop} {c : Ctx} {V : List Cell} {s : Shared} {v : Value} {tb : Addr} {kvs : List (Str × Value)} {m : Nat} {Q : Value → Shared → Prop}, Sat w c V s → Room A (deep t + 4) → IsV w c t v → Wide m t → m ≤ 1000 → RealTab w c tab tb kvs →
    (∀ c' s' r, c.Le c' → Sat w c' V s' → IsV w c' (put tab t) r → Q r s') → wpAny (MM w) A (call (.ref 191) [v, .ref tb]) Q E s
theorem fn191_name {w : World} {tab : Tab} {x : Str} : C191 w tab (.name x) := by
  intro A E c V s v tb kvs m Q hS hR hv hw hm hT k
  refine call_fn (n := 3) (rest := ["items", "tags", "place", "part", "tag", "value"]) (Post := fun r c' V' => V' = V ∧ IsV w c' (put tab (.name x)) r) (ok191 w) hS (hR.less (by simp [deep])) (binds := [("e", v), ("table", .ref tb)]) (vs := [some v, some (.ref tb), none, none, none, none, none, none]) (by kernel_rfl) rfl rfl ?_ ?_
  · intro env A' s hE hR hS
    row_hasAny m_k
    row_hasAny m_open
    have hv' := hv
    cases hv with
    | name hO =>
    row_hasAny m_goT
    rename Sat _ _ _ _ => hS
    refine cutB ((valueAt kvs x).isSome && !decide (x = dots)) hS ?_ ?_
    · row_hasAny m_goK
      rename Sat _ _ _ _ => hS
      refine ind hS (.imm hT.at_) fun s hS => ?_
      row_hasAny m_goK
      refine ifb (fun h1 => ?_) (fun h1 => ?_)
      · row_hasAny m_goK
        refine nes_d ?_
        row_hasAny m_goK
        refine ifb (fun h2 => ?_) (fun h2 => ?_)
        · row_hasAny m_goK
          rename Sat _ _ _ _ => hS
          exact ⟨by rw [h1]; exact h2.symm, hS⟩
        · row_hasAny m_goK
          rename Sat _ _ _ _ => hS
          exact ⟨by rw [h1]; exact h2.symm, hS⟩
      · row_hasAny m_goK
        rename Sat _ _ _ _ => hS
        exact ⟨by rw [h1]; rfl, hS⟩
    · intro s hS
      refine ifb (fun h1 => ?_) (fun h1 => ?_)
      · simp only [Bool.and_eq_true, Bool.not_eq_true', decide_eq_false_iff_not] at h1
        obtain ⟨u, hu⟩ := Option.isSome_iff_exists.mp h1.1
        have hl : ∃ t, tab.kvs.lookup x = some t := by
          cases q : tab.kvs.lookup x with
          | none => have := hT.n0 x h1.2 q; rw [hu] at this; cases this
          | some t => exact ⟨t, rfl⟩
        obtain ⟨t, hl⟩ := hl
        obtain ⟨u', hu', hvu⟩ := hT.n1 x t h1.2 hl
        rw [hu] at hu'; cases hu'
        row_hasAny m_goK
        rename Sat _ _ _ _ => hS
        refine subd hS (.imm hT.at_) hu (fun s hS => ?_) ?_
        · row_hasAny m_goK
          rename Sat _ _ _ _ => hS
          refine fn156 (n := 2) hS hR hvu fun s hS => ?_
          repeat row_hasAny m_out
          exact ⟨c, _, V, .refl _, hS, rfl, by rw [put_name, if_neg h1.2, hl]; exact hvu⟩
        · with_unfolding_all rfl
      · row_hasAny m_goK
        rename Sat _ _ _ _ => hS
        refine ⟨c, _, V, .refl _, hS, rfl, ?_⟩
        rw [put_name]
        by_cases q : x = dots
        · rw [if_pos q]; exact hv'
        · rw [if_neg q]
          have h3 : (valueAt kvs x).isSome = false := by simpa [q] using h1
          cases hl : tab.kvs.lookup x with
          | none => exact hv'
          | some t =>
            obtain ⟨u', hu', _⟩ := hT.n1 x t q hl
            rw [hu'] at h3; cases h3
  · rintro r c' V' s' l h ⟨rfl, hv⟩
    exact k c' s' r l h hv
theorem fn191_other {w : World} {tab : Tab} {t : T} (h1 : isName t = false) (h2 : isCall t = false) : C191 w tab t := by
  intro A E c V s v tb kvs m Q hS hR hv hw hm hT k
  refine call_fn (n := 3) (rest := ["items", "tags", "place", "part", "tag", "value"]) (Post := fun r c' V' => V' = V ∧ IsV w c' (put tab t) r) (ok191 w) hS (hR.less (by (first | lia | omega))) (binds := [("e", v), ("table", .ref tb)]) (vs := [some v, some (.ref tb), none, none, none, none, none, none]) (by kernel_rfl) rfl rfl ?_ ?_
  · intro env A' s hE hR hS
    obtain ⟨a, rfl⟩ := hv.ref
    row_hasAny m_k
    row_hasAny m_open
    row_hasAny m_goK
    rename Sat _ _ _ _ => hS
    exact ⟨c, _, V, .refl _, hS, rfl, by rw [put_other h1 h2]; exact hv⟩
  · rintro r c' V' s' l h ⟨rfl, hv⟩
    exact k c' s' r l h hv
set_option maxHeartbeats 4000000 in
theorem fn191_call {w : World} {tab : Tab} {l : List (Tag × T)} (ih : ∀ p ∈ l, C191 w tab p.2) : C191 w tab (.call l) := by
  intro A E c V s v tb kvs m Q hS hR hv hw hm hT k
  refine call_fn (n := deep (.call l) + 3) (rest := ["items", "tags", "place", "part", "tag", "value"]) (Post := fun r c' V' => V' = V ∧ IsV w c' (put tab (.call l)) r) (ok191 w) hS (hR.less (by (first | lia | omega))) (binds := [("e", v), ("table", .ref tb)]) (vs := [some v, some (.ref tb), none, none, none, none, none, none]) (by kernel_rfl) rfl rfl ?_ ?_
  · intro env A' s hE hR hS
    row_hasAny m_k
    row_hasAny m_open
    have hv' := hv
    cases hv with
    | @call a li lt t0 _ us ts hO hpl htl hlen htlen hvs hts =>
    cases hw with
    | call hw1 hw2 hw3 hw4 =>
    row_hasAny m_goK
    rename Sat _ _ _ _ => hS
    refine newLst hS (by decide) fun ia s hS => ?_
    row_hasAny m_goK
    rename Sat _ _ _ _ => hS
    refine newLst hS (by decide) fun ta s hS => ?_
    row_hasAny m_goK
    rename Sat _ _ _ _ => hS
    refine len_ hS (hS.list (.imm hpl)) (by (first | lia | omega)) fun t s hS => ?_
    row_hasAny m_goK
    rename Sat _ _ _ _ => hS
    refine range_ hS fun r s t u v hS hr => ?_
    row_hasAny m_goK
    rename Sat _ _ _ _ => hS
    refine for_range (U := [.ls ta [], .ls ia []]) (R := V) (fun i c' vs' U' => ∃ xs tgs pl pt tg vl, vs' = [some (.ref a), some (.ref tb), some (.ref ia), some (.ref ta), pl, pt, tg, vl] ∧ U' = [.ls ta tgs, .ls ia xs] ∧ IsVs w c' ((putl tab (l.take i)).map (·.2)) xs ∧ TagsAre ((putl tab (l.take i)).map (·.1)) tgs) hR.h hr (by (first | lia | omega)) hS ⟨[], [], none, none, none, none, rfl, rfl, by simpa [putl] using IsVs.nil, by simpa [putl] using TagsAre.nil⟩ ?_ ?_
    · rintro i tk c3 vs' U' R' s' hi l3 ⟨xs, tgs, pl, pt, tg, vl, rfl, rfl, hxs, htg⟩ hsub hS
      replace hS : Sat w c3 (_ :: .ls ta tgs :: .ls ia xs :: R') s' := hS
      have hil : i < l.length := by (first | lia | omega)
      have hp : l[i]? = some l[i] := List.getElem?_eq_getElem hil
      have hpm : l[i] ∈ l := List.getElem_mem hil
      generalize l[i] = p at hp hpm
      have hu : us[i]? = some us[i] := List.getElem?_eq_getElem hi
      generalize us[i] = u at hu
      have htx : ts[i]? = some ts[i] := List.getElem?_eq_getElem (by (first | lia | omega))
      generalize ts[i] = g at htx
      have hpv := (hvs i p u hp hu).mono l3
      have hgt := hts i p g hp htx
      have hO := hO.mono l3
      have hpl := Heap.PlainList.keeps hpl l3.keep
      have htl := Heap.PlainList.keeps htl l3.keep
      have hT := hT.mono l3
      obtain ⟨au, rfl⟩ := hpv.ref
      have hx1 := hxs.1
      have hx2 := htg.1
      have hx3 := putl_len (tab := tab) (fun r h => (hT.d1 r h).1) (l.take i)
      simp only [List.length_map] at hx1 hx2
      have hx4 : (l.take i).length = i := by simp; (first | lia | omega)
      row_hasAny m_k
      row_hasAny m_goT
      rename Sat _ _ _ _ => hS
      refine cutB (isDots p.2 && tab.rows.isSome) hS ?_ ?_
      · cases hq : isName p.2 with
        | false =>
          row_hasAny m_goK
          rename Sat _ _ _ _ => hS
          refine ⟨?_, hS⟩
          cases q : p.2 with
          | name => rw [q] at hq; cases hq
          | _ => rfl
        | true =>
          obtain ⟨tg0, t0⟩ := p
          cases t0 with
          | name x =>
            have hpv' := hpv
            cases hpv' with
            | name hO2 =>
            row_hasAny m_goK
            refine eqs_d ?_
            row_hasAny m_goK
            refine ifb (fun h1 => ?_) (fun h1 => ?_)
            · row_hasAny m_goK
              rename Sat _ _ _ _ => hS
              refine ind hS (.imm hT.at_) fun s hS => ?_
              have e : (valueAt kvs (Str.ofString "...")).isSome = (isDots (.name x) && tab.rows.isSome) := by
                have : isDots (.name x) = true := h1
                rw [this, Bool.true_and]
                cases q : tab.rows with
                | none => have := hT.d0 q; rw [show (Str.ofString "...") = dots from rfl, this]; rfl
                | some r => obtain ⟨_, la, us, e, _⟩ := hT.d1 r q; rw [show (Str.ofString "...") = dots from rfl, e]; rfl
              rw [e]
              row_hasAny m_goK
              refine ifb (fun h2 => ?_) (fun h2 => ?_)
              · row_hasAny m_goK
                rename Sat _ _ _ _ => hS
                exact ⟨h2.symm, hS⟩
              · row_hasAny m_goK
                rename Sat _ _ _ _ => hS
                exact ⟨h2.symm, hS⟩
            · row_hasAny m_goK
              rename Sat _ _ _ _ => hS
              have : isDots (.name x) = false := h1
              exact ⟨by rw [this]; rfl, hS⟩
          | _ => cases hq
      · intro s hS
        refine ifb (fun h1 => ?_) (fun h1 => ?_)
        · obtain ⟨h1, h2⟩ := Bool.and_eq_true_iff.mp h1
          obtain ⟨r, hr⟩ := Option.isSome_iff_exists.mp h2
          obtain ⟨hrl, la, rs, hval, hla, hrv⟩ := hT.d1 r hr
          have ep : putl tab (l.take (i + 1)) = putl tab (l.take i) ++ r := by rw [putl_take hp, h1, hr]
          row_hasAny m_goK
          rename Sat _ _ _ _ => hS
          refine subd hS (.imm hT.at_) hval (fun s hS => ?_) (by with_unfolding_all rfl)
          have hrl2 := hrv.1
          refine for_list (U := [.ls ta tgs, .ls ia xs]) (R := R') (fun j c' vs' U' => ∃ xs' tgs' tg vl, vs' = [some (.ref a), some (.ref tb), some (.ref ia), some (.ref ta), some (.int i tk), some (.ref au), tg, vl] ∧ U' = [.ls ta (tgs ++ tgs'), .ls ia (xs ++ xs')] ∧ IsVs w c' ((r.take j).map (·.2)) xs' ∧ TagsAre ((r.take j).map (·.1)) tgs') hR.h hla.isList go_list2 hS ⟨[], [], _, _, rfl, by simp, IsVs.nil, TagsAre.nil⟩ ?_ ?_
          · rintro j y c4 vs4 U4 R4 s4 hy l4 ⟨xs', tgs', tg', vl', rfl, rfl, hxs', htg'⟩ hsub4 hS
            replace hS : Sat w c4 (_ :: .ls ta (tgs ++ tgs') :: .ls ia (xs ++ xs') :: R4) s4 := hS
            have hjl : j < r.length := by have := (List.getElem?_eq_some_iff.mp hy).1; (first | lia | omega)
            have hrj : r[j]? = some r[j] := List.getElem?_eq_getElem hjl
            generalize r[j] = rp at hrj
            obtain ⟨ra, g', u', rfl, htup, hg', hu'⟩ := (hrv.2 j rp y hrj hy).mono l4
            have hj1 := hxs'.1
            have hj2 := htg'.1
            have hj4 : (r.take j).length ≤ j := by simp; (first | lia | omega)
            simp only [List.length_map] at hj1 hj2
            row_hasAny m_k
            row_hasAny m_goK
            rename Sat _ _ _ _ => hS
            refine fn156 (n := 2) hS (hR.less (by (first | lia | omega))) hu' fun s hS => ?_
            row_hasAny m_goK
            rename Sat _ _ _ _ => hS
            refine append_ hS (by row_hasAny m_lk) (by simp only [List.length_append]; (first | lia | omega)) fun s hS => ?_
            row_hasAny m_goK
            rename Sat _ _ _ _ => hS
            refine append_ hS (by row_hasAny m_lk) (by simp only [List.length_append]; (first | lia | omega)) fun s hS => ?_
            row_hasAny m_goK
            rename Sat _ _ _ _ => hS
            refine ⟨c4, _, [.ls ta (tgs ++ (tgs' ++ [g'])), .ls ia (xs ++ (xs' ++ [u']))], .refl _, ⟨xs' ++ [u'], tgs' ++ [g'], _, _, rfl, rfl, ?_, ?_⟩, by simpa [List.append_assoc] using hS⟩
            · rw [List.take_add_one, hrj, List.map_append]; exact hxs'.append (.one hu')
            · rw [List.take_add_one, hrj, List.map_append]; exact htg'.append (.one hg')
          · rintro c4 vs4 U4 s4 l4 ⟨xs', tgs', tg', vl', rfl, rfl, hxs', htg'⟩ hS
            row_hasAny m_goK
            rename Sat _ _ _ _ => hS
            rw [hrl2, List.take_length] at hxs' htg'
            refine ⟨c4, _, [.ls ta (tgs ++ tgs'), .ls ia (xs ++ xs')], l4, ⟨xs ++ xs', tgs ++ tgs', _, _, _, _, rfl, rfl, ?_, ?_⟩, hS⟩
            · rw [ep, List.map_append]; exact (hxs.mono l4).append hxs'
            · rw [ep, List.map_append]; exact htg.append htg'
        · have ep : putl tab (l.take (i + 1)) = putl tab (l.take i) ++ [(p.1, put tab p.2)] := by
            rw [putl_take hp]
            cases q1 : isDots p.2 with
            | false => rfl
            | true =>
              cases q2 : tab.rows with
              | none => rfl
              | some r => rw [q1, q2] at h1; cases h1
          row_hasAny m_goK
          rename Sat _ _ _ _ => hS
          refine ih p hpm hS (hR.less (by have := deep_mem hpm; (first | lia | omega))) hpv (hw3 p hpm) hm hT fun c4 s4 y l4 hS hy => ?_
          have hO := hO.mono l4
          have htl := Heap.PlainList.keeps htl l4.keep
          row_hasAny m_goK
          rename Sat _ _ _ _ => hS
          refine append_ hS (by row_hasAny m_lk) (by (first | lia | omega)) fun s hS => ?_
          row_hasAny m_goK
          rename Sat _ _ _ _ => hS
          refine append_ hS (by row_hasAny m_lk) (by (first | lia | omega)) fun s hS => ?_
          row_hasAny m_goK
          rename Sat _ _ _ _ => hS
          refine ⟨c4, _, [.ls ta (tgs ++ [g]), .ls ia (xs ++ [y])], l4, ⟨xs ++ [y], tgs ++ [g], _, _, _, _, rfl, rfl, ?_, ?_⟩, hS⟩
          · rw [ep, List.map_append]; exact (hxs.mono l4).append (.one hy)
          · rw [ep, List.map_append]; exact htg.append (.one hgt)
    · rintro c3 vs' U' s' l3 ⟨xs, tgs, pl, pt, tg, vl, rfl, rfl, hxs, htg⟩ hS
      replace hS : Sat w c3 (_ :: .ls ta tgs :: .ls ia xs :: V) s' := hS
      rw [hlen, List.take_length] at hxs htg
      row_hasAny m_goK
      rename Sat _ _ _ _ => hS
      obtain ⟨c4, l4, hS, h5⟩ := hS.freeze (p := .ls ta tgs) (.tail .head)
      obtain ⟨c5, l5, hS, h6⟩ := hS.freeze (p := .ls ia xs) (.tail .head)
      refine new_call (n := 1) hS (hR.less (by (first | lia | omega))) h6 (Heap.PlainList.keeps h5 l5.keep) (hxs.mono (l4.trans l5)) htg fun b c6 s6 l6 hS hb => ?_
      repeat row_hasAny m_out
      exact ⟨c6, _, V, ((l3.trans l4).trans l5).trans l6, hS, rfl, by rw [put_calll]; exact hb⟩
  · rintro r c' V' s' l h ⟨rfl, hv⟩
    exact k c' s' r l h hv
theorem fn191 (w : World) (tab : Tab) (t : T) : C191 w tab t := by
  induction t using T.ind with
  | h1 x => exact fn191_name
  | h2 => exact fn191_other (t := .null) rfl rfl
  | h3 => exact fn191_other (t := .miss) rfl rfl
  | h4 k ds => exact fn191_other (t := .leaf k ds) rfl rfl
  | h5 l ih => exact fn191_call ih
/-- depth -/
noncomputable def C219 (w : World) (t : T) : Prop := ∀ {A : Around} {E : Value → Shared → Prop} {c : Ctx} {V : List Cell} {s : Shared} {v : Value} {m : Nat} {Q : Value → Shared → Prop}, Sat w c V s → Room A (deep t + 2) → IsV w c t v → Wide m t → m ≤ 1000 →
    (∀ c' s' tk, c.Le c' → Sat w c' V s' → Q (.int (deep t : Nat) tk) s') → wpAny (MM w) A (call (.ref 219) [v]) Q E s
theorem fn219_in {w : World} {t : T} (ih : ∀ p ∈ kids t, C219 w p.2) : C219 w t := by
  intro A E c V s v m Q hS hR hv hw hm k
  refine call_fn (n := deep t + 1) (rest := ["deepest", "part"]) (Post := fun r c' V' => V' = V ∧ ∃ tk, r = .int (deep t : Nat) tk) (ok219 w) hS (hR.less (by (first | lia | omega))) (binds := [("e", v)]) (vs := [some v, none, none]) (by kernel_rfl) rfl rfl ?_ ?_
  · intro env A' s hE hR hS
    obtain ⟨a, rfl⟩ := hv.ref
    row_hasAny m_k
    row_hasAny m_open
    row_hasAny m_goK
    rename Sat _ _ _ _ => hS
    refine fn163 (n := deep t) hS (hR.less (by (first | lia | omega))) hv fun c' s' pa ps le hS hpa hps => ?_
    have hv := hv.mono le
    have hpl := hps.1
    simp only [List.length_map] at hpl
    have hkl := (kids_wide hw).1
    refine for_list (U := []) (R := V) (fun i c' vs' U' => ∃ tk pv, vs' = [some (.ref a), some (.int ((mx ((kids t).take i) : Nat) : Int) tk), pv] ∧ U' = []) hR.h hpa.isList go_list hS ⟨_, none, rfl, rfl⟩ ?_ ?_
    · rintro i u c3 vs' U' R' s' hu l3 ⟨tk, pv, rfl, rfl⟩ hsub' hS
      replace hS : Sat w c3 (_ :: R') s' := hS
      have hi : i < (kids t).length := by have := (List.getElem?_eq_some_iff.mp hu).1; (first | lia | omega)
      have hq : (kids t)[i]? = some (kids t)[i] := List.getElem?_eq_getElem hi
      have hqm : (kids t)[i] ∈ kids t := List.getElem_mem hi
      generalize (kids t)[i] = q at hq hqm
      have hqv := (hps.2 i q.2 u (by simp [hq]) hu).mono l3
      row_hasAny m_k
      row_hasAny m_goK
      rename Sat _ _ _ _ => hS
      refine ih q hqm hS (hR.less (by have := kids_deep hqm; (first | lia | omega))) hqv ((kids_wide hw).2 q hqm) hm fun c4 s4 tk' l4 hS => ?_
      row_hasAny m_goK
      rename Sat _ _ _ _ => hS
      refine max_ hR.h hS fun tk2 s hS => ?_
      row_hasAny m_goK
      rename Sat _ _ _ _ => hS
      refine ⟨c4, _, [], l4, ⟨tk2, some u, ?_, rfl⟩, hS⟩
      rw [List.take_add_one, hq, Option.toList_some, mx_app]
    · rintro c3 vs' U' s' l3 ⟨tk, pv, rfl, rfl⟩ hS
      replace hS : Sat w c3 (_ :: V) s' := hS
      have hv := hv.mono l3
      rw [hpl, List.take_length] at hS
      row_hasAny m_goK
      refine ifb (fun hc => ?_) (fun hc => ?_)
      · row_hasAny m_goK
        rename Sat _ _ _ _ => hS
        have e : ((mx (kids t) : Nat) : Int) + 1 = ((deep t : Nat) : Int) := by rw [deep_kids t, hc, if_pos rfl]; (first | lia | omega)
        exact ⟨c3, _, V, le.trans l3, hS, rfl, _, congrArg (fun z => Value.int z _) e⟩
      · row_hasAny m_goK
        rename Sat _ _ _ _ => hS
        have e : ((mx (kids t) : Nat) : Int) = ((deep t : Nat) : Int) := by rw [deep_kids t, hc, if_neg Bool.noConfusion, Nat.zero_add]
        exact ⟨c3, _, V, le.trans l3, hS, rfl, _, congrArg (fun z => Value.int z _) e⟩
  · rintro r c' V' s' l h ⟨rfl, tk, rfl⟩
    exact k c' s' tk l h
theorem fn219 (w : World) (t : T) : C219 w t := by
  induction t using T.ind with
  | h1 x => exact fn219_in (t := .name x) fun _ h => nomatch h
  | h2 => exact fn219_in (t := .null) fun _ h => nomatch h
  | h3 => exact fn219_in (t := .miss) fun _ h => nomatch h
  | h4 k ds => exact fn219_in (t := .leaf k ds) fun _ h => nomatch h
  | h5 l ih => exact fn219_in (t := .call l) ih
noncomputable def holey : T → Bool
  | .call [(_, .name _), _] => true
  | _ => false
/-- hole_of -/
theorem fn231 {w : World} {A : Around} {E : Value → Shared → Prop} {c : Ctx} {V : List Cell} {s : Shared} {n m : Nat} {t : T} {v : Value} {Q : Value → Shared → Prop} (hS : Sat w c V s) (hR : Room A (n + 1)) (hv : IsV w c t v) (hw : Wide m t) (hm : m ≤ 1000)
    (k : ∀ c' s' tk, c.Le c' → Sat w c' V s' → Q (.str (hole t) tk) s') : wpAny (MM w) A (call (.ref 231) [v]) Q E s := by
  refine call_fn (n := n) (rest := []) (Post := fun r c' V' => V' = V ∧ ∃ tk, r = .str (hole t) tk) (ok231 w) hS hR (binds := [("e", v)]) (vs := [some v]) (by kernel_rfl) rfl rfl ?_ ?_
  · intro env A' s hE hR hS
    obtain ⟨a, rfl⟩ := hv.ref
    row_hasAny m_k
    row_hasAny m_open
    refine wpAny_If ?_
    refine cutB (!holey t) hS ?_ ?_
    · cases hc : isCall t with
      | false =>
        row_hasAny m_goK
        rename Sat _ _ _ _ => hS
        refine ⟨?_, hS⟩
        cases t with
        | call => cases hc
        | _ => rfl
      | true =>
        cases hv with
        | name => cases hc
        | null => cases hc
        | miss => cases hc
        | leaf => cases hc
        | @call a li lt t0 l us ts hO hpl htl hlen htlen hvs hts =>
        cases hw with
        | call hw1 hw2 hw3 hw4 =>
        obtain ⟨p0, l, rfl⟩ := List.exists_cons_of_ne_nil hw1
        obtain ⟨u0, us, rfl⟩ : ∃ u0 ur, us = u0 :: ur := by cases us with | nil => cases hlen | cons x y => exact ⟨x, y, rfl⟩
        have hu0 := hvs 0 p0 u0 rfl rfl
        obtain ⟨a0, rfl⟩ := hu0.ref
        simp only [List.length_cons] at hlen hw2
        row_hasAny m_goK
        rename Sat _ _ _ _ => hS
        refine len_ hS (hS.list (.imm hpl)) (by simp only [List.length_cons]; (first | lia | omega)) fun t s hS => ?_
        row_hasAny m_goK
        refine ifb (fun h1 => ?_) (fun h1 => ?_)
        · row_hasAny m_goK
          rename Sat _ _ _ _ => hS
          refine ⟨?_, hS⟩
          simp only [List.length_cons, hlen, Bool.not_eq_true', decide_eq_false_iff_not] at h1
          match l with
          | [] => cases p0 with | mk g t => cases t <;> rfl
          | [_] => exact absurd rfl h1
          | _ :: _ :: _ => cases p0 with | mk g t => cases t <;> rfl
        · simp only [List.length_cons, hlen, Bool.not_eq_false', decide_eq_true_eq] at h1
          obtain ⟨p1, rfl⟩ : ∃ p1, l = [p1] := by
            match l with
            | [p1] => exact ⟨p1, rfl⟩
            | [] => simp at h1
            | _ :: _ :: _ => simp at h1; (first | lia | omega)
          row_hasAny m_goK
          refine ifb (fun h2 => ?_) (fun h2 => ?_)
          · row_hasAny m_goK
            rename Sat _ _ _ _ => hS
            refine ⟨?_, hS⟩
            cases p0 with | mk g t => cases t <;> first | rfl | cases h2
          · row_hasAny m_goK
            rename Sat _ _ _ _ => hS
            refine ⟨?_, hS⟩
            cases p0 with | mk g t => cases t <;> first | rfl | cases h2
    · intro s hS
      refine ifb (fun hc => ?_) (fun hc => ?_)
      · row_hasAny m_goK
        rename Sat _ _ _ _ => hS
        have e : hole t = "" := by
          unfold hole
          split
          · cases hc
          · rfl
        exact ⟨c, _, V, .refl _, hS, rfl, _, congrArg (fun z => Value.str z _) e.symm⟩
      · have hv' := hv
        cases hv with
        | @call a li lt t0 l us ts hO hpl htl hlen htlen hvs hts =>
          match l, hc with
          | [(g0, .name x), p1], _ =>
          obtain ⟨u0, us, rfl⟩ : ∃ u0 ur, us = u0 :: ur := by cases us with | nil => cases hlen | cons x y => exact ⟨x, y, rfl⟩
          have hu0 := hvs 0 _ u0 rfl rfl
          have hx : PyData.strOk x = true := by
            cases hw with
            | call hw1 hw2 hw3 hw4 => have := hw3 _ (.head _); cases this with | name h => exact h
          cases hu0 with
          | name hO2 =>
          row_hasAny m_goK
          rename Sat _ _ _ _ => hS
          refine newTup hS (by simp) fun ta c1 s1 l1 hS hta => ?_
          refine inT (d := .str x) (l := [one, two].map .str) hS hR hta (rds_mkc rd_s (rds_mkc rd_s rds_mk)) rd_s (by kernel_rfl) hx (by simp [PyData.depth]) ?_
          rw [any_strs]
          have hO := hO.mono l1
          have hO2 := hO2.mono l1
          have hpl := Heap.PlainList.keeps hpl l1.keep
          have e : hole (.call [(g0, .name x), p1]) = if x ∈ [one, two] then x else "" := by simp [hole]
          row_hasAny m_goK
          refine ifb (fun h2 => ?_) (fun h2 => ?_)
          · row_hasAny m_goK
            rename Sat _ _ _ _ => hS
            exact ⟨c1, _, V, l1, hS, rfl, _, congrArg (fun z => Value.str z _) (by rw [e, if_pos (of_decide_eq_true h2)])⟩
          · row_hasAny m_goK
            rename Sat _ _ _ _ => hS
            exact ⟨c1, _, V, l1, hS, rfl, _, congrArg (fun z => Value.str z _) (by rw [e, if_neg (of_decide_eq_false h2)])⟩
        | _ => cases hc
  · rintro r c' V' s' l h ⟨rfl, tk, rfl⟩
    exact k c' s' tk l h
theorem toP_kind {w : World} {c : Ctx} {t1 t2 : T} {v1 v2 : Value} (h1 : IsV w c t1 v1) (h2 : IsV w c t2 v2) (h : t1.toP = t2.toP) : kindS t1 = kindS t2 := by
  have nm : ∀ {k : Str}, LeafK k → ¬ ("name" : Str) = k := fun h e => h.h8 e.symm
  cases h1 with
  | name => cases h2 with
    | name => rfl
    | leaf hk => simp [T.toP] at h
    | _ => simp [T.toP] at h
  | null => cases h2 <;> first | rfl | (simp [T.toP] at h; done) | (simp [T.toP] at h; exact absurd h (by decide))
  | miss => cases h2 <;> first | rfl | (simp [T.toP] at h; done) | (simp [T.toP] at h; exact absurd h (by decide))
  | leaf hk => cases h2 <;> first | (simp [T.toP] at h; done) | (simp [T.toP] at h; exact h.1)
  | call => cases h2 <;> first | rfl | simp [T.toP] at h
/-- same_attrs of two vectors without attributes -/
theorem fn198 {w : World} {A : Around} {E : Value → Shared → Prop} {c : Ctx} {V : List Cell} {s : Shared} {n : Nat} {a b : Addr} {x1 x2 x3 y1 y2 y3 : Option Value} {Q : Value → Shared → Prop} (hS : Sat w c V s) (hR : Room A (n + 1))
    (h1 : VecI w c a 88 nmVec [x1, x2, some .none, x3]) (h2 : VecI w c b 88 nmVec [y1, y2, some .none, y3]) (k : ∀ s', Sat w c V s' → Q (.bool true) s') : wpAny (MM w) A (call (.ref 198) [.ref a, .ref b]) Q E s := by
  refine call_fn (n := n) (rest := ["first", "second", "name"]) (Post := fun r c' V' => V' = V ∧ c' = c ∧ r = .bool true) (ok198 w) hS hR (binds := [("u", .ref a), ("v", .ref b)]) (vs := [some (.ref a), some (.ref b), none, none, none]) (by kernel_rfl) rfl rfl ?_ ?_
  · intro env A' s hE hR hS
    row_hasAny m_k
    row_hasAny m_open
    row_hasAny m_goK
    rename Sat _ _ _ _ => hS
    exact ⟨c, _, V, .refl _, hS, rfl, rfl, rfl⟩
  · rintro r c' V' s' l h ⟨rfl, rfl, rfl⟩
    exact k _ h

/-- language_equal, all_equal -/
noncomputable def C205 (w : World) (t : T) : Prop := ∀ {A : Around} {E : Value → Shared → Prop} {c : Ctx} {V : List Cell} {s : Shared} {u : T} {a b : Value} {m m' : Nat} {Q : Value → Shared → Prop}, Sat w c V s → Room A (2 * deep t + 3) → IsV w c t a → IsV w c u b → Wide m t → Wide m' u → m ≤ 1000 → m' ≤ 1000 →
    (∀ c' s', c.Le c' → Sat w c' V s' → Q (.bool (same t u)) s') → wpAny (MM w) A (call (.ref 205) [a, b]) Q E s
noncomputable def pre (l : List (Tag × T)) : List PyData := l.map fun p => p.2.toP
theorem pre_plain (l : List (Tag × T)) : plainPs (pre l) = true := plainPs_of fun x hx => by obtain ⟨d, _, rfl⟩ := List.mem_map.mp hx; exact plain_T _
theorem fn212 {w : World} {l l' : List (Tag × T)} (ih : ∀ p ∈ l, C205 w p.2) {A : Around} {E : Value → Shared → Prop} {c : Ctx} {V : List Cell} {s : Shared} {n m m' : Nat} {la lb : Addr} {us vs : List Value} {Q : Value → Shared → Prop} (hS : Sat w c V s) (hR : Room A (n + 1)) (hn : ∀ p ∈ l, 2 * deep p.2 + 3 ≤ n)
    (ha : c.I.PlainList la us.toArray) (hb : c.I.PlainList lb vs.toArray) (hus : IsVs w c (l.map (·.2)) us) (hvs : IsVs w c (l'.map (·.2)) vs) (hw : ∀ p ∈ l, Wide m p.2) (hw' : ∀ p ∈ l', Wide m' p.2) (hm : m ≤ 1000) (hm' : m' ≤ 1000) (hl : l.length ≤ 1000) (hl' : l'.length ≤ 1000)
    (k : ∀ c' s', c.Le c' → Sat w c' V s' → Q (.bool (PyData.eqvAll (pre l) (pre l'))) s') : wpAny (MM w) A (call (.ref 212) [.ref la, .ref lb]) Q E s := by
  have hlu := hus.1
  have hlv := hvs.1
  simp only [List.length_map] at hlu hlv
  refine call_fn (n := n) (rest := ["place"]) (Post := fun r c' V' => V' = V ∧ r = .bool (PyData.eqvAll (pre l) (pre l'))) (ok212 w) hS hR (binds := [("first", .ref la), ("second", .ref lb)]) (vs := [some (.ref la), some (.ref lb), none]) (by kernel_rfl) rfl rfl ?_ ?_
  · intro env A' s hE hR hS
    row_hasAny m_k
    row_hasAny m_open
    row_hasAny m_goK
    rename Sat _ _ _ _ => hS
    refine len_ hS (hS.list (.imm ha)) (by (first | lia | omega)) fun t1 s hS => ?_
    row_hasAny m_goK
    rename Sat _ _ _ _ => hS
    refine len_ hS (hS.list (.imm hb)) (by (first | lia | omega)) fun t2 s hS => ?_
    row_hasAny m_goK
    rename Sat _ _ _ _ => hS
    refine ifb (fun hc => ?_) (fun hc => ?_)
    · row_hasAny m_goK
      rename Sat _ _ _ _ => hS
      refine ⟨c, _, V, .refl _, hS, rfl, congrArg Value.bool ?_⟩
      refine (Bool.eq_false_iff.mpr fun q => ?_).symm
      have := congrArg List.length ((eqvs_iff _ _ (pre_plain l) (pre_plain l')).mp q)
      simp only [pre, List.length_map] at this
      simp only [Bool.not_eq_true', decide_eq_false_iff_not] at hc
      (first | lia | omega)
    · have hll : l.length = l'.length := by
        simp only [Bool.not_eq_false', decide_eq_true_eq] at hc
        (first | lia | omega)
      row_hasAny m_goK
      rename Sat _ _ _ _ => hS
      refine len_ hS (hS.list (.imm ha)) (by (first | lia | omega)) fun t1 s hS => ?_
      row_hasAny m_goK
      rename Sat _ _ _ _ => hS
      refine range_ hS fun r s t u v hS hr => ?_
      row_hasAny m_goK
      rename Sat _ _ _ _ => hS
      refine for_range (U := []) (R := V) (fun i c' vs' U' => U' = [] ∧ ∃ pl, vs' = [some (.ref la), some (.ref lb), pl] ∧ (pre l).take i = (pre l').take i) hR.h hr (by (first | lia | omega)) hS ⟨rfl, none, rfl, rfl⟩ ?_ ?_
      · rintro i tk c3 vs' U' R' s' hi l3 ⟨rfl, pl, rfl, hpre⟩ hsub hS
        replace hS : Sat w _ (_ :: R') s' := hS
        have ha := Heap.PlainList.keeps ha l3.keep
        have hb := Heap.PlainList.keeps hb l3.keep
        have hp : l[i]? = some l[i] := List.getElem?_eq_getElem (by (first | lia | omega))
        have hpm : l[i] ∈ l := List.getElem_mem (by (first | lia | omega))
        generalize l[i] = p at hp hpm
        have hp' : l'[i]? = some l'[i] := List.getElem?_eq_getElem (by (first | lia | omega))
        have hpm' : l'[i] ∈ l' := List.getElem_mem (by (first | lia | omega))
        generalize l'[i] = p' at hp' hpm'
        have hu : us[i]? = some us[i] := List.getElem?_eq_getElem hi
        generalize us[i] = x at hu
        have hv : vs[i]? = some vs[i] := List.getElem?_eq_getElem (by (first | lia | omega))
        generalize vs[i] = y at hv
        have hx := (hus.2 i p.2 x (by simp [hp]) hu).mono l3
        have hy := (hvs.2 i p'.2 y (by simp [hp']) hv).mono l3
        row_hasAny m_k
        row_hasAny m_goK
        rename Sat _ _ _ _ => hS
        refine ih p hpm hS (hR.less (hn p hpm)) hx hy (hw p hpm) (hw' p' hpm') hm hm' fun c4 s l4 hS => ?_
        row_hasAny m_goK
        refine ifb (fun h1 => ?_) (fun h1 => ?_)
        · row_hasAny m_goK
          rename Sat _ _ _ _ => hS
          refine ⟨c4, _, V, l3.trans l4, hS.sub (.cons_cons _ hsub), rfl, congrArg Value.bool ?_⟩
          refine (Bool.eq_false_iff.mpr fun q => ?_).symm
          have q2 := congrArg (fun z : List PyData => z[i]?) ((eqvs_iff _ _ (pre_plain l) (pre_plain l')).mp q)
          simp only [pre, List.getElem?_map, hp, hp', Option.map_some, Option.some.injEq] at q2
          rw [same_iff.mpr q2] at h1
          cases h1
        · row_hasAny m_goK
          rename Sat _ _ _ _ => hS
          refine ⟨c4, _, [], l4, ⟨rfl, _, rfl, ?_⟩, hS⟩
          have h2 : same p.2 p'.2 = true := by simpa using h1
          have h3 := same_iff.mp h2
          have e1 : (pre l)[i]? = some p.2.toP := by simp [pre, hp]
          have e2 : (pre l')[i]? = some p'.2.toP := by simp [pre, hp']
          rw [List.take_add_one, List.take_add_one, hpre, e1, e2, h3]
      · rintro c3 vs' U' s' l3 ⟨rfl, pl, rfl, hpre⟩ hS
        row_hasAny m_goK
        rename Sat _ _ _ _ => hS
        refine ⟨c3, _, V, l3, hS, rfl, congrArg Value.bool ?_⟩
        refine ((eqvs_iff _ _ (pre_plain l) (pre_plain l')).mpr ?_).symm
        have e1 : us.length = (pre l).length := by simp only [pre, List.length_map]; (first | lia | omega)
        have e2 : us.length = (pre l').length := by simp only [pre, List.length_map]; (first | lia | omega)
        rwa [e1, List.take_length, ← e1, e2, List.take_length] at hpre
  · rintro r c' V' s' l h ⟨rfl, rfl⟩
    exact k _ _ l h
theorem same_kind {w : World} {c : Ctx} {t u : T} {a b : Value} (ha : IsV w c t a) (hb : IsV w c u b) (h : kindS t ≠ kindS u) : same t u = false :=
  same_ne fun e => h (toP_kind ha hb e)
theorem eqv_tup2 {x y z v : PyData} : PyData.eqv (.tuple [x, y]) (.tuple [z, v]) = (PyData.eqv x z && PyData.eqv y v) := by simp [PyData.eqv, PyData.eqvAll]
theorem shaped_tags {l : List (Tag × T)} (h : ∀ p ∈ l, ∀ s, p.1 = some s → PyData.strOk s = true) : SeqAt.shaped (.list ((l.map (·.1)).map tagP)) = true := by
  have h1 : PyData.canLayAll0 ((l.map (·.1)).map tagP) = true := canLayAll_of fun x hx => by
    obtain ⟨g, hg, rfl⟩ := List.mem_map.mp hx
    obtain ⟨p, hp, rfl⟩ := List.mem_map.mp hg
    exact lay_tag (h p hp)
  have h2 := depthAll_of (xs := (l.map (·.1)).map tagP) (n := 0) fun x hx => by obtain ⟨d, _, rfl⟩ := List.mem_map.mp hx; exact dep_tag _
  have h3 : (PyData.list ((l.map (·.1)).map tagP)).depth ≤ 3 := by simp only [PyData.depth]; (first | lia | omega)
  simp only [SeqAt.shaped, Bool.and_eq_true, decide_eq_true_eq]
  exact ⟨by simpa only [PyData.canLay0] using h1, by (first | lia | omega)⟩
theorem shaped_atoms {ds : List Atom} (h : ∀ d ∈ ds, ∀ s, d = .str s → PyData.strOk s = true) : SeqAt.shaped (.list (ds.map Atom.toP)) = true := by
  have h1 : PyData.canLayAll0 (ds.map Atom.toP) = true := canLayAll_of fun x hx => by
    obtain ⟨d, hd, rfl⟩ := List.mem_map.mp hx
    exact lay_atom (h d hd)
  have h2 := depthAll_of (xs := ds.map Atom.toP) (n := 1) fun x hx => by obtain ⟨d, _, rfl⟩ := List.mem_map.mp hx; exact dep_atom _
  have h3 : (PyData.list (ds.map Atom.toP)).depth ≤ 3 := by simp only [PyData.depth]; (first | lia | omega)
  simp only [SeqAt.shaped, Bool.and_eq_true, decide_eq_true_eq]
  exact ⟨by simpa only [PyData.canLay0] using h1, by (first | lia | omega)⟩
theorem fn205_in {w : World} {t : T} (ih : ∀ p ∈ kids t, C205 w p.2) : C205 w t := by
  intro A E c V s u a b m m' Q hS hR ha hb hw hw' hm hm' k
  refine call_fn (n := 2 * deep t + 2) (rest := []) (Post := fun r c' V' => V' = V ∧ r = .bool (same t u)) (ok205 w) hS hR (binds := [("u", a), ("v", b)]) (vs := [some a, some b]) (by kernel_rfl) rfl rfl ?_ ?_
  · intro env A' s hE hR hS
    obtain ⟨aa, rfl⟩ := ha.ref
    obtain ⟨ab, rfl⟩ := hb.ref
    row_hasAny m_k
    row_hasAny m_open
    row_hasAny m_goK
    refine nes_d ?_
    row_hasAny m_goK
    refine ifb (fun h1 => ?_) (fun h1 => ?_)
    · row_hasAny m_goK
      rename Sat _ _ _ _ => hS
      have hne : kindS t ≠ kindS u := by simpa using h1
      exact ⟨_, _, V, .refl _, hS, rfl, congrArg Value.bool (same_kind ha hb hne).symm⟩
    · have he : kindS t = kindS u := by simpa using h1
      have hb' := hb
      cases ha with
      | @name _ _ _ x hO =>
        cases hb with
        | @name _ _ _ y hO2 =>
          row_hasAny m_goK
          refine eqs_d ?_
          row_hasAny m_goK
          rename Sat _ _ _ _ => hS
          refine ⟨_, _, V, .refl _, hS, rfl, congrArg Value.bool ?_⟩
          have : same (.name x) (.name y) = (x == y) := by simp [same, T.toP, PyData.eqv, PyData.eqvAll]
          rw [this]
          by_cases q : x = y <;> simp [q]
        | leaf hk => exact absurd he.symm hk.h1
        | _ => exact absurd he (by simp only [kindS]; decide)
      | null hO =>
        cases hb with
        | null =>
          row_hasAny m_goK
          rename Sat _ _ _ _ => hS
          exact ⟨_, _, V, .refl _, hS, rfl, congrArg Value.bool (same_refl _).symm⟩
        | leaf hk => exact absurd he.symm hk.h4
        | _ => exact absurd he (by simp only [kindS]; decide)
      | miss hO =>
        cases hb with
        | miss =>
          row_hasAny m_goK
          rename Sat _ _ _ _ => hS
          exact ⟨_, _, V, .refl _, hS, rfl, congrArg Value.bool (same_refl _).symm⟩
        | leaf hk => exact absurd he.symm hk.h5
        | _ => exact absurd he (by simp only [kindS]; decide)
      | @leaf _ li tk kd ds vs hk hO hl hvs =>
        cases hb with
        | @leaf _ li2 tk2 kd2 ds2 vs2 hk2 hO2 hl2 hvs2 =>
          row_hasAny m_goK
          rename Sat _ _ _ _ => hS
          refine isi_vec hS hO ?_
          row_hasAny m_goK
          rename Sat _ _ _ _ => hS
          refine fn198 (n := 0) hS (hR.less (by (first | lia | omega))) hO hO2 fun s hS => ?_
          cases hw with
          | leaf hk1 hk2 hk3 =>
          cases hw' with
          | leaf hx1 hx2 hx3 =>
          have he : kd = kd2 := he
          subst he
          row_hasAny m_goK
          rename Sat _ _ _ _ => hS
          refine newTup hS (by simp) fun ta c1 s1 l1 hS hta => ?_
          refine inT (d := .str kd) (l := [("list" : Str), "expression", "pairlist"].map .str) hS hR hta (rds_mkc rd_s (rds_mkc rd_s (rds_mkc rd_s rds_mk))) rd_s (by kernel_rfl) hk1 (by simp [PyData.depth]) ?_
          rw [any_strs, show decide (kd ∈ [("list" : Str), "expression", "pairlist"]) = false from decide_eq_false (by simp [hk.h6, hk.h3, hk.h7])]
          have hO := hO.mono l1
          have hO2 := hO2.mono l1
          row_hasAny m_goK
          rename Sat _ _ _ _ => hS
          refine eqD hS hR (rd_mkl (Heap.PlainList.keeps hl l1.keep).isList (hvs.mono l1)) (rd_mkl (Heap.PlainList.keeps hl2 l1.keep).isList (hvs2.mono l1)) (shaped_atoms hk3) (shaped_atoms hx3) ?_
          row_hasAny m_goK
          rename Sat _ _ _ _ => hS
          refine ⟨c1, _, V, l1, hS, rfl, congrArg Value.bool ?_⟩
          simp [same, T.toP, PyData.eqv, PyData.eqvAll]
        | name => exact absurd he hk.h1
        | null => exact absurd he hk.h4
        | miss => exact absurd he hk.h5
        | call => exact absurd he hk.h2
      | @call _ li lt tk l us ts hO hpl htl hlen htlen hvs hts =>
        cases hb with
        | @call _ li2 lt2 tk2 l2 us2 ts2 hO2 hpl2 htl2 hlen2 htlen2 hvs2 hts2 =>
          row_hasAny m_goK
          rename Sat _ _ _ _ => hS
          have hT1 : RDs c ((l.map (·.1)).map tagP) ts := rds_tags ⟨by simpa using htlen, fun i g v h1 h2 => by
            simp only [List.getElem?_map, Option.map_eq_some_iff] at h1
            obtain ⟨q, hq, rfl⟩ := h1
            exact hts i q v hq h2⟩
          have hT2 : RDs c ((l2.map (·.1)).map tagP) ts2 := rds_tags ⟨by simpa using htlen2, fun i g v h1 h2 => by
            simp only [List.getElem?_map, Option.map_eq_some_iff] at h1
            obtain ⟨q, hq, rfl⟩ := h1
            exact hts2 i q v hq h2⟩
          cases hw with
          | call hw1 hw2 hw3 hw4 =>
          cases hw' with
          | call hx1 hx2 hx3 hx4 =>
          refine eqD hS hR (rd_mkl htl.isList hT1) (rd_mkl htl2.isList hT2) (shaped_tags hw4) (shaped_tags hx4) ?_
          have e : same (.call l) (.call l2) = (PyData.eqv (.list ((l.map (·.1)).map tagP)) (.list ((l2.map (·.1)).map tagP)) && PyData.eqvAll (pre l) (pre l2)) := by
            simp only [same, toP_call, PyData.eqv, PyData.eqvAll, pre, List.map_map, Function.comp_def, beq_self_eq_true, Bool.true_and, Bool.and_true]
            exact Bool.and_comm _ _
          generalize PyData.eqv (.list ((l.map (·.1)).map tagP)) (.list ((l2.map (·.1)).map tagP)) = B at e ⊢
          row_hasAny m_goK
          refine ifb (fun h1 => ?_) (fun h1 => ?_)
          · row_hasAny m_goK
            rename Sat _ _ _ _ => hS
            refine fn212 (l := l) (l' := l2) (fun p hp => ih p hp) (n := 2 * deep (.call l) + 1) hS hR (fun p hp => by have := deep_mem hp; (first | lia | omega)) hpl hpl2 ⟨by simpa using hlen, fun i p v q1 q2 => ?_⟩ ⟨by simpa using hlen2, fun i p v q1 q2 => ?_⟩ hw3 hx3 hm hm' (by (first | lia | omega)) (by (first | lia | omega)) fun c2 s l2 hS => ?_
            · simp only [List.getElem?_map, Option.map_eq_some_iff] at q1
              obtain ⟨q, hq, rfl⟩ := q1
              exact hvs i q v hq q2
            · simp only [List.getElem?_map, Option.map_eq_some_iff] at q1
              obtain ⟨q, hq, rfl⟩ := q1
              exact hvs2 i q v hq q2
            · row_hasAny m_goK
              rename Sat _ _ _ _ => hS
              exact ⟨c2, _, V, l2, hS, rfl, congrArg Value.bool (by rw [e, h1]; rfl)⟩
          · row_hasAny m_goK
            rename Sat _ _ _ _ => hS
            exact ⟨_, _, V, .refl _, hS, rfl, congrArg Value.bool (by rw [e, h1]; rfl)⟩
        | leaf hk => exact absurd he.symm hk.h2
        | _ => exact absurd he (by simp only [kindS]; decide)
  · rintro r c' V' s' l h ⟨rfl, rfl⟩
    exact k _ _ l h
theorem fn205 (w : World) (t : T) : C205 w t := by
  induction t using T.ind with
  | h1 x => exact fn205_in (t := .name x) fun _ h => nomatch h
  | h2 => exact fn205_in (t := .null) fun _ h => nomatch h
  | h3 => exact fn205_in (t := .miss) fun _ h => nomatch h
  | h4 k ds => exact fn205_in (t := .leaf k ds) fun _ h => nomatch h
  | h5 l ih => exact fn205_in (t := .call l) ih
theorem isl_len {c : Ctx} {l : List (Tag × T)} {us : List Value} (h : IsLs c (l.map (·.2)) us) : us.length = l.length := by simpa using h.1
theorem isl_get {c : Ctx} {l : List (Tag × T)} {us : List Value} (h : IsLs c (l.map (·.2)) us) {i : Nat} {p : Tag × T} {u : Value} (h1 : l[i]? = some p) (h2 : us[i]? = some u) : IsL c p.2 u := h.2 i p.2 u (by simp [h1]) h2
theorem kidsK {l : List (Tag × T)} (h : LK (.call l)) : ∀ p ∈ l, LK p.2 := by cases h with | call h => exact h
/-- _law_deep -/
noncomputable def C312 (w : World) (t : T) : Prop := ∀ {A : Around} {E : Value → Shared → Prop} {c : Ctx} {V : List Cell} {s : Shared} {v : Value} {m : Nat} {Q : Value → Shared → Prop}, Sat w c V s → Room A (deep t + 1) → IsL c t v → LK t → Wide m t → m ≤ 1000 →
    (∀ c' s' tk, c.Le c' → Sat w c' V s' → Q (.int (deep t : Nat) tk) s') → wpAny (MM w) A (call (.ref 312) [v]) Q E s
theorem fn312_in {w : World} {t : T} (ih : ∀ p ∈ kids t, C312 w p.2) : C312 w t := by
  intro A E c V s v m Q hS hR hv hk hw hm k
  refine call_fn (n := deep t) (rest := []) (Post := fun r c' V' => V' = V ∧ ∃ tk, r = .int (deep t : Nat) tk) (ok312 w) hS hR (binds := [("tree", v)]) (vs := [some v]) (by kernel_rfl) rfl rfl ?_ ?_
  · intro env A' s hE hR hS
    obtain ⟨a, rfl⟩ := hv.ref
    row_hasAny m_k
    row_hasAny m_open
    cases hc : isCall t with
    | false =>
      row_hasAny m_goK
      rename Sat _ _ _ _ => hS
      refine ⟨_, _, V, .refl _, hS, rfl, _, congrArg (fun z => Value.int z _) ?_⟩
      cases t with
      | call => cases hc
      | _ => simp [deep]
    | true =>
      refine callk (hc) fun l ee => ?_
      subst ee
      obtain ⟨_, t1, li, lt, us, ts, e, ht, hli, hlt, hus, hts⟩ := isl_call hv
      cases e
      have hul := isl_len hus
      cases hw with
      | call hw1 hw2 hw3 hw4 =>
      row_hasAny m_goK
      rename Sat _ _ _ _ => hS
      refine ListComp_ (cl := []) (by with_unfolding_all rfl) rfl (by decide) ?_
      row_hasAny m_goK
      rename Sat _ _ _ _ => hS
      rename FrOk _ _ _ _ => hE
      refine map_list (nm := ["piece"]) (gl := [("_law_deep", .ref 312)]) (fun c' i y => ∀ p, l[i]? = some p → ∃ tk, y = .int ((deep p.2 : Nat) : Int) tk) (fun _ _ _ _ h _ => h) hR.h (by decide) rfl (fun C => hE.comp (by kernel_rfl)) hli (by (first | lia | omega)) go_list hS ?_ ?_
      · rintro i u c' R' vs' cenv s' hu le hE ⟨C, hC⟩ hvs hS
        refine len1k (hvs) fun x0 ee => ?_
        subst ee
        row_hasAny m_goK
        rename Sat _ _ _ _ => hS
        have hi : i < l.length := by have := (List.getElem?_eq_some_iff.mp hu).1; (first | lia | omega)
        have hp : l[i]? = some l[i] := List.getElem?_eq_getElem hi
        have hpm : l[i] ∈ l := List.getElem_mem hi
        generalize l[i] = p at hp hpm
        refine ih p hpm hS (hR.less (by have := deep_mem hpm; (first | lia | omega))) ((isl_get hus hp hu).mono le) (kidsK hk p hpm) (hw3 p hpm) hm fun c2 s2 tk l2 hS => ?_
        exact ⟨c2, _, l2, fun q hq => by rw [hp] at hq; cases hq; exact ⟨tk, rfl⟩, hS⟩
      · intro c2 ys D s2 l2 hyl hys hS
        row_hasAny m_goK
        rename Sat _ _ _ _ => hS
        refine maxL (ns := l.map fun p => deep p.2) hR.h hS (hS.list (.vol (.tail _ (.head _)))) ⟨by simp; (first | lia | omega), fun i n v h1 h2 => ?_⟩ (by simpa using hw1) fun tk s hS => ?_
        · simp only [List.getElem?_map, Option.map_eq_some_iff] at h1
          obtain ⟨p, hp, rfl⟩ := h1
          exact hys i v h2 p hp
        · row_hasAny m_goK
          rename Sat _ _ _ _ => hS
          have hS' : Sat w c2 (_ :: V) _ := hS.sub (.cons_cons _ (.cons _ (.refl _)))
          refine ⟨c2, _, V, l2, hS', rfl, _, congrArg (fun z => Value.int z _) ?_⟩
          rw [deep_call]; (first | lia | omega)
  · rintro r c' V' s' l h ⟨rfl, tk, rfl⟩
    exact k c' s' tk l h
theorem fn312 (w : World) (t : T) : C312 w t := by
  induction t using T.ind with
  | h1 x => exact fn312_in (t := .name x) fun _ h => nomatch h
  | h2 => exact fn312_in (t := .null) fun _ h => nomatch h
  | h3 => exact fn312_in (t := .miss) fun _ h => nomatch h
  | h4 k ds => exact fn312_in (t := .leaf k ds) fun _ h => nomatch h
  | h5 l ih => exact fn312_in (t := .call l) ih
/-- _law_value -/
noncomputable def C262 (w : World) (t : T) : Prop := ∀ {A : Around} {E : Value → Shared → Prop} {c : Ctx} {V : List Cell} {s : Shared} {v : Value} {m : Nat} {Q : Value → Shared → Prop}, Sat w c V s → Room A (deep t + 4) → IsL c t v → LK t → Wide m t → m ≤ 1000 →
    (∀ c' s' r, c.Le c' → Sat w c' V s' → IsV w c' t r → Q r s') → wpAny (MM w) A (call (.ref 262) [v]) Q E s
theorem fn262_in {w : World} {t : T} (ih : ∀ p ∈ kids t, C262 w p.2) : C262 w t := by
  intro A E c V s v m Q hS hR hv hk hw hm k
  refine call_fn (n := deep t + 3) (rest := []) (Post := fun r c' V' => V' = V ∧ IsV w c' t r) (ok262 w) hS hR (binds := [("tree", v)]) (vs := [some v]) (by kernel_rfl) rfl rfl ?_ ?_
  · intro env A' s hE hR hS
    row_hasAny m_k
    row_hasAny m_open
    match t with
    | .name x =>
      obtain ⟨a, t1, t2, rfl, ht⟩ := isl_name hv
      row_hasAny m_goK
      rename Sat _ _ _ _ => hS
      refine new_sym (n := 1) hS (hR.less (by (first | lia | omega))) fun b c1 s1 l1 hS hb => ?_
      repeat row_hasAny m_out
      exact ⟨c1, _, V, l1, hS, rfl, hb⟩
    | .null =>
      obtain ⟨a, t1, rfl, ht⟩ := isl_null hv
      row_hasAny m_goK
      rename Sat _ _ _ _ => hS
      refine cwf0 hS (by kernel_rfl) ?_
      refine fn142 (n := 0) hS (hR.less (by (first | lia | omega))) fun b c1 s1 l1 hS hb => ?_
      repeat row_hasAny m_out
      exact ⟨c1, _, V, l1, hS, rfl, hb⟩
    | .miss =>
      obtain ⟨a, t1, rfl, ht⟩ := isl_miss hv
      row_hasAny m_goK
      rename Sat _ _ _ _ => hS
      refine cwf0 hS (by kernel_rfl) ?_
      refine fn149 (n := 0) hS (hR.less (by (first | lia | omega))) fun b c1 s1 l1 hS hb => ?_
      repeat row_hasAny m_out
      exact ⟨c1, _, V, l1, hS, rfl, hb⟩
    | .leaf kd ds =>
      obtain ⟨a, t1, li, us, rfl, ht, hli, hus⟩ := isl_leaf hv
      have hkd : LeafK kd := by cases hk with | leaf h => exact h
      have hlen : us.length ≤ m := by
        cases hw with
        | leaf h1 h2 h3 => have := rds_len hus; simp at this; (first | lia | omega)
      row_hasAny m_goK
      rename Sat _ _ _ _ => hS
      refine listOf hS (hS.isl hli) (by (first | lia | omega)) fun la c1 s1 l1 hS hla => ?_
      row_hasAny m_goK
      rename Sat _ _ _ _ => hS
      refine new_leaf (n := 1) hS (hR.less (by (first | lia | omega))) hkd hla (hus.mono l1) fun b c2 s2 l2 hS hb => ?_
      repeat row_hasAny m_out
      exact ⟨c2, _, V, l1.trans l2, hS, rfl, hb⟩
    | .call l =>
      obtain ⟨a, t1, li, lt, us, ts, rfl, ht, hli, hlt, hus, hts⟩ := isl_call hv
      have hul := isl_len hus
      have htl : ts.length = l.length := by simpa using hts.1
      cases hw with
      | call hw1 hw2 hw3 hw4 =>
      row_hasAny m_goK
      rename Sat _ _ _ _ => hS
      refine ListComp_ (cl := []) (by with_unfolding_all rfl) rfl (by decide) ?_
      row_hasAny m_goK
      rename Sat _ _ _ _ => hS
      rename FrOk _ _ _ _ => hE
      refine map_list (nm := ["piece"]) (gl := [("_law_value", .ref 262)]) (fun c' i y => ∀ p, l[i]? = some p → IsV w c' p.2 y) (fun _ _ _ _ h l p hp => (h p hp).mono l) hR.h (by decide) rfl (fun C => hE.comp (by kernel_rfl)) hli (by (first | lia | omega)) go_list hS ?_ ?_
      · rintro i u c' R' vs' cenv s' hu le hE ⟨C, hC⟩ hvs hS
        refine len1k (hvs) fun x0 ee => ?_
        subst ee
        row_hasAny m_goK
        rename Sat _ _ _ _ => hS
        have hi : i < l.length := by have := (List.getElem?_eq_some_iff.mp hu).1; (first | lia | omega)
        have hp : l[i]? = some l[i] := List.getElem?_eq_getElem hi
        have hpm : l[i] ∈ l := List.getElem_mem hi
        generalize l[i] = p at hp hpm
        refine ih p hpm hS (hR.less (by have := deep_mem hpm; (first | lia | omega))) ((isl_get hus hp hu).mono le) (kidsK hk p hpm) (hw3 p hpm) hm fun c2 s2 r l2 hS hr => ?_
        exact ⟨c2, _, l2, fun q hq => by rw [hp] at hq; cases hq; exact hr, hS⟩
      · intro c2 ys D s2 l2 hyl hys hS
        have ht := tuple_keeps ht l2
        have hlt := list_keeps hlt l2
        row_hasAny m_goK
        rename Sat _ _ _ _ => hS
        refine listOf hS (hS.isl hlt) (by (first | lia | omega)) fun la c3 s3 l3 hS hla => ?_
        obtain ⟨c4, l4, hS, hD⟩ := hS.freeze (p := .ls D ys) (.tail .head)
        row_hasAny m_goK
        rename Sat _ _ _ _ => hS
        refine new_call (n := 1) (l := l) hS (hR.less (by (first | lia | omega))) hD (Heap.PlainList.keeps hla l4.keep) ⟨by simp; (first | lia | omega), fun i p u h1 h2 => ?_⟩ hts fun b c5 s5 l5 hS hb => ?_
        · simp only [List.getElem?_map, Option.map_eq_some_iff] at h1
          obtain ⟨q, hq, rfl⟩ := h1
          exact (hys i u h2 q hq).mono (l3.trans l4)
        · repeat row_hasAny m_out
          exact ⟨c5, _, V, ((l2.trans l3).trans l4).trans l5, hS, rfl, hb⟩
  · rintro r c' V' s' l h ⟨rfl, hr⟩
    exact k c' s' r l h hr
theorem fn262 (w : World) (t : T) : C262 w t := by
  induction t using T.ind with
  | h1 x => exact fn262_in (t := .name x) fun _ h => nomatch h
  | h2 => exact fn262_in (t := .null) fun _ h => nomatch h
  | h3 => exact fn262_in (t := .miss) fun _ h => nomatch h
  | h4 k ds => exact fn262_in (t := .leaf k ds) fun _ h => nomatch h
  | h5 l ih => exact fn262_in (t := .call l) ih
/-- _law_plain -/
noncomputable def C257 (w : World) (t : T) : Prop := ∀ {A : Around} {E : Value → Shared → Prop} {c : Ctx} {V : List Cell} {s : Shared} {v : Value} {m : Nat} {Q : Value → Shared → Prop}, Sat w c V s → Room A (deep t + 1) → IsV w c t v → W0 m t → m ≤ 1000 →
    (∀ c' s' r, c.Le c' → Sat w c' V s' → IsL c' t r → Q r s') → wpAny (MM w) A (call (.ref 257) [v]) Q E s
theorem fn257_in {w : World} {t : T} (ih : ∀ p ∈ kids t, C257 w p.2) : C257 w t := by
  intro A E c V s v m Q hS hR hv hw hm k
  refine call_fn (n := deep t) (rest := ["kind"]) (Post := fun r c' V' => V' = V ∧ IsL c' t r) (ok257 w) hS hR (binds := [("value", v)]) (vs := [some v, none]) (by kernel_rfl) rfl rfl ?_ ?_
  · intro env A' s hE hR hS
    row_hasAny m_k
    row_hasAny m_open
    cases hv with
    | @name a tk tk' x hO =>
      row_hasAny m_goK
      rename Sat _ _ _ _ => hS
      refine newTup hS (by simp) fun b c1 s1 l1 hS hb => ?_
      repeat row_hasAny m_out
      exact ⟨c1, _, V, l1, hS, rfl, mkl_name hb⟩
    | @null a tk hO =>
      row_hasAny m_goK
      rename Sat _ _ _ _ => hS
      refine newLstI hS (by simp) fun la c1 s1 l1 hS hla => ?_
      refine inLs (d := .str "NULL") (l := [("NULL" : Str), "missing"].map .str) hS hR hla.isList (rds_mkc rd_s (rds_mkc rd_s rds_mk)) rd_s (by kernel_rfl) (by kernel_rfl) (by simp [PyData.depth]) ?_
      rw [any_strs, show decide (("NULL" : Str) ∈ [("NULL" : Str), "missing"]) = true from by decide]
      row_hasAny m_goK
      rename Sat _ _ _ _ => hS
      refine newTup hS (by simp) fun b c2 s2 l2 hS hb => ?_
      repeat row_hasAny m_out
      exact ⟨c2, _, V, l1.trans l2, hS, rfl, mkl_null hb⟩
    | @miss a tk hO =>
      row_hasAny m_goK
      rename Sat _ _ _ _ => hS
      refine newLstI hS (by simp) fun la c1 s1 l1 hS hla => ?_
      refine inLs (d := .str "missing") (l := [("NULL" : Str), "missing"].map .str) hS hR hla.isList (rds_mkc rd_s (rds_mkc rd_s rds_mk)) rd_s (by kernel_rfl) (by kernel_rfl) (by simp [PyData.depth]) ?_
      rw [any_strs, show decide (("missing" : Str) ∈ [("NULL" : Str), "missing"]) = true from by decide]
      row_hasAny m_goK
      rename Sat _ _ _ _ => hS
      refine newTup hS (by simp) fun b c2 s2 l2 hS hb => ?_
      repeat row_hasAny m_out
      exact ⟨c2, _, V, l1.trans l2, hS, rfl, mkl_miss hb⟩
    | @leaf a li tk kd ds us hkd hO hli hus =>
      cases hw with
      | leaf hk1 hk2 hk3 =>
      have hul := rds_len hus
      simp only [List.length_map] at hul
      row_hasAny m_goK
      rename Sat _ _ _ _ => hS
      refine newLstI hS (by simp) fun la c1 s1 l1 hS hla => ?_
      refine inLs (d := .str kd) (l := [("NULL" : Str), "missing"].map .str) hS hR hla.isList (rds_mkc rd_s (rds_mkc rd_s rds_mk)) rd_s (by kernel_rfl) hk1 (by simp [PyData.depth]) ?_
      rw [any_strs, show decide (kd ∈ [("NULL" : Str), "missing"]) = false from decide_eq_false (by simp [hkd.h4, hkd.h5])]
      have hO := hO.mono l1
      have hli := Heap.PlainList.keeps hli l1.keep
      row_hasAny m_goK
      rename Sat _ _ _ _ => hS
      refine listOf hS (hS.list (.imm hli)) (by (first | lia | omega)) fun lb c2 s2 l2 hS hlb => ?_
      row_hasAny m_goK
      rename Sat _ _ _ _ => hS
      refine newTup hS (by simp) fun b c3 s3 l3 hS hb => ?_
      repeat row_hasAny m_out
      exact ⟨c3, _, V, (l1.trans l2).trans l3, hS, rfl, mkl_leaf hb (Heap.PlainList.keeps hlb l3.keep).isList (hus.mono ((l1.trans l2).trans l3))⟩
    | @call a li lt tk l us ts hO hpl htl hlen htlen hvs hts =>
      cases hw with
      | call hw2 hw3 hw4 =>
      row_hasAny m_goK
      rename Sat _ _ _ _ => hS
      refine newLstI hS (by simp) fun la c1 s1 l1 hS hla => ?_
      refine inLs (d := .str "language") (l := [("NULL" : Str), "missing"].map .str) hS hR hla.isList (rds_mkc rd_s (rds_mkc rd_s rds_mk)) rd_s (by kernel_rfl) (by kernel_rfl) (by simp [PyData.depth]) ?_
      rw [any_strs, show decide (("language" : Str) ∈ [("NULL" : Str), "missing"]) = false from by decide]
      have hO := hO.mono l1
      have hpl := Heap.PlainList.keeps hpl l1.keep
      have htl := Heap.PlainList.keeps htl l1.keep
      row_hasAny m_goK
      rename Sat _ _ _ _ => hS
      refine ListComp_ (cl := []) (by with_unfolding_all rfl) rfl (by decide) ?_
      row_hasAny m_goK
      rename Sat _ _ _ _ => hS
      rename FrOk _ _ _ _ => hE
      refine map_list (nm := ["item"]) (gl := [("_law_plain", .ref 257)]) (fun c' i y => ∀ p, l[i]? = some p → IsL c' p.2 y) (fun _ _ _ _ h l p hp => (h p hp).mono l) hR.h (by decide) rfl (fun C => hE.comp (by kernel_rfl)) hpl.isList (by (first | lia | omega)) go_list hS ?_ ?_
      · rintro i u c' R' vs' cenv s' hu le hE ⟨C, hC⟩ hvs' hS
        refine len1k (hvs') fun x0 ee => ?_
        subst ee
        row_hasAny m_goK
        rename Sat _ _ _ _ => hS
        have hi : i < l.length := by have := (List.getElem?_eq_some_iff.mp hu).1; (first | lia | omega)
        have hp : l[i]? = some l[i] := List.getElem?_eq_getElem hi
        have hpm : l[i] ∈ l := List.getElem_mem hi
        generalize l[i] = p at hp hpm
        refine ih p hpm hS (hR.less (by have := deep_mem hpm; (first | lia | omega))) ((hvs i p u hp hu).mono (l1.trans le)) (hw3 p hpm) hm fun c2 s2 r l2 hS hr => ?_
        exact ⟨c2, _, l2, fun q hq => by rw [hp] at hq; cases hq; exact hr, hS⟩
      · intro c2 ys D s2 l2 hyl hys hS
        have hO := hO.mono l2
        have htl := Heap.PlainList.keeps htl l2.keep
        row_hasAny m_goK
        rename Sat _ _ _ _ => hS
        refine listOf hS (hS.list (.imm htl)) (by (first | lia | omega)) fun lb c3 s3 l3 hS hlb => ?_
        obtain ⟨c4, l4, hS, hD⟩ := hS.freeze (p := .ls D ys) (.tail .head)
        row_hasAny m_goK
        rename Sat _ _ _ _ => hS
        refine newTup hS (by simp) fun b c5 s5 l5 hS hb => ?_
        repeat row_hasAny m_out
        refine ⟨c5, _, V, (((l1.trans l2).trans l3).trans l4).trans l5, hS, rfl, mkl_call hb (Heap.PlainList.keeps hD l5.keep).isList (Heap.PlainList.keeps hlb (l4.trans l5).keep).isList ⟨by simp; (first | lia | omega), fun i p u h1 h2 => ?_⟩ ⟨by simpa using htlen, fun i p u h1 h2 => ?_⟩⟩
        · simp only [List.getElem?_map, Option.map_eq_some_iff] at h1
          obtain ⟨q, hq, rfl⟩ := h1
          exact (hys i u h2 q hq).mono ((l3.trans l4).trans l5)
        · simp only [List.getElem?_map, Option.map_eq_some_iff] at h1
          obtain ⟨q, hq, rfl⟩ := h1
          exact hts i q u hq h2
  · rintro r c' V' s' l h ⟨rfl, hr⟩
    exact k c' s' r l h hr
theorem fn257 (w : World) (t : T) : C257 w t := by
  induction t using T.ind with
  | h1 x => exact fn257_in (t := .name x) fun _ h => nomatch h
  | h2 => exact fn257_in (t := .null) fun _ h => nomatch h
  | h3 => exact fn257_in (t := .miss) fun _ h => nomatch h
  | h4 k ds => exact fn257_in (t := .leaf k ds) fun _ h => nomatch h
  | h5 l ih => exact fn257_in (t := .call l) ih
theorem hole_ne {t : T} (h : hole t ≠ "") : ∃ g s p, t = .call [(g, .name s), p] ∧ (s = one ∨ s = two) := by
  unfold hole at h
  split at h
  · rename_i g s p
    by_cases q : s = one ∨ s = two
    · exact ⟨g, s, p, rfl, q⟩
    · rw [if_neg q] at h; exact absurd rfl h
  · exact absurd rfl h
theorem hole_any (p0 p1 : Tag × T) : (([.tuple [.str "name", .str "."], .tuple [.str "name", .str ".."]] : List PyData).any fun y => PyData.eqv y p0.2.toP) = decide (hole (.call [p0, p1]) ≠ "") := by
  rw [Bool.eq_iff_iff, decide_eq_true_iff]
  obtain ⟨g0, x0⟩ := p0
  cases x0 with
  | name x =>
    have e : hole (.call [(g0, .name x), p1]) = if x = one ∨ x = two then x else "" := rfl
    rw [e]
    simp only [T.toP, PyData.eqv, PyData.eqvAll, List.any_cons, List.any_nil, Bool.or_false, Bool.and_true, beq_self_eq_true, Bool.true_and, Bool.or_eq_true, beq_iff_eq]
    constructor
    · rintro (rfl | rfl)
      · decide
      · decide
    · intro h
      by_cases q : x = one ∨ x = two
      · rcases q with rfl | rfl
        · exact .inl rfl
        · exact .inr rfl
      · rw [if_neg q] at h; exact absurd rfl h
  | call l => simp [toP_call, PyData.eqv, PyData.eqvAll, hole]
  | _ => simp [T.toP, PyData.eqv, PyData.eqvAll, hole]
/-- _law_hole -/
theorem fn281 {w : World} {A : Around} {E : Value → Shared → Prop} {c : Ctx} {V : List Cell} {s : Shared} {n m : Nat} {t : T} {v : Value} {Q : Value → Shared → Prop} (hS : Sat w c V s) (hR : Room A (n + 1)) (hv : IsL c t v) (hk : LK t) (hw : Wide m t) (hm : m ≤ 1000) (hd : deep t ≤ 20)
    (k : ∀ c' s' tk, c.Le c' → Sat w c' V s' → Q (.str (hole t) tk) s') : wpAny (MM w) A (call (.ref 281) [v]) Q E s := by
  refine call_fn (n := n) (rest := []) (Post := fun r c' V' => V' = V ∧ ∃ tk, r = .str (hole t) tk) (ok281 w) hS hR (binds := [("tree", v)]) (vs := [some v]) (by kernel_rfl) rfl rfl ?_ ?_
  · intro env A' s hE hR hS
    obtain ⟨a, rfl⟩ := hv.ref
    row_hasAny m_k
    row_hasAny m_open
    refine wpAny_If ?_
    refine wpAny_mono (Q := fun b s' => b = decide (hole t ≠ "") ∧ ∃ c', c.Le c' ∧ Sat w c' (.ns env.locals (fm nm281 [some (.ref a)]) :: V) s') (E := fun _ _ => False) ?_ ?_ fun _ _ x => x.elim
    · cases hc : isCall t with
      | false =>
        row_hasAny m_goK
        rename Sat _ _ _ _ => hS
        refine ⟨?_, c, .refl _, hS⟩
        cases t with
        | call => cases hc
        | _ => rfl
      | true =>
        refine callk (hc) fun l ee => ?_
        subst ee
        obtain ⟨_, t1, li, lt, us, ts, e, ht, hli, hlt, hus, hts⟩ := isl_call hv
        cases e
        have hul := isl_len hus
        cases hw with
        | call hw1 hw2 hw3 hw4 =>
        row_hasAny m_goK
        rename Sat _ _ _ _ => hS
        refine len_ hS (hS.isl hli) (by (first | lia | omega)) fun t s hS => ?_
        row_hasAny m_goK
        refine ifb (fun h1 => ?_) (fun h1 => ?_)
        · have h1 : l.length = 2 := by have := of_decide_eq_true h1; (first | lia | omega)
          refine len2k h1 fun p0 p1 ee => ?_
          subst ee
          refine len2k (n := us) hul fun u0 u1 ee => ?_
          subst ee
          have hu0 := isl_get hus (i := 0) rfl rfl
          row_hasAny m_goK
          rename Sat _ _ _ _ => hS
          refine newTup hS (by simp) fun a1 c1 s1 l1 hS ha1 => ?_
          row_hasAny m_goK
          rename Sat _ _ _ _ => hS
          refine newTup hS (by simp) fun a2 c2 s2 l2 hS ha2 => ?_
          row_hasAny m_goK
          rename Sat _ _ _ _ => hS
          refine newLstI hS (by simp) fun la c3 s3 l3 hS hla => ?_
          have hu0' : RD c3 p0.2.toP u0 := hu0.mono ((l1.trans l2).trans l3)
          refine inLs (d := p0.2.toP) (l := [.tuple [.str "name", .str "."], .tuple [.str "name", .str ".."]]) hS hR hla.isList (rds_mkc (rd_mkt (tuple_keeps ha1 (l2.trans l3)) (rds_mkc rd_s (rds_mkc rd_s rds_mk))) (rds_mkc (rd_mkt (tuple_keeps ha2 l3) (rds_mkc rd_s (rds_mkc rd_s rds_mk))) rds_mk)) hu0' (by kernel_rfl) (lay_T (hw3 p0 (.head _))) ?_ ?_
          · have := dep_T p0.2
            have := deep_mem (l := [p0, p1]) (p := p0) (.head _)
            (first | lia | omega)
          · have e0 := hole_any p0 p1
            rw [e0]
            row_hasAny m_goK
            refine ifb (fun h2 => ?_) (fun h2 => ?_)
            · row_hasAny m_goK
              rename Sat _ _ _ _ => hS
              exact ⟨h2.symm, c3, (l1.trans l2).trans l3, hS⟩
            · row_hasAny m_goK
              rename Sat _ _ _ _ => hS
              exact ⟨h2.symm, c3, (l1.trans l2).trans l3, hS⟩
        · row_hasAny m_goK
          rename Sat _ _ _ _ => hS
          refine ⟨?_, c, .refl _, hS⟩
          have h1 : l.length ≠ 2 := by have := of_decide_eq_false h1; (first | lia | omega)
          match l with
          | [] => rfl
          | [(_, .name _)] => rfl
          | [(_, .null)] => rfl
          | [(_, .miss)] => rfl
          | [(_, .leaf _ _)] => rfl
          | [(_, .call _)] => rfl
          | [_, _] => exact absurd rfl h1
          | p :: _ :: _ :: _ => cases p with | mk g t => cases t <;> rfl
    · rintro _ s ⟨rfl, c1, l1, hS⟩
      refine ifb (fun hc => ?_) (fun hc => ?_)
      · obtain ⟨g0, x, p1, rfl, hx⟩ := hole_ne (of_decide_eq_true hc)
        have hv := hv.mono l1
        obtain ⟨_, t1, li, lt, us, ts, e, ht, hli, hlt, hus, hts⟩ := isl_call hv
        cases e
        refine len2k (isl_len hus) fun u0 u1 ee => ?_
        subst ee
        obtain ⟨b, t3, t4, rfl, hb⟩ := isl_name (isl_get hus (i := 0) rfl rfl)
        row_hasAny m_goK
        rename Sat _ _ _ _ => hS
        refine ⟨c1, _, V, l1, hS, rfl, _, congrArg (fun z => Value.str z _) ?_⟩
        simp only [hole, if_pos hx]
      · row_hasAny m_goK
        rename Sat _ _ _ _ => hS
        refine ⟨c1, _, V, l1, hS, rfl, _, congrArg (fun z => Value.str z _) ?_⟩
        have := of_decide_eq_false hc
        exact (Decidable.of_not_not this).symm
  · rintro r c' V' s' l h ⟨rfl, tk, rfl⟩
    exact k c' s' tk l h
noncomputable def isName0 : List (Tag × T) → Bool
  | p :: _ => isName p.2
  | [] => false
noncomputable def nlc (b : Bool) (l : List (Tag × T)) (i : Nat) : Bool := decide (0 < i) || (b || !isName0 l)
noncomputable def nl (b : Bool) (l : List (Tag × T)) : Nat → List Str
  | 0 => []
  | i + 1 => nl b l i ++ (match l[i]? with
    | some p => if nlc b l i then names b p.2 else []
    | none => [])
theorem nl_len (b : Bool) (l : List (Tag × T)) (i : Nat) : (nl b l i).length ≤ ((l.take i).flatMap fun p => names b p.2).length := by
  induction i with
  | zero => simp [nl]
  | succ i ih =>
    rw [nl, List.take_add_one, List.flatMap_append, List.length_append, List.length_append]
    cases l[i]? with
    | none => simp only [Option.toList_none, List.flatMap_nil, List.length_nil]; (first | lia | omega)
    | some p =>
      simp only [Option.toList_some, List.flatMap_cons, List.flatMap_nil, List.append_nil]
      split
      · (first | lia | omega)
      · simp only [List.length_nil]; (first | lia | omega)
theorem nl_all (b : Bool) (l : List (Tag × T)) : nl b l l.length = names b (.call l) := by
  cases l with
  | nil => simp [nl, names]
  | cons p r =>
    rw [names_call]
    have : ∀ i, i ≤ r.length → nl b (p :: r) (i + 1) = (if b || !isName p.2 then names b p.2 else []) ++ (r.take i).flatMap fun q => names b q.2 := by
      intro i
      induction i with
      | zero => intro _; simp [nl, nlc, isName0]
      | succ i ih =>
        intro hi
        rw [nl, ih (by (first | lia | omega))]
        have e : (p :: r)[i + 1]? = r[i]? := rfl
        rw [e, List.getElem?_eq_getElem (by (first | lia | omega))]
        simp only [nlc, Nat.zero_lt_succ, decide_true, Bool.true_or, if_true]
        rw [List.take_add_one, List.getElem?_eq_getElem (by (first | lia | omega))]
        simp only [Option.toList_some, List.flatMap_append, List.flatMap_cons, List.flatMap_nil, List.append_nil, List.append_assoc]
    have h := this r.length (Nat.le_refl _)
    rw [List.take_length] at h
    exact h
/-- _law_names -/
noncomputable def C307 (w : World) (b : Bool) (t : T) : Prop := ∀ {A : Around} {E : Value → Shared → Prop} {c : Ctx} {V : List Cell} {s : Shared} {v : Value} {m : Nat} {Q : Value → Shared → Prop}, Sat w c V s → Room A (deep t + 1) → IsL c t v → LK t → Wide m t → m ≤ 1000 → sz t ≤ 40000 →
    (∀ c' s' a ys, c.Le c' → Sat w c' V s' → c'.I.PlainList a ys.toArray → RDs c' ((names b t).map .str) ys → Q (.ref a) s') → wpAny (MM w) A (call (.ref 307) [v, .bool b]) Q E s
theorem fn307_in {w : World} {b : Bool} {t : T} (ih : ∀ p ∈ kids t, C307 w b p.2) : C307 w b t := by
  intro A E c V s v m Q hS hR hv hk hw hm hz k
  refine call_fn (n := deep t) (rest := ["found", "step"]) (Post := fun r c' V' => V' = V ∧ ∃ a ys, r = .ref a ∧ c'.I.PlainList a ys.toArray ∧ RDs c' ((names b t).map .str) ys) (ok307 w) hS hR (binds := [("tree", v), ("heads", .bool b)]) (vs := [some v, some (.bool b), none, none]) (by kernel_rfl) rfl rfl ?_ ?_
  · intro env A' s hE hR hS
    row_hasAny m_k
    row_hasAny m_open
    cases hn : isName t with
    | true =>
      refine namek (hn) fun x ee => ?_
      subst ee
      obtain ⟨a, t1, t2, rfl, ht⟩ := isl_name hv
      row_hasAny m_goK
      rename Sat _ _ _ _ => hS
      refine newLstI hS (by simp) fun la c1 s1 l1 hS hla => ?_
      repeat row_hasAny m_out
      exact ⟨c1, _, V, l1, hS, rfl, la, _, rfl, hla, by simpa [names] using rds_one rd_s⟩
    | false =>
      obtain ⟨a, rfl⟩ := hv.ref
      row_hasAny m_goK
      rename Sat _ _ _ _ => hS
      refine newLst hS (by decide) fun f s hS => ?_
      cases hc : isCall t with
      | false =>
        row_hasAny m_goK
        rename Sat _ _ _ _ => hS
        obtain ⟨c1, l1, hS, hf⟩ := hS.freeze (p := .ls f []) (.tail .head)
        refine ⟨c1, _, V, l1, hS, rfl, f, [], rfl, hf, ?_⟩
        cases t with
        | call => cases hc
        | name => cases hn
        | _ => simpa [names] using rds_mk
      | true =>
        refine callk (hc) fun l ee => ?_
        subst ee
        obtain ⟨_, t1, li, lt, us, ts, e, ht, hli, hlt, hus, hts⟩ := isl_call hv
        cases e
        have hul := isl_len hus
        cases hw with
        | call hw1 hw2 hw3 hw4 =>
        row_hasAny m_goK
        rename Sat _ _ _ _ => hS
        refine len_ hS (hS.isl hli) (by (first | lia | omega)) fun t1 s hS => ?_
        row_hasAny m_goK
        rename Sat _ _ _ _ => hS
        refine range_ hS fun r s t u v hS hr => ?_
        refine for_range (U := [.ls f []]) (R := V) (fun i c' vs' U' => ∃ xs st, vs' = [some (.ref a), some (.bool b), some (.ref f), st] ∧ U' = [.ls f xs] ∧ RDs c' ((nl b l i).map .str) xs) hR.h hr (by (first | lia | omega)) hS ⟨[], none, rfl, rfl, by simpa [nl] using rds_mk⟩ ?_ ?_
        · rintro i tk c3 vs' U' R' s' hi l3 ⟨xs, st, rfl, rfl, hxs⟩ hsub hS
          replace hS : Sat w c3 (_ :: .ls f xs :: R') s' := hS
          have hv := hv.mono l3
          have ht := tuple_keeps ht l3
          have hli := list_keeps hli l3
          have hp : l[i]? = some l[i] := List.getElem?_eq_getElem (by (first | lia | omega))
          have hpm : l[i] ∈ l := List.getElem_mem (by (first | lia | omega))
          generalize l[i] = p at hp hpm
          have hu : us[i]? = some us[i] := List.getElem?_eq_getElem hi
          generalize us[i] = x at hu
          have hx := (isl_get hus hp hu).mono l3
          have e1 : nl b l (i + 1) = nl b l i ++ (if nlc b l i then names b p.2 else []) := by rw [nl, hp]
          have hzz := names_at b hp
          have hnl := nl_len b l i
          have hxl := rds_len hxs
          simp only [List.length_map] at hxl
          rw [sz_call] at hz
          row_hasAny m_k
          row_hasAny m_goT
          rename Sat _ _ _ _ => hS
          refine cutB (nlc b l i) hS ?_ ?_
          · row_hasAny m_goK
            refine ifb (fun h1 => ?_) (fun h1 => ?_)
            · row_hasAny m_goK
              rename Sat _ _ _ _ => hS
              refine ⟨?_, hS⟩
              have := of_decide_eq_true h1
              simp only [nlc]
              rw [decide_eq_true (by (first | lia | omega))]; rfl
            · have h1 : ¬ 0 < i := by have := of_decide_eq_false h1; (first | lia | omega)
              cases b with
              | true =>
                row_hasAny m_goK
                rename Sat _ _ _ _ => hS
                exact ⟨by simp [nlc], hS⟩
              | false =>
                have hi0 : i = 0 := by (first | lia | omega)
                subst hi0
                obtain ⟨p0, l, rfl⟩ := List.exists_cons_of_ne_nil hw1
                cases hp
                obtain ⟨u0, us, rfl⟩ : ∃ u0 ur, us = u0 :: ur := by cases us with | nil => cases hu | cons x y => exact ⟨x, y, rfl⟩
                cases hu
                have hkp := kidsK hk p (.head _)
                obtain ⟨a0, rfl⟩ := hx.ref
                row_hasAny m_goK
                refine ifb (fun h2 => ?_) (fun h2 => ?_)
                · row_hasAny m_goK
                  rename Sat _ _ _ _ => hS
                  exact ⟨by rw [← h2]; simp [nlc, isName0], hS⟩
                · row_hasAny m_goK
                  rename Sat _ _ _ _ => hS
                  exact ⟨by rw [← h2]; simp [nlc, isName0], hS⟩
          · intro s hS
            refine ifb (fun h1 => ?_) (fun h1 => ?_)
            · rw [h1, if_pos rfl] at e1
              row_hasAny m_goK
              rename Sat _ _ _ _ => hS
              refine ih p hpm hS (hR.less (by have := deep_mem hpm; (first | lia | omega))) hx (kidsK hk p hpm) (hw3 p hpm) hm (by (first | lia | omega)) fun c4 s4 a4 ys l4 hS ha4 hys => ?_
              have hyl := rds_len hys
              simp only [List.length_map] at hyl
              have hyn := names_sz b p.2
              row_hasAny m_goK
              rename Sat _ _ _ _ => hS
              refine iaddL hS (by row_hasAny m_lk) (hS.list (.imm ha4)) (by (first | lia | omega)) fun s hS => ?_
              row_hasAny m_goK
              rename Sat _ _ _ _ => hS
              refine ⟨c4, _, [.ls f (xs ++ ys)], l4, ⟨xs ++ ys, _, rfl, rfl, ?_⟩, hS⟩
              rw [e1, List.map_append]
              exact rds_append (hxs.mono l4) hys
            · rw [h1, if_neg Bool.false_ne_true, List.append_nil] at e1
              row_hasAny m_goK
              rename Sat _ _ _ _ => hS
              exact ⟨c3, _, [.ls f xs], .refl _, ⟨xs, _, rfl, rfl, by rw [e1]; exact hxs⟩, hS⟩
        · rintro c3 vs' U' s' l3 ⟨xs, st, rfl, rfl, hxs⟩ hS
          replace hS : Sat w c3 (_ :: .ls f xs :: V) s' := hS
          rw [hul, nl_all] at hxs
          row_hasAny m_goK
          rename Sat _ _ _ _ => hS
          obtain ⟨c4, l4, hS, hf⟩ := hS.freeze (p := .ls f xs) (.tail .head)
          exact ⟨c4, _, V, l3.trans l4, hS, rfl, f, xs, rfl, hf, hxs.mono l4⟩
  · rintro r c' V' s' l h ⟨rfl, a, ys, rfl, h1, h2⟩
    exact k c' s' a ys l h h1 h2
theorem fn307 (w : World) (b : Bool) (t : T) : C307 w b t := by
  induction t using T.ind with
  | h1 x => exact fn307_in (t := .name x) fun _ h => nomatch h
  | h2 => exact fn307_in (t := .null) fun _ h => nomatch h
  | h3 => exact fn307_in (t := .miss) fun _ h => nomatch h
  | h4 k ds => exact fn307_in (t := .leaf k ds) fun _ h => nomatch h
  | h5 l ih => exact fn307_in (t := .call l) ih
noncomputable abbrev nm224 : List Str := ["names", "found", "place", "tag", "item"]
noncomputable abbrev gl224 : List (Str × Value) := [("isinstance", .builtin "isinstance"), ("Vector", .ref 88), ("len", .builtin "len"), ("range", .type "range")]
theorem ok224 (w : World) : FnOkC w 224 nm224 gl224 := .of (by kernel_rfl)
theorem RowVs.nil {w : World} {c : Ctx} : RowVs w c [] [] := ⟨rfl, fun _ _ _ h => by simp at h⟩
theorem RowVs.append {w : World} {c : Ctx} {l l' : List (Tag × T)} {vs vs' : List Value} (x : RowVs w c l vs) (y : RowVs w c l' vs') : RowVs w c (l ++ l') (vs ++ vs') := by
  refine ⟨by simp [x.1, y.1], fun i p u h1 h2 => ?_⟩
  rw [List.getElem?_append] at h1 h2
  rw [x.1] at h2
  by_cases q : i < l.length
  · rw [if_pos q] at h1 h2; exact x.2 i p u h1 h2
  · rw [if_neg q] at h1 h2; exact y.2 _ p u h1 h2
theorem RowVs.one {w : World} {c : Ctx} {p : Tag × T} {v : Value} (h : RowV w c p v) : RowVs w c [p] [v] := ⟨rfl, fun i q u h1 h2 => by
  cases i with
  | zero => simp at h1 h2; subst h1 h2; exact h
  | succ i => simp at h1⟩
theorem CelsAt.comp' {w : World} {c : Ctx} {f : Addr} {scope : Scope} {env : Env} {cs cl : List (Str × Addr)} {C : Addr} {nm nm0 : List Str} {gl gl0 : List (Str × Value)} {L : List (Str × Value)} (hE2 : FrOk w (compEnvC scope cl C env) nm gl) (hE : FrOk w env nm0 gl0) (hC : CEnv w f env cs) (hK : CelsAt c env L) (hcl : ∀ p ∈ L, cl.lookup p.1 = cs.lookup p.1) (h : compChkC w f scope nm gl (L.map (·.1)) = true) : CelsAt c (compEnvC scope cl C env) L :=
  hK.comp (nm := nm) (gl := gl) hC (hE.compC hC h).2 hcl
/-- elements_of -/
theorem fn224 {w : World} {A : Around} {E : Value → Shared → Prop} {c : Ctx} {V : List Cell} {s : Shared} {n m : Nat} {t : T} {v : Value} {Q : Value → Shared → Prop} (hS : Sat w c V s) (hR : Room A (n + 4)) (hv : IsV w c t v) (hw : Wide m t) (hm : m ≤ 1000)
    (k : ∀ c' s' a us, c.Le c' → Sat w c' V s' → c'.I.PlainList a us.toArray → RowVs w c' (parts t) us → Q (.ref a) s') : wpAny (MM w) A (call (.ref 224) [v]) Q E s := by
  refine call_cell2 (n := n + 3) (x := "value") (Post := fun r c' V' => V' = V ∧ ∃ a us, r = .ref a ∧ c'.I.PlainList a us.toArray ∧ RowVs w c' (parts t) us) (ok224 w) hS hR (by kernel_rfl) (fun k => by kernel_rfl) (by kernel_rfl) (by decide) ?_ ?_
  · intro env A' s C c1 le1 hK hE hC hR hS
    replace hS : Sat w c1 (.ns env.locals (fm nm224 [none, none, none, none, none]) :: V) s := hS
    have hv' := hv.mono le1
    row_hasAny m_k
    row_hasAny m_open
    cases hv with
    | @name a tk tk' x hO =>
      have hO := hO.mono le1
      row_hasAny m_goK
      rename Sat _ _ _ _ => hS
      refine newTup hS (by simp) fun ta c2 s2 l2 hS hta => ?_
      row_hasAny m_goK
      rename Sat _ _ _ _ => hS
      refine newLstI hS (by simp) fun la c3 s3 l3 hS hla => ?_
      repeat row_hasAny m_out
      exact ⟨c3, _, V, l2.trans l3, hS, rfl, la, _, rfl, hla, .one ⟨ta, _, _, rfl, tuple_keeps hta l3, rfl, hv'.mono (l2.trans l3)⟩⟩
    | @null a tk hO =>
      have hO := hO.mono le1
      row_hasAny m_goK
      rename Sat _ _ _ _ => hS
      refine newLstI hS (by simp) fun la c3 s3 l3 hS hla => ?_
      repeat row_hasAny m_out
      exact ⟨c3, _, V, l3, hS, rfl, la, _, rfl, hla, .nil⟩
    | @miss a tk hO =>
      have hO := hO.mono le1
      row_hasAny m_goK
      rename Sat _ _ _ _ => hS
      refine newTup hS (by simp) fun ta c2 s2 l2 hS hta => ?_
      row_hasAny m_goK
      rename Sat _ _ _ _ => hS
      refine newLstI hS (by simp) fun la c3 s3 l3 hS hla => ?_
      repeat row_hasAny m_out
      exact ⟨c3, _, V, l2.trans l3, hS, rfl, la, _, rfl, hla, .one ⟨ta, _, _, rfl, tuple_keeps hta l3, rfl, hv'.mono (l2.trans l3)⟩⟩
    | @leaf a li tk kd ds us hkd hO hli hus =>
      have hO := hO.mono le1
      have hli := Heap.PlainList.keeps hli le1.keep
      have hus := hus.mono le1
      cases hw with
      | leaf hk1 hk2 hk3 =>
      have hul := rds_len hus
      simp only [List.length_map] at hul
      row_hasAny m_goK
      rename Sat _ _ _ _ => hS
      refine newLst hS (by decide) fun f s hS => ?_
      row_hasAny m_goK
      rename Sat _ _ _ _ => hS
      refine len_ hS (hS.list (.imm hli)) (by (first | lia | omega)) fun t1 s hS => ?_
      row_hasAny m_goK
      rename Sat _ _ _ _ => hS
      refine range_ hS fun r s t u v hS hr => ?_
      refine for_range (U := [.ls f []]) (R := V) (fun i c' vs' U' => ∃ xs pl tg it, vs' = [some .none, some (.ref f), pl, tg, it] ∧ U' = [.ls f xs] ∧ RowVs w c' ((ds.take i).map fun d => (none, .leaf kd [d])) xs) hR.h hr (by (first | lia | omega)) hS ⟨[], none, none, none, rfl, rfl, .nil⟩ ?_ ?_
      · rintro i tk c3 vs' U' R' s' hi l3 ⟨xs, pl, tg, it, rfl, rfl, hxs⟩ hsub hS
        replace hS : Sat w c3 (_ :: .ls f xs :: R') s' := hS
        rename CelsAt _ _ _ => hK
        have hK := hK.mono l3
        have hO := hO.mono l3
        have hli := Heap.PlainList.keeps hli l3.keep
        have hu : us[i]? = some us[i] := List.getElem?_eq_getElem hi
        generalize us[i] = x at hu
        have hd : ds[i]? = some ds[i] := List.getElem?_eq_getElem (by (first | lia | omega))
        have hdm : ds[i] ∈ ds := List.getElem_mem (by (first | lia | omega))
        generalize ds[i] = d at hd hdm
        have hx : RD c3 d.toP x := (rds_get hus (i := i) (d := d.toP) (by simp [hd]) hu).mono l3
        have hxl := hxs.1
        simp only [List.length_map, List.length_take] at hxl
        row_hasAny m_k
        row_hasAny m_goK
        rename Sat _ _ _ _ => hS
        refine newTup hS (by simp) fun ta c4 s4 l4 hS hta => ?_
        refine ninT (d := .str kd) (l := [("list" : Str), "expression", "pairlist"].map .str) hS hR hta (rds_mkc rd_s (rds_mkc rd_s (rds_mkc rd_s rds_mk))) rd_s (by kernel_rfl) hk1 (by simp [PyData.depth]) ?_
        rw [any_strs, show decide (kd ∈ [("list" : Str), "expression", "pairlist"]) = false from decide_eq_false (by simp [hkd.h6, hkd.h3, hkd.h7])]
        rename CelsAt _ _ _ => hK
        have hK := hK.mono l4
        have hO := hO.mono l4
        row_hasAny m_goK
        rename Sat _ _ _ _ => hS
        refine newLstI hS (by simp) fun la c5 s5 l5 hS hla => ?_
        row_hasAny m_goK
        rename Sat _ _ _ _ => hS
        refine new_leaf (n := 1) hS (hR.less (by (first | lia | omega))) hkd (ds := [d]) hla (by simpa using rds_one (hx.mono (l4.trans l5))) fun b c6 s6 l6 hS hb => ?_
        row_hasAny m_goK
        rename Sat _ _ _ _ => hS
        refine newTup hS (by simp) fun tb c7 s7 l7 hS htb => ?_
        row_hasAny m_goK
        rename Sat _ _ _ _ => hS
        refine append_ hS (by row_hasAny m_lk) (by (first | lia | omega)) fun s hS => ?_
        row_hasAny m_goK
        rename Sat _ _ _ _ => hS
        refine ⟨c7, _, [.ls f (xs ++ [.ref tb])], ((l4.trans l5).trans l6).trans l7, ⟨xs ++ [.ref tb], _, _, _, rfl, rfl, ?_⟩, hS⟩
        rw [List.take_add_one, hd, List.map_append]
        exact (hxs.mono (((l4.trans l5).trans l6).trans l7)).append (.one ⟨tb, _, _, rfl, htb, rfl, hb.mono l7⟩)
      · rintro c3 vs' U' s' l3 ⟨xs, pl, tg, it, rfl, rfl, hxs⟩ hS
        replace hS : Sat w c3 (_ :: .ls f xs :: V) s' := hS
        row_hasAny m_goK
        rename Sat _ _ _ _ => hS
        obtain ⟨c4, l4, hS, hf⟩ := hS.freeze (p := .ls f xs) (.tail .head)
        refine ⟨c4, _, V, l3.trans l4, hS, rfl, f, xs, rfl, hf, ?_⟩
        rw [hul, List.take_length] at hxs
        exact hxs.mono l4
    | @call a li lt tk l us ts hO hpl htl hlen htlen hvs hts =>
      have hO := hO.mono le1
      have hpl := Heap.PlainList.keeps hpl le1.keep
      have htl := Heap.PlainList.keeps htl le1.keep
      cases hw with
      | call hw1 hw2 hw3 hw4 =>
      row_hasAny m_goK
      rename Sat _ _ _ _ => hS
      refine ListComp_ (cl := [("value", C)]) (clos_of hC (by with_unfolding_all rfl)) rfl (by decide) ?_
      row_hasAny m_goK
      rename Sat _ _ _ _ => hS
      refine len_ hS (hS.list (.imm hpl)) (by (first | lia | omega)) fun t1 s hS => ?_
      row_hasAny m_goK
      rename Sat _ _ _ _ => hS
      rename FrOk _ _ _ _ => hE
      refine range_ hS fun r s t u v hS hr => ?_
      refine map_range (nm := ["place"]) (gl := []) (fun c' i y => ∀ p, l[i]? = some p → RowV w c' p y) (fun _ _ _ _ h l p hp => (h p hp).mono l) hR.h (by decide) rfl (fun C' => (hE.compC (cn := []) hC (by kernel_rfl)).1) hr (by (first | lia | omega)) hS ?_ ?_
      · rintro i tk c' R' vs' cenv s' hi le hE2 ⟨C', rfl⟩ hvs' hS
        refine len1k (hvs') fun x0 ee => ?_
        subst ee
        rename CelsAt _ _ _ => hK
        have hK := (CelsAt.comp' hE2 hE hC hK (fun p hp => rfl) (by kernel_rfl)).mono le
        have hE := hE2
        have hO := hO.mono le
        have hpl := Heap.PlainList.keeps hpl le.keep
        have htl := Heap.PlainList.keeps htl le.keep
        have hp : l[i]? = some l[i] := List.getElem?_eq_getElem (by (first | lia | omega))
        generalize l[i] = p at hp
        have hu : us[i]? = some us[i] := List.getElem?_eq_getElem hi
        generalize us[i] = x at hu
        have hg : ts[i]? = some ts[i] := List.getElem?_eq_getElem (by (first | lia | omega))
        generalize ts[i] = g at hg
        row_hasAny m_goK
        rename Sat _ _ _ _ => hS
        refine newTup hS (by simp) fun ta c2 s2 l2 hS hta => ?_
        exact ⟨c2, _, l2, fun q hq => by
          rw [hp] at hq; cases hq
          exact ⟨ta, _, _, rfl, hta, hts i p g hp hg, (hvs i p x hp hu).mono ((le1.trans le).trans l2)⟩, hS⟩
      · intro c2 ys D s2 l2 hyl hys hS
        row_hasAny m_goK
        rename Sat _ _ _ _ => hS
        obtain ⟨c3, l3, hS, hf⟩ := hS.freeze (p := .ls D ys) (.tail .head)
        exact ⟨c3, _, V, l2.trans l3, hS, rfl, D, ys, rfl, hf, ⟨by simp only [parts]; (first | lia | omega), fun i p u h1 h2 => (hys i u h2 p h1).mono l3⟩⟩
  · rintro r c' V' s' l h ⟨rfl, a, us, rfl, h1, h2⟩
    exact k c' s' a us l h h1 h2
theorem hole_two {t : T} (h : hole t = two) : ∃ g p, t = .call [(g, .name two), p] := by
  obtain ⟨g, s, p, rfl, hs⟩ := hole_ne (t := t) (by rw [h]; decide)
  have e : hole (.call [(g, .name s), p]) = s := by simp only [hole, if_pos hs]
  rw [e] at h
  subst h
  exact ⟨g, p, rfl⟩
theorem hole_one {t : T} (h : hole t = one) : ∃ g p, t = .call [(g, .name one), p] := by
  obtain ⟨g, s, p, rfl, hs⟩ := hole_ne (t := t) (by rw [h]; decide)
  have e : hole (.call [(g, .name s), p]) = s := by simp only [hole, if_pos hs]
  rw [e] at h
  subst h
  exact ⟨g, p, rfl⟩
noncomputable def qc (i : Nat) (p : Tag × T) : List (Tag × T) := if 0 < i ∧ hole p.2 = two then parts (inner p.2) else [(p.1, quoted p.2)]
noncomputable def ql (l : List (Tag × T)) : Nat → List (Tag × T)
  | 0 => []
  | i + 1 => ql l i ++ (match l[i]? with
    | some p => qc i p
    | none => [])
theorem ql_all (l : List (Tag × T)) : ql l l.length = qlist l := by
  cases l with
  | nil => rfl
  | cons p r =>
    have : ∀ i, i ≤ r.length → ql (p :: r) (i + 1) = (p.1, quoted p.2) :: (r.take i).flatMap fun q => if hole q.2 = two then parts (inner q.2) else [(q.1, quoted q.2)] := by
      intro i
      induction i with
      | zero => intro _; simp [ql, qc]
      | succ i ih =>
        intro hi
        rw [ql, ih (by (first | lia | omega))]
        have e : (p :: r)[i + 1]? = r[i]? := rfl
        rw [e, List.getElem?_eq_getElem (by (first | lia | omega)), List.take_add_one, List.getElem?_eq_getElem (by (first | lia | omega))]
        simp only [qc, Nat.zero_lt_succ, true_and, Option.toList_some, List.flatMap_append, List.flatMap_cons, List.flatMap_nil, List.append_nil, List.cons_append]
    have h := this r.length (Nat.le_refl _)
    rw [List.take_length] at h
    exact h
theorem wide_inner {m : Nat} {g : Tag} {x : T} {p : Tag × T} (h : Wide m (.call [(g, x), p])) : Wide m p.2 := by
  cases h with | call h1 h2 h3 h4 => exact h3 p (.tail _ (.head _))
theorem parts_len {m : Nat} {t : T} (h : Wide m t) : (parts t).length ≤ max m 1 := by
  cases h with
  | leaf h1 h2 h3 => simp only [parts, List.length_map]; (first | lia | omega)
  | call h1 h2 h3 h4 => simp only [parts]; (first | lia | omega)
  | _ => simp [parts] <;> (first | lia | omega)
theorem qc_len {m i : Nat} {p : Tag × T} (h : Wide m p.2) (hm : m ≤ 100) : (qc i p).length ≤ 100 := by
  unfold qc
  split
  · rename_i h'
    obtain ⟨g, q, e⟩ := hole_two h'.2
    rw [e] at h ⊢
    have := parts_len (wide_inner h)
    simp only [inner]; (first | lia | omega)
  · simp
theorem ql_len {m : Nat} {l : List (Tag × T)} (h : ∀ p ∈ l, Wide m p.2) (hm : m ≤ 100) (i : Nat) : (ql l i).length ≤ 100 * i := by
  induction i with
  | zero => simp [ql]
  | succ i ih =>
    rw [ql, List.length_append]
    cases e : l[i]? with
    | none => simp only [List.length_nil]; (first | lia | omega)
    | some p =>
      have := qc_len (i := i) (h p (List.mem_of_getElem? e)) hm
      simp only; (first | lia | omega)
theorem quoted_other {t : T} (h : isCall t = false) : quoted t = t := by
  cases t with
  | call => cases h
  | _ => simp [quoted]
theorem deep_inner {g : Tag} {x : T} {p : Tag × T} : deep p.2 + 1 ≤ deep (.call [(g, x), p]) := deep_mem (.tail _ (.head _))
/-- bquote_in -/
noncomputable def C238 (w : World) (t : T) : Prop := ∀ {A : Around} {E : Value → Shared → Prop} {c : Ctx} {V : List Cell} {s : Shared} {v : Value} {m : Nat} {Q : Value → Shared → Prop}, Sat w c V s → Room A (deep t + 6) → IsV w c t v → Wide m t → m ≤ 100 →
    (∀ c' s' r, c.Le c' → Sat w c' V s' → IsV w c' (quoted t) r → Q r s') → wpAny (MM w) A (call (.ref 238) [v, .ref 293]) Q E s
set_option maxHeartbeats 4000000 in
theorem fn238_in {w : World} {t : T} (ih : ∀ p ∈ kids t, C238 w p.2) : C238 w t := by
  intro A E c V s v m Q hS hR hv hw hm k
  refine call_fn (n := deep t + 5) (rest := ["items", "tags", "place", "part", "tag", "value"]) (Post := fun r c' V' => V' = V ∧ IsV w c' (quoted t) r) (ok238 w) hS hR (binds := [("e", v), ("pick", .ref 293)]) (vs := [some v, some (.ref 293), none, none, none, none, none, none]) (by kernel_rfl) rfl rfl ?_ ?_
  · intro env A' s hE hR hS
    obtain ⟨a, rfl⟩ := hv.ref
    row_hasAny m_k
    row_hasAny m_open
    row_hasAny m_goK
    rename Sat _ _ _ _ => hS
    refine fn231 hS hR hv hw (by (first | lia | omega)) fun c1 s1 tk l1 hS => ?_
    have hv := hv.mono l1
    row_hasAny m_goK
    refine eqs_d ?_
    row_hasAny m_goK
    refine ifb (fun h1 => ?_) (fun h1 => ?_)
    · have h1 : hole t = one := of_decide_eq_true h1
      obtain ⟨g0, p1, rfl⟩ := hole_one h1
      cases hv with
      | @call _ li lt tk2 _ us ts hO hpl htl hlen htlen hvs hts =>
      refine len2k (hlen) fun u0 u1 ee => ?_
      subst ee
      have hu1 := hvs 1 p1 u1 rfl rfl
      row_hasAny m_goK
      rename Sat _ _ _ _ => hS
      refine subPI hS hpl (by decide) rfl ?_ (by with_unfolding_all rfl)
      row_hasAny m_goK
      rename Sat _ _ _ _ => hS
      refine fn293 (n := 0) hS (hR.less (by (first | lia | omega))) fun s hS => ?_
      row_hasAny m_goK
      rename Sat _ _ _ _ => hS
      refine fn156 (n := 0) hS (hR.less (by (first | lia | omega))) hu1 fun s hS => ?_
      repeat row_hasAny m_out
      refine ⟨c1, _, V, l1, hS, rfl, ?_⟩
      rw [quoted_call, if_pos h1]
      exact hu1
    · have h1 : hole t ≠ one := of_decide_eq_false h1
      cases hc : isCall t with
      | false =>
        row_hasAny m_goK
        rename Sat _ _ _ _ => hS
        exact ⟨c1, _, V, l1, hS, rfl, by rw [quoted_other hc]; exact hv⟩
      | true =>
      refine callk (hc) fun l ee => ?_
      subst ee
      have hv' := hv
      cases hv with
      | @call _ li lt tk2 _ us ts hO hpl htl hlen htlen hvs hts =>
      cases hw with
      | call hw1 hw2 hw3 hw4 =>
      row_hasAny m_goK
      rename Sat _ _ _ _ => hS
      refine newLst hS (by decide) fun ia s hS => ?_
      row_hasAny m_goK
      rename Sat _ _ _ _ => hS
      refine newLst hS (by decide) fun ta s hS => ?_
      row_hasAny m_goK
      rename Sat _ _ _ _ => hS
      refine len_ hS (hS.list (.imm hpl)) (by (first | lia | omega)) fun t1 s hS => ?_
      row_hasAny m_goK
      rename Sat _ _ _ _ => hS
      refine range_ hS fun r s t u v hS hr => ?_
      refine for_range (U := [.ls ta [], .ls ia []]) (R := V) (fun i c' vs' U' => ∃ xs tgs pl pt tg vl, vs' = [some (.ref a), some (.ref 293), some (.ref ia), some (.ref ta), pl, pt, tg, vl] ∧ U' = [.ls ta tgs, .ls ia xs] ∧ IsVs w c' ((ql l i).map (·.2)) xs ∧ TagsAre ((ql l i).map (·.1)) tgs) hR.h hr (by (first | lia | omega)) hS ⟨[], [], none, none, none, none, rfl, rfl, .nil, .nil⟩ ?_ ?_
      · rintro i tk c3 vs' U' R' s' hi l3 ⟨xs, tgs, pl, pt, tg, vl, rfl, rfl, hxs, htg⟩ hsub hS
        replace hS : Sat w c3 (_ :: .ls ta tgs :: .ls ia xs :: R') s' := hS
        have hO := hO.mono l3
        have hpl := Heap.PlainList.keeps hpl l3.keep
        have htl := Heap.PlainList.keeps htl l3.keep
        have hp : l[i]? = some l[i] := List.getElem?_eq_getElem (by (first | lia | omega))
        have hpm : l[i] ∈ l := List.getElem_mem (by (first | lia | omega))
        generalize l[i] = p at hp hpm
        have hu : us[i]? = some us[i] := List.getElem?_eq_getElem hi
        generalize us[i] = x at hu
        have hg : ts[i]? = some ts[i] := List.getElem?_eq_getElem (by (first | lia | omega))
        generalize ts[i] = g at hg
        have hpv := (hvs i p x hp hu).mono l3
        have hgt := hts i p g hp hg
        have hpw := hw3 p hpm
        have hpd := deep_mem hpm
        obtain ⟨xa, rfl⟩ := hpv.ref
        have eq1 : ql l (i + 1) = ql l i ++ qc i p := by rw [ql, hp]
        have hql := ql_len hw3 hm i
        have hi2 : i ≤ 100 := by (first | lia | omega)
        have hx1 := hxs.1
        have hx2 := htg.1
        simp only [List.length_map] at hx1 hx2
        row_hasAny m_k
        row_hasAny m_goT
        rename Sat _ _ _ _ => hS
        refine wpAny_mono (Q := fun b s' => b = decide (0 < i ∧ hole p.2 = two) ∧ ∃ c', c3.Le c' ∧ Sat w c' (.ns env.locals (fm nm238 [some (.ref a), some (.ref 293), some (.ref ia), some (.ref ta), some (.int i tk), some (.ref xa), tg, vl]) :: .ls ta tgs :: .ls ia xs :: R') s') (E := fun _ _ => False) ?_ ?_ fun _ _ x => x.elim
        · row_hasAny m_goK
          refine ifb (fun h2 => ?_) (fun h2 => ?_)
          · row_hasAny m_goK
            rename Sat _ _ _ _ => hS
            refine fn231 hS (n := 0) (hR.less (by (first | lia | omega))) hpv hpw (by (first | lia | omega)) fun c4 s4 tk4 l4 hS => ?_
            row_hasAny m_goK
            refine eqs_d ?_
            row_hasAny m_goK
            have h2 : 0 < i := by have := of_decide_eq_true h2; (first | lia | omega)
            refine ifb (fun h3 => ?_) (fun h3 => ?_)
            · row_hasAny m_goK
              rename Sat _ _ _ _ => hS
              exact ⟨(decide_eq_true ⟨h2, of_decide_eq_true h3⟩).symm, c4, l4, hS⟩
            · row_hasAny m_goK
              rename Sat _ _ _ _ => hS
              exact ⟨(decide_eq_false fun q => of_decide_eq_false h3 q.2).symm, c4, l4, hS⟩
          · row_hasAny m_goK
            rename Sat _ _ _ _ => hS
            have h2 : ¬ 0 < i := by have := of_decide_eq_false h2; (first | lia | omega)
            exact ⟨(decide_eq_false fun q => h2 q.1).symm, c3, .refl _, hS⟩
        · rintro _ s ⟨rfl, c4, l4, hS⟩
          have hpv := hpv.mono l4
          have hO := hO.mono l4
          have htl := Heap.PlainList.keeps htl l4.keep
          refine ifb (fun h2 => ?_) (fun h2 => ?_)
          · have h2 := of_decide_eq_true h2
            have eqc : qc i p = parts (inner p.2) := by unfold qc; rw [if_pos h2]
            obtain ⟨p0, x0⟩ := p
            obtain ⟨g2, q, rfl⟩ := hole_two h2.2
            cases hpv with
            | @call _ li2 lt2 tk3 _ us2 ts2 hO2 hpl2 htl2 hlen2 htlen2 hvs2 hts2 =>
            refine len2k (hlen2) fun u0 u1 ee => ?_
            subst ee
            have hu1 := hvs2 1 q u1 rfl rfl
            row_hasAny m_goK
            rename Sat _ _ _ _ => hS
            refine subPI hS hpl2 (by decide) rfl ?_ (by with_unfolding_all rfl)
            row_hasAny m_goK
            rename Sat _ _ _ _ => hS
            refine fn293 (n := 0) hS (hR.less (by (first | lia | omega))) fun s hS => ?_
            row_hasAny m_goK
            rename Sat _ _ _ _ => hS
            refine fn224 (n := 0) hS (hR.less (by (first | lia | omega))) hu1 (wide_inner hpw) (by (first | lia | omega)) fun c5 s5 la rs l5 hS hla hrs => ?_
            have hrl := hrs.1
            have hpl3 := parts_len (wide_inner hpw)
            simp only [inner] at eqc
            have hlen3 : (parts q.2).length ≤ 100 := by (first | lia | omega)
            refine for_list (U := [.ls ta tgs, .ls ia xs]) (R := R') (fun j c' vs' U' => ∃ xs' tgs' tg vl, vs' = [some (.ref a), some (.ref 293), some (.ref ia), some (.ref ta), some (.int i tk), some (.ref xa), tg, vl] ∧ U' = [.ls ta (tgs ++ tgs'), .ls ia (xs ++ xs')] ∧ IsVs w c' (((parts q.2).take j).map (·.2)) xs' ∧ TagsAre (((parts q.2).take j).map (·.1)) tgs') hR.h hla.isList go_list2 hS ⟨[], [], _, _, rfl, by simp, .nil, .nil⟩ ?_ ?_
            · rintro j y c6 vs6 U6 R6 s6 hy l6 ⟨xs', tgs', tg', vl', rfl, rfl, hxs', htg'⟩ hsub6 hS
              replace hS : Sat w c6 (_ :: .ls ta (tgs ++ tgs') :: .ls ia (xs ++ xs') :: R6) s6 := hS
              have hj := (List.getElem?_eq_some_iff.mp hy).1
              have hjl : j < (parts q.2).length := by (first | lia | omega)
              have hrj : (parts q.2)[j]? = some (parts q.2)[j] := List.getElem?_eq_getElem hjl
              generalize (parts q.2)[j] = rp at hrj
              obtain ⟨ra, g', u', rfl, htup, hg', hu'⟩ := (hrs.2 j rp y hrj hy).mono l6
              have hj1 := hxs'.1
              have hj2 := htg'.1
              have hj4 : ((parts q.2).take j).length ≤ j := by simp; (first | lia | omega)
              simp only [List.length_map] at hj1 hj2
              row_hasAny m_k
              row_hasAny m_goK
              rename Sat _ _ _ _ => hS
              refine fn156 (n := 2) hS (hR.less (by (first | lia | omega))) hu' fun s hS => ?_
              row_hasAny m_goK
              rename Sat _ _ _ _ => hS
              refine append_ hS (by row_hasAny m_lk) (by simp only [List.length_append]; (first | lia | omega)) fun s hS => ?_
              row_hasAny m_goK
              rename Sat _ _ _ _ => hS
              refine append_ hS (by row_hasAny m_lk) (by simp only [List.length_append]; (first | lia | omega)) fun s hS => ?_
              row_hasAny m_goK
              rename Sat _ _ _ _ => hS
              refine ⟨c6, _, [.ls ta (tgs ++ (tgs' ++ [g'])), .ls ia (xs ++ (xs' ++ [u']))], .refl _, ⟨xs' ++ [u'], tgs' ++ [g'], _, _, rfl, rfl, ?_, ?_⟩, by simpa [List.append_assoc] using hS⟩
              · rw [List.take_add_one, hrj, List.map_append]; exact hxs'.append (.one hu')
              · rw [List.take_add_one, hrj, List.map_append]; exact htg'.append (.one hg')
            · rintro c6 vs6 U6 s6 l6 ⟨xs', tgs', tg', vl', rfl, rfl, hxs', htg'⟩ hS
              row_hasAny m_goK
              rename Sat _ _ _ _ => hS
              rw [hrl, List.take_length] at hxs' htg'
              refine ⟨c6, _, [.ls ta (tgs ++ tgs'), .ls ia (xs ++ xs')], (l4.trans l5).trans l6, ⟨xs ++ xs', tgs ++ tgs', _, _, _, _, rfl, rfl, ?_, ?_⟩, hS⟩
              · rw [eq1, eqc, List.map_append]; exact (hxs.mono ((l4.trans l5).trans l6)).append hxs'
              · rw [eq1, eqc, List.map_append]; exact htg.append htg'
          · have h2 := of_decide_eq_false h2
            have eqc : qc i p = [(p.1, quoted p.2)] := by unfold qc; rw [if_neg h2]
            row_hasAny m_goK
            rename Sat _ _ _ _ => hS
            refine ih p hpm hS (hR.less (by (first | lia | omega))) hpv hpw hm fun c5 s5 y l5 hS hy => ?_
            have hO := hO.mono l5
            have htl := Heap.PlainList.keeps htl l5.keep
            row_hasAny m_goK
            rename Sat _ _ _ _ => hS
            refine append_ hS (by row_hasAny m_lk) (by (first | lia | omega)) fun s hS => ?_
            row_hasAny m_goK
            rename Sat _ _ _ _ => hS
            refine append_ hS (by row_hasAny m_lk) (by (first | lia | omega)) fun s hS => ?_
            row_hasAny m_goK
            rename Sat _ _ _ _ => hS
            refine ⟨c5, _, [.ls ta (tgs ++ [g]), .ls ia (xs ++ [y])], l4.trans l5, ⟨xs ++ [y], tgs ++ [g], _, _, _, _, rfl, rfl, ?_, ?_⟩, hS⟩
            · rw [eq1, eqc, List.map_append]; exact (hxs.mono (l4.trans l5)).append (.one hy)
            · rw [eq1, eqc, List.map_append]; exact htg.append (.one hgt)
      · rintro c3 vs' U' s' l3 ⟨xs, tgs, pl, pt, tg, vl, rfl, rfl, hxs, htg⟩ hS
        replace hS : Sat w c3 (_ :: .ls ta tgs :: .ls ia xs :: V) s' := hS
        rw [hlen, ql_all] at hxs htg
        row_hasAny m_goK
        rename Sat _ _ _ _ => hS
        obtain ⟨c4, l4, hS, h5⟩ := hS.freeze (p := .ls ta tgs) (.tail .head)
        obtain ⟨c5, l5, hS, h6⟩ := hS.freeze (p := .ls ia xs) (.tail .head)
        refine new_call (n := 1) hS (hR.less (by (first | lia | omega))) h6 (Heap.PlainList.keeps h5 l5.keep) (hxs.mono (l4.trans l5)) htg fun b c6 s6 l6 hS hb => ?_
        repeat row_hasAny m_out
        exact ⟨c6, _, V, (((l1.trans l3).trans l4).trans l5).trans l6, hS, rfl, by rw [quoted_call, if_neg h1]; exact hb⟩
  · rintro r c' V' s' l h ⟨rfl, hv⟩
    exact k c' s' r l h hv
theorem fn238 (w : World) (t : T) : C238 w t := by
  induction t using T.ind with
  | h1 x => exact fn238_in (t := .name x) fun _ h => nomatch h
  | h2 => exact fn238_in (t := .null) fun _ h => nomatch h
  | h3 => exact fn238_in (t := .miss) fun _ h => nomatch h
  | h4 k ds => exact fn238_in (t := .leaf k ds) fun _ h => nomatch h
  | h5 l ih => exact fn238_in (t := .call l) ih
noncomputable abbrev gl286 : List (Str × Value) := [("list", .type "list"), ("zip", .type "zip")]
theorem ok286 (w : World) : FnOkC w 286 [] gl286 := .of (by kernel_rfl)
/-- the rows of a list of the law's trees -/
noncomputable def RowL (c : Ctx) (p : Tag × T) (v : Value) : Prop := ∃ a g u, v = .ref a ∧ c.I.IsTuple a [g, u].toArray ∧ TagIs p.1 g ∧ IsL c p.2 u
noncomputable def RowLs (c : Ctx) (l : List (Tag × T)) (vs : List Value) : Prop := vs.length = l.length ∧ ∀ (i : Nat) p u, l[i]? = some p → vs[i]? = some u → RowL c p u
theorem RowL.mono {c c' : Ctx} {p : Tag × T} {v : Value} (x : RowL c p v) (l : c.Le c') : RowL c' p v := let ⟨a, g, u, e, h1, h2, h3⟩ := x; ⟨a, g, u, e, tuple_keeps h1 l, h2, h3.mono l⟩
theorem RowLs.mono {c c' : Ctx} {p : List (Tag × T)} {v : List Value} (x : RowLs c p v) (l : c.Le c') : RowLs c' p v := ⟨x.1, fun i p u h1 h2 => (x.2 i p u h1 h2).mono l⟩
theorem RowLs.nil {c : Ctx} : RowLs c [] [] := ⟨rfl, fun _ _ _ h => by simp at h⟩
theorem RowLs.one {c : Ctx} {p : Tag × T} {v : Value} (h : RowL c p v) : RowLs c [p] [v] := ⟨rfl, fun i q u h1 h2 => by
  cases i with
  | zero => simp at h1 h2; subst h1 h2; exact h
  | succ i => simp at h1⟩
/-- _law_parts -/
theorem fn286 {w : World} {A : Around} {E : Value → Shared → Prop} {c : Ctx} {V : List Cell} {s : Shared} {n m : Nat} {t : T} {v : Value} {Q : Value → Shared → Prop} (hS : Sat w c V s) (hR : Room A (n + 1)) (hv : IsL c t v) (hk : LK t) (hw : Wide m t) (hm : m ≤ 1000)
    (k : ∀ c' s' a us, c.Le c' → Sat w c' V s' → c'.I.PlainList a us.toArray → RowLs c' (parts t) us → Q (.ref a) s') : wpAny (MM w) A (call (.ref 286) [v]) Q E s := by
  refine call_cell2 (n := n) (x := "tree") (Post := fun r c' V' => V' = V ∧ ∃ a us, r = .ref a ∧ c'.I.PlainList a us.toArray ∧ RowLs c' (parts t) us) (ok286 w) hS hR (by kernel_rfl) (fun k => by kernel_rfl) (by kernel_rfl) (by decide) ?_ ?_
  · intro env A' s C c1 le1 hK hE hC hR hS
    replace hS : Sat w c1 (.ns env.locals (fm [] []) :: V) s := hS
    have hv' := hv.mono le1
    clear hv
    row_hasAny m_k
    row_hasAny m_open
    match t with
    | .name x =>
      obtain ⟨a, t1, t2, rfl, ht⟩ := isl_name hv'
      row_hasAny m_goK
      rename Sat _ _ _ _ => hS
      refine newLstI hS (by simp) fun la c2 s2 l2 hS hla => ?_
      refine inLs (d := .str "name") (l := [("NULL" : Str), "name", "missing"].map .str) hS hR hla.isList (rds_mkc rd_s (rds_mkc rd_s (rds_mkc rd_s rds_mk))) rd_s (by kernel_rfl) (by kernel_rfl) (by simp [PyData.depth]) ?_
      rw [any_strs, show decide (("name" : Str) ∈ [("NULL" : Str), "name", "missing"]) = true from by decide]
      rename CelsAt _ _ _ => hK
      have hK := hK.mono l2
      have ht := tuple_keeps ht l2
      row_hasAny m_goK
      rename Sat _ _ _ _ => hS
      refine newTup hS (by simp) fun ta c3 s3 l3 hS hta => ?_
      row_hasAny m_goK
      rename Sat _ _ _ _ => hS
      refine newLstI hS (by simp) fun lb c4 s4 l4 hS hlb => ?_
      repeat row_hasAny m_out
      exact ⟨c4, _, V, (l2.trans l3).trans l4, hS, rfl, lb, _, rfl, hlb, .one ⟨ta, _, _, rfl, tuple_keeps hta l4, rfl, hv'.mono ((l2.trans l3).trans l4)⟩⟩
    | .null =>
      obtain ⟨a, t1, rfl, ht⟩ := isl_null hv'
      row_hasAny m_goK
      rename Sat _ _ _ _ => hS
      refine newLstI hS (by simp) fun la c2 s2 l2 hS hla => ?_
      refine inLs (d := .str "NULL") (l := [("NULL" : Str), "name", "missing"].map .str) hS hR hla.isList (rds_mkc rd_s (rds_mkc rd_s (rds_mkc rd_s rds_mk))) rd_s (by kernel_rfl) (by kernel_rfl) (by simp [PyData.depth]) ?_
      rw [any_strs, show decide (("NULL" : Str) ∈ [("NULL" : Str), "name", "missing"]) = true from by decide]
      rename CelsAt _ _ _ => hK
      have hK := hK.mono l2
      have ht := tuple_keeps ht l2
      row_hasAny m_goK
      rename Sat _ _ _ _ => hS
      refine newLstI hS (by simp) fun lb c4 s4 l4 hS hlb => ?_
      repeat row_hasAny m_out
      exact ⟨c4, _, V, l2.trans l4, hS, rfl, lb, _, rfl, hlb, .nil⟩
    | .miss =>
      obtain ⟨a, t1, rfl, ht⟩ := isl_miss hv'
      row_hasAny m_goK
      rename Sat _ _ _ _ => hS
      refine newLstI hS (by simp) fun la c2 s2 l2 hS hla => ?_
      refine inLs (d := .str "missing") (l := [("NULL" : Str), "name", "missing"].map .str) hS hR hla.isList (rds_mkc rd_s (rds_mkc rd_s (rds_mkc rd_s rds_mk))) rd_s (by kernel_rfl) (by kernel_rfl) (by simp [PyData.depth]) ?_
      rw [any_strs, show decide (("missing" : Str) ∈ [("NULL" : Str), "name", "missing"]) = true from by decide]
      rename CelsAt _ _ _ => hK
      have hK := hK.mono l2
      have ht := tuple_keeps ht l2
      row_hasAny m_goK
      rename Sat _ _ _ _ => hS
      refine newTup hS (by simp) fun ta c3 s3 l3 hS hta => ?_
      row_hasAny m_goK
      rename Sat _ _ _ _ => hS
      refine newLstI hS (by simp) fun lb c4 s4 l4 hS hlb => ?_
      repeat row_hasAny m_out
      exact ⟨c4, _, V, (l2.trans l3).trans l4, hS, rfl, lb, _, rfl, hlb, .one ⟨ta, _, _, rfl, tuple_keeps hta l4, rfl, hv'.mono ((l2.trans l3).trans l4)⟩⟩
    | .leaf kd ds =>
      obtain ⟨a, t1, li, us, rfl, ht, hli, hus⟩ := isl_leaf hv'
      have hkd : LeafK kd := by cases hk with | leaf h => exact h
      cases hw with
      | leaf hk1 hk2 hk3 =>
      have hul := rds_len hus
      simp only [List.length_map] at hul
      row_hasAny m_goK
      rename Sat _ _ _ _ => hS
      refine newLstI hS (by simp) fun la c2 s2 l2 hS hla => ?_
      refine inLs (d := .str kd) (l := [("NULL" : Str), "name", "missing"].map .str) hS hR hla.isList (rds_mkc rd_s (rds_mkc rd_s (rds_mkc rd_s rds_mk))) rd_s (by kernel_rfl) hk1 (by simp [PyData.depth]) ?_
      rw [any_strs, show decide (kd ∈ [("NULL" : Str), "name", "missing"]) = false from decide_eq_false (by simp [hkd.h4, hkd.h8, hkd.h5])]
      rename CelsAt _ _ _ => hK
      have hK := hK.mono l2
      have ht := tuple_keeps ht l2
      have hli := list_keeps hli l2
      have hus := hus.mono l2
      row_hasAny m_goK
      rename Sat _ _ _ _ => hS
      rename FrOk _ _ _ _ => hE
      refine ListComp_ (cl := [("tree", C)]) (clos_of hC (by with_unfolding_all rfl)) rfl (by decide) ?_
      row_hasAny m_goK
      rename Sat _ _ _ _ => hS
      rename FrOk _ _ _ _ => hE
      refine map_list (nm := ["item"]) (gl := []) (fun c' i y => ∀ d, ds[i]? = some d → RowL c' (none, .leaf kd [d]) y) (fun _ _ _ _ h l p hp => (h p hp).mono l) hR.h (by decide) rfl (fun C' => (hE.compC (cn := []) hC (by kernel_rfl)).1) hli (by (first | lia | omega)) go_list hS ?_ ?_
      · rintro i x c' R' vs' cenv s' hx le hE2 ⟨C', rfl⟩ hvs' hS
        refine len1k (hvs') fun x0 ee => ?_
        subst ee
        rename CelsAt _ _ _ => hK
        have hK := (CelsAt.comp' hE2 hE hC hK (fun p hp => rfl) (by kernel_rfl)).mono le
        have hE := hE2
        have ht := tuple_keeps ht le
        have hi := (List.getElem?_eq_some_iff.mp hx).1
        have hd : ds[i]? = some ds[i] := List.getElem?_eq_getElem (by (first | lia | omega))
        generalize ds[i] = d at hd
        have hxd : RD c' d.toP x := (rds_get hus (i := i) (d := d.toP) (by simp [hd]) hx).mono le
        row_hasAny m_goK
        rename Sat _ _ _ _ => hS
        refine newLstI hS (by simp) fun la3 c3 s3 l3 hS hla3 => ?_
        row_hasAny m_goK
        rename Sat _ _ _ _ => hS
        refine newTup hS (by simp) fun ta c4 s4 l4 hS hta => ?_
        row_hasAny m_goK
        rename Sat _ _ _ _ => hS
        refine newTup hS (by simp) fun tb c5 s5 l5 hS htb => ?_
        exact ⟨c5, _, (l3.trans l4).trans l5, fun q hq => by
          rw [hd] at hq; cases hq
          exact ⟨tb, _, _, rfl, htb, rfl, mkl_leaf (tuple_keeps hta l5) (Heap.PlainList.keeps hla3 (l4.trans l5).keep).isList (by simpa using rds_one (hxd.mono ((l3.trans l4).trans l5)))⟩, hS⟩
      · intro c3 ys D s3 l3 hyl hys hS
        row_hasAny m_goK
        rename Sat _ _ _ _ => hS
        obtain ⟨c4, l4, hS, hf⟩ := hS.freeze (p := .ls D ys) (.tail .head)
        refine ⟨c4, _, V, (l2.trans l3).trans l4, hS, rfl, D, ys, rfl, hf, ⟨by simp only [parts, List.length_map]; (first | lia | omega), fun i p u h1 h2 => ?_⟩⟩
        simp only [parts, List.getElem?_map, Option.map_eq_some_iff] at h1
        obtain ⟨d, hd, rfl⟩ := h1
        exact (hys i u h2 d hd).mono l4
    | .call l =>
      obtain ⟨a, t1, li, lt, us, ts, rfl, ht, hli, hlt, hus, hts⟩ := isl_call hv'
      have hul := isl_len hus
      have htl : ts.length = l.length := by simpa using hts.1
      cases hw with
      | call hw1 hw2 hw3 hw4 =>
      row_hasAny m_goK
      rename Sat _ _ _ _ => hS
      refine zipNew hS hlt hli fun z s hS hz => ?_
      row_hasAny m_goK
      rename Sat _ _ _ _ => hS
      refine listZip hR.h hz (by (first | lia | omega)) (by (first | lia | omega)) fun D c2 s2 as l2 hS hD hal has => ?_
      repeat row_hasAny m_out
      refine ⟨c2, _, V, l2, hS, rfl, D, _, rfl, hD, ⟨by simp only [parts, List.length_map]; (first | lia | omega), fun i p u h1 h2 => ?_⟩⟩
      simp only [List.getElem?_map, Option.map_eq_some_iff] at h2
      obtain ⟨b, hb, rfl⟩ := h2
      obtain ⟨x, y, e1, e2, e3⟩ := has i b hb
      exact ⟨b, x, y, rfl, e3, hts.2 i p.1 x (by simp only [parts] at h1; simp [h1]) e1, (isl_get hus h1 e2).mono l2⟩
  · rintro r c' V' s' l h ⟨rfl, a, us, rfl, h1, h2⟩
    exact k c' s' a us l h h1 h2
theorem IsLs.append {c : Ctx} {l l' : List T} {vs vs' : List Value} (x : IsLs c l vs) (y : IsLs c l' vs') : IsLs c (l ++ l') (vs ++ vs') := by
  refine ⟨by simp [x.1, y.1], fun i p u h1 h2 => ?_⟩
  rw [List.getElem?_append] at h1 h2
  rw [x.1] at h2
  by_cases q : i < l.length
  · rw [if_pos q] at h1 h2; exact x.2 i p u h1 h2
  · rw [if_neg q] at h1 h2; exact y.2 _ p u h1 h2
theorem IsLs.nil {c : Ctx} : IsLs c [] [] := ⟨rfl, fun _ _ _ h => by simp at h⟩
theorem IsLs.one {c : Ctx} {t : T} {v : Value} (h : IsL c t v) : IsLs c [t] [v] := ⟨rfl, fun i p u h1 h2 => by
  cases i with
  | zero => simp at h1 h2; subst h1 h2; exact h
  | succ i => simp at h1⟩
theorem lk_inner {g : Tag} {x : T} {p : Tag × T} (h : LK (.call [(g, x), p])) : LK p.2 := kidsK h p (.tail _ (.head _))
/-- _law_quoted -/
noncomputable def C300 (w : World) (t : T) : Prop := ∀ {A : Around} {E : Value → Shared → Prop} {c : Ctx} {V : List Cell} {s : Shared} {v : Value} {m : Nat} {Q : Value → Shared → Prop}, Sat w c V s → Room A (deep t + 3) → IsL c t v → LK t → Wide m t → m ≤ 100 → deep t ≤ 20 →
    (∀ c' s' r, c.Le c' → Sat w c' V s' → IsL c' (quoted t) r → Q r s') → wpAny (MM w) A (call (.ref 300) [v]) Q E s
set_option maxHeartbeats 4000000 in
theorem fn300_in {w : World} {t : T} (ih : ∀ p ∈ kids t, C300 w p.2) : C300 w t := by
  intro A E c V s v m Q hS hR hv hk hw hm hdp k
  refine call_fn (n := deep t + 2) (rest := ["items", "tags", "step", "piece", "tag", "item"]) (Post := fun r c' V' => V' = V ∧ IsL c' (quoted t) r) (ok300 w) hS hR (binds := [("tree", v)]) (vs := [some v, none, none, none, none, none, none]) (by kernel_rfl) rfl rfl ?_ ?_
  · intro env A' s hE hR hS
    obtain ⟨a, rfl⟩ := hv.ref
    row_hasAny m_k
    row_hasAny m_open
    row_hasAny m_goK
    rename Sat _ _ _ _ => hS
    refine fn281 hS hR hv hk hw (by (first | lia | omega)) hdp fun c1 s1 tk l1 hS => ?_
    have hv := hv.mono l1
    row_hasAny m_goK
    refine eqs_d ?_
    row_hasAny m_goK
    refine ifb (fun h1 => ?_) (fun h1 => ?_)
    · have h1 : hole t = one := of_decide_eq_true h1
      obtain ⟨g0, p1, rfl⟩ := hole_one h1
      obtain ⟨_, t1, li, lt, us, ts, e, ht, hli, hlt, hus, hts⟩ := isl_call hv
      cases e
      refine len2k (isl_len hus) fun u0 u1 ee => ?_
      subst ee
      have hu1 := isl_get hus (i := 1) (p := p1) (u := u1) rfl rfl
      row_hasAny m_goK
      rename Sat _ _ _ _ => hS
      refine ⟨c1, _, V, l1, hS, rfl, ?_⟩
      rw [quoted_call, if_pos h1]
      exact hu1
    · have h1 : hole t ≠ one := of_decide_eq_false h1
      cases hc : isCall t with
      | false =>
        row_hasAny m_goK
        rename Sat _ _ _ _ => hS
        exact ⟨c1, _, V, l1, hS, rfl, by rw [quoted_other hc]; exact hv⟩
      | true =>
      refine callk (hc) fun l ee => ?_
      subst ee
      obtain ⟨_, t1, li, lt, us, ts, e, ht, hli, hlt, hus, hts⟩ := isl_call hv
      cases e
      have hul := isl_len hus
      have htl : ts.length = l.length := by simpa using hts.1
      cases hw with
      | call hw1 hw2 hw3 hw4 =>
      row_hasAny m_goK
      rename Sat _ _ _ _ => hS
      refine newLst hS (by decide) fun ia s hS => ?_
      row_hasAny m_goK
      rename Sat _ _ _ _ => hS
      refine newLst hS (by decide) fun ta s hS => ?_
      row_hasAny m_goK
      rename Sat _ _ _ _ => hS
      refine len_ hS (hS.isl hli) (by (first | lia | omega)) fun t1 s hS => ?_
      row_hasAny m_goK
      rename Sat _ _ _ _ => hS
      refine range_ hS fun r s t u v hS hr => ?_
      refine for_range (U := [.ls ta [], .ls ia []]) (R := V) (fun i c' vs' U' => ∃ xs tgs pl pt tg vl, vs' = [some (.ref a), some (.ref ia), some (.ref ta), pl, pt, tg, vl] ∧ U' = [.ls ta tgs, .ls ia xs] ∧ IsLs c' ((ql l i).map (·.2)) xs ∧ TagsAre ((ql l i).map (·.1)) tgs) hR.h hr (by (first | lia | omega)) hS ⟨[], [], none, none, none, none, rfl, rfl, .nil, .nil⟩ ?_ ?_
      · rintro i tk c3 vs' U' R' s' hi l3 ⟨xs, tgs, pl, pt, tg, vl, rfl, rfl, hxs, htg⟩ hsub hS
        replace hS : Sat w c3 (_ :: .ls ta tgs :: .ls ia xs :: R') s' := hS
        have ht := tuple_keeps ht l3
        have hli := list_keeps hli l3
        have hlt := list_keeps hlt l3
        have hp : l[i]? = some l[i] := List.getElem?_eq_getElem (by (first | lia | omega))
        have hpm : l[i] ∈ l := List.getElem_mem (by (first | lia | omega))
        generalize l[i] = p at hp hpm
        have hu : us[i]? = some us[i] := List.getElem?_eq_getElem hi
        generalize us[i] = x at hu
        have hg : ts[i]? = some ts[i] := List.getElem?_eq_getElem (by (first | lia | omega))
        generalize ts[i] = g at hg
        have hpv := (isl_get hus hp hu).mono l3
        have hgt : TagIs p.1 g := hts.2 i p.1 g (by simp [hp]) hg
        have hpw := hw3 p hpm
        have hpk := kidsK hk p hpm
        have hpd := deep_mem hpm
        obtain ⟨xa, rfl⟩ := hpv.ref
        have eq1 : ql l (i + 1) = ql l i ++ qc i p := by rw [ql, hp]
        have hql := ql_len hw3 hm i
        have hi2 : i ≤ 100 := by (first | lia | omega)
        have hx1 := hxs.1
        have hx2 := htg.1
        simp only [List.length_map] at hx1 hx2
        row_hasAny m_k
        row_hasAny m_goT
        rename Sat _ _ _ _ => hS
        refine wpAny_mono (Q := fun b s' => b = decide (0 < i ∧ hole p.2 = two) ∧ ∃ c', c3.Le c' ∧ Sat w c' (.ns env.locals (fm nm300 [some (.ref a), some (.ref ia), some (.ref ta), some (.int i tk), some (.ref xa), tg, vl]) :: .ls ta tgs :: .ls ia xs :: R') s') (E := fun _ _ => False) ?_ ?_ fun _ _ x => x.elim
        · row_hasAny m_goK
          refine ifb (fun h2 => ?_) (fun h2 => ?_)
          · row_hasAny m_goK
            rename Sat _ _ _ _ => hS
            refine fn281 hS (n := 0) (hR.less (by (first | lia | omega))) hpv hpk hpw (by (first | lia | omega)) (by (first | lia | omega)) fun c4 s4 tk4 l4 hS => ?_
            row_hasAny m_goK
            refine eqs_d ?_
            row_hasAny m_goK
            have h2 : 0 < i := by have := of_decide_eq_true h2; (first | lia | omega)
            refine ifb (fun h3 => ?_) (fun h3 => ?_)
            · row_hasAny m_goK
              rename Sat _ _ _ _ => hS
              exact ⟨(decide_eq_true ⟨h2, of_decide_eq_true h3⟩).symm, c4, l4, hS⟩
            · row_hasAny m_goK
              rename Sat _ _ _ _ => hS
              exact ⟨(decide_eq_false fun q => of_decide_eq_false h3 q.2).symm, c4, l4, hS⟩
          · row_hasAny m_goK
            rename Sat _ _ _ _ => hS
            have h2 : ¬ 0 < i := by have := of_decide_eq_false h2; (first | lia | omega)
            exact ⟨(decide_eq_false fun q => h2 q.1).symm, c3, .refl _, hS⟩
        · rintro _ s ⟨rfl, c4, l4, hS⟩
          have hpv := hpv.mono l4
          have ht := tuple_keeps ht l4
          have hlt := list_keeps hlt l4
          refine ifb (fun h2 => ?_) (fun h2 => ?_)
          · have h2 := of_decide_eq_true h2
            have eqc : qc i p = parts (inner p.2) := by unfold qc; rw [if_pos h2]
            obtain ⟨p0, x0⟩ := p
            obtain ⟨g2, q, rfl⟩ := hole_two h2.2
            obtain ⟨_, t3, li2, lt2, us2, ts2, e, ht2, hli2, hlt2, hus2, hts2⟩ := isl_call hpv
            cases e
            refine len2k (isl_len hus2) fun u0 u1 ee => ?_
            subst ee
            have hu1 := isl_get hus2 (i := 1) (p := q) (u := u1) rfl rfl
            row_hasAny m_goK
            rename Sat _ _ _ _ => hS
            refine fn286 (n := 0) hS (hR.less (by (first | lia | omega))) hu1 (lk_inner hpk) (wide_inner hpw) (by (first | lia | omega)) fun c5 s5 la rs l5 hS hla hrs => ?_
            have hrl := hrs.1
            have hpl3 := parts_len (wide_inner hpw)
            simp only [inner] at eqc
            have hlen3 : (parts q.2).length ≤ 100 := by (first | lia | omega)
            refine for_list (U := [.ls ta tgs, .ls ia xs]) (R := R') (fun j c' vs' U' => ∃ xs' tgs' tg vl, vs' = [some (.ref a), some (.ref ia), some (.ref ta), some (.int i tk), some (.ref xa), tg, vl] ∧ U' = [.ls ta (tgs ++ tgs'), .ls ia (xs ++ xs')] ∧ IsLs c' (((parts q.2).take j).map (·.2)) xs' ∧ TagsAre (((parts q.2).take j).map (·.1)) tgs') hR.h hla.isList go_list2 hS ⟨[], [], _, _, rfl, by simp, .nil, .nil⟩ ?_ ?_
            · rintro j y c6 vs6 U6 R6 s6 hy l6 ⟨xs', tgs', tg', vl', rfl, rfl, hxs', htg'⟩ hsub6 hS
              replace hS : Sat w c6 (_ :: .ls ta (tgs ++ tgs') :: .ls ia (xs ++ xs') :: R6) s6 := hS
              have hj := (List.getElem?_eq_some_iff.mp hy).1
              have hjl : j < (parts q.2).length := by (first | lia | omega)
              have hrj : (parts q.2)[j]? = some (parts q.2)[j] := List.getElem?_eq_getElem hjl
              generalize (parts q.2)[j] = rp at hrj
              obtain ⟨ra, g', u', rfl, htup, hg', hu'⟩ := (hrs.2 j rp y hrj hy).mono l6
              have hj1 := hxs'.1
              have hj2 := htg'.1
              have hj4 : ((parts q.2).take j).length ≤ j := by simp; (first | lia | omega)
              simp only [List.length_map] at hj1 hj2
              row_hasAny m_k
              row_hasAny m_goK
              rename Sat _ _ _ _ => hS
              refine append_ hS (by row_hasAny m_lk) (by simp only [List.length_append]; (first | lia | omega)) fun s hS => ?_
              row_hasAny m_goK
              rename Sat _ _ _ _ => hS
              refine append_ hS (by row_hasAny m_lk) (by simp only [List.length_append]; (first | lia | omega)) fun s hS => ?_
              row_hasAny m_goK
              rename Sat _ _ _ _ => hS
              refine ⟨c6, _, [.ls ta (tgs ++ (tgs' ++ [g'])), .ls ia (xs ++ (xs' ++ [u']))], .refl _, ⟨xs' ++ [u'], tgs' ++ [g'], _, _, rfl, rfl, ?_, ?_⟩, by simpa [List.append_assoc] using hS⟩
              · rw [List.take_add_one, hrj, List.map_append]; exact hxs'.append (.one hu')
              · rw [List.take_add_one, hrj, List.map_append]; exact htg'.append (.one hg')
            · rintro c6 vs6 U6 s6 l6 ⟨xs', tgs', tg', vl', rfl, rfl, hxs', htg'⟩ hS
              row_hasAny m_goK
              rename Sat _ _ _ _ => hS
              rw [hrl, List.take_length] at hxs' htg'
              refine ⟨c6, _, [.ls ta (tgs ++ tgs'), .ls ia (xs ++ xs')], (l4.trans l5).trans l6, ⟨xs ++ xs', tgs ++ tgs', _, _, _, _, rfl, rfl, ?_, ?_⟩, hS⟩
              · rw [eq1, eqc, List.map_append]; exact (hxs.mono ((l4.trans l5).trans l6)).append hxs'
              · rw [eq1, eqc, List.map_append]; exact htg.append htg'
          · have h2 := of_decide_eq_false h2
            have eqc : qc i p = [(p.1, quoted p.2)] := by unfold qc; rw [if_neg h2]
            row_hasAny m_goK
            rename Sat _ _ _ _ => hS
            refine ih p hpm hS (hR.less (by (first | lia | omega))) hpv hpk hpw hm (by (first | lia | omega)) fun c5 s5 y l5 hS hy => ?_
            have ht := tuple_keeps ht l5
            have hlt := list_keeps hlt l5
            row_hasAny m_goK
            rename Sat _ _ _ _ => hS
            refine append_ hS (by row_hasAny m_lk) (by (first | lia | omega)) fun s hS => ?_
            row_hasAny m_goK
            rename Sat _ _ _ _ => hS
            refine append_ hS (by row_hasAny m_lk) (by (first | lia | omega)) fun s hS => ?_
            row_hasAny m_goK
            rename Sat _ _ _ _ => hS
            refine ⟨c5, _, [.ls ta (tgs ++ [g]), .ls ia (xs ++ [y])], l4.trans l5, ⟨xs ++ [y], tgs ++ [g], _, _, _, _, rfl, rfl, ?_, ?_⟩, hS⟩
            · rw [eq1, eqc, List.map_append]; exact (hxs.mono (l4.trans l5)).append (.one hy)
            · rw [eq1, eqc, List.map_append]; exact htg.append (.one hgt)
      · rintro c3 vs' U' s' l3 ⟨xs, tgs, pl, pt, tg, vl, rfl, rfl, hxs, htg⟩ hS
        replace hS : Sat w c3 (_ :: .ls ta tgs :: .ls ia xs :: V) s' := hS
        rw [hul, ql_all] at hxs htg
        row_hasAny m_goK
        rename Sat _ _ _ _ => hS
        obtain ⟨c4, l4, hS, h5⟩ := hS.freeze (p := .ls ta tgs) (.tail .head)
        obtain ⟨c5, l5, hS, h6⟩ := hS.freeze (p := .ls ia xs) (.tail .head)
        refine newTup hS (by simp) fun b c6 s6 l6 hS hb => ?_
        repeat row_hasAny m_out
        exact ⟨c6, _, V, (((l1.trans l3).trans l4).trans l5).trans l6, hS, rfl, by rw [quoted_call, if_neg h1]; exact mkl_call hb (Heap.PlainList.keeps h6 l6.keep).isList (Heap.PlainList.keeps h5 (l5.trans l6).keep).isList (hxs.mono ((l4.trans l5).trans l6)) htg⟩
  · rintro r c' V' s' l h ⟨rfl, hv⟩
    exact k c' s' r l h hv
theorem fn300 (w : World) (t : T) : C300 w t := by
  induction t using T.ind with
  | h1 x => exact fn300_in (t := .name x) fun _ h => nomatch h
  | h2 => exact fn300_in (t := .null) fun _ h => nomatch h
  | h3 => exact fn300_in (t := .miss) fun _ h => nomatch h
  | h4 k ds => exact fn300_in (t := .leaf k ds) fun _ h => nomatch h
  | h5 l ih => exact fn300_in (t := .call l) ih
structure LawTab (w : World) (c : Ctx) (tab : Tab) (tb : Addr) (kvs : List (Str × Value)) : Prop where
  at_ : (dc w tb kvs).at c.I
  n0 : ∀ x, x ≠ dots → tab.kvs.lookup x = none → valueAt kvs x = none
  n1 : ∀ x t, x ≠ dots → tab.kvs.lookup x = some t → ∃ v, valueAt kvs x = some v ∧ IsL c t v
  d0 : tab.rows = none → valueAt kvs dots = none
  d1 : ∀ r, tab.rows = some r → r.length ≤ 50 ∧ ∃ la us, valueAt kvs dots = some (.ref la) ∧ c.I.PlainList la us.toArray ∧ RowLs c r us
theorem LawTab.mono {w : World} {c c' : Ctx} {tab : Tab} {tb : Addr} {kvs : List (Str × Value)} (x : LawTab w c tab tb kvs) (l : c.Le c') : LawTab w c' tab tb kvs :=
  ⟨Cell.at_of x.at_ fun o e => l.keep _ o e, x.n0, fun y t h1 h2 => let ⟨v, a, b⟩ := x.n1 y t h1 h2; ⟨v, a, b.mono l⟩, x.d0, fun r h => let ⟨a, la, us, b, d, e⟩ := x.d1 r h; ⟨a, la, us, b, Heap.PlainList.keeps d l.keep, e.mono l⟩⟩
theorem dots_eqv (t : T) : PyData.eqv t.toP (.tuple [.str "name", .str "..."]) = isDots t := by
  have hk : plainP (.tuple [.str "name", .str "..."]) = true := rfl
  rw [Bool.eq_iff_iff, eqv_iff _ _ (plain_T t) hk]
  cases t with
  | name x =>
    simp only [T.toP, isDots, dots, PyData.tuple.injEq, List.cons.injEq, PyData.str.injEq, and_true, true_and]
    exact ⟨decide_eq_true, of_decide_eq_true⟩
  | call l => simp [toP_call, isDots]
  | _ => simp [T.toP, isDots]
/-- _law_put -/
noncomputable def C274 (w : World) (tab : Tab) (t : T) : Prop := ∀ {A : Around} {E : Value → Shared → Prop} {c : Ctx} {V : List Cell} {s : Shared} {v : Value} {tb : Addr} {kvs : List (Str × Value)} {m : Nat} {Q : Value → Shared → Prop}, Sat w c V s → Room A (deep t + 2) → IsL c t v → LK t → Wide m t → m ≤ 1000 → deep t ≤ 20 → LawTab w c tab tb kvs →
    (∀ c' s' r, c.Le c' → Sat w c' V s' → IsL c' (put tab t) r → Q r s') → wpAny (MM w) A (call (.ref 274) [v, .ref tb]) Q E s
set_option maxHeartbeats 4000000 in
theorem fn274_in {w : World} {tab : Tab} {t : T} (ih : ∀ p ∈ kids t, C274 w tab p.2) : C274 w tab t := by
  intro A E c V s v tb kvs m Q hS hR hv hk hw hm hdp hT k
  refine call_fn (n := deep t + 1) (rest := ["items", "tags", "piece", "tag"]) (Post := fun r c' V' => V' = V ∧ IsL c' (put tab t) r) (ok274 w) hS hR (binds := [("tree", v), ("table", .ref tb)]) (vs := [some v, some (.ref tb), none, none, none, none]) (by kernel_rfl) rfl rfl ?_ ?_
  · intro env A' s hE hR hS
    row_hasAny m_k
    row_hasAny m_open
    cases hn : isName t with
    | true =>
      refine namek (hn) fun x ee => ?_
      subst ee
      obtain ⟨a, t1, t2, rfl, ht⟩ := isl_name hv
      row_hasAny m_goK
      rename Sat _ _ _ _ => hS
      refine ind hS (.imm hT.at_) fun s hS => ?_
      row_hasAny m_goK
      refine ifb (fun h1 => ?_) (fun h1 => ?_)
      · row_hasAny m_goK
        refine nes_d ?_
        row_hasAny m_goK
        refine ifb (fun h2 => ?_) (fun h2 => ?_)
        · row_hasAny m_goK
          rename Sat _ _ _ _ => hS
          have hx : x ≠ ("..." : Str) := by simpa using h2
          replace hx : x ≠ dots := hx
          obtain ⟨u, hu⟩ := Option.isSome_iff_exists.mp h1
          have hl : ∃ t, tab.kvs.lookup x = some t := by
            cases q : tab.kvs.lookup x with
            | none => have := hT.n0 x hx q; rw [hu] at this; cases this
            | some t => exact ⟨t, rfl⟩
          obtain ⟨t, hl⟩ := hl
          obtain ⟨u', hu', hvu⟩ := hT.n1 x t hx hl
          rw [hu] at hu'; cases hu'
          refine subd hS (.imm hT.at_) hu (fun s hS => ?_) (by with_unfolding_all rfl)
          repeat row_hasAny m_out
          exact ⟨c, _, V, .refl _, hS, rfl, by rw [put_name, if_neg hx, hl]; exact hvu⟩
        · row_hasAny m_goK
          rename Sat _ _ _ _ => hS
          have hx : x = ("..." : Str) := by simpa using h2
          replace hx : x = dots := hx
          exact ⟨c, _, V, .refl _, hS, rfl, by rw [put_name, if_pos hx]; exact hv⟩
      · row_hasAny m_goK
        rename Sat _ _ _ _ => hS
        refine ⟨c, _, V, .refl _, hS, rfl, ?_⟩
        rw [put_name]
        by_cases q : x = dots
        · rw [if_pos q]; exact hv
        · rw [if_neg q]
          cases hl : tab.kvs.lookup x with
          | none => exact hv
          | some t =>
            obtain ⟨u', hu', _⟩ := hT.n1 x t q hl
            rw [hu'] at h1; cases h1
    | false =>
    cases hc : isCall t with
    | false =>
      obtain ⟨a, rfl⟩ := hv.ref
      row_hasAny m_goK
      rename Sat _ _ _ _ => hS
      exact ⟨c, _, V, .refl _, hS, rfl, by rw [put_other hn hc]; exact hv⟩
    | true =>
      refine callk (hc) fun l ee => ?_
      subst ee
      obtain ⟨a, t1, li, lt, us, ts, rfl, ht, hli, hlt, hus, hts⟩ := isl_call hv
      have hul := isl_len hus
      have htl : ts.length = l.length := by simpa using hts.1
      cases hw with
      | call hw1 hw2 hw3 hw4 =>
      row_hasAny m_goK
      rename Sat _ _ _ _ => hS
      refine newLst hS (by decide) fun ia s hS => ?_
      row_hasAny m_goK
      rename Sat _ _ _ _ => hS
      refine newLst hS (by decide) fun ta s hS => ?_
      row_hasAny m_goK
      rename Sat _ _ _ _ => hS
      refine for_zip (U := [.ls ta [], .ls ia []]) (R := V) (fun i c' vs' U' => ∃ xs tgs pc tg, vs' = [some (.ref a), some (.ref tb), some (.ref ia), some (.ref ta), pc, tg] ∧ U' = [.ls ta tgs, .ls ia xs] ∧ IsLs c' ((putl tab (l.take i)).map (fun p : Tag × T => p.2)) xs ∧ TagsAre ((putl tab (l.take i)).map (fun p : Tag × T => p.1)) tgs) (fun i c c' vs U ⟨xs, tgs, pc, tg, h1, h2, h3, h4⟩ l => ⟨xs, tgs, pc, tg, h1, h2, h3.mono l, h4⟩) hR.h hli hlt (by (first | lia | omega)) hS ⟨[], [], none, none, rfl, rfl, .nil, .nil⟩ ?_ ?_
      · rintro i u g T1 c3 vs' U' R' s' hu hg l3 hT1 ⟨xs, tgs, pc, tg, rfl, rfl, hxs, htg⟩ hsub hS
        replace hS : Sat w c3 (_ :: .ls ta tgs :: .ls ia xs :: R') s' := hS
        have hi := (List.getElem?_eq_some_iff.mp hu).1
        have hp : l[i]? = some l[i] := List.getElem?_eq_getElem (by (first | lia | omega))
        have hpm : l[i] ∈ l := List.getElem_mem (by (first | lia | omega))
        generalize l[i] = p at hp hpm
        have hpv := (isl_get hus hp hu).mono l3
        have hgt : TagIs p.1 g := hts.2 i p.1 g (by simp [hp]) hg
        have hpw := hw3 p hpm
        have hpk := kidsK hk p hpm
        have hpd := deep_mem hpm
        have hT := hT.mono l3
        obtain ⟨xa, rfl⟩ := hpv.ref
        have hx1 := hxs.1
        have hx2 := htg.1
        have hx3 := putl_len (tab := tab) (fun r h => (hT.d1 r h).1) (l.take i)
        simp only [List.length_map] at hx1 hx2
        have hx4 : (l.take i).length = i := by simp; (first | lia | omega)
        row_hasAny m_k
        row_hasAny m_goT
        rename Sat _ _ _ _ => hS
        refine wpAny_mono (Q := fun b s' => b = (isDots p.2 && tab.rows.isSome) ∧ ∃ c', c3.Le c' ∧ Sat w c' (.ns env.locals (fm nm274 [some (.ref a), some (.ref tb), some (.ref ia), some (.ref ta), some (.ref xa), some g]) :: .ls ta tgs :: .ls ia xs :: R') s') (E := fun _ _ => False) ?_ ?_ fun _ _ x => x.elim
        · row_hasAny m_goK
          rename Sat _ _ _ _ => hS
          refine newTup hS (by simp) fun tz c4 s4 l4 hS htz => ?_
          refine eqD hS hR (hpv.mono l4) (rd_mkt htz (rds_mkc rd_s (rds_mkc rd_s rds_mk))) (shaped_T hpw (by (first | lia | omega))) (by kernel_rfl) ?_
          rw [dots_eqv]
          row_hasAny m_goK
          refine ifb (fun h1 => ?_) (fun h1 => ?_)
          · row_hasAny m_goK
            rename Sat _ _ _ _ => hS
            refine ind hS (.imm (hT.mono l4).at_) fun s hS => ?_
            have e : (valueAt kvs (Str.ofString "...")).isSome = tab.rows.isSome := by
              cases q : tab.rows with
              | none => have := hT.d0 q; rw [show (Str.ofString "...") = dots from rfl, this]; rfl
              | some r => obtain ⟨_, la, us, e, _⟩ := hT.d1 r q; rw [show (Str.ofString "...") = dots from rfl, e]; rfl
            rw [e]
            row_hasAny m_goK
            refine ifb (fun h2 => ?_) (fun h2 => ?_)
            · row_hasAny m_goK
              rename Sat _ _ _ _ => hS
              exact ⟨by rw [h1, h2]; rfl, c4, l4, hS⟩
            · row_hasAny m_goK
              rename Sat _ _ _ _ => hS
              exact ⟨by rw [h1, h2]; rfl, c4, l4, hS⟩
          · row_hasAny m_goK
            rename Sat _ _ _ _ => hS
            exact ⟨by rw [h1]; rfl, c4, l4, hS⟩
        · rintro _ s ⟨rfl, c4, l4, hS⟩
          have hpv := hpv.mono l4
          have hT := hT.mono l4
          refine ifb (fun h1 => ?_) (fun h1 => ?_)
          · obtain ⟨h1, h2⟩ := Bool.and_eq_true_iff.mp h1
            obtain ⟨r, hr⟩ := Option.isSome_iff_exists.mp h2
            obtain ⟨hrl, la, rs, hval, hla, hrv⟩ := hT.d1 r hr
            have ep : putl tab (l.take (i + 1)) = putl tab (l.take i) ++ r := by rw [putl_take hp, h1, hr]
            have hrs := hrv.1
            row_hasAny m_goK
            rename Sat _ _ _ _ => hS
            refine ListComp_ (cl := []) (by with_unfolding_all rfl) rfl (by decide) ?_
            row_hasAny m_goK
            rename Sat _ _ _ _ => hS
            rename FrOk _ _ _ _ => hE
            refine subd hS (.imm hT.at_) hval (fun s hS => ?_) (by with_unfolding_all rfl)
            refine map_list (nm := ["row"]) (gl := []) (fun c' j y => ∀ q, r[j]? = some q → IsL c' q.2 y) (fun _ _ _ _ h l p hp => (h p hp).mono l) hR.h (by decide) rfl (fun C => hE.comp (by kernel_rfl)) hla.isList (by (first | lia | omega)) go_list hS ?_ ?_
            · rintro j y c5 R5 vs5 cenv s5 hy le5 hE ⟨C, hC⟩ hvs5 hS
              refine len1k (hvs5) fun x0 ee => ?_
              subst ee
              have hj := (List.getElem?_eq_some_iff.mp hy).1
              have hq : r[j]? = some r[j] := List.getElem?_eq_getElem (by (first | lia | omega))
              generalize r[j] = q at hq
              obtain ⟨ra, g', u', rfl, htup, hg', hu'⟩ := (hrv.2 j q y hq hy).mono le5
              row_hasAny m_goK
              rename Sat _ _ _ _ => hS
              exact ⟨c5, _, .refl _, fun q' hq' => by rw [hq] at hq'; cases hq'; exact hu', hS⟩
            · intro c5 ys D s5 l5 hyl hys hS
              have hT := hT.mono l5
              have hla := Heap.PlainList.keeps hla l5.keep
              row_hasAny m_goK
              rename Sat _ _ _ _ => hS
              refine iaddL hS (by row_hasAny m_lk) (hS.list (.vol (.tail _ (.head _)))) (by (first | lia | omega)) fun s hS => ?_
              row_hasAny m_goK
              rename Sat _ _ _ _ => hS
              refine ListComp_ (cl := []) (by with_unfolding_all rfl) rfl (by decide) ?_
              row_hasAny m_goK
              rename Sat _ _ _ _ => hS
              rename FrOk _ _ _ _ => hE
              refine subd hS (.imm hT.at_) hval (fun s hS => ?_) (by with_unfolding_all rfl)
              refine map_list (nm := ["row"]) (gl := []) (fun c' j y => ∀ q, r[j]? = some q → TagIs q.1 y) (fun _ _ _ _ h l p hp => h p hp) hR.h (by decide) rfl (fun C => hE.comp (by kernel_rfl)) hla.isList (by (first | lia | omega)) go_list hS ?_ ?_
              · rintro j y c6 R6 vs6 cenv s6 hy le6 hE ⟨C, hC⟩ hvs6 hS
                refine len1k (hvs6) fun x0 ee => ?_
                subst ee
                have hj := (List.getElem?_eq_some_iff.mp hy).1
                have hq : r[j]? = some r[j] := List.getElem?_eq_getElem (by (first | lia | omega))
                generalize r[j] = q at hq
                obtain ⟨ra, g', u', rfl, htup, hg', hu'⟩ := (hrv.2 j q y hq hy).mono (l5.trans le6)
                row_hasAny m_goK
                rename Sat _ _ _ _ => hS
                exact ⟨c6, _, .refl _, fun q' hq' => by rw [hq] at hq'; cases hq'; exact hg', hS⟩
              · intro c6 gs D2 s6 l6 hgl hgs hS
                row_hasAny m_goK
                rename Sat _ _ _ _ => hS
                refine iaddL hS (by row_hasAny m_lk) (hS.list (.vol (.tail _ (.head _)))) (by (first | lia | omega)) fun s hS => ?_
                row_hasAny m_goK
                rename Sat _ _ _ _ => hS
                have hS' : Sat w c6 (_ :: .ls ta (tgs ++ gs) :: .ls ia (xs ++ ys) :: R') _ := hS.sub (.cons_cons _ (.cons _ (.cons _ (.refl _))))
                refine ⟨c6, _, [.ls ta (tgs ++ gs), .ls ia (xs ++ ys)], (l4.trans l5).trans l6, ⟨xs ++ ys, tgs ++ gs, _, _, rfl, rfl, ?_, ?_⟩, hS'⟩
                · rw [ep, List.map_append]
                  refine (hxs.mono ((l4.trans l5).trans l6)).append ⟨by simp; (first | lia | omega), fun j t y h1 h2 => ?_⟩
                  simp only [List.getElem?_map, Option.map_eq_some_iff] at h1
                  obtain ⟨q, hq, rfl⟩ := h1
                  exact (hys j y h2 q hq).mono l6
                · rw [ep, List.map_append]
                  refine htg.append ⟨by simp; (first | lia | omega), fun j t y h1 h2 => ?_⟩
                  simp only [List.getElem?_map, Option.map_eq_some_iff] at h1
                  obtain ⟨q, hq, rfl⟩ := h1
                  exact hgs j y h2 q hq
          · have ep : putl tab (l.take (i + 1)) = putl tab (l.take i) ++ [(p.1, put tab p.2)] := by
              rw [putl_take hp]
              cases q1 : isDots p.2 with
              | false => rfl
              | true =>
                cases q2 : tab.rows with
                | none => rfl
                | some r => rw [q1, q2] at h1; cases h1
            row_hasAny m_goK
            rename Sat _ _ _ _ => hS
            refine ih p hpm hS (hR.less (by (first | lia | omega))) hpv hpk hpw hm (by (first | lia | omega)) hT fun c5 s5 y l5 hS hy => ?_
            row_hasAny m_goK
            rename Sat _ _ _ _ => hS
            refine append_ hS (by row_hasAny m_lk) (by (first | lia | omega)) fun s hS => ?_
            row_hasAny m_goK
            rename Sat _ _ _ _ => hS
            refine append_ hS (by row_hasAny m_lk) (by (first | lia | omega)) fun s hS => ?_
            row_hasAny m_goK
            rename Sat _ _ _ _ => hS
            refine ⟨c5, _, [.ls ta (tgs ++ [g]), .ls ia (xs ++ [y])], l4.trans l5, ⟨xs ++ [y], tgs ++ [g], _, _, rfl, rfl, ?_, ?_⟩, hS⟩
            · rw [ep, List.map_append]; exact (hxs.mono (l4.trans l5)).append (.one hy)
            · rw [ep, List.map_append]; exact htg.append (.one hgt)
      · rintro c3 vs' U' s' l3 ⟨xs, tgs, pc, tg, rfl, rfl, hxs, htg⟩ hS
        replace hS : Sat w c3 (_ :: .ls ta tgs :: .ls ia xs :: V) s' := hS
        rw [hul, List.take_length] at hxs htg
        row_hasAny m_goK
        rename Sat _ _ _ _ => hS
        obtain ⟨c4, l4, hS, h5⟩ := hS.freeze (p := .ls ta tgs) (.tail .head)
        obtain ⟨c5, l5, hS, h6⟩ := hS.freeze (p := .ls ia xs) (.tail .head)
        refine newTup hS (by simp) fun b c6 s6 l6 hS hb => ?_
        repeat row_hasAny m_out
        exact ⟨c6, _, V, ((l3.trans l4).trans l5).trans l6, hS, rfl, by rw [put_calll]; exact mkl_call hb (Heap.PlainList.keeps h6 l6.keep).isList (Heap.PlainList.keeps h5 (l5.trans l6).keep).isList (hxs.mono ((l4.trans l5).trans l6)) htg⟩
  · rintro r c' V' s' l h ⟨rfl, hv⟩
    exact k c' s' r l h hv
theorem fn274 (w : World) (tab : Tab) (t : T) : C274 w tab t := by
  induction t using T.ind with
  | h1 x => exact fn274_in (t := .name x) fun _ h => nomatch h
  | h2 => exact fn274_in (t := .null) fun _ h => nomatch h
  | h3 => exact fn274_in (t := .miss) fun _ h => nomatch h
  | h4 k ds => exact fn274_in (t := .leaf k ds) fun _ h => nomatch h
  | h5 l ih => exact fn274_in (t := .call l) ih
/-- _law_pick -/
theorem fn252 {w : World} {A : Around} {E : Value → Shared → Prop} {c : Ctx} {V : List Cell} {s : Shared} {n b : Nat} {tb : Tok} {pl : Addr} {xs : List Value} {Q : Value → Shared → Prop} (hS : Sat w c (il pl xs :: V) s) (hR : Room A (n + 1)) (hP : PoolOk c xs) (hb : 0 < b)
    (k : ∀ s' xs' i tk, Sat w c (il pl xs' :: V) s' → PoolOk c xs' → i < b → Q (.int (i : Nat) tk) s') : wpAny (MM w) A (call (.ref 252) [.ref pl, .int b tb]) Q E s := by
  have hSk : ∀ {c' : Ctx} {s' : Shared} {xs' : List Value} {i : Nat} {tk : Tok}, c' = c → Sat w c' (il pl xs' :: V) s' → PoolOk c xs' → i < b → Q (.int i tk) s' := fun e h => k _ _ _ _ (e ▸ h)
  refine call_fn (n := n) (rest := ["figure"]) (Post := fun r c' V' => c' = c ∧ ∃ xs' i tk, V' = il pl xs' :: V ∧ r = .int (i : Nat) tk ∧ PoolOk c xs' ∧ i < b) (ok252 w) hS hR (binds := [("pool", .ref pl), ("bound", .int b tb)]) (vs := [some (.ref pl), some (.int b tb), none]) (by kernel_rfl) rfl rfl ?_ ?_
  · intro env A' s hE hR hS
    obtain ⟨fa, figs, kk, t1, mx, t2, rfl, hfa, hfl, hfi⟩ := hP
    have hb0 : (b : Int) ≠ 0 := by (first | lia | omega)
    row_hasAny m_k
    row_hasAny m_open
    row_hasAny m_goK
    rename Sat _ _ _ _ => hS
    refine len_ hS (hS.list (.imm hfa)) (by (first | lia | omega)) fun t3 s hS => ?_
    row_hasAny m_goK
    refine ifb (fun h1 => ?_) (fun h1 => ?_)
    · have h1 : kk < figs.length := by have := of_decide_eq_true h1; (first | lia | omega)
      have hf : figs[kk]? = some figs[kk] := List.getElem?_eq_getElem h1
      have hfm : figs[kk] ∈ figs := List.getElem_mem h1
      generalize figs[kk] = f0 at hf hfm
      obtain ⟨fi, ft, rfl⟩ := hfi f0 hfm
      row_hasAny m_goK
      rename Sat _ _ _ _ => hS
      refine modI hS hb0 fun t5 s hS => ?_
      obtain ⟨i, e, hi⟩ := mod_range (a := fi) hb
      rw [e]
      repeat row_hasAny m_out
      refine ⟨c, _, _, .refl _, hS, rfl, _, i, t5, rfl, rfl, ⟨fa, figs, kk + 1, _, mx, t2, rfl, hfa, hfl, hfi⟩, hi⟩
    · row_hasAny m_goK
      rename Sat _ _ _ _ => hS
      refine len_ hS (hS.list (.imm hfa)) (by (first | lia | omega)) fun t4 s hS => ?_
      row_hasAny m_goK
      refine ifb (fun h2 => ?_) (fun h2 => ?_)
      · row_hasAny m_goK
        rename Sat _ _ _ _ => hS
        refine modI hS hb0 fun t5 s hS => ?_
        obtain ⟨i, e, hi⟩ := mod_range (a := 0) hb
        rw [e]
        repeat row_hasAny m_out
        exact ⟨c, _, _, .refl _, hS, rfl, _, i, t5, rfl, rfl, ⟨fa, figs, kk, t1, mx, t2, rfl, hfa, hfl, hfi⟩, hi⟩
      · row_hasAny m_goK
        rename Sat _ _ _ _ => hS
        refine modI hS hb0 fun t5 s hS => ?_
        obtain ⟨i, e, hi⟩ := mod_range (a := (mx * 37 + 11).fmod 1009) hb
        rw [e]
        repeat row_hasAny m_out
        exact ⟨c, _, _, .refl _, hS, rfl, _, i, t5, rfl, rfl, ⟨fa, figs, kk, t1, _, _, rfl, hfa, hfl, hfi⟩, hi⟩
  · rintro r c' V' s' l h ⟨e, xs', i, tk, rfl, rfl, h1, h2⟩
    exact hSk e h h1 h2
noncomputable def IntV (v : Value) : Prop := ∃ i t, v = Value.int i t
/-- _law_pool -/
theorem fn245 {w : World} {A : Around} {E : Value → Shared → Prop} {c : Ctx} {V : List Cell} {s : Shared} {n : Nat} {sc : Addr} {vs0 : List Value} {Q : Value → Shared → Prop} (hS : Sat w c V s) (hR : Room A (n + 1)) (hl : c.I.IsList sc vs0.toArray) (hn : vs0.length ≤ 63) (hi : ∀ v ∈ vs0, IntV v)
    (k : ∀ c' s' pl xs, c.Le c' → Sat w c' (il pl xs :: V) s' → PoolOk c' xs → Q (.ref pl) s') : wpAny (MM w) A (call (.ref 245) [.ref sc]) Q E s := by
  refine call_fn (n := n) (rest := ["figures", "mix", "cell", "big", "rest", "step"]) (Post := fun r c' V' => ∃ pl xs, V' = il pl xs :: V ∧ r = .ref pl ∧ PoolOk c' xs) (ok245 w) hS hR (binds := [("script", .ref sc)]) (vs := [some (.ref sc), none, none, none, none, none, none]) (by kernel_rfl) rfl rfl ?_ ?_
  · intro env A' s hE hR hS
    row_hasAny m_k
    row_hasAny m_open
    row_hasAny m_goX
    rename Sat _ _ _ _ => hS
    refine newLst hS (by decide) fun fa s hS => ?_
    row_hasAny m_goX
    rename Sat _ _ _ _ => hS
    refine seq_cut (Mid := fun fl s' => fl = .next ∧ ∃ c' figs mx tm o1 o2 o3 o4, c.Le c' ∧ figs.length ≤ 1000 ∧ (∀ v ∈ figs, IntV v) ∧ Sat w c' (.ns env.locals (fm nm245 [some (.ref sc), some (.ref fa), some (.int mx tm), o1, o2, o3, o4]) :: .ls fa figs :: V) s') ?_ ?_
    · row_hasAny m_goK
      rename Sat _ _ _ _ => hS
      refine ⟨_, _, sc, vs0, none, some 40, hS, rfl, hS.isl hl, by (first | lia | omega), .none, .int _ _, fun la c2 s2 l2 hS hla => ?_⟩
      have hsl : slicePick vs0.toArray none (some ((40 : Nat) : Int)) none = _ := slicePick_upto' _ _
      have hla : c2.I.PlainList la (vs0.take 40).toArray := by
        have e : slicePick vs0.toArray none (some 40) none = (vs0.take 40).toArray := hsl
        rw [← e]; exact hla
      refine for_list (U := [.ls fa []]) (R := V) (fun i c' vs' U' => ∃ figs mx tm o1 o2 o3 o4, vs' = [some (.ref sc), some (.ref fa), some (.int mx tm), o1, o2, o3, o4] ∧ U' = [.ls fa figs] ∧ figs.length ≤ 400 ∧ ∀ v ∈ figs, IntV v) hR.h hla.isList go_list hS ⟨[], _, _, none, none, none, none, rfl, rfl, by decide, fun _ h => nomatch h⟩ ?_ ?_
      · rintro i u c3 vs' U' R' s' hu l3 ⟨figs, mx, tm, o1, o2, o3, o4, rfl, rfl, hfl, hfi⟩ hsub hS
        replace hS : Sat w c3 (_ :: .ls fa figs :: R') s' := hS
        obtain ⟨iu, tu, rfl⟩ := hi u (List.mem_of_mem_take (List.mem_of_getElem? hu))
        row_hasAny m_k
        row_hasAny m_goX
        rename Sat _ _ _ _ => hS
        refine seq_cut (Mid := fun fl s' => fl = .next ∧ ∃ c' figs' mx tm o1 o2 o3 o4, c3.Le c' ∧ figs'.length ≤ 1000 ∧ (∀ v ∈ figs', IntV v) ∧ Sat w c' (.ns env.locals (fm nm245 [some (.ref sc), some (.ref fa), some (.int mx tm), o1, o2, o3, o4]) :: .ls fa figs' :: R') s') ?_ ?_
        · row_hasAny m_goK
          rename Sat _ _ _ _ => hS
          refine range_ (n := 60) hS fun r s t u v hS hr => ?_
          refine for_range (U := [.ls fa figs]) (R := R') (fun j c' vs' U' => ∃ figs' r tr st, vs' = [some (.ref sc), some (.ref fa), some (.int ((mx * 31 + iu).fmod 1009) _), some (.int iu tu), some (.int iu tu), some (.int r tr), st] ∧ U' = [.ls fa figs'] ∧ figs'.length ≤ 400 + j ∧ ∀ v ∈ figs', IntV v) hR.h hr (by decide) hS ⟨figs, _, _, _, rfl, rfl, by (first | lia | omega), hfi⟩ ?_ ?_
          · rintro j tk c4 vs4 U4 R4 s4 hj l4 ⟨figs', r, tr, st, rfl, rfl, hfl', hfi'⟩ hsub4 hS
            replace hS : Sat w c4 (_ :: .ls fa figs' :: R4) s4 := hS
            row_hasAny m_k
            row_hasAny m_goK
            rename Sat _ _ _ _ => hS
            refine append_ hS (by row_hasAny m_lk) (by (first | lia | omega)) fun s hS => ?_
            row_hasAny m_goK
            have hall : ∀ (x : Int) (t : Tok), ∀ v ∈ figs' ++ [Value.int x t], IntV v := fun x t v hv => by
              rcases List.mem_append.mp hv with hv | hv
              · exact hfi' v hv
              · rw [List.mem_singleton.mp hv]; exact ⟨x, t, rfl⟩
            refine ifb (fun h1 => ?_) (fun h1 => ?_)
            · row_hasAny m_goK
              rename Sat _ _ _ _ => hS
              refine ⟨c4, _, [.ls fa _], .refl _, hS, fun s5 hS => ?_⟩
              exact ⟨rfl, c4, _, _, _, _, _, _, _, l4, by simp; (first | lia | omega), hall _ _, hS⟩
            · row_hasAny m_goK
              rename Sat _ _ _ _ => hS
              exact ⟨c4, _, [.ls fa _], .refl _, ⟨_, _, _, _, rfl, rfl, by simp; (first | lia | omega), hall _ _⟩, hS⟩
          · rintro c4 vs4 U4 s4 l4 ⟨figs', r, tr, st, rfl, rfl, hfl', hfi'⟩ hS
            exact ⟨rfl, c4, _, _, _, _, _, _, _, l4, by (first | lia | omega), hfi', hS⟩
        · rintro _ s' ⟨rfl, c4, figs', mx', tm', p1, p2, p3, p4, l4, hfl', hfi', hS⟩
          row_hasAny m_goK
          rename Sat _ _ _ _ => hS
          refine len_ hS (hS.list (.vol (.tail _ (.head _)))) (by (first | lia | omega)) fun t3 s hS => ?_
          row_hasAny m_goK
          refine ifb (fun h1 => ?_) (fun h1 => ?_)
          · row_hasAny m_goK
            rename Sat _ _ _ _ => hS
            refine ⟨c4, _, [.ls fa figs'], l4, hS, fun s5 hS => ?_⟩
            exact ⟨rfl, c4, _, _, _, _, _, _, _, (l2.trans l3).trans l4, hfl', hfi', hS⟩
          · row_hasAny m_goK
            rename Sat _ _ _ _ => hS
            have h1 : figs'.length ≤ 400 := by have := of_decide_eq_false h1; (first | lia | omega)
            exact ⟨c4, _, [.ls fa figs'], l4, ⟨_, _, _, _, _, _, _, rfl, rfl, h1, hfi'⟩, hS⟩
      · rintro c3 vs' U' s' l3 ⟨figs, mx, tm, o1, o2, o3, o4, rfl, rfl, hfl, hfi⟩ hS
        exact ⟨rfl, c3, _, _, _, _, _, _, _, l2.trans l3, by (first | lia | omega), hfi, hS⟩
    · rintro _ s' ⟨rfl, c3, figs, mx, tm, o1, o2, o3, o4, l3, hfl, hfi, hS⟩
      row_hasAny m_goK
      rename Sat _ _ _ _ => hS
      obtain ⟨c4, l4, hS, hfa⟩ := hS.freeze (p := .ls fa figs) (.tail .head)
      refine newLst hS (by simp) fun pl s hS => ?_
      have hS := (hS.swap.toIl).swap
      repeat row_hasAny m_out
      exact ⟨c4, _, _, l3.trans l4, hS, pl, _, rfl, rfl, fa, figs, 0, _, mx, tm, rfl, hfa, hfl, hfi⟩
  · rintro r c' V' s' l h ⟨pl, xs, rfl, rfl, h1⟩
    exact k c' s' pl xs l h h1
noncomputable def szb : Nat → Nat
  | 0 => 1
  | k + 1 => 1 + 4 * szb k
theorem szb_le (k : Nat) : szb k ≤ szb (k + 1) := by simp only [szb]; (first | lia | omega)
structure Gt (k : Nat) (t : T) : Prop where
  lk : LK t
  wide : Wide 4 t
  dp : deep t ≤ k
  z : sz t ≤ szb k
theorem Gt.succ {k : Nat} {t : T} (h : Gt k t) : Gt (k + 1) t := ⟨h.lk, h.wide, Nat.le_succ_of_le h.dp, Nat.le_trans h.z (szb_le k)⟩
theorem Gt.of0 {t : T} (h : Gt 0 t) : ∀ k, Gt k t
  | 0 => h
  | k + 1 => (Gt.of0 h k).succ
noncomputable def OkName (x : Str) : Prop := PyData.strOk x = true ∧ x ≠ ""
theorem gt_name {x : Str} (h : OkName x) : Gt 0 (.name x) := ⟨.name, .name h.1 h.2, by simp [deep], by simp [sz, szb]⟩
theorem gt_null : Gt 0 .null := ⟨.null, .null, by simp [deep], by simp [sz, szb]⟩
theorem gt_miss : Gt 0 .miss := ⟨.miss, .miss, by simp [deep], by simp [sz, szb]⟩
theorem gt_leaf {k : Str} {ds : List Atom} (h1 : LeafK k) (h2 : PyData.strOk k = true) (h3 : ds.length ≤ 4) (h4 : ∀ d ∈ ds, ∀ s, d = .str s → PyData.strOk s = true) : Gt 0 (.leaf k ds) := ⟨.leaf h1, .leaf h2 h3 h4, by simp [deep], by simp [sz, szb]⟩
noncomputable def TagOk (g : Tag) : Prop := ∀ s, g = some s → PyData.strOk s = true
theorem gt_call {k : Nat} {l : List (Tag × T)} (h1 : l ≠ []) (h2 : l.length ≤ 4) (h3 : ∀ p ∈ l, Gt k p.2) (h4 : ∀ p ∈ l, TagOk p.1) : Gt (k + 1) (.call l) := by
  refine ⟨.call fun p hp => (h3 p hp).lk, .call h1 h2 (fun p hp => (h3 p hp).wide) h4, ?_, ?_⟩
  · rw [deep_call]
    have : ∀ l : List (Tag × T), (∀ p ∈ l, Gt k p.2) → (l.map fun p => deep p.2).foldr max 0 ≤ k := by
      intro l
      induction l with
      | nil => intro _; exact Nat.zero_le _
      | cons p r ih =>
        intro h
        have a := (h p (.head _)).dp
        have b := ih fun q hq => h q (.tail _ hq)
        simp only [List.map_cons, List.foldr_cons]; (first | lia | omega)
    have := this l h3; (first | lia | omega)
  · rw [sz_call]
    have : ∀ l : List (Tag × T), (∀ p ∈ l, Gt k p.2) → (l.map fun p => sz p.2).sum ≤ l.length * szb k := by
      intro l
      induction l with
      | nil => intro _; simp
      | cons p r ih =>
        intro h
        have a := (h p (.head _)).z
        have b := ih fun q hq => h q (.tail _ hq)
        simp only [List.map_cons, List.sum_cons, List.length_cons, Nat.add_mul, Nat.one_mul]; (first | lia | omega)
    have h5 := this l h3
    have h6 : l.length * szb k ≤ 4 * szb k := Nat.mul_le_mul_right _ h2
    simp only [szb]; (first | lia | omega)
theorem pick_of {P : Value → Prop} {vs : List Value} {i : Nat} (hp : ∀ v ∈ vs, P v) (h : i < vs.length) : ∃ v, vs[i]? = some v ∧ P v :=
  ⟨vs[i], List.getElem?_eq_getElem h, hp _ (List.getElem_mem h)⟩
theorem pick_pl {P : Value → Prop} {c : Ctx} {la : Addr} {vs : List Value} (hla : c.I.PlainList la vs.toArray) (hp : ∀ v ∈ vs, P v) : ∀ v ∈ vs, P v := have _ := hla; hp
section
variable {w : World} {A : Around} {E : Value → Shared → Prop} {c : Ctx} {V : List Cell} {s : Shared} {n b : Nat} {fr x y : Cell}
theorem pick1 {tb : Tok} {pl : Addr} {xs : List Value} {Q : Value → Shared → Prop} (hS : Sat w c (fr :: il pl xs :: V) s) (hR : Room A (n + 1)) (hP : PoolOk c xs) (hb : 0 < b)
    (k : ∀ s' xs' i tk, Sat w c (fr :: il pl xs' :: V) s' → PoolOk c xs' → i < b → Q (.int (i : Nat) tk) s') : wpAny (MM w) A (call (.ref 252) [.ref pl, .int b tb]) Q E s :=
  fn252 hS.swap hR hP hb fun s' xs' i tk h => k s' xs' i tk h.swap
theorem pick3 {tb : Tok} {pl : Addr} {xs : List Value} {Q : Value → Shared → Prop} (hS : Sat w c (fr :: x :: y :: il pl xs :: V) s) (hR : Room A (n + 1)) (hP : PoolOk c xs) (hb : 0 < b)
    (k : ∀ s' xs' i tk, Sat w c (fr :: x :: y :: il pl xs' :: V) s' → PoolOk c xs' → i < b → Q (.int (i : Nat) tk) s') : wpAny (MM w) A (call (.ref 252) [.ref pl, .int b tb]) Q E s :=
  fn252 (hS.perm (List.perm_middle (l₁ := [fr, x, y]))) hR hP hb fun s' xs' i tk h => k s' xs' i tk (h.perm (List.perm_middle (l₁ := [fr, x, y])).symm)
end
/-- _law_tree -/
noncomputable def C269 (w : World) (k : Nat) : Prop := ∀ {A : Around} {E : Value → Shared → Prop} {c : Ctx} {V : List Cell} {s : Shared} {pl sp : Addr} {xs : List Value} {n : Int} {tn : Tok} {d : Nat} {td : Tok} {Q : Value → Shared → Prop}, d + k = 4 → Sat w c (il pl xs :: il sp [.int n tn] :: V) s → PoolOk c xs → Room A (k + 2) →
    (∀ c' s' xs' n' tn' t r, c.Le c' → Sat w c' (il pl xs' :: il sp [.int n' tn'] :: V) s' → PoolOk c' xs' → Gt k t → IsL c' t r → Q r s') → wpAny (MM w) A (call (.ref 269) [.ref pl, .ref sp, .int (d : Int) td]) Q E s
theorem tree0 {w : World} {A : Around} {E : Value → Shared → Prop} {c : Ctx} {V : List Cell} {s : Shared} {fr : Cell} {pl sp : Addr} {xs : List Value} {n i : Int} {tn : Tok} {d k : Nat} {td : Tok} {Q : Value → Shared → Prop} (h : C269 w k) (hd : d + k = 4) (hi : i = (d : Int)) (hS : Sat w c (fr :: il pl xs :: il sp [.int n tn] :: V) s) (hP : PoolOk c xs) (hR : Room A (k + 2))
    (q : ∀ c' s' xs' n' tn' t r, c.Le c' → Sat w c' (fr :: il pl xs' :: il sp [.int n' tn'] :: V) s' → PoolOk c' xs' → Gt k t → IsL c' t r → Q r s') : wpAny (MM w) A (call (.ref 269) [.ref pl, .ref sp, .int i td]) Q E s := by
  subst hi
  exact h hd (hS.perm (perm_out (fr := fr) (U := []) (os := [il pl xs, il sp [.int n tn]]) (R := V))) hP hR fun c' s' xs' n' tn' t r le h => q c' s' xs' n' tn' t r le (h.perm (perm_out (fr := fr) (U := []) (os := [il pl xs', il sp [.int n' tn']]) (R := V)).symm)
theorem tree2 {w : World} {A : Around} {E : Value → Shared → Prop} {c : Ctx} {V : List Cell} {s : Shared} {fr x y : Cell} {pl sp : Addr} {xs : List Value} {n i : Int} {tn : Tok} {d k : Nat} {td : Tok} {Q : Value → Shared → Prop} (h : C269 w k) (hd : d + k = 4) (hi : i = (d : Int)) (hS : Sat w c (fr :: x :: y :: il pl xs :: il sp [.int n tn] :: V) s) (hP : PoolOk c xs) (hR : Room A (k + 2))
    (q : ∀ c' s' xs' n' tn' t r, c.Le c' → Sat w c' (fr :: x :: y :: il pl xs' :: il sp [.int n' tn'] :: V) s' → PoolOk c' xs' → Gt k t → IsL c' t r → Q r s') : wpAny (MM w) A (call (.ref 269) [.ref pl, .ref sp, .int i td]) Q E s := by
  subst hi
  exact h hd (hS.perm (perm_out (fr := fr) (U := [x, y]) (os := [il pl xs, il sp [.int n tn]]) (R := V))) hP hR fun c' s' xs' n' tn' t r le h => q c' s' xs' n' tn' t r le (h.perm (perm_out (fr := fr) (U := [x, y]) (os := [il pl xs', il sp [.int n' tn']]) (R := V)).symm)
theorem leafK_double : LeafK "double" := ⟨by decide, by decide, by decide, by decide, by decide, by decide, by decide, by decide, by decide⟩
theorem leafK_character : LeafK "character" := ⟨by decide, by decide, by decide, by decide, by decide, by decide, by decide, by decide, by decide⟩
theorem leafK_logical : LeafK "logical" := ⟨by decide, by decide, by decide, by decide, by decide, by decide, by decide, by decide, by decide⟩
set_option maxHeartbeats 4000000 in
theorem fn269_in {w : World} {k : Nat} (ih : ∀ k', k = k' + 1 → C269 w k') : C269 w k := by
  intro A E c V s pl sp xs n tn d td Q hd hS hP hR kk
  refine call_fn (n := k + 1) (rest := ["kind", "head", "items", "tags", "step"]) (Post := fun r c' V' => ∃ xs' n' tn' t, V' = il pl xs' :: il sp [.int n' tn'] :: V ∧ PoolOk c' xs' ∧ Gt k t ∧ IsL c' t r) (ok269 w) hS hR (binds := [("pool", .ref pl), ("spare", .ref sp), ("deep", .int d td)]) (vs := [some (.ref pl), some (.ref sp), some (.int d td), none, none, none, none, none]) (by kernel_rfl) rfl rfl ?_ ?_
  · intro env A' s hE hR hS
    row_hasAny m_k
    row_hasAny m_open
    row_hasAny m_goX
    rename Sat _ _ _ _ => hS
    have hS' : ∃ tq, Sat w c (.ns env.locals (fm nm269 [some (.ref pl), some (.ref sp), some (.int d td), none, none, none, none, none]) :: il pl xs :: il sp [.int (n - 1) tq] :: V) _ := ⟨_, hS⟩
    obtain ⟨tq, hS⟩ := hS'
    refine wpAny_mono (Q := fun v s' => (∃ (b : Nat) (tk : Tok), v = .int (b : Int) tk ∧ (b = 9 ∧ d < 4 ∨ b = 5)) ∧ Sat w c (.ns env.locals (fm nm269 [some (.ref pl), some (.ref sp), some (.int d td), none, none, none, none, none]) :: il pl xs :: il sp [.int (n - 1) tq] :: V) s') (E := fun _ _ => False) ?_ ?_ fun _ _ x => x.elim
    · refine wpAny_IfExp ?_
      row_hasAny m_goK
      refine ifb (fun h1 => ?_) (fun h1 => ?_)
      · have h1 : d < 4 := by have := of_decide_eq_true h1; (first | lia | omega)
        row_hasAny m_goK
        refine ifb (fun h2 => ?_) (fun h2 => ?_)
        · row_hasAny m_goK
          rename Sat _ _ _ _ => hS
          exact ⟨⟨9, _, rfl, .inl ⟨rfl, h1⟩⟩, hS⟩
        · row_hasAny m_goK
          rename Sat _ _ _ _ => hS
          exact ⟨⟨5, _, rfl, .inr rfl⟩, hS⟩
      · row_hasAny m_goK
        rename Sat _ _ _ _ => hS
        exact ⟨⟨5, _, rfl, .inr rfl⟩, hS⟩
    · rintro _ s ⟨⟨b, tb, rfl, hb⟩, hS⟩
      row_hasAny m_goX
      rename Sat _ _ _ _ => hS
      refine pick1 (n := 0) hS (hR.less (by (first | lia | omega))) hP (by (first | lia | omega)) fun s xs i ti hS hP hi => ?_
      row_hasAny m_goX
      refine ifb (fun h3 => ?_) (fun h3 => ?_)
      · -- a name
        row_hasAny m_goX
        rename Sat _ _ _ _ => hS
        refine newLstI hS (by simp) fun la c2 s2 l2 hS hla => ?_
        have hall := pick_pl (P := fun v => ∃ x t, v = Value.str x t ∧ OkName x) hla (by
          intro v hv; simp only [List.mem_cons, List.not_mem_nil, or_false] at hv
          rcases hv with rfl | rfl | rfl | rfl | rfl <;> exact ⟨_, _, rfl, by kernel_rfl, by decide⟩)
        row_hasAny m_goX
        rename Sat _ _ _ _ => hS
        refine pick1 (n := 0) hS (hR.less (by (first | lia | omega))) (hP.mono l2) (by decide) fun s xs i2 ti2 hS hP hi2 => ?_
        obtain ⟨v, hv, x, tx, rfl, hx⟩ := pick_of hall hi2
        row_hasAny m_goX
        rename Sat _ _ _ _ => hS
        refine newTup hS (by simp) fun b c3 s3 l3 hS hb => ?_
        repeat row_hasAny m_out
        exact ⟨c3, _, _, l2.trans l3, hS, xs, _, _, .name x, rfl, hP.mono l3, (gt_name hx).of0 k, mkl_name hb⟩
      · have h3 : 3 ≤ i := by have := of_decide_eq_false h3; (first | lia | omega)
        row_hasAny m_goX
        refine ifb (fun h4 => ?_) (fun h4 => ?_)
        · -- a leaf
          row_hasAny m_goX
          rename Sat _ _ _ _ => hS
          refine newTup hS (by simp) fun a1 c1 s1 l1 hS ha1 => ?_
          row_hasAny m_goX
          rename Sat _ _ _ _ => hS
          refine newLstI hS (by simp) fun b1 c2 s2 l2 hS hb1 => ?_
          row_hasAny m_goX
          rename Sat _ _ _ _ => hS
          refine newTup hS (by simp) fun d1 c3 s3 l3 hS hd1 => ?_
          row_hasAny m_goX
          rename Sat _ _ _ _ => hS
          refine newLstI hS (by simp) fun b2 c4 s4 l4 hS hb2 => ?_
          row_hasAny m_goX
          rename Sat _ _ _ _ => hS
          refine newTup hS (by simp) fun d2 c5 s5 l5 hS hd2 => ?_
          row_hasAny m_goX
          rename Sat _ _ _ _ => hS
          refine newTup hS (by simp) fun d3 c6 s6 l6 hS hd3 => ?_
          row_hasAny m_goX
          rename Sat _ _ _ _ => hS
          refine newLstI hS (by simp) fun b4 c7 s7 l7 hS hb4 => ?_
          row_hasAny m_goX
          rename Sat _ _ _ _ => hS
          refine newTup hS (by simp) fun d4 c8 s8 l8 hS hd4 => ?_
          row_hasAny m_goX
          rename Sat _ _ _ _ => hS
          refine newLstI hS (by simp) fun la c9 s9 l9 hS hla => ?_
          have e8 := l9
          have e7 := l8.trans e8
          have e6 := l7.trans e7
          have e5 := l6.trans e6
          have e4 := l5.trans e5
          have e3 := l4.trans e4
          have e2 := l3.trans e3
          have e1 := l2.trans e2
          have hall := pick_pl (P := fun v => ∃ t, Gt 0 t ∧ IsL c9 t v) hla (by
            intro v hv; simp only [List.mem_cons, List.not_mem_nil, or_false] at hv
            rcases hv with rfl | rfl | rfl | rfl
            · exact ⟨.leaf "double" [.pair 5 1], gt_leaf leafK_double (by kernel_rfl) (by decide) (fun d hd s e => by rw [List.mem_singleton.mp hd] at e; cases e), mkl_leaf (tuple_keeps hd1 e3) (Heap.PlainList.keeps hb1 e2.keep).isList (rds_one (rd_mkt (tuple_keeps ha1 e1) (rds_mkc rd_i (rds_mkc rd_i rds_mk))))⟩
            · exact ⟨.leaf "character" [.str "a"], gt_leaf leafK_character (by kernel_rfl) (by decide) (fun d hd s e => by rw [List.mem_singleton.mp hd] at e; cases e; kernel_rfl), mkl_leaf (tuple_keeps hd2 e5) (Heap.PlainList.keeps hb2 e4.keep).isList (rds_one rd_s)⟩
            · exact ⟨.null, gt_null, mkl_null (tuple_keeps hd3 e6)⟩
            · exact ⟨.leaf "logical" [.none], gt_leaf leafK_logical (by kernel_rfl) (by decide) (fun d hd s e => by rw [List.mem_singleton.mp hd] at e; cases e), mkl_leaf (tuple_keeps hd4 e8) (Heap.PlainList.keeps hb4 e7.keep).isList (rds_one rd_n)⟩)
          row_hasAny m_goX
          rename Sat _ _ _ _ => hS
          refine pick1 (n := 0) hS (hR.less (by (first | lia | omega))) (hP.mono (l1.trans e1)) (by decide) fun s xs i2 ti2 hS hP hi2 => ?_
          obtain ⟨v, hv, t, hg, ht⟩ := pick_of hall hi2
          row_hasAny m_goX
          rename Sat _ _ _ _ => hS
          exact ⟨c9, _, _, l1.trans e1, hS, xs, _, _, t, rfl, hP, hg.of0 k, ht⟩
        · have h4 : i ≠ 3 := by have := of_decide_eq_false h4; (first | lia | omega)
          row_hasAny m_goX
          refine ifb (fun h5 => ?_) (fun h5 => ?_)
          · row_hasAny m_goX
            refine wpAny_IfExp ?_
            row_hasAny m_goX
            refine ifb (fun h6 => ?_) (fun h6 => ?_)
            · row_hasAny m_goX
              rename Sat _ _ _ _ => hS
              refine newTup hS (by simp) fun b c3 s3 l3 hS hb => ?_
              repeat row_hasAny m_out
              exact ⟨c3, _, _, l3, hS, xs, _, _, .miss, rfl, hP.mono l3, gt_miss.of0 k, mkl_miss hb⟩
            · row_hasAny m_goX
              rename Sat _ _ _ _ => hS
              refine newTup hS (by simp) fun b c3 s3 l3 hS hb => ?_
              repeat row_hasAny m_out
              exact ⟨c3, _, _, l3, hS, xs, _, _, .name "a", rfl, hP.mono l3, (gt_name ⟨by kernel_rfl, by decide⟩).of0 k, mkl_name hb⟩
          · have h5 : i ≠ 4 := by have := of_decide_eq_false h5; (first | lia | omega)
            have hk : ∃ k', k = k' + 1 := ⟨k - 1, by (first | lia | omega)⟩
            obtain ⟨k, rfl⟩ := hk
            have ih : C269 w k := ih k rfl
            row_hasAny m_goX
            refine ifb (fun h6 => ?_) (fun h6 => ?_)
            · row_hasAny m_goX
              rename Sat _ _ _ _ => hS
              refine newLstI hS (by simp) fun la c2 s2 l2 hS hla => ?_
              have hall := pick_pl (P := fun v => ∃ x t, v = Value.str x t ∧ OkName x) hla (by
                intro v hv; simp only [List.mem_cons, List.not_mem_nil, or_false] at hv
                rcases hv with rfl | rfl <;> exact ⟨_, _, rfl, by kernel_rfl, by decide⟩)
              row_hasAny m_goX
              rename Sat _ _ _ _ => hS
              refine pick1 (n := 0) hS (hR.less (by (first | lia | omega))) (hP.mono l2) (by decide) fun s xs i2 ti2 hS hP hi2 => ?_
              obtain ⟨v, hv, x, tx, rfl, hx⟩ := pick_of hall hi2
              row_hasAny m_goX
              rename Sat _ _ _ _ => hS
              refine newTup hS (by simp) fun a1 c3 s3 l3 hS ha1 => ?_
              row_hasAny m_goX
              rename Sat _ _ _ _ => hS
              refine tree0 ih (d := d + 1) (by (first | lia | omega)) (by (first | lia | omega)) hS (hP.mono l3) (hR.less (by (first | lia | omega))) fun c4 s4 xs n4 tn4 t r l4 hS hP hg hr => ?_
              row_hasAny m_goX
              rename Sat _ _ _ _ => hS
              refine newLstI hS (by simp) fun li c5 s5 l5 hS hli => ?_
              row_hasAny m_goX
              rename Sat _ _ _ _ => hS
              refine newLstI hS (by simp) fun lt c6 s6 l6 hS hlt => ?_
              row_hasAny m_goX
              rename Sat _ _ _ _ => hS
              refine newTup hS (by simp) fun b2 c7 s7 l7 hS hb2 => ?_
              repeat row_hasAny m_out
              refine ⟨c7, _, _, ((((l2.trans l3).trans l4).trans l5).trans l6).trans l7, hS, xs, _, _, .call [(none, .name x), (none, t)], rfl, hP.mono ((l5.trans l6).trans l7), gt_call (by simp) (by simp) ?_ ?_, mkl_call hb2 (Heap.PlainList.keeps hli (l6.trans l7).keep).isList (Heap.PlainList.keeps hlt l7.keep).isList ?_ ?_⟩
              · intro p hp
                simp only [List.mem_cons, List.not_mem_nil, or_false] at hp
                rcases hp with rfl | rfl
                · exact (gt_name hx).of0 k
                · exact hg
              · intro p hp
                simp only [List.mem_cons, List.not_mem_nil, or_false] at hp
                rcases hp with rfl | rfl <;> exact fun s e => nomatch e
              · exact (IsLs.one (mkl_name (tuple_keeps ha1 (((l4.trans l5).trans l6).trans l7)))).append (.one (hr.mono ((l5.trans l6).trans l7)))
              · exact (TagsAre.one (t := none) rfl).append (.one (t := none) rfl)
            · row_hasAny m_goX
              rename Sat _ _ _ _ => hS
              refine wpAny_mono (Q := fun v s' => ∃ c' xs' n' tn' t, c.Le c' ∧ Sat w c' (.ns env.locals (fm nm269 [some (.ref pl), some (.ref sp), some (.int d td), some (.int i ti), none, none, none, none]) :: il pl xs' :: il sp [.int n' tn'] :: V) s' ∧ PoolOk c' xs' ∧ Gt k t ∧ IsL c' t v) (E := fun _ _ => False) ?_ ?_ fun _ _ x => x.elim
              · refine wpAny_IfExp ?_
                row_hasAny m_goX
                refine ifb (fun h7 => ?_) (fun h7 => ?_)
                · row_hasAny m_goX
                  rename Sat _ _ _ _ => hS
                  refine newLstI hS (by simp) fun la c2 s2 l2 hS hla => ?_
                  have hall := pick_pl (P := fun v => ∃ x t, v = Value.str x t ∧ OkName x) hla (by
                    intro v hv; simp only [List.mem_cons, List.not_mem_nil, or_false] at hv
                    rcases hv with rfl | rfl | rfl | rfl <;> exact ⟨_, _, rfl, by kernel_rfl, by decide⟩)
                  row_hasAny m_goX
                  rename Sat _ _ _ _ => hS
                  refine pick1 (n := 0) hS (hR.less (by (first | lia | omega))) (hP.mono l2) (by decide) fun s xs i2 ti2 hS hP hi2 => ?_
                  obtain ⟨v, hv, x, tx, rfl, hx⟩ := pick_of hall hi2
                  row_hasAny m_goX
                  rename Sat _ _ _ _ => hS
                  refine newTup hS (by simp) fun a1 c3 s3 l3 hS ha1 => ?_
                  exact ⟨c3, xs, _, _, .name x, l2.trans l3, hS, hP.mono l3, (gt_name hx).of0 k, mkl_name ha1⟩
                · row_hasAny m_goX
                  rename Sat _ _ _ _ => hS
                  refine tree0 ih (d := d + 1) (by (first | lia | omega)) (by (first | lia | omega)) hS hP (hR.less (by (first | lia | omega))) fun c4 s4 xs n4 tn4 t r l4 hS hP hg hr => ?_
                  exact ⟨c4, xs, _, _, t, l4, hS, hP, hg, hr⟩
              · rintro hv s ⟨c2, xs, n2, tn2, th, l2, hS, hP, hgh, hhv⟩
                row_hasAny m_goX
                rename Sat _ _ _ _ => hS
                refine newLst hS (by simp) fun ia s hS => ?_
                row_hasAny m_goX
                rename Sat _ _ _ _ => hS
                refine newLst hS (by simp) fun ta s hS => ?_
                row_hasAny m_goK
                rename Sat _ _ _ _ => hS
                refine pick3 (n := 0) (b := 4) hS (hR.less (by (first | lia | omega))) hP (by decide) fun s xs nn tnn hS hP hnn => ?_
                row_hasAny m_goK
                rename Sat _ _ _ _ => hS
                refine range_ hS fun r s t u v hS hr => ?_
                refine for_range (U := [.ls ta [.none], .ls ia [hv], il pl xs, il sp [.int n2 tn2]]) (R := V) (fun j c' vs' U' => ∃ xs nn tn its tgs l st, vs' = [some (.ref pl), some (.ref sp), some (.int d td), some (.int i ti), some hv, some (.ref ia), some (.ref ta), st] ∧ U' = [.ls ta tgs, .ls ia its, il pl xs, il sp [.int nn tn]] ∧ PoolOk c' xs ∧ IsLs c' (l.map (fun p : Tag × T => p.2)) its ∧ TagsAre (l.map (fun p : Tag × T => p.1)) tgs ∧ l.length = j + 1 ∧ (∀ p ∈ l, Gt k p.2) ∧ ∀ p ∈ l, TagOk p.1) hR.h hr (by (first | lia | omega)) hS ⟨xs, _, _, [hv], [.none], [(none, th)], none, rfl, rfl, hP, .one hhv, .one (t := none) rfl, rfl, fun p hp => by rw [List.mem_singleton.mp hp]; exact hgh, fun p hp => by rw [List.mem_singleton.mp hp]; exact fun s e => nomatch e⟩ ?_ ?_
                · rintro j tk c3 vs' U' R' s' hj l3 ⟨xs, n3, tn3, its, tgs, l, st, rfl, rfl, hP, hits, htgs, hll, hlg, hlt⟩ hsub hS
                  replace hS : Sat w c3 (_ :: .ls ta tgs :: .ls ia its :: il pl xs :: il sp [.int n3 tn3] :: R') s' := hS
                  have hx1 := hits.1
                  have hx2 := htgs.1
                  simp only [List.length_map] at hx1 hx2
                  row_hasAny m_k
                  row_hasAny m_goX
                  rename Sat _ _ _ _ => hS
                  refine tree2 ih (d := d + 1) (by (first | lia | omega)) (by (first | lia | omega)) hS hP (hR.less (by (first | lia | omega))) fun c4 s4 xs n4 tn4 t r l4 hS hP hg hr => ?_
                  row_hasAny m_goX
                  rename Sat _ _ _ _ => hS
                  refine append_ hS (by row_hasAny m_lk) (by (first | lia | omega)) fun s hS => ?_
                  row_hasAny m_goX
                  rename Sat _ _ _ _ => hS
                  refine newLstI hS (by simp) fun la c5 s5 l5 hS hla => ?_
                  have hall := pick_pl (P := fun v => ∃ g, TagIs g v ∧ TagOk g) hla (by
                    intro v hv; simp only [List.mem_cons, List.not_mem_nil, or_false] at hv
                    rcases hv with rfl | rfl | rfl
                    · exact ⟨none, rfl, fun s e => nomatch e⟩
                    · exact ⟨none, rfl, fun s e => nomatch e⟩
                    · exact ⟨some "x", ⟨_, rfl⟩, fun s e => by cases e; kernel_rfl⟩)
                  row_hasAny m_goX
                  rename Sat _ _ _ _ => hS
                  refine pick3 (n := 0) hS (hR.less (by (first | lia | omega))) (hP.mono l5) (by decide) fun s xs i2 ti2 hS hP hi2 => ?_
                  obtain ⟨gv, hgv, g, hg1, hg2⟩ := pick_of hall hi2
                  row_hasAny m_goX
                  rename Sat _ _ _ _ => hS
                  refine append_ hS (by row_hasAny m_lk) (by (first | lia | omega)) fun s hS => ?_
                  row_hasAny m_goX
                  rename Sat _ _ _ _ => hS
                  refine ⟨c5, _, [.ls ta (tgs ++ [gv]), .ls ia (its ++ [r]), il pl xs, il sp [.int n4 tn4]], l4.trans l5, ⟨xs, n4, tn4, its ++ [r], tgs ++ [gv], l ++ [(g, t)], _, rfl, rfl, hP, ?_, ?_, by simp; (first | lia | omega), ?_, ?_⟩, hS⟩
                  · rw [List.map_append]; exact (hits.mono (l4.trans l5)).append (.one (hr.mono l5))
                  · rw [List.map_append]; exact htgs.append (.one hg1)
                  · intro p hp
                    rcases List.mem_append.mp hp with hp | hp
                    · exact hlg p hp
                    · rw [List.mem_singleton.mp hp]; exact hg
                  · intro p hp
                    rcases List.mem_append.mp hp with hp | hp
                    · exact hlt p hp
                    · rw [List.mem_singleton.mp hp]; exact hg2
                · rintro c3 vs' U' s' l3 ⟨xs, n3, tn3, its, tgs, l, st, rfl, rfl, hP, hits, htgs, hll, hlg, hlt⟩ hS
                  replace hS : Sat w c3 (_ :: .ls ta tgs :: .ls ia its :: il pl xs :: il sp [.int n3 tn3] :: V) s' := hS
                  row_hasAny m_goX
                  rename Sat _ _ _ _ => hS
                  obtain ⟨c4, l4, hS, h5⟩ := hS.freeze (p := .ls ta tgs) (.tail .head)
                  obtain ⟨c5, l5, hS, h6⟩ := hS.freeze (p := .ls ia its) (.tail .head)
                  refine newTup hS (by simp) fun b2 c6 s6 l6 hS hb2 => ?_
                  repeat row_hasAny m_out
                  exact ⟨c6, _, _, (((l2.trans l3).trans l4).trans l5).trans l6, hS, xs, _, _, .call l, rfl, hP.mono ((l4.trans l5).trans l6), gt_call (fun e => by rw [e] at hll; cases hll) (by (first | lia | omega)) hlg hlt, mkl_call hb2 (Heap.PlainList.keeps h6 l6.keep).isList (Heap.PlainList.keeps h5 (l5.trans l6).keep).isList (hits.mono ((l4.trans l5).trans l6)) htgs⟩
  · rintro r c' V' s' l h ⟨xs', n', tn', t, rfl, h1, h2, h3⟩
    exact kk c' s' xs' n' tn' t r l h h1 h2 h3
theorem fn269 (w : World) (k : Nat) : C269 w k := by
  induction k with
  | zero => exact fn269_in fun k' e => absurd e (by (first | lia | omega))
  | succ k ih => exact fn269_in fun k' e => by cases e; exact ih
noncomputable abbrev nm317 : List Str := ["script", "tree", "table", "name", "real", "value", "other"]
noncomputable abbrev gl317 : List (Str × Value) := [("_law_pool", .ref 245), ("_law_tree", .ref 269), ("_law_pick", .ref 252), ("range", .type "range"), ("_law_value", .ref 262), ("_law_plain", .ref 257), ("substitute_in", .ref 191), ("_law_put", .ref 274), ("bquote_in", .ref 238), ("_law_same", .ref 293), ("_law_quoted", .ref 300), ("_law_names", .ref 307), ("all_names", .ref 177), ("all_vars", .ref 184), ("len", .builtin "len"), ("language_equal", .ref 205), ("depth", .ref 219), ("_law_deep", .ref 312)]
theorem ok317 (w : World) : FnOkC w 317 nm317 gl317 := .of (by kernel_rfl)
theorem kind317 (w : World) : (fdAt w 317).scope.kind = .function := by kernel_rfl
theorem cell317 (w : World) : ∀ x ∈ [("pool" : Str), "values", "names"], (fdAt w 317).scope.names.lookup x = some .cell := by
  intro x hx
  simp only [List.mem_cons, List.not_mem_nil, or_false] at hx
  rcases hx with rfl | rfl | rfl <;> kernel_rfl

theorem parts_w0 {m : Nat} {t : T} (h : Wide m t) (hm : 1 ≤ m) : ∀ q ∈ parts t, W0 m q.2 ∧ deep q.2 ≤ deep t ∧ ∀ s, q.1 = some s → PyData.strOk s = true := by
  intro q hq
  cases h with
  | name h1 h2 => rw [List.mem_singleton.mp hq]; exact ⟨.name h1, Nat.le_refl _, fun s e => nomatch e⟩
  | null => cases hq
  | miss => rw [List.mem_singleton.mp hq]; exact ⟨.miss, Nat.le_refl _, fun s e => nomatch e⟩
  | leaf h1 h2 h3 =>
    obtain ⟨d, hd, rfl⟩ := List.mem_map.mp hq
    exact ⟨.leaf h1 (by simpa using hm) (fun e he s hs => h3 e (by rw [List.mem_singleton.mp he]; exact hd) s hs), by simp [deep], fun s e => nomatch e⟩
  | @call l h1 h2 h3 h4 =>
    have hq' : q ∈ l := hq
    exact ⟨(h3 q hq').w0, by have := deep_mem hq'; simp only [parts] at *; (first | lia | omega), h4 q hq'⟩
theorem ql_mem {l : List (Tag × T)} {n : Nat} {q : Tag × T} (h : q ∈ ql l n) : ∃ i, ∃ p ∈ l, q ∈ qc i p := by
  induction n with
  | zero => cases h
  | succ n ih =>
    rw [ql] at h
    rcases List.mem_append.mp h with h | h
    · exact ih h
    · cases e : l[n]? with
      | none => rw [e] at h; cases h
      | some p => rw [e] at h; exact ⟨n, p, List.mem_of_getElem? e, h⟩
theorem quoted_w0 {t : T} (h : Wide 4 t) : W0 400 (quoted t) ∧ deep (quoted t) ≤ deep t := by
  induction h with
  | name h1 h2 => rw [quoted_other rfl]; exact ⟨.name h1, Nat.le_refl _⟩
  | null => rw [quoted_other rfl]; exact ⟨.null, Nat.le_refl _⟩
  | miss => rw [quoted_other rfl]; exact ⟨.miss, Nat.le_refl _⟩
  | leaf h1 h2 h3 => rw [quoted_other rfl]; exact ⟨.leaf h1 (by (first | lia | omega)) h3, Nat.le_refl _⟩
  | @call l h1 h2 h3 h4 ih =>
    by_cases q : hole (.call l) = one
    · obtain ⟨g, p, e⟩ := hole_one q
      cases e
      rw [quoted_call, if_pos q]
      exact ⟨((h3 p (.tail _ (.head _))).w0).le (by decide), by have := deep_inner (g := g) (x := .name one) (p := p); simp only [inner]; (first | lia | omega)⟩
    · rw [quoted_call, if_neg q, ← ql_all]
      have mem : ∀ r ∈ ql l l.length, W0 400 r.2 ∧ deep r.2 + 1 ≤ deep (.call l) ∧ ∀ s, r.1 = some s → PyData.strOk s = true := by
        intro r hr
        obtain ⟨i, p, hp, hr⟩ := ql_mem hr
        have hpd := deep_mem hp
        unfold qc at hr
        split at hr
        · rename_i h5
          obtain ⟨g, q2, e⟩ := hole_two h5.2
          have hw := h3 p hp
          rw [e] at hr hw
          have hd : deep q2.2 + 1 ≤ deep p.2 := by rw [e]; exact deep_inner
          obtain ⟨a, b, d⟩ := parts_w0 (wide_inner hw) (by decide) r hr
          exact ⟨a.le (by decide), by have b' : deep r.2 ≤ deep q2.2 := b; (first | lia | omega), d⟩
        · rw [List.mem_singleton.mp hr]
          have := ih p hp
          exact ⟨this.1, by have := this.2; show deep (quoted p.2) + 1 ≤ _; (first | lia | omega), h4 p hp⟩
      refine ⟨.call ?_ (fun r hr => (mem r hr).1) fun r hr => (mem r hr).2.2, ?_⟩
      · have := ql_len h3 (by decide) l.length; (first | lia | omega)
      · have h5 : 1 ≤ deep (.call l) := by rw [deep_call]; (first | lia | omega)
        have := deep_le (l := ql l l.length) (n := deep (.call l) - 1) fun r hr => by have := (mem r hr).2.1; (first | lia | omega)
        (first | lia | omega)

noncomputable def valT : List T := [.leaf "double" [.pair 1 3, .none], .name "b", .call [(none, .name "g"), (some "t", .name "a"), (none, .name "...")], .null, .leaf "character" [.str "p", .str "q"]]
theorem valT_ok : ∀ t ∈ valT, Gt 1 t := by
  intro t ht
  simp only [valT, List.mem_cons, List.not_mem_nil, or_false] at ht
  rcases ht with rfl | rfl | rfl | rfl | rfl
  · exact (gt_leaf leafK_double (by kernel_rfl) (by decide) (fun d hd s e => by
      simp only [List.mem_cons, List.not_mem_nil, or_false] at hd
      rcases hd with rfl | rfl <;> cases e)).succ
  · exact (gt_name ⟨by kernel_rfl, by decide⟩).succ
  · refine gt_call (by simp) (by simp) (fun p hp => ?_) fun p hp => ?_
    · simp only [List.mem_cons, List.not_mem_nil, or_false] at hp
      rcases hp with rfl | rfl | rfl <;> exact gt_name ⟨by kernel_rfl, by decide⟩
    · simp only [List.mem_cons, List.not_mem_nil, or_false] at hp
      rcases hp with rfl | rfl | rfl
      · exact fun s e => nomatch e
      · exact fun s e => by cases e; kernel_rfl
      · exact fun s e => nomatch e
  · exact gt_null.succ
  · exact (gt_leaf leafK_character (by kernel_rfl) (by decide) (fun d hd s e => by
      simp only [List.mem_cons, List.not_mem_nil, or_false] at hd
      rcases hd with rfl | rfl <;> (cases e; kernel_rfl))).succ

/-! pool, tree, values -/
set_option maxHeartbeats 4000000 in
theorem lawA {w : World} {A : Around} {E : Value → Shared → Prop} {c : Ctx} {s : Shared} {env : Env} {n : Nat} {C1 C2 C3 sc : Addr} {vs0 : List Value} {Q : Flow → Shared → Prop} (hE : FrOk w env nm317 gl317) (hC : CEnv w 317 env [("names", C3), ("values", C2), ("pool", C1)]) (hR : Room A (n + 10))
    (hS : Sat w c (.ns env.locals (fm nm317 [some (.ref sc), none, none, none, none, none, none]) :: cl C3 none :: cl C2 none :: cl C1 none :: []) s)
    (hl : c.I.IsList sc vs0.toArray) (hn : vs0.length ≤ 63) (hi : ∀ v ∈ vs0, IntV v)
    (k : ∀ c' s' pl xs t tv vl vvs, c.Le c' → Sat w c' (.ns env.locals (fm nm317 [some (.ref sc), some tv, none, none, none, none, none]) :: il pl xs :: cl C3 none :: []) s' → CelsAt c' env [("values", .ref vl), ("pool", .ref pl)] → PoolOk c' xs → Gt 4 t → IsL c' t tv → c'.I.PlainList vl vvs.toArray → IsLs c' valT vvs →
      wpAny (MM w) A (execs ((bodyAt w 317).drop 3) env) Q E s') : wpAny (MM w) A (execs (bodyAt w 317) env) Q E s := by
  have hK : CelsAt c env [] := .nil
  row_hasAny m_open
  row_hasAny m_goX
  rename Sat _ _ _ _ => hS
  refine fn245 hS (hR.less (by (first | lia | omega))) (n := 0) hl hn hi fun c1 s1 pl xs l1 hS hP => ?_
  have hS := hS.swap
  refine stc hS hC (kind317 w) (cell317 w _ (by simp)) (by with_unfolding_all rfl) (a := C1) (v0 := none) (by row_hasAny m_lk) fun c2 s2 l2 hS hc1 => ?_
  have hK : CelsAt c2 env [("pool", .ref pl)] := CelsAt.cons .nil hC (cell317 w _ (by simp)) (by with_unfolding_all rfl) hc1 (by decide)
  have hP := hP.mono l2
  row_hasAny m_goX
  rename Sat _ _ _ _ => hS
  refine newLst hS (by simp) fun sp s hS => ?_
  have hS := (((hS.swap).toIl).perm (List.perm_middle (l₁ := [_, _])).symm)
  row_hasAny m_goX
  rename Sat _ _ _ _ => hS
  refine tree0 (fn269 w 4) (d := 0) (by decide) rfl hS hP (hR.less (by (first | lia | omega))) fun c3 s3 xs3 n3 tn3 t tv l3 hS hP hg ht => ?_
  rename CelsAt _ _ _ => hK
  have hK := hK.mono l3
  row_hasAny m_goX
  rename Sat _ _ _ _ => hS
  have hS : Sat w c3 (.ns env.locals (fm nm317 [some (.ref sc), some tv, none, none, none, none, none]) :: il pl xs3 :: cl C3 none :: cl C2 none :: []) _ := hS.sub (.cons_cons _ (.cons_cons _ (.cons _ (.refl _))))
  with_reducible refine newTup hS (by simp) fun a1 c4 s4 l4 hS ha1 => ?_
  row_hasAny m_goX
  rename Sat _ _ _ _ => hS
  with_reducible refine newLstI hS (by simp) fun b1 c5 s5 l5 hS hb1 => ?_
  row_hasAny m_goX
  rename Sat _ _ _ _ => hS
  with_reducible refine newTup hS (by simp) fun d1 c6 s6 l6 hS hd1 => ?_
  row_hasAny m_goX
  rename Sat _ _ _ _ => hS
  with_reducible refine newTup hS (by simp) fun d2 c7 s7 l7 hS hd2 => ?_
  row_hasAny m_goX
  rename Sat _ _ _ _ => hS
  with_reducible refine newTup hS (by simp) fun e1 c8 s8 l8 hS he1 => ?_
  row_hasAny m_goX
  rename Sat _ _ _ _ => hS
  with_reducible refine newTup hS (by simp) fun e2 c9 s9 l9 hS he2 => ?_
  row_hasAny m_goX
  rename Sat _ _ _ _ => hS
  with_reducible refine newTup hS (by simp) fun e3 c10 s10 l10 hS he3 => ?_
  row_hasAny m_goX
  rename Sat _ _ _ _ => hS
  with_reducible refine newLstI hS (by simp) fun b3 c11 s11 l11 hS hb3 => ?_
  row_hasAny m_goX
  rename Sat _ _ _ _ => hS
  with_reducible refine newLstI hS (by simp) fun b4 c12 s12 l12 hS hb4 => ?_
  row_hasAny m_goX
  rename Sat _ _ _ _ => hS
  with_reducible refine newTup hS (by simp) fun d3 c13 s13 l13 hS hd3 => ?_
  row_hasAny m_goX
  rename Sat _ _ _ _ => hS
  with_reducible refine newTup hS (by simp) fun d4 c14 s14 l14 hS hd4 => ?_
  row_hasAny m_goX
  rename Sat _ _ _ _ => hS
  with_reducible refine newLstI hS (by simp) fun b5 c15 s15 l15 hS hb5 => ?_
  row_hasAny m_goX
  rename Sat _ _ _ _ => hS
  with_reducible refine newTup hS (by simp) fun d5 c16 s16 l16 hS hd5 => ?_
  row_hasAny m_goX
  rename Sat _ _ _ _ => hS
  with_reducible refine newLstI hS (by simp) fun vl c17 s17 l17 hS hvl => ?_
  refine stc hS hC (kind317 w) (cell317 w _ (by simp)) (by with_unfolding_all rfl) (a := C2) (v0 := none) (by row_hasAny m_lk) fun c18 s18 l18 hS hc2 => ?_
  have g17 := l18
  have g16 := l17.trans g17
  have g15 := l16.trans g16
  have g14 := l15.trans g15
  have g13 := l14.trans g14
  have g12 := l13.trans g13
  have g11 := l12.trans g12
  have g10 := l11.trans g11
  have g9 := l10.trans g10
  have g8 := l9.trans g9
  have g7 := l8.trans g8
  have g6 := l7.trans g7
  have g5 := l6.trans g6
  have g4 := l5.trans g5
  have g3 := l4.trans g4
  rename CelsAt _ _ _ => hK
  have hK : CelsAt c18 env [("values", .ref vl), ("pool", .ref pl)] := (hK.mono g3).cons hC (cell317 w _ (by simp)) (by with_unfolding_all rfl) hc2 (by decide)
  repeat row_hasAny m_out
  refine k c18 _ pl xs3 t tv vl _ (((l1.trans l2).trans l3).trans g3) hS hK (hP.mono g3) hg (ht.mono g3) (Heap.PlainList.keeps hvl g17.keep) ?_
  refine isls_of ?_
  refine rds_mkc (mkl_leaf (tuple_keeps hd1 g6) (Heap.PlainList.keeps hb1 g5.keep).isList (rds_mkc (rd_mkt (tuple_keeps ha1 g4) (rds_mkc rd_i (rds_mkc rd_i rds_mk))) (rds_mkc rd_n rds_mk))) ?_
  refine rds_mkc (mkl_name (tuple_keeps hd2 g7)) ?_
  refine rds_mkc (mkl_call (tuple_keeps hd3 g13) (Heap.PlainList.keeps hb3 g11.keep).isList (Heap.PlainList.keeps hb4 g12.keep).isList ?_ ?_) ?_
  · exact (IsLs.one (mkl_name (tuple_keeps he1 g8))).append ((IsLs.one (mkl_name (tuple_keeps he2 g9))).append (IsLs.one (mkl_name (tuple_keeps he3 g10))))
  · exact (TagsAre.one (t := none) rfl).append ((TagsAre.one (t := some "t") ⟨_, rfl⟩).append (TagsAre.one (t := none) rfl))
  refine rds_mkc (mkl_null (tuple_keeps hd4 g14)) ?_
  exact rds_mkc (mkl_leaf (tuple_keeps hd5 g16) (Heap.PlainList.keeps hb5 g15.keep).isList (rds_mkc rd_s (rds_mkc rd_s rds_mk))) rds_mk
noncomputable def names4 : List Str := ["a", "b", "f", "+"]
theorem names4_new : ∀ (i : Nat) (x : Str), names4[i]? = some x → x ∉ names4.take i ∧ x ≠ dots ∧ i < 4 := by
  intro i x h
  match i with
  | 0 => simp [names4] at h; subst h; exact ⟨by decide, by decide, by decide⟩
  | 1 => simp [names4] at h; subst h; exact ⟨by decide, by decide, by decide⟩
  | 2 => simp [names4] at h; subst h; exact ⟨by decide, by decide, by decide⟩
  | 3 => simp [names4] at h; subst h; exact ⟨by decide, by decide, by decide⟩
  | i + 4 => simp [names4] at h
section
variable {w : World} {A : Around} {E : Value → Shared → Prop} {c : Ctx} {V : List Cell} {s : Shared} {n b : Nat} {fr x y : Cell}
theorem pick2 {tb : Tok} {pl : Addr} {xs : List Value} {Q : Value → Shared → Prop} (hS : Sat w c (fr :: x :: il pl xs :: V) s) (hR : Room A (n + 1)) (hP : PoolOk c xs) (hb : 0 < b)
    (k : ∀ s' xs' i tk, Sat w c (fr :: x :: il pl xs' :: V) s' → PoolOk c xs' → i < b → Q (.int (i : Nat) tk) s') : wpAny (MM w) A (call (.ref 252) [.ref pl, .int b tb]) Q E s :=
  fn252 (hS.perm (List.perm_middle (l₁ := [fr, x]))) hR hP hb fun s' xs' i tk h => k s' xs' i tk (h.perm (List.perm_middle (l₁ := [fr, x])).symm)
end
/-! table = {}, the plain names -/
set_option maxHeartbeats 4000000 in
theorem lawB {w : World} {A : Around} {E : Value → Shared → Prop} {c : Ctx} {V : List Cell} {s : Shared} {env : Env} {n : Nat} {sc pl vl : Addr} {xs vvs : List Value} {tv : Value} {Q : Flow → Shared → Prop} (hE : FrOk w env nm317 gl317) (hR : Room A (n + 10))
    (hS : Sat w c (.ns env.locals (fm nm317 [some (.ref sc), some tv, none, none, none, none, none]) :: il pl xs :: V) s) (hK : CelsAt c env [("values", .ref vl), ("pool", .ref pl)]) (hP : PoolOk c xs) (hvl : c.I.PlainList vl vvs.toArray) (hvv : IsLs c valT vvs)
    (k : ∀ c' s' xs tb kn tk nv, c.Le c' → Sat w c' (.ns env.locals (fm nm317 [some (.ref sc), some tv, some (.ref tb), nv, none, none, none]) :: dc w tb kn :: il pl xs :: V) s' → PoolOk c' xs → Par (IsL c') kn tk → (∀ p ∈ tk, Gt 1 p.2 ∧ p.1 ≠ dots) → kn.length ≤ 4 →
      wpAny (MM w) A (execs ((bodyAt w 317).drop 5) env) Q E s') : wpAny (MM w) A (execs ((bodyAt w 317).drop 3) env) Q E s := by
  row_hasAny m_open
  row_hasAny m_goX
  rename Sat _ _ _ _ => hS
  refine newDct hS fun tb s hS => ?_
  row_hasAny m_goX
  rename Sat _ _ _ _ => hS
  refine seq_cut (Mid := fun fl s' => fl = .next ∧ ∃ c' xs kn tk nv, c.Le c' ∧ Sat w c' (.ns env.locals (fm nm317 [some (.ref sc), some tv, some (.ref tb), nv, none, none, none]) :: dc w tb kn :: il pl xs :: V) s' ∧ PoolOk c' xs ∧ Par (IsL c') kn tk ∧ (∀ p ∈ tk, Gt 1 p.2 ∧ p.1 ≠ dots) ∧ kn.length ≤ 4) ?_ ?_
  · row_hasAny m_goK
    rename Sat _ _ _ _ => hS
    with_reducible refine newLstI hS (by simp) fun la c1 s1 l1 hS hla => ?_
    have hnm := pick_pl (P := fun _ => True) hla (fun _ _ => trivial)
    have hrd : ∃ t1 t2 t3 t4, c1.I.PlainList la [Value.str "a" t1, Value.str "b" t2, Value.str "f" t3, Value.str "+" t4].toArray := ⟨_, _, _, _, hla⟩
    clear hnm hla
    obtain ⟨t1, t2, t3, t4, hla⟩ := hrd
    have hrd : RDs c1 (names4.map .str) [Value.str "a" t1, Value.str "b" t2, Value.str "f" t3, Value.str "+" t4] := rds_mkc rd_s (rds_mkc rd_s (rds_mkc rd_s (rds_mkc rd_s rds_mk)))
    generalize [Value.str "a" t1, Value.str "b" t2, Value.str "f" t3, Value.str "+" t4] = nvs at hla hrd
    have hnl := rds_len hrd
    simp only [List.length_map] at hnl
    have hnl : nvs.length = 4 := hnl
    rename CelsAt _ _ _ => hK
    have hK := hK.mono l1
    have hvl := Heap.PlainList.keeps hvl l1.keep
    have hvv := hvv.mono l1
    have hP := hP.mono l1
    refine for_list (U := [dc w tb [], il pl xs]) (R := V) (fun i c' vs' U' => ∃ xs kn tk nv, vs' = [some (.ref sc), some tv, some (.ref tb), nv, none, none, none] ∧ U' = [dc w tb kn, il pl xs] ∧ PoolOk c' xs ∧ Par (IsL c') kn tk ∧ (∀ p ∈ tk, Gt 1 p.2 ∧ p.1 ∈ names4.take i ∧ p.1 ≠ dots) ∧ kn.length ≤ i) hR.h hla.isList go_list hS ⟨xs, [], [], none, rfl, rfl, hP, .nil, (fun _ h => nomatch h), Nat.le_refl _⟩ ?_ ?_
    · rintro i u c3 vs' U' R' s' hu l3 ⟨xs, kn, tk, nv, rfl, rfl, hP, hpar, htk, hkl⟩ hsub hS
      replace hS : Sat w c3 (_ :: dc w tb kn :: il pl xs :: R') s' := hS
      have hi := (List.getElem?_eq_some_iff.mp hu).1
      have hx : names4[i]? = some names4[i] := List.getElem?_eq_getElem (by show i < 4; (first | lia | omega))
      generalize names4[i] = x at hx
      obtain ⟨tx, rfl⟩ := rd_str (rds_get hrd (i := i) (d := .str x) (by simp [hx]) hu)
      obtain ⟨hx1, hx2, hx3⟩ := names4_new i x hx
      rename CelsAt _ _ _ => hK
      have hK := hK.mono l3
      have hvl := Heap.PlainList.keeps hvl l3.keep
      have hvv := hvv.mono l3
      have hvn : vvs.length = 5 := hvv.1
      have htake : names4.take (i + 1) = names4.take i ++ [x] := by rw [List.take_add_one, hx]; rfl
      row_hasAny m_k
      row_hasAny m_goK
      rename Sat _ _ _ _ => hS
      refine pick2 (n := 0) (b := 2) hS (hR.less (by (first | lia | omega))) hP (by decide) fun s xs i2 ti2 hS hP hi2 => ?_
      row_hasAny m_goK
      refine ifb (fun h1 => ?_) (fun h1 => ?_)
      · row_hasAny m_goK
        rename Sat _ _ _ _ => hS
        refine pick2 (n := 0) (b := 5) hS (hR.less (by (first | lia | omega))) hP (by decide) fun s xs i3 ti3 hS hP hi3 => ?_
        have hv : vvs[i3]? = some vvs[i3] := List.getElem?_eq_getElem (by (first | lia | omega))
        have ht : valT[i3]? = some valT[i3] := List.getElem?_eq_getElem (by show i3 < 5; (first | lia | omega))
        have htm : valT[i3] ∈ valT := List.getElem_mem (by show i3 < 5; (first | lia | omega))
        generalize vvs[i3] = v at hv
        generalize valT[i3] = t at ht htm
        have hvt := hvv.2 i3 t v ht hv
        row_hasAny m_goK
        rename Sat _ _ _ _ => hS
        have hnone : valueAt kn x = none := hpar.none (lookup_none fun p hp e => hx1 (e ▸ (htk p hp).2.1))
        refine setd hS (by row_hasAny m_lk) (by (first | lia | omega)) fun s hS => ?_
        row_hasAny m_goK
        rename Sat _ _ _ _ => hS
        rw [stored_new hnone] at hS
        refine ⟨c3, _, [dc w tb (kn ++ [(x, v)]), il pl xs], .refl _, ⟨xs, kn ++ [(x, v)], tk ++ [(x, t)], _, rfl, rfl, hP, hpar.app hvt, fun p hp => ?_, by simp; (first | lia | omega)⟩, hS⟩
        rcases List.mem_append.mp hp with hp | hp
        · have := htk p hp
          exact ⟨this.1, by rw [htake]; exact List.mem_append.mpr (.inl this.2.1), this.2.2⟩
        · rw [List.mem_singleton.mp hp]
          exact ⟨valT_ok t htm, by rw [htake]; exact List.mem_append.mpr (.inr (.head _)), hx2⟩
      · row_hasAny m_goK
        rename Sat _ _ _ _ => hS
        refine ⟨c3, _, [dc w tb kn, il pl xs], .refl _, ⟨xs, kn, tk, _, rfl, rfl, hP, hpar, fun p hp => ?_, by (first | lia | omega)⟩, hS⟩
        have := htk p hp
        exact ⟨this.1, by rw [htake]; exact List.mem_append.mpr (.inl this.2.1), this.2.2⟩
    · rintro c3 vs' U' s' l3 ⟨xs, kn, tk, nv, rfl, rfl, hP, hpar, htk, hkl⟩ hS
      exact ⟨rfl, c3, xs, kn, tk, nv, l1.trans l3, hS, hP, hpar, fun p hp => ⟨(htk p hp).1, (htk p hp).2.2⟩, by (first | lia | omega)⟩
  · rintro _ s ⟨rfl, c3, xs, kn, tk, nv, l3, hS, hP, hpar, htk, hkl⟩
    repeat row_hasAny m_out
    exact k c3 s xs tb kn tk nv l3 hS hP hpar htk hkl

noncomputable def RowOk (r : List (Tag × T)) : Prop := r.length ≤ 2 ∧ ∀ p ∈ r, Gt 1 p.2 ∧ TagOk p.1
noncomputable def RowsL (c : Ctx) (rows : Option (List (Tag × T))) (rr : List (Str × Value)) : Prop := match rows with
  | none => rr = []
  | some r => RowOk r ∧ ∃ la us, rr = [(dots, .ref la)] ∧ c.I.PlainList la us.toArray ∧ RowLs c r us
theorem RowLs.append {c : Ctx} {l l' : List (Tag × T)} {vs vs' : List Value} (x : RowLs c l vs) (y : RowLs c l' vs') : RowLs c (l ++ l') (vs ++ vs') := by
  refine ⟨by simp [x.1, y.1], fun i p u h1 h2 => ?_⟩
  rw [List.getElem?_append] at h1 h2
  rw [x.1] at h2
  by_cases q : i < l.length
  · rw [if_pos q] at h1 h2; exact x.2 i p u h1 h2
  · rw [if_neg q] at h1 h2; exact y.2 _ p u h1 h2
/-! the row of "..." -/
set_option maxHeartbeats 4000000 in
theorem lawC {w : World} {A : Around} {E : Value → Shared → Prop} {c : Ctx} {V : List Cell} {s : Shared} {env : Env} {n : Nat} {C1 C2 C3 sc pl vl tb : Addr} {xs vvs : List Value} {kn : List (Str × Value)} {tk : List (Str × T)} {tv : Value} {nv : Option Value} {Q : Flow → Shared → Prop} (hE : FrOk w env nm317 gl317) (hC : CEnv w 317 env [("names", C3), ("values", C2), ("pool", C1)]) (hR : Room A (n + 10))
    (hS : Sat w c (.ns env.locals (fm nm317 [some (.ref sc), some tv, some (.ref tb), nv, none, none, none]) :: dc w tb kn :: il pl xs :: V) s) (hK : CelsAt c env [("values", .ref vl), ("pool", .ref pl)]) (hP : PoolOk c xs) (hvl : c.I.PlainList vl vvs.toArray) (hvv : IsLs c valT vvs)
    (hpar : Par (IsL c) kn tk) (htk : ∀ p ∈ tk, Gt 1 p.2 ∧ p.1 ≠ dots) (hkl : kn.length ≤ 4)
    (k : ∀ c' s' xs rows rr, c.Le c' → Sat w c' (.ns env.locals (fm nm317 [some (.ref sc), some tv, some (.ref tb), nv, none, none, none]) :: dc w tb (kn ++ rr) :: il pl xs :: V) s' → PoolOk c' xs → RowsL c' rows rr →
      wpAny (MM w) A (execs ((bodyAt w 317).drop 6) env) Q E s') : wpAny (MM w) A (execs ((bodyAt w 317).drop 5) env) Q E s := by
  refine seq_cut (Mid := fun fl s' => fl = .next ∧ ∃ c' xs rows rr, c.Le c' ∧ Sat w c' (.ns env.locals (fm nm317 [some (.ref sc), some tv, some (.ref tb), nv, none, none, none]) :: dc w tb (kn ++ rr) :: il pl xs :: V) s' ∧ PoolOk c' xs ∧ RowsL c' rows rr) ?_ ?_
  · have hvn : vvs.length = 5 := hvv.1
    row_hasAny m_goX
    rename Sat _ _ _ _ => hS
    refine pick2 (n := 0) (b := 2) hS (hR.less (by (first | lia | omega))) hP (by decide) fun s xs i2 ti2 hS hP hi2 => ?_
    row_hasAny m_goX
    refine ifb (fun h1 => ?_) (fun h1 => ?_)
    · row_hasAny m_goX
      rename Sat _ _ _ _ => hS
      rename FrOk _ _ _ _ => hE
      refine ListComp_ (cl := [("values", C2), ("pool", C1)]) (clos_of hC (by with_unfolding_all rfl)) rfl (by decide) ?_
      row_hasAny m_goX
      rename Sat _ _ _ _ => hS
      refine pick2 (n := 0) (b := 3) hS (hR.less (by (first | lia | omega))) hP (by decide) fun s xs i3 ti3 hS hP hi3 => ?_
      row_hasAny m_goX
      rename Sat _ _ _ _ => hS
      rename FrOk _ _ _ _ => hE
      refine range_ (n := i3) hS fun r0 s t u v hS hr => ?_
      have hS' := hS.perm (List.Perm.cons _ (List.Perm.swap _ _ _))
      refine comp_range (nm := ["step"]) (gl := [("_law_pick", .ref 252)]) [il pl xs] (dc w tb kn :: V) (fun i c' ys U' => ∃ xs r, U' = [il pl xs] ∧ PoolOk c' xs ∧ RowLs c' r ys ∧ r.length = i ∧ ∀ p ∈ r, Gt 1 p.2 ∧ TagOk p.1) hR.h (by decide) rfl (fun C' => (hE.compC (cn := []) hC (by kernel_rfl)).1) hr (by (first | lia | omega)) hS' ⟨xs, [], rfl, hP, .nil, rfl, fun _ h => nomatch h⟩ (fun i c' ys U' ⟨xs, r, h1, h2, h3, h4, h5⟩ => by rw [h3.1, h4]; exact Nat.le_refl _) ?_ ?_
      · rintro i tk0 c' ys U' R' vs' cenv s' hi le ⟨xs, r, rfl, hP, hrl, hrn, hro⟩ hsub hE2 ⟨C', rfl⟩ hS
        replace hS : Sat w c' (_ :: il pl xs :: R') s' := hS
        obtain ⟨us, hu1, hu2⟩ := fm_pad ["step"] vs'
        rw [hu2] at hS
        refine len1k (hu1) fun x0 ee => ?_
        subst ee
        rename CelsAt _ _ _ => hK
        have hK := (CelsAt.comp' hE2 hE hC hK (fun p hp => by
          simp only [List.mem_cons, List.not_mem_nil, or_false] at hp
          rcases hp with rfl | rfl <;> with_unfolding_all rfl) (by kernel_rfl)).mono le
        have hE := hE2
        have hvl := Heap.PlainList.keeps hvl le.keep
        row_hasAny m_goX
        refine tests_nil ?_
        refine itt ?_
        row_hasAny m_goX
        rename Sat _ _ _ _ => hS
        with_reducible refine newLstI hS (by simp) fun la c2 s2 l2 hS hla => ?_
        have hall := pick_pl (P := fun v => ∃ g, TagIs g v ∧ TagOk g) hla (by
          intro v hv; simp only [List.mem_cons, List.not_mem_nil, or_false] at hv
          rcases hv with rfl | rfl
          · exact ⟨none, rfl, fun s e => nomatch e⟩
          · exact ⟨some "k", ⟨_, rfl⟩, fun s e => by cases e; kernel_rfl⟩)
        rename CelsAt _ _ _ => hK
        have hK := hK.mono l2
        have hvl := Heap.PlainList.keeps hvl l2.keep
        row_hasAny m_goX
        rename Sat _ _ _ _ => hS
        refine pick1 (n := 0) (b := 2) hS (hR.less (by (first | lia | omega))) (hP.mono l2) (by decide) fun s xs i4 ti4 hS hP hi4 => ?_
        obtain ⟨gv, hgv, g, hg1, hg2⟩ := pick_of hall hi4
        row_hasAny m_goX
        rename Sat _ _ _ _ => hS
        refine pick1 (n := 0) (b := 5) hS (hR.less (by (first | lia | omega))) hP (by decide) fun s xs i5 ti5 hS hP hi5 => ?_
        have hv : vvs[i5]? = some vvs[i5] := List.getElem?_eq_getElem (by (first | lia | omega))
        have ht : valT[i5]? = some valT[i5] := List.getElem?_eq_getElem (by show i5 < 5; (first | lia | omega))
        have htm : valT[i5] ∈ valT := List.getElem_mem (by show i5 < 5; (first | lia | omega))
        generalize vvs[i5] = v at hv
        generalize valT[i5] = t at ht htm
        have hvt := ((hvv.2 i5 t v ht hv).mono le).mono l2
        row_hasAny m_goX
        rename Sat _ _ _ _ => hS
        with_reducible refine newTup hS (by simp) fun ta c3 s3 l3 hS hta => ?_
        refine ⟨c3, _, [il pl xs], l2.trans l3, ⟨xs, r ++ [(g, t)], rfl, hP.mono l3, (hrl.mono (l2.trans l3)).append (.one ⟨ta, gv, v, rfl, hta, hg1, hvt.mono l3⟩), by simp [hrn], fun p hp => ?_⟩, hS⟩
        rcases List.mem_append.mp hp with hp | hp
        · exact hro p hp
        · rw [List.mem_singleton.mp hp]; exact ⟨valT_ok t htm, hg2⟩
      · rintro c2 ys U' D s2 l2 ⟨xs, r, rfl, hP, hrl, hrn, hro⟩ hS
        replace hS : Sat w c2 (_ :: .ls D ys :: il pl xs :: dc w tb kn :: V) s2 := hS
        row_hasAny m_goX
        rename Sat _ _ _ _ => hS
        have hnone : valueAt kn "..." = none := hpar.none (lookup_none fun p hp => (htk p hp).2)
        refine setd hS (by row_hasAny m_lk) (by (first | lia | omega)) fun s hS => ?_
        row_hasAny m_goX
        rename Sat _ _ _ _ => hS
        rw [stored_new hnone] at hS
        obtain ⟨c3, l3, hS, hD⟩ := hS.freeze (p := .ls D ys) (.tail .head)
        have hS' := hS.perm (List.Perm.cons _ (List.Perm.swap _ _ _))
        exact ⟨rfl, c3, xs, some r, [(dots, .ref D)], l2.trans l3, hS', hP.mono l3, ⟨by (first | lia | omega), hro⟩, D, ys, rfl, hD, hrl.mono l3⟩
    · row_hasAny m_goX
      rename Sat _ _ _ _ => hS
      exact ⟨rfl, c, xs, none, [], .refl _, by rw [List.append_nil]; exact hS, hP, rfl⟩
  · rintro _ s ⟨rfl, c3, xs, rows, rr, l3, hS, hP, hrr⟩
    repeat row_hasAny m_out
    exact k c3 s xs rows rr l3 hS hP hrr
noncomputable def RowsV (w : World) (c : Ctx) (rows : Option (List (Tag × T))) (rr : List (Str × Value)) : Prop := match rows with
  | none => rr = []
  | some r => ∃ la us, rr = [(dots, .ref la)] ∧ c.I.PlainList la us.toArray ∧ RowVs w c r us
theorem Par.keys {P : T → Value → Prop} {kvs : List (Str × Value)} {tk : List (Str × T)} (x : Par P kvs tk) : kvs.map (·.1) = tk.map (·.1) := by
  induction x with
  | nil => rfl
  | cons a _ ih => simp [ih]
theorem tabN0 {P : T → Value → Prop} {kn rr : List (Str × Value)} {tk : List (Str × T)} (hp : Par P kn tk) (hr : rr = [] ∨ ∃ v, rr = [(dots, v)]) {x : Str} (hx : x ≠ dots) (h : tk.lookup x = none) : valueAt (kn ++ rr) x = none := by
  rcases hr with rfl | ⟨v, rfl⟩
  · rw [List.append_nil]; exact hp.none h
  · rw [valueAt_app, hp.none h, if_neg (Ne.symm hx)]; rfl
theorem tabN1 {P : T → Value → Prop} {kn rr : List (Str × Value)} {tk : List (Str × T)} (hp : Par P kn tk) (hr : rr = [] ∨ ∃ v, rr = [(dots, v)]) {x : Str} {t : T} (h : tk.lookup x = some t) : ∃ v, valueAt (kn ++ rr) x = some v ∧ P t v := by
  obtain ⟨u, hu, hPu⟩ := hp.some h
  rcases hr with rfl | ⟨v, rfl⟩
  · rw [List.append_nil]; exact ⟨u, hu, hPu⟩
  · rw [valueAt_app, hu]; exact ⟨u, rfl, hPu⟩
theorem tabD {P : T → Value → Prop} {kn : List (Str × Value)} {tk : List (Str × T)} (hp : Par P kn tk) (hk : ∀ p ∈ tk, p.1 ≠ dots) : valueAt kn dots = none := hp.none (lookup_none hk)
theorem tabD1 {P : T → Value → Prop} {kn : List (Str × Value)} {tk : List (Str × T)} {v : Value} (hp : Par P kn tk) (hk : ∀ p ∈ tk, p.1 ≠ dots) : valueAt (kn ++ [(dots, v)]) dots = some v := by
  rw [valueAt_app, tabD hp hk, if_pos rfl]; rfl
theorem valueAt_get {kvs : List (Str × Value)} (hn : (kvs.map (·.1)).Nodup) {i : Nat} {k : Str} {y : Value} (h : kvs[i]? = some (k, y)) : valueAt kvs k = some y := by
  induction kvs generalizing i with
  | nil => cases h
  | cons p r ih =>
    obtain ⟨x, v⟩ := p
    rw [valueAt_cons]
    simp only [List.map_cons, List.nodup_cons] at hn
    cases i with
    | zero => simp at h; rw [if_pos h.1, h.2]
    | succ i =>
      have h : r[i]? = some (k, y) := by simpa using h
      have hm : k ∈ r.map (·.1) := List.mem_map.mpr ⟨(k, y), List.mem_of_getElem? h, rfl⟩
      have hne : ¬ x = k := fun e => hn.1 (e ▸ hm)
      rw [if_neg hne]
      exact ih hn.2 h
theorem nodup_take {α : Type} {f : α → Str} {l : List α} (hn : (l.map f).Nodup) {i : Nat} {q : α} (h : l[i]? = some q) : ∀ p ∈ l.take i, f p ≠ f q := by
  induction l generalizing i with
  | nil => cases h
  | cons x r ih =>
    simp only [List.map_cons, List.nodup_cons] at hn
    cases i with
    | zero => intro p hp; simp at hp
    | succ i =>
      have h : r[i]? = some q := by simpa using h
      intro p hp
      rw [List.take_succ_cons] at hp
      rcases List.mem_cons.mp hp with rfl | hp
      · exact fun e => hn.1 (e ▸ List.mem_map.mpr ⟨q, List.mem_of_getElem? h, rfl⟩)
      · exact ih hn.2 h p hp
theorem Par.takeApp {P : T → Value → Prop} {kr : List (Str × Value)} {tk : List (Str × T)} {i : Nat} (x : Par P kr (tk.take i)) {k : Str} {t : T} {v : Value} (h : tk[i]? = Option.some (k, t)) (hv : P t v) : Par P (kr ++ [(k, v)]) (tk.take (i + 1)) := by
  rw [List.take_add_one, h]
  exact x.app hv
/-! real -/
set_option maxHeartbeats 4000000 in
theorem lawD {w : World} {A : Around} {E : Value → Shared → Prop} {c : Ctx} {V : List Cell} {s : Shared} {env : Env} {n : Nat} {sc tb : Addr} {kn rr : List (Str × Value)} {tk : List (Str × T)} {rows : Option (List (Tag × T))} {tv : Value} {nv : Option Value} {Q : Flow → Shared → Prop} (hE : FrOk w env nm317 gl317) (hR : Room A (n + 10))
    (hS : Sat w c (.ns env.locals (fm nm317 [some (.ref sc), some tv, some (.ref tb), nv, none, none, none]) :: dc w tb (kn ++ rr) :: V) s)
    (hpar : Par (IsL c) kn tk) (htk : ∀ p ∈ tk, Gt 1 p.2 ∧ p.1 ≠ dots) (hkl : kn.length ≤ 4) (hrr : RowsL c rows rr)
    (k : ∀ c' s' rb nv' kvs kvs', c.Le c' → Sat w c' (.ns env.locals (fm nm317 [some (.ref sc), some tv, some (.ref tb), nv', some (.ref rb), none, none]) :: V) s' → LawTab w c' ⟨tk, rows⟩ tb kvs → RealTab w c' ⟨tk, rows⟩ rb kvs' →
      wpAny (MM w) A (execs ((bodyAt w 317).drop 8) env) Q E s') : wpAny (MM w) A (execs ((bodyAt w 317).drop 6) env) Q E s := by
  obtain ⟨c1, l1, hS, hd⟩ := hS.freeze (p := dc w tb (kn ++ rr)) (.tail .head)
  have hpar := hpar.mono (Q := IsL c1) fun t v h => h.mono l1
  have hkd : ∀ p ∈ tk, p.1 ≠ dots := fun p hp => (htk p hp).2
  have hrr1 : RowsL c1 rows rr := by
    cases rows with
    | none => exact hrr
    | some r => obtain ⟨a, la, us, b, d, e⟩ := hrr; exact ⟨a, la, us, b, Heap.PlainList.keeps d l1.keep, e.mono l1⟩
  have hsh : rr = [] ∨ ∃ v, rr = [(dots, v)] := by
    cases rows with
    | none => exact .inl hrr
    | some r => obtain ⟨a, la, us, b, d, e⟩ := hrr; exact .inr ⟨_, b⟩
  have hnd : ((kn ++ rr).map (·.1)).Nodup := by
    obtain ⟨h1, h2⟩ := dc_at (Cell.at_of hd fun o e => hS.keep _ o e)
    obtain ⟨ep, h3⟩ := h1.dictAt
    exact h3.nodup
  have hknd : (kn.map (·.1)).Nodup := by
    rw [List.map_append] at hnd
    exact (List.nodup_append.mp hnd).1
  have htnd : (tk.map (·.1)).Nodup := by rw [← hpar.keys]; exact hknd
  have hlen := hpar.len
  row_hasAny m_open
  row_hasAny m_goX
  rename Sat _ _ _ _ => hS
  refine newDct hS fun rd s hS => ?_
  row_hasAny m_goX
  rename Sat _ _ _ _ => hS
  refine seq_cut (Mid := fun fl s' => fl = .next ∧ ∃ c' nv kr rr', c1.Le c' ∧ Sat w c' (.ns env.locals (fm nm317 [some (.ref sc), some tv, some (.ref tb), nv, some (.ref rd), none, none]) :: dc w rd (kr ++ rr') :: V) s' ∧ Par (IsV w c') kr tk ∧ RowsV w c' rows rr') ?_ ?_
  · row_hasAny m_goK
    rename Sat _ _ _ _ => hS
    refine for_dict (U := [dc w rd []]) (R := V) (fun i c' vs' U' => ∃ nv kr rr', vs' = [some (.ref sc), some tv, some (.ref tb), nv, some (.ref rd), none, none] ∧ U' = [dc w rd (kr ++ rr')] ∧ Par (IsV w c') kr (tk.take i) ∧ (i ≤ tk.length → rr' = []) ∧ (tk.length < i → RowsV w c' rows rr')) hR.h hd hS ⟨nv, [], [], rfl, rfl, .nil, fun _ => rfl, fun h => absurd h (Nat.not_lt_zero _)⟩ ?_ ?_
    · rintro i key y ty c3 vs' U' R' s' hky l3 ⟨nv, kr, rr', rfl, rfl, hpr, hz1, hz2⟩ hsub hS
      replace hS : Sat w c3 (_ :: dc w rd (kr ++ rr') :: R') s' := hS
      have hd3 : (dc w tb (kn ++ rr)).at c3.I := Cell.at_of hd fun o e => l3.keep _ o e
      have hval := valueAt_get hnd hky
      have hil : i < (kn ++ rr).length := (List.getElem?_eq_some_iff.mp hky).1
      by_cases hi : i < kn.length
      · have hky2 : kn[i]? = some (key, y) := by rw [List.getElem?_append_left hi] at hky; exact hky
        obtain ⟨t, ht, hyt⟩ := hpar.get hky2
        have hkt : (key, t) ∈ tk := List.mem_of_getElem? ht
        have hg : Gt 1 t := (htk _ hkt).1
        have hkne : key ≠ dots := (htk _ hkt).2
        have hkne' : key ≠ "..." := hkne
        have hr0 := hz1 (by (first | lia | omega))
        subst hr0
        have hprl := hpr.len
        have hnone : valueAt (kr ++ []) key = none := by
          rw [List.append_nil]
          exact hpr.none (lookup_none fun p hp => nodup_take (f := fun q : Str × T => q.1) htnd ht p hp)
        row_hasAny m_k
        row_hasAny m_goK
        rename Sat _ _ _ _ => hS
        refine eqs_f hkne' ?_
        row_hasAny m_goK
        rename Sat _ _ _ _ => hS
        refine subd hS (.imm hd3) hval (fun s hS => ?_) (by with_unfolding_all rfl)
        row_hasAny m_goK
        rename Sat _ _ _ _ => hS
        refine fn262 w t hS (hR.less (by have := hg.dp; (first | lia | omega))) (hyt.mono l3) hg.lk hg.wide (by decide) fun c4 s4 r l4 hS hr => ?_
        row_hasAny m_goK
        rename Sat _ _ _ _ => hS
        refine setd hS (by row_hasAny m_lk) (by have : (tk.take i).length ≤ 4 := by simp; (first | lia | omega)
                                                simp only [List.append_nil]; (first | lia | omega)) fun s hS => ?_
        row_hasAny m_goK
        rename Sat _ _ _ _ => hS
        rw [stored_new hnone, List.append_nil] at hS
        refine ⟨c4, _, [dc w rd (kr ++ [(key, r)])], l4, ⟨_, kr ++ [(key, r)], [], rfl, by rw [List.append_nil], (hpr.mono fun t v h => h.mono l4).takeApp ht hr, fun _ => rfl, fun h => absurd h (by (first | lia | omega))⟩, hS⟩
      · cases rows with
        | none =>
          have : rr = [] := hrr
          subst this
          simp only [List.append_nil] at hil
          exact absurd hil hi
        | some r =>
          obtain ⟨hro, la, us, rfl, hla, hus⟩ := hrr1
          have hie : i = kn.length := by simp at hil; (first | lia | omega)
          subst hie
          have hky2 : (key, y) = (dots, .ref la) := by
            rw [List.getElem?_append_right (Nat.le_refl _), Nat.sub_self] at hky
            simpa using hky.symm
          cases hky2
          have hr0 := hz1 (by (first | lia | omega))
          subst hr0
          rw [List.append_nil] at hS
          rw [hlen, List.take_length] at hpr
          have hprl := hpr.len
          have hnone : valueAt kr dots = none := tabD hpr hkd
          have husl := hus.1
          have hrl := hro.1
          row_hasAny m_goK
          rename Sat _ _ _ _ => hS
          refine ListComp_ (cl := []) (by with_unfolding_all rfl) rfl (by decide) ?_
          row_hasAny m_goK
          rename Sat _ _ _ _ => hS
          rename FrOk _ _ _ _ => hE
          refine subd hS (.imm hd3) hval (fun s hS => ?_) (by with_unfolding_all rfl)
          refine map_list (nm := ["tag", "piece"]) (gl := [("_law_value", .ref 262)]) (fun c' j y => ∀ q, r[j]? = some q → RowV w c' q y) (fun _ _ _ _ h l p hp => (h p hp).mono l) hR.h (by decide) rfl (fun C => hE.comp (by kernel_rfl)) (Heap.PlainList.keeps hla l3.keep).isList (by (first | lia | omega)) go_list2 hS ?_ ?_
          · rintro j u c5 R5 vs5 cenv s5 hu le5 hE ⟨C, hC⟩ hvs5 hS
            refine len2k (hvs5) fun x0 x1 ee => ?_
            subst ee
            have hj := (List.getElem?_eq_some_iff.mp hu).1
            have hq : r[j]? = some r[j] := List.getElem?_eq_getElem (by (first | lia | omega))
            have hqm : r[j] ∈ r := List.getElem_mem (by (first | lia | omega))
            generalize r[j] = q at hq hqm
            obtain ⟨ra, g', u', rfl, htup, hg', hu'⟩ := (hus.2 j q u hq hu).mono (l3.trans le5)
            have hgq := (hro.2 q hqm).1
            row_hasAny m_goK
            rename Sat _ _ _ _ => hS
            refine fn262 w q.2 hS (hR.less (by have := hgq.dp; (first | lia | omega))) hu' hgq.lk hgq.wide (by decide) fun c6 s6 r6 l6 hS hr6 => ?_
            row_hasAny m_goK
            rename Sat _ _ _ _ => hS
            with_reducible refine newTup hS (by simp) fun ta c7 s7 l7 hS hta => ?_
            exact ⟨c7, _, l6.trans l7, fun q' hq' => by rw [hq] at hq'; cases hq'; exact ⟨ta, _, _, rfl, hta, hg', hr6.mono l7⟩, hS⟩
          · intro c5 ys D s5 l5 hyl hys hS
            obtain ⟨c6, l6, hS, hD⟩ := hS.freeze (p := .ls D ys) (.tail .head)
            row_hasAny m_goK
            rename Sat _ _ _ _ => hS
            refine setd hS (by row_hasAny m_lk) (by (first | lia | omega)) fun s hS => ?_
            row_hasAny m_goK
            rename Sat _ _ _ _ => hS
            rw [stored_new hnone] at hS
            refine ⟨c6, _, [dc w rd (kr ++ [(dots, .ref D)])], l5.trans l6, ⟨_, kr, [(dots, .ref D)], rfl, rfl, ?_, fun h => absurd h (by (first | lia | omega)), fun _ => ⟨D, ys, rfl, hD, by (first | lia | omega), fun i p u h1 h2 => (hys i u h2 p h1).mono l6⟩⟩, hS⟩
            rw [List.take_of_length_le (by (first | lia | omega))]
            exact hpr.mono fun t v h => h.mono (l5.trans l6)
    · rintro c3 vs' U' s' l3 ⟨nv, kr, rr', rfl, rfl, hpr, hz1, hz2⟩ hS
      refine ⟨rfl, c3, nv, kr, rr', l3, hS, ?_, ?_⟩
      · rw [List.take_of_length_le (by rw [← hlen, List.length_append]; (first | lia | omega))] at hpr
        exact hpr
      · cases rows with
        | none =>
          have : rr = [] := hrr
          subst this
          exact hz1 (by simp; (first | lia | omega))
        | some r =>
          obtain ⟨hro, la, us, rfl, hla, hus⟩ := hrr
          exact hz2 (by simp; (first | lia | omega))
  · rintro _ s ⟨rfl, c3, nv, kr, rr', l3, hS, hpr, hrv⟩
    have hS : Sat w c3 (_ :: dc w rd (kr ++ rr') :: V) s := hS
    obtain ⟨c4, l4, hS, hd2⟩ := hS.freeze (p := dc w rd (kr ++ rr')) (.tail .head)
    have hsh' : rr' = [] ∨ ∃ v, rr' = [(dots, v)] := by
      cases rows with
      | none => exact .inl hrv
      | some r => obtain ⟨la, us, b, d, e⟩ := hrv; exact .inr ⟨_, b⟩
    repeat row_hasAny m_out
    refine k c4 s rd nv (kn ++ rr) (kr ++ rr') ((l1.trans l3).trans l4) hS ?_ ?_
    · refine ⟨Cell.at_of hd fun o e => (l3.trans l4).keep _ o e, fun x hx h => tabN0 hpar hsh hx h, fun x t hx h => ?_, fun h => ?_, fun r h => ?_⟩
      · obtain ⟨v, h1, h2⟩ := tabN1 hpar hsh h
        exact ⟨v, h1, h2.mono (l3.trans l4)⟩
      · cases rows with
        | none =>
          have : rr = [] := hrr
          subst this
          rw [List.append_nil]; exact tabD hpar hkd
        | some r => cases h
      · cases rows with
        | none => cases h
        | some r' =>
          cases h
          obtain ⟨hro, la, us, rfl, hla, hus⟩ := hrr1
          exact ⟨by have := hro.1; (first | lia | omega), la, us, tabD1 hpar hkd, Heap.PlainList.keeps hla (l3.trans l4).keep, hus.mono (l3.trans l4)⟩
    · have hpr := hpr.mono (Q := IsV w c4) fun t v h => h.mono l4
      refine ⟨hd2, fun x hx h => tabN0 hpr hsh' hx h, fun x t hx h => tabN1 hpr hsh' h, fun h => ?_, fun r h => ?_⟩
      · cases rows with
        | none =>
          have : rr' = [] := hrv
          subst this
          rw [List.append_nil]; exact tabD hpr hkd
        | some r => cases h
      · cases rows with
        | none => cases h
        | some r' =>
          cases h
          obtain ⟨la, us, rfl, hla, hus⟩ := hrv
          obtain ⟨hro, _⟩ := hrr
          exact ⟨by have := hro.1; (first | lia | omega), la, us, tabD1 hpr hkd, Heap.PlainList.keeps hla l4.keep, hus.mono l4⟩
theorem atSt {w : World} {A : Around} {a : Stmt} {r : List Stmt} {env : Env} {Q : Flow → Shared → Prop} {E : Value → Shared → Prop} {s : Shared} (h : wpAny (MM w) A (execs (a :: r) env) Q E s) : wpAny (MM w) A (execs (a :: r) env) Q E s := h
local macro_rules | `(tactic| row_hasAny m_goS) => `(tactic| repeat ((fail_if_success (with_reducible refine atSt ?_)); first | row_hasAny m_one | row_hasAny m_kind))
/-! value, the first two tests -/
set_option maxHeartbeats 4000000 in
theorem lawE {w : World} {A : Around} {E : Value → Shared → Prop} {c : Ctx} {V : List Cell} {s : Shared} {env : Env} {n : Nat} {sc tb rb : Addr} {kvs kvs' : List (Str × Value)} {tab : Tab} {t : T} {tv : Value} {nv : Option Value} {Q : Flow → Shared → Prop} (hE : FrOk w env nm317 gl317) (hR : Room A (n + 20))
    (hS : Sat w c (.ns env.locals (fm nm317 [some (.ref sc), some tv, some (.ref tb), nv, some (.ref rb), none, none]) :: V) s) (ht : IsL c t tv) (hg : Gt 4 t) (hLT : LawTab w c tab tb kvs) (hRT : RealTab w c tab rb kvs')
    (hk : ∀ x u, tab.kvs.lookup x = some u → W0 200 u ∧ deep u ≤ 1) (hr : ∀ r, tab.rows = some r → r.length ≤ 50 ∧ ∀ p ∈ r, W0 200 p.2 ∧ deep p.2 ≤ 1 ∧ ∀ s, p.1 = some s → PyData.strOk s = true)
    (k : ∀ c' s' v, c.Le c' → Sat w c' (.ns env.locals (fm nm317 [some (.ref sc), some tv, some (.ref tb), nv, some (.ref rb), some v, none]) :: V) s' → IsV w c' t v →
      wpAny (MM w) A (execs ((bodyAt w 317).drop 11) env) Q E s') : wpAny (MM w) A (execs ((bodyAt w 317).drop 8) env) Q E s := by
  have hd := hg.dp
  obtain ⟨hpw, hpd⟩ := put_w0 (tab := tab) hg.wide.w0 hk hr
  obtain ⟨hqw, hqd⟩ := quoted_w0 hg.wide
  row_hasAny m_open
  row_hasAny m_goX
  rename Sat _ _ _ _ => hS
  refine fn262 w t hS (hR.less (by (first | lia | omega))) ht hg.lk hg.wide (by decide) fun c1 s1 v l1 hS hv => ?_
  row_hasAny m_goX
  rename Sat _ _ _ _ => hS
  refine fn191 w tab t hS (hR.less (by (first | lia | omega))) hv hg.wide (by decide) (hRT.mono l1) fun c2 s2 r2 l2 hS hr2 => ?_
  row_hasAny m_goX
  rename Sat _ _ _ _ => hS
  refine fn257 w (put tab t) hS (hR.less (by (first | lia | omega))) hr2 hpw (by decide) fun c3 s3 r3 l3 hS hr3 => ?_
  row_hasAny m_goX
  rename Sat _ _ _ _ => hS
  have l13 := (l1.trans l2).trans l3
  refine fn274 w tab t hS (hR.less (by (first | lia | omega))) (ht.mono l13) hg.lk hg.wide (by decide) (by (first | lia | omega)) (hLT.mono l13) fun c4 s4 r4 l4 hS hr4 => ?_
  row_hasAny m_goX
  rename Sat _ _ _ _ => hS
  refine neD hS hR (hr3.mono l4) hr4 (shaped_T0 hpw (by (first | lia | omega))) (shaped_T0 hpw (by (first | lia | omega))) ?_
  rw [eqv_self (plain_T _), show (!true) = false from rfl]
  row_hasAny m_goX
  rename Sat _ _ _ _ => hS
  have hv4 := hv.mono ((l2.trans l3).trans l4)
  refine fn238 w t hS (hR.less (by (first | lia | omega))) hv4 hg.wide (by decide) fun c5 s5 r5 l5 hS hr5 => ?_
  row_hasAny m_goX
  rename Sat _ _ _ _ => hS
  refine fn257 w (quoted t) hS (hR.less (by (first | lia | omega))) hr5 hqw (by decide) fun c6 s6 r6 l6 hS hr6 => ?_
  row_hasAny m_goX
  rename Sat _ _ _ _ => hS
  have l16 := ((l13.trans l4).trans l5).trans l6
  refine fn300 w t hS (hR.less (by (first | lia | omega))) (ht.mono l16) hg.lk hg.wide (by decide) (by (first | lia | omega)) fun c7 s7 r7 l7 hS hr7 => ?_
  row_hasAny m_goX
  rename Sat _ _ _ _ => hS
  refine neD hS hR (hr6.mono l7) hr7 (shaped_T0 hqw (by (first | lia | omega))) (shaped_T0 hqw (by (first | lia | omega))) ?_
  rw [eqv_self (plain_T _), show (!true) = false from rfl]
  row_hasAny m_goX
  rename Sat _ _ _ _ => hS
  refine fn257 w t hS (hR.less (by (first | lia | omega))) (hv4.mono ((l5.trans l6).trans l7)) hg.wide.w0 (by decide) fun c8 s8 r8 l8 hS hr8 => ?_
  row_hasAny m_goX
  rename Sat _ _ _ _ => hS
  refine neD hS hR hr8 (ht.mono ((l16.trans l7).trans l8)) (shaped_T0 hg.wide.w0 (by (first | lia | omega))) (shaped_T0 hg.wide.w0 (by (first | lia | omega))) ?_
  rw [eqv_self (plain_T _), show (!true) = false from rfl]
  row_hasAny m_goS
  rename Sat _ _ _ _ => hS
  repeat row_hasAny m_out
  exact k c8 _ v ((l16.trans l7).trans l8) hS (hv4.mono (((l5.trans l6).trans l7).trans l8))

theorem uq_len (l : List Str) (i : Nat) : (uq l i).length ≤ i := by
  induction i with
  | zero => simp [uq]
  | succ i ih =>
    rw [uq, List.length_append]
    cases l[i]? with
    | none => simp only [List.length_nil]; (first | lia | omega)
    | some x =>
      simp only
      split
      · simp only [List.length_nil]; (first | lia | omega)
      · simp only [List.length_cons, List.length_nil]; (first | lia | omega)
theorem uq_mem {l : List Str} {i : Nat} {x : Str} (h : x ∈ uq l i) : x ∈ l := by
  induction i with
  | zero => cases h
  | succ i ih =>
    rw [uq] at h
    rcases List.mem_append.mp h with h | h
    · exact ih h
    · cases e : l[i]? with
      | none => rw [e] at h; cases h
      | some y =>
        rw [e] at h
        simp only at h
        split at h
        · cases h
        · rw [List.mem_singleton.mp h]; exact List.mem_of_getElem? e
/-! names, the tests of the names -/
set_option maxHeartbeats 4000000 in
theorem lawF {w : World} {A : Around} {E : Value → Shared → Prop} {c : Ctx} {V : List Cell} {s : Shared} {env : Env} {n : Nat} {C1 C2 C3 sc tb rb pl vl : Addr} {xs : List Value} {t : T} {tv v : Value} {nv : Option Value} {Q : Flow → Shared → Prop} (hE : FrOk w env nm317 gl317) (hC : CEnv w 317 env [("names", C3), ("values", C2), ("pool", C1)]) (hR : Room A (n + 20))
    (hS : Sat w c (.ns env.locals (fm nm317 [some (.ref sc), some tv, some (.ref tb), nv, some (.ref rb), some v, none]) :: il pl xs :: cl C3 none :: V) s) (hK0 : CelsAt c env [("values", .ref vl), ("pool", .ref pl)]) (ht : IsL c t tv) (hg : Gt 4 t) (hv : IsV w c t v)
    (k : ∀ c' s' nl, c.Le c' → Sat w c' (.ns env.locals (fm nm317 [some (.ref sc), some tv, some (.ref tb), nv, some (.ref rb), some v, none]) :: il pl xs :: V) s' → CelsAt c' env [("names", nl), ("values", .ref vl), ("pool", .ref pl)] →
      wpAny (MM w) A (execs ((bodyAt w 317).drop 14) env) Q E s') : wpAny (MM w) A (execs ((bodyAt w 317).drop 11) env) Q E s := by
  have hd := hg.dp
  have hz : sz t ≤ 341 := hg.z
  have hns : ∀ b, (names b t).length ≤ 341 := fun b => Nat.le_trans (names_sz b t) hz
  row_hasAny m_open
  row_hasAny m_goX
  rename Sat _ _ _ _ => hS
  refine fn307 w false t hS (hR.less (by (first | lia | omega))) ht hg.lk hg.wide (by decide) (by (first | lia | omega)) fun c1 s1 nl nvs l1 hS hnl hnv => ?_
  refine stc hS hC (kind317 w) (cell317 w _ (by simp)) (by with_unfolding_all rfl) (a := C3) (v0 := none) (by row_hasAny m_lk) fun c2 s2 l2 hS hc2 => ?_
  have hK : CelsAt c2 env [("names", .ref nl), ("values", .ref vl), ("pool", .ref pl)] := (hK0.mono (l1.trans l2)).cons hC (cell317 w _ (by simp)) (by with_unfolding_all rfl) hc2 (by decide)
  clear hK0
  have hnl := Heap.PlainList.keeps hnl l2.keep
  have hnv := hnv.mono l2
  have hnn := rds_len hnv
  simp only [List.length_map] at hnn
  have hnf := hns false
  have hv := hv.mono (l1.trans l2)
  have ht := ht.mono (l1.trans l2)
  row_hasAny m_goX
  rename Sat _ _ _ _ => hS
  refine fn177 (t := t) (b := true) hS (hR.less (by (first | lia | omega))) hv hg.wide (by decide) (by (first | lia | omega)) fun a3 c3 s3 y3 l3 hS ha3 hy3 => ?_
  row_hasAny m_goX
  rename Sat _ _ _ _ => hS
  refine fn307 w true t hS (hR.less (by (first | lia | omega))) (ht.mono l3) hg.lk hg.wide (by decide) (by (first | lia | omega)) fun c4 s4 a4 y4 l4 hS ha4 hy4 => ?_
  row_hasAny m_goX
  rename Sat _ _ _ _ => hS
  refine neD hS hR (rd_mkl (Heap.PlainList.keeps ha3 l4.keep).isList (hy3.mono l4)) (rd_mkl ha4.isList hy4) (shaped_strs (names_ok hg.wide)) (shaped_strs (names_ok hg.wide)) ?_
  rw [eqv_self (plain_strs _), show (!true) = false from rfl]
  row_hasAny m_goX
  rename Sat _ _ _ _ => hS
  refine fn177 (t := t) (b := false) hS (hR.less (by (first | lia | omega))) (hv.mono (l3.trans l4)) hg.wide (by decide) (by (first | lia | omega)) fun a5 c5 s5 y5 l5 hS ha5 hy5 => ?_
  have l25 := (l3.trans l4).trans l5
  rename CelsAt _ _ _ => hK
  have hK := hK.mono l25
  have hnl := Heap.PlainList.keeps hnl l25.keep
  have hnv := hnv.mono l25
  row_hasAny m_goX
  rename Sat _ _ _ _ => hS
  refine neD hS hR (rd_mkl ha5.isList hy5) (rd_mkl hnl.isList hnv) (shaped_strs (names_ok hg.wide)) (shaped_strs (names_ok hg.wide)) ?_
  rw [eqv_self (plain_strs _), show (!true) = false from rfl]
  row_hasAny m_goX
  rename Sat _ _ _ _ => hS
  refine fn184 (t := t) hS (hR.less (by (first | lia | omega))) (hv.mono l25) hg.wide (by decide) (by (first | lia | omega)) fun a6 c6 s6 y6 l6 hS ha6 hy6 => ?_
  rename CelsAt _ _ _ => hK
  have hK := hK.mono l6
  have hnl := Heap.PlainList.keeps hnl l6.keep
  have hnv := hnv.mono l6
  row_hasAny m_goX
  rename Sat _ _ _ _ => hS
  refine ListComp_ (cl := [("names", C3)]) (clos_of hC (by with_unfolding_all rfl)) rfl (by decide) ?_
  row_hasAny m_goX
  rename Sat _ _ _ _ => hS
  refine len_ hS (hS.list (.imm hnl)) (by (first | lia | omega)) fun t7 s hS => ?_
  row_hasAny m_goX
  rename Sat _ _ _ _ => hS
  rename FrOk _ _ _ _ => hE
  refine range_ hS fun r0 s tr ur vr hS hr => ?_
  refine comp_range (nm := ["step"]) (gl := []) [] _ (fun i c' ys U' => U' = [] ∧ RDs c' ((uq (names false t) i).map .str) ys) hR.h (by decide) rfl (fun C' => (hE.compC (cn := []) hC (by kernel_rfl)).1) hr (by (first | lia | omega)) hS ⟨rfl, by simpa [uq] using rds_mk⟩ (fun i c' ys U' ⟨h1, h2⟩ => by have := rds_len h2; have := uq_len (names false t) i; simp only [List.length_map] at *; (first | lia | omega)) ?_ ?_
  · rintro i tk0 c' ys U' R' vs' cenv s' hi le ⟨rfl, hys⟩ hsub hE2 ⟨C', rfl⟩ hS
    replace hS : Sat w c' (_ :: R') s' := hS
    obtain ⟨us, hu1, hu2⟩ := fm_pad ["step"] vs'
    rw [hu2] at hS
    refine len1k (hu1) fun x0 ee => ?_
    subst ee
    rename CelsAt _ _ _ => hK
    have hK1 : CelsAt _ env [("names", .ref nl)] := ⟨fun p hp => by rw [List.mem_singleton.mp hp]; exact hK.h _ (.head _)⟩
    clear hK
    have hK := (CelsAt.comp' hE2 hE hC hK1 (fun p hp => by rw [List.mem_singleton.mp hp]; with_unfolding_all rfl) (by kernel_rfl)).mono le
    clear hK1
    have hE := hE2
    have hnl := Heap.PlainList.keeps hnl le.keep
    have hnv := hnv.mono le
    have hx : (names false t)[i]? = some (names false t)[i] := List.getElem?_eq_getElem (by (first | lia | omega))
    generalize (names false t)[i] = x at hx
    have hxo : PyData.strOk x = true := names_ok hg.wide x (List.mem_of_getElem? hx)
    have hu : nvs[i]? = some nvs[i] := List.getElem?_eq_getElem hi
    generalize nvs[i] = u at hu
    obtain ⟨tx, rfl⟩ := rd_str (rds_get hnv (i := i) (d := .str x) (by simp [hx]) hu)
    have hnl2 : nvs.length ≤ 100000 := by (first | lia | omega)
    row_hasAny m_goX
    refine tests_one ?_
    row_hasAny m_goX
    rename Sat _ _ _ _ => hS
    refine ⟨_, _, nl, nvs, none, some (i : Int), hS, rfl, hS.list (.imm hnl), by (first | lia | omega), .none, .int _ _, fun la c2 s2 l2 hS hla => ?_⟩
    have hsl : slicePick nvs.toArray none (some (i : Int)) none = _ := slicePick_upto' _ _
    have hla : c2.I.PlainList la (nvs.take i).toArray := by
      have e : slicePick nvs.toArray none (some (i : Int)) none = (nvs.take i).toArray := hsl
      rw [← e]; exact hla
    have htk : RDs c2 (((names false t).take i).map .str) (nvs.take i) := by
      refine rds_of (by simp [hnn]) fun j d u h1 h2 => ?_
      rw [List.map_take, List.getElem?_take] at h1
      rw [List.getElem?_take] at h2
      split at h1
      · rename_i hj
        rw [if_pos hj] at h2
        exact (rds_get hnv h1 h2).mono l2
      · cases h1
    have hlay : PyData.canLayAll0 (((names false t).take i).map .str) = true := canLayAll_of fun z hz => by
      obtain ⟨y, hy, rfl⟩ := List.mem_map.mp hz
      simpa [PyData.canLay0] using names_ok hg.wide y (List.mem_of_mem_take hy)
    refine ninLs (d := .str x) hS hR hla.isList htk rd_s hlay (by simpa [PyData.canLay0] using hxo) (by simp [PyData.depth]) ?_
    rw [any_strs]
    rename CelsAt _ _ _ => hK
    have hK := hK.mono l2
    have hnl := Heap.PlainList.keeps hnl l2.keep
    have huq : uq (names false t) (i + 1) = uq (names false t) i ++ (if x ∈ (names false t).take i then [] else [x]) := by rw [uq, hx]
    row_hasAny m_goX
    refine ifb (fun h1 => ?_) (fun h1 => ?_)
    · have h1 : x ∉ (names false t).take i := by simpa using h1
      row_hasAny m_goX
      rename Sat _ _ _ _ => hS
      refine ⟨c2, _, [], l2, ⟨rfl, ?_⟩, hS⟩
      rw [huq, if_neg h1, List.map_append]
      exact rds_append (hys.mono l2) (rds_one rd_s)
    · have h1 : x ∈ (names false t).take i := by simpa using h1
      rename Sat _ _ _ _ => hS
      refine ⟨c2, _, [], l2, ⟨rfl, ?_⟩, hS⟩
      rw [huq, if_pos h1, List.append_nil]
      exact hys.mono l2
  · rintro c7 ys U' D s7 l7 ⟨rfl, hys⟩ hS
    replace hS : Sat w c7 (_ :: .ls D ys :: _) s7 := hS
    obtain ⟨c8, l8, hS, hD⟩ := hS.freeze (p := .ls D ys) (.tail .head)
    rename CelsAt _ _ _ => hK
    have hK := hK.mono (l7.trans l8)
    rw [hnn] at hys
    row_hasAny m_goX
    rename Sat _ _ _ _ => hS
    have hok : ∀ x ∈ uq (names false t) (names false t).length, PyData.strOk x = true := fun x hx => names_ok hg.wide x (uq_mem hx)
    refine neD hS hR (rd_mkl (Heap.PlainList.keeps ha6 (l7.trans l8).keep).isList (hy6.mono (l7.trans l8))) (rd_mkl hD.isList (hys.mono l8)) (shaped_strs hok) (shaped_strs hok) ?_
    rw [eqv_self (plain_strs _), show (!true) = false from rfl]
    row_hasAny m_goS
    rename Sat _ _ _ _ => hS
    rename CelsAt _ _ _ => hK
    repeat row_hasAny m_out
    exact k c8 _ (.ref nl) ((((l1.trans l2).trans l25).trans l6).trans (l7.trans l8)) hS hK

/-! the other tree, the end -/
set_option maxHeartbeats 4000000 in
theorem lawG {w : World} {A : Around} {c : Ctx} {V : List Cell} {s : Shared} {env : Env} {n : Nat} {sc tb rb pl vl : Addr} {xs : List Value} {t : T} {nl tv v : Value} {nv : Option Value} (hE : FrOk w env nm317 gl317) (hR : Room A (n + 20))
    (hS : Sat w c (.ns env.locals (fm nm317 [some (.ref sc), some tv, some (.ref tb), nv, some (.ref rb), some v, none]) :: il pl xs :: V) s) (hK : CelsAt c env [("names", nl), ("values", .ref vl), ("pool", .ref pl)]) (hP : PoolOk c xs) (ht : IsL c t tv) (hg : Gt 4 t) (hv : IsV w c t v) :
    wpAny (MM w) A (execs ((bodyAt w 317).drop 14) env) (Fin w c env.locals fun r _ _ => r = .bool true) (fun _ _ => False) s := by
  have hd := hg.dp
  row_hasAny m_open
  row_hasAny m_goX
  rename Sat _ _ _ _ => hS
  refine newLst hS (by simp) fun sp s hS => ?_
  have hS := (((hS.swap).toIl).perm (List.perm_middle (l₁ := [_, _])).symm)
  row_hasAny m_goX
  rename Sat _ _ _ _ => hS
  refine tree0 (fn269 w 2) (d := 2) (by decide) rfl hS hP (hR.less (by (first | lia | omega))) fun c1 s1 xs1 n1 tn1 o ov l1 hS hP hog hov => ?_
  have hod := hog.dp
  have ht := ht.mono l1
  have hv := hv.mono l1
  row_hasAny m_goX
  rename Sat _ _ _ _ => hS
  refine fn262 w o hS (hR.less (by (first | lia | omega))) hov hog.lk hog.wide (by decide) fun c2 s2 r2 l2 hS hr2 => ?_
  row_hasAny m_goX
  rename Sat _ _ _ _ => hS
  refine fn205 w t hS (hR.less (by (first | lia | omega))) (hv.mono l2) hr2 hg.wide hog.wide (by decide) (by decide) fun c3 s3 l3 hS => ?_
  row_hasAny m_goX
  rename Sat _ _ _ _ => hS
  refine eqD hS hR (ht.mono (l2.trans l3)) (hov.mono (l2.trans l3)) (shaped_T hg.wide (by (first | lia | omega))) (shaped_T hog.wide (by (first | lia | omega))) ?_
  refine neB ?_
  have e : (same t o != PyData.eqv t.toP o.toP) = false := by simp [same]
  rw [e]
  row_hasAny m_goX
  rename Sat _ _ _ _ => hS
  refine fn262 w t hS (hR.less (by (first | lia | omega))) (ht.mono (l2.trans l3)) hg.lk hg.wide (by decide) fun c4 s4 r4 l4 hS hr4 => ?_
  row_hasAny m_goX
  rename Sat _ _ _ _ => hS
  refine fn205 w t hS (hR.less (by (first | lia | omega))) (hv.mono ((l2.trans l3).trans l4)) hr4 hg.wide hg.wide (by decide) (by decide) fun c5 s5 l5 hS => ?_
  rw [same_refl]
  row_hasAny m_goX
  rename Sat _ _ _ _ => hS
  have l25 := (l2.trans l3).trans (l4.trans l5)
  refine fn219 w t hS (hR.less (by (first | lia | omega))) (hv.mono l25) hg.wide (by decide) fun c6 s6 tk6 l6 hS => ?_
  row_hasAny m_goX
  rename Sat _ _ _ _ => hS
  refine fn312 w t hS (hR.less (by (first | lia | omega))) (ht.mono (l25.trans l6)) hg.lk hg.wide (by decide) fun c7 s7 tk7 l7 hS => ?_
  row_hasAny m_goX
  rename Sat _ _ _ _ => hS
  refine ⟨c7, _, _, ((l1.trans l25).trans l6).trans l7, hS, ?_⟩
  simp [flv]
theorem gt1_w0 {t : T} (h : Gt 1 t) : W0 200 t ∧ deep t ≤ 1 := ⟨h.wide.w0.le (by decide), h.dp⟩
/-- the law -/
theorem fn317 {w : World} {A : Around} {c : Ctx} {s : Shared} {n : Nat} {sc : Addr} {vs0 : List Value} {R : Result → Shared → Prop} (hS : Sat w c [] s) (hR : Room A (n + 21)) (hl : c.I.IsList sc vs0.toArray) (hn : vs0.length ≤ 63) (hi : ∀ v ∈ vs0, IntV v)
    (k : ∀ c' V' s', c.Le c' → Sat w c' V' s' → R (.ok (.ret (.bool true))) s') : codeAny (MM w) A (.call (.ref 317) ⟨[.ref sc], []⟩) R s := by
  refine code_fnC (n := n + 20) (cn := ["names", "values", "pool"]) (cs := fun k => [("names", k + 2), ("values", k + 1), ("pool", k)]) (cm := fun _ => none) (vs := [some (.ref sc), none, none, none, none, none, none]) (binds := [("script", .ref sc)]) (Post := fun r _ _ => r = .bool true)
    (ok317 w) hS hR (by kernel_rfl) (fun k => by kernel_rfl) (fun _ => rfl) (by decide) ?_ ?_ ?_ ?_ ?_
  · intro x hx
    rw [List.mem_singleton.mp hx]
    exact .inl (by kernel_rfl)
  · unfold bindL bindL
    rw [if_pos (by kernel_rfl)]
    funext y
    by_cases q : y = "script"
    · subst q; rfl
    · simp only [fm, if_neg q]
      exact (fm_none ["tree", "table", "name", "real", "value", "other"] y).symm
  · unfold bindC bindC
    rw [if_pos (by kernel_rfl)]
  · intro env A' s' L hE hC hR hS
    refine lawA hE hC hR (n := n + 10) hS hl hn hi fun c1 s1 pl xs t tv vl vvs l1 hS hK hP hg ht hvl hvv => ?_
    refine lawB hE hR (n := n + 10) hS hK hP hvl hvv fun c2 s2 xs tb kn tk nv l2 hS hP hpar htk hkl => ?_
    refine lawC hE hC hR (n := n + 10) hS (hK.mono l2) hP (Heap.PlainList.keeps hvl l2.keep) (hvv.mono l2) hpar htk hkl fun c3 s3 xs rows rr l3 hS hP hrr => ?_
    refine lawD hE hR (n := n + 10) hS (hpar.mono fun t v h => h.mono l3) htk hkl hrr fun c4 s4 rb nv kvs kvs' l4 hS hLT hRT => ?_
    have l14 := (l2.trans l3).trans l4
    refine lawE hE hR hS (ht.mono l14) hg hLT hRT (fun x u h => gt1_w0 (htk _ (lookup_mem h)).1) (fun r h => ?_) fun c5 s5 v l5 hS hv => ?_
    · have h : rows = some r := h
      subst h
      obtain ⟨hro, _⟩ := hrr
      exact ⟨by have := hro.1; omega, fun p hp => ⟨(gt1_w0 (hro.2 p hp).1).1, (gt1_w0 (hro.2 p hp).1).2, (hro.2 p hp).2⟩⟩
    have l15 := l14.trans l5
    refine lawF hE hC hR hS (hK.mono l15) (ht.mono l15) hg hv fun c6 s6 nl l6 hS hK => ?_
    refine wpAny_mono (lawG hE hR hS hK (hP.mono ((l4.trans l5).trans l6)) (ht.mono (l15.trans l6)) hg (hv.mono l6)) (fun fl s7 x => x.mono (l1.trans (l15.trans l6))) fun _ _ x => x
  · rintro v c' V' s' l h rfl
    exact k c' V' s' l h
theorem ints_v {vs : List Value} {ns : List Int} (h : IntsAre vs ns) : vs.length = ns.length ∧ ∀ v ∈ vs, IntV v := by
  induction h with
  | nil => exact ⟨rfl, fun _ h => nomatch h⟩
  | cons _ _ _ ih => exact ⟨by simp [ih.1], fun v hv => by
      rcases List.mem_cons.mp hv with rfl | hv
      · exact ⟨_, _, rfl⟩
      · exact ih.2 v hv⟩
set_option maxHeartbeats 8000000 in
theorem lawHolds : PySem.Challenge.rw_no0503_01.Holds := hd (by
  intro w s₀ s₁ mg mb G Y fa o pm cd doc dV kV ho hd' hcd hD hmg hg args vals as hpre hlay hrd hwl hlo
  have KX : (KK w).In s₁.heap := kIn_of Y
  have T := G.T
  have hfa : fa = 317 := by
    have h1 := mg_of KX T.g (n := "law") (v := .ref 317) (by kernel_rfl)
    have h2 : mg "law" = some (.ref fa) := hmg
    rw [h2] at h1
    cases h1; rfl
  clear hD hcd hd' ho Y
  wrow_args hpre hlay hrd hwl hlo
  rename Heap.IsList _ _ _ => hL
  rename IntsAre _ _ => hI
  rename ¬ _ => hcn
  subst hfa
  have hiv := ints_v hI
  have hS : Sat w ⟨s₁.heap, [], s₁.gens, s₁.drawn, s₁.os⟩ [] s₁ := ⟨⟨KX, ⟨mg, T.g⟩, ⟨mb, T.b, T.builtins⟩, T.nolimit⟩, fun _ _ e => e, (fun _ hp => nomatch hp), (fun _ hp => nomatch hp), (fun _ hp => nomatch hp), (fun _ hp => nomatch hp), (fun _ hp => nomatch hp), List.Pairwise.nil, rfl, rfl, rfl⟩
  have hR : Room callerA (19 + 21) := ⟨rfl, by decide, by decide⟩
  refine wpAny_call (fn317 hS hR hL (by have := hiv.1; omega) hiv.2 fun c' V' s' le hS' => ?_)
  have hgens : s'.gens = #[] := hS'.gens.trans (le.same.1.trans hg)
  have hos : s'.os = s₁.os := hS'.os.trans le.same.2
  have hkeep : ∀ b o, s₁.heap.get? b = some o → s'.heap.get? b = some o := fun b o e => hS'.keep b o (le.keep b o e)
  refine ⟨.inl ⟨_, .bool true, [], rfl, fun _ => rfl, .bool true, ?_, unshared_nil⟩, .of_keep hkeep, hos, .of_eq hgens⟩
  exact postW_of rfl (w_eq_bool (w_res rfl) w_lit) (by decide))
end Mine
theorem PySem.Challenge.cw_no0503_01_holds : PySem.Challenge.rw_no0503_01.Holds := by
  exact Mine.lawHolds
