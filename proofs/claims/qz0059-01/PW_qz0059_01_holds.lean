import PyProof.Rows.All
import Wide.All
import OpenK.AllK
import Wide.FinOn
import KE.KSortTup
import PyProof.IsiH_list
import PyProof.DictUpdate
import PyProof.ListNew
import PyProof.AttrMissHeap
import KE.KDictOf
import KE.LcSums
import KE.KEqDict
import PyProof.ExcBaseAll.Exception
import Lean
import PySem.Challenge.RW_qz0059_01
set_option Elab.async false
set_option maxRecDepth 100000
set_option linter.unusedVariables false
set_option maxHeartbeats 8000000
namespace Mine
open PySem PySem.W PyProof.Rows PySem.Calls

/-- the fixed part of the whole law -/
structure Wd where
  prog : Program
  w : World
  K : Frag
  p : Program
  loose : List Str
  mean : ExcName → Option Value
  mg : Str → Option Value
  mb : Str → Option Value
  B : Heap
  /-- the code tables that lambdas fill: the table, the code object whose it is, the places -/
  tabs : List (Addr × Addr × List (Pos × Str))

noncomputable abbrev Loc := List (Str × Value)
noncomputable def mget : Loc → Str → Option Value
  | [], _ => none
  | (y, v) :: r, x => if x = y then some v else mget r x

inductive FieldsAre : List DictEntry → List (Str × Value) → Prop
  | nil : FieldsAre [] []
  | cons {h : Int} {x : Str} {t : Tok} {v : Value} {es : List DictEntry} {fs : List (Str × Value)} : FieldsAre es fs → FieldsAre (⟨h, .str x t, v⟩ :: es) ((x, v) :: fs)

inductive Asn where
  | list (vs : List Value)
  | dict (kvs : List (Int × Value))
  | inst (C dx : Addr) (fs : List (Str × Value))
  | cell (v : Option Value)
  | raw (P : Obj → Prop)

noncomputable def Asn.foot (a : Addr) : Asn → List Addr
  | .inst _ dx _ => [a, dx]
  | _ => [a]

noncomputable def Asn.At (W : Wd) (h : Heap) (a : Addr) : Asn → Prop
  | .list vs => ∃ n, h.get? a = some (listOf vs.toArray n)
  | .dict kvs => (a == sysModules) = false ∧ h.DictOf (intKind W.prog W.w) a kvs
  | .inst C dx fs => ∃ es n, h.get? a = some (instObj C dx) ∧ h.get? dx = some (dictOf es n) ∧ FieldsAre es fs
  | .cell v => h.IsCell a v
  | .raw P => ∃ o, h.get? a = some o ∧ P o

theorem Asn.At.same {W : Wd} {h h' : Heap} {a : Addr} {x : Asn} (H : x.At W h a) (e : ∀ b ∈ x.foot a, ∀ o, h.get? b = some o → h'.get? b = some o) : x.At W h' a := by
  cases x with
  | list vs => obtain ⟨n, ho⟩ := H; exact ⟨n, e a (by simp [Asn.foot]) _ ho⟩
  | dict kvs => obtain ⟨hs, o, es, ep, ho, r⟩ := H; exact ⟨hs, o, es, ep, e a (by simp [Asn.foot]) _ ho, r⟩
  | inst C dx fs => obtain ⟨es, n, h1, h2, h3⟩ := H; exact ⟨es, n, e a (by simp [Asn.foot]) _ h1, e dx (by simp [Asn.foot]) _ h2, h3⟩
  | cell v => obtain ⟨o, ho, r⟩ := H; exact ⟨o, e a (by simp [Asn.foot]) _ ho, r⟩
  | raw P => obtain ⟨o, ho, r⟩ := H; exact ⟨o, e a (by simp [Asn.foot]) _ ho, r⟩

theorem Asn.At.lives {W : Wd} {h : Heap} {a : Addr} {x : Asn} (H : x.At W h a) : ∀ b ∈ x.foot a, ∃ o, h.get? b = some o := by
  cases x with
  | list vs => obtain ⟨n, ho⟩ := H; intro b hb; simp [Asn.foot] at hb; exact ⟨_, hb ▸ ho⟩
  | dict kvs => obtain ⟨_, o, es, ep, ho, r⟩ := H; intro b hb; simp [Asn.foot] at hb; exact ⟨o, hb ▸ ho⟩
  | inst C dx fs =>
    obtain ⟨es, n, h1, h2, h3⟩ := H; intro b hb; simp [Asn.foot] at hb
    rcases hb with rfl | rfl
    · exact ⟨_, h1⟩
    · exact ⟨_, h2⟩
  | cell v => obtain ⟨o, ho, _⟩ := H; intro b hb; simp [Asn.foot] at hb; exact ⟨o, hb ▸ ho⟩
  | raw P => obtain ⟨o, ho, _⟩ := H; intro b hb; simp [Asn.foot] at hb; exact ⟨o, hb ▸ ho⟩

noncomputable abbrev Mu := List (Addr × Asn)
noncomputable abbrev foots (mu : Mu) : List Addr := mu.flatMap fun p => p.2.foot p.1

noncomputable def TabInv (T : List (Addr × Addr × List (Pos × Str))) (z h : Heap) : Prop :=
  ∀ t ∈ T, z.get? t.1 = none ∧ ∃ ps : Array Value, h.get? t.1 = some (tabObj ps) ∧ TriplesOk ps.toList ∧
    ∀ q ∈ t.2.2, codeAmong q.1 ps.toList = none ∨ ∃ c', codeAmong q.1 ps.toList = some (.ref c') ∧ z.CodeRec (.ref c') q.2

theorem TabInv.mono {T : List (Addr × Addr × List (Pos × Str))} {z z' h h' : Heap} (x : TabInv T z h) (hz : z.StaysIn z') (hn : ∀ t ∈ T, z'.get? t.1 = none)
    (hh : ∀ t ∈ T, ∀ o, h.get? t.1 = some o → h'.get? t.1 = some o) : TabInv T z' h' := fun t ht => by
  obtain ⟨_, ps, h1, h2, h3⟩ := x t ht
  exact ⟨hn t ht, ps, hh t ht _ h1, h2, fun q hq => (h3 q hq).imp id fun ⟨c', a, b⟩ => ⟨c', a, b.keeps hz⟩⟩

/-- what stands in the base, and stays -/
structure Base (W : Wd) (z : Heap) : Prop where
  K : W.K.In z
  top : Top W.p W.loose W.mean W.mg W.mb z
  heads : ∀ t ∈ W.tabs, CodeHd z t.2.1 t.1
theorem Base.keeps {W : Wd} {z z' : Heap} (B : Base W z) (h : z.StaysIn z') : Base W z' := ⟨B.K.keeps h, B.top.keeps h, fun t ht => (B.heads t ht).keeps h⟩

structure Room (n : Nat) (A : Around) : Prop where
  handled : A.handled = none
  depth : A.depth + 2 * n < 1000
  units : A.units + 20 * n < 9900
theorem Room.less {n m : Nat} {A : Around} (R : Room n A) (h : m ≤ n) : Room m A := ⟨R.handled, by have := R.depth; omega, by have := R.units; omega⟩

structure Ctx where
  A : Around
  L : Addr
  z₀ : Heap
  s₀ : Shared
  bm : List Addr
  E : Value → Shared → Prop

structure St where
  m : Loc
  mu : Mu
  z : Heap

noncomputable abbrev Ctx.n (Γ : Ctx) : Nat := Γ.s₀.heap.objs.size

structure Coh (W : Wd) (Γ : Ctx) (σ : St) (s : Shared) : Prop where
  rest : s = { Γ.s₀ with heap := s.heap, toks := s.toks }
  ns : s.heap.Ns Γ.L (mget σ.m)
  Lnew : Γ.n ≤ Γ.L
  keep : ∀ b o, b ∉ Γ.bm → b ∉ W.tabs.map (·.1) → Γ.s₀.heap.get? b = some o → s.heap.get? b = some o
  zle : σ.z.StaysIn s.heap
  z0 : Γ.z₀.StaysIn σ.z
  zgrow : ∀ b o, σ.z.get? b = some o → (∃ o', Γ.z₀.get? b = some o') ∨ Γ.n ≤ b
  zL : σ.z.get? Γ.L = none
  mu : ∀ p ∈ σ.mu, p.2.At W s.heap p.1
  muz : ∀ a ∈ foots σ.mu, σ.z.get? a = none ∧ a ≠ Γ.L ∧ a ∉ W.tabs.map (·.1)
  munew : ∀ a ∈ foots σ.mu, a ∈ Γ.bm ∨ Γ.n ≤ a
  mund : (foots σ.mu).Nodup
  tabs : TabInv W.tabs σ.z s.heap
  tlow : ∀ t ∈ W.tabs, t.1 < Γ.n
  Bz : W.B.StaysIn Γ.z₀
  Bn : W.B.objs.size ≤ Γ.n

noncomputable def Sat (W : Wd) (Γ : Ctx) {α : Type} (t : Sem α) (k : α → St → Prop) (σ : St) : Prop :=
  ∀ s, Coh W Γ σ s → wpAny (model W.prog W.w) Γ.A t (fun a s' => ∃ σ', Coh W Γ σ' s' ∧ k a σ') Γ.E s

section coh
variable {W : Wd} {Γ : Ctx} {σ : St} {s : Shared}

theorem Coh.ltL (c : Coh W Γ σ s) : Γ.L < s.heap.objs.size := c.ns.lt
theorem Coh.size (c : Coh W Γ σ s) : Γ.n ≤ s.heap.objs.size := Nat.le_trans c.Lnew (Nat.le_of_lt c.ltL)
theorem Coh.tlt (c : Coh W Γ σ s) {t : Addr} (h : t ∈ W.tabs.map (·.1)) : t < Γ.n := by
  obtain ⟨p, hp, rfl⟩ := List.mem_map.mp h; exact c.tlow p hp
theorem Coh.Ltab (c : Coh W Γ σ s) : Γ.L ∉ W.tabs.map (·.1) := fun h => absurd (c.tlt h) (Nat.not_lt.mpr c.Lnew)
theorem Coh.mulive (c : Coh W Γ σ s) {a : Addr} (h : a ∈ foots σ.mu) : ∃ o, s.heap.get? a = some o := by
  obtain ⟨p, hp, ha⟩ := List.mem_flatMap.mp h
  exact (c.mu p hp).lives a ha
theorem Coh.mult (c : Coh W Γ σ s) {a : Addr} (h : a ∈ foots σ.mu) : a < s.heap.objs.size := let ⟨_, ho⟩ := c.mulive h; Heap.lt_size ho
theorem Coh.Bh (c : Coh W Γ σ s) : W.B.StaysIn s.heap := fun b o e => c.zle b o (c.z0 b o (c.Bz b o e))
theorem Coh.base (c : Coh W Γ σ s) (B : Base W W.B) : Base W s.heap := B.keeps c.Bh
theorem Coh.basez (c : Coh W Γ σ s) (B : Base W W.B) : Base W σ.z := B.keeps fun b o e => c.z0 b o (c.Bz b o e)
theorem Coh.F (c : Coh W Γ σ s) : Fr W.B Γ.L s.heap (mget σ.m) := ⟨c.ns, c.Bh, Nat.le_trans c.Bn c.Lnew⟩
/-- the whole ledger -/
noncomputable def led (B h : Heap) (L : Addr) : List (Addr × Obj) := (List.range h.objs.size).filterMap fun a => if a = L ∨ (B.get? a).isSome = true then none else (h.get? a).map fun o => (a, o)
theorem led_mem {B h : Heap} {L b : Addr} {o : Obj} (hL : b ≠ L) (hB : B.get? b = none) (e : h.get? b = some o) : (b, o) ∈ led B h L :=
  List.mem_filterMap.mpr ⟨b, List.mem_range.mpr (Heap.lt_size e), by rw [if_neg (by simp [hL, hB]), e]; rfl⟩
theorem led_of {B h : Heap} {L : Addr} {p : Addr × Obj} (hp : p ∈ led B h L) : h.get? p.1 = some p.2 ∧ p.1 ≠ L ∧ B.get? p.1 = none := by
  obtain ⟨a, _, ha⟩ := List.mem_filterMap.mp hp
  split at ha
  · cases ha
  · rename_i hn
    obtain ⟨o, ho, e⟩ := Option.map_eq_some_iff.mp ha
    rw [← e]
    refine ⟨ho, fun q => hn (.inl q), ?_⟩
    cases q : B.get? a with
    | none => rfl
    | some o' => exact absurd (.inr (by rw [q]; rfl)) hn
theorem Coh.N (c : Coh W Γ σ s) : News W.B Γ.L s.heap (led W.B s.heap Γ.L) := fun p hp => led_of hp

/-- a change of tokens -/
theorem Coh.toks (c : Coh W Γ σ s) (t : Nat) : Coh W Γ σ { s with toks := t } :=
  ⟨by have := c.rest; rw [this], c.ns, c.Lnew, c.keep, c.zle, c.z0, c.zgrow, c.zL, c.mu, c.muz, c.munew, c.mund, c.tabs, c.tlow, c.Bz, c.Bn⟩

/-- the heap turns at addresses of no account -/
theorem Coh.turn (c : Coh W Γ σ s) {h' : Heap} {tk : Nat} (x : List Addr) (hx : ∀ a ∈ x, Γ.n ≤ a ∧ a ≠ Γ.L ∧ a ∉ foots σ.mu ∧ σ.z.get? a = none)
    (hk : ∀ b o, b ∉ x → s.heap.get? b = some o → h'.get? b = some o) : Coh W Γ σ { s with heap := h', toks := tk } where
  rest := by have := c.rest; rw [this]
  ns := by
    obtain ⟨o, es, ep, ho, r⟩ := c.ns
    exact ⟨o, es, ep, hk _ _ (fun h => (hx _ h).2.1 rfl) ho, r⟩
  Lnew := c.Lnew
  keep := fun b o hb ht e => hk b o (fun h => absurd (Heap.lt_size e) (Nat.not_lt.mpr (hx b h).1)) (c.keep b o hb ht e)
  zle := fun b o e => hk b o (fun h => by have := (hx b h).2.2.2; rw [e] at this; cases this) (c.zle b o e)
  z0 := c.z0
  zgrow := c.zgrow
  zL := c.zL
  mu := fun p hp => (c.mu p hp).same fun b hb o e => hk b o (fun h => (hx b h).2.2.1 (List.mem_flatMap.mpr ⟨p, hp, hb⟩)) e
  muz := c.muz
  munew := c.munew
  mund := c.mund
  tabs := c.tabs.mono (fun _ _ e => e) (fun t ht => (c.tabs t ht).1) fun t ht o e => hk _ _ (fun h => absurd (c.tlow t ht) (Nat.not_lt.mpr (hx _ h).1)) e
  tlow := c.tlow
  Bz := c.Bz
  Bn := c.Bn
theorem Coh.ext (c : Coh W Γ σ s) {h' : Heap} {tk : Nat} (hk : ∀ b o, s.heap.get? b = some o → h'.get? b = some o) : Coh W Γ σ { s with heap := h', toks := tk } :=
  c.turn [] (fun _ h => nomatch h) fun b o _ e => hk b o e

/-- a new mutable object at the fresh addresses -/
theorem Coh.alloc {m : Loc} {mu : Mu} {z : Heap} (c : Coh W Γ ⟨m, mu, z⟩ s) {h' : Heap} {tk : Nat} {a : Addr} {x : Asn} (hk : ∀ b o, s.heap.get? b = some o → h'.get? b = some o) (hx : x.At W h' a)
    (hf : ∀ b ∈ x.foot a, s.heap.objs.size ≤ b) (hn : (x.foot a).Nodup) : Coh W Γ ⟨m, (a, x) :: mu, z⟩ { s with heap := h', toks := tk } := by
  have c' := c.ext (tk := tk) hk
  have zn : ∀ b ∈ x.foot a, z.get? b = none := fun b hb => by
    cases e : z.get? b with
    | none => rfl
    | some o => exact absurd (Heap.lt_size (c.zle b o e)) (Nat.not_lt.mpr (hf b hb))
  exact { c' with
    mu := fun p hp => by
      rcases List.mem_cons.mp hp with rfl | hp
      · exact hx
      · exact c'.mu p hp
    muz := fun b hb => by
      rcases List.mem_append.mp (by simpa [foots] using hb : b ∈ x.foot a ++ foots mu) with hb | hb
      · refine ⟨zn b hb, fun e => ?_, fun ht => ?_⟩
        · have := hf b hb; rw [e] at this; exact absurd c.ltL (Nat.not_lt.mpr this)
        · exact absurd (c.tlt ht) (Nat.not_lt.mpr (Nat.le_trans c.size (hf b hb)))
      · exact c'.muz b hb
    munew := fun b hb => by
      rcases List.mem_append.mp (by simpa [foots] using hb : b ∈ x.foot a ++ foots mu) with hb | hb
      · exact .inr (Nat.le_trans c.size (hf b hb))
      · exact c'.munew b hb
    mund := by
      show (x.foot a ++ foots mu).Nodup
      refine List.nodup_append.mpr ⟨hn, c.mund, fun b hb d hd e => ?_⟩
      exact absurd (c.mult (a := d) hd) (Nat.not_lt.mpr (e ▸ hf b hb)) }

/-- one mutable object turns -/
theorem Coh.updL {m : Loc} {pre post : Mu} {z : Heap} {a : Addr} {x y : Asn} (c : Coh W Γ ⟨m, pre ++ (a, x) :: post, z⟩ s) {h' : Heap} {tk : Nat} (hf : y.foot a = x.foot a) (hn : h'.Ns Γ.L (mget m))
    (hk : ∀ b o, b ≠ Γ.L → b ∉ x.foot a → s.heap.get? b = some o → h'.get? b = some o) (hy : y.At W h' a) : Coh W Γ ⟨m, pre ++ (a, y) :: post, z⟩ { s with heap := h', toks := tk } := by
  have hfo : foots (pre ++ (a, y) :: post) = foots (pre ++ (a, x) :: post) := by simp [foots, hf]
  have hin : ∀ b ∈ x.foot a, b ∈ foots (pre ++ (a, x) :: post) := fun b hb => List.mem_flatMap.mpr ⟨(a, x), by simp, hb⟩
  have nd := c.mund
  have nd' : (foots pre ++ (x.foot a ++ foots post)).Nodup := by simpa [foots] using nd
  rw [List.nodup_append, List.nodup_append] at nd'
  exact {
    rest := by have := c.rest; rw [this]
    ns := hn
    Lnew := c.Lnew
    keep := fun b o hb ht e => hk b o (fun h => absurd (Heap.lt_size e) (Nat.not_lt.mpr (h ▸ c.Lnew))) (fun h => by
      rcases c.munew _ (hin _ h) with q | q
      · exact hb q
      · exact absurd (Heap.lt_size e) (Nat.not_lt.mpr q)) (c.keep b o hb ht e)
    zle := fun b o e => hk b o (fun h => by have := c.zL; rw [← h, e] at this; cases this) (fun h => by have := (c.muz _ (hin _ h)).1; rw [e] at this; cases this) (c.zle b o e)
    z0 := c.z0
    zgrow := c.zgrow
    zL := c.zL
    mu := fun p hp => by
      rcases List.mem_append.mp hp with hp | hp
      · refine (c.mu p (List.mem_append_left _ hp)).same fun b hb o e => hk b o ((c.muz b (List.mem_flatMap.mpr ⟨p, List.mem_append_left _ hp, hb⟩)).2.1) (fun h => ?_) e
        exact nd'.2.2 b (List.mem_flatMap.mpr ⟨p, hp, hb⟩) b (List.mem_append_left _ h) rfl
      · rcases List.mem_cons.mp hp with rfl | hp
        · exact hy
        · refine (c.mu p (List.mem_append_right _ (.tail _ hp))).same fun b hb o e => hk b o ((c.muz b (List.mem_flatMap.mpr ⟨p, List.mem_append_right _ (.tail _ hp), hb⟩)).2.1) (fun h => ?_) e
          exact nd'.2.1.2.2 b h b (List.mem_flatMap.mpr ⟨p, hp, hb⟩) rfl
    muz := fun b hb => c.muz b (hfo ▸ hb)
    munew := fun b hb => c.munew b (hfo ▸ hb)
    mund := by show (foots _).Nodup; rw [hfo]; exact nd
    tabs := c.tabs.mono (fun _ _ e => e) (fun t ht => (c.tabs t ht).1) fun t ht o e => hk _ _ (fun h => c.Ltab (h ▸ List.mem_map.mpr ⟨t, ht, rfl⟩)) (fun h => (c.muz _ (hin _ h)).2.2 (List.mem_map.mpr ⟨t, ht, rfl⟩)) e
    tlow := c.tlow
    Bz := c.Bz
    Bn := c.Bn }

theorem Coh.upd {m : Loc} {pre post : Mu} {z : Heap} {a : Addr} {x y : Asn} (c : Coh W Γ ⟨m, pre ++ (a, x) :: post, z⟩ s) {h' : Heap} {tk : Nat} (hf : y.foot a = x.foot a)
    (hk : ∀ b o, b ∉ x.foot a → s.heap.get? b = some o → h'.get? b = some o) (hy : y.At W h' a) : Coh W Γ ⟨m, pre ++ (a, y) :: post, z⟩ { s with heap := h', toks := tk } := by
  refine c.updL hf ?_ (fun b o _ => hk b o) hy
  have hin : ∀ b ∈ x.foot a, b ∈ foots (pre ++ (a, x) :: post) := fun b hb => List.mem_flatMap.mpr ⟨(a, x), by simp, hb⟩
  obtain ⟨o, es, ep, ho, r⟩ := c.ns
  exact ⟨o, es, ep, hk _ _ (fun h => (c.muz _ (hin _ h)).2.1 rfl) ho, r⟩

/-- the frame's names turn -/
theorem Coh.store {m m' : Loc} {mu : Mu} {z : Heap} (c : Coh W Γ ⟨m, mu, z⟩ s) {h' : Heap} {tk : Nat} (hn : h'.Ns Γ.L (mget m')) (hs : ∀ b o, b ≠ Γ.L → s.heap.get? b = some o → h'.get? b = some o) :
    Coh W Γ ⟨m', mu, z⟩ { s with heap := h', toks := tk } where
  rest := by have := c.rest; rw [this]
  ns := hn
  Lnew := c.Lnew
  keep := fun b o hb ht e => hs b o (fun h => absurd (Heap.lt_size e) (Nat.not_lt.mpr (h ▸ c.Lnew))) (c.keep b o hb ht e)
  zle := fun b o e => hs b o (fun h => by have := c.zL; rw [← h, e] at this; cases this) (c.zle b o e)
  z0 := c.z0
  zgrow := c.zgrow
  zL := c.zL
  mu := fun p hp => (c.mu p hp).same fun b hb o e => hs b o ((c.muz b (List.mem_flatMap.mpr ⟨p, hp, hb⟩)).2.1) e
  muz := c.muz
  munew := c.munew
  mund := c.mund
  tabs := c.tabs.mono (fun _ _ e => e) (fun t ht => (c.tabs t ht).1) fun t ht o e => hs _ _ (fun h => c.Ltab (h ▸ List.mem_map.mpr ⟨t, ht, rfl⟩)) e
  tlow := c.tlow
  Bz := c.Bz
  Bn := c.Bn

/-- back from a ledger -/
theorem Coh.viaNews {m : Loc} {mu : Mu} {z : Heap} (c : Coh W Γ ⟨m, mu, z⟩ s) {h' : Heap} {tk : Nat} {news : List (Addr × Obj)} (F' : Fr W.B Γ.L h' (mget m)) (N' : News W.B Γ.L h' news)
    (hs : ∀ p ∈ led W.B s.heap Γ.L, p ∈ news) : Coh W Γ ⟨m, mu, z⟩ { s with heap := h', toks := tk } := by
  refine c.store F'.ns fun b o hb e => ?_
  cases q : W.B.get? b with
  | some o' =>
    have := c.Bh b o' q
    rw [e] at this; cases this
    exact F'.keep b o q
  | none => exact (N' (b, o) (hs _ (led_mem hb q e))).1

/-- an object at hand is taken in -/
theorem Coh.adopt {m : Loc} {mu : Mu} {z : Heap} (c : Coh W Γ ⟨m, mu, z⟩ s) {a : Addr} {x : Asn} (hx : x.At W s.heap a) (hf : ∀ b ∈ x.foot a, z.get? b = none ∧ b ≠ Γ.L ∧ b ∉ foots mu ∧ Γ.n ≤ b) (hn : (x.foot a).Nodup) :
    Coh W Γ ⟨m, (a, x) :: mu, z⟩ s :=
  { c with
    mu := fun p hp => by
      rcases List.mem_cons.mp hp with rfl | hp
      · exact hx
      · exact c.mu p hp
    muz := fun b hb => by
      rcases List.mem_append.mp (by simpa [foots] using hb : b ∈ x.foot a ++ foots mu) with hb | hb
      · exact ⟨(hf b hb).1, (hf b hb).2.1, fun ht => absurd (c.tlt ht) (Nat.not_lt.mpr (hf b hb).2.2.2)⟩
      · exact c.muz b hb
    munew := fun b hb => by
      rcases List.mem_append.mp (by simpa [foots] using hb : b ∈ x.foot a ++ foots mu) with hb | hb
      · exact .inr (hf b hb).2.2.2
      · exact c.munew b hb
    mund := by
      show (x.foot a ++ foots mu).Nodup
      exact List.nodup_append.mpr ⟨hn, c.mund, fun b hb d hd e => (hf b hb).2.2.1 (e ▸ hd)⟩ }
/-- what is fresh -/
theorem Coh.fresh (c : Coh W Γ σ s) {b : Addr} (hb : s.heap.objs.size ≤ b) : σ.z.get? b = none ∧ b ≠ Γ.L ∧ b ∉ foots σ.mu ∧ Γ.n ≤ b := by
  refine ⟨?_, fun e => absurd c.ltL (Nat.not_lt.mpr (e ▸ hb)), fun h => absurd (c.mult h) (Nat.not_lt.mpr hb), Nat.le_trans c.size hb⟩
  cases e : σ.z.get? b with
  | none => rfl
  | some o => exact absurd (Heap.lt_size (c.zle b o e)) (Nat.not_lt.mpr hb)

/-- mutable objects are forgotten, or taken in another order -/
theorem Coh.perm {m : Loc} {mu mu' : Mu} {z : Heap} (c : Coh W Γ ⟨m, mu, z⟩ s) (hs : ∀ p ∈ mu', p ∈ mu) (hn : (foots mu').Nodup) : Coh W Γ ⟨m, mu', z⟩ s := by
  have hf : ∀ a ∈ foots mu', a ∈ foots mu := fun a ha => by
    obtain ⟨p, hp, h⟩ := List.mem_flatMap.mp ha
    exact List.mem_flatMap.mpr ⟨p, hs p hp, h⟩
  exact { c with mu := fun p hp => c.mu p (hs p hp), muz := fun a ha => c.muz a (hf a ha), munew := fun a ha => c.munew a (hf a ha), mund := hn }
theorem Coh.drop {m : Loc} {pre post : Mu} {p : Addr × Asn} {z : Heap} (c : Coh W Γ ⟨m, pre ++ p :: post, z⟩ s) : Coh W Γ ⟨m, pre ++ post, z⟩ s := by
  refine c.perm (fun q hq => ?_) ?_
  · rcases List.mem_append.mp hq with h | h
    · exact List.mem_append_left _ h
    · exact List.mem_append_right _ (.tail _ h)
  · have := c.mund
    simp only [foots, List.flatMap_append, List.flatMap_cons, List.nodup_append] at this ⊢
    exact ⟨this.1, this.2.1.2.1, fun a ha b hb => this.2.2 a ha b (List.mem_append_right _ hb)⟩

/-- the frozen part grown by some addresses -/
theorem restrict (z h : Heap) (hz : z.StaysIn h) (as : List Addr) : ∃ z' : Heap, z.StaysIn z' ∧ z'.StaysIn h ∧ (∀ a ∈ as, ∀ o, h.get? a = some o → z'.get? a = some o) ∧
    (∀ b o, z'.get? b = some o → z.get? b = some o ∨ b ∈ as) := by
  refine ⟨hideAll h ((List.range h.objs.size).filter fun b => (z.get? b).isNone && !as.contains b), fun b o e => hideAll_get _ (hz b o e) fun hm => ?_, fun b o e => of_hideAll _ e, fun a ha o e => hideAll_get _ e fun hm => ?_, fun b o e => ?_⟩
  · have := (List.mem_filter.mp hm).2; rw [e] at this; simp at this
  · have := (List.mem_filter.mp hm).2; simp [ha] at this
  · by_cases hb : b ∈ as
    · exact .inr hb
    · left
      cases q : z.get? b with
      | some o' => have := hz b o' q; rw [of_hideAll _ e] at this; rw [this]
      | none =>
        exfalso
        have hm : b ∈ (List.range h.objs.size).filter fun b => (z.get? b).isNone && !as.contains b := List.mem_filter.mpr ⟨List.mem_range.mpr (Heap.lt_size (of_hideAll _ e)), by simp [q, hb]⟩
        rw [hideAll_none _ hm] at e; cases e

/-- a mutable object is frozen -/
theorem Coh.freeze {m : Loc} {pre post : Mu} {z : Heap} {a : Addr} {x : Asn} (c : Coh W Γ ⟨m, pre ++ (a, x) :: post, z⟩ s) (hb : ∀ b ∈ x.foot a, Γ.n ≤ b) : ∃ z', z.StaysIn z' ∧ x.At W z' a ∧ Coh W Γ ⟨m, pre ++ post, z'⟩ s := by
  obtain ⟨z', h1, h2, h3, h4⟩ := restrict z s.heap c.zle (x.foot a)
  have hin : ∀ b ∈ x.foot a, b ∈ foots (pre ++ (a, x) :: post) := fun b hb => List.mem_flatMap.mpr ⟨(a, x), by simp, hb⟩
  have at' : x.At W s.heap a := c.mu (a, x) (by simp)
  have nd' : (foots pre ++ (x.foot a ++ foots post)).Nodup := by simpa [foots] using c.mund
  rw [List.nodup_append, List.nodup_append] at nd'
  have zn : ∀ b, z.get? b = none → b ∉ x.foot a → z'.get? b = none := fun b e hb => by
    cases q : z'.get? b with
    | none => rfl
    | some o => rcases h4 b o q with h | h
                · rw [e] at h; cases h
                · exact absurd h hb
  have cd := c.drop
  refine ⟨z', h1, at'.same fun b hb o e => h3 b hb o e, ?_⟩
  exact { cd with
    zle := h2
    z0 := fun b o e => h1 b o (c.z0 b o e)
    zgrow := fun b o e => by
      rcases h4 b o e with h | h
      · exact c.zgrow b o h
      · exact .inr (hb b h)
    zL := zn _ c.zL fun h => (c.muz _ (hin _ h)).2.1 rfl
    muz := fun b hb => by
      have q := cd.muz b hb
      refine ⟨zn b q.1 fun h => ?_, q.2⟩
      rcases List.mem_append.mp (by simpa [foots] using hb : b ∈ foots pre ++ foots post) with w | w
      · exact nd'.2.2 b w b (List.mem_append_left _ h) rfl
      · exact nd'.2.1.2.2 b h b w rfl
    tabs := c.tabs.mono h1 (fun t ht => zn _ (c.tabs t ht).1 fun h => (c.muz _ (hin _ h)).2.2 (List.mem_map.mpr ⟨t, ht, rfl⟩)) fun t ht o e => e }

end coh
end Mine
namespace Mine
open PySem PySem.W PyProof.Rows PySem.Calls

section rules
variable {W : Wd} {Γ : Ctx} {σ : St} {s : Shared} {env : Env}

theorem Sat.run {α : Type} {t : Sem α} {k : α → St → Prop} (h : Sat W Γ t k σ) (c : Coh W Γ σ s) {Q : α → Shared → Prop} (hq : ∀ a s' σ', Coh W Γ σ' s' → k a σ' → Q a s') :
    wpAny (model W.prog W.w) Γ.A t Q Γ.E s := wpAny_mono (h s c) (fun a s' ⟨σ', c', hk⟩ => hq a s' σ' c' hk) fun _ _ e => e
theorem Sat.mono {α : Type} {t : Sem α} {k k' : α → St → Prop} (h : Sat W Γ t k σ) (hk : ∀ a σ', k a σ' → k' a σ') : Sat W Γ t k' σ := fun s c => h.run c fun a s' σ' c' x => ⟨σ', c', hk a σ' x⟩
theorem Sat.pure {α : Type} {a : α} {k : α → St → Prop} (h : k a σ) : Sat W Γ (pure a : Sem α) k σ := fun s c => wpAny_pure ⟨σ, c, h⟩
theorem Sat.bind {α β : Type} {m : Sem α} {f : α → Sem β} {k : β → St → Prop} (h : Sat W Γ m (fun a σ' => Sat W Γ (f a) k σ') σ) : Sat W Γ (m >>= f) k σ :=
  fun s c => wpAny_bind (h.run c fun a s' σ' c' x => x s' c')

/-- a state of less knowledge -/
theorem Sat.weak {α : Type} {t : Sem α} {k : α → St → Prop} {σ' : St} (h : Sat W Γ t k σ') (hc : ∀ s, Coh W Γ σ s → Coh W Γ σ' s) : Sat W Γ t k σ := fun s c => h s (hc s c)
-- statements
noncomputable def Nx (W : Wd) (Γ : Ctx) (env : Env) (rest : List Stmt) (k : Flow → St → Prop) : Flow → St → Prop
  | .next, σ => Sat W Γ (execs rest env) k σ
  | f, σ => k f σ
theorem nx_next {rest : List Stmt} {k : Flow → St → Prop} (h : Sat W Γ (execs rest env) k σ) : Nx W Γ env rest k .next σ := h
theorem nx_ret {rest : List Stmt} {k : Flow → St → Prop} {v : Value} (h : k (.ret v) σ) : Nx W Γ env rest k (.ret v) σ := h
theorem nx_cont {rest : List Stmt} {k : Flow → St → Prop} (h : k .cont σ) : Nx W Γ env rest k .cont σ := h
theorem execs_nil' {k : Flow → St → Prop} (h : k .next σ) : Sat W Γ (execs [] env) k σ := fun s c => wpAny_execs_nil ⟨σ, c, h⟩
theorem execs_cons' {st : Stmt} {rest : List Stmt} {k : Flow → St → Prop} (h : Sat W Γ (exec st env) (Nx W Γ env rest k) σ) : Sat W Γ (execs (st :: rest) env) k σ :=
  fun s c => wpAny_execs_cons (h.run c fun f s' σ' c' x => by cases f <;> first | exact x s' c' | exact ⟨σ', c', x⟩)
theorem exec_Ret {e : Expr} {pos : Pos} {k : Flow → St → Prop} (h : Sat W Γ (eval e env) (fun v => k (.ret v)) σ) : Sat W Γ (exec (.Return (some e) pos) env) k σ := fun s c => wpAny_Return_some (h s c)
theorem exec_Cont {pos : Pos} {k : Flow → St → Prop} (h : k .cont σ) : Sat W Γ (exec (.Continue pos) env) k σ := fun s c => wpAny_Continue ⟨σ, c, h⟩
theorem exec_If' {test : Expr} {body orelse : List Stmt} {pos : Pos} {k : Flow → St → Prop}
    (h : Sat W Γ (isTrue test env (eval test env)) (fun b σ' => if b then Sat W Γ (execs body env) k σ' else Sat W Γ (execs orelse env) k σ') σ) : Sat W Γ (exec (.If test body orelse pos) env) k σ :=
  fun s c => wpAny_If (h.run c fun b s' σ' c' x => by cases b <;> exact x s' c')
theorem exec_Expr_none {e : Expr} {pos : Pos} {k : Flow → St → Prop} (h : Sat W Γ (eval e env) (fun v σ' => v = .none ∧ k .next σ') σ)
    (hi : interactive env = false := by rfl) (hs : swapsWith e none pos.line env = Pure.pure false := by rfl) : Sat W Γ (exec (.Expr e pos) env) k σ :=
  fun s c => wpAny_Expr (h.run c fun v s' σ' c' x => by obtain ⟨rfl, x⟩ := x; exact ⟨σ', c', x⟩) hi hs

theorem store_l {x : Str} {v : Value} {k : Unit → St → Prop} {m : Loc} {mu : Mu} {z : Heap} (h : k () ⟨(x, v) :: m, mu, z⟩)
    (hL : env.locals = Γ.L := by rfl) (hk : env.scope.kind = .function := by rfl) (hl : env.kindOf x = some .local := by rfl) : Sat W Γ (storeName env x v) k ⟨m, mu, z⟩ := fun s c =>
  wpAny_storeName_local hl (hL ▸ c.ns) (fun h' hn hs => ⟨_, c.store (hL ▸ hn) fun b o hb e => (hs.2 b (hL ▸ hb)).trans e, h⟩) (by rw [hk]; rfl)
theorem store_c {x : Str} {v : Value} {v₀ : Option Value} {cl : Addr} {k : Unit → St → Prop} {m : Loc} {pre post : Mu} {z : Heap} (hc : env.cells.lookup x = some cl) (h : k () ⟨m, pre ++ (cl, .cell (some v)) :: post, z⟩)
    (hk : env.scope.kind = .function := by rfl) (hl : env.kindOf x = some .cell := by rfl) : Sat W Γ (storeName env x v) k ⟨m, pre ++ (cl, .cell v₀) :: post, z⟩ := fun s c =>
  wpAny_storeName_cell hk hl hc (c.mu (cl, .cell v₀) (by simp)) fun h' hv hs =>
    ⟨_, c.upd (y := .cell (some v)) (tk := s.toks) rfl (fun b o hb e => (hs.2 b (by simpa [Asn.foot] using hb)).trans e) hv, h⟩
theorem exec_Asg {x : Str} {pos' pos : Pos} {value : Expr} {k : Flow → St → Prop} (h : Sat W Γ (eval value env) (fun v σ' => Sat W Γ (storeName env x v) (fun _ => k .next) σ') σ)
    (hs : swapsWith value (some (.Name x pos')) pos.line env = Pure.pure false := by rfl) : Sat W Γ (exec (.Assign [.Name x pos'] value pos) env) k σ :=
  fun s c => wpAny_Assign_Name (h.run c fun v s' σ' c' x => x s' c') hs
theorem exec_AsgS {o i value : Expr} {pos' pos : Pos} {k : Flow → St → Prop} (h : Sat W Γ (eval value env) (fun v σ₁ => Sat W Γ (eval o env) (fun ov σ₂ => Sat W Γ (eval i env) (fun iv σ₃ => Sat W Γ (setItem ov iv v) (fun _ => k .next) σ₃) σ₂) σ₁) σ)
    (hs : swapsWith value (some (.Subscript o i pos')) pos.line env = Pure.pure false := by rfl) : Sat W Γ (exec (.Assign [.Subscript o i pos'] value pos) env) k σ :=
  fun s c => wpAny_Assign_Subscript (h.run c fun v s₁ σ₁ c₁ x => x.run c₁ fun ov s₂ σ₂ c₂ y => y.run c₂ fun iv s₃ σ₃ c₃ w => w s₃ c₃) hs
theorem exec_AsgA {o value : Expr} {attr : Str} {pos' pos : Pos} {k : Flow → St → Prop} (h : Sat W Γ (eval value env) (fun v σ₁ => Sat W Γ (eval o env) (fun ov σ₂ => Sat W Γ (setAttr ov attr v) (fun _ => k .next) σ₂) σ₁) σ)
    (hs : swapsWith value (some (.Attribute o attr pos')) pos.line env = Pure.pure false := by rfl) : Sat W Γ (exec (.Assign [.Attribute o attr pos'] value pos) env) k σ :=
  fun s c => plainObj_wpAny_Assign_Attribute (h.run c fun v s₁ σ₁ c₁ x => x.run c₁ fun ov s₂ σ₂ c₂ y => y s₂ c₂) hs
theorem exec_Aug {x : Str} {pos' pos : Pos} {op : Operator} {value : Expr} {k : Flow → St → Prop}
    (h : Sat W Γ (loadName env x) (fun old σ₁ => Sat W Γ (eval value env) (fun v σ₂ => Sat W Γ (inplaceOp op old v) (fun r σ₃ => Sat W Γ (storeName env x r) (fun _ => k .next) σ₃) σ₂) σ₁) σ) :
    Sat W Γ (exec (.AugAssign (.Name x pos') op value pos) env) k σ :=
  fun s c => wpAny_AugAssign_Name (h.run c fun v s₁ σ₁ c₁ x => x.run c₁ fun ov s₂ σ₂ c₂ y => y.run c₂ fun iv s₃ σ₃ c₃ w => w s₃ c₃)
theorem exec_AugA {o value : Expr} {attr : Str} {tpos pos : Pos} {op : Operator} {k : Flow → St → Prop}
    (h : Sat W Γ (eval o env) (fun ov σ₁ => Sat W Γ (getAttr ov attr true) (fun old σ₂ => Sat W Γ (eval value env) (fun v σ₃ => Sat W Γ (inplaceOp op old v) (fun new σ₄ => Sat W Γ (setAttr ov attr new) (fun _ => k .next) σ₄) σ₃) σ₂) σ₁) σ) :
    Sat W Γ (exec (.AugAssign (.Attribute o attr tpos) op value pos) env) k σ :=
  fun s c => wpAny_AugAssign_AttributeAny (h.run c fun v s₁ σ₁ c₁ x => x.run c₁ fun ov s₂ σ₂ c₂ y => y.run c₂ fun iv s₃ σ₃ c₃ w => w.run c₃ fun nw s₄ σ₄ c₄ u => u s₄ c₄)

-- names
theorem load_l {x : Str} {v : Value} {k : Value → St → Prop} (hv : mget σ.m x = some v) (h : k v σ)
    (hL : env.locals = Γ.L := by rfl) (hk : env.scope.kind = .function := by rfl) (hl : env.kindOf x = some .local := by rfl) : Sat W Γ (loadName env x) k σ := fun s c =>
  wpAny_loadName_local hk hl (hL ▸ c.ns) hv ⟨σ, c, h⟩
theorem name_l {x : Str} {pos : Pos} {v : Value} {k : Value → St → Prop} (hv : mget σ.m x = some v) (h : k v σ)
    (hL : env.locals = Γ.L := by rfl) (hk : env.scope.kind = .function := by rfl) (hl : env.kindOf x = some .local := by rfl) (hd : (x == ("__debug__" : Str)) = false := by decide) :
    Sat W Γ (eval (.Name x pos) env) k σ := fun s c => wpAny_Name (load_l hv h hL hk hl s c) hd
theorem name_g {x : Str} {pos : Pos} {v : Value} {k : Value → St → Prop} (B : Base W W.B) (hv : nsIn W.K mainGlobals x = some (some v)) (h : k v σ)
    (hg : env.globals = mainGlobals := by rfl) (hk : env.scope.kind = .function := by rfl) (hx : env.kindOf x = some .globalImplicit := by rfl) (hd : (x == ("__debug__" : Str)) = false := by decide) :
    Sat W Γ (eval (.Name x pos) env) k σ := fun s c =>
  have b := c.base B
  Name_function_global hk hx (loadGlobal_global (hg ▸ b.top.g) (mg_of b.K b.top.g hv) ⟨σ, c, h⟩) hd
theorem name_b {x : Str} {pos : Pos} {v : Value} {k : Value → St → Prop} (B : Base W W.B) (hv : nsIn W.K mainGlobals x = some none) (hb : bootBuiltins x = some v) (h : k v σ)
    (hg : env.globals = mainGlobals := by rfl) (hbu : env.builtins = builtinsNs := by rfl) (hk : env.scope.kind = .function := by rfl) (hx : env.kindOf x = some .globalImplicit := by rfl)
    (hd : (x == ("__debug__" : Str)) = false := by decide) (hn : x ≠ "__name__" := by decide) :
    Sat W Γ (eval (.Name x pos) env) k σ := fun s c =>
  have b := c.base B
  Name_function_global hk hx (loadGlobal_builtin (hg ▸ b.top.g) (mg_none_of b.K b.top.g hv) (hbu ▸ b.top.b) ((b.top.builtins x hn).trans hb) ⟨σ, c, h⟩) hd
theorem name_c {x : Str} {pos : Pos} {v : Value} {cl : Addr} {k : Value → St → Prop} (hc : env.cells.lookup x = some cl) (hm : (cl, .cell (some v)) ∈ σ.mu) (h : k v σ)
    (hk : env.scope.kind = .function := by rfl) (hx : env.kindOf x = some .cell := by rfl) (hb : (x == ("__debug__" : Str)) = false := by decide) : Sat W Γ (eval (.Name x pos) env) k σ :=
  fun s c => wpAny_Name (wpAny_loadName_cell hk hx hc (c.mu _ hm) ⟨σ, c, h⟩) hb
theorem name_f {x : Str} {pos : Pos} {v : Value} {cl : Addr} {k : Value → St → Prop} (hc : env.cells.lookup x = some cl) (hm : (cl, .cell (some v)) ∈ σ.mu) (h : k v σ)
    (hk : env.scope.kind = .function := by rfl) (hx : env.kindOf x = some .free := by rfl) (hb : (x == ("__debug__" : Str)) = false := by decide) (hn : (x == ("__classdict__" : Str)) = false := by decide) :
    Sat W Γ (eval (.Name x pos) env) k σ := fun s c => wpAny_Name (wpAny_loadName_free hk hx hc (c.mu _ hm) ⟨σ, c, h⟩ hn) hb
-- constants
theorem const_i {i : Int} {kk : Nat} {pos : Pos} {k : Value → St → Prop} (h : ∀ t, k (.int i t) σ) : Sat W Γ (eval (.Constant (.int i) kk pos) env) k σ := fun s c => wpAny_Constant_int ⟨σ, c.toks _, h _⟩
theorem const_b {b : Bool} {kk : Nat} {pos : Pos} {k : Value → St → Prop} (h : k (.bool b) σ) : Sat W Γ (eval (.Constant (.bool b) kk pos) env) k σ := fun s c => wpAny_Constant_bool ⟨σ, c, h⟩
theorem const_n {kk : Nat} {pos : Pos} {k : Value → St → Prop} (h : k .none σ) : Sat W Γ (eval (.Constant .none kk pos) env) k σ := fun s c => wpAny_Constant_none ⟨σ, c, h⟩
theorem const_s {x : Str} {kk : Nat} {pos : Pos} {k : Value → St → Prop} (h : ∀ t, k (.str x t) σ) : Sat W Γ (eval (.Constant (.str x) kk pos) env) k σ := fun s c => wpAny_Constant_str ⟨σ, c.toks _, h _⟩

-- expressions
theorem e_bin {l r : Expr} {op : Operator} {pos : Pos} {k : Value → St → Prop} (h : Sat W Γ (eval l env) (fun a σ₁ => Sat W Γ (eval r env) (fun b σ₂ => Sat W Γ (binaryOp op a b) k σ₂) σ₁) σ) :
    Sat W Γ (eval (.BinOp l op r pos) env) k σ := fun s c => wpAny_BinOp (h.run c fun a s₁ σ₁ c₁ x => x.run c₁ fun b s₂ σ₂ c₂ y => y s₂ c₂)
theorem e_un {x : Expr} {op : UnaryOp} {pos : Pos} {k : Value → St → Prop} (h : Sat W Γ (eval x env) (fun v σ₁ => Sat W Γ (unaryOp op v) k σ₁) σ) :
    Sat W Γ (eval (.UnaryOp op x pos) env) k σ := fun s c => UnaryOp_ (h.run c fun a s₁ σ₁ c₁ x => x s₁ c₁)
theorem e_cmp {l r : Expr} {op : CmpOp} {pos : Pos} {k : Value → St → Prop} (h : Sat W Γ (eval l env) (fun a σ₁ => Sat W Γ (eval r env) (fun b σ₂ => Sat W Γ (compareOp op a b) k σ₂) σ₁) σ)
    (hm : behindInMarks op r = false := by with_unfolding_all rfl) : Sat W Γ (eval (.Compare l [op] [r] pos) env) k σ := fun s c => wpAny_Compare1 (h.run c fun a s₁ σ₁ c₁ x => x.run c₁ fun b s₂ σ₂ c₂ y => y s₂ c₂) hm
theorem e_if {test body orelse : Expr} {pos : Pos} {k : Value → St → Prop}
    (h : Sat W Γ (isTrue test env (eval test env)) (fun b σ' => if b then Sat W Γ (eval body env) k σ' else Sat W Γ (eval orelse env) k σ') σ) : Sat W Γ (eval (.IfExp test body orelse pos) env) k σ :=
  fun s c => IfExp_ (h.run c fun b s' σ' c' x => by cases b <;> exact x s' c')
theorem e_and {e₁ e₂ : Expr} {pos : Pos} {k : Value → St → Prop} (h : Sat W Γ (eval e₁ env) (fun v σ₁ => Sat W Γ (truthy v) (fun b σ₂ => if b then Sat W Γ (eval e₂ env) k σ₂ else k v σ₂) σ₁) σ) :
    Sat W Γ (eval (.BoolOp .And [e₁, e₂] pos) env) k σ := fun s c => BoolOp_and (h.run c fun v s₁ σ₁ c₁ x => x.run c₁ fun b s₂ σ₂ c₂ y => by
      cases b
      · exact ⟨σ₂, c₂, y⟩
      · exact BoolOp_one (y s₂ c₂))
theorem e_or {e₁ e₂ : Expr} {pos : Pos} {k : Value → St → Prop} (h : Sat W Γ (eval e₁ env) (fun v σ₁ => Sat W Γ (truthy v) (fun b σ₂ => if b then k v σ₂ else Sat W Γ (eval e₂ env) k σ₂) σ₁) σ) :
    Sat W Γ (eval (.BoolOp .Or [e₁, e₂] pos) env) k σ := fun s c => BoolOp_or (h.run c fun v s₁ σ₁ c₁ x => x.run c₁ fun b s₂ σ₂ c₂ y => by
      cases b
      · exact BoolOp_one (y s₂ c₂)
      · exact ⟨σ₂, c₂, y⟩)
theorem items_nil {pos : Pos} {k : List Value → St → Prop} (h : k [] σ) : Sat W Γ (spliced (backTo pos (starEach [] env))) k σ := fun s c => wpAny_items_nil ⟨σ, c, h⟩
theorem items_cons {pos : Pos} {e : Expr} {rest : List Expr} {k : List Value → St → Prop} (h : Sat W Γ (eval e env) (fun v σ₁ => Sat W Γ (spliced (backTo pos (starEach rest env))) (fun vs σ₂ => k (v :: vs) σ₂) σ₁) σ)
    (he : starEach (e :: rest) env = (false, eval e env) :: starEach rest env := by rfl) : Sat W Γ (spliced (backTo pos (starEach (e :: rest) env))) k σ :=
  fun s c => wpAny_items_cons (h.run c fun a s₁ σ₁ c₁ x => x s₁ c₁) he
theorem e_tup {elts : List Expr} {kk : Nat} {pos : Pos} {k : Value → St → Prop} (h : Sat W Γ (spliced (backTo pos (starEach elts env))) (fun vs σ₁ => Sat W Γ (newTuple vs) k σ₁) σ) :
    Sat W Γ (eval (.Tuple elts kk pos) env) k σ := fun s c => Tuple_ (h.run c fun a s₁ σ₁ c₁ x => x s₁ c₁)
theorem e_list {elts : List Expr} {pos : Pos} {k : Value → St → Prop} (h : Sat W Γ (spliced (backTo pos (starEach elts env))) (fun vs σ₁ => Sat W Γ (newList vs) k σ₁) σ) :
    Sat W Γ (eval (.List elts pos) env) k σ := fun s c => List_ (h.run c fun a s₁ σ₁ c₁ x => x s₁ c₁)
theorem e_call {func : Expr} {args : List Expr} {pos : Pos} {k : Value → St → Prop} (h : Sat W Γ (eval func env) (fun f σ₁ => Sat W Γ (callWith pos f [] (backTo pos (starEach args env)) []) k σ₁) σ)
    (he : eval (.Call func args [] pos) env = (do callWith pos (← eval func env) [] (backTo pos (starEach args env)) (backToKw pos (keywordEach [] env))) := by rfl) :
    Sat W Γ (eval (.Call func args [] pos) env) k σ := fun s c => Call_ (h.run c fun a s₁ σ₁ c₁ x => x s₁ c₁) he
theorem e_meth {o : Expr} {name : Str} {apos pos : Pos} {args : List Expr} {pl : Sem Bool} {k : Value → St → Prop}
    (h : Sat W Γ (eval o env) (fun ov σ₁ => Sat W Γ (getMethod ov name pl) (fun fx σ₂ => Sat W Γ (callWith pos fx.1 fx.2 (backTo pos (starEach args env)) []) k σ₂) σ₁) σ)
    (he : eval (.Call (.Attribute o name apos) args [] pos) env = (do
      let ov ← eval o env
      standAt apos.atName
      let (f, first) ← holding [ov] (getMethod ov name pl)
      callWith pos f first (backTo pos (starEach args env)) []) := by rfl) : Sat W Γ (eval (.Call (.Attribute o name apos) args [] pos) env) k σ :=
  fun s c => MethodCall_ (h.run c fun a s₁ σ₁ c₁ x => x.run c₁ fun fx s₂ σ₂ c₂ y => y s₂ c₂) he
theorem e_attr {value : Expr} {attr : Str} {pos : Pos} {k : Value → St → Prop} (h : Sat W Γ (eval value env) (fun o σ₁ => Sat W Γ (getAttr o attr true) k σ₁) σ)
    (he : eval (.Attribute value attr pos) env = (do
      let o ← eval value env
      standAt pos.atName
      let r ← holding [o] (getAttr o attr true)
      letTemporaryGo value o r
      Pure.pure r) := by with_unfolding_all rfl) : Sat W Γ (eval (.Attribute value attr pos) env) k σ :=
  fun s c => Attribute_any_ (h.run c fun a s₁ σ₁ c₁ x => x s₁ c₁) he
theorem e_sub {value slice : Expr} {pos : Pos} {k : Value → St → Prop} (h : Sat W Γ (eval value env) (fun o σ₁ => Sat W Γ (eval slice env) (fun i σ₂ => Sat W Γ (subscriptTail value slice o i) k σ₂) σ₁) σ) :
    Sat W Γ (eval (.Subscript value slice pos) env) k σ := fun s c => Subscript_ (h.run c fun a s₁ σ₁ c₁ x => x.run c₁ fun fx s₂ σ₂ c₂ y => y s₂ c₂)

-- tests
theorem t_plain {e : Expr} {whole : Sem Value} {k : Bool → St → Prop} (h : Sat W Γ whole (fun v σ₁ => Sat W Γ (truthy v) k σ₁) σ)
    (he : isTrue e env whole = (do let v ← whole; standAt e.pos; holding [v] (truthy v)) := by rfl) : Sat W Γ (isTrue e env whole) k σ := fun s c => isTrue_plain (h.run c fun a s₁ σ₁ c₁ x => x s₁ c₁) he
theorem t_cmp {l r : Expr} {op : CmpOp} {pos : Pos} {whole : Sem Value} {k : Bool → St → Prop} (h : Sat W Γ (eval l env) (fun a σ₁ => Sat W Γ (eval r env) (fun b σ₂ => Sat W Γ (compareOp op a b) (fun v σ₃ => Sat W Γ (truthy v) k σ₃) σ₂) σ₁) σ)
    (hm : behindInMarks op r = false := by with_unfolding_all rfl) : Sat W Γ (isTrue (.Compare l [op] [r] pos) env whole) k σ :=
  fun s c => wpAny_isTrue_Compare1 (h.run c fun a s₁ σ₁ c₁ x => x.run c₁ fun b s₂ σ₂ c₂ y => y.run c₂ fun v s₃ σ₃ c₃ w => w s₃ c₃) hm
theorem t_not {x : Expr} {pos : Pos} {whole : Sem Value} {k : Bool → St → Prop} (h : Sat W Γ (isTrue x env (eval x env)) (fun b => k (!b)) σ) : Sat W Γ (isTrue (.UnaryOp .Not x pos) env whole) k σ := fun s c => isTrue_not (h s c)
theorem t_and {x y : Expr} {pos : Pos} {whole : Sem Value} {k : Bool → St → Prop} (h : Sat W Γ (isTrue x env (eval x env)) (fun b σ₁ => if b then Sat W Γ (isTrue y env (eval y env)) k σ₁ else k false σ₁) σ) :
    Sat W Γ (isTrue (.BoolOp .And [x, y] pos) env whole) k σ := fun s c => wpAny_isTrue_BoolOp (wpAny_allTrue_And_cons (h.run c fun b s₁ σ₁ c₁ q => by
      cases b
      · exact ⟨σ₁, c₁, q⟩
      · exact wpAny_allTrue_And_cons (Sat.run q c₁ fun b s₂ σ₂ c₂ u => by
          cases b
          · exact ⟨σ₂, c₂, u⟩
          · exact wpAny_allTrue_And_nil ⟨σ₂, c₂, u⟩)))
theorem t_or {x y : Expr} {pos : Pos} {whole : Sem Value} {k : Bool → St → Prop} (h : Sat W Γ (isTrue x env (eval x env)) (fun b σ₁ => if b then k true σ₁ else Sat W Γ (isTrue y env (eval y env)) k σ₁) σ) :
    Sat W Γ (isTrue (.BoolOp .Or [x, y] pos) env whole) k σ := fun s c => wpAny_isTrue_BoolOp (wpAny_allTrue_Or_cons (h.run c fun b s₁ σ₁ c₁ q => by
      cases b
      · exact wpAny_allTrue_Or_cons (Sat.run q c₁ fun b s₂ σ₂ c₂ u => by
          cases b
          · exact wpAny_allTrue_Or_nil ⟨σ₂, c₂, u⟩
          · exact ⟨σ₂, c₂, u⟩)
      · exact ⟨σ₁, c₁, q⟩))
theorem truthy_b {b : Bool} {k : Bool → St → Prop} (h : k b σ) : Sat W Γ (truthy (.bool b)) k σ := fun s c => wpAny_truthy_bool ⟨σ, c, h⟩

-- new objects
theorem new_list {vs : List Value} {k : Value → St → Prop} {m : Loc} {mu : Mu} {z : Heap} (h : ∀ a, k (.ref a) ⟨m, (a, .list vs) :: mu, z⟩) (hsz : vs.length ≤ sizeLine := by size_fits) : Sat W Γ (newList vs) k ⟨m, mu, z⟩ := fun s c =>
  wpAny_newObj_type ⟨_, c.alloc (x := .list vs) (fun b o e => Heap.get?_push_of_some _ e) ⟨_, Heap.get?_push_size _ rfl⟩ (fun b hb => by rw [List.mem_singleton.mp hb]; exact Nat.le_refl _) (by simp [Asn.foot]), h _⟩
    (by show vs.toArray.size ≤ sizeLine; rw [List.size_toArray]; exact hsz)
theorem new_tup {vs : List Value} {k : Value → St → Prop} {m : Loc} {mu : Mu} {z : Heap} (h : ∀ a z', z.StaysIn z' → IsTup z' a vs.toArray → k (.ref a) ⟨m, mu, z'⟩) (hsz : vs.length ≤ sizeLine := by size_fits) : Sat W Γ (newTuple vs) k ⟨m, mu, z⟩ := fun s c => by
  refine wpAny_newObj_type ?_ (by show vs.toArray.size ≤ sizeLine; rw [List.size_toArray]; exact hsz)
  have c' := c.alloc (a := s.heap.objs.size) (h' := s.heap.push { cls := .type "tuple", data := .seq vs.toArray }) (tk := s.toks) (x := .raw fun o => o.cls = .type "tuple" ∧ ∃ n, o.data = .seq vs.toArray n) (fun b o e => Heap.get?_push_of_some _ e) ⟨_, Heap.get?_push_size _ rfl, rfl, _, rfl⟩
    (fun b hb => by rw [List.mem_singleton.mp hb]; exact Nat.le_refl _) (by simp [Asn.foot])
  obtain ⟨z', h1, h2, c''⟩ := c'.freeze (pre := []) (fun b hb => by rw [List.mem_singleton.mp hb]; exact c.size)
  exact ⟨_, c'', h _ z' h1 h2⟩
end rules
end Mine
namespace Mine
open PySem PySem.W PyProof.Rows PySem.Calls

structure Pre (W : Wd) (s : Shared) (z : Heap) (bm : Mu) : Prop where
  zle : z.StaysIn s.heap
  Bz : W.B.StaysIn z
  Bn : W.B.objs.size ≤ s.heap.objs.size
  mu : ∀ p ∈ bm, p.2.At W s.heap p.1
  muz : ∀ a ∈ foots bm, z.get? a = none ∧ a ∉ W.tabs.map (·.1)
  mund : (foots bm).Nodup
  tabs : TabInv W.tabs z s.heap
  tlow : ∀ t ∈ W.tabs, t.1 < s.heap.objs.size

structure After (W : Wd) (s : Shared) (z : Heap) (bm bm' nw : Mu) (z' h' : Heap) : Prop where
  keep : ∀ b o, b ∉ foots bm → b ∉ W.tabs.map (·.1) → s.heap.get? b = some o → h'.get? b = some o
  zz : z.StaysIn z'
  zle : z'.StaysIn h'
  zgrow : ∀ b o, z'.get? b = some o → (∃ o', z.get? b = some o') ∨ s.heap.objs.size ≤ b
  mu : ∀ p ∈ bm', p.2.At W h' p.1
  same : foots bm' = foots bm
  tabs : TabInv W.tabs z' h'
  nwa : ∀ p ∈ nw, p.2.At W h' p.1
  nwf : ∀ a ∈ foots nw, s.heap.objs.size ≤ a ∧ z'.get? a = none
  nwd : (foots nw).Nodup

/-- a contract of a call: what was lent and turned, what is new and handed on -/
noncomputable abbrev PostT := Value → Mu → Mu → Heap → Prop
noncomputable def SpecC (W : Wd) (n : Nat) (f : Value) (args : List Value) (bm : Mu) (z : Heap) (Post : PostT) : Prop :=
  ∀ (A : Around) (s : Shared) (R : Result → Shared → Prop), Room n A → Pre W s z bm → (∀ r bm' nw z' h' tk', After W s z bm bm' nw z' h' → Post r bm' nw z' → R (.ok (.ret r)) { s with heap := h', toks := tk' }) → codeAny (model W.prog W.w) A (.call f ⟨args, []⟩) R s
noncomputable def Spec (W : Wd) (n : Nat) (t : Sem Value) (bm : Mu) (z : Heap) (Post : PostT) : Prop :=
  ∀ (A : Around) (s : Shared) (Q : Value → Shared → Prop) (E : Value → Shared → Prop), Room n A → Pre W s z bm → (∀ r bm' nw z' h' tk', After W s z bm bm' nw z' h' → Post r bm' nw z' → Q r { s with heap := h', toks := tk' }) → wpAny (model W.prog W.w) A t Q E s
theorem SpecC.spec {W : Wd} {n : Nat} {f : Value} {args : List Value} {bm : Mu} {z : Heap} {Post : PostT} (S : SpecC W n f args bm z Post) : Spec W n (call f args) bm z Post :=
  fun A s Q E R P h => wpAny_call (S A s _ R P h)
/-- a post that hands on nothing new -/
noncomputable def NoNew (Post : Value → Mu → Heap → Prop) : PostT := fun r bm' nw z' => nw = [] ∧ Post r bm' z'
theorem SpecC.mono {W : Wd} {n m : Nat} {f : Value} {args : List Value} {bm : Mu} {z : Heap} {Post Post' : PostT} (S : SpecC W n f args bm z Post) (h : ∀ r bm' nw z', z.StaysIn z' → Post r bm' nw z' → Post' r bm' nw z') (hn : n ≤ m) : SpecC W m f args bm z Post' :=
  fun A s R Rm P k => S A s R (Rm.less hn) P fun r bm' nw z' h' tk' a p => k r bm' nw z' h' tk' a (h r bm' nw z' a.zz p)

theorem foots_append (a b : Mu) : foots (a ++ b) = foots a ++ foots b := List.flatMap_append

section
variable {W : Wd} {Γ : Ctx} {s : Shared}
theorem Coh.pre {m : Loc} {bm mu : Mu} {z : Heap} (c : Coh W Γ ⟨m, bm ++ mu, z⟩ s) : Pre W s z bm where
  zle := c.zle
  Bz := fun b o e => c.z0 b o (c.Bz b o e)
  Bn := Nat.le_trans c.Bn c.size
  mu := fun p hp => c.mu p (List.mem_append_left _ hp)
  muz := fun a ha => have q := c.muz a (by rw [foots_append]; exact List.mem_append_left _ ha); ⟨q.1, q.2.2⟩
  mund := by have := c.mund; simp only [foots_append] at this; exact (List.nodup_append.mp this).1
  tabs := c.tabs
  tlow := fun t ht => Nat.lt_of_lt_of_le (c.tlow t ht) c.size

theorem Coh.after {m : Loc} {bm bm' nw mu : Mu} {z z' h' : Heap} {tk : Nat} (c : Coh W Γ ⟨m, bm ++ mu, z⟩ s) (a : After W s z bm bm' nw z' h') : Coh W Γ ⟨m, nw ++ (bm' ++ mu), z'⟩ { s with heap := h', toks := tk } := by
  have nd := c.mund
  simp only [foots_append] at nd
  have nd' := List.nodup_append.mp nd
  have kp : ∀ b o, b ∉ foots bm → b ∉ W.tabs.map (·.1) → s.heap.get? b = some o → h'.get? b = some o := a.keep
  have inb : ∀ {b}, b ∈ foots bm → b ∈ foots (bm ++ mu) := fun h => by rw [foots_append]; exact List.mem_append_left _ h
  have inm : ∀ {b}, b ∈ foots mu → b ∈ foots (bm ++ mu) := fun h => by rw [foots_append]; exact List.mem_append_right _ h
  have zn : ∀ b, b < s.heap.objs.size → z.get? b = none → z'.get? b = none := fun b hb e => by
    cases q : z'.get? b with
    | none => rfl
    | some o =>
      rcases a.zgrow b o q with ⟨o', h⟩ | h
      · rw [e] at h; cases h
      · exact absurd hb (Nat.not_lt.mpr h)
  have old : ∀ {b}, b ∈ foots (bm' ++ mu) → b ∈ foots (bm ++ mu) := fun {b} hb => by
    rw [foots_append] at hb ⊢
    rw [← a.same]; exact hb
  have cut : ∀ {b}, b ∈ foots (nw ++ (bm' ++ mu)) → b ∈ foots nw ∨ b ∈ foots (bm ++ mu) := fun {b} hb => by
    rw [foots_append] at hb
    exact (List.mem_append.mp hb).imp id old
  exact {
    rest := by have := c.rest; rw [this]
    ns := by
      obtain ⟨o, es, ep, ho, r⟩ := c.ns
      exact ⟨o, es, ep, kp _ _ (fun h => (c.muz _ (inb h)).2.1 rfl) c.Ltab ho, r⟩
    Lnew := c.Lnew
    keep := fun b o hb ht e => by
      have e' := c.keep b o hb ht e
      refine kp b o (fun h => ?_) ht e'
      rcases c.munew b (inb h) with q | q
      · exact hb q
      · exact absurd (Heap.lt_size e) (Nat.not_lt.mpr q)
    zle := a.zle
    z0 := fun b o e => a.zz b o (c.z0 b o e)
    zgrow := fun b o e => by
      rcases a.zgrow b o e with ⟨o', h⟩ | h
      · exact c.zgrow b o' h
      · exact .inr (Nat.le_trans c.size h)
    zL := zn _ c.ltL c.zL
    mu := fun p hp => by
      rcases List.mem_append.mp hp with hp | hp
      · exact a.nwa p hp
      rcases List.mem_append.mp hp with hp | hp
      · exact a.mu p hp
      · refine (c.mu p (List.mem_append_right _ hp)).same fun b hb o e => ?_
        have hm : b ∈ foots mu := List.mem_flatMap.mpr ⟨p, hp, hb⟩
        exact kp b o (fun h => nd'.2.2 b h b hm rfl) (c.muz b (inm hm)).2.2 e
    muz := fun b hb => by
      rcases cut hb with h | h
      · have q := a.nwf b h
        exact ⟨q.2, fun e => absurd c.ltL (Nat.not_lt.mpr (e ▸ q.1)), fun ht => absurd (c.tlt ht) (Nat.not_lt.mpr (Nat.le_trans c.size q.1))⟩
      · have q := c.muz b h
        exact ⟨zn b (c.mult h) q.1, q.2⟩
    munew := fun b hb => by
      rcases cut hb with h | h
      · exact .inr (Nat.le_trans c.size (a.nwf b h).1)
      · exact c.munew b h
    mund := by
      show (foots (nw ++ (bm' ++ mu))).Nodup
      rw [foots_append]
      refine List.nodup_append.mpr ⟨a.nwd, ?_, fun x hx y hy e => ?_⟩
      · rw [foots_append, a.same, ← foots_append]; exact c.mund
      · exact absurd (c.mult (old (e ▸ hy))) (Nat.not_lt.mpr (a.nwf x hx).1)
    tabs := a.tabs
    tlow := c.tlow
    Bz := c.Bz
    Bn := c.Bn }

theorem use_specN {n : Nat} {t : Sem Value} {bm mu : Mu} {m : Loc} {z : Heap} {Post : PostT} {k : Value → St → Prop} (S : Spec W n t bm z Post) (R : Room n Γ.A)
    (h : ∀ r bm' nw z', z.StaysIn z' → foots bm' = foots bm → Post r bm' nw z' → k r ⟨m, nw ++ (bm' ++ mu), z'⟩) : Sat W Γ t k ⟨m, bm ++ mu, z⟩ :=
  fun s c => S Γ.A s _ _ R c.pre fun r bm' nw z' h' tk' a p => ⟨_, c.after a, h r bm' nw z' a.zz a.same p⟩
/-- nothing lent, something new -/
theorem use_spec1 {n : Nat} {t : Sem Value} {mu : Mu} {m : Loc} {z : Heap} {Post : PostT} {k : Value → St → Prop} (S : Spec W n t [] z Post) (R : Room n Γ.A)
    (h : ∀ r bm' nw z', z.StaysIn z' → Post r bm' nw z' → k r ⟨m, nw ++ mu, z'⟩) : Sat W Γ t k ⟨m, mu, z⟩ :=
  fun s c => S Γ.A s _ _ R (Coh.pre (bm := []) c) fun r bm' nw z' h' tk' a p => by
    have c' := Coh.after (bm := []) c a (tk := tk')
    have e : foots bm' = [] := a.same
    refine ⟨_, c'.perm (mu' := nw ++ mu) (fun p hp => ?_) ?_, h r bm' nw z' a.zz p⟩
    · rcases List.mem_append.mp hp with h | h
      · exact List.mem_append_left _ h
      · exact List.mem_append_right _ (List.mem_append_right _ h)
    · have := c'.mund
      simp only [foots_append, e, List.nil_append] at this ⊢
      exact this
/-- nothing lent, nothing new -/
theorem use_spec0 {n : Nat} {t : Sem Value} {mu : Mu} {m : Loc} {z : Heap} {Post : Value → Mu → Heap → Prop} {k : Value → St → Prop} (S : Spec W n t [] z (NoNew Post)) (R : Room n Γ.A)
    (h : ∀ r bm' z', z.StaysIn z' → Post r bm' z' → k r ⟨m, mu, z'⟩) : Sat W Γ t k ⟨m, mu, z⟩ :=
  use_spec1 S R fun r bm' nw z' hz ⟨e, p⟩ => by subst e; exact h r bm' z' hz p
/-- something lent, nothing new -/
theorem use_spec {n : Nat} {t : Sem Value} {bm mu : Mu} {m : Loc} {z : Heap} {Post : Value → Mu → Heap → Prop} {k : Value → St → Prop} (S : Spec W n t bm z (NoNew Post)) (R : Room n Γ.A)
    (h : ∀ r bm' z', z.StaysIn z' → foots bm' = foots bm → Post r bm' z' → k r ⟨m, bm' ++ mu, z'⟩) : Sat W Γ t k ⟨m, bm ++ mu, z⟩ :=
  use_specN S R fun r bm' nw z' hz hf ⟨e, p⟩ => by subst e; exact h r bm' z' hz hf p

theorem mget_lookup (m : Loc) : (fun x => m.lookup x) = mget m := by
  funext x
  induction m with
  | nil => rfl
  | cons p r ih =>
    obtain ⟨y, v⟩ := p
    show List.lookup x ((y, v) :: r) = if x = y then some v else mget r x
    rw [List.lookup_cons]
    by_cases h : x = y
    · rw [if_pos h, beq_iff_eq.mpr h]
    · rw [if_neg h, beq_eq_false_iff_ne.mpr h]; exact ih

noncomputable def retv : Flow → Value
  | .ret v => v
  | _ => .none

/-- what the end of a body owes -/
noncomputable def Ends (bm : Mu) (Post : Value → Mu → Heap → Prop) (fl : Flow) (σ : St) : Prop := ∃ bm', foots bm' = foots bm ∧ (∀ p ∈ bm', p ∈ σ.mu) ∧ Post (retv fl) bm' σ.z
noncomputable def EndsN (Post : Value → Mu → Heap → Prop) (fl : Flow) (σ : St) : Prop := ∃ nw : Mu, nw.Sublist σ.mu ∧ Post (retv fl) nw σ.z

theorem Coh.ends {σ : St} {bm bm' : Mu} {z : Heap} {s' : Shared} (c : Coh W Γ σ s') (hz : Γ.z₀ = z) (hb : Γ.bm = foots bm) (h1 : foots bm' = foots bm) (h2 : ∀ p ∈ bm', p ∈ σ.mu) : After W Γ.s₀ z bm bm' [] σ.z s'.heap where
  keep := fun b o hb' ht e => c.keep b o (hb ▸ hb') ht e
  zz := hz ▸ c.z0
  zle := c.zle
  zgrow := hz ▸ c.zgrow
  mu := fun p hp => c.mu p (h2 p hp)
  same := h1
  tabs := c.tabs
  nwa := fun _ h => nomatch h
  nwf := fun _ h => nomatch h
  nwd := List.nodup_nil

theorem start {s : Shared} {z : Heap} {bm : Mu} {A : Around} {E : Value → Shared → Prop} {h₁ : Heap} {m : Loc} {L : Addr} {tk : Nat} (P : Pre W s z bm) (hL : s.heap.objs.size ≤ L) (hns : h₁.Ns L (mget m)) (hk : ∀ b o, s.heap.get? b = some o → h₁.get? b = some o) :
    Coh W ⟨A, L, z, s, foots bm, E⟩ ⟨m, bm, z⟩ { s with heap := h₁, toks := tk } where
  rest := rfl
  ns := hns
  Lnew := hL
  keep := fun b o _ _ e => hk b o e
  zle := fun b o e => hk b o (P.zle b o e)
  z0 := fun _ _ e => e
  zgrow := fun b o e => .inl ⟨o, e⟩
  zL := by
    show z.get? L = none
    cases e : z.get? L with
    | none => rfl
    | some o => exact absurd (Heap.lt_size (P.zle _ _ e)) (Nat.not_lt.mpr hL)
  mu := fun p hp => (P.mu p hp).same fun b _ o e => hk b o e
  muz := fun a ha => ⟨(P.muz a ha).1, fun e => by
    obtain ⟨p, hp, ha'⟩ := List.mem_flatMap.mp ha
    obtain ⟨o, ho⟩ := (P.mu p hp).lives a ha'
    exact absurd (Heap.lt_size ho) (Nat.not_lt.mpr (e ▸ hL)), (P.muz a ha).2⟩
  munew := fun a ha => .inl ha
  mund := P.mund
  tabs := P.tabs.mono (fun _ _ e => e) (fun t ht => (P.tabs t ht).1) fun t ht o e => hk _ _ e
  tlow := P.tlow
  Bz := P.Bz
  Bn := P.Bn

theorem Room.deeper {n : Nat} {A : Around} {env : Env} (R : Room (n + 1) A) : Room n (A.deeper env) := ⟨R.handled, by have := R.depth; show A.depth + 1 + 2 * n < 1000; omega, by have := R.units; show A.units + 3 + 20 * n < 9900; omega⟩

noncomputable def NoE (Γ : Ctx) : Prop := ∀ e s, ¬ Γ.E e s
theorem enterC {n : Nat} {bm : Mu} {z : Heap} {Post : PostT} {name qual : Str} {params : Arguments} {body : List Stmt} {scope : Scope} {dV kV doc pm cdv ct oc : Value} {an od : Option Addr} {osl : Array (Option Value)} {f : Addr} {args : List Value} (binds : Loc) {m : Loc}
    (WO : Base W W.B) (ho : W.K.lookup f = some ⟨oc, od, .func (fnOf name qual params body scope dV kV doc pm an cdv ct), osl⟩) (hcd : codeIn W.K cdv qual = true)
    (hbind : bindArgs (fnOf name qual params body scope dV kV doc pm an cdv ct) ⟨args, []⟩ = pure binds) (hloc : ∀ x ∈ binds, scope.names.lookup x.1 = some .local) (hcell : ∀ x ∈ scope.names, x.2 ≠ .cell)
    (k : Flow → St → Prop) (hk' : ∀ (Γ : Ctx) (s' : Shared) (fl : Flow) (σ : St), Γ.z₀ = z → Γ.bm = foots bm → Coh W Γ σ s' → k fl σ → ∃ bm' nw, After W Γ.s₀ z bm bm' nw σ.z s'.heap ∧ Post (retv fl) bm' nw σ.z)
    (h : ∀ Γ : Ctx, Room n Γ.A → NoE Γ → Γ.z₀ = z → Γ.bm = foots bm → Sat W Γ (execs body (envX qual scope Γ.L f cdv [])) k ⟨m, bm, z⟩)
    (hm : binds.reverse = m) (hco : scope.isCoroutine = false) (hgen : scope.isGenerator = false) (hk : scope.kind = .function) : SpecC W (n + 1) (.ref f) args bm z Post := by
  intro A s Q R P hQ
  have b : Base W s.heap := (WO.keeps P.Bz).keeps P.zle
  have room : A.depth < recursionLimit := by have := R.depth; show A.depth < 1000; omega
  refine codeAny_call_def (fd := fnOf name qual params body scope dV kV doc pm an cdv ct) (body := body) (binds := binds) room (b.K _ _ ho) rfl b.top.nolimit (codeRec_of b.K hcd) rfl (BindsTo.of_eq hbind) hcell hloc (fun h₁ hns hk₁ => ?_) hco hgen hk
  rw [mget_lookup, hm] at hns
  let Γ : Ctx := ⟨A.deeper (envX qual scope s.heap.objs.size f cdv []), s.heap.objs.size, z, s, foots bm, fun _ _ => False⟩
  have S := h Γ R.deeper (fun _ _ x => x) rfl rfl _ (start (A := Γ.A) (E := Γ.E) (tk := s.toks + binds.length) P (Nat.le_refl _) hns hk₁)
  refine wpAny_mono S (fun fl s' hs => ?_) fun _ _ x => x.elim
  obtain ⟨σ', c, hk9⟩ := hs
  obtain ⟨bm', nw, a, h3⟩ := hk' Γ s' fl σ' rfl rfl c hk9
  rw [c.rest]
  exact hQ _ _ _ _ _ _ a h3
theorem enter {n : Nat} {bm : Mu} {z : Heap} {Post : Value → Mu → Heap → Prop} {name qual : Str} {params : Arguments} {body : List Stmt} {scope : Scope} {dV kV doc pm cdv ct oc : Value} {an od : Option Addr} {osl : Array (Option Value)} {f : Addr} {args : List Value} (binds : Loc) {m : Loc}
    (WO : Base W W.B) (ho : W.K.lookup f = some ⟨oc, od, .func (fnOf name qual params body scope dV kV doc pm an cdv ct), osl⟩) (hcd : codeIn W.K cdv qual = true)
    (hbind : bindArgs (fnOf name qual params body scope dV kV doc pm an cdv ct) ⟨args, []⟩ = pure binds) (hloc : ∀ x ∈ binds, scope.names.lookup x.1 = some .local) (hcell : ∀ x ∈ scope.names, x.2 ≠ .cell)
    (h : ∀ Γ : Ctx, Room n Γ.A → NoE Γ → Γ.z₀ = z → Γ.bm = foots bm → Sat W Γ (execs body (envX qual scope Γ.L f cdv [])) (Ends bm Post) ⟨m, bm, z⟩)
    (hm : binds.reverse = m := by rfl) (hco : scope.isCoroutine = false := by rfl) (hgen : scope.isGenerator = false := by rfl) (hk : scope.kind = .function := by rfl) : SpecC W (n + 1) (.ref f) args bm z (NoNew Post) :=
  enterC binds WO ho hcd hbind hloc hcell (Ends bm Post) (fun Γ s' fl σ hz hb c ⟨bm', h1, h2, h3⟩ => ⟨bm', [], c.ends hz hb h1 h2, rfl, h3⟩) h hm hco hgen hk
theorem enterN {n : Nat} {z : Heap} {Post : Value → Mu → Heap → Prop} {name qual : Str} {params : Arguments} {body : List Stmt} {scope : Scope} {dV kV doc pm cdv ct oc : Value} {an od : Option Addr} {osl : Array (Option Value)} {f : Addr} {args : List Value} (binds : Loc) {m : Loc}
    (WO : Base W W.B) (ho : W.K.lookup f = some ⟨oc, od, .func (fnOf name qual params body scope dV kV doc pm an cdv ct), osl⟩) (hcd : codeIn W.K cdv qual = true)
    (hbind : bindArgs (fnOf name qual params body scope dV kV doc pm an cdv ct) ⟨args, []⟩ = pure binds) (hloc : ∀ x ∈ binds, scope.names.lookup x.1 = some .local) (hcell : ∀ x ∈ scope.names, x.2 ≠ .cell)
    (h : ∀ Γ : Ctx, Room n Γ.A → NoE Γ → Γ.z₀ = z → Γ.bm = foots ([] : Mu) → Sat W Γ (execs body (envX qual scope Γ.L f cdv [])) (EndsN Post) ⟨m, [], z⟩)
    (hm : binds.reverse = m := by rfl) (hco : scope.isCoroutine = false := by rfl) (hgen : scope.isGenerator = false := by rfl) (hk : scope.kind = .function := by rfl) : SpecC W (n + 1) (.ref f) args [] z (fun r _ nw z' => Post r nw z') :=
  enterC binds WO ho hcd hbind hloc hcell (EndsN Post) (fun Γ s' fl σ hz hb c ⟨nw, h1, h3⟩ => by
    have c' : Coh W Γ ⟨σ.m, nw, σ.z⟩ s' := c.perm (mu := σ.mu) (fun p hp => h1.subset hp) (by
      have : ∀ {a b : Mu}, a.Sublist b → (foots a).Sublist (foots b) := fun {a b} h => by
        induction h with
        | slnil => exact List.Sublist.refl _
        | cons p _ ih => simp only [foots, List.flatMap_cons]; exact ih.trans (List.sublist_append_right _ _)
        | cons_cons p _ ih => simp only [foots, List.flatMap_cons]; exact List.Sublist.append (List.Sublist.refl _) ih
      exact (this h1).nodup c.mund)
    have a := c'.ends (bm := []) (bm' := []) hz hb rfl (fun _ h => nomatch h)
    refine ⟨[], nw, { a with nwa := c'.mu, nwf := fun b hb' => ⟨?_, (c'.muz b hb').1⟩, nwd := c'.mund }, h3⟩
    rcases c'.munew b hb' with q | q
    · rw [hb] at q; exact absurd q (by simp [foots])
    · exact q) h hm hco hgen hk
/-- an end whose result is frozen -/
noncomputable def EndsF (W : Wd) (Post : Value → Heap → Prop) (fl : Flow) (σ : St) : Prop := ∃ fr : Mu, fr.Sublist σ.mu ∧ ∀ z', σ.z.StaysIn z' → (∀ p ∈ fr, p.2.At W z' p.1) → Post (retv fl) z'
theorem Coh.endsF {σ : St} {z : Heap} {s' : Shared} {Post : Value → Heap → Prop} {fl : Flow} (c : Coh W Γ σ s') (hz : Γ.z₀ = z) (hb : Γ.bm = []) (h : EndsF W Post fl σ) : ∃ z', After W Γ.s₀ z [] [] [] z' s'.heap ∧ Post (retv fl) z' := by
  obtain ⟨fr, hsub, hP⟩ := h
  have hin : ∀ b ∈ foots fr, b ∈ foots σ.mu := fun b hb => by
    obtain ⟨p, hp, h⟩ := List.mem_flatMap.mp hb
    exact List.mem_flatMap.mpr ⟨p, hsub.subset hp, h⟩
  obtain ⟨z', h1, h2, h3, h4⟩ := restrict σ.z s'.heap c.zle (foots fr)
  have new : ∀ b ∈ foots fr, Γ.n ≤ b := fun b hb' => (c.munew b (hin b hb')).resolve_left (by rw [hb]; exact List.not_mem_nil)
  refine ⟨z', ?_, hP z' h1 fun p hp => (c.mu p (hsub.subset hp)).same fun b hb o e => h3 b (List.mem_flatMap.mpr ⟨p, hp, hb⟩) o e⟩
  exact {
    keep := fun b o _ ht e => c.keep b o (by rw [hb]; exact List.not_mem_nil) ht e
    zz := fun b o e => h1 b o (c.z0 b o (hz ▸ e))
    zle := h2
    zgrow := fun b o e => by
      rcases h4 b o e with q | q
      · exact hz ▸ c.zgrow b o q
      · exact .inr (new b q)
    mu := fun _ h => nomatch h
    same := rfl
    tabs := c.tabs.mono h1 (fun t ht => by
      cases q : z'.get? t.1 with
      | none => rfl
      | some o =>
        rcases h4 _ o q with w | w
        · rw [(c.tabs t ht).1] at w; cases w
        · exact absurd (List.mem_map.mpr ⟨t, ht, rfl⟩) (c.muz _ (hin _ w)).2.2) fun t ht o e => e
    nwa := fun _ h => nomatch h
    nwf := fun _ h => nomatch h
    nwd := List.nodup_nil }
theorem enterF {n : Nat} {z : Heap} {Post : Value → Heap → Prop} {name qual : Str} {params : Arguments} {body : List Stmt} {scope : Scope} {dV kV doc pm cdv ct oc : Value} {an od : Option Addr} {osl : Array (Option Value)} {f : Addr} {args : List Value} (binds : Loc) {m : Loc}
    (WO : Base W W.B) (ho : W.K.lookup f = some ⟨oc, od, .func (fnOf name qual params body scope dV kV doc pm an cdv ct), osl⟩) (hcd : codeIn W.K cdv qual = true)
    (hbind : bindArgs (fnOf name qual params body scope dV kV doc pm an cdv ct) ⟨args, []⟩ = pure binds) (hloc : ∀ x ∈ binds, scope.names.lookup x.1 = some .local) (hcell : ∀ x ∈ scope.names, x.2 ≠ .cell)
    (h : ∀ Γ : Ctx, Room n Γ.A → NoE Γ → Γ.z₀ = z → Γ.bm = foots ([] : Mu) → Sat W Γ (execs body (envX qual scope Γ.L f cdv [])) (EndsF W Post) ⟨m, [], z⟩)
    (hm : binds.reverse = m := by rfl) (hco : scope.isCoroutine = false := by rfl) (hgen : scope.isGenerator = false := by rfl) (hk : scope.kind = .function := by rfl) : SpecC W (n + 1) (.ref f) args [] z (NoNew fun r _ z' => Post r z') := by
  intro A s Q R P hQ
  have b : Base W s.heap := (WO.keeps P.Bz).keeps P.zle
  have room : A.depth < recursionLimit := by have := R.depth; show A.depth < 1000; omega
  refine codeAny_call_def (fd := fnOf name qual params body scope dV kV doc pm an cdv ct) (body := body) (binds := binds) room (b.K _ _ ho) rfl b.top.nolimit (codeRec_of b.K hcd) rfl (BindsTo.of_eq hbind) hcell hloc (fun h₁ hns hk₁ => ?_) hco hgen hk
  rw [mget_lookup, hm] at hns
  let Γ : Ctx := ⟨A.deeper (envX qual scope s.heap.objs.size f cdv []), s.heap.objs.size, z, s, foots [], fun _ _ => False⟩
  have S := h Γ R.deeper (fun _ _ x => x) rfl rfl _ (start (A := Γ.A) (E := Γ.E) (tk := s.toks + binds.length) P (Nat.le_refl _) hns hk₁)
  refine wpAny_mono S (fun fl s' hs => ?_) fun _ _ x => x.elim
  obtain ⟨σ', c, hk9⟩ := hs
  obtain ⟨z', a, h3⟩ := c.endsF rfl rfl hk9
  rw [c.rest]
  exact hQ _ _ _ _ _ _ a ⟨rfl, h3⟩
end
end Mine
namespace Mine
open PySem PySem.W PyProof.Rows PySem.Calls

/-- an iterator that draws n values -/
structure Drw (W : Wd) (A : Around) (z : Heap) (it : Addr) (n : Nat) (P : Nat → Value → Prop) (S : Nat → Obj → Prop) : Prop where
  next : ∀ (i : Nat) (s : Shared) (E : Value → Shared → Prop) (Q : Option Value → Shared → Prop), i < n → z.StaysIn s.heap → (∃ o, s.heap.get? it = some o ∧ S i o) →
    (∀ v h' tk, P i v → (∀ b o, b ≠ it → s.heap.get? b = some o → h'.get? b = some o) → (∃ o, h'.get? it = some o ∧ S (i + 1) o) → Q (some v) { s with heap := h', toks := tk }) →
    wpAny (model W.prog W.w) A (pyNext (.ref it)) Q E s
  stop : ∀ (s : Shared) (E : Value → Shared → Prop) (Q : Option Value → Shared → Prop), z.StaysIn s.heap → (∃ o, s.heap.get? it = some o ∧ S n o) →
    (∀ h' tk, (∀ b o, b ≠ it → s.heap.get? b = some o → h'.get? b = some o) → Q none { s with heap := h', toks := tk }) →
    wpAny (model W.prog W.w) A (pyNext (.ref it)) Q E s
  again : ∀ (s : Shared) (E : Value → Shared → Prop) (Q : Value → Shared → Prop) (i : Nat), (∃ o, s.heap.get? it = some o ∧ S i o) → Q (.ref it) s → wpAny (model W.prog W.w) A (pyIter (.ref it)) Q E s
  own : ∀ (s : Shared) (E : Value → Shared → Prop) (Q : Unit → Shared → Prop) (i : Nat) (target : Expr) (v : Value), (∃ o, s.heap.get? it = some o ∧ S i o) → Q () s → wpAny (model W.prog W.w) A (letOwnedTupleGo target (.ref it) v) Q E s

theorem Drw.mono {W : Wd} {A : Around} {z z' : Heap} {it : Addr} {n : Nat} {P : Nat → Value → Prop} {S : Nat → Obj → Prop} (D : Drw W A z it n P S) (h : z.StaysIn z') : Drw W A z' it n P S where
  next := fun i s E Q hi hz => D.next i s E Q hi fun b o e => hz b o (h b o e)
  stop := fun s E Q hz => D.stop s E Q fun b o e => hz b o (h b o e)
  again := D.again
  own := D.own

theorem own_plain {W : Wd} {A : Around} {it : Addr} {n : String} {vs : Array Value} {s : Shared} {E : Value → Shared → Prop} {Q : Unit → Shared → Prop} {target : Expr} {v : Value} {o : Obj} (ho : s.heap.get? it = some o) (hc : o.cls = .type n) (hd : o.data = .fields vs)
    (hn : ["enumerate", "zip", "dict_itemiterator", "dict_reverseitemiterator", "odict_iterator", "itertools.zip_longest", "itertools.pairwise"].contains n = false) (h : Q () s) :
    wpAny (model W.prog W.w) A (letOwnedTupleGo target (.ref it) v) Q E s := by
  have key : ∀ a : Addr, wpAny (model W.prog W.w) A (do
      let o ← load it
      match o.cls, o.data with
      | .type n, .fields vs =>
        if ["enumerate", "zip", "dict_itemiterator", "dict_reverseitemiterator", "odict_iterator", "itertools.zip_longest", "itertools.pairwise"].contains n && vs[0]? == some (rawInt a) then
          rule "for.unpacks-the-owned-tuple"
          updateField it 0 .none
      | _, _ => pure ()) Q E s := fun a => by
    refine wpAny_bind (wpAny_load ho ?_)
    rw [hc, hd]
    dsimp only
    rw [hn, Bool.false_and, if_neg Bool.false_ne_true]
    exact wpAny_pure h
  unfold letOwnedTupleGo
  split
  · cases v <;> first | exact key _ | exact wpAny_pure h
  · cases v <;> first | exact key _ | exact wpAny_pure h
  · exact wpAny_pure h

noncomputable def LI (l : Addr) (i : Nat) (o : Obj) : Prop := o.cls = .type "list_iterator" ∧ o.data = .fields #[.ref l, .int i 0]
theorem drw_list {W : Wd} {A : Around} {z : Heap} {l : Addr} {vs : List Value} {it : Addr} (hA : A.handled = none) (hl : z.IsList l vs.toArray) : Drw W A z it vs.length (fun i v => vs[i]? = some v) (LI l) where
  next := fun i s E Q hi hz ⟨o, ho, h1, h2⟩ hq => by
    have hl' : s.heap.IsList l vs.toArray := hl.at (hz l)
    refine wpAny_pyNext_list_item (i := i) (x := vs[i]) ⟨o, ho, h1, h2⟩ hl' (by simp [hi]) fun h' hit hs => ?_
    obtain ⟨o', ho', q⟩ := hit
    exact hq vs[i] h' s.toks (by simp [hi]) (fun b o hb e => (hs.2 b hb).trans e) ⟨o', ho', q⟩
  stop := fun s E Q hz ⟨o, ho, h1, h2⟩ hq => by
    have hl' : s.heap.IsList l vs.toArray := hl.at (hz l)
    exact wpAny_pyNext_list_end hA ⟨o, ho, h1, h2⟩ hl' (by simp) fun h' hs => hq h' s.toks fun b o hb e => hs b o hb e
  again := fun s E Q i ⟨o, ho, h1, h2⟩ hq => wpAny_pyIter_listiter ⟨o, ho, h1, h2⟩ hq
  own := fun s E Q i target v ⟨o, ho, h1, h2⟩ hq => own_plain ho h1 h2 (by decide) hq

noncomputable def RI (a : Int) (n : Nat) (i : Nat) (o : Obj) : Prop := o = { cls := .type "range_iterator", dict := none, data := .fields #[rawInt (a + i), rawInt ((n : Int) - i), rawInt 1], slots := #[] }
theorem drw_range {W : Wd} {A : Around} {z : Heap} {a : Int} {n : Nat} {it : Addr} (hA : A.handled = none) : Drw W A z it n (fun i v => ∃ t, v = .int (a + i) t) (RI a n) where
  next := fun i s E Q hi hz ⟨o, ho, h1⟩ hq => by
    subst h1
    refine wpAny_pyNext_range_item ho (by omega) fun h' hit hs => ?_
    refine hq _ h' (s.toks + 1) ⟨_, rfl⟩ (fun b o hb e => (hs.2 b hb).trans e) ⟨_, hit, ?_⟩
    simp only [RI, Obj.mk.injEq, Data.fields.injEq, true_and, and_true]
    have e1 : a + (i : Int) + 1 = a + ((i + 1 : Nat) : Int) := by omega
    have e2 : (n : Int) - i - 1 = (n : Int) - ((i + 1 : Nat) : Int) := by omega
    rw [e1, e2]
  stop := fun s E Q hz ⟨o, ho, h1⟩ hq => by
    subst h1
    exact wpAny_pyNext_range_end hA ho (by omega) fun h' hs => hq h' s.toks fun b o hb e => hs b o hb e
  again := fun s E Q i ⟨o, ho, h1⟩ hq => by subst h1; exact wpAny_pyIter_rangeiter ho hq
  own := fun s E Q i target v ⟨o, ho, h1⟩ hq => by subst h1; exact own_plain ho rfl rfl (by decide) hq

noncomputable def KI (d : Addr) (n ep : Nat) (i : Nat) (o : Obj) : Prop := o.cls = .type "dict_keyiterator" ∧ o.data = .fields #[.ref d, .int i 0, .int n 0, .int ep 0]
theorem drw_dict {W : Wd} {A : Around} {z : Heap} {d : Addr} {kvs : List (Int × Value)} {ep : Nat} {it : Addr} (hA : A.handled = none) (hd : z.DictAt (intKind W.prog W.w) d kvs ep) :
    Drw W A z it kvs.length (fun i v => ∃ k x t, kvs[i]? = some (k, x) ∧ v = .int k t) (KI d kvs.length ep) where
  next := fun i s E Q hi hz ⟨o, ho, h1, h2⟩ hq => by
    refine wpAny_pyNext_dict_item (knd := intKind W.prog W.w) (i := i) (k := kvs[i].1) (v := kvs[i].2) ⟨o, ho, h1, h2⟩ (hd.keep hz) (by simp [hi]) fun key h' hk hit hs => ?_
    obtain ⟨o', ho', q⟩ := hit
    obtain ⟨t, rfl⟩ := Value.isInt_shape hk
    exact hq _ h' s.toks ⟨kvs[i].1, kvs[i].2, t, by simp [hi], rfl⟩ (fun b o hb e => (hs.2 b hb).trans e) ⟨o', ho', q⟩
  stop := fun s E Q hz ⟨o, ho, h1, h2⟩ hq => wpAny_pyNext_dict_end (knd := intKind W.prog W.w) hA ⟨o, ho, h1, h2⟩ (hd.keep hz) (by simp) fun h' hs => hq h' s.toks fun b o hb e => hs b o hb e
  again := fun s E Q i ⟨o, ho, h1, h2⟩ hq => wpAny_pyIter_keyiter ⟨o, ho, h1, h2⟩ hq
  own := fun s E Q i target v ⟨o, ho, h1, h2⟩ hq => own_plain ho h1 h2 (by decide) hq

section
variable {W : Wd} {Γ : Ctx} {σ : St} {s : Shared} {env : Env}

theorem iter_list {l : Addr} {vs : List Value} {k : Value → St → Prop} {m : Loc} {mu : Mu} {z : Heap} (hl : z.IsList l vs.toArray) (h : ∀ it, k (.ref it) ⟨m, (it, .raw (LI l 0)) :: mu, z⟩) : Sat W Γ (pyIter (.ref l)) k ⟨m, mu, z⟩ := fun s c =>
  wpAny_pyIter_list (hl.at (c.zle l)) ⟨_, c.alloc (x := .raw (LI l 0)) (tk := s.toks) (fun b o e => Heap.get?_push_of_some _ e) ⟨_, Heap.get?_push_size _ rfl, rfl, rfl⟩
    (fun b hb => by rw [List.mem_singleton.mp hb]; exact Nat.le_refl _) (by simp [Asn.foot]), h _⟩
theorem iter_dict {d : Addr} {kvs : List (Int × Value)} {ep : Nat} {k : Value → St → Prop} {m : Loc} {mu : Mu} {z : Heap} (hs : (d == sysModules) = false) (hd : z.DictAt (intKind W.prog W.w) d kvs ep) (h : ∀ it, k (.ref it) ⟨m, (it, .raw (KI d kvs.length ep 0)) :: mu, z⟩) :
    Sat W Γ (pyIter (.ref d)) k ⟨m, mu, z⟩ := fun s c =>
  wpAny_pyIter_dict hs (hd.keep c.zle) ⟨_, c.alloc (x := .raw (KI d kvs.length ep 0)) (tk := s.toks) (fun b o e => Heap.get?_push_of_some _ e) ⟨_, Heap.get?_push_size _ rfl, rfl, rfl⟩
    (fun b hb => by rw [List.mem_singleton.mp hb]; exact Nat.le_refl _) (by simp [Asn.foot]), h _⟩

/-- the range object, read-only -/
noncomputable def IsRng (h : Heap) (r : Addr) (a b : Int) : Prop := ∃ t u v, IsRange h r a b 1 t u v
theorem call_range2 {a b : Int} {t u : Tok} {k : Value → St → Prop} {m : Loc} {mu : Mu} {z : Heap} (h : ∀ r z', z.StaysIn z' → IsRng z' r a b → k (.ref r) ⟨m, mu, z'⟩) : Sat W Γ (call (.type "range") [.int a t, .int b u]) k ⟨m, mu, z⟩ := fun s c => by
  refine call_range_2 ?_
  have c' := c.alloc (a := s.heap.objs.size) (h' := s.heap.push { cls := .type "range", data := .fields #[.int a t, .int b u, .int 1 s.toks] }) (tk := s.toks + 1)
    (x := .raw fun o => ∃ t u v, o = { cls := .type "range", data := .fields #[.int a t, .int b u, .int 1 v] }) (fun b o e => Heap.get?_push_of_some _ e) ⟨_, Heap.get?_push_size _ rfl, _, _, _, rfl⟩
    (fun b hb => by rw [List.mem_singleton.mp hb]; exact Nat.le_refl _) (by simp [Asn.foot])
  obtain ⟨z', h1, ⟨o, ho, t, u, v, rfl⟩, c''⟩ := c'.freeze (pre := []) (fun b hb => by rw [List.mem_singleton.mp hb]; exact c.size)
  exact ⟨_, c'', h _ z' h1 ⟨t, u, v, ho⟩⟩
theorem call_range1 {b : Int} {u : Tok} {k : Value → St → Prop} {m : Loc} {mu : Mu} {z : Heap} (h : ∀ r z', z.StaysIn z' → IsRng z' r 0 b → k (.ref r) ⟨m, mu, z'⟩) : Sat W Γ (call (.type "range") [.int b u]) k ⟨m, mu, z⟩ := fun s c => by
  refine call_range_1 ?_
  have c' := c.alloc (a := s.heap.objs.size) (h' := s.heap.push { cls := .type "range", data := .fields #[.int 0 s.toks, .int b u, .int 1 (s.toks + 1)] }) (tk := s.toks + 1 + 1)
    (x := .raw fun o => ∃ t u v, o = { cls := .type "range", data := .fields #[.int 0 t, .int b u, .int 1 v] }) (fun b o e => Heap.get?_push_of_some _ e) ⟨_, Heap.get?_push_size _ rfl, _, _, _, rfl⟩
    (fun b hb => by rw [List.mem_singleton.mp hb]; exact Nat.le_refl _) (by simp [Asn.foot])
  obtain ⟨z', h1, ⟨o, ho, t, u, v, rfl⟩, c''⟩ := c'.freeze (pre := []) (fun b hb => by rw [List.mem_singleton.mp hb]; exact c.size)
  exact ⟨_, c'', h _ z' h1 ⟨t, u, v, ho⟩⟩
theorem iter_range {r : Addr} {a b : Int} {k : Value → St → Prop} {m : Loc} {mu : Mu} {z : Heap} (hr : IsRng z r a b) (ha : -(2 ^ 40) < a ∧ a < 2 ^ 40) (hb : -(2 ^ 40) < b ∧ b < 2 ^ 40) (h : ∀ it, k (.ref it) ⟨m, (it, .raw (RI a (b - a).toNat 0)) :: mu, z⟩) :
    Sat W Γ (pyIter (.ref r)) k ⟨m, mu, z⟩ := fun s c => by
  obtain ⟨t, u, v, hr⟩ := hr
  have hsmall : Builtin.Range.small a b 1 = true := by
    unfold Builtin.Range.small
    rw [PyProof.Rows.rangeSize_nat]
    simp only [Builtin.Range.rangeFitsLong, Bool.and_eq_true, Bool.or_eq_true, decide_eq_true_eq]
    refine ⟨⟨⟨⟨?_, ?_⟩, ?_⟩, ?_⟩, .inr ?_⟩
    all_goals first | omega | (constructor <;> omega) | skip
    rw [if_pos (by decide)]
    simp only [decide_eq_true_eq, Bool.and_eq_true]
    omega
  refine wpAny_pyIter_range (c.zle r _ hr) hsmall ⟨_, c.alloc (x := .raw (RI a (b - a).toNat 0)) (tk := s.toks) (fun b o e => Heap.get?_push_of_some _ e) ⟨_, Heap.get?_push_size _ rfl, ?_⟩
    (fun b hb => by rw [List.mem_singleton.mp hb]; exact Nat.le_refl _) (by simp [Asn.foot]), h _⟩
  rw [PyProof.Rows.rangeSize_nat]
  simp [RI]

theorem foots_sub {a b : Mu} (h : a.Sublist b) : (foots a).Sublist (foots b) := by
  induction h with
  | slnil => exact List.Sublist.refl _
  | cons p _ ih => simp only [foots, List.flatMap_cons]; exact ih.trans (List.sublist_append_right _ _)
  | cons_cons p _ ih => simp only [foots, List.flatMap_cons]; exact List.Sublist.append (List.Sublist.refl _) ih
theorem Coh.sub {m : Loc} {mu mu' : Mu} {z : Heap} (c : Coh W Γ ⟨m, mu, z⟩ s) (h : mu'.Sublist mu) : Coh W Γ ⟨m, mu', z⟩ s := c.perm (fun p hp => h.subset hp) ((foots_sub h).nodup c.mund)
theorem Sat.sub {α : Type} {t : Sem α} {k : α → St → Prop} {m : Loc} {mu mu' : Mu} {z : Heap} (h : Sat W Γ t k ⟨m, mu', z⟩) (hs : mu'.Sublist mu) : Sat W Γ t k ⟨m, mu, z⟩ := h.weak fun s c => c.sub hs

theorem Coh.updrop {m : Loc} {pre post : Mu} {z : Heap} {a : Addr} {x : Asn} (c : Coh W Γ ⟨m, pre ++ (a, x) :: post, z⟩ s) {h' : Heap} {tk : Nat}
    (hk : ∀ b o, b ∉ x.foot a → s.heap.get? b = some o → h'.get? b = some o) : Coh W Γ ⟨m, pre ++ post, z⟩ { s with heap := h', toks := tk } := by
  have cd : Coh W Γ ⟨m, pre ++ post, z⟩ s := c.drop
  have hin : ∀ b ∈ x.foot a, b ∈ foots (pre ++ (a, x) :: post) := fun b hb => List.mem_flatMap.mpr ⟨(a, x), by simp, hb⟩
  have nd' : (foots pre ++ (x.foot a ++ foots post)).Nodup := by simpa [foots] using c.mund
  rw [List.nodup_append, List.nodup_append] at nd'
  have off : ∀ b ∈ foots (pre ++ post), b ∉ x.foot a := fun b hb h => by
    rcases List.mem_append.mp (by simpa [foots] using hb : b ∈ foots pre ++ foots post) with w | w
    · exact nd'.2.2 b w b (List.mem_append_left _ h) rfl
    · exact nd'.2.1.2.2 b h b w rfl
  exact {
    rest := by have := c.rest; rw [this]
    ns := by
      obtain ⟨o, es, ep, ho, r⟩ := c.ns
      exact ⟨o, es, ep, hk _ _ (fun h => (c.muz _ (hin _ h)).2.1 rfl) ho, r⟩
    Lnew := c.Lnew
    keep := fun b o hb ht e => hk b o (fun h => by
      rcases c.munew _ (hin _ h) with q | q
      · exact hb q
      · exact absurd (Heap.lt_size e) (Nat.not_lt.mpr q)) (c.keep b o hb ht e)
    zle := fun b o e => hk b o (fun h => by have := (c.muz _ (hin _ h)).1; rw [e] at this; cases this) (c.zle b o e)
    z0 := c.z0
    zgrow := c.zgrow
    zL := c.zL
    mu := fun p hp => (cd.mu p hp).same fun b hb o e => hk b o (off b (List.mem_flatMap.mpr ⟨p, hp, hb⟩)) e
    muz := cd.muz
    munew := cd.munew
    mund := cd.mund
    tabs := c.tabs.mono (fun _ _ e => e) (fun t ht => (c.tabs t ht).1) fun t ht o e => hk _ _ (fun h => (c.muz _ (hin _ h)).2.2 (List.mem_map.mpr ⟨t, ht, rfl⟩)) e
    tlow := c.tlow
    Bz := c.Bz
    Bn := c.Bn }

theorem Coh.iterStep {m : Loc} {mu : Mu} {z : Heap} {it : Addr} {S S' : Obj → Prop} (c : Coh W Γ ⟨m, (it, .raw S) :: mu, z⟩ s) {h' : Heap} {tk : Nat} (hk : ∀ b o, b ≠ it → s.heap.get? b = some o → h'.get? b = some o) (hS : ∃ o, h'.get? it = some o ∧ S' o) :
    Coh W Γ ⟨m, (it, .raw S') :: mu, z⟩ { s with heap := h', toks := tk } :=
  Coh.upd (pre := []) (x := .raw S) (y := .raw S') c rfl (fun b o hb e => hk b o (by simpa [Asn.foot] using hb) e) hS

noncomputable def LoopEnd (z₀ : Heap) (it : Addr) (S : Obj → Prop) (J : Loc → Mu → Heap → Prop) (k : Flow → St → Prop) : Flow → St → Prop
  | .next, σ => ∃ mu', ((it, Asn.raw S) :: mu').Sublist σ.mu ∧ z₀.StaysIn σ.z ∧ J σ.m mu' σ.z
  | .cont, σ => ∃ mu', ((it, Asn.raw S) :: mu').Sublist σ.mu ∧ z₀.StaysIn σ.z ∧ J σ.m mu' σ.z
  | .brk, σ => k .next σ
  | .ret v, σ => k (.ret v) σ

/-- how an exception that a loop's body lets out comes back -/
noncomputable def EBack (W : Wd) (Γ : Ctx) (env : Env) : Prop := ∀ e s, Γ.E e s → notedBy (model W.prog W.w) Γ.A env (fun x s' => cameBackBy (model W.prog W.w) Γ.A env Γ.E x s') e s
theorem NoE.back (h : NoE Γ) : EBack W Γ env := fun e s x => (h e s x).elim

theorem for_late {target iter : Expr} {body : List Stmt} {pos : Pos} {k : Flow → St → Prop} (hE : EBack W Γ env)
    (h : Sat W Γ (eval iter env) (fun x σ₁ => Sat W Γ (pyIter x) (fun itv σ₂ => ∃ it n P S mu₂, ∃ J : Nat → Loc → Mu → Heap → Prop, itv = .ref it ∧ σ₂.mu = (it, .raw (S 0)) :: mu₂ ∧ Drw W Γ.A σ₂.z it n P S ∧ J 0 σ₂.m mu₂ σ₂.z ∧
      (∀ i v m mu z, i < n → P i v → σ₂.z.StaysIn z → J i m mu z → Sat W Γ (assign target env v) (fun _ σ₃ => Sat W Γ (execs body env) (LoopEnd σ₂.z it (S (i + 1)) (J (i + 1)) k) σ₃) ⟨m, (it, .raw (S (i + 1))) :: mu, z⟩) ∧
      (∀ m mu z, σ₂.z.StaysIn z → J n m mu z → k .next ⟨m, mu, z⟩)) σ₁) σ)
    (hs : ∀ x, foldedSetIterable iter env x = Pure.pure x := by intro _; rfl) : Sat W Γ (exec (.For target iter body [] pos) env) k σ := fun s c => by
  refine wpAny_For (h.run c fun x s₁ σ₁ c₁ h₁ => h₁.run c₁ fun itv s₂ σ₂ c₂ h₂ => ?_) hs
  obtain ⟨it, n, P, S, mu₂, J, rfl, hmu, D, h0, turn, done⟩ := h₂
  refine codeAny_forLoop_any (fun j s' => ∃ i m mu z, j = n - i ∧ i ≤ n ∧ σ₂.z.StaysIn z ∧ J i m mu z ∧ Coh W Γ ⟨m, (it, .raw (S i)) :: mu, z⟩ s') (fun j s' hI => ?_) n ⟨0, σ₂.m, mu₂, σ₂.z, rfl, Nat.zero_le _, fun _ _ e => e, h0, by
    have := c₂; rw [show σ₂ = ⟨σ₂.m, σ₂.mu, σ₂.z⟩ from rfl, hmu] at this; exact this⟩
  obtain ⟨i, m, mu, z, rfl, hi, hz, hJ, c'⟩ := hI
  have hit : ∃ o, s'.heap.get? it = some o ∧ S i o := c'.mu (it, .raw (S i)) (.head _)
  have D' := D.mono hz
  rcases Nat.lt_or_ge i n with hlt | hge
  · refine D'.next i s' _ _ hlt c'.zle hit fun v h' tk hp hk hS => ?_
    have cN : Coh W Γ ⟨m, (it, .raw (S (i + 1))) :: mu, z⟩ { s' with heap := h', toks := tk } := c'.iterStep hk hS
    refine D'.own _ _ _ (i + 1) target v hS ?_
    have T := turn i v m mu z hlt hp hz hJ
    refine wpAny_mono (T _ cN) (fun _ s₃ ⟨σ₃, c₃, h₃⟩ => ?_) fun e s₃ x => hE e s₃ x
    refine wpAny_mono (h₃ s₃ c₃) (fun f s₄ ⟨σ₄, c₄, h₄⟩ => ?_) fun e s₄ x => hE e s₄ x
    have go : (∃ mu', ((it, Asn.raw (S (i + 1))) :: mu').Sublist σ₄.mu ∧ σ₂.z.StaysIn σ₄.z ∧ J (i + 1) σ₄.m mu' σ₄.z) →
        ∃ m_1, m_1 < n - i ∧ ∃ i m mu z, m_1 = n - i ∧ i ≤ n ∧ σ₂.z.StaysIn z ∧ J i m mu z ∧ Coh W Γ ⟨m, (it, .raw (S i)) :: mu, z⟩ s₄ := fun ⟨mu', hsub, hz', hJ'⟩ =>
      ⟨n - (i + 1), by omega, i + 1, σ₄.m, mu', σ₄.z, rfl, hlt, hz', hJ', c₄.sub hsub⟩
    cases f with
    | next => exact go h₄
    | cont => exact go h₄
    | brk => exact ⟨σ₄, c₄, h₄⟩
    | ret v => exact ⟨σ₄, c₄, h₄⟩
  · obtain rfl : i = n := Nat.le_antisymm hi hge
    refine D'.stop s' _ _ c'.zle hit fun h' tk hk => ?_
    refine wpAny_execs_nil ⟨⟨m, mu, z⟩, ?_, done m mu z hz hJ⟩
    exact Coh.updrop (pre := []) (x := .raw (S i)) c' fun b o hb e => hk b o (by simpa [Asn.foot] using hb) e
theorem for_any {target iter : Expr} {body : List Stmt} {pos : Pos} {k : Flow → St → Prop} (J : Nat → Loc → Mu → Heap → Prop) (hE : EBack W Γ env)
    (h : Sat W Γ (eval iter env) (fun x σ₁ => Sat W Γ (pyIter x) (fun itv σ₂ => ∃ it n P S mu₂, itv = .ref it ∧ σ₂.mu = (it, .raw (S 0)) :: mu₂ ∧ Drw W Γ.A σ₂.z it n P S ∧ J 0 σ₂.m mu₂ σ₂.z ∧
      (∀ i v m mu z, i < n → P i v → σ₂.z.StaysIn z → J i m mu z → Sat W Γ (assign target env v) (fun _ σ₃ => Sat W Γ (execs body env) (LoopEnd σ₂.z it (S (i + 1)) (J (i + 1)) k) σ₃) ⟨m, (it, .raw (S (i + 1))) :: mu, z⟩) ∧
      (∀ m mu z, σ₂.z.StaysIn z → J n m mu z → k .next ⟨m, mu, z⟩)) σ₁) σ)
    (hs : ∀ x, foldedSetIterable iter env x = Pure.pure x := by intro _; rfl) : Sat W Γ (exec (.For target iter body [] pos) env) k σ :=
  for_late hE (h.mono fun _ _ h => h.mono fun _ _ ⟨it, n, P, S, mu₂, h1, h2, h3, h4, h5, h6⟩ => ⟨it, n, P, S, mu₂, J, h1, h2, h3, h4, h5, h6⟩) hs
end
end Mine
namespace Mine
open PySem PySem.W PyProof.Rows PySem.Calls

noncomputable abbrev LZ (z : Heap) (l : Addr) (vs : List Value) : Prop := ∃ n, z.get? l = some (listOf vs.toArray n)
theorem LZ.isList {z : Heap} {l : Addr} {vs : List Value} (x : LZ z l vs) : z.IsList l vs.toArray := let ⟨n, h⟩ := x; ⟨_, h, rfl, n, rfl⟩
theorem LZ.mono {z z' : Heap} {l : Addr} {vs : List Value} (x : LZ z l vs) (h : z.StaysIn z') : LZ z' l vs := let ⟨n, e⟩ := x; ⟨n, h _ _ e⟩
theorem IsTup.mono {z z' : Heap} {a : Addr} {vs : Array Value} (x : IsTup z a vs) (h : z.StaysIn z') : IsTup z' a vs := x.keeps h

/-- a list at hand: one's own, or a frozen one -/
noncomputable def LIn (σ : St) (l : Addr) (vs : List Value) : Prop := (l, .list vs) ∈ σ.mu ∨ LZ σ.z l vs
theorem LIn.own {σ : St} {l : Addr} {vs : List Value} (h : (l, .list vs) ∈ σ.mu) : LIn σ l vs := .inl h
theorem LIn.fz {σ : St} {l : Addr} {vs : List Value} (h : LZ σ.z l vs) : LIn σ l vs := .inr h

section
variable {W : Wd} {Γ : Ctx} {σ : St} {s : Shared} {env : Env}
theorem LIn.at {l : Addr} {vs : List Value} (h : LIn σ l vs) (c : Coh W Γ σ s) : LZ s.heap l vs := h.elim (fun h => c.mu _ h) fun h => h.mono c.zle

-- ints and bools
theorem i_add {a b : Int} {t u : Tok} {k : Value → St → Prop} (h : ∀ t, k (.int (a + b) t) σ) : Sat W Γ (binaryOp .Add (.int a t) (.int b u)) k σ := fun s c => add_int ⟨σ, c.toks _, h _⟩
theorem i_iadd {a b : Int} {t u : Tok} {k : Value → St → Prop} (h : ∀ t, k (.int (a + b) t) σ) : Sat W Γ (inplaceOp .Add (.int a t) (.int b u)) k σ := fun s c => iadd_int ⟨σ, c.toks _, h _⟩
theorem i_sub {a b : Int} {t u : Tok} {k : Value → St → Prop} (h : ∀ t, k (.int (a - b) t) σ) : Sat W Γ (binaryOp .Sub (.int a t) (.int b u)) k σ := fun s c => sub_int ⟨σ, c.toks _, h _⟩
theorem i_neg {a : Int} {t : Tok} {k : Value → St → Prop} (h : ∀ t, k (.int (-a) t) σ) : Sat W Γ (unaryOp .USub (.int a t)) k σ := fun s c => neg_int ⟨σ, c.toks _, h _⟩
theorem i_lt {a b : Int} {t u : Tok} {k : Value → St → Prop} (h : k (.bool (decide (a < b))) σ) : Sat W Γ (compareOp .Lt (.int a t) (.int b u)) k σ := fun s c => lt_int ⟨σ, c, h⟩
theorem i_le {a b : Int} {t u : Tok} {k : Value → St → Prop} (h : k (.bool (decide (a ≤ b))) σ) : Sat W Γ (compareOp .LtE (.int a t) (.int b u)) k σ := fun s c => le_int ⟨σ, c, h⟩
theorem i_gt {a b : Int} {t u : Tok} {k : Value → St → Prop} (h : k (.bool (decide (a > b))) σ) : Sat W Γ (compareOp .Gt (.int a t) (.int b u)) k σ := fun s c => gt_int ⟨σ, c, h⟩
theorem i_ge {a b : Int} {t u : Tok} {k : Value → St → Prop} (h : k (.bool (decide (a ≥ b))) σ) : Sat W Γ (compareOp .GtE (.int a t) (.int b u)) k σ := fun s c => ge_int ⟨σ, c, h⟩
theorem i_eq {a b : Int} {t u : Tok} {k : Value → St → Prop} (h : k (.bool (a == b)) σ) : Sat W Γ (compareOp .Eq (.int a t) (.int b u)) k σ := fun s c => eq_int ⟨σ, c, h⟩
theorem i_ne {a b : Int} {t u : Tok} {k : Value → St → Prop} (h : k (.bool (a != b)) σ) : Sat W Γ (compareOp .NotEq (.int a t) (.int b u)) k σ := fun s c => ne_int ⟨σ, c, h⟩
theorem b_eq {a b : Bool} {k : Value → St → Prop} (h : k (.bool (a == b)) σ) : Sat W Γ (compareOp .Eq (.bool a) (.bool b)) k σ := fun s c => eq_bool ⟨σ, c, h⟩
theorem b_ne {a b : Bool} {k : Value → St → Prop} (h : k (.bool (a != b)) σ) : Sat W Γ (compareOp .NotEq (.bool a) (.bool b)) k σ := fun s c => ne_bool ⟨σ, c, h⟩
theorem v_is_none {v : Value} {k : Value → St → Prop} (h : k (.bool (v == .none)) σ) : Sat W Γ (compareOp .Is v .none) k σ := fun s c => is_none ⟨σ, c, h⟩
theorem v_isnt_none {v : Value} {k : Value → St → Prop} (h : k (.bool (!(v == .none))) σ) : Sat W Γ (compareOp .IsNot v .none) k σ := fun s c => isNot_none ⟨σ, c, h⟩
theorem u_not {v : Value} {k : Value → St → Prop} (h : Sat W Γ (truthy v) (fun b => k (.bool (!b))) σ) : Sat W Γ (unaryOp .Not v) k σ := fun s c => not_value (h s c)
theorem int_int {n : Int} {u : Tok} {k : Value → St → Prop} (h : k (.int n u) σ) : Sat W Γ (call (.type "int") [.int n u]) k σ := fun s c => call_int_int ⟨σ, c, h⟩
theorem int_bool {b : Bool} {k : Value → St → Prop} (h : ∀ t, k (.int (if b then 1 else 0) t) σ) : Sat W Γ (call (.type "int") [.bool b]) k σ := fun s c => call_int_bool ⟨σ, c.toks _, h _⟩
theorem max_ints {a b : Int} {t u : Tok} {k : Value → St → Prop} (R : Room 1 Γ.A) (h : ∀ t, k (.int (if b > a then b else a) t) σ) : Sat W Γ (call (.builtin "max") [.int a t, .int b u]) k σ := fun s c =>
  max_two_N R.handled c.F c.N fun h' tk F' N' => ⟨σ, c.viaNews F' N' fun _ h => h, h _⟩

-- calls
theorem cw_b {pos : Pos} {id : String} {first : List Value} {e : Expr} {rest : List Expr} {k : Value → St → Prop}
    (h : Sat W Γ (spliced (backTo pos (starEach (e :: rest) env))) (fun vs σ₁ => Sat W Γ (call (.builtin id) (first ++ vs)) k σ₁) σ)
    (he : starEach (e :: rest) env = (false, eval e env) :: starEach rest env := by rfl) (hplain : (backTo pos (starEach rest env)).any (·.1) = false := by rfl) :
    Sat W Γ (callWith pos (.builtin id) first (backTo pos (starEach (e :: rest) env)) []) k σ := fun s c => callWith_method1 (h.run c fun vs s₁ σ₁ c₁ x => x s₁ c₁) he hplain
theorem cw_t {pos : Pos} {T : String} {e : Expr} {rest : List Expr} {k : Value → St → Prop}
    (h : Sat W Γ (spliced (backTo pos (starEach (e :: rest) env))) (fun vs σ₁ => Sat W Γ (call (.type T) vs) k σ₁) σ)
    (he : starEach (e :: rest) env = (false, eval e env) :: starEach rest env := by rfl) (hplain : (backTo pos (starEach rest env)).any (·.1) = false := by rfl) :
    Sat W Γ (callWith pos (.type T) [] (backTo pos (starEach (e :: rest) env)) []) k σ := fun s c => PySem.Pv.callWith_type1 (h.run c fun vs s₁ σ₁ c₁ x => x s₁ c₁) he hplain
theorem cw_f {pos : Pos} {f : Addr} {first : List Value} {e : Expr} {rest : List Expr} {k : Value → St → Prop} (WO : Base W W.B) (hk : keepIn W.K (.ref f) = true)
    (h : Sat W Γ (spliced (backTo pos (starEach (e :: rest) env))) (fun vs σ₁ => Sat W Γ (call (.ref f) (first ++ vs)) k σ₁) σ)
    (he : starEach (e :: rest) env = (false, eval e env) :: starEach rest env := by rfl) (hplain : (backTo pos (starEach rest env)).any (·.1) = false := by rfl) :
    Sat W Γ (callWith pos (.ref f) first (backTo pos (starEach (e :: rest) env)) []) k σ := fun s c =>
  callWith_K (c.base WO).K hk (h.run c fun vs s₁ σ₁ c₁ x => ⟨(c₁.base WO).K, x s₁ c₁⟩) he hplain
theorem cw_f0 {pos : Pos} {f : Addr} {first : List Value} {k : Value → St → Prop} (WO : Base W W.B) (hk : keepIn W.K (.ref f) = true)
    (h : Sat W Γ (call (.ref f) (first ++ [])) k σ) : Sat W Γ (callWith pos (.ref f) first (backTo pos (starEach [] env)) []) k σ := fun s c => callWith_K0 (c.base WO).K hk (h s c)
/-- a function object of the heap's -/
noncomputable def IsFnAt (z : Heap) (f : Addr) : Prop := ∃ o fd, z.get? f = some o ∧ o.data = .func fd
theorem keeps_fn {M : Model} {z : Heap} {f : Addr} (hf : IsFnAt z f) (h : Heap) (X : z.StaysIn h) : ∃ k, (k = Keeper.frame ∨ k = Keeper.machine ∨ k = Keeper.boundFrame) ∧ Looks M h (keeperOf (.ref f)) k := by
  obtain ⟨⟨c, d, dt, sl⟩, fd, ho, hd⟩ := hf
  dsimp only at hd
  subst hd
  exact ⟨.frame, .inl rfl, (Looks.ld (part := none) (X _ _ ho)).andThen .now⟩
theorem cw_z {pos : Pos} {f : Addr} {e : Expr} {rest : List Expr} {k : Value → St → Prop} (hf : IsFnAt Γ.z₀ f)
    (h : Sat W Γ (spliced (backTo pos (starEach (e :: rest) env))) (fun vs σ₁ => Sat W Γ (call (.ref f) vs) k σ₁) σ)
    (he : starEach (e :: rest) env = (false, eval e env) :: starEach rest env := by rfl) (hplain : (backTo pos (starEach rest env)).any (·.1) = false := by rfl) :
    Sat W Γ (callWith pos (.ref f) [] (backTo pos (starEach (e :: rest) env)) []) k σ := fun s c => by
  have h' : wpAny (model W.prog W.w) Γ.A (spliced (backTo pos (starEach (e :: rest) env))) (fun vs s₁ => Γ.z₀.StaysIn s₁.heap ∧ wpAny (model W.prog W.w) Γ.A (call (.ref f) ([] ++ vs)) (fun a s' => ∃ σ', Coh W Γ σ' s' ∧ k a σ') Γ.E s₁) Γ.E s :=
    h.run c fun vs s₁ σ₁ c₁ x => ⟨fun b o e => c₁.zle b o (c₁.z0 b o e), x s₁ c₁⟩
  rw [he] at h' ⊢
  exact callWith_of (P := fun h => Γ.z₀.StaysIn h) (by show ((false || (backTo pos (starEach rest env)).any (·.1)) || false) = false; rw [hplain]; rfl) (keeps_fn hf) (evalArgs_plain h')
theorem cw_z0 {pos : Pos} {f : Addr} {k : Value → St → Prop} (hf : IsFnAt σ.z f) (h : Sat W Γ (call (.ref f) []) k σ) : Sat W Γ (callWith pos (.ref f) [] (backTo pos (starEach [] env)) []) k σ := fun s c =>
  callWith_of (P := fun h => σ.z.StaysIn h) rfl (keeps_fn hf) (evalArgs_nil3 ⟨c.zle, h s c⟩)

-- lists
theorem l_len {l : Addr} {vs : List Value} {k : Value → St → Prop} (hl : LIn σ l vs) (hn : vs.length < 2 ^ 60) (h : ∀ t, k (.int vs.length t) σ) : Sat W Γ (call (.builtin "len") [.ref l]) k σ := fun s c => by
  refine call_len_list (hl.at c).isList (by simp; omega) ⟨σ, c.toks _, ?_⟩
  simpa using h (s.toks + 1)
theorem l_get {value slice : Expr} {l : Addr} {vs : List Value} {i : Int} {t : Tok} {v : Value} {k : Value → St → Prop} (hl : LIn σ l vs) (h0 : 0 ≤ i) (hi : i < 2 ^ 60) (hv : vs[i.toNat]? = some v) (h : k v σ)
    (hs : subscripted slice false (.ref l) (.int i t) = operate [.ref l, .int i t] (getItem (.ref l) (.int i t)) := by with_unfolding_all rfl) : Sat W Γ (subscriptTail value slice (.ref l) (.int i t)) k σ := fun s c =>
  have q := (hl.at c).isList
  tail_any q.typeIs slot_list_getitem.lookup (wpAny_getItem_list q h0 (by omega) (by simpa using hv) ⟨σ, c, h⟩) hs
theorem l_last {value slice : Expr} {l : Addr} {vs : List Value} {t : Tok} {v : Value} {k : Value → St → Prop} (hl : LIn σ l vs) (hv : vs.getLast? = some v) (h : k v σ)
    (hs : subscripted slice false (.ref l) (.int (-1) t) = operate [.ref l, .int (-1) t] (getItem (.ref l) (.int (-1) t)) := by with_unfolding_all rfl) : Sat W Γ (subscriptTail value slice (.ref l) (.int (-1) t)) k σ := fun s c => by
  have q := (hl.at c).isList
  have hne : vs ≠ [] := fun e => by rw [e] at hv; cases hv
  have hpos : 0 < vs.length := List.length_pos_iff.mpr hne
  refine tail_any q.typeIs slot_list_getitem.lookup (wpAny_getItem_list_neg q (by decide) (by simp; omega) (by decide) ?_ ⟨σ, c, h⟩) hs
  have e : ((-1 : Int) + ((vs.toArray.size : Nat) : Int)).toNat = vs.length - 1 := by simp; omega
  rw [e, List.getLast?_eq_getElem?] at *
  simpa using hv
theorem l_append {l : Addr} {vs : List Value} {x : Value} {k : Value → St → Prop} {m : Loc} {pre post : Mu} {z : Heap} (hsz : vs.length ≤ 1000000) (h : k .none ⟨m, pre ++ (l, .list (vs ++ [x])) :: post, z⟩) :
    Sat W Γ (call (.builtin "list.append") [.ref l, x]) k ⟨m, pre ++ (l, .list vs) :: post, z⟩ := fun s c => by
  obtain ⟨n, ho⟩ := c.mu (l, .list vs) (by simp)
  refine append_at (its := vs.toArray) ho (fun h' hs ho' => ⟨_, c.upd (y := .list (vs ++ [x])) (tk := s.toks) rfl (fun b o hb e => (hs.2 b (by simpa [Asn.foot] using hb)).trans e) ⟨n + 1, ?_⟩, h⟩) (by rw [sizeLine_eq]; simp; omega)
  rw [ho']; simp
theorem l_append0 {l : Addr} {vs : List Value} {x : Value} {k : Value → St → Prop} {m : Loc} {post : Mu} {z : Heap} (hsz : vs.length ≤ 1000000) (h : k .none ⟨m, (l, .list (vs ++ [x])) :: post, z⟩) :
    Sat W Γ (call (.builtin "list.append") [.ref l, x]) k ⟨m, (l, .list vs) :: post, z⟩ := l_append (pre := []) hsz h
theorem l_meth {l : Addr} {vs : List Value} {pl : Sem Bool} {k : Value × List Value → St → Prop} (hl : LIn σ l vs) (h : k (.builtin "list.append", [.ref l]) σ) : Sat W Γ (getMethod (.ref l) "append" pl) k σ := fun s c => by
  obtain ⟨n, ho⟩ := hl.at c
  exact getMethod_builtin ⟨_, ho, rfl⟩ PySem.F.plainAttrs_list PySem.F.slot_list_append PySem.F.type_list_append (fun a e => by cases e; exact ⟨_, ho, rfl⟩) ⟨σ, c, h⟩
theorem l_copy {l : Addr} {vs : List Value} {k : Value → St → Prop} {m : Loc} {mu : Mu} {z : Heap} (hl : LIn ⟨m, mu, z⟩ l vs) (hsz : vs.length ≤ 1000000) (h : ∀ a, k (.ref a) ⟨m, (a, .list vs) :: mu, z⟩) : Sat W Γ (call (.type "list") [.ref l]) k ⟨m, mu, z⟩ := fun s c => by
  obtain ⟨n, ho⟩ := hl.at c
  exact call_list_seq l (.inl rfl) ho rfl rfl (fun h' c' hk hD => ⟨_, c.alloc (x := .list vs) (tk := s.toks) hk ⟨c', hD⟩ (fun b hb => by rw [List.mem_singleton.mp hb]; exact Nat.le_refl _) (by simp [Asn.foot]), h _⟩) (by rw [sizeLine_eq]; simp; omega)
theorem l_add {l b : Addr} {vs ws : List Value} {k : Value → St → Prop} {m : Loc} {mu : Mu} {z : Heap} (hl : LIn ⟨m, mu, z⟩ l vs) (hb : LIn ⟨m, mu, z⟩ b ws) (hsz : vs.length + ws.length ≤ 1000000) (h : ∀ a, k (.ref a) ⟨m, (a, .list (vs ++ ws)) :: mu, z⟩) :
    Sat W Γ (binaryOp .Add (.ref l) (.ref b)) k ⟨m, mu, z⟩ := fun s c => by
  refine add_lists (hsz := by rw [sizeLine_eq]; omega) c.F c.N (hl.at c).isList (hb.at c).isList fun h' F' N' => ⟨_, ?_, h s.heap.objs.size⟩
  have c' : Coh W Γ ⟨m, mu, z⟩ { s with heap := h' } := c.viaNews (tk := s.toks) F' N' fun p hp => .tail _ hp
  exact c'.adopt (x := .list (vs ++ ws)) ⟨0, (N' _ (.head _)).1⟩ (fun b hb => by rw [List.mem_singleton.mp hb]; exact c.fresh (Nat.le_refl _)) (by simp [Asn.foot])

-- tuples
theorem t_get {value slice : Expr} {a : Addr} {vs : List Value} {i : Int} {t : Tok} {j : Nat} {v : Value} {k : Value → St → Prop} (ht : IsTup σ.z a vs.toArray) (hi : 0 ≤ i ∧ i < 1000) (hj : seqIndex? i vs.length = some j) (hv : vs[j]? = some v) (h : k v σ)
    (hs : subscripted slice false (.ref a) (.int i t) = operate [.ref a, .int i t] (getItem (.ref a) (.int i t)) := by with_unfolding_all rfl) : Sat W Γ (subscriptTail value slice (.ref a) (.int i t)) k σ := fun s c =>
  have q : IsTup s.heap a vs.toArray := ht.keeps c.zle
  tail_any (IsTup.typeIs q) slot_tuple_getitem.lookup (getItem_tuple q (by omega) (by omega) (by simpa using hj) (by simpa using hv) ⟨σ, c, h⟩) hs
theorem bind_name {x : Str} {v : Value} {k : Unit → St → Prop} (h : Sat W Γ (storeName env x v) k σ) : Sat W Γ (bindName env x v) k σ := fun s c => wpAny_bindName (h s c)
theorem as_name {x : Str} {pos : Pos} {v : Value} {k : Unit → St → Prop} (h : Sat W Γ (storeName env x v) k σ) : Sat W Γ (assign (.Name x pos) env v) k σ := fun s c => by
  exact PyProof.Rows.assign_Name (h s c)
theorem io_nil {k : Unit → St → Prop} (h : k () σ) : Sat W Γ (assignInOrder [] []) k σ := Sat.pure h
theorem io_cons {t : Value → Sem Unit} {ts : List (Value → Sem Unit)} {v : Value} {vs : List Value} {k : Unit → St → Prop} (h : Sat W Γ (t v) (fun _ σ₁ => Sat W Γ (assignInOrder ts vs) k σ₁) σ) : Sat W Γ (assignInOrder (t :: ts) (v :: vs)) k σ := fun s c =>
  wpAny_bind (wpAny_holding (h.run c fun _ s₁ σ₁ c₁ x => x s₁ c₁))
theorem un_tup {elts : List Expr} {x1 : Nat} {pos : Pos} {a : Addr} {vs : List Value} {k : Unit → St → Prop} (R : Room 1 Γ.A) (ht : IsTup σ.z a vs.toArray) (hn : (assignEach elts env).length = vs.length) (hstar : (assignEach elts env).findIdx? (·.1) = none)
    (h : Sat W Γ (assignInOrder ((assignEach elts env).map (·.2)) vs) k σ) : Sat W Γ (assign (.Tuple elts x1 pos) env (.ref a)) k σ := fun s c =>
  assign_Tuple_tuple R.handled (ht.keeps c.zle) (by simpa using hn) hstar fun h' he => h _ (c.ext (tk := s.toks) fun b o e => he b o (Nat.ne_of_lt (Heap.lt_size e)) e)
theorem un_items {a : Addr} {vs : List Value} {n : Nat} {k : List Value → St → Prop} (R : Room 1 Γ.A) (ht : IsTup σ.z a vs.toArray) (hn : n = vs.length) (h : k vs σ) : Sat W Γ (unpackItems (.ref a) n none) k σ := fun s c => by
  have q : s.heap.IsTuple a vs.toArray := ht.keeps c.zle
  have := wpAny_unpackItems_tuple (prog := W.prog) (w := W.w) (A := Γ.A) (E := Γ.E) (Q := fun r s' => ∃ σ', Coh W Γ σ' s' ∧ k r σ') R.handled q fun h' he => ⟨σ, c.ext (tk := s.toks) fun b o e => he b o (Nat.ne_of_lt (Heap.lt_size e)) e, h⟩
  subst hn
  simpa using this
theorem un_pair {x y : Str} {px py pos : Pos} {x1 : Nat} {a : Addr} {v1 v2 : Value} {k : Unit → St → Prop} (R : Room 1 Γ.A) (ht : IsTup σ.z a [v1, v2].toArray)
    (h : Sat W Γ (storeName env x v1) (fun _ σ₁ => Sat W Γ (storeName env y v2) k σ₁) σ) : Sat W Γ (assign (.Tuple [.Name x px, .Name y py] x1 pos) env (.ref a)) k σ :=
  un_tup R ht rfl rfl (io_cons (as_name (h.mono fun _ _ h => io_cons (as_name (h.mono fun _ _ h => io_nil h)))))
theorem un_quad {x y u w : Str} {px py pu pw pos : Pos} {x1 : Nat} {a : Addr} {v1 v2 v3 v4 : Value} {k : Unit → St → Prop} (R : Room 1 Γ.A) (ht : IsTup σ.z a [v1, v2, v3, v4].toArray)
    (h : Sat W Γ (storeName env x v1) (fun _ σ₁ => Sat W Γ (storeName env y v2) (fun _ σ₂ => Sat W Γ (storeName env u v3) (fun _ σ₃ => Sat W Γ (storeName env w v4) k σ₃) σ₂) σ₁) σ) : Sat W Γ (assign (.Tuple [.Name x px, .Name y py, .Name u pu, .Name w pw] x1 pos) env (.ref a)) k σ :=
  un_tup R ht rfl rfl (io_cons (as_name (h.mono fun _ _ h => io_cons (as_name (h.mono fun _ _ h => io_cons (as_name (h.mono fun _ _ h => io_cons (as_name (h.mono fun _ _ h => io_nil h)))))))))
end
end Mine
namespace Mine
open PySem PySem.W PyProof.Rows PySem.Calls

section
variable {W : Wd} {Γ : Ctx} {σ : St} {s : Shared} {env : Env}

noncomputable def WEnd (z₀ : Heap) (n : Nat) (J : Nat → Loc → Mu → Heap → Prop) (k : Flow → St → Prop) : Flow → St → Prop
  | .next, σ => ∃ j mu', j < n ∧ mu'.Sublist σ.mu ∧ z₀.StaysIn σ.z ∧ J j σ.m mu' σ.z
  | .cont, σ => ∃ j mu', j < n ∧ mu'.Sublist σ.mu ∧ z₀.StaysIn σ.z ∧ J j σ.m mu' σ.z
  | .brk, σ => k .next σ
  | .ret v, σ => k (.ret v) σ
theorem while_any {test : Expr} {body : List Stmt} {pos : Pos} {k : Flow → St → Prop} (J : Nat → Loc → Mu → Heap → Prop) (hE : NoE Γ) (n : Nat) {m₀ : Loc} {mu₀ : Mu} {z₀ : Heap} (h0 : J n m₀ mu₀ z₀)
    (turn : ∀ n m mu z, z₀.StaysIn z → J n m mu z → Sat W Γ (isTrue test env (eval test env)) (fun b σ' => if b then Sat W Γ (execs body env) (WEnd z₀ n J k) σ' else k .next σ') ⟨m, mu, z⟩) :
    Sat W Γ (exec (.While test body [] pos) env) k ⟨m₀, mu₀, z₀⟩ := fun s c => by
  refine wpAny_While (codeAny_whileLoop (fun n s' => ∃ m mu z, z₀.StaysIn z ∧ J n m mu z ∧ Coh W Γ ⟨m, mu, z⟩ s') (fun n s' hI => ?_) n ⟨m₀, mu₀, z₀, fun _ _ e => e, h0, c⟩)
  obtain ⟨m, mu, z, hz, hJ, c'⟩ := hI
  refine wpAny_mono (turn n m mu z hz hJ s' c') (fun b s₂ ⟨σ₂, c₂, h₂⟩ => ?_) fun e s₂ x => (hE e s₂ x).elim
  cases b with
  | false => exact wpAny_execs_nil ⟨σ₂, c₂, h₂⟩
  | true =>
    refine wpAny_mono (h₂ s₂ c₂) (fun f s₃ ⟨σ₃, c₃, h₃⟩ => ?_) fun e s₂ x => (hE e s₂ x).elim
    have go : (∃ j mu', j < n ∧ mu'.Sublist σ₃.mu ∧ z₀.StaysIn σ₃.z ∧ J j σ₃.m mu' σ₃.z) → ∃ j, j < n ∧ ∃ m mu z, z₀.StaysIn z ∧ J j m mu z ∧ Coh W Γ ⟨m, mu, z⟩ s₃ :=
      fun ⟨j, mu', hj, hs, hz', hJ'⟩ => ⟨j, hj, σ₃.m, mu', σ₃.z, hz', hJ', c₃.sub hs⟩
    cases f with
    | next => exact go h₃
    | cont => exact go h₃
    | brk => exact ⟨σ₃, c₃, h₃⟩
    | ret v => exact ⟨σ₃, c₃, h₃⟩

-- instances
noncomputable def fget (x : Str) : List (Str × Value) → Option Value
  | [] => none
  | (y, v) :: r => if y == x then some v else fget x r
noncomputable def fput (x : Str) (v : Value) : List (Str × Value) → List (Str × Value)
  | [] => [(x, v)]
  | (y, u) :: r => if y == x then (y, v) :: r else (y, u) :: fput x v r
theorem FieldsAre.get {es : List DictEntry} {fs : List (Str × Value)} (h : FieldsAre es fs) (x : Str) : getL x es = some (fget x fs) := by
  have : ∀ {es fs}, FieldsAre es fs → (es.find? (·.key.isStr x)).map (·.val) = fget x fs ∧ es.any (·.refKey) = false := fun {es fs} h => by
    induction h with
    | nil => exact ⟨rfl, rfl⟩
    | @cons hh y t v es fs _ ih =>
      refine ⟨?_, ?_⟩
      · rw [List.find?_cons, fget]
        show Option.map _ (match (y == x) with | true => some _ | false => _) = _
        cases hy : y == x with
        | true => rfl
        | false => simpa using ih.1
      · rw [List.any_cons, ih.2]; rfl
  obtain ⟨h1, h2⟩ := this h
  unfold getL
  cases q : es.find? (·.key.isStr x) with
  | none => rw [q] at h1; simp only [h2, Bool.false_eq_true, if_false]; rw [← h1]; rfl
  | some e => rw [q] at h1; rw [← h1]; rfl
theorem FieldsAre.put {es : List DictEntry} {fs : List (Str × Value)} (h : FieldsAre es fs) (x : Str) (hs : Int) (t : Tok) (v : Value) : FieldsAre (putL x hs (.str x t) v es) (fput x v fs) := by
  induction h with
  | nil => exact .cons .nil
  | @cons hh y t v es fs h ih =>
    have hk : (DictEntry.mk hh (.str y t) v).key.isStr x = (y == x) := rfl
    rw [putL, fput]
    by_cases hy : (y == x) = true
    · rw [if_pos (hk.trans hy), if_pos hy]; exact .cons h
    · rw [if_neg (fun q => hy (hk.symm.trans q)), if_neg hy]; exact .cons ih
theorem fput_length (x : Str) (v : Value) : ∀ fs, (fput x v fs).length ≤ fs.length + 1
  | [] => by simp [fput]
  | (y, u) :: r => by
    have ih := fput_length x v r
    rw [fput]
    by_cases hy : (y == x) = true
    · rw [if_pos hy]; simp
    · rw [if_neg hy]; simp only [List.length_cons]; omega
theorem FieldsAre.length {es : List DictEntry} {fs : List (Str × Value)} (h : FieldsAre es fs) : es.length = fs.length := by
  induction h with
  | nil => rfl
  | cons _ ih => simp [ih]

noncomputable def IIn (W : Wd) (σ : St) (x C dx : Addr) (fs : List (Str × Value)) : Prop := (x, .inst C dx fs) ∈ σ.mu ∨ Asn.At W σ.z x (.inst C dx fs)
theorem IIn.at {x C dx : Addr} {fs : List (Str × Value)} (h : IIn W σ x C dx fs) (c : Coh W Γ σ s) : Asn.At W s.heap x (.inst C dx fs) := h.elim (fun h => c.mu _ h) fun h => h.same fun b _ o e => c.zle b o e

theorem a_get {x C dx : Addr} {fs : List (Str × Value)} {name : Str} {expr : Bool} {v : Value} {attr : Option Value} {k : Value → St → Prop} (WO : Base W W.B) (hI : IIn W σ x C dx fs) (hg : plainGet W.K C name = true) (hh : hasDictIn W.K C = true)
    (ha : findIn W.K (.ref C) name = some attr) (hn : noGet W.K attr = true) (hl : fget name fs = some v) (hv : handedIn v = true) (h : k v σ) : Sat W Γ (getAttr (.ref x) name expr) k σ := fun s c => by
  obtain ⟨es, n, h1, h2, h3⟩ := hI.at c
  have X := (c.base WO).K
  have I : InstAt s.heap x (instObj C dx) C (some (dictOf es n)) := ⟨h1, rfl, rfl, h2⟩
  exact get_own c.F WO.K I hg hh ha hn (by rw [h3.get, hl]) hv ⟨σ, c.toks _, h⟩
theorem a_meth {x C dx f : Addr} {fs : List (Str × Value)} {name : Str} {pl : Sem Bool} {k : Value × List Value → St → Prop} (WO : Base W W.B) (hI : IIn W σ x C dx fs) (hg : plainGet W.K C name = true)
    (hf : findIn W.K (.ref C) name = some (some (.ref f))) (ht : isFn W.K (.ref f) = true) (hl : fget name fs = none) (h : k (.ref f, [.ref x]) σ) : Sat W Γ (getMethod (.ref x) name pl) k σ := fun s c => by
  obtain ⟨es, n, h1, h2, h3⟩ := hI.at c
  have I : InstAt s.heap x (instObj C dx) C (some (dictOf es n)) := ⟨h1, rfl, rfl, h2⟩
  exact method_inst c.F WO.K I hg hf ht (by rw [h3.get, hl]) ⟨σ, c, h⟩
theorem a_set {x C dx : Addr} {fs : List (Str × Value)} {name : Str} {v : Value} {k : Unit → St → Prop} {m : Loc} {pre post : Mu} {z : Heap} (WO : Base W W.B) (hs : findIn W.K (.ref C) "__setattr__" = some (some (.builtin "object.__setattr__")))
    (hp : plainOver W.K C = true) (ht : takerIn W.K C name = some none) (hh : hasDictIn W.K C = true) (hz : fs.length < 100) (h : k () ⟨m, pre ++ (x, .inst C dx (fput name v fs)) :: post, z⟩) :
    Sat W Γ (setAttr (.ref x) name v) k ⟨m, pre ++ (x, .inst C dx fs) :: post, z⟩ := fun s c => by
  have hin : (x, Asn.inst C dx fs) ∈ pre ++ (x, .inst C dx fs) :: post := by simp
  obtain ⟨es, n, h1, h2, h3⟩ := c.mu _ hin
  have fo : ∀ b ∈ [x, dx], b ∈ foots (pre ++ (x, .inst C dx fs) :: post) := fun b hb => List.mem_flatMap.mpr ⟨_, hin, hb⟩
  have X := (c.base WO).K
  have I : InstAt s.heap x (instObj C dx) C (some (dictOf es n)) := ⟨h1, rfl, rfl, h2⟩
  have nd : x ≠ dx := by
    have := c.mund
    simp only [foots, List.flatMap_append, List.flatMap_cons, List.nodup_append, Asn.foot] at this
    have q := this.2.1.1
    rw [List.nodup_cons] at q
    exact fun e => q.1 (by rw [e]; exact .head _)
  have dB : W.B.get? dx = none := by
    cases q : W.B.get? dx with
    | none => rfl
    | some o =>
      have := (c.muz dx (fo dx (by simp))).1
      rw [c.z0 _ _ (c.Bz _ _ q)] at this; cases this
  have N : News W.B Γ.L s.heap ((dx, dictOf es n) :: (led W.B s.heap Γ.L).filter fun p => p.1 != dx) := fun p hp => by
    rcases List.mem_cons.mp hp with rfl | hp
    · exact ⟨h2, (c.muz dx (fo dx (by simp))).2.1, dB⟩
    · exact c.N p (List.mem_filter.mp hp).1
  have U : Upd dx (dictOf es n) (dictOf (putL name (PyData.keyHash W.w.params name) (.str name (s.toks + 1)) v es) (putN name es n)) ((dx, dictOf es n) :: (led W.B s.heap Γ.L).filter fun p => p.1 != dx)
      ((dx, dictOf (putL name (PyData.keyHash W.w.params name) (.str name (s.toks + 1)) v es) (putN name es n)) :: (led W.B s.heap Γ.L).filter fun p => p.1 != dx) :=
    .head fun p hp => by simpa using (List.mem_filter.mp hp).2
  have P := h3.put name (PyData.keyHash W.w.params name) (s.toks + 1) v
  refine set_dict c.F WO.K N I rfl hs hp ht hh (by rw [h3.get]; rfl) rfl U ?_ fun h' F' N' => ⟨_, Coh.updL (x := .inst C dx fs) (y := .inst C dx (fput name v fs)) (tk := s.toks + 2) c rfl F'.ns (fun b o hL hb e => ?_) ⟨_, _, ?_, (N' _ (.head _)).1, P⟩, h⟩
  · have := fput_length name v fs
    rw [P.length]; omega
  · have hb' : b ≠ x ∧ b ≠ dx := by simpa [Asn.foot] using hb
    cases q : W.B.get? b with
    | some o' => have := c.Bh b o' q; rw [e] at this; cases this; exact F'.keep b o q
    | none => exact (N' (b, o) (.tail _ (List.mem_filter.mpr ⟨led_mem hL q e, by simpa using hb'.2⟩))).1
  · cases q : W.B.get? x with
    | some o' => have := c.Bh x o' q; rw [h1] at this; cases this; exact F'.keep x _ q
    | none => exact (N' (x, _) (.tail _ (List.mem_filter.mpr ⟨led_mem (c.muz x (fo x (by simp))).2.1 q h1, by simpa using nd⟩))).1
end
end Mine
namespace Mine
open PySem PySem.W PyProof.Rows PySem.Calls

section
variable {W : Wd} {Γ : Ctx} {σ : St} {s : Shared} {env : Env}
theorem Room.make {n : Nat} {A : Around} {C : Addr} {args : List Value} (R : Room (n + 1) A) : Room n (A.under (.builtin "type.__call__" ⟨.ref C :: args, []⟩)) :=
  ⟨R.handled, by have := R.depth; show A.depth + 1 + 2 * n < 1000; omega, by
    have := R.units
    have e : (Code.builtin "type.__call__" ⟨.ref C :: args, []⟩).cUnits = 1 := rfl
    show A.units + (Code.builtin "type.__call__" ⟨.ref C :: args, []⟩).cUnits + 20 * n < 9900
    rw [e]; omega⟩

theorem make_spec {n : Nat} {C fI : Addr} {args : List Value} {z : Heap} {P : List (Str × Value) → Heap → Prop} (WO : Base W W.B) (hm : makesIn W.K C = true) (hi : findIn W.K (.ref C) "__init__" = some (some (.ref fI))) (hf : isFn W.K (.ref fI) = true)
    (init : ∀ x dx, SpecC W n (.ref fI) (.ref x :: args) [(x, .inst C dx [])] z (NoNew fun r bm' z' => r = .none ∧ ∃ fs, bm' = [(x, .inst C dx fs)] ∧ P fs z')) :
    SpecC W (n + 1) (.ref C) args [] z (fun r bm' nw z' => ∃ x dx fs, r = .ref x ∧ nw = [(x, .inst C dx fs)] ∧ P fs z') := by
  intro A s R Rm Pr hQ
  have b : Base W s.heap := (WO.keeps Pr.Bz).keeps Pr.zle
  obtain ⟨h, g, d, t, os⟩ := s
  refine make_core (makes_of b.K hm) (looks_findIn b.K hi) (fun self => bind_fn b.K self (beq_iff_eq.mp hf)) (.inl rfl) ?_
  have k1 : ∀ b o, h.get? b = some o → ((h.push emptyDict).push (instObj C h.objs.size)).get? b = some o := fun b o e => Heap.get?_push_of_some _ (Heap.get?_push_of_some _ e)
  have gx : ((h.push emptyDict).push (instObj C h.objs.size)).get? (h.objs.size + 1) = some (instObj C h.objs.size) := by
    have := Heap.get?_push_size (h.push emptyDict) (o := instObj C h.objs.size) rfl
    rwa [Heap.size_push] at this
  have gd : ((h.push emptyDict).push (instObj C h.objs.size)).get? h.objs.size = some (dictOf [] 0) := Heap.get?_push_of_some _ (Heap.get?_push_size h rfl)
  have sz : ((h.push emptyDict).push (instObj C h.objs.size)).objs.size = h.objs.size + 2 := by rw [Heap.size_push, Heap.size_push]
  have zn : ∀ a, h.objs.size ≤ a → z.get? a = none := fun a ha => by
    cases e : z.get? a with
    | none => rfl
    | some o => exact absurd (Heap.lt_size (Pr.zle _ _ e)) (Nat.not_lt.mpr ha)
  have tl : ∀ a, h.objs.size ≤ a → a ∉ W.tabs.map (·.1) := fun a ha ht => by
    obtain ⟨p, hp, rfl⟩ := List.mem_map.mp ht
    exact absurd (Pr.tlow p hp) (Nat.not_lt.mpr ha)
  have Pr' : Pre W ⟨(h.push emptyDict).push (instObj C h.objs.size), g, d, t, os⟩ z [(h.objs.size + 1, .inst C h.objs.size [])] := {
    zle := fun b o e => k1 b o (Pr.zle b o e)
    Bz := Pr.Bz
    Bn := by show _ ≤ ((h.push emptyDict).push (instObj C h.objs.size)).objs.size; rw [sz]; exact Nat.le_trans Pr.Bn (Nat.le_add_right _ _)
    mu := fun p hp => by rw [List.mem_singleton.mp hp]; exact ⟨[], 0, gx, gd, .nil⟩
    muz := fun a ha => by
      have ha' : a = h.objs.size + 1 ∨ a = h.objs.size := by simpa [foots, Asn.foot] using ha
      have hge : h.objs.size ≤ a := by rcases ha' with rfl | rfl <;> simp
      exact ⟨zn a hge, tl a hge⟩
    mund := by simp [foots, Asn.foot]
    tabs := Pr.tabs.mono (fun _ _ e => e) (fun t ht => (Pr.tabs t ht).1) fun t ht o e => k1 _ _ e
    tlow := fun t ht => by have := Pr.tlow t ht; show _ < ((h.push emptyDict).push (instObj C h.objs.size)).objs.size; rw [sz]; exact Nat.lt_of_lt_of_le this (Nat.le_add_right _ _) }
  refine init (h.objs.size + 1) h.objs.size _ _ _ Rm.make Pr' fun r bm' nw z' h' tk' a p => ?_
  obtain ⟨rfl, rfl, fs, rfl, hP⟩ := p
  have ft : foots [(h.objs.size + 1, Asn.inst C h.objs.size [])] = [h.objs.size + 1, h.objs.size] := by simp [foots, Asn.foot]
  refine ⟨rfl, hQ (.ref (h.objs.size + 1)) [] [(h.objs.size + 1, .inst C h.objs.size fs)] z' h' tk' ?_ ⟨_, _, _, rfl, rfl, hP⟩⟩
  exact {
    keep := fun b o hb ht e => a.keep b o (fun hm => by
      rw [ft] at hm
      have hb' : b = h.objs.size + 1 ∨ b = h.objs.size := by simpa using hm
      have := Heap.lt_size e
      rcases hb' with rfl | rfl
      · exact absurd this (by show ¬ _ < h.objs.size; omega)
      · exact absurd this (Nat.lt_irrefl _)) ht (k1 b o e)
    zz := a.zz
    zle := a.zle
    zgrow := fun b o e => (a.zgrow b o e).imp id fun q => by
      have q' : ((h.push emptyDict).push (instObj C h.objs.size)).objs.size ≤ b := q
      rw [sz] at q'
      exact Nat.le_trans (Nat.le_add_right _ 2) q'
    mu := fun _ h => nomatch h
    same := rfl
    tabs := a.tabs
    nwa := a.mu
    nwf := fun c hc => by
      have hc' : c = h.objs.size + 1 ∨ c = h.objs.size := by simpa [foots, Asn.foot] using hc
      have hge : h.objs.size ≤ c := by rcases hc' with rfl | rfl <;> simp
      refine ⟨hge, ?_⟩
      cases e : z'.get? c with
      | none => rfl
      | some o =>
        exfalso
        rcases a.zgrow c o e with ⟨o', q⟩ | q
        · rw [zn c hge] at q; cases q
        · have q' : ((h.push emptyDict).push (instObj C h.objs.size)).objs.size ≤ c := q
          rw [sz] at q'
          rcases hc' with rfl | rfl
          · exact absurd q' (by show ¬ h.objs.size + 2 ≤ h.objs.size + 1; omega)
          · exact absurd q' (by show ¬ h.objs.size + 2 ≤ h.objs.size; omega)
    nwd := by simp [foots, Asn.foot] }

-- dicts with int keys
noncomputable def DIn (W : Wd) (σ : St) (d : Addr) (kvs : List (Int × Value)) : Prop := (d, .dict kvs) ∈ σ.mu ∨ Asn.At W σ.z d (.dict kvs)
theorem DIn.at {d : Addr} {kvs : List (Int × Value)} (h : DIn W σ d kvs) (c : Coh W Γ σ s) : Asn.At W s.heap d (.dict kvs) := h.elim (fun h => c.mu _ h) fun h => h.same fun b _ o e => c.zle b o e
theorem d_new {pos : Pos} {k : Value → St → Prop} {m : Loc} {mu : Mu} {z : Heap} (WO : Base W W.B) (h : ∀ d, k (.ref d) ⟨m, (d, .dict []) :: mu, z⟩) : Sat W Γ (eval (.Dict [] [] pos) env) k ⟨m, mu, z⟩ := fun s c => by
  refine wpAny_Dict_empty ⟨_, c.alloc (x := .dict []) (tk := s.toks) (fun b o e => Heap.get?_push_of_some _ e) ⟨?_, Heap.DictOf.new s.heap⟩ (fun b hb => by rw [List.mem_singleton.mp hb]; exact Nat.le_refl _) (by simp [Asn.foot]), h _⟩
  have := modules_low (c.base WO).top.nolimit
  exact beq_eq_false_iff_ne.mpr (Nat.ne_of_gt this)
theorem d_get {value slice : Expr} {d : Addr} {kvs : List (Int × Value)} {i : Int} {t : Tok} {v : Value} {k : Value → St → Prop} (hd : DIn W σ d kvs) (hv : valueAt kvs i = some v) (h : k v σ)
    (hs : subscripted slice false (.ref d) (.int i t) = operate [.ref d, .int i t] (getItem (.ref d) (.int i t)) := by with_unfolding_all rfl) : Sat W Γ (subscriptTail value slice (.ref d) (.int i t)) k σ := fun s c =>
  have q := (hd.at c).2
  tail_any q.typeIs slot_dict_getitem.lookup (wpAny_getItem_of (knd := intKind W.prog W.w) (k := i) (by simp [intKind, Value.isInt]) q.mapOf hv ⟨σ, c.toks _, h⟩) hs
theorem d_set {d : Addr} {kvs : List (Int × Value)} {i : Int} {t : Tok} {v : Value} {k : Unit → St → Prop} {m : Loc} {pre post : Mu} {z : Heap} (hsz : kvs.length ≤ 1000000) (h : k () ⟨m, pre ++ (d, .dict (stored kvs i v)) :: post, z⟩) :
    Sat W Γ (setItem (.ref d) (.int i t) v) k ⟨m, pre ++ (d, .dict kvs) :: post, z⟩ := fun s c => by
  have q := c.mu (d, .dict kvs) (by simp)
  exact wpAny_setItem_pairs (knd := intKind W.prog W.w) (k := i) (by simp [intKind, Value.isInt]) q.2 (fun h' hd hs => ⟨_, c.upd (y := .dict (stored kvs i v)) (tk := s.toks + 1) rfl (fun b o hb e => (hs.2 b (by simpa [Asn.foot] using hb)).trans e) ⟨q.1, hd⟩, h⟩) (by rw [sizeLine_eq]; omega)
theorem d_notin {d : Addr} {kvs : List (Int × Value)} {i : Int} {t : Tok} {k : Value → St → Prop} (hd : DIn W σ d kvs) (h : k (.bool (!(valueAt kvs i).isSome)) σ) : Sat W Γ (compareOp .NotIn (.int i t) (.ref d)) k σ := fun s c =>
  wpAny_notIn_of (knd := intKind W.prog W.w) (k := i) (by simp [intKind, Value.isInt]) (hd.at c).1 (hd.at c).2.mapOf ⟨σ, c.toks _, h⟩
theorem d_meth {d : Addr} {kvs : List (Int × Value)} {pl : Sem Bool} {k : Value × List Value → St → Prop} (hd : DIn W σ d kvs) (h : k (.builtin "dict.get", [.ref d]) σ) : Sat W Γ (getMethod (.ref d) "get" pl) k σ := fun s c => by
  have q := (hd.at c).2
  exact getMethod_builtin q.typeIs PySem.F.plainAttrs_dict PySem.F.slot_dict_get PySem.F.type_dict_get (fun a e => by
    cases e
    obtain ⟨o, _, _, ho, he, _⟩ := q
    exact ⟨o, ho, he.2.1⟩) ⟨σ, c, h⟩
theorem d_get2 {pos : Pos} {d : Addr} {e1 e2 : Expr} {k : Value → St → Prop} (hS : (d == sysModules) = false)
    (h : Sat W Γ (eval e1 env) (fun key σ₁ => Sat W Γ (eval e2 env) (fun dflt σ₂ => ∃ i t kvs, key = .int i t ∧ DIn W σ₂ d kvs ∧ k ((valueAt kvs i).getD dflt) σ₂) σ₁) σ)
    (he : backTo pos (starEach [e1, e2] env) = [(false, eval e1 env), (false, eval e2 env)] := by rfl) : Sat W Γ (callWith pos (.builtin "dict.get") [.ref d] (backTo pos (starEach [e1, e2] env)) []) k σ := fun s c => by
  rw [he]
  refine wpAny_dict_get2 (knd := intKind W.prog W.w) hS (h.run c fun key s₁ σ₁ c₁ q => q.run c₁ fun dflt s₂ σ₂ c₂ r => ?_)
  obtain ⟨i, t, kvs, rfl, hd, hk⟩ := r
  exact ⟨i, valueAt kvs, by simp [intKind, Value.isInt], (hd.at c₂).2.mapOf, σ₂, c₂.toks _, hk⟩
theorem d_list {d : Addr} {kvs : List (Int × Value)} {k : Value → St → Prop} {m : Loc} {mu : Mu} {z : Heap} (R : Room 1 Γ.A) (hd : DIn W ⟨m, mu, z⟩ d kvs) (hsz : kvs.length ≤ 1000000)
    (h : ∀ (a : Addr) (vs : List Value), vs.length = kvs.length → (∀ (j : Nat) (v : Value), vs[j]? = some v → ∃ i x t, kvs[j]? = some (i, x) ∧ v = Value.int i t) → k (.ref a) ⟨m, (a, .list vs) :: mu, z⟩) : Sat W Γ (call (.type "list") [.ref d]) k ⟨m, mu, z⟩ := fun s c => by
  obtain ⟨hS, hD⟩ := hd.at c
  obtain ⟨ep, hat⟩ := hD.dictAt
  refine kdl_call (kdl_dict (knd := PySem.intKind W.prog W.w) (kvs := kvs) (ep := ep) hS) R.handled hat (kdl_size (by omega)) fun h' tk acc' c' hk hD hacc => ⟨_, ?_, h _ acc'.toList ?_ fun j v hj => ?_⟩
  · exact c.alloc (x := .list acc'.toList) hk ⟨c', by simpa using hD⟩ (fun b hb => by rw [List.mem_singleton.mp hb]; exact Nat.le_refl _) (by simp [Asn.foot])
  · rw [Array.length_toList]; exact hacc.1
  · obtain ⟨i, x, hx, hk⟩ := hacc.2 j v (by rw [← Array.getElem?_toList]; exact hj)
    obtain ⟨t, rfl⟩ := Value.isInt_shape hk
    exact ⟨i, x, t, hx, rfl⟩
end
end Mine
namespace Mine
open PySem PySem.W PyProof.Rows PySem.Calls PySem.SeqAt

section
variable {W : Wd} {Γ : Ctx} {σ : St} {s : Shared} {env : Env}
theorem Sat.as {α : Type} {t : Sem α} {k : α → St → Prop} (c : α) (h : Sat W Γ t (fun b σ' => b = c ∧ σ' = σ) σ) (hk : k c σ) : Sat W Γ t k σ := h.mono fun b σ' ⟨e1, e2⟩ => by subst e1; subst e2; exact hk
theorem Room.u {n : Nat} {A : Around} (R : Room n A) : A.units < cLine := by have := R.units; show A.units < 9900; omega

theorem l_eq_nil {l b : Addr} {vs : List Value} {k : Value → St → Prop} (R : Room 1 Γ.A) (hl : LIn σ l vs) (hb : LIn σ b []) (h : k (.bool (decide (vs = []))) σ) : Sat W Γ (compareOp .Eq (.ref l) (.ref b)) k σ := fun s c => by
  have q1 := (hl.at c).isList
  have q2 := (hb.at c).isList
  cases vs with
  | nil => exact eq_listAt (e := fun _ => true) q1 q2 rfl R.u (fun j h1 => absurd h1 (by simp)) ⟨σ, c, h⟩
  | cons v r => exact eq_list_lengthsAt q1 q2 (by simp) R.u ⟨σ, c, by simpa using h⟩
theorem l_ne_nil {l b : Addr} {vs : List Value} {k : Value → St → Prop} (R : Room 1 Γ.A) (hl : LIn σ l vs) (hb : LIn σ b []) (h : k (.bool (!decide (vs = []))) σ) : Sat W Γ (compareOp .NotEq (.ref l) (.ref b)) k σ := fun s c => by
  have q1 := (hl.at c).isList
  have q2 := (hb.at c).isList
  cases vs with
  | nil => exact RcNeAt.lists (e := fun _ => true) q1 q2 rfl R.u (fun j h1 => absurd h1 (by simp)) _ _ _ _ ⟨σ, c, h⟩
  | cons v r => exact RcNeAt.lists_lengths q1 q2 (by simp) R.u _ _ _ _ ⟨σ, c, by simpa using h⟩

/-- a tuple display taken apart at once -/
theorem tup_temp {elts : List Expr} {kk : Nat} {pos : Pos} {n : Nat} {k : List Value → St → Prop} (R : Room 1 Γ.A) {σ : St}
    (h : Sat W Γ (spliced (backTo pos (starEach elts env))) (fun vs σ₁ => vs.length = n ∧ n ≤ 1000 ∧ k vs σ₁) σ) {s : Shared} (c : Coh W Γ σ s) {Q : List Value → Shared → Prop} (hq : ∀ vs s' σ', Coh W Γ σ' s' → k vs σ' → Q vs s') :
    wpAny (model W.prog W.w) Γ.A (eval (.Tuple elts kk pos) env) (fun v s₁ => wpAny (model W.prog W.w) Γ.A (unpackItems v n none) Q Γ.E s₁) Γ.E s := by
  refine Tuple_ (h.run c fun vs s₁ σ₁ c₁ x => ?_)
  obtain ⟨hn, hl, hk⟩ := x
  refine wpAny_newObj_type ?_ (by show vs.toArray.size ≤ sizeLine; rw [List.size_toArray, sizeLine_eq]; omega)
  have ht : (s₁.heap.push { cls := .type "tuple", data := .seq vs.toArray }).IsTuple s₁.heap.objs.size vs.toArray := ⟨_, Heap.get?_push_size _ rfl, rfl, _, rfl⟩
  have c₂ : Coh W Γ σ₁ { s₁ with heap := s₁.heap.push { cls := .type "tuple", data := .seq vs.toArray }, toks := s₁.toks } := c₁.ext fun b o e => Heap.get?_push_of_some _ e
  have := wpAny_unpackItems_tuple (prog := W.prog) (w := W.w) (A := Γ.A) (E := Γ.E) (Q := Q) (s := { s₁ with heap := s₁.heap.push { cls := .type "tuple", data := .seq vs.toArray } }) R.handled ht fun h' he =>
    hq vs _ σ₁ (c₂.ext (tk := s₁.toks) fun b o e => he b o (Nat.ne_of_lt (Heap.lt_size e)) e) hk
  subst hn
  simpa using this
theorem asg_tup2 {x y : Str} {px py tpos vpos pos : Pos} {kk kv : Nat} {e1 e2 : Expr} {k : Flow → St → Prop} (R : Room 1 Γ.A)
    (h : Sat W Γ (eval e1 env) (fun v1 σ₁ => Sat W Γ (eval e2 env) (fun v2 σ₂ => Sat W Γ (storeName env y v2) (fun _ σ₃ => Sat W Γ (storeName env x v1) (fun _ => k .next) σ₃) σ₂) σ₁) σ)
    (hs : swapsWithSole [.Tuple [.Name x px, .Name y py] kk tpos] (.Tuple [e1, e2] kv vpos) pos.line env = Pure.pure false)
    (hw : swappedStores [.Tuple [.Name x px, .Name y py] kk tpos] (.Tuple [e1, e2] kv vpos) env = Pure.pure (some [x, y]))
    (h1 : starEach [e1, e2] env = (false, eval e1 env) :: starEach [e2] env) (h2 : starEach [e2] env = (false, eval e2 env) :: starEach [] env) :
    Sat W Γ (exec (.Assign [.Tuple [.Name x px, .Name y py] kk tpos] (.Tuple [e1, e2] kv vpos) pos) env) k σ := fun s c => by
  refine Assign_Tuple_swapped ?_ hs hw
  refine tup_temp (n := 2) (k := fun vs σ' => ∃ v1 v2, vs = [v1, v2] ∧ Sat W Γ (storeName env y v2) (fun _ σ₃ => Sat W Γ (storeName env x v1) (fun _ => k .next) σ₃) σ') R ?_ c fun vs s' σ' c' q => ?_
  · exact items_cons (h.mono fun v1 σ₁ q => items_cons (q.mono fun v2 σ₂ r => items_nil ⟨rfl, by decide, v1, v2, rfl, r⟩) h2) h1
  · obtain ⟨v1, v2, rfl, q⟩ := q
    exact (io_cons (bind_name (q.mono fun _ _ r => io_cons (bind_name (r.mono fun _ _ r => io_nil r))))) s' c'
theorem asg_tup3 {x y u : Str} {px py pu tpos vpos pos : Pos} {kk kv : Nat} {e1 e2 e3 : Expr} {k : Flow → St → Prop} (R : Room 1 Γ.A)
    (h : Sat W Γ (eval e1 env) (fun v1 σ₁ => Sat W Γ (eval e2 env) (fun v2 σ₂ => Sat W Γ (eval e3 env) (fun v3 σ₃ =>
      Sat W Γ (storeName env u v3) (fun _ σ₄ => Sat W Γ (storeName env y v2) (fun _ σ₅ => Sat W Γ (storeName env x v1) (fun _ => k .next) σ₅) σ₄) σ₃) σ₂) σ₁) σ)
    (hs : swapsWithSole [.Tuple [.Name x px, .Name y py, .Name u pu] kk tpos] (.Tuple [e1, e2, e3] kv vpos) pos.line env = Pure.pure false)
    (hw : swappedStores [.Tuple [.Name x px, .Name y py, .Name u pu] kk tpos] (.Tuple [e1, e2, e3] kv vpos) env = Pure.pure (some [x, y, u]))
    (h1 : starEach [e1, e2, e3] env = (false, eval e1 env) :: starEach [e2, e3] env) (h2 : starEach [e2, e3] env = (false, eval e2 env) :: starEach [e3] env) (h3 : starEach [e3] env = (false, eval e3 env) :: starEach [] env) :
    Sat W Γ (exec (.Assign [.Tuple [.Name x px, .Name y py, .Name u pu] kk tpos] (.Tuple [e1, e2, e3] kv vpos) pos) env) k σ := fun s c => by
  refine Assign_Tuple_swapped ?_ hs hw
  refine tup_temp (n := 3) (k := fun vs σ' => ∃ v1 v2 v3, vs = [v1, v2, v3] ∧ Sat W Γ (storeName env u v3) (fun _ σ₄ => Sat W Γ (storeName env y v2) (fun _ σ₅ => Sat W Γ (storeName env x v1) (fun _ => k .next) σ₅) σ₄) σ') R ?_ c fun vs s' σ' c' q => ?_
  · exact items_cons (h.mono fun v1 σ₁ q => items_cons (q.mono fun v2 σ₂ q => items_cons (q.mono fun v3 σ₃ r => items_nil ⟨rfl, by decide, v1, v2, v3, rfl, r⟩) h3) h2) h1
  · obtain ⟨v1, v2, v3, rfl, q⟩ := q
    exact (io_cons (bind_name (q.mono fun _ _ r => io_cons (bind_name (r.mono fun _ _ r => io_cons (bind_name (r.mono fun _ _ r => io_nil r))))))) s' c'

-- a list's item is stored
theorem setSeq_nat {l : Addr} {items : Array Value} {n j : Nat} {t : Tok} {v : Value} {Q : Unit → Shared → Prop} {A : Around} {E : Value → Shared → Prop} (ho : s.heap.get? l = some (listOf items n)) {i : Int} (h0 : 0 ≤ i) (hfit : i < 2 ^ 63) (hij : i = (j : Int)) (hj : j < items.size)
    (hQ : ∀ h', Heap.SameBut l s.heap h' → h'.get? l = some (listOf (items.setIfInBounds j v) n) → Q () { s with heap := h' }) : wpAny (model W.prog W.w) A (setItem (.ref l) (.int i t) v) Q E s := by
  have hT : s.TypeIs (.ref l) "list" := ⟨_, ho, rfl⟩
  unfold setItem
  try with_reducible refine wpAny_holding ?_
  first | refine wpAny_bind (wpAny_pure ?_) | skip
  refine wpAny_bind (wpAny_sequenceKey hT (by decide) ?_)
  refine wpAny_bind (wpAny_callSpecial?_slot (name := Str.ofString "__setitem__") hT slot_list_setitem
    (wpAny_call_entry slot_list_setitem hT entry_list_setitem ?_ (args_list_setitem _ _ _)))
  show wpAny _ _ (Builtin.List.listSubscript? (.int i t) >>= _) _ _ s
  refine wpAny_bind (wpAny_listSubscript_int (fitsIndex_of h0 hfit) ?_)
  clear hfit
  subst hij
  have hx' : items[j]? = some items[j] := Array.getElem?_eq_getElem hj
  show wpAny _ _ ((seqItemAt l j >>= fun r => pure (r.map (j, ·))) >>= _) _ _ s
  refine wpAny_bind (wpAny_bind (wpAny_seqItemAt ho rfl (wpAny_pure ?_)))
  rw [hx']
  show wpAny _ _ (setSeqItemAt l j v >>= _) _ _ s
  have hfin : (s.heap.update l (Obj.mapSeq (·.setIfInBounds j v))).get? l = some (listOf (items.setIfInBounds j v) n) := by
    refine (Heap.get?_update_self (o := listOf items n) _ ho ?_).trans ?_
    · rfl
    · simp [Obj.mapSeq]
  refine wpAny_bind (wpAny_setSeqItemAt ho rfl ?_)
  first
    | exact wpAny_bind (wpAny_pure (wpAny_pure ⟨.none, rfl, wpAny_pure (hQ _ (Heap.SameBut.update ..) hfin)⟩))
    | exact wpAny_pure ⟨.none, rfl, wpAny_pure (hQ _ (Heap.SameBut.update ..) hfin)⟩
theorem setSeq_last {l : Addr} {items : Array Value} {n : Nat} {t : Tok} {v : Value} {Q : Unit → Shared → Prop} {A : Around} {E : Value → Shared → Prop} (ho : s.heap.get? l = some (listOf items n)) (hj : 0 < items.size)
    (hQ : ∀ h', Heap.SameBut l s.heap h' → h'.get? l = some (listOf (items.setIfInBounds (items.size - 1) v) n) → Q () { s with heap := h' }) : wpAny (model W.prog W.w) A (setItem (.ref l) (.int (-1) t) v) Q E s := by
  have hT : s.TypeIs (.ref l) "list" := ⟨_, ho, rfl⟩
  unfold setItem
  try with_reducible refine wpAny_holding ?_
  first | refine wpAny_bind (wpAny_pure ?_) | skip
  refine wpAny_bind (wpAny_sequenceKey hT (by decide) ?_)
  refine wpAny_bind (wpAny_callSpecial?_slot (name := Str.ofString "__setitem__") hT slot_list_setitem
    (wpAny_call_entry slot_list_setitem hT entry_list_setitem ?_ (args_list_setitem _ _ _)))
  show wpAny _ _ (Builtin.List.listSubscript? (.int (-1) t) >>= _) _ _ s
  refine wpAny_bind (wpAny_listSubscript_int (fitsIndex_neg (by decide) (by decide)) ?_)
  have hlt : items.size - 1 < items.size := by omega
  have hx' : items[items.size - 1]? = some items[items.size - 1] := Array.getElem?_eq_getElem hlt
  show wpAny _ _ ((Builtin.List.listItems (.ref l) >>= fun xs => pure ((seqIndex? (Int.negSucc 0) xs.size).bind fun i => xs[i]?.map (i, ·))) >>= _) _ _ s
  refine wpAny_bind (wpAny_bind ?_)
  show wpAny _ _ (seqItems? (.ref l) >>= _) _ _ s
  refine wpAny_bind (wpAny_seqItems ho rfl (wpAny_pure (wpAny_pure ?_)))
  have hidx : seqIndex? (Int.negSucc 0) items.size = some (items.size - 1) := by
    rw [PySem.seqIndex_neg (by decide) (by omega)]; congr 1; omega
  rw [hidx]
  simp only [Option.bind_some, hx', Option.map_some]
  show wpAny _ _ (setSeqItemAt l (items.size - 1) v >>= _) _ _ s
  have hfin : (s.heap.update l (Obj.mapSeq (·.setIfInBounds (items.size - 1) v))).get? l = some (listOf (items.setIfInBounds (items.size - 1) v) n) := by
    refine (Heap.get?_update_self (o := listOf items n) _ ho ?_).trans ?_
    · rfl
    · simp [Obj.mapSeq]
  refine wpAny_bind (wpAny_setSeqItemAt ho rfl ?_)
  first
    | exact wpAny_bind (wpAny_pure (wpAny_pure ⟨.none, rfl, wpAny_pure (hQ _ (Heap.SameBut.update ..) hfin)⟩))
    | exact wpAny_pure ⟨.none, rfl, wpAny_pure (hQ _ (Heap.SameBut.update ..) hfin)⟩
theorem l_set {l : Addr} {vs : List Value} {j : Nat} {t : Tok} {v : Value} {k : Unit → St → Prop} {m : Loc} {pre post : Mu} {z : Heap} (hj : j < vs.length) (hf : j < 2 ^ 60) (h : k () ⟨m, pre ++ (l, .list (vs.set j v)) :: post, z⟩) :
    Sat W Γ (setItem (.ref l) (.int (j : Int) t) v) k ⟨m, pre ++ (l, .list vs) :: post, z⟩ := fun s c => by
  obtain ⟨n, ho⟩ := c.mu (l, .list vs) (by simp)
  exact setSeq_nat ho (Int.natCast_nonneg j) (by omega) rfl (by simpa using hj) fun h' hs ho' => ⟨_, c.upd (y := .list (vs.set j v)) (tk := s.toks) rfl (fun b o hb e => (hs.2 b (by simpa [Asn.foot] using hb)).trans e) ⟨n, by rw [ho']; simp⟩, h⟩
theorem l_setlast {l : Addr} {vs : List Value} {t : Tok} {v : Value} {k : Unit → St → Prop} {m : Loc} {pre post : Mu} {z : Heap} (hj : vs ≠ []) (h : k () ⟨m, pre ++ (l, .list (vs.dropLast ++ [v])) :: post, z⟩) :
    Sat W Γ (setItem (.ref l) (.int (-1) t) v) k ⟨m, pre ++ (l, .list vs) :: post, z⟩ := fun s c => by
  obtain ⟨n, ho⟩ := c.mu (l, .list vs) (by simp)
  refine setSeq_last ho (by simpa using List.length_pos_iff.mpr hj) fun h' hs ho' => ⟨_, c.upd (y := .list (vs.dropLast ++ [v])) (tk := s.toks) rfl (fun b o hb e => (hs.2 b (by simpa [Asn.foot] using hb)).trans e) ⟨n, ?_⟩, h⟩
  rw [ho']
  have : vs.set (vs.length - 1) v = vs.dropLast ++ [v] := by
    obtain ⟨i, x, rfl⟩ : ∃ i x, vs = i ++ [x] := ⟨vs.dropLast, vs.getLast hj, (List.dropLast_concat_getLast hj).symm⟩
    simp
  rw [← this]; simp
end
theorem Sat.asd {W : Wd} {Γ : Ctx} {σ : St} {α : Type} {t : Sem α} {k : α → St → Prop} (c : α) (h : Sat W Γ t (fun b σ' => b = c ∧ σ'.m = σ.m ∧ σ'.z = σ.z ∧ ∃ l, σ'.mu = l ++ σ.mu) σ) (hk : k c σ) : Sat W Γ t k σ := fun s c0 => h.run c0 fun b s' σ' c' ⟨e1, e2, e3, l, e4⟩ => by
  subst e1
  obtain ⟨m, mu, z⟩ := σ
  obtain ⟨m', mu', z'⟩ := σ'
  cases e2; cases e3; cases e4
  refine ⟨_, c'.perm (fun p hp => List.mem_append_right _ hp) ?_, hk⟩
  have this : (foots (l ++ mu)).Nodup := c'.mund
  rw [foots_append] at this
  exact (List.nodup_append.mp this).2.1
theorem a_set0 {W : Wd} {Γ : Ctx} {x C dx : Addr} {fs : List (Str × Value)} {name : Str} {v : Value} {k : Unit → St → Prop} {m : Loc} {post : Mu} {z : Heap} (WO : Base W W.B) (hs : findIn W.K (.ref C) "__setattr__" = some (some (.builtin "object.__setattr__")))
    (hp : plainOver W.K C = true) (ht : takerIn W.K C name = some none) (hh : hasDictIn W.K C = true) (hz : fs.length < 100) (h : k () ⟨m, (x, .inst C dx (fput name v fs)) :: post, z⟩) :
    Sat W Γ (setAttr (.ref x) name v) k ⟨m, (x, .inst C dx fs) :: post, z⟩ := a_set (pre := []) WO hs hp ht hh hz h
theorem d_set0 {W : Wd} {Γ : Ctx} {d : Addr} {kvs : List (Int × Value)} {i : Int} {t : Tok} {v : Value} {k : Unit → St → Prop} {m : Loc} {post : Mu} {z : Heap} (hsz : kvs.length ≤ 1000000) (h : k () ⟨m, (d, .dict (stored kvs i v)) :: post, z⟩) :
    Sat W Γ (setItem (.ref d) (.int i t) v) k ⟨m, (d, .dict kvs) :: post, z⟩ := d_set (pre := []) hsz h
/-- one lent object, wherever it stands -/
theorem use_spec_in {W : Wd} {Γ : Ctx} {n : Nat} {t : Sem Value} {a : Addr} {x : Asn} {pre post : Mu} {m : Loc} {z : Heap} {P : PostT} {Q : Value → Asn → Heap → Prop} {k : Value → St → Prop} (S : Spec W n t [(a, x)] z P) (R : Room n Γ.A)
    (hP : ∀ r bm' nw z', P r bm' nw z' → nw = [] ∧ ∃ x', bm' = [(a, x')] ∧ Q r x' z')
    (h : ∀ r x' z', z.StaysIn z' → Q r x' z' → k r ⟨m, pre ++ (a, x') :: post, z'⟩) : Sat W Γ t k ⟨m, pre ++ (a, x) :: post, z⟩ := fun s c => by
  have c1 : Coh W Γ ⟨m, [(a, x)] ++ (pre ++ post), z⟩ s := c.perm (mu := pre ++ (a, x) :: post) (fun p hp => by
    rcases List.mem_append.mp hp with h | h
    · rw [List.mem_singleton.mp h]; simp
    · rcases List.mem_append.mp h with h | h
      · exact List.mem_append_left _ h
      · exact List.mem_append_right _ (.tail _ h)) (by
    have := c.mund
    simp only [foots, List.flatMap_append, List.flatMap_cons, List.flatMap_nil, List.append_nil] at this ⊢
    exact (List.perm_append_comm_assoc _ _ _).nodup_iff.mp this)
  refine S Γ.A s _ _ R c1.pre fun r bm' nw z' h' tk' af p => ?_
  obtain ⟨rfl, x', rfl, hq⟩ := hP _ _ _ _ p
  have c2 := Coh.after c1 af (tk := tk')
  refine ⟨_, c2.perm (mu' := pre ++ (a, x') :: post) (fun p hp => by
    show p ∈ (a, x') :: (pre ++ post)
    rcases List.mem_append.mp hp with h | h
    · exact .tail _ (List.mem_append_left _ h)
    · rcases List.mem_cons.mp h with rfl | h
      · exact .head _
      · exact .tail _ (List.mem_append_right _ h)) ?_, h r x' z' af.zz hq⟩
  have := c2.mund
  simp only [foots, List.flatMap_append, List.flatMap_cons, List.flatMap_nil, List.append_nil, List.nil_append] at this ⊢
  exact (List.perm_append_comm_assoc _ _ _).nodup_iff.mp this
end Mine
namespace Mine
open PySem PySem.W PyProof.Rows PySem.Calls

theorem zt {a b c : Heap} (h : a.StaysIn b) (h' : b.StaysIn c) : a.StaysIn c := fun x o e => h' x o (h x o e)

section
variable {W : Wd} {Γ : Ctx} {σ : St} {s : Shared} {env : Env}
theorem i_fdiv {a b : Int} {t u : Tok} {k : Value → St → Prop} (hb : b ≠ 0) (hp : b.natAbs.log2 < 9000) (h : ∀ t, k (.int (a.fdiv b) t) σ) : Sat W Γ (binaryOp .FloorDiv (.int a t) (.int b u)) k σ := fun s c =>
  floordiv_int hb ⟨σ, c.toks _, h _⟩ (.inl (PyProof.noPylong_of_log2 hp))
theorem i_mod {a b : Int} {t u : Tok} {k : Value → St → Prop} (hb : b ≠ 0) (h : ∀ t, k (.int (a.fmod b) t) σ) : Sat W Γ (binaryOp .Mod (.int a t) (.int b u)) k σ := fun s c => mod_int' hb ⟨σ, c.toks _, h _⟩
theorem i_mul {a b : Int} {t u : Tok} {k : Value → St → Prop} (hm : IntMulOk a b) (h : ∀ t, k (.int (a * b) t) σ) : Sat W Γ (binaryOp .Mult (.int a t) (.int b u)) k σ := fun s c => PySem.P.mul_int ⟨σ, c.toks _, h _⟩ hm
theorem i_pow {a n : Int} {t u : Tok} {k : Value → St → Prop} (hn : 0 ≤ n) (hn2 : n ≤ 1000000) (ha : a.natAbs < 2 ^ 64) (h : ∀ t, k (.int (a ^ n.toNat) t) σ) : Sat W Γ (binaryOp .Pow (.int a t) (.int n u)) k σ := fun s c => pow_int_small hn hn2 ha ⟨σ, c.toks _, h _⟩

theorem codeAmong_other {pos q : Pos} {c : Value} (l : List Value) (h : TriplesOk l) (hn : ¬ (pos.line = q.line ∧ pos.col = q.col)) : codeAmong q (l ++ [rawInt pos.line, rawInt pos.col, c]) = codeAmong q l := by
  fun_induction TriplesOk l with
  | case1 =>
    simp only [List.nil_append, codeAmong, rawInt]
    rw [if_neg]
    simp only [Bool.and_eq_true, beq_iff_eq, not_and]
    intro h1 h2
    exact hn ⟨by exact_mod_cast h1, by exact_mod_cast h2⟩
  | case2 a t b u x rest ih =>
    simp only [List.cons_append, codeAmong]
    split
    · rfl
    · exact ih h
  | case3 l h1 h2 => exact h.elim

/-- the tables and the frozen part grow -/
theorem Coh.tab {m : Loc} {mu : Mu} {z z' : Heap} {P : Addr} (c : Coh W Γ ⟨m, mu, z⟩ s) {h' : Heap} {tk : Nat} (hP : P ∈ W.tabs.map (·.1)) (hk : ∀ b o, b ≠ P → s.heap.get? b = some o → h'.get? b = some o)
    (hz : z.StaysIn z') (hz' : z'.StaysIn h') (hn : ∀ b o, z'.get? b = some o → z.get? b = some o ∨ s.heap.objs.size ≤ b) (ht : TabInv W.tabs z' h') : Coh W Γ ⟨m, mu, z'⟩ { s with heap := h', toks := tk } := by
  have zn : ∀ b, b < s.heap.objs.size → z.get? b = none → z'.get? b = none := fun b hb e => by
    cases q : z'.get? b with
    | none => rfl
    | some o =>
      rcases hn b o q with h | h
      · rw [e] at h; cases h
      · exact absurd hb (Nat.not_lt.mpr h)
  exact {
    rest := by have := c.rest; rw [this]
    ns := by
      obtain ⟨o, es, ep, ho, r⟩ := c.ns
      exact ⟨o, es, ep, hk _ _ (fun h => c.Ltab (h ▸ hP)) ho, r⟩
    Lnew := c.Lnew
    keep := fun b o hb ht e => hk b o (fun h => ht (h ▸ hP)) (c.keep b o hb ht e)
    zle := hz'
    z0 := fun b o e => hz b o (c.z0 b o e)
    zgrow := fun b o e => by
      rcases hn b o e with h | h
      · exact c.zgrow b o h
      · exact .inr (Nat.le_trans c.size h)
    zL := zn _ c.ltL c.zL
    mu := fun p hp => (c.mu p hp).same fun b hb o e => hk b o (fun h => (c.muz b (List.mem_flatMap.mpr ⟨p, hp, hb⟩)).2.2 (h ▸ hP)) e
    muz := fun b hb => have q := c.muz b hb; ⟨zn b (c.mult hb) q.1, q.2⟩
    munew := c.munew
    mund := c.mund
    tabs := ht
    tlow := c.tlow
    Bz := c.Bz
    Bn := c.Bn }

/-- a lambda's function object -/
noncomputable def IsLam (z : Heap) (g : Addr) (qual : Str) (params : Arguments) (body : Expr) (scope : Scope) (clos : List (Str × Addr)) : Prop :=
  ∃ pm c' ctv, z.get? g = some (kla_obj "<lambda>" qual params body scope clos pm c' ctv) ∧ z.CodeRec (.ref c') qual
theorem IsLam.mono {z z' : Heap} {g : Addr} {qual : Str} {params : Arguments} {body : Expr} {scope : Scope} {clos : List (Str × Addr)} (h : IsLam z g qual params body scope clos) (hz : z.StaysIn z') : IsLam z' g qual params body scope clos :=
  let ⟨pm, c', ctv, h1, h2⟩ := h; ⟨pm, c', ctv, hz _ _ h1, h2.keeps hz⟩
theorem IsLam.fn {z : Heap} {g : Addr} {qual : Str} {params : Arguments} {body : Expr} {scope : Scope} {clos : List (Str × Addr)} (h : IsLam z g qual params body scope clos) : IsFnAt z g :=
  let ⟨_, _, _, h1, _⟩ := h; ⟨_, _, h1, rfl⟩

theorem e_lam {params : Arguments} {body : Expr} {scope : Scope} {pos : Pos} {P cc : Addr} {l : List (Pos × Str)} {qual : Str} {clos : List (Str × Addr)} {k : Value → St → Prop} {m : Loc} {mu : Mu} {z : Heap} (WO : Base W W.B) (hd : defaultsOf params env = ([], []))
    (ht : (P, cc, l) ∈ W.tabs) (hq : (pos, qual) ∈ l) (hqual : env.qual ++ "<lambda>" = qual) (hu : ∀ t ∈ W.tabs, t.1 = P → ∀ q ∈ t.2.2, q.2 = qual) (hcl : closureFor scope env = pure clos) (hge : env.globals = mainGlobals) (hcode : env.code = .ref cc)
    (h : ∀ g z', z.StaysIn z' → IsLam z' g qual params body scope clos → k (.ref g) ⟨m, mu, z'⟩) : Sat W Γ (eval (.Lambda params body scope pos) env) k ⟨m, mu, z⟩ := fun s c => by
  have B := c.base WO
  have hP : P ∈ W.tabs.map (·.1) := List.mem_map.mpr ⟨_, ht, rfl⟩
  have C : CodeHd s.heap cc P := B.heads _ ht
  obtain ⟨hz0, ps, hps, hto, hall⟩ := c.tabs _ ht
  have hgP : mainGlobals ≠ P := fun q => by
    obtain ⟨o, es, ep, e, hd, _⟩ := B.top.g
    rw [q, hps] at e; cases e; cases hd
  obtain ⟨bm, ob, b1, b2, b3, b4, b5, b6⟩ := B.top.bmain
  have hbP : bm ≠ P := fun q => by rw [q, hps] at b3; cases b3; cases b4
  have hbG : bm ≠ mainGlobals := fun q => by
    obtain ⟨o, es, ep, e, hd, _⟩ := B.top.g
    rw [q, e] at b3; cases b3; rw [hd] at b6; cases b6
  have hsz : ∀ b o, z.get? b = some o → b < s.heap.objs.size := fun b o e => Heap.lt_size (c.zle b o e)
  refine kla_eval hd ?_
  rw [hqual]
  rcases hall _ hq with hnone | ⟨c', hsome, hrec⟩
  · refine kla_makeFunction (mg := W.mg) hcl hge B.top.g hcode C hps hto hnone hgP ⟨bm, ob, b1, b2, hbG, hbP, b3, b4, b5, b6⟩ fun c' ctv h' tk hx hge' hlt hrec htb => ?_
    have hx2 : ∀ b o, b ≠ P → s.heap.get? b = some o → (h'.push (kla_obj "<lambda>" qual params body scope clos ((W.mg "__name__").getD .none) c' ctv)).get? b = some o := fun b o hb e => Heap.get?_push_of_some _ (hx b o hb e)
    have zle' : z.StaysIn (h'.push (kla_obj "<lambda>" qual params body scope clos ((W.mg "__name__").getD .none) c' ctv)) := fun b o e => hx2 b o (fun q => by rw [q, hz0] at e; cases e) (c.zle b o e)
    obtain ⟨z', h1, h2, h3, h4⟩ := restrict z _ zle' [c', h'.objs.size]
    have hle : s.heap.objs.size ≤ h'.objs.size := Nat.le_trans hge' (Nat.le_of_lt hlt)
    have hn : ∀ b o, z'.get? b = some o → z.get? b = some o ∨ s.heap.objs.size ≤ b := fun b o e => by
      rcases h4 b o e with q | q
      · exact .inl q
      · simp only [List.mem_cons, List.not_mem_nil, or_false] at q
        rcases q with rfl | rfl
        · exact .inr hge'
        · exact .inr hle
    have hlam : IsLam z' h'.objs.size qual params body scope clos := by
      refine ⟨_, c', ctv, h3 _ (by simp) _ (Heap.get?_push_size h' rfl), ?_⟩
      obtain ⟨c₂, o, vs, t, e, g, r⟩ := hrec
      cases e
      exact ⟨c', o, vs, t, rfl, h3 _ (by simp) _ (Heap.get?_push_of_some _ g), r⟩
    refine ⟨⟨m, mu, z'⟩, c.tab hP hx2 h1 h2 hn ?_, h _ z' h1 hlam⟩
    intro t htt
    obtain ⟨hz1, ps1, hps1, hto1, hall1⟩ := c.tabs t htt
    have hz1' : z'.get? t.1 = none := by
      cases q : z'.get? t.1 with
      | none => rfl
      | some o =>
        rcases hn _ o q with w | w
        · rw [hz1] at w; cases w
        · exact absurd (Heap.lt_size hps1) (Nat.not_lt.mpr w)
    refine ⟨hz1', ?_⟩
    by_cases htP : t.1 = P
    · have : ps1 = ps := by
        rw [htP, hps] at hps1
        injection hps1 with e
        injection e with _ _ e _
        injection e with e
        exact e.symm
      subst this
      refine ⟨_, by rw [htP]; exact Heap.get?_push_of_some _ htb, ?_, fun q hqq => ?_⟩
      · simpa using TriplesOk_snoc pos.line pos.col (.ref c') _ hto
      · by_cases hsame : pos.line = q.1.line ∧ pos.col = q.1.col
        · right
          refine ⟨c', ?_, ?_⟩
          · have := codeAmong_snoc (pos := q.1) (c := .ref c') ps1.toList hto (by
              have e : codeAmong q.1 ps1.toList = codeAmong pos ps1.toList := by
                have : ∀ l : List Value, codeAmong q.1 l = codeAmong pos l := fun l => by
                  fun_induction codeAmong q.1 l <;> simp_all [codeAmong]
                exact this _
              rw [e]; exact hnone)
            rw [← hsame.1, ← hsame.2] at this
            simpa using this
          · have := hlam
            rw [hu t htt htP q hqq]
            obtain ⟨c₂, o, vs, tt, e, g, r⟩ := hrec
            cases e
            exact ⟨c', o, vs, tt, rfl, h3 _ (by simp) _ (Heap.get?_push_of_some _ g), r⟩
        · have e := codeAmong_other (c := .ref c') ps1.toList hto hsame
          rcases hall1 q hqq with w | ⟨c₂, w1, w2⟩
          · left; simpa [e] using w
          · right; exact ⟨c₂, by simpa [e] using w1, w2.keeps h1⟩
    · refine ⟨ps1, hx2 _ _ htP hps1, hto1, fun q hqq => ?_⟩
      rcases hall1 q hqq with w | ⟨c₂, w1, w2⟩
      · exact .inl w
      · exact .inr ⟨c₂, w1, w2.keeps h1⟩
  · refine kla_makeFunctionHit (mg := W.mg) hcl hge B.top.g hcode C hps hto hsome ⟨bm, ob, b1, b2, hbG, hbP, b3, b4, b5, b6⟩ fun ctv h' tk hk hle => ?_
    have c1 : Coh W Γ ⟨m, (h'.objs.size, .raw fun o => o = kla_obj "<lambda>" qual params body scope clos ((W.mg "__name__").getD .none) c' ctv) :: mu, z⟩ { s with heap := h'.push (kla_obj "<lambda>" qual params body scope clos ((W.mg "__name__").getD .none) c' ctv), toks := tk } :=
      c.alloc (fun b o e => Heap.get?_push_of_some _ (hk b o e)) ⟨_, Heap.get?_push_size h' rfl, rfl⟩ (fun b hb => by rw [List.mem_singleton.mp hb]; exact hle) (by simp [Asn.foot])
    obtain ⟨z', h1, ⟨o, ho, rfl⟩, c2⟩ := c1.freeze (pre := []) (fun b hb => by rw [List.mem_singleton.mp hb]; exact Nat.le_trans c.size hle)
    exact ⟨_, c2, h _ z' h1 ⟨_, c', ctv, ho, hrec.keeps h1⟩⟩
end

theorem enterL {W : Wd} {n : Nat} {bm : Mu} {z : Heap} {Post : Value → Mu → Heap → Prop} {f : Addr} {qual : Str} {params : Arguments} {body : Expr} {scope : Scope} {clos : List (Str × Addr)} {args : List Value} (binds : Loc) {m : Loc} (WO : Base W W.B)
    (hL : IsLam z f qual params body scope clos) (hbind : ∀ pm c' ctv, bindArgs (kla_fn "<lambda>" qual params body scope clos pm (.ref c') ctv) ⟨args, []⟩ = pure binds) (hloc : ∀ x ∈ binds, scope.names.lookup x.1 = some .local) (hcell : ∀ x ∈ scope.names, x.2 ≠ .cell)
    (h : ∀ (Γ : Ctx) (c' : Addr), Room n Γ.A → NoE Γ → Γ.z₀ = z → Γ.bm = foots bm → Sat W Γ (eval body (envX qual scope Γ.L f (.ref c') clos)) (fun v => Ends bm Post (.ret v)) ⟨m, bm, z⟩)
    (hm : binds.reverse = m := by rfl) (hco : scope.isCoroutine = false := by rfl) (hgen : scope.isGenerator = false := by rfl) (hk : scope.kind = .function := by rfl) : SpecC W (n + 1) (.ref f) args bm z (NoNew Post) := by
  intro A s Q R P hQ
  have b : Base W s.heap := (WO.keeps P.Bz).keeps P.zle
  have room : A.depth < recursionLimit := by have := R.depth; show A.depth < 1000; omega
  obtain ⟨pm, c', ctv, ho, hrec⟩ := hL
  refine kla_callFunE room (P.zle _ _ ho) rfl hco hgen rfl (hrec.keeps P.zle) ?_
  rw [hbind]
  refine wpAny_pure (wpAny_newFunctionEnv hcell hloc (fun h₁ hns hsb => ⟨b.top.nolimit.fresh _ hsb, ?_⟩) hk)
  show codeAny _ _ (.expr body (envX qual scope s.heap.objs.size f (.ref c') clos)) _ _
  have hk₁ : ∀ b o, s.heap.get? b = some o → h₁.get? b = some o := fun b o e => hsb.extBut b o (Nat.ne_of_lt (Heap.lt_size e)) (Heap.get?_push_of_some _ e)
  rw [mget_lookup, hm] at hns
  let Γ : Ctx := ⟨A.deeper (envX qual scope s.heap.objs.size f (.ref c') clos), s.heap.objs.size, z, s, foots bm, fun _ _ => False⟩
  have S := h Γ c' R.deeper (fun _ _ x => x) rfl rfl _ (start (A := Γ.A) (E := Γ.E) (tk := s.toks + binds.length) P (Nat.le_refl _) hns hk₁)
  refine kla_codeExpr (wpAny_mono S (fun v s' hs => ?_) fun _ _ x => x.elim)
  obtain ⟨σ', c, bm', h1, h2, h3⟩ := hs
  rw [c.rest]
  exact hQ _ _ _ _ _ _ (c.ends rfl rfl h1 h2) ⟨rfl, h3⟩
end Mine
namespace Mine
open PySem PySem.W PyProof.Rows PySem.Calls

/-- a frame's names, laid by -/
noncomputable def NsO (f : Str → Option Value) (o : Obj) : Prop := ∃ es ep, o.data = .dict es ep ∧ StrKeys es ∧ ∀ name, nsFind es name = f name
theorem NsO.ns {h : Heap} {a : Addr} {f : Str → Option Value} (x : ∃ o, h.get? a = some o ∧ NsO f o) : h.Ns a f := let ⟨o, ho, es, ep, r⟩ := x; ⟨o, es, ep, ho, r⟩
theorem NsO.of {h : Heap} {a : Addr} {f : Str → Option Value} (x : h.Ns a f) : ∃ o, h.get? a = some o ∧ NsO f o := let ⟨o, es, ep, ho, r⟩ := x; ⟨o, ho, es, ep, r⟩

noncomputable abbrev Ctx.at (Γ : Ctx) (C : Addr) (E : Value → Shared → Prop) : Ctx := ⟨Γ.A, C, Γ.z₀, Γ.s₀, Γ.bm, E⟩

section
variable {W : Wd} {Γ : Ctx} {s : Shared} {env : Env}
theorem Coh.into {m : Loc} {mu : Mu} {z : Heap} {E : Value → Shared → Prop} (c : Coh W Γ ⟨m, mu, z⟩ s) {h' : Heap} {tk : Nat} {C : Addr} (hC : s.heap.objs.size ≤ C) (hn : h'.Ns C (mget [])) (hk : ∀ b o, s.heap.get? b = some o → h'.get? b = some o) :
    Coh W (Γ.at C E) ⟨[], (Γ.L, .raw (NsO (mget m))) :: mu, z⟩ { s with heap := h', toks := tk } where
  rest := by have := c.rest; rw [this]
  ns := hn
  Lnew := Nat.le_trans c.size hC
  keep := fun b o hb ht e => hk b o (c.keep b o hb ht e)
  zle := fun b o e => hk b o (c.zle b o e)
  z0 := c.z0
  zgrow := c.zgrow
  zL := by
    cases e : z.get? C with
    | none => rfl
    | some o => exact absurd (Heap.lt_size (c.zle _ _ e)) (Nat.not_lt.mpr hC)
  mu := fun p hp => by
    rcases List.mem_cons.mp hp with rfl | hp
    · obtain ⟨o, ho, r⟩ := NsO.of c.ns
      exact ⟨o, hk _ _ ho, r⟩
    · exact (c.mu p hp).same fun b _ o e => hk b o e
  muz := fun a ha => by
    rcases List.mem_cons.mp (by simpa [foots, Asn.foot] using ha : a ∈ Γ.L :: foots mu) with rfl | ha
    · exact ⟨c.zL, fun e => absurd c.ltL (Nat.not_lt.mpr (e ▸ hC)), c.Ltab⟩
    · exact ⟨(c.muz a ha).1, fun e => absurd (c.mult ha) (Nat.not_lt.mpr (e ▸ hC)), (c.muz a ha).2.2⟩
  munew := fun a ha => by
    rcases List.mem_cons.mp (by simpa [foots, Asn.foot] using ha : a ∈ Γ.L :: foots mu) with rfl | ha
    · exact .inr c.Lnew
    · exact c.munew a ha
  mund := by
    show (foots ((Γ.L, Asn.raw (NsO (mget m))) :: mu)).Nodup
    have : foots ((Γ.L, Asn.raw (NsO (mget m))) :: mu) = Γ.L :: foots mu := by simp [foots, Asn.foot]
    rw [this]
    exact List.nodup_cons.mpr ⟨fun h => (c.muz _ h).2.1 rfl, c.mund⟩
  tabs := c.tabs.mono (fun _ _ e => e) (fun t ht => (c.tabs t ht).1) fun t ht o e => hk _ _ e
  tlow := c.tlow
  Bz := c.Bz
  Bn := c.Bn

theorem Coh.outof {m m' : Loc} {pre post : Mu} {z : Heap} {C : Addr} {E : Value → Shared → Prop} (c : Coh W (Γ.at C E) ⟨m', pre ++ (Γ.L, .raw (NsO (mget m))) :: post, z⟩ s) (hL : Γ.n ≤ Γ.L) {h' : Heap} {tk : Nat} (hs : ∀ b o, b ≠ C → s.heap.get? b = some o → h'.get? b = some o) :
    Coh W Γ ⟨m, pre ++ post, z⟩ { s with heap := h', toks := tk } := by
  have cd := c.drop
  have hin : Γ.L ∈ foots (pre ++ (Γ.L, Asn.raw (NsO (mget m))) :: post) := List.mem_flatMap.mpr ⟨_, List.mem_append_right _ (.head _), by simp [Asn.foot]⟩
  have hq := c.muz _ hin
  have nd' : (foots pre ++ (Γ.L :: foots post)).Nodup := by simpa [foots, Asn.foot] using c.mund
  rw [List.nodup_append, List.nodup_cons] at nd'
  have off : Γ.L ∉ foots (pre ++ post) := fun hb => by
    rw [foots_append] at hb
    rcases List.mem_append.mp hb with w | w
    · exact nd'.2.2 _ w _ (.head _) rfl
    · exact nd'.2.1.1 w
  exact {
    rest := by have := c.rest; rw [this]
    ns := by
      obtain ⟨o, ho, r⟩ := c.mu (Γ.L, .raw (NsO (mget m))) (List.mem_append_right _ (.head _))
      exact NsO.ns ⟨o, hs _ _ hq.2.1 ho, r⟩
    Lnew := hL
    keep := fun b o hb ht e => hs b o (fun q => absurd (Heap.lt_size e) (Nat.not_lt.mpr (by rw [q]; exact c.Lnew))) (c.keep b o hb ht e)
    zle := fun b o e => hs b o (fun q => by have := c.zL; rw [q] at e; rw [this] at e; cases e) (c.zle b o e)
    z0 := c.z0
    zgrow := c.zgrow
    zL := hq.1
    mu := fun p hp => (cd.mu p hp).same fun b hb o e => hs b o (cd.muz b (List.mem_flatMap.mpr ⟨p, hp, hb⟩)).2.1 e
    muz := fun a ha => ⟨(cd.muz a ha).1, fun e => off (e ▸ ha), (cd.muz a ha).2.2⟩
    munew := cd.munew
    mund := cd.mund
    tabs := c.tabs.mono (fun _ _ e => e) (fun t ht => (c.tabs t ht).1) fun t ht o e => hs _ _ (fun q => c.Ltab (List.mem_map.mpr ⟨t, ht, q⟩)) e
    tlow := c.tlow
    Bz := c.Bz
    Bn := c.Bn }

noncomputable def CEnd (z₀ : Heap) (keep : Mu) (J : Mu → Heap → Prop) (σ : St) : Prop := ∃ mu', (keep ++ mu').Sublist σ.mu ∧ z₀.StaysIn σ.z ∧ J mu' σ.z

noncomputable abbrev Tests (ifs : List Expr) (env : Env) : Sem Bool := forIn ifs true fun c r => if r = true then do let ok ← isTrue c env (eval c env); pure (ForInStep.yield ok) else pure (ForInStep.yield r)
theorem tests_nil {σ : St} {k : Bool → St → Prop} (h : k true σ) : Sat W Γ (Tests [] env) k σ := Sat.pure h
theorem tests_one {σ : St} {c : Expr} {k : Bool → St → Prop} (h : Sat W Γ (isTrue c env (eval c env)) k σ) : Sat W Γ (Tests [c] env) k σ := fun s c => wpAny_tests_one (h s c)

/-- the turns of a comprehension of one `for` -/
structure CompSpec (W : Wd) (Γ : Ctx) (elt target : Expr) (ifs : List Expr) (scope : Scope) (cl : List (Str × Addr)) (env : Env) (J : Nat → List Value → Mu → Heap → Prop) (itv : Value) (σ : St) (it : Addr) (n : Nat) (P : Nat → Value → Prop) (S : Nat → Obj → Prop) (mu₂ : Mu) : Prop where
  itv : itv = .ref it
  mu : σ.mu = (it, .raw (S 0)) :: mu₂
  drw : Drw W Γ.A σ.z it n P S
  small : n ≤ 900000
  start : J 0 [] mu₂ σ.z
  turn : ∀ (Γ' : Ctx) (D : Addr) (i : Nat) (v : Value) (vs : List Value) (m : Loc) (mu : Mu) (z : Heap), Γ'.A = Γ.A → Γ'.z₀ = Γ.z₀ → Γ'.bm = Γ.bm → NoE Γ' → i < n → P i v → σ.z.StaysIn z → J i vs mu z →
    Sat W Γ' (assign target (compEnvC scope cl Γ'.L env) v) (fun _ σ₃ => Sat W Γ' (Tests ifs (compEnvC scope cl Γ'.L env)) (fun ok σ₄ =>
      if ok = true then Sat W Γ' (eval elt (compEnvC scope cl Γ'.L env)) (fun y => CEnd σ.z [(it, .raw (S (i + 1))), (D, .list vs), (Γ.L, .raw (NsO (mget σ.m)))] (J (i + 1) (vs ++ [y]))) σ₄
      else CEnd σ.z [(it, .raw (S (i + 1))), (D, .list vs), (Γ.L, .raw (NsO (mget σ.m)))] (J (i + 1) vs) σ₄) σ₃)
      ⟨m, (it, .raw (S (i + 1))) :: (D, .list vs) :: (Γ.L, .raw (NsO (mget σ.m))) :: mu, z⟩

end
end Mine
namespace Mine
noncomputable abbrev Span := Int × Int
noncomputable abbrev Mem (sp : List Span) (x : Int) : Prop := ∃ p ∈ sp, p.1 ≤ x ∧ x < p.2
noncomputable def Canon (sp : List Span) : Prop := (∀ p ∈ sp, p.1 < p.2) ∧ sp.Pairwise (fun p q => p.2 < q.1)
noncomputable def bordF (sp : List Span) : List Int := sp.flatMap fun p => [p.1, p.2]
/-- an item, by its place -/
noncomputable def nthI (l : List Int) (i : Nat) : Int := l.getD i 0
theorem nthI_some {l : List Int} {i : Nat} (h : i < l.length) : l[i]? = some (nthI l i) := by simp [nthI, List.getD_eq_getElem?_getD, h]
noncomputable def Incr (l : List Int) : Prop := l.Pairwise (· < ·)

theorem bordF_incr {sp : List Span} (h : Canon sp) : Incr (bordF sp) := by
  induction sp with
  | nil => exact List.Pairwise.nil
  | cons p r ih =>
    obtain ⟨h1, h2⟩ := h
    rw [List.pairwise_cons] at h2
    have ih := ih ⟨fun q hq => h1 q (.tail _ hq), h2.2⟩
    have hp := h1 p (.head _)
    have hr : ∀ y ∈ bordF r, p.2 < y := by
      intro y hy
      obtain ⟨q, hq, hy⟩ := List.mem_flatMap.mp hy
      have := h2.1 q hq
      have := h1 q (.tail _ hq)
      simp at hy
      rcases hy with rfl | rfl <;> omega
    show List.Pairwise _ (p.1 :: p.2 :: bordF r)
    refine List.pairwise_cons.mpr ⟨fun y hy => ?_, List.pairwise_cons.mpr ⟨hr, ih⟩⟩
    rcases List.mem_cons.mp hy with rfl | hy
    · exact hp
    · have := hr y hy; omega
theorem mem_bordF {sp : List Span} {y : Int} : y ∈ bordF sp ↔ ∃ p ∈ sp, y = p.1 ∨ y = p.2 := by
  simp [bordF, List.mem_flatMap]

/-- the merging of two rising lists, so far -/
structure Mrg (A B : List Int) (at_ to_ : Nat) (F : List Int) : Prop where
  la : at_ ≤ A.length
  lb : to_ ≤ B.length
  inc : Incr F
  mem : ∀ x, x ∈ F ↔ x ∈ A.take at_ ∨ x ∈ B.take to_
  leA : ∀ x ∈ F, ∀ y ∈ A.drop at_, x ≤ y
  leB : ∀ x ∈ F, ∀ y ∈ B.drop to_, x ≤ y
  len : F.length ≤ at_ + to_
theorem Mrg.start (A B : List Int) : Mrg A B 0 0 [] := ⟨Nat.zero_le _, Nat.zero_le _, List.Pairwise.nil, fun x => by simp, (fun _ h => nomatch h), (fun _ h => nomatch h), Nat.le_refl _⟩

theorem push_incr {F : List Int} {p : Int} (h : Incr F) (hle : ∀ x ∈ F, x ≤ p) (hl : F.getLast? ≠ some p) : Incr (F ++ [p]) := by
  refine List.pairwise_append.mpr ⟨h, List.pairwise_singleton _ _, fun x hx y hy => ?_⟩
  rw [List.mem_singleton.mp hy]
  rcases Int.lt_or_eq_of_le (hle x hx) with q | q
  · exact q
  · exfalso
    subst q
    -- x is the greatest, so it is the last
    have hne : F ≠ [] := fun e => by rw [e] at hx; cases hx
    have hlast := List.getLast_mem hne
    obtain ⟨i, z, rfl⟩ : ∃ i z, F = i ++ [z] := ⟨F.dropLast, F.getLast hne, (List.dropLast_concat_getLast hne).symm⟩
    rcases List.mem_append.mp hx with q | q
    · have := (List.pairwise_append.mp h).2.2 x q z (by simp)
      have := hle z (by simp)
      omega
    · exact hl (by rw [List.mem_singleton.mp q]; simp)
theorem last_in {F : List Int} {p : Int} (h : F.getLast? = some p) : p ∈ F := List.mem_of_getLast? h

theorem Mrg.stepA {A B F : List Int} {a t : Nat} {p : Int} (M : Mrg A B a t F) (hA : Incr A) (hp : A[a]? = some p) (hb : t = B.length ∨ ∃ q, B[t]? = some q ∧ p ≤ q) (hB : Incr B) :
    (F.getLast? ≠ some p → Mrg A B (a + 1) t (F ++ [p])) ∧ (F.getLast? = some p → Mrg A B (a + 1) t F) := by
  have ha : a < A.length := (List.getElem?_eq_some_iff.mp hp).1
  have hd : A.drop a = p :: A.drop (a + 1) := by
    rw [List.drop_eq_getElem_cons ha]; congr 1; exact (List.getElem?_eq_some_iff.mp hp).2
  have hpa : ∀ y ∈ A.drop (a + 1), p < y := by
    have := hA
    rw [← List.take_append_drop a A, hd] at this
    have := (List.pairwise_append.mp this).2.1
    exact (List.pairwise_cons.mp this).1
  have hpb : ∀ y ∈ B.drop t, p ≤ y := by
    intro y hy
    rcases hb with rfl | ⟨q, hq, hpq⟩
    · simp at hy
    · have ht : t < B.length := (List.getElem?_eq_some_iff.mp hq).1
      have hd : B.drop t = q :: B.drop (t + 1) := by
        rw [List.drop_eq_getElem_cons ht]; congr 1; exact (List.getElem?_eq_some_iff.mp hq).2
      rw [hd] at hy
      rcases List.mem_cons.mp hy with rfl | hy
      · exact hpq
      · have := hB
        rw [← List.take_append_drop t B, hd] at this
        have := (List.pairwise_cons.mp (List.pairwise_append.mp this).2.1).1 y hy
        omega
  have hle : ∀ x ∈ F, x ≤ p := fun x hx => M.leA x hx p (by rw [hd]; exact .head _)
  have ht : A.take (a + 1) = A.take a ++ [p] := by rw [List.take_add_one, hp]; rfl
  refine ⟨fun hl => ⟨ha, M.lb, push_incr M.inc hle hl, fun x => ?_, fun x hx y hy => ?_, fun x hx y hy => ?_, by have := M.len; simp; omega⟩, fun hl => ⟨ha, M.lb, M.inc, fun x => ?_, fun x hx y hy => M.leA x hx y (by rw [hd]; exact .tail _ hy), M.leB, by have := M.len; omega⟩⟩
  · rw [ht, List.mem_append, List.mem_append, M.mem x]; simp only [List.mem_singleton]
    constructor
    · rintro ((h | h) | h)
      · exact .inl (.inl h)
      · exact .inr h
      · exact .inl (.inr h)
    · rintro ((h | h) | h)
      · exact .inl (.inl h)
      · exact .inr h
      · exact .inl (.inr h)
  · have := hpa y hy
    rcases List.mem_append.mp hx with hx | hx
    · have := hle x hx; omega
    · rw [List.mem_singleton.mp hx]; omega
  · rcases List.mem_append.mp hx with hx | hx
    · exact M.leB x hx y hy
    · rw [List.mem_singleton.mp hx]; exact hpb y hy
  · rw [ht, List.mem_append, M.mem x]; simp only [List.mem_singleton]
    constructor
    · rintro (h | h)
      · exact .inl (.inl h)
      · exact .inr h
    · rintro ((h | h) | h)
      · exact .inl h
      · exact (M.mem x).mp (h ▸ last_in hl)
      · exact .inr h
theorem Mrg.swap {A B F : List Int} {a t : Nat} (M : Mrg A B a t F) : Mrg B A t a F := ⟨M.lb, M.la, M.inc, fun x => (M.mem x).trans Or.comm, M.leB, M.leA, by have := M.len; omega⟩
theorem Mrg.stepB {A B F : List Int} {a t : Nat} {p : Int} (M : Mrg A B a t F) (hA : Incr A) (hp : B[t]? = some p) (hb : a = A.length ∨ ∃ q, A[a]? = some q ∧ p ≤ q) (hB : Incr B) :
    (F.getLast? ≠ some p → Mrg A B a (t + 1) (F ++ [p])) ∧ (F.getLast? = some p → Mrg A B a (t + 1) F) := by
  have := M.swap.stepA hB hp hb hA
  exact ⟨fun h => (this.1 h).swap, fun h => (this.2 h).swap⟩
theorem Mrg.done {A B F : List Int} {a t : Nat} (M : Mrg A B a t F) (ha : ¬ a < A.length) (ht : ¬ t < B.length) : Incr F ∧ ∀ x, x ∈ F ↔ x ∈ A ∨ x ∈ B := by
  refine ⟨M.inc, fun x => ?_⟩
  have h1 : A.take a = A := List.take_of_length_le (by omega)
  have h2 : B.take t = B := List.take_of_length_le (by omega)
  rw [M.mem x, h1, h2]
noncomputable def lenF (sp : List Span) : Int := (sp.map fun p => p.2 - p.1).sum
theorem bordF_length (sp : List Span) : (bordF sp).length = 2 * sp.length := by
  induction sp with
  | nil => rfl
  | cons p r ih => simp only [bordF, List.flatMap_cons, List.length_append, List.length_cons, List.length_nil] at *; omega
end Mine
namespace Mine
structure Put (P : Int → Bool) (ps : List Int) (i : Nat) (F : List Span) : Prop where
  canon : Canon F
  ends : ∀ q ∈ F, q.2 ≤ nthI ps i
  mem : ∀ x, x < nthI ps i → (Mem F x ↔ P x = true)
  len : 2 * F.length ≤ i + 1
  len' : (∀ q, F.getLast? = some q → q.2 ≠ nthI ps i) → 2 * F.length ≤ i
theorem mem_nil (x : Int) : ¬ Mem [] x := fun ⟨p, hp, _⟩ => nomatch hp
theorem mem_app {A B : List Span} {x : Int} : Mem (A ++ B) x ↔ Mem A x ∨ Mem B x := by
  simp only [Mem, List.mem_append, or_and_right, exists_or]
theorem mem_one {p : Span} {x : Int} : Mem [p] x ↔ p.1 ≤ x ∧ x < p.2 := by simp [Mem]
theorem canon_nil : Canon [] := ⟨(fun _ h => nomatch h), List.Pairwise.nil⟩
theorem canon_snoc {F : List Span} {p : Span} (h : Canon F) (hp : p.1 < p.2) (hl : ∀ q ∈ F, q.2 < p.1) : Canon (F ++ [p]) := by
  refine ⟨fun q hq => ?_, List.pairwise_append.mpr ⟨h.2, List.pairwise_singleton _ _, fun a ha b hb => ?_⟩⟩
  · rcases List.mem_append.mp hq with q1 | q1
    · exact h.1 q q1
    · rw [List.mem_singleton.mp q1]; exact hp
  · rw [List.mem_singleton.mp hb]; exact hl a ha
theorem last_split {α : Type} {F : List α} {q : α} (h : F.getLast? = some q) : F = F.dropLast ++ [q] := by
  have hne : F ≠ [] := fun e => by rw [e] at h; cases h
  have := List.dropLast_concat_getLast hne
  rw [List.getLast?_eq_some_getLast hne] at h
  cases h; exact this.symm
theorem nthI_lt {ps : List Int} (h : Incr ps) {i j : Nat} (hij : i < j) (hj : j < ps.length) : nthI ps i < nthI ps j := by
  have := List.pairwise_iff_getElem.mp h i j (by omega) hj hij
  simpa [nthI, List.getD_eq_getElem?_getD, hj, show i < ps.length by omega] using this
section
variable {P : Int → Bool} {ps : List Int} {i : Nat} {F : List Span}
theorem Put.start (h : ∀ x, x < nthI ps 0 → P x = false) : Put P ps 0 [] := ⟨canon_nil, (fun _ h => nomatch h), fun x hx => by simp [mem_nil, h x hx], by simp, fun _ => by simp⟩
theorem Put.skip (M : Put P ps i F) (hlt : nthI ps i < nthI ps (i + 1)) (hc : ∀ x, nthI ps i ≤ x → x < nthI ps (i + 1) → P x = P (nthI ps i)) (hP : P (nthI ps i) = false) : Put P ps (i + 1) F := by
  refine ⟨M.canon, fun q hq => by have := M.ends q hq; omega, fun x hx => ?_, by have := M.len; omega, fun _ => by have := M.len; omega⟩
  rcases Int.lt_or_le x (nthI ps i) with h | h
  · exact M.mem x h
  · rw [hc x h hx, hP]
    refine ⟨fun ⟨q, hq, h1, h2⟩ => ?_, fun h => by cases h⟩
    have := M.ends q hq; omega
theorem Put.ext (M : Put P ps i F) (hlt : nthI ps i < nthI ps (i + 1)) (hc : ∀ x, nthI ps i ≤ x → x < nthI ps (i + 1) → P x = P (nthI ps i)) (hP : P (nthI ps i) = true) {q : Span} (hq : F.getLast? = some q) (he : q.2 = nthI ps i) :
    Put P ps (i + 1) (F.dropLast ++ [(q.1, nthI ps (i + 1))]) := by
  have e := last_split hq
  have hlen : F.dropLast.length + 1 = F.length := by have := congrArg List.length e; simp at this ⊢; omega
  have hcF := M.canon
  have hmF := M.mem
  have heF := M.ends
  have hl := M.len
  generalize hD : F.dropLast = D at *
  rw [e] at hcF hmF heF
  have hcD : Canon D := ⟨fun p hp => hcF.1 p (List.mem_append_left _ hp), (List.pairwise_append.mp hcF.2).1⟩
  have hDq : ∀ p ∈ D, p.2 < q.1 := fun p hp => (List.pairwise_append.mp hcF.2).2.2 p hp q (by simp)
  have hqq := hcF.1 q (by simp)
  refine ⟨canon_snoc hcD (by show q.1 < nthI ps (i + 1); omega) hDq, fun p hp => ?_, fun x hx => ?_, ?_, fun h => ?_⟩
  · rcases List.mem_append.mp hp with h | h
    · have := heF p (List.mem_append_left _ h); omega
    · rw [List.mem_singleton.mp h]; exact Int.le_refl _
  · rcases Int.lt_or_le x (nthI ps i) with h | h
    · rw [← hmF x h, mem_app, mem_app, mem_one, mem_one]
      refine or_congr_right ?_
      show q.1 ≤ x ∧ x < nthI ps (i + 1) ↔ _
      omega
    · rw [hc x h hx, hP, mem_app, mem_one]
      simp only [iff_true]
      exact .inr ⟨by show q.1 ≤ x; omega, hx⟩
  · simp only [List.length_append, List.length_singleton]; omega
  · exact absurd rfl (h (q.1, nthI ps (i + 1)) (by simp))
theorem Put.app (M : Put P ps i F) (hlt : nthI ps i < nthI ps (i + 1)) (hc : ∀ x, nthI ps i ≤ x → x < nthI ps (i + 1) → P x = P (nthI ps i)) (hP : P (nthI ps i) = true) (hq : ∀ q, F.getLast? = some q → q.2 ≠ nthI ps i) :
    Put P ps (i + 1) (F ++ [(nthI ps i, nthI ps (i + 1))]) := by
  have hl : ∀ q ∈ F, q.2 < nthI ps i := by
    rcases List.eq_nil_or_concat F with rfl | ⟨D, q, e⟩
    · exact fun _ h => nomatch h
    · rw [List.concat_eq_append] at e
      have hqn := hq q (by rw [e]; simp)
      have hqe := M.ends q (by rw [e]; simp)
      have hcF := M.canon
      rw [e] at hcF
      intro p hp
      rw [e] at hp
      rcases List.mem_append.mp hp with h | h
      · have := (List.pairwise_append.mp hcF.2).2.2 p h q (by simp)
        have := hcF.1 q (by simp)
        omega
      · rw [List.mem_singleton.mp h]; omega
  refine ⟨canon_snoc M.canon hlt hl, fun p hp => ?_, fun x hx => ?_, ?_, fun h => ?_⟩
  · rcases List.mem_append.mp hp with h | h
    · have := hl p h; omega
    · rw [List.mem_singleton.mp h]; exact Int.le_refl _
  · rw [mem_app, mem_one]
    rcases Int.lt_or_le x (nthI ps i) with h | h
    · rw [← M.mem x h]
      refine ⟨fun q => q.resolve_right fun q => ?_, .inl⟩
      have : nthI ps i ≤ x := q.1
      omega
    · rw [hc x h hx, hP]
      simp only [iff_true]
      exact .inr ⟨h, hx⟩
  · have := M.len' hq
    simp only [List.length_append, List.length_singleton]; omega
  · exact absurd rfl (h (nthI ps i, nthI ps (i + 1)) (by simp))
end
/-- what a merging of two lists of spans knows of its places -/
structure Plc (sp1 sp2 : List Span) (ps : List Int) : Prop where
  inc : Incr ps
  mem : ∀ x, x ∈ ps ↔ x ∈ bordF sp1 ∨ x ∈ bordF sp2
theorem Plc.swap {sp1 sp2 : List Span} {ps : List Int} (H : Plc sp1 sp2 ps) : Plc sp2 sp1 ps := ⟨H.inc, fun x => (H.mem x).trans Or.comm⟩
theorem in_nth {ps : List Int} {x : Int} (h : x ∈ ps) : ∃ j, j < ps.length ∧ nthI ps j = x := by
  obtain ⟨j, hj, rfl⟩ := List.getElem_of_mem h
  exact ⟨j, hj, by simp [nthI, List.getD_eq_getElem?_getD, hj]⟩
theorem nth_le {ps : List Int} (h : Incr ps) {i j : Nat} (hij : i ≤ j) (hj : j < ps.length) : nthI ps i ≤ nthI ps j := by
  rcases Nat.lt_or_ge i j with q | q
  · exact Int.le_of_lt (nthI_lt h q hj)
  · obtain rfl : i = j := by omega
    exact Int.le_refl _
section
variable {sp1 sp2 : List Span} {ps : List Int}
theorem Plc.b1 (H : Plc sp1 sp2 ps) {p : Span} (hp : p ∈ sp1) : (∃ j, j < ps.length ∧ nthI ps j = p.1) ∧ ∃ j, j < ps.length ∧ nthI ps j = p.2 :=
  ⟨in_nth ((H.mem _).mpr (.inl (mem_bordF.mpr ⟨p, hp, .inl rfl⟩))), in_nth ((H.mem _).mpr (.inl (mem_bordF.mpr ⟨p, hp, .inr rfl⟩)))⟩
theorem Plc.low (H : Plc sp1 sp2 ps) {x : Int} (hx : x < nthI ps 0) : ¬ Mem sp1 x := fun ⟨p, hp, h1, h2⟩ => by
  obtain ⟨⟨j, hj, e⟩, _⟩ := H.b1 hp
  have := nth_le H.inc (Nat.zero_le j) hj
  omega
theorem Plc.high (H : Plc sp1 sp2 ps) {x : Int} {n : Nat} (hn : ps.length = n + 1) (hx : nthI ps n ≤ x) : ¬ Mem sp1 x := fun ⟨p, hp, h1, h2⟩ => by
  obtain ⟨_, j, hj, e⟩ := H.b1 hp
  have := nth_le H.inc (show j ≤ n by omega) (by omega)
  omega
theorem Plc.nil (H : Plc sp1 sp2 ps) (hn : ps = []) {x : Int} : ¬ Mem sp1 x := fun ⟨p, hp, h1, h2⟩ => by
  obtain ⟨_, j, hj, e⟩ := H.b1 hp
  rw [hn] at hj; simp at hj
theorem Plc.const (H : Plc sp1 sp2 ps) {i : Nat} (hi : i + 1 < ps.length) {x : Int} (h1 : nthI ps i ≤ x) (h2 : x < nthI ps (i + 1)) : Mem sp1 x ↔ Mem sp1 (nthI ps i) := by
  have key : ∀ j, j < ps.length → (nthI ps j ≤ nthI ps i ∨ nthI ps (i + 1) ≤ nthI ps j) := fun j hj => by
    rcases Nat.lt_or_ge i j with q | q
    · exact .inr (nth_le H.inc q hj)
    · exact .inl (nth_le H.inc q (by omega))
  constructor
  · rintro ⟨p, hp, h3, h4⟩
    obtain ⟨⟨j, hj, e⟩, j', hj', e'⟩ := H.b1 hp
    have k1 := key j hj
    have k2 := key j' hj'
    exact ⟨p, hp, by omega, by omega⟩
  · rintro ⟨p, hp, h3, h4⟩
    obtain ⟨⟨j, hj, e⟩, j', hj', e'⟩ := H.b1 hp
    have k1 := key j hj
    have k2 := key j' hj'
    exact ⟨p, hp, by omega, by omega⟩
end
/-- the test of a place -/
noncomputable def opMem (op : Bool → Bool → Bool) (sp1 sp2 : List Span) (x : Int) : Bool := op (decide (Mem sp1 x)) (decide (Mem sp2 x))
section
variable {sp1 sp2 : List Span} {ps : List Int} {op : Bool → Bool → Bool}
theorem opMem_low (H : Plc sp1 sp2 ps) (h0 : op false false = false) (x : Int) (hx : x < nthI ps 0) : opMem op sp1 sp2 x = false := by
  simp only [opMem, H.low hx, H.swap.low hx, decide_false, h0]
theorem opMem_high (H : Plc sp1 sp2 ps) (h0 : op false false = false) {n : Nat} (hn : ps.length = n + 1) (x : Int) (hx : nthI ps n ≤ x) : opMem op sp1 sp2 x = false := by
  simp only [opMem, H.high hn hx, H.swap.high hn hx, decide_false, h0]
theorem opMem_nil (H : Plc sp1 sp2 ps) (h0 : op false false = false) (hn : ps = []) (x : Int) : opMem op sp1 sp2 x = false := by
  simp only [opMem, H.nil hn, H.swap.nil hn, decide_false, h0]
theorem opMem_const (H : Plc sp1 sp2 ps) {i : Nat} (hi : i + 1 < ps.length) (x : Int) (h1 : nthI ps i ≤ x) (h2 : x < nthI ps (i + 1)) : opMem op sp1 sp2 x = opMem op sp1 sp2 (nthI ps i) := by
  simp only [opMem, H.const hi h1 h2, H.swap.const hi h1 h2]
theorem put_done {F : List Span} {n : Nat} (H : Plc sp1 sp2 ps) (h0 : op false false = false) (hn : ps.length = n + 1) (M : Put (opMem op sp1 sp2) ps n F) (x : Int) : Mem F x ↔ opMem op sp1 sp2 x = true := by
  rcases Int.lt_or_le x (nthI ps n) with h | h
  · exact M.mem x h
  · rw [opMem_high H h0 hn x h]
    refine ⟨fun ⟨q, hq, h1, h2⟩ => ?_, fun h => by cases h⟩
    have := M.ends q hq; omega
end
end Mine
namespace Mine
/-- spans laid together, so far -/
structure Nrm (ps : List Span) (i : Nat) (F : List Span) : Prop where
  canon : Canon F
  mem : ∀ x, Mem F x ↔ Mem (ps.take i) x
  len : F.length ≤ i
  low : ∀ q ∈ F, ∀ p ∈ ps.drop i, q.1 ≤ p.1
theorem Nrm.start (ps : List Span) : Nrm ps 0 [] := ⟨canon_nil, fun x => by simp, Nat.le_refl _, fun _ h => nomatch h⟩
section
variable {ps F : List Span} {i : Nat} {p : Span}
theorem take_snoc (hp : ps[i]? = some p) : ps.take (i + 1) = ps.take i ++ [p] := by rw [List.take_add_one, hp]; rfl
theorem drop_cons' (hp : ps[i]? = some p) : ps.drop i = p :: ps.drop (i + 1) := by
  have hi : i < ps.length := (List.getElem?_eq_some_iff.mp hp).1
  rw [List.drop_eq_getElem_cons hi]; congr 1; exact (List.getElem?_eq_some_iff.mp hp).2
theorem sorted_drop (hs : ps.Pairwise fun a b => a.1 ≤ b.1) (hp : ps[i]? = some p) : ∀ q ∈ ps.drop (i + 1), p.1 ≤ q.1 := by
  have h := hs
  rw [← List.take_append_drop i ps, drop_cons' hp] at h
  exact (List.pairwise_cons.mp (List.pairwise_append.mp h).2.1).1
theorem Nrm.skip (M : Nrm ps i F) (hp : ps[i]? = some p) (h : p.2 ≤ p.1) : Nrm ps (i + 1) F := by
  refine ⟨M.canon, fun x => ?_, Nat.le_succ_of_le M.len, fun q hq r hr => M.low q hq r (by rw [drop_cons' hp]; exact .tail _ hr)⟩
  rw [take_snoc hp, mem_app, ← M.mem, mem_one]
  refine ⟨.inl, fun h => h.resolve_right ?_⟩
  omega
theorem Nrm.app (M : Nrm ps i F) (hs : ps.Pairwise fun a b => a.1 ≤ b.1) (hp : ps[i]? = some p) (h : p.1 < p.2) (hl : ∀ q, F.getLast? = some q → q.2 < p.1) : Nrm ps (i + 1) (F ++ [p]) := by
  refine ⟨canon_snoc M.canon h fun q hq => ?_, fun x => ?_, by have := M.len; simp; omega, fun q hq r hr => ?_⟩
  · rcases List.eq_nil_or_concat F with rfl | ⟨D, l, e⟩
    · cases hq
    · rw [List.concat_eq_append] at e
      have hqn := hl l (by rw [e]; simp)
      have hcF := M.canon
      rw [e] at hcF hq
      rcases List.mem_append.mp hq with h | h
      · have := (List.pairwise_append.mp hcF.2).2.2 q h l (by simp)
        have := hcF.1 l (by simp)
        omega
      · rw [List.mem_singleton.mp h]; omega
  · rw [take_snoc hp, mem_app, mem_app, M.mem]
  · rcases List.mem_append.mp hq with h | h
    · exact M.low q h r (by rw [drop_cons' hp]; exact .tail _ hr)
    · rw [List.mem_singleton.mp h]; exact sorted_drop hs hp r hr
theorem Nrm.ext (M : Nrm ps i F) (hs : ps.Pairwise fun a b => a.1 ≤ b.1) (hp : ps[i]? = some p) (h : p.1 < p.2) {q : Span} (hq : F.getLast? = some q) (hl : p.1 ≤ q.2) : Nrm ps (i + 1) (F.dropLast ++ [(q.1, if p.2 > q.2 then p.2 else q.2)]) := by
  have e := last_split hq
  have hlen : F.dropLast.length + 1 = F.length := by have := congrArg List.length e; simp at this ⊢; omega
  have hcF := M.canon
  have hmF := M.mem
  have hlo := M.low
  have hll := M.len
  have hqp := hlo q (by rw [e]; simp) p (by rw [drop_cons' hp]; exact .head _)
  generalize hD : F.dropLast = D at *
  rw [e] at hcF hmF hlo
  have hcD : Canon D := ⟨fun r hr => hcF.1 r (List.mem_append_left _ hr), (List.pairwise_append.mp hcF.2).1⟩
  have hDq : ∀ r ∈ D, r.2 < q.1 := fun r hr => (List.pairwise_append.mp hcF.2).2.2 r hr q (by simp)
  have hqq := hcF.1 q (by simp)
  refine ⟨canon_snoc hcD (by show q.1 < (if p.2 > q.2 then p.2 else q.2); split <;> omega) hDq, fun x => ?_, by simp only [List.length_append, List.length_singleton]; omega, fun r hr t ht => ?_⟩
  · rw [take_snoc hp, mem_app, mem_app, ← hmF, mem_app, mem_one, mem_one, mem_one]
    rw [or_assoc]
    refine or_congr_right ?_
    show q.1 ≤ x ∧ x < (if p.2 > q.2 then p.2 else q.2) ↔ _
    split <;> omega
  · rcases List.mem_append.mp hr with h | h
    · exact hlo r (List.mem_append_left _ h) t (by rw [drop_cons' hp]; exact .tail _ ht)
    · rw [List.mem_singleton.mp h]
      exact hlo q (by simp) t (by rw [drop_cons' hp]; exact .tail _ ht)
end
theorem Nrm.done {ps F : List Span} (M : Nrm ps ps.length F) (x : Int) : Mem F x ↔ Mem ps x := by rw [M.mem, List.take_length]
theorem mem_perm {a b : List Span} (h : a.Perm b) (x : Int) : Mem a x ↔ Mem b x := ⟨fun ⟨p, hp, r⟩ => ⟨p, h.subset hp, r⟩, fun ⟨p, hp, r⟩ => ⟨p, h.symm.subset hp, r⟩⟩

/-- canonical spans are told by their places -/
theorem canon_uniq : ∀ {a b : List Span}, Canon a → Canon b → (∀ x, Mem a x ↔ Mem b x) → a = b
  | [], [], _, _, _ => rfl
  | [], q :: b, _, hb, h => by
    have := (h q.1).mpr ⟨q, .head _, Int.le_refl _, hb.1 q (.head _)⟩
    exact absurd this (mem_nil _)
  | p :: a, [], ha, _, h => by
    have := (h p.1).mp ⟨p, .head _, Int.le_refl _, ha.1 p (.head _)⟩
    exact absurd this (mem_nil _)
  | p :: a, q :: b, ha, hb, h => by
    have ha2 := List.pairwise_cons.mp ha.2
    have hb2 := List.pairwise_cons.mp hb.2
    have hpp := ha.1 p (.head _)
    have hqq := hb.1 q (.head _)
    have e1 : p.1 = q.1 := by
      obtain ⟨r, hr, r1, r2⟩ := (h p.1).mp ⟨p, .head _, Int.le_refl _, hpp⟩
      obtain ⟨t, ht, t1, t2⟩ := (h q.1).mpr ⟨q, .head _, Int.le_refl _, hqq⟩
      have hr' : q.1 ≤ r.1 := by
        rcases List.mem_cons.mp hr with rfl | hr
        · exact Int.le_refl _
        · have := hb2.1 r hr; omega
      have ht' : p.1 ≤ t.1 := by
        rcases List.mem_cons.mp ht with rfl | ht
        · exact Int.le_refl _
        · have := ha2.1 t ht; omega
      omega
    have e2 : p.2 = q.2 := by
      -- the place behind the shorter one
      rcases (by omega : p.2 < q.2 ∨ q.2 < p.2 ∨ p.2 = q.2) with hlt | hlt | e
      · obtain ⟨t, ht, t1, t2⟩ := (h p.2).mpr ⟨q, .head _, by omega, hlt⟩
        rcases List.mem_cons.mp ht with rfl | ht
        · omega
        · have := ha2.1 t ht; omega
      · obtain ⟨t, ht, t1, t2⟩ := (h q.2).mp ⟨p, .head _, by omega, hlt⟩
        rcases List.mem_cons.mp ht with rfl | ht
        · omega
        · have := hb2.1 t ht; omega
      · exact e
    obtain rfl : p = q := Prod.ext e1 e2
    have ca : Canon a := ⟨fun r hr => ha.1 r (.tail _ hr), ha2.2⟩
    have cb : Canon b := ⟨fun r hr => hb.1 r (.tail _ hr), hb2.2⟩
    rw [canon_uniq ca cb fun x => ?_]
    have hx := h x
    constructor
    · rintro ⟨t, ht, t1, t2⟩
      obtain ⟨r, hr, r1, r2⟩ := hx.mp ⟨t, .tail _ ht, t1, t2⟩
      rcases List.mem_cons.mp hr with rfl | hr
      · have := ha2.1 t ht; omega
      · exact ⟨r, hr, r1, r2⟩
    · rintro ⟨t, ht, t1, t2⟩
      obtain ⟨r, hr, r1, r2⟩ := hx.mpr ⟨t, .tail _ ht, t1, t2⟩
      rcases List.mem_cons.mp hr with rfl | hr
      · have := hb2.1 t ht; omega
      · exact ⟨r, hr, r1, r2⟩
end Mine
namespace Mine
noncomputable abbrev RowsM := List (Int × List Span)
noncomputable def rowAt (rs : RowsM) (y : Int) : List Span := ((rs.find? fun r => r.1 = y).map (·.2)).getD []
structure RegOk (rs : RowsM) : Prop where
  up : rs.Pairwise fun a b => a.1 < b.1
  ne : ∀ r ∈ rs, r.2 ≠ []
  canon : ∀ r ∈ rs, Canon r.2
theorem rowAt_cons (r : Int × List Span) (rs : RowsM) (y : Int) : rowAt (r :: rs) y = if r.1 = y then r.2 else rowAt rs y := by
  unfold rowAt
  rw [List.find?_cons]
  by_cases h : r.1 = y <;> simp [h]
theorem rowAt_nil (y : Int) : rowAt [] y = [] := rfl
theorem rowAt_notin {rs : RowsM} {y : Int} (h : ∀ r ∈ rs, r.1 ≠ y) : rowAt rs y = [] := by
  induction rs with
  | nil => rfl
  | cons r rs ih =>
    rw [rowAt_cons, if_neg (h r (.head _))]
    exact ih fun q hq => h q (.tail _ hq)
theorem rowAt_mem {rs : RowsM} {y : Int} (h : rowAt rs y ≠ []) : ∃ r ∈ rs, r.1 = y ∧ r.2 = rowAt rs y := by
  induction rs with
  | nil => exact absurd rfl h
  | cons r rs ih =>
    rw [rowAt_cons] at h ⊢
    by_cases e : r.1 = y
    · rw [if_pos e]; exact ⟨r, .head _, e, rfl⟩
    · rw [if_neg e] at h ⊢
      obtain ⟨q, hq, e1, e2⟩ := ih h
      exact ⟨q, .tail _ hq, e1, e2⟩
theorem rowAt_of_mem {rs : RowsM} (hn : (rs.map (·.1)).Nodup) {r : Int × List Span} (hr : r ∈ rs) : rowAt rs r.1 = r.2 := by
  induction rs with
  | nil => cases hr
  | cons q rs ih =>
    rw [rowAt_cons]
    rw [List.map_cons, List.nodup_cons] at hn
    rcases List.mem_cons.mp hr with rfl | hr
    · rw [if_pos rfl]
    · rw [if_neg fun (e : q.1 = r.1) => hn.1 (List.mem_map.mpr ⟨r, hr, e.symm⟩)]
      exact ih hn.2 hr
theorem RegOk.nodup {rs : RowsM} (h : RegOk rs) : (rs.map (·.1)).Nodup := by
  rw [List.nodup_iff_pairwise_ne, List.pairwise_map]
  exact h.up.imp fun {a b} q => by omega
theorem canon_ne {sp : List Span} (h : Canon sp) (hne : sp ≠ []) : ∃ x, Mem sp x := by
  cases sp with
  | nil => exact absurd rfl hne
  | cons p r => exact ⟨p.1, p, .head _, Int.le_refl _, h.1 p (.head _)⟩
theorem RegOk.tail {r : Int × List Span} {rs : RowsM} (h : RegOk (r :: rs)) : RegOk rs := ⟨(List.pairwise_cons.mp h.up).2, fun q hq => h.ne q (.tail _ hq), fun q hq => h.canon q (.tail _ hq)⟩
theorem RegOk.rowCanon {rs : RowsM} (h : RegOk rs) (y : Int) : Canon (rowAt rs y) := by
  by_cases e : rowAt rs y = []
  · rw [e]; exact canon_nil
  · obtain ⟨r, hr, _, e2⟩ := rowAt_mem e
    rw [← e2]; exact h.canon r hr
/-- regions are told by their places -/
theorem reg_uniq : ∀ {a b : RowsM}, RegOk a → RegOk b → (∀ x y, Mem (rowAt a y) x ↔ Mem (rowAt b y) x) → a = b
  | [], [], _, _, _ => rfl
  | [], q :: b, _, hb, h => by
    obtain ⟨x, hx⟩ := canon_ne (hb.canon q (.head _)) (hb.ne q (.head _))
    have := (h x q.1).mpr (by rw [rowAt_cons, if_pos rfl]; exact hx)
    exact absurd this (mem_nil _)
  | p :: a, [], ha, _, h => by
    obtain ⟨x, hx⟩ := canon_ne (ha.canon p (.head _)) (ha.ne p (.head _))
    have := (h x p.1).mp (by rw [rowAt_cons, if_pos rfl]; exact hx)
    exact absurd this (mem_nil _)
  | p :: a, q :: b, ha, hb, h => by
    have ha2 := List.pairwise_cons.mp ha.up
    have hb2 := List.pairwise_cons.mp hb.up
    have low : ∀ {r : Int × List Span} {rs : RowsM} {x y : Int}, RegOk (r :: rs) → Mem (rowAt (r :: rs) y) x → r.1 ≤ y := fun {r rs x y} hr hm => by
      have hne : rowAt (r :: rs) y ≠ [] := fun e => by rw [e] at hm; exact mem_nil _ hm
      obtain ⟨t, ht, e1, _⟩ := rowAt_mem hne
      rcases List.mem_cons.mp ht with rfl | ht
      · omega
      · have := (List.pairwise_cons.mp hr.up).1 t ht; omega
    have e1 : p.1 = q.1 := by
      obtain ⟨x, hx⟩ := canon_ne (ha.canon p (.head _)) (ha.ne p (.head _))
      obtain ⟨x', hx'⟩ := canon_ne (hb.canon q (.head _)) (hb.ne q (.head _))
      have h1 := low hb ((h x p.1).mp (by rw [rowAt_cons, if_pos rfl]; exact hx))
      have h2 := low ha ((h x' q.1).mpr (by rw [rowAt_cons, if_pos rfl]; exact hx'))
      omega
    have e2 : p.2 = q.2 := by
      refine canon_uniq (ha.canon p (.head _)) (hb.canon q (.head _)) fun x => ?_
      have := h x p.1
      rw [rowAt_cons, rowAt_cons, if_pos rfl, if_pos e1.symm] at this
      exact this
    obtain rfl : p = q := Prod.ext e1 e2
    rw [reg_uniq ha.tail hb.tail fun x y => ?_]
    have := h x y
    rw [rowAt_cons, rowAt_cons] at this
    by_cases e : p.1 = y
    · rw [rowAt_notin fun r hr => by have := ha2.1 r hr; omega, rowAt_notin fun r hr => by have := hb2.1 r hr; omega]
    · rwa [if_neg e, if_neg e] at this

/-- what the rows of a region come to -/
noncomputable def kept (rs : RowsM) (ys : List Int) : RowsM := ys.filterMap fun y => if rowAt rs y = [] then none else some (y, rowAt rs y)
theorem kept_snoc (rs : RowsM) (ys : List Int) (y : Int) : kept rs (ys ++ [y]) = kept rs ys ++ (if rowAt rs y = [] then [] else [(y, rowAt rs y)]) := by
  unfold kept
  rw [List.filterMap_append]
  by_cases h : rowAt rs y = [] <;> simp [h]
theorem kept_fst {rs : RowsM} {ys : List Int} {r : Int × List Span} (h : r ∈ kept rs ys) : r.1 ∈ ys ∧ r.2 = rowAt rs r.1 ∧ r.2 ≠ [] := by
  obtain ⟨y, hy, e⟩ := List.mem_filterMap.mp h
  by_cases q : rowAt rs y = []
  · rw [if_pos q] at e; cases e
  · rw [if_neg q] at e; cases e; exact ⟨hy, rfl, q⟩
theorem kept_row {rs : RowsM} {ys : List Int} (hys : ∀ r ∈ rs, r.1 ∈ ys) (y : Int) : rowAt (kept rs ys) y = rowAt rs y := by
  by_cases h : rowAt rs y = []
  · rw [h]
    by_cases e : rowAt (kept rs ys) y = []
    · exact e
    · obtain ⟨r, hr, e1, e2⟩ := rowAt_mem e
      obtain ⟨_, q1, q2⟩ := kept_fst hr
      rw [e1, h] at q1; exact absurd q1 q2
  · obtain ⟨r, hr, e1, _⟩ := rowAt_mem h
    have hy := hys r hr
    rw [e1] at hy
    have : ∀ ys : List Int, y ∈ ys → rowAt (kept rs ys) y = rowAt rs y := fun ys => by
      induction ys with
      | nil => intro h; cases h
      | cons a ys ih =>
        intro hm
        by_cases ea : a = y
        · subst ea
          show rowAt (List.filterMap _ (a :: ys)) a = _
          simp only [List.filterMap_cons, if_neg h]
          rw [rowAt_cons, if_pos rfl]
        · have hm' : y ∈ ys := (List.mem_cons.mp hm).resolve_left fun q => ea q.symm
          by_cases q : rowAt rs a = []
          · show rowAt (List.filterMap _ (a :: ys)) y = _
            simp only [List.filterMap_cons, if_pos q]
            exact ih hm'
          · show rowAt (List.filterMap _ (a :: ys)) y = _
            simp only [List.filterMap_cons, if_neg q]
            rw [rowAt_cons, if_neg ea]
            exact ih hm'
    exact this ys hy
theorem kept_ok {rs : RowsM} {ys : List Int} (hu : ys.Pairwise (· < ·)) (hc : ∀ r ∈ rs, Canon r.2) : RegOk (kept rs ys) := by
  refine ⟨?_, fun r hr => (kept_fst hr).2.2, fun r hr => ?_⟩
  · unfold kept
    rw [List.pairwise_filterMap]
    refine hu.imp fun {a b} h c hc d hd => ?_
    split at hc
    · cases hc
    · split at hd
      · cases hd
      · cases hc; cases hd; exact h
  · obtain ⟨_, e, hne⟩ := kept_fst hr
    rw [e] at hne ⊢
    obtain ⟨q, hq, _, e2⟩ := rowAt_mem hne
    rw [← e2]; exact hc q hq
end Mine
namespace Mine
/-- a rectangle: left, top, width, height -/
structure Rc where
  l : Int
  t : Int
  w : Int
  h : Int
noncomputable abbrev Rc.ok (q : Rc) : Prop := 0 ≤ q.w ∧ 0 ≤ q.h
noncomputable abbrev Rc.has (q : Rc) (x y : Int) : Prop := q.l ≤ x ∧ x < q.l + q.w ∧ q.t ≤ y ∧ y < q.t + q.h
/-- the spans that some rectangles lay at one height -/
noncomputable def covRow (qs : List Rc) (y : Int) : List Span := (qs.filter fun q => decide (q.t ≤ y ∧ y < q.t + q.h)).map fun q => (q.l, q.l + q.w)
theorem covRow_snoc (qs : List Rc) (q : Rc) (y : Int) : covRow (qs ++ [q]) y = covRow qs y ++ (if q.t ≤ y ∧ y < q.t + q.h then [(q.l, q.l + q.w)] else []) := by
  unfold covRow
  rw [List.filter_append, List.map_append]
  congr 1
  by_cases h : q.t ≤ y ∧ y < q.t + q.h <;> simp [h]
theorem covRow_len (qs : List Rc) (y : Int) : (covRow qs y).length ≤ qs.length := by
  unfold covRow
  rw [List.length_map]
  exact List.length_filter_le _ _
theorem covRow_mem (qs : List Rc) (x y : Int) : Mem (covRow qs y) x ↔ ∃ q ∈ qs, q.has x y := by
  unfold Mem covRow Rc.has
  constructor
  · rintro ⟨p, hp, h1, h2⟩
    obtain ⟨q, hq, rfl⟩ := List.mem_map.mp hp
    obtain ⟨hq, hd⟩ := List.mem_filter.mp hq
    have := of_decide_eq_true hd
    exact ⟨q, hq, h1, h2, this.1, this.2⟩
  · rintro ⟨q, hq, h1, h2, h3, h4⟩
    exact ⟨_, List.mem_map.mpr ⟨q, List.mem_filter.mpr ⟨hq, decide_eq_true ⟨h3, h4⟩⟩, rfl⟩, h1, h2⟩
/-- a row is laid -/
noncomputable def putRow (rs : RowsM) (y : Int) (sp : List Span) : RowsM := if y ∈ rs.map (·.1) then rs.map (fun r => if r.1 = y then (r.1, sp) else r) else rs ++ [(y, sp)]
theorem putRow_keys (rs : RowsM) (y : Int) (sp : List Span) (h : (rs.map (·.1)).Nodup) : ((putRow rs y sp).map (·.1)).Nodup := by
  unfold putRow
  split
  · have : (rs.map fun r => if r.1 = y then (r.1, sp) else r).map (·.1) = rs.map (·.1) := by
      rw [List.map_map]
      refine List.map_congr_left fun r _ => ?_
      show (if r.1 = y then (r.1, sp) else r).1 = r.1
      split <;> rfl
    rw [this]; exact h
  · rename_i hn
    rw [List.map_append, List.nodup_append]
    refine ⟨h, by simp, fun a ha b hb => ?_⟩
    simp at hb
    rintro rfl
    exact hn (hb ▸ ha)
theorem putRow_len (rs : RowsM) (y : Int) (sp : List Span) : (putRow rs y sp).length ≤ rs.length + 1 := by
  unfold putRow
  split <;> simp
theorem putRow_row (rs : RowsM) (y : Int) (sp : List Span) (w : Int) : rowAt (putRow rs y sp) w = if w = y then sp else rowAt rs w := by
  unfold putRow
  split
  · rename_i hin
    induction rs with
    | nil => cases hin
    | cons r rs ih =>
      rw [List.map_cons, rowAt_cons, rowAt_cons]
      by_cases hr : r.1 = y
      · rw [if_pos hr]
        by_cases hw : w = y
        · rw [if_pos hw]; simp [hr, hw]
        · rw [if_neg hw]
          have h1 : ¬ r.1 = w := fun e => hw (e.symm.trans hr)
          rw [if_neg h1]
          rw [if_neg h1]
          by_cases hin' : y ∈ rs.map (·.1)
          · rw [ih hin', if_neg hw]
          · have : (rs.map fun r => if r.1 = y then (r.1, sp) else r) = rs := by
              refine (List.map_congr_left fun q hq => ?_).trans (List.map_id rs)
              show (if q.1 = y then (q.1, sp) else q) = q
              rw [if_neg fun e => hin' (List.mem_map.mpr ⟨q, hq, e⟩)]
            rw [this]
      · have hin' : y ∈ rs.map (·.1) := (List.mem_cons.mp hin).resolve_left fun e => hr e.symm
        rw [if_neg hr]
        by_cases h1 : r.1 = w
        · have hw : ¬ w = y := fun e => hr (h1.trans e)
          rw [if_pos h1, if_neg hw, if_pos h1]
        · rw [if_neg h1, ih hin', if_neg h1]
  · rename_i hn
    have : ∀ rs : RowsM, y ∉ rs.map (·.1) → rowAt (rs ++ [(y, sp)]) w = if w = y then sp else rowAt rs w := fun rs => by
      induction rs with
      | nil =>
        intro _
        show rowAt [(y, sp)] w = _
        rw [rowAt_cons, rowAt_nil]
        by_cases hw : w = y
        · simp [hw]
        · rw [if_neg hw, if_neg fun e => hw e.symm]
      | cons r rs ih =>
        intro hn
        rw [List.map_cons, List.mem_cons, not_or] at hn
        rw [List.cons_append, rowAt_cons, rowAt_cons, ih hn.2]
        by_cases h1 : r.1 = w
        · have hw : ¬ w = y := fun e => hn.1 (e.symm.trans h1.symm)
          rw [if_pos h1, if_neg hw, if_pos h1]
        · rw [if_neg h1, if_neg h1]
    exact this rs hn
end Mine
namespace Mine
/-- the places that the law looks at -/
noncomputable def aroundRow (j : Nat) : List Span := (List.range 15).map fun (i : Nat) => ((-5 + (i : Int), -4 + (j : Int)) : Span)
noncomputable def aroundL : List Span := (List.range 11).flatMap aroundRow
theorem count_span (a b lo : Int) (hab : a ≤ b) (ha : lo ≤ a) : ∀ n : Nat, ((((List.range n).filter fun (i : Nat) => decide (a ≤ lo + (i : Int) ∧ lo + (i : Int) < b)).length : Nat) : Int) = if lo + n ≤ a then 0 else if lo + n ≤ b then lo + n - a else b - a
  | 0 => by simp; omega
  | n + 1 => by
    have ih := count_span a b lo hab ha n
    rw [List.range_succ, List.filter_append, List.length_append]
    by_cases h : a ≤ lo + (n : Int) ∧ lo + (n : Int) < b
    · have e : ((List.filter (fun (i : Nat) => decide (a ≤ lo + (i : Int) ∧ lo + (i : Int) < b)) [n]).length) = 1 := by simp [h]
      rw [e]
      split at ih <;> split <;> first | omega | (split at ih <;> first | omega | (split <;> omega))
    · have e : ((List.filter (fun (i : Nat) => decide (a ≤ lo + (i : Int) ∧ lo + (i : Int) < b)) [n]).length) = 0 := by
        have : decide (a ≤ lo + (n : Int) ∧ lo + (n : Int) < b) = false := decide_eq_false h
        rw [List.filter_cons, this]; rfl
      rw [e]
      split at ih <;> split <;> first | omega | (split at ih <;> first | omega | (split <;> omega))
theorem filter_or_len {α : Type} {l : List α} {f g h : α → Bool} (hf : ∀ x ∈ l, f x = (g x || h x)) (hd : ∀ x ∈ l, ¬ (g x = true ∧ h x = true)) : (l.filter f).length = (l.filter g).length + (l.filter h).length := by
  induction l with
  | nil => rfl
  | cons a l ih =>
    have ih := ih (fun x hx => hf x (.tail _ hx)) fun x hx => hd x (.tail _ hx)
    have h1 := hf a (.head _)
    have h2 := hd a (.head _)
    rw [List.filter_cons, List.filter_cons, List.filter_cons, h1]
    cases hg : g a <;> cases hh : h a <;> simp [hg, hh] at h2 ⊢ <;> omega
theorem count_lenF : ∀ {sp : List Span} {lo : Int} {n : Nat}, Canon sp → (∀ p ∈ sp, lo ≤ p.1 ∧ p.2 ≤ lo + n) → ((((List.range n).filter fun (i : Nat) => decide (Mem sp (lo + (i : Int)))).length : Nat) : Int) = lenF sp
  | [], lo, n, _, _ => by
    have : (List.range n).filter (fun (i : Nat) => decide (Mem [] (lo + (i : Int)))) = [] := by
      rw [List.filter_eq_nil_iff]
      intro a _
      simp [Mem]
    rw [this]; rfl
  | p :: sp, lo, n, hc, hb => by
    have c2 := List.pairwise_cons.mp hc.2
    have ih := count_lenF (lo := lo) (n := n) (sp := sp) ⟨fun q hq => hc.1 q (.tail _ hq), c2.2⟩ fun q hq => hb q (.tail _ hq)
    have hp := hc.1 p (.head _)
    have hbp := hb p (.head _)
    rw [filter_or_len (g := fun (i : Nat) => decide (p.1 ≤ lo + (i : Int) ∧ lo + (i : Int) < p.2)) (h := fun (i : Nat) => decide (Mem sp (lo + (i : Int))))]
    · rw [Int.natCast_add, ih, count_span p.1 p.2 lo (by omega) hbp.1]
      show _ = lenF (p :: sp)
      have e : lenF (p :: sp) = (p.2 - p.1) + lenF sp := by simp [lenF]
      rw [e]
      split
      · omega
      · split <;> omega
    · intro i _
      rw [Bool.eq_iff_iff, Bool.or_eq_true, decide_eq_true_eq, decide_eq_true_eq, decide_eq_true_eq]
      exact (mem_app (A := [p]) (B := sp)).trans (or_congr_left mem_one)
    · rintro i _ ⟨h1, h2⟩
      rw [decide_eq_true_eq] at h1 h2
      obtain ⟨q, hq, q1, q2⟩ := h2
      have := c2.1 q hq
      omega
theorem sum_pick (c : Int) (y : Int) : ∀ {ys : List Int}, ys.Nodup → (ys.map fun w => if y = w then c else 0).sum = if y ∈ ys then c else 0
  | [], _ => rfl
  | w :: ys, h => by
    rw [List.nodup_cons] at h
    rw [List.map_cons, List.sum_cons, sum_pick c y h.2]
    by_cases e : y = w
    · subst e; simp [h.1]
    · simp [e]
theorem sum_add {α : Type} (f g : α → Int) : ∀ l : List α, (l.map fun x => f x + g x).sum = (l.map f).sum + (l.map g).sum
  | [] => rfl
  | a :: l => by
    rw [List.map_cons, List.map_cons, List.map_cons, List.sum_cons, List.sum_cons, List.sum_cons, sum_add f g l]; omega
theorem sum_rows (f : List Span → Int) (h0 : f [] = 0) {ys : List Int} (hy : ys.Nodup) : ∀ {rs : RowsM}, (rs.map (·.1)).Nodup → (∀ r ∈ rs, r.1 ∈ ys) → (ys.map fun y => f (rowAt rs y)).sum = (rs.map fun r => f r.2).sum
  | [], _, _ => by
    have : ∀ ys : List Int, (ys.map fun y => f (rowAt [] y)).sum = 0 := fun ys => by
      induction ys with
      | nil => rfl
      | cons a ys ih => rw [List.map_cons, List.sum_cons, ih, rowAt_nil, h0]; rfl
    rw [this]; rfl
  | r :: rs, hn, hin => by
    rw [List.map_cons, List.nodup_cons] at hn
    have ih := sum_rows f h0 hy hn.2 fun q hq => hin q (.tail _ hq)
    have e : ∀ y ∈ ys, f (rowAt (r :: rs) y) = (if r.1 = y then f r.2 else 0) + f (rowAt rs y) := fun y _ => by
      rw [rowAt_cons]
      by_cases h : r.1 = y
      · rw [if_pos h, if_pos h, rowAt_notin fun q hq e => hn.1 (List.mem_map.mpr ⟨q, hq, e.trans h.symm⟩), h0]; omega
      · rw [if_neg h, if_neg h]; omega
    rw [List.map_congr_left e, sum_add, sum_pick _ _ hy, if_pos (hin r (.head _)), ih, List.map_cons, List.sum_cons]
theorem area_law {rs : RowsM} (ho : RegOk rs) {P : Span → Bool} (hP : ∀ y x, Mem (rowAt rs y) x ↔ P (x, y) = true) (hb : ∀ x y, P (x, y) = true → (-5 ≤ x ∧ x < 10) ∧ (-4 ≤ y ∧ y < 7)) :
    (rs.map fun r => lenF r.2).sum = ((aroundL.filter P).length : Int) := by
  have hn := ho.nodup
  have hys : ((List.range 11).map fun (j : Nat) => -4 + (j : Int)).Nodup := by
    rw [List.nodup_iff_pairwise_ne, List.pairwise_map]
    exact List.pairwise_lt_range.imp fun {a b} h => by omega
  have hin : ∀ r ∈ rs, r.1 ∈ (List.range 11).map fun (j : Nat) => -4 + (j : Int) := fun r hr => by
    obtain ⟨x, hx⟩ := canon_ne (ho.canon r hr) (ho.ne r hr)
    rw [← rowAt_of_mem hn hr] at hx
    have := (hb x r.1 ((hP r.1 x).mp hx)).2
    exact List.mem_map.mpr ⟨(r.1 + 4).toNat, List.mem_range.mpr (by omega), by omega⟩
  rw [← sum_rows lenF rfl hys hn hin, List.map_map]
  have hrow : ∀ j : Nat, lenF (rowAt rs (-4 + (j : Int))) = (((aroundRow j).filter P).length : Int) := fun j => by
    have hc := ho.rowCanon (-4 + (j : Int))
    rw [← count_lenF (lo := -5) (n := 15) hc fun p hp => ?_]
    · unfold aroundRow
      rw [List.filter_map, List.length_map]
      refine congrArg (fun l : List Nat => (l.length : Int)) (List.filter_congr fun i _ => ?_)
      rw [Bool.eq_iff_iff, decide_eq_true_eq]
      exact hP _ _
    · have h1 := hc.1 p hp
      have m1 : Mem (rowAt rs (-4 + (j : Int))) p.1 := ⟨p, hp, Int.le_refl _, h1⟩
      have m2 : Mem (rowAt rs (-4 + (j : Int))) (p.2 - 1) := ⟨p, hp, by omega, by omega⟩
      have b1 := (hb _ _ ((hP _ _).mp m1)).1
      have b2 := (hb _ _ ((hP _ _).mp m2)).1
      omega
  have key : ∀ l : List Nat, (l.map ((fun y => lenF (rowAt rs y)) ∘ fun (j : Nat) => -4 + (j : Int))).sum = (((l.flatMap aroundRow).filter P).length : Int) := fun l => by
    induction l with
    | nil => rfl
    | cons j l ih =>
      rw [List.map_cons, List.sum_cons, ih, List.flatMap_cons, List.filter_append, List.length_append, Int.natCast_add, ← hrow j]; rfl
  exact key (List.range 11)
end Mine
namespace Mine
open PySem PySem.W PyProof.Rows PySem.Calls
/-- the text's own statements, by their places -/
noncomputable def topS (i : Nat) : Stmt := PySem.Challenge.pw_qz0059_01.main.body.getD i (.Pass ⟨0, 0, 0, 0⟩)
noncomputable def inS (i j : Nat) : Stmt := match topS i with
  | .ClassDef _ _ _ body _ _ _ _ _ _ _ => body.getD j (.Pass ⟨0, 0, 0, 0⟩)
  | _ => .Pass ⟨0, 0, 0, 0⟩
noncomputable def fB : Stmt → List Stmt
  | .FunctionDef _ _ b _ _ _ _ _ _ _ => b
  | _ => []
noncomputable def fA : Stmt → Arguments
  | .FunctionDef _ a _ _ _ _ _ _ _ _ => a
  | _ => ⟨[], [], none, [], [], none, []⟩
noncomputable def fS : Stmt → Scope
  | .FunctionDef _ _ _ _ _ _ s _ _ _ => s
  | _ => ⟨.function, [], false, false, []⟩
noncomputable def fP : Stmt → Pos
  | .FunctionDef _ _ _ _ _ _ _ _ _ p => p
  | _ => ⟨0, 0, 0, 0⟩
/-- what the top's run leaves, as far as it is written out -/
noncomputable def heapK : Params → Frag := fun P => [(2, { cls := Value.none, data := Data.dict #[{ hash := PyData.keyHash P (Str.ofString "type.__subclasses__.Exception.0"), key := Value.str (Str.ofString "type.__subclasses__.Exception.0") 221, val := Value.int 38 0 }, { hash := PyData.keyHash P (Str.ofString "type.__subclasses__.Exception.n"), key := Value.str (Str.ofString "type.__subclasses__.Exception.n") 222, val := Value.int 1 0 }] 2 }),
 (3, { cls := Value.type "dict", data := Data.dict #[{ hash := PyData.keyHash P (Str.ofString "__name__"), key := Value.str (Str.ofString "__name__") 165, val := Value.str (Str.ofString "law_qz0059_01") 499 }, { hash := PyData.keyHash P (Str.ofString "__doc__"), key := Value.str (Str.ofString "__doc__") 166, val := Value.none }, { hash := PyData.keyHash P (Str.ofString "__package__"), key := Value.str (Str.ofString "__package__") 167, val := Value.none }, { hash := PyData.keyHash P (Str.ofString "__loader__"), key := Value.str (Str.ofString "__loader__") 168, val := Value.builtin "__main__.__loader__#opaque" }, { hash := PyData.keyHash P (Str.ofString "__spec__"), key := Value.str (Str.ofString "__spec__") 169, val := Value.none }, { hash := PyData.keyHash P (Str.ofString "__annotations__"), key := Value.str (Str.ofString "__annotations__") 170, val := Value.ref 6 }, { hash := PyData.keyHash P (Str.ofString "__builtins__"), key := Value.str (Str.ofString "__builtins__") 171, val := Value.ref 4 }, { hash := PyData.keyHash P (Str.ofString "__file__"), key := Value.str (Str.ofString "__file__") 173, val := Value.str (Str.ofString "/claim/cut.py") 172 }, { hash := PyData.keyHash P (Str.ofString "__cached__"), key := Value.str (Str.ofString "__cached__") 174, val := Value.none }, { hash := PyData.keyHash P (Str.ofString "_wall"), key := Value.str (Str.ofString "_wall") 193, val := Value.ref 21 }, { hash := PyData.keyHash P (Str.ofString "MillError"), key := Value.str (Str.ofString "MillError") 224, val := Value.ref 38 }, { hash := PyData.keyHash P (Str.ofString "SizeFault"), key := Value.str (Str.ofString "SizeFault") 240, val := Value.ref 51 }, { hash := PyData.keyHash P (Str.ofString "normal"), key := Value.str (Str.ofString "normal") 248, val := Value.ref 58 }, { hash := PyData.keyHash P (Str.ofString "borders"), key := Value.str (Str.ofString "borders") 258, val := Value.ref 65 }, { hash := PyData.keyHash P (Str.ofString "merged_borders"), key := Value.str (Str.ofString "merged_borders") 272, val := Value.ref 72 }, { hash := PyData.keyHash P (Str.ofString "Walk"), key := Value.str (Str.ofString "Walk") 310, val := Value.ref 96 }, { hash := PyData.keyHash P (Str.ofString "put_together"), key := Value.str (Str.ofString "put_together") 326, val := Value.ref 107 }, { hash := PyData.keyHash P (Str.ofString "union"), key := Value.str (Str.ofString "union") 334, val := Value.ref 114 }, { hash := PyData.keyHash P (Str.ofString "common"), key := Value.str (Str.ofString "common") 342, val := Value.ref 121 }, { hash := PyData.keyHash P (Str.ofString "cut_to"), key := Value.str (Str.ofString "cut_to") 351, val := Value.ref 128 }, { hash := PyData.keyHash P (Str.ofString "length"), key := Value.str (Str.ofString "length") 361, val := Value.ref 135 }, { hash := PyData.keyHash P (Str.ofString "holds"), key := Value.str (Str.ofString "holds") 372, val := Value.ref 142 }, { hash := PyData.keyHash P (Str.ofString "holds_spans"), key := Value.str (Str.ofString "holds_spans") 373, val := Value.ref 142 }, { hash := PyData.keyHash P (Str.ofString "Region"), key := Value.str (Str.ofString "Region") 454, val := Value.ref 204 }, { hash := PyData.keyHash P (Str.ofString "of_rectangle"), key := Value.str (Str.ofString "of_rectangle") 460, val := Value.ref 213 }, { hash := PyData.keyHash P (Str.ofString "of_rectangles"), key := Value.str (Str.ofString "of_rectangles") 466, val := Value.ref 218 }, { hash := PyData.keyHash P (Str.ofString "by_rows"), key := Value.str (Str.ofString "by_rows") 477, val := Value.ref 225 }, { hash := PyData.keyHash P (Str.ofString "region_union"), key := Value.str (Str.ofString "region_union") 485, val := Value.ref 232 }, { hash := PyData.keyHash P (Str.ofString "region_cut"), key := Value.str (Str.ofString "region_cut") 498, val := Value.ref 239 }, { hash := PyData.keyHash P (Str.ofString "_law_pool"), key := Value.str (Str.ofString "_law_pool") 511, val := Value.ref 246 }, { hash := PyData.keyHash P (Str.ofString "_law_take"), key := Value.str (Str.ofString "_law_take") 520, val := Value.ref 253 }, { hash := PyData.keyHash P (Str.ofString "_law_one"), key := Value.str (Str.ofString "_law_one") 528, val := Value.ref 260 }, { hash := PyData.keyHash P (Str.ofString "_law_told"), key := Value.str (Str.ofString "_law_told") 535, val := Value.ref 267 }, { hash := PyData.keyHash P (Str.ofString "_law_rectangle"), key := Value.str (Str.ofString "_law_rectangle") 544, val := Value.ref 274 }, { hash := PyData.keyHash P (Str.ofString "_law_is_let"), key := Value.str (Str.ofString "_law_is_let") 551, val := Value.ref 281 }, { hash := PyData.keyHash P (Str.ofString "_law_lies"), key := Value.str (Str.ofString "_law_lies") 560, val := Value.ref 288 }, { hash := PyData.keyHash P (Str.ofString "_law_has"), key := Value.str (Str.ofString "_law_has") 566, val := Value.ref 293 }, { hash := PyData.keyHash P (Str.ofString "_law_fixed_right"), key := Value.str (Str.ofString "_law_fixed_right") 573, val := Value.ref 300 }, { hash := PyData.keyHash P (Str.ofString "law"), key := Value.str (Str.ofString "law") 579, val := Value.ref 305 }] 39 }),
 (15, { cls := Value.type "tuple", data := Data.seq #[] }),
 (17, { cls := Value.type "tuple", data := Data.seq #[Value.str (Str.ofString "k") 190] }),
 (18, { cls := Value.type "tuple", data := Data.seq #[] }),
 (20, { cls := Value.type "code", data := Data.fields #[Value.str (Str.ofString "_wall") 187, Value.str (Str.ofString "_wall") 188, Value.str (Str.ofString "/claim/cut.py") 189, Value.int 1 0, Value.int 1 0, Value.int 0 0, Value.int 0 0, Value.int 3 0, Value.ref 15, Value.bool true, Value.int 181 0, Value.ref 16, Value.none, Value.ref 17, Value.ref 18, Value.ref 19, Value.int 191 0, Value.int 1 0, Value.str (Str.ofString "/claim/cut.py") 192] }),
 (21, { cls := Value.type "function", data := Data.func { name := Str.ofString "_wall", qualname := Str.ofString "_wall", params := (fA (topS 0)), body := FuncBody.stmts (fB (topS 0)), scope := (fS (topS 0)), globals := 3, closure := [], defaults := Value.none, kwdefaults := Value.none, pyModule := Value.str (Str.ofString "__main__") 164, code := Value.ref 20 } }),
 (22, { cls := Value.type "tuple", data := Data.seq #[Value.type "Exception"] }),
 (29, { cls := Value.type "tuple", data := Data.seq #[] }),
 (31, { cls := Value.type "tuple", data := Data.seq #[Value.str (Str.ofString "self") 211, Value.str (Str.ofString "message") 212] }),
 (32, { cls := Value.type "tuple", data := Data.seq #[] }),
 (34, { cls := Value.type "code", data := Data.fields #[Value.str (Str.ofString "__init__") 208, Value.str (Str.ofString "MillError.__init__") 209, Value.str (Str.ofString "/claim/cut.py") 210, Value.int 7 0, Value.int 2 0, Value.int 0 0, Value.int 0 0, Value.int 3 0, Value.ref 29, Value.bool true, Value.int 181 0, Value.ref 30, Value.none, Value.ref 31, Value.ref 32, Value.ref 33, Value.int 213 0, Value.int 7 0, Value.str (Str.ofString "/claim/cut.py") 214] }),
 (35, { cls := Value.type "function", data := Data.func { name := Str.ofString "__init__", qualname := Str.ofString "MillError.__init__", params := (fA (inS 2 0)), body := FuncBody.stmts (fB (inS 2 0)), scope := (fS (inS 2 0)), globals := 3, closure := [], defaults := Value.none, kwdefaults := Value.none, pyModule := Value.str (Str.ofString "outlinemill.errors") 194, code := Value.ref 34 } }),
 (36, { cls := Value.type "tuple", data := Data.seq #[Value.str (Str.ofString "message") 216] }),
 (37, { cls := Value.type "dict", data := Data.dict #[{ hash := PyData.keyHash P (Str.ofString "__module__"), key := Value.str (Str.ofString "__module__") 203, val := Value.str (Str.ofString "outlinemill.errors") 194 }, { hash := PyData.keyHash P (Str.ofString "__firstlineno__"), key := Value.str (Str.ofString "__firstlineno__") 207, val := Value.int 5 206 }, { hash := PyData.keyHash P (Str.ofString "__init__"), key := Value.str (Str.ofString "__init__") 215, val := Value.ref 35 }, { hash := PyData.keyHash P (Str.ofString "__static_attributes__"), key := Value.str (Str.ofString "__static_attributes__") 217, val := Value.ref 36 }, { hash := PyData.keyHash P (Str.ofString "__weakref__"), key := Value.str (Str.ofString "__weakref__") 219, val := Value.ref 39 }, { hash := PyData.keyHash P (Str.ofString "__doc__"), key := Value.str (Str.ofString "__doc__") 220, val := Value.none }] 3 }),
 (38, { cls := Value.type "type", data := Data.cls { name := Str.ofString "MillError", bases := [Value.type "Exception"], mro := [Value.ref 38, Value.type "Exception", Value.type "BaseException", Value.type "object"], ns := 37, qualname := Str.ofString "MillError", subclasses := [Value.ref 51] }, slots := #[some (Value.ref 22), none, some (Value.str (Str.ofString "MillError") 196), some (Value.str (Str.ofString "MillError") 204), some (Value.builtin "Exception.__new__"), some (Value.bool true)] }),
 (39, { cls := Value.type "getset_descriptor", data := Data.fields #[Value.str (Str.ofString "__weakref__") 218, Value.ref 38, Value.builtin "ExceptionGroup.__weakref__", Value.none] }),
 (42, { cls := Value.type "tuple", data := Data.seq #[Value.ref 38] }),
 (49, { cls := Value.type "tuple", data := Data.seq #[] }),
 (50, { cls := Value.type "dict", data := Data.dict #[{ hash := PyData.keyHash P (Str.ofString "__module__"), key := Value.str (Str.ofString "__module__") 232, val := Value.str (Str.ofString "outlinemill.errors") 194 }, { hash := PyData.keyHash P (Str.ofString "__firstlineno__"), key := Value.str (Str.ofString "__firstlineno__") 236, val := Value.int 9 235 }, { hash := PyData.keyHash P (Str.ofString "__static_attributes__"), key := Value.str (Str.ofString "__static_attributes__") 237, val := Value.ref 49 }, { hash := PyData.keyHash P (Str.ofString "__doc__"), key := Value.str (Str.ofString "__doc__") 238, val := Value.none }] 2 }),
 (51, { cls := Value.type "type", data := Data.cls { name := Str.ofString "SizeFault", bases := [Value.ref 38], mro := [Value.ref 51, Value.ref 38, Value.type "Exception", Value.type "BaseException", Value.type "object"], ns := 50, qualname := Str.ofString "SizeFault" }, slots := #[some (Value.ref 42), none, some (Value.str (Str.ofString "SizeFault") 225), some (Value.str (Str.ofString "SizeFault") 233), some (Value.builtin "Exception.__new__"), some (Value.bool true)] }),
 (54, { cls := Value.type "tuple", data := Data.seq #[] }),
 (57, { cls := Value.type "code", data := Data.fields #[Value.str (Str.ofString "normal") 243, Value.str (Str.ofString "normal") 244, Value.str (Str.ofString "/claim/cut.py") 245, Value.int 12 0, Value.int 1 0, Value.int 0 0, Value.int 0 0, Value.int 3 0, Value.ref 54, Value.bool true, Value.int 181 0, Value.ref 55, Value.none, Value.none, Value.none, Value.ref 56, Value.int 246 0, Value.int 12 0, Value.str (Str.ofString "/claim/cut.py") 247] }),
 (58, { cls := Value.type "function", data := Data.func { name := Str.ofString "normal", qualname := Str.ofString "normal", params := (fA (topS 5)), body := FuncBody.stmts (fB (topS 5)), scope := (fS (topS 5)), globals := 3, closure := [], defaults := Value.none, kwdefaults := Value.none, pyModule := Value.str (Str.ofString "outlinemill.spans") 241, code := Value.ref 57 } }),
 (59, { cls := Value.type "tuple", data := Data.seq #[] }),
 (61, { cls := Value.type "tuple", data := Data.seq #[Value.str (Str.ofString "spans") 252, Value.str (Str.ofString "found") 253, Value.str (Str.ofString "first") 254, Value.str (Str.ofString "last") 255] }),
 (62, { cls := Value.type "tuple", data := Data.seq #[] }),
 (64, { cls := Value.type "code", data := Data.fields #[Value.str (Str.ofString "borders") 249, Value.str (Str.ofString "borders") 250, Value.str (Str.ofString "/claim/cut.py") 251, Value.int 22 0, Value.int 1 0, Value.int 0 0, Value.int 0 0, Value.int 3 0, Value.ref 59, Value.bool true, Value.int 181 0, Value.ref 60, Value.none, Value.ref 61, Value.ref 62, Value.ref 63, Value.int 256 0, Value.int 22 0, Value.str (Str.ofString "/claim/cut.py") 257] }),
 (65, { cls := Value.type "function", data := Data.func { name := Str.ofString "borders", qualname := Str.ofString "borders", params := (fA (topS 6)), body := FuncBody.stmts (fB (topS 6)), scope := (fS (topS 6)), globals := 3, closure := [], defaults := Value.none, kwdefaults := Value.none, pyModule := Value.str (Str.ofString "outlinemill.spans") 241, code := Value.ref 64 } }),
 (66, { cls := Value.type "tuple", data := Data.seq #[] }),
 (68, { cls := Value.type "tuple", data := Data.seq #[Value.str (Str.ofString "one") 262, Value.str (Str.ofString "other") 263, Value.str (Str.ofString "first") 264, Value.str (Str.ofString "second") 265, Value.str (Str.ofString "found") 266, Value.str (Str.ofString "at") 267, Value.str (Str.ofString "to") 268, Value.str (Str.ofString "place") 269] }),
 (69, { cls := Value.type "tuple", data := Data.seq #[] }),
 (71, { cls := Value.type "code", data := Data.fields #[Value.str (Str.ofString "merged_borders") 259, Value.str (Str.ofString "merged_borders") 260, Value.str (Str.ofString "/claim/cut.py") 261, Value.int 28 0, Value.int 2 0, Value.int 0 0, Value.int 0 0, Value.int 3 0, Value.ref 66, Value.bool true, Value.int 181 0, Value.ref 67, Value.none, Value.ref 68, Value.ref 69, Value.ref 70, Value.int 270 0, Value.int 28 0, Value.str (Str.ofString "/claim/cut.py") 271] }),
 (72, { cls := Value.type "function", data := Data.func { name := Str.ofString "merged_borders", qualname := Str.ofString "merged_borders", params := (fA (topS 7)), body := FuncBody.stmts (fB (topS 7)), scope := (fS (topS 7)), globals := 3, closure := [], defaults := Value.none, kwdefaults := Value.none, pyModule := Value.str (Str.ofString "outlinemill.spans") 241, code := Value.ref 71 } }),
 (80, { cls := Value.type "tuple", data := Data.seq #[] }),
 (82, { cls := Value.type "tuple", data := Data.seq #[Value.str (Str.ofString "self") 288, Value.str (Str.ofString "spans") 289] }),
 (83, { cls := Value.type "tuple", data := Data.seq #[] }),
 (85, { cls := Value.type "code", data := Data.fields #[Value.str (Str.ofString "__init__") 285, Value.str (Str.ofString "Walk.__init__") 286, Value.str (Str.ofString "/claim/cut.py") 287, Value.int 43 0, Value.int 2 0, Value.int 0 0, Value.int 0 0, Value.int 3 0, Value.ref 80, Value.bool true, Value.int 181 0, Value.ref 81, Value.none, Value.ref 82, Value.ref 83, Value.ref 84, Value.int 290 0, Value.int 43 0, Value.str (Str.ofString "/claim/cut.py") 291] }),
 (86, { cls := Value.type "function", data := Data.func { name := Str.ofString "__init__", qualname := Str.ofString "Walk.__init__", params := (fA (inS 8 0)), body := FuncBody.stmts (fB (inS 8 0)), scope := (fS (inS 8 0)), globals := 3, closure := [], defaults := Value.none, kwdefaults := Value.none, pyModule := Value.str (Str.ofString "outlinemill.spans") 241, code := Value.ref 85 } }),
 (87, { cls := Value.type "tuple", data := Data.seq #[] }),
 (89, { cls := Value.type "tuple", data := Data.seq #[Value.str (Str.ofString "self") 296, Value.str (Str.ofString "place") 297] }),
 (90, { cls := Value.type "tuple", data := Data.seq #[] }),
 (92, { cls := Value.type "code", data := Data.fields #[Value.str (Str.ofString "holds") 293, Value.str (Str.ofString "Walk.holds") 294, Value.str (Str.ofString "/claim/cut.py") 295, Value.int 47 0, Value.int 2 0, Value.int 0 0, Value.int 0 0, Value.int 3 0, Value.ref 87, Value.bool true, Value.int 181 0, Value.ref 88, Value.none, Value.ref 89, Value.ref 90, Value.ref 91, Value.int 298 0, Value.int 47 0, Value.str (Str.ofString "/claim/cut.py") 299] }),
 (93, { cls := Value.type "function", data := Data.func { name := Str.ofString "holds", qualname := Str.ofString "Walk.holds", params := (fA (inS 8 1)), body := FuncBody.stmts (fB (inS 8 1)), scope := (fS (inS 8 1)), globals := 3, closure := [], defaults := Value.none, kwdefaults := Value.none, pyModule := Value.str (Str.ofString "outlinemill.spans") 241, code := Value.ref 92 } }),
 (94, { cls := Value.type "tuple", data := Data.seq #[Value.str (Str.ofString "at") 301, Value.str (Str.ofString "spans") 302] }),
 (95, { cls := Value.type "dict", data := Data.dict #[{ hash := PyData.keyHash P (Str.ofString "__module__"), key := Value.str (Str.ofString "__module__") 280, val := Value.str (Str.ofString "outlinemill.spans") 241 }, { hash := PyData.keyHash P (Str.ofString "__firstlineno__"), key := Value.str (Str.ofString "__firstlineno__") 284, val := Value.int 41 283 }, { hash := PyData.keyHash P (Str.ofString "__init__"), key := Value.str (Str.ofString "__init__") 292, val := Value.ref 86 }, { hash := PyData.keyHash P (Str.ofString "holds"), key := Value.str (Str.ofString "holds") 300, val := Value.ref 93 }, { hash := PyData.keyHash P (Str.ofString "__static_attributes__"), key := Value.str (Str.ofString "__static_attributes__") 303, val := Value.ref 94 }, { hash := PyData.keyHash P (Str.ofString "__dict__"), key := Value.str (Str.ofString "__dict__") 305, val := Value.ref 97 }, { hash := PyData.keyHash P (Str.ofString "__weakref__"), key := Value.str (Str.ofString "__weakref__") 307, val := Value.ref 98 }, { hash := PyData.keyHash P (Str.ofString "__doc__"), key := Value.str (Str.ofString "__doc__") 308, val := Value.none }] 4 }),
 (96, { cls := Value.type "type", data := Data.cls { name := Str.ofString "Walk", bases := [Value.type "object"], mro := [Value.ref 96, Value.type "object"], ns := 95, qualname := Str.ofString "Walk" }, slots := #[none, none, some (Value.str (Str.ofString "Walk") 273), some (Value.str (Str.ofString "Walk") 281), some (Value.builtin "object.__new__"), some (Value.bool true)] }),
 (97, { cls := Value.type "getset_descriptor", data := Data.fields #[Value.str (Str.ofString "__dict__") 304, Value.ref 96, Value.builtin "function.__dict__", Value.builtin "function.__dict__#set"] }),
 (98, { cls := Value.type "getset_descriptor", data := Data.fields #[Value.str (Str.ofString "__weakref__") 306, Value.ref 96, Value.builtin "ExceptionGroup.__weakref__", Value.none] }),
 (101, { cls := Value.type "tuple", data := Data.seq #[] }),
 (103, { cls := Value.type "tuple", data := Data.seq #[Value.str (Str.ofString "one") 314, Value.str (Str.ofString "other") 315, Value.str (Str.ofString "keeps") 316, Value.str (Str.ofString "found") 317, Value.str (Str.ofString "first") 318, Value.str (Str.ofString "second") 319, Value.str (Str.ofString "places") 320, Value.str (Str.ofString "at") 321, Value.str (Str.ofString "begin") 322, Value.str (Str.ofString "end") 323] }),
 (104, { cls := Value.type "tuple", data := Data.seq #[] }),
 (106, { cls := Value.type "code", data := Data.fields #[Value.str (Str.ofString "put_together") 311, Value.str (Str.ofString "put_together") 312, Value.str (Str.ofString "/claim/cut.py") 313, Value.int 51 0, Value.int 3 0, Value.int 0 0, Value.int 0 0, Value.int 3 0, Value.ref 101, Value.bool true, Value.int 181 0, Value.ref 102, Value.none, Value.ref 103, Value.ref 104, Value.ref 105, Value.int 324 0, Value.int 51 0, Value.str (Str.ofString "/claim/cut.py") 325] }),
 (107, { cls := Value.type "function", data := Data.func { name := Str.ofString "put_together", qualname := Str.ofString "put_together", params := (fA (topS 9)), body := FuncBody.stmts (fB (topS 9)), scope := (fS (topS 9)), globals := 3, closure := [], defaults := Value.none, kwdefaults := Value.none, pyModule := Value.str (Str.ofString "outlinemill.spans") 241, code := Value.ref 106 } }),
 (108, { cls := Value.type "tuple", data := Data.seq #[] }),
 (110, { cls := Value.type "tuple", data := Data.seq #[Value.str (Str.ofString "one") 330, Value.str (Str.ofString "other") 331] }),
 (111, { cls := Value.type "tuple", data := Data.seq #[] }),
 (113, { cls := Value.type "code", data := Data.fields #[Value.str (Str.ofString "union") 327, Value.str (Str.ofString "union") 328, Value.str (Str.ofString "/claim/cut.py") 329, Value.int 63 0, Value.int 2 0, Value.int 0 0, Value.int 0 0, Value.int 3 0, Value.ref 108, Value.bool true, Value.int 181 0, Value.ref 109, Value.none, Value.ref 110, Value.ref 111, Value.ref 112, Value.int 332 0, Value.int 63 0, Value.str (Str.ofString "/claim/cut.py") 333] }),
 (114, { cls := Value.type "function", data := Data.func { name := Str.ofString "union", qualname := Str.ofString "union", params := (fA (topS 10)), body := FuncBody.stmts (fB (topS 10)), scope := (fS (topS 10)), globals := 3, closure := [], defaults := Value.none, kwdefaults := Value.none, pyModule := Value.str (Str.ofString "outlinemill.spans") 241, code := Value.ref 113 } }),
 (115, { cls := Value.type "tuple", data := Data.seq #[] }),
 (117, { cls := Value.type "tuple", data := Data.seq #[Value.str (Str.ofString "one") 338, Value.str (Str.ofString "other") 339] }),
 (118, { cls := Value.type "tuple", data := Data.seq #[] }),
 (120, { cls := Value.type "code", data := Data.fields #[Value.str (Str.ofString "common") 335, Value.str (Str.ofString "common") 336, Value.str (Str.ofString "/claim/cut.py") 337, Value.int 65 0, Value.int 2 0, Value.int 0 0, Value.int 0 0, Value.int 3 0, Value.ref 115, Value.bool true, Value.int 181 0, Value.ref 116, Value.none, Value.ref 117, Value.ref 118, Value.ref 119, Value.int 340 0, Value.int 65 0, Value.str (Str.ofString "/claim/cut.py") 341] }),
 (121, { cls := Value.type "function", data := Data.func { name := Str.ofString "common", qualname := Str.ofString "common", params := (fA (topS 11)), body := FuncBody.stmts (fB (topS 11)), scope := (fS (topS 11)), globals := 3, closure := [], defaults := Value.none, kwdefaults := Value.none, pyModule := Value.str (Str.ofString "outlinemill.spans") 241, code := Value.ref 120 } }),
 (122, { cls := Value.type "tuple", data := Data.seq #[] }),
 (124, { cls := Value.type "tuple", data := Data.seq #[Value.str (Str.ofString "spans") 346, Value.str (Str.ofString "low") 347, Value.str (Str.ofString "high") 348] }),
 (125, { cls := Value.type "tuple", data := Data.seq #[] }),
 (127, { cls := Value.type "code", data := Data.fields #[Value.str (Str.ofString "cut_to") 343, Value.str (Str.ofString "cut_to") 344, Value.str (Str.ofString "/claim/cut.py") 345, Value.int 67 0, Value.int 3 0, Value.int 0 0, Value.int 0 0, Value.int 3 0, Value.ref 122, Value.bool true, Value.int 181 0, Value.ref 123, Value.none, Value.ref 124, Value.ref 125, Value.ref 126, Value.int 349 0, Value.int 67 0, Value.str (Str.ofString "/claim/cut.py") 350] }),
 (128, { cls := Value.type "function", data := Data.func { name := Str.ofString "cut_to", qualname := Str.ofString "cut_to", params := (fA (topS 12)), body := FuncBody.stmts (fB (topS 12)), scope := (fS (topS 12)), globals := 3, closure := [], defaults := Value.none, kwdefaults := Value.none, pyModule := Value.str (Str.ofString "outlinemill.spans") 241, code := Value.ref 127 } }),
 (129, { cls := Value.type "tuple", data := Data.seq #[] }),
 (131, { cls := Value.type "tuple", data := Data.seq #[Value.str (Str.ofString "spans") 355, Value.str (Str.ofString "total") 356, Value.str (Str.ofString "first") 357, Value.str (Str.ofString "last") 358] }),
 (132, { cls := Value.type "tuple", data := Data.seq #[] }),
 (134, { cls := Value.type "code", data := Data.fields #[Value.str (Str.ofString "length") 352, Value.str (Str.ofString "length") 353, Value.str (Str.ofString "/claim/cut.py") 354, Value.int 69 0, Value.int 1 0, Value.int 0 0, Value.int 0 0, Value.int 3 0, Value.ref 129, Value.bool true, Value.int 181 0, Value.ref 130, Value.none, Value.ref 131, Value.ref 132, Value.ref 133, Value.int 359 0, Value.int 69 0, Value.str (Str.ofString "/claim/cut.py") 360] }),
 (135, { cls := Value.type "function", data := Data.func { name := Str.ofString "length", qualname := Str.ofString "length", params := (fA (topS 13)), body := FuncBody.stmts (fB (topS 13)), scope := (fS (topS 13)), globals := 3, closure := [], defaults := Value.none, kwdefaults := Value.none, pyModule := Value.str (Str.ofString "outlinemill.spans") 241, code := Value.ref 134 } }),
 (136, { cls := Value.type "tuple", data := Data.seq #[] }),
 (138, { cls := Value.type "tuple", data := Data.seq #[Value.str (Str.ofString "spans") 365, Value.str (Str.ofString "x") 366, Value.str (Str.ofString "low") 367, Value.str (Str.ofString "high") 368, Value.str (Str.ofString "middle") 369] }),
 (139, { cls := Value.type "tuple", data := Data.seq #[] }),
 (141, { cls := Value.type "code", data := Data.fields #[Value.str (Str.ofString "holds") 362, Value.str (Str.ofString "holds") 363, Value.str (Str.ofString "/claim/cut.py") 364, Value.int 74 0, Value.int 2 0, Value.int 0 0, Value.int 0 0, Value.int 3 0, Value.ref 136, Value.bool true, Value.int 181 0, Value.ref 137, Value.none, Value.ref 138, Value.ref 139, Value.ref 140, Value.int 370 0, Value.int 74 0, Value.str (Str.ofString "/claim/cut.py") 371] }),
 (142, { cls := Value.type "function", data := Data.func { name := Str.ofString "holds", qualname := Str.ofString "holds", params := (fA (topS 14)), body := FuncBody.stmts (fB (topS 14)), scope := (fS (topS 14)), globals := 3, closure := [], defaults := Value.none, kwdefaults := Value.none, pyModule := Value.str (Str.ofString "outlinemill.spans") 241, code := Value.ref 141 } }),
 (150, { cls := Value.type "tuple", data := Data.seq #[] }),
 (153, { cls := Value.type "code", data := Data.fields #[Value.str (Str.ofString "__init__") 388, Value.str (Str.ofString "Region.__init__") 389, Value.str (Str.ofString "/claim/cut.py") 390, Value.int 87 0, Value.int 2 0, Value.int 0 0, Value.int 0 0, Value.int 3 0, Value.ref 150, Value.bool true, Value.int 181 0, Value.ref 151, Value.none, Value.none, Value.none, Value.ref 152, Value.int 391 0, Value.int 87 0, Value.str (Str.ofString "/claim/cut.py") 392] }),
 (154, { cls := Value.type "function", data := Data.func { name := Str.ofString "__init__", qualname := Str.ofString "Region.__init__", params := (fA (inS 17 0)), body := FuncBody.stmts (fB (inS 17 0)), scope := (fS (inS 17 0)), globals := 3, closure := [], defaults := Value.none, kwdefaults := Value.none, pyModule := Value.str (Str.ofString "outlinemill.regions") 374, code := Value.ref 153 } }),
 (155, { cls := Value.type "tuple", data := Data.seq #[] }),
 (157, { cls := Value.type "tuple", data := Data.seq #[Value.str (Str.ofString "self") 397, Value.str (Str.ofString "y") 398] }),
 (158, { cls := Value.type "tuple", data := Data.seq #[] }),
 (160, { cls := Value.type "code", data := Data.fields #[Value.str (Str.ofString "spans") 394, Value.str (Str.ofString "Region.spans") 395, Value.str (Str.ofString "/claim/cut.py") 396, Value.int 93 0, Value.int 2 0, Value.int 0 0, Value.int 0 0, Value.int 3 0, Value.ref 155, Value.bool true, Value.int 181 0, Value.ref 156, Value.none, Value.ref 157, Value.ref 158, Value.ref 159, Value.int 399 0, Value.int 93 0, Value.str (Str.ofString "/claim/cut.py") 400] }),
 (161, { cls := Value.type "function", data := Data.func { name := Str.ofString "spans", qualname := Str.ofString "Region.spans", params := (fA (inS 17 1)), body := FuncBody.stmts (fB (inS 17 1)), scope := (fS (inS 17 1)), globals := 3, closure := [], defaults := Value.none, kwdefaults := Value.none, pyModule := Value.str (Str.ofString "outlinemill.regions") 374, code := Value.ref 160 } }),
 (162, { cls := Value.type "tuple", data := Data.seq #[] }),
 (164, { cls := Value.type "tuple", data := Data.seq #[Value.str (Str.ofString "self") 405] }),
 (165, { cls := Value.type "tuple", data := Data.seq #[] }),
 (167, { cls := Value.type "code", data := Data.fields #[Value.str (Str.ofString "heights") 402, Value.str (Str.ofString "Region.heights") 403, Value.str (Str.ofString "/claim/cut.py") 404, Value.int 96 0, Value.int 1 0, Value.int 0 0, Value.int 0 0, Value.int 3 0, Value.ref 162, Value.bool true, Value.int 181 0, Value.ref 163, Value.none, Value.ref 164, Value.ref 165, Value.ref 166, Value.int 406 0, Value.int 96 0, Value.str (Str.ofString "/claim/cut.py") 407] }),
 (168, { cls := Value.type "function", data := Data.func { name := Str.ofString "heights", qualname := Str.ofString "Region.heights", params := (fA (inS 17 2)), body := FuncBody.stmts (fB (inS 17 2)), scope := (fS (inS 17 2)), globals := 3, closure := [], defaults := Value.none, kwdefaults := Value.none, pyModule := Value.str (Str.ofString "outlinemill.regions") 374, code := Value.ref 167 } }),
 (169, { cls := Value.type "tuple", data := Data.seq #[] }),
 (171, { cls := Value.type "tuple", data := Data.seq #[Value.str (Str.ofString "self") 412] }),
 (172, { cls := Value.type "tuple", data := Data.seq #[] }),
 (174, { cls := Value.type "code", data := Data.fields #[Value.str (Str.ofString "is_empty") 409, Value.str (Str.ofString "Region.is_empty") 410, Value.str (Str.ofString "/claim/cut.py") 411, Value.int 99 0, Value.int 1 0, Value.int 0 0, Value.int 0 0, Value.int 3 0, Value.ref 169, Value.bool true, Value.int 181 0, Value.ref 170, Value.none, Value.ref 171, Value.ref 172, Value.ref 173, Value.int 413 0, Value.int 99 0, Value.str (Str.ofString "/claim/cut.py") 414] }),
 (175, { cls := Value.type "function", data := Data.func { name := Str.ofString "is_empty", qualname := Str.ofString "Region.is_empty", params := (fA (inS 17 3)), body := FuncBody.stmts (fB (inS 17 3)), scope := (fS (inS 17 3)), globals := 3, closure := [], defaults := Value.none, kwdefaults := Value.none, pyModule := Value.str (Str.ofString "outlinemill.regions") 374, code := Value.ref 174 } }),
 (176, { cls := Value.type "tuple", data := Data.seq #[] }),
 (178, { cls := Value.type "tuple", data := Data.seq #[Value.str (Str.ofString "self") 419, Value.str (Str.ofString "x") 420, Value.str (Str.ofString "y") 421] }),
 (179, { cls := Value.type "tuple", data := Data.seq #[] }),
 (181, { cls := Value.type "code", data := Data.fields #[Value.str (Str.ofString "holds") 416, Value.str (Str.ofString "Region.holds") 417, Value.str (Str.ofString "/claim/cut.py") 418, Value.int 102 0, Value.int 3 0, Value.int 0 0, Value.int 0 0, Value.int 3 0, Value.ref 176, Value.bool true, Value.int 181 0, Value.ref 177, Value.none, Value.ref 178, Value.ref 179, Value.ref 180, Value.int 422 0, Value.int 102 0, Value.str (Str.ofString "/claim/cut.py") 423] }),
 (182, { cls := Value.type "function", data := Data.func { name := Str.ofString "holds", qualname := Str.ofString "Region.holds", params := (fA (inS 17 4)), body := FuncBody.stmts (fB (inS 17 4)), scope := (fS (inS 17 4)), globals := 3, closure := [], defaults := Value.none, kwdefaults := Value.none, pyModule := Value.str (Str.ofString "outlinemill.regions") 374, code := Value.ref 181 } }),
 (183, { cls := Value.type "tuple", data := Data.seq #[] }),
 (186, { cls := Value.type "code", data := Data.fields #[Value.str (Str.ofString "area") 425, Value.str (Str.ofString "Region.area") 426, Value.str (Str.ofString "/claim/cut.py") 427, Value.int 105 0, Value.int 1 0, Value.int 0 0, Value.int 0 0, Value.int 3 0, Value.ref 183, Value.bool true, Value.int 181 0, Value.ref 184, Value.none, Value.none, Value.none, Value.ref 185, Value.int 428 0, Value.int 105 0, Value.str (Str.ofString "/claim/cut.py") 429] }),
 (187, { cls := Value.type "function", data := Data.func { name := Str.ofString "area", qualname := Str.ofString "Region.area", params := (fA (inS 17 5)), body := FuncBody.stmts (fB (inS 17 5)), scope := (fS (inS 17 5)), globals := 3, closure := [], defaults := Value.none, kwdefaults := Value.none, pyModule := Value.str (Str.ofString "outlinemill.regions") 374, code := Value.ref 186 } }),
 (188, { cls := Value.type "tuple", data := Data.seq #[] }),
 (190, { cls := Value.type "tuple", data := Data.seq #[Value.str (Str.ofString "self") 434] }),
 (191, { cls := Value.type "tuple", data := Data.seq #[] }),
 (193, { cls := Value.type "code", data := Data.fields #[Value.str (Str.ofString "box") 431, Value.str (Str.ofString "Region.box") 432, Value.str (Str.ofString "/claim/cut.py") 433, Value.int 108 0, Value.int 1 0, Value.int 0 0, Value.int 0 0, Value.int 3 0, Value.ref 188, Value.bool true, Value.int 181 0, Value.ref 189, Value.none, Value.ref 190, Value.ref 191, Value.ref 192, Value.int 435 0, Value.int 108 0, Value.str (Str.ofString "/claim/cut.py") 436] }),
 (194, { cls := Value.type "function", data := Data.func { name := Str.ofString "box", qualname := Str.ofString "Region.box", params := (fA (inS 17 6)), body := FuncBody.stmts (fB (inS 17 6)), scope := (fS (inS 17 6)), globals := 3, closure := [], defaults := Value.none, kwdefaults := Value.none, pyModule := Value.str (Str.ofString "outlinemill.regions") 374, code := Value.ref 193 } }),
 (195, { cls := Value.type "tuple", data := Data.seq #[] }),
 (197, { cls := Value.type "tuple", data := Data.seq #[Value.str (Str.ofString "self") 441, Value.str (Str.ofString "other") 442] }),
 (198, { cls := Value.type "tuple", data := Data.seq #[] }),
 (200, { cls := Value.type "code", data := Data.fields #[Value.str (Str.ofString "like") 438, Value.str (Str.ofString "Region.like") 439, Value.str (Str.ofString "/claim/cut.py") 440, Value.int 111 0, Value.int 2 0, Value.int 0 0, Value.int 0 0, Value.int 3 0, Value.ref 195, Value.bool true, Value.int 181 0, Value.ref 196, Value.none, Value.ref 197, Value.ref 198, Value.ref 199, Value.int 443 0, Value.int 111 0, Value.str (Str.ofString "/claim/cut.py") 444] }),
 (201, { cls := Value.type "function", data := Data.func { name := Str.ofString "like", qualname := Str.ofString "Region.like", params := (fA (inS 17 7)), body := FuncBody.stmts (fB (inS 17 7)), scope := (fS (inS 17 7)), globals := 3, closure := [], defaults := Value.none, kwdefaults := Value.none, pyModule := Value.str (Str.ofString "outlinemill.regions") 374, code := Value.ref 200 } }),
 (202, { cls := Value.type "tuple", data := Data.seq #[Value.str (Str.ofString "rows") 446] }),
 (203, { cls := Value.type "dict", data := Data.dict #[{ hash := PyData.keyHash P (Str.ofString "__module__"), key := Value.str (Str.ofString "__module__") 383, val := Value.str (Str.ofString "outlinemill.regions") 374 }, { hash := PyData.keyHash P (Str.ofString "__firstlineno__"), key := Value.str (Str.ofString "__firstlineno__") 387, val := Value.int 85 386 }, { hash := PyData.keyHash P (Str.ofString "__init__"), key := Value.str (Str.ofString "__init__") 393, val := Value.ref 154 }, { hash := PyData.keyHash P (Str.ofString "spans"), key := Value.str (Str.ofString "spans") 401, val := Value.ref 161 }, { hash := PyData.keyHash P (Str.ofString "heights"), key := Value.str (Str.ofString "heights") 408, val := Value.ref 168 }, { hash := PyData.keyHash P (Str.ofString "is_empty"), key := Value.str (Str.ofString "is_empty") 415, val := Value.ref 175 }, { hash := PyData.keyHash P (Str.ofString "holds"), key := Value.str (Str.ofString "holds") 424, val := Value.ref 182 }, { hash := PyData.keyHash P (Str.ofString "area"), key := Value.str (Str.ofString "area") 430, val := Value.ref 187 }, { hash := PyData.keyHash P (Str.ofString "box"), key := Value.str (Str.ofString "box") 437, val := Value.ref 194 }, { hash := PyData.keyHash P (Str.ofString "like"), key := Value.str (Str.ofString "like") 445, val := Value.ref 201 }, { hash := PyData.keyHash P (Str.ofString "__static_attributes__"), key := Value.str (Str.ofString "__static_attributes__") 447, val := Value.ref 202 }, { hash := PyData.keyHash P (Str.ofString "__dict__"), key := Value.str (Str.ofString "__dict__") 449, val := Value.ref 205 }, { hash := PyData.keyHash P (Str.ofString "__weakref__"), key := Value.str (Str.ofString "__weakref__") 451, val := Value.ref 206 }, { hash := PyData.keyHash P (Str.ofString "__doc__"), key := Value.str (Str.ofString "__doc__") 452, val := Value.none }] 4 }),
 (204, { cls := Value.type "type", data := Data.cls { name := Str.ofString "Region", bases := [Value.type "object"], mro := [Value.ref 204, Value.type "object"], ns := 203, qualname := Str.ofString "Region" }, slots := #[none, none, some (Value.str (Str.ofString "Region") 376), some (Value.str (Str.ofString "Region") 384), some (Value.builtin "object.__new__"), some (Value.bool true)] }),
 (205, { cls := Value.type "getset_descriptor", data := Data.fields #[Value.str (Str.ofString "__dict__") 448, Value.ref 204, Value.builtin "function.__dict__", Value.builtin "function.__dict__#set"] }),
 (206, { cls := Value.type "getset_descriptor", data := Data.fields #[Value.str (Str.ofString "__weakref__") 450, Value.ref 204, Value.builtin "ExceptionGroup.__weakref__", Value.none] }),
 (209, { cls := Value.type "tuple", data := Data.seq #[] }),
 (212, { cls := Value.type "code", data := Data.fields #[Value.str (Str.ofString "of_rectangle") 455, Value.str (Str.ofString "of_rectangle") 456, Value.str (Str.ofString "/claim/cut.py") 457, Value.int 113 0, Value.int 4 0, Value.int 0 0, Value.int 0 0, Value.int 3 0, Value.ref 209, Value.bool true, Value.int 181 0, Value.ref 210, Value.none, Value.none, Value.none, Value.ref 211, Value.int 458 0, Value.int 113 0, Value.str (Str.ofString "/claim/cut.py") 459] }),
 (213, { cls := Value.type "function", data := Data.func { name := Str.ofString "of_rectangle", qualname := Str.ofString "of_rectangle", params := (fA (topS 18)), body := FuncBody.stmts (fB (topS 18)), scope := (fS (topS 18)), globals := 3, closure := [], defaults := Value.none, kwdefaults := Value.none, pyModule := Value.str (Str.ofString "outlinemill.regions") 374, code := Value.ref 212 } }),
 (214, { cls := Value.type "tuple", data := Data.seq #[] }),
 (217, { cls := Value.type "code", data := Data.fields #[Value.str (Str.ofString "of_rectangles") 461, Value.str (Str.ofString "of_rectangles") 462, Value.str (Str.ofString "/claim/cut.py") 463, Value.int 119 0, Value.int 1 0, Value.int 0 0, Value.int 0 0, Value.int 3 0, Value.ref 214, Value.bool true, Value.int 181 0, Value.ref 215, Value.none, Value.none, Value.none, Value.ref 216, Value.int 464 0, Value.int 119 0, Value.str (Str.ofString "/claim/cut.py") 465] }),
 (218, { cls := Value.type "function", data := Data.func { name := Str.ofString "of_rectangles", qualname := Str.ofString "of_rectangles", params := (fA (topS 19)), body := FuncBody.stmts (fB (topS 19)), scope := (fS (topS 19)), globals := 3, closure := [], defaults := Value.none, kwdefaults := Value.none, pyModule := Value.str (Str.ofString "outlinemill.regions") 374, code := Value.ref 217 } }),
 (219, { cls := Value.type "tuple", data := Data.seq #[] }),
 (221, { cls := Value.type "tuple", data := Data.seq #[Value.str (Str.ofString "one") 470, Value.str (Str.ofString "other") 471, Value.str (Str.ofString "put_together") 472, Value.str (Str.ofString "rows") 473, Value.str (Str.ofString "y") 474] }),
 (222, { cls := Value.type "tuple", data := Data.seq #[] }),
 (224, { cls := Value.type "code", data := Data.fields #[Value.str (Str.ofString "by_rows") 467, Value.str (Str.ofString "by_rows") 468, Value.str (Str.ofString "/claim/cut.py") 469, Value.int 127 0, Value.int 3 0, Value.int 0 0, Value.int 0 0, Value.int 3 0, Value.ref 219, Value.bool true, Value.int 181 0, Value.ref 220, Value.none, Value.ref 221, Value.ref 222, Value.ref 223, Value.int 475 0, Value.int 127 0, Value.str (Str.ofString "/claim/cut.py") 476] }),
 (225, { cls := Value.type "function", data := Data.func { name := Str.ofString "by_rows", qualname := Str.ofString "by_rows", params := (fA (topS 20)), body := FuncBody.stmts (fB (topS 20)), scope := (fS (topS 20)), globals := 3, closure := [], defaults := Value.none, kwdefaults := Value.none, pyModule := Value.str (Str.ofString "outlinemill.regions") 374, code := Value.ref 224 } }),
 (226, { cls := Value.type "tuple", data := Data.seq #[] }),
 (228, { cls := Value.type "tuple", data := Data.seq #[Value.str (Str.ofString "one") 481, Value.str (Str.ofString "other") 482] }),
 (229, { cls := Value.type "tuple", data := Data.seq #[] }),
 (231, { cls := Value.type "code", data := Data.fields #[Value.str (Str.ofString "region_union") 478, Value.str (Str.ofString "region_union") 479, Value.str (Str.ofString "/claim/cut.py") 480, Value.int 133 0, Value.int 2 0, Value.int 0 0, Value.int 0 0, Value.int 3 0, Value.ref 226, Value.bool true, Value.int 181 0, Value.ref 227, Value.none, Value.ref 228, Value.ref 229, Value.ref 230, Value.int 483 0, Value.int 133 0, Value.str (Str.ofString "/claim/cut.py") 484] }),
 (232, { cls := Value.type "function", data := Data.func { name := Str.ofString "region_union", qualname := Str.ofString "region_union", params := (fA (topS 21)), body := FuncBody.stmts (fB (topS 21)), scope := (fS (topS 21)), globals := 3, closure := [], defaults := Value.none, kwdefaults := Value.none, pyModule := Value.str (Str.ofString "outlinemill.regions") 374, code := Value.ref 231 } }),
 (233, { cls := Value.type "tuple", data := Data.seq #[] }),
 (235, { cls := Value.type "tuple", data := Data.seq #[Value.str (Str.ofString "region") 489, Value.str (Str.ofString "left") 490, Value.str (Str.ofString "top") 491, Value.str (Str.ofString "width") 492, Value.str (Str.ofString "height") 493, Value.str (Str.ofString "rows") 494, Value.str (Str.ofString "y") 495] }),
 (236, { cls := Value.type "tuple", data := Data.seq #[] }),
 (238, { cls := Value.type "code", data := Data.fields #[Value.str (Str.ofString "region_cut") 486, Value.str (Str.ofString "region_cut") 487, Value.str (Str.ofString "/claim/cut.py") 488, Value.int 135 0, Value.int 5 0, Value.int 0 0, Value.int 0 0, Value.int 3 0, Value.ref 233, Value.bool true, Value.int 181 0, Value.ref 234, Value.none, Value.ref 235, Value.ref 236, Value.ref 237, Value.int 496 0, Value.int 135 0, Value.str (Str.ofString "/claim/cut.py") 497] }),
 (239, { cls := Value.type "function", data := Data.func { name := Str.ofString "region_cut", qualname := Str.ofString "region_cut", params := (fA (topS 22)), body := FuncBody.stmts (fB (topS 22)), scope := (fS (topS 22)), globals := 3, closure := [], defaults := Value.none, kwdefaults := Value.none, pyModule := Value.str (Str.ofString "outlinemill.regions") 374, code := Value.ref 238 } }),
 (240, { cls := Value.type "tuple", data := Data.seq #[] }),
 (242, { cls := Value.type "tuple", data := Data.seq #[Value.str (Str.ofString "script") 504, Value.str (Str.ofString "k") 505, Value.str (Str.ofString "cell") 506, Value.str (Str.ofString "great") 507, Value.str (Str.ofString "mixed") 508] }),
 (243, { cls := Value.type "tuple", data := Data.seq #[] }),
 (245, { cls := Value.type "code", data := Data.fields #[Value.str (Str.ofString "_law_pool") 501, Value.str (Str.ofString "_law_pool") 502, Value.str (Str.ofString "/claim/cut.py") 503, Value.int 144 0, Value.int 2 0, Value.int 0 0, Value.int 0 0, Value.int 3 0, Value.ref 240, Value.bool true, Value.int 181 0, Value.ref 241, Value.none, Value.ref 242, Value.ref 243, Value.ref 244, Value.int 509 0, Value.int 144 0, Value.str (Str.ofString "/claim/cut.py") 510] }),
 (246, { cls := Value.type "function", data := Data.func { name := Str.ofString "_law_pool", qualname := Str.ofString "_law_pool", params := (fA (topS 24)), body := FuncBody.stmts (fB (topS 24)), scope := (fS (topS 24)), globals := 3, closure := [], defaults := Value.none, kwdefaults := Value.none, pyModule := Value.str (Str.ofString "law_qz0059_01") 499, code := Value.ref 245 } }),
 (247, { cls := Value.type "tuple", data := Data.seq #[] }),
 (249, { cls := Value.type "tuple", data := Data.seq #[Value.str (Str.ofString "source") 515, Value.str (Str.ofString "top") 516, Value.str (Str.ofString "drawn") 517] }),
 (250, { cls := Value.type "tuple", data := Data.seq #[] }),
 (252, { cls := Value.type "code", data := Data.fields #[Value.str (Str.ofString "_law_take") 512, Value.str (Str.ofString "_law_take") 513, Value.str (Str.ofString "/claim/cut.py") 514, Value.int 149 0, Value.int 2 0, Value.int 0 0, Value.int 0 0, Value.int 3 0, Value.ref 247, Value.bool true, Value.int 181 0, Value.ref 248, Value.none, Value.ref 249, Value.ref 250, Value.ref 251, Value.int 518 0, Value.int 149 0, Value.str (Str.ofString "/claim/cut.py") 519] }),
 (253, { cls := Value.type "function", data := Data.func { name := Str.ofString "_law_take", qualname := Str.ofString "_law_take", params := (fA (topS 25)), body := FuncBody.stmts (fB (topS 25)), scope := (fS (topS 25)), globals := 3, closure := [], defaults := Value.none, kwdefaults := Value.none, pyModule := Value.str (Str.ofString "law_qz0059_01") 499, code := Value.ref 252 } }),
 (254, { cls := Value.type "tuple", data := Data.seq #[] }),
 (256, { cls := Value.type "tuple", data := Data.seq #[Value.str (Str.ofString "source") 524, Value.str (Str.ofString "things") 525] }),
 (257, { cls := Value.type "tuple", data := Data.seq #[] }),
 (259, { cls := Value.type "code", data := Data.fields #[Value.str (Str.ofString "_law_one") 521, Value.str (Str.ofString "_law_one") 522, Value.str (Str.ofString "/claim/cut.py") 523, Value.int 156 0, Value.int 2 0, Value.int 0 0, Value.int 0 0, Value.int 3 0, Value.ref 254, Value.bool true, Value.int 181 0, Value.ref 255, Value.none, Value.ref 256, Value.ref 257, Value.ref 258, Value.int 526 0, Value.int 156 0, Value.str (Str.ofString "/claim/cut.py") 527] }),
 (260, { cls := Value.type "function", data := Data.func { name := Str.ofString "_law_one", qualname := Str.ofString "_law_one", params := (fA (topS 26)), body := FuncBody.stmts (fB (topS 26)), scope := (fS (topS 26)), globals := 3, closure := [], defaults := Value.none, kwdefaults := Value.none, pyModule := Value.str (Str.ofString "law_qz0059_01") 499, code := Value.ref 259 } }),
 (261, { cls := Value.type "tuple", data := Data.seq #[] }),
 (263, { cls := Value.type "tuple", data := Data.seq #[Value.str (Str.ofString "call") 532] }),
 (264, { cls := Value.type "tuple", data := Data.seq #[] }),
 (266, { cls := Value.type "code", data := Data.fields #[Value.str (Str.ofString "_law_told") 529, Value.str (Str.ofString "_law_told") 530, Value.str (Str.ofString "/claim/cut.py") 531, Value.int 158 0, Value.int 1 0, Value.int 0 0, Value.int 0 0, Value.int 3 0, Value.ref 261, Value.bool true, Value.int 181 0, Value.ref 262, Value.none, Value.ref 263, Value.ref 264, Value.ref 265, Value.int 533 0, Value.int 158 0, Value.str (Str.ofString "/claim/cut.py") 534] }),
 (267, { cls := Value.type "function", data := Data.func { name := Str.ofString "_law_told", qualname := Str.ofString "_law_told", params := (fA (topS 27)), body := FuncBody.stmts (fB (topS 27)), scope := (fS (topS 27)), globals := 3, closure := [], defaults := Value.none, kwdefaults := Value.none, pyModule := Value.str (Str.ofString "law_qz0059_01") 499, code := Value.ref 266 } }),
 (268, { cls := Value.type "tuple", data := Data.seq #[] }),
 (270, { cls := Value.type "tuple", data := Data.seq #[Value.str (Str.ofString "source") 539, Value.str (Str.ofString "left") 540, Value.str (Str.ofString "top") 541] }),
 (271, { cls := Value.type "tuple", data := Data.seq #[] }),
 (273, { cls := Value.type "code", data := Data.fields #[Value.str (Str.ofString "_law_rectangle") 536, Value.str (Str.ofString "_law_rectangle") 537, Value.str (Str.ofString "/claim/cut.py") 538, Value.int 163 0, Value.int 1 0, Value.int 0 0, Value.int 0 0, Value.int 3 0, Value.ref 268, Value.bool true, Value.int 181 0, Value.ref 269, Value.none, Value.ref 270, Value.ref 271, Value.ref 272, Value.int 542 0, Value.int 163 0, Value.str (Str.ofString "/claim/cut.py") 543] }),
 (274, { cls := Value.type "function", data := Data.func { name := Str.ofString "_law_rectangle", qualname := Str.ofString "_law_rectangle", params := (fA (topS 28)), body := FuncBody.stmts (fB (topS 28)), scope := (fS (topS 28)), globals := 3, closure := [], defaults := Value.none, kwdefaults := Value.none, pyModule := Value.str (Str.ofString "law_qz0059_01") 499, code := Value.ref 273 } }),
 (275, { cls := Value.type "tuple", data := Data.seq #[] }),
 (277, { cls := Value.type "tuple", data := Data.seq #[Value.str (Str.ofString "row") 548] }),
 (278, { cls := Value.type "tuple", data := Data.seq #[] }),
 (280, { cls := Value.type "code", data := Data.fields #[Value.str (Str.ofString "_law_is_let") 545, Value.str (Str.ofString "_law_is_let") 546, Value.str (Str.ofString "/claim/cut.py") 547, Value.int 166 0, Value.int 1 0, Value.int 0 0, Value.int 0 0, Value.int 3 0, Value.ref 275, Value.bool true, Value.int 181 0, Value.ref 276, Value.none, Value.ref 277, Value.ref 278, Value.ref 279, Value.int 549 0, Value.int 166 0, Value.str (Str.ofString "/claim/cut.py") 550] }),
 (281, { cls := Value.type "function", data := Data.func { name := Str.ofString "_law_is_let", qualname := Str.ofString "_law_is_let", params := (fA (topS 29)), body := FuncBody.stmts (fB (topS 29)), scope := (fS (topS 29)), globals := 3, closure := [], defaults := Value.none, kwdefaults := Value.none, pyModule := Value.str (Str.ofString "law_qz0059_01") 499, code := Value.ref 280 } }),
 (282, { cls := Value.type "tuple", data := Data.seq #[] }),
 (284, { cls := Value.type "tuple", data := Data.seq #[Value.str (Str.ofString "row") 555, Value.str (Str.ofString "x") 556, Value.str (Str.ofString "y") 557] }),
 (285, { cls := Value.type "tuple", data := Data.seq #[] }),
 (287, { cls := Value.type "code", data := Data.fields #[Value.str (Str.ofString "_law_lies") 552, Value.str (Str.ofString "_law_lies") 553, Value.str (Str.ofString "/claim/cut.py") 554, Value.int 168 0, Value.int 3 0, Value.int 0 0, Value.int 0 0, Value.int 3 0, Value.ref 282, Value.bool true, Value.int 181 0, Value.ref 283, Value.none, Value.ref 284, Value.ref 285, Value.ref 286, Value.int 558 0, Value.int 168 0, Value.str (Str.ofString "/claim/cut.py") 559] }),
 (288, { cls := Value.type "function", data := Data.func { name := Str.ofString "_law_lies", qualname := Str.ofString "_law_lies", params := (fA (topS 30)), body := FuncBody.stmts (fB (topS 30)), scope := (fS (topS 30)), globals := 3, closure := [], defaults := Value.none, kwdefaults := Value.none, pyModule := Value.str (Str.ofString "law_qz0059_01") 499, code := Value.ref 287 } }),
 (289, { cls := Value.type "tuple", data := Data.seq #[] }),
 (292, { cls := Value.type "code", data := Data.fields #[Value.str (Str.ofString "_law_has") 561, Value.str (Str.ofString "_law_has") 562, Value.str (Str.ofString "/claim/cut.py") 563, Value.int 170 0, Value.int 2 0, Value.int 0 0, Value.int 0 0, Value.int 3 0, Value.ref 289, Value.bool true, Value.int 181 0, Value.ref 290, Value.none, Value.none, Value.none, Value.ref 291, Value.int 564 0, Value.int 170 0, Value.str (Str.ofString "/claim/cut.py") 565] }),
 (293, { cls := Value.type "function", data := Data.func { name := Str.ofString "_law_has", qualname := Str.ofString "_law_has", params := (fA (topS 31)), body := FuncBody.stmts (fB (topS 31)), scope := (fS (topS 31)), globals := 3, closure := [], defaults := Value.none, kwdefaults := Value.none, pyModule := Value.str (Str.ofString "law_qz0059_01") 499, code := Value.ref 292 } }),
 (294, { cls := Value.type "tuple", data := Data.seq #[] }),
 (296, { cls := Value.type "tuple", data := Data.seq #[] }),
 (297, { cls := Value.type "tuple", data := Data.seq #[Value.str (Str.ofString "size") 570] }),
 (299, { cls := Value.type "code", data := Data.fields #[Value.str (Str.ofString "_law_fixed_right") 567, Value.str (Str.ofString "_law_fixed_right") 568, Value.str (Str.ofString "/claim/cut.py") 569, Value.int 175 0, Value.int 0 0, Value.int 0 0, Value.int 0 0, Value.int 3 0, Value.ref 294, Value.bool true, Value.int 181 0, Value.ref 295, Value.none, Value.ref 296, Value.ref 297, Value.ref 298, Value.int 571 0, Value.int 175 0, Value.str (Str.ofString "/claim/cut.py") 572] }),
 (300, { cls := Value.type "function", data := Data.func { name := Str.ofString "_law_fixed_right", qualname := Str.ofString "_law_fixed_right", params := (fA (topS 32)), body := FuncBody.stmts (fB (topS 32)), scope := (fS (topS 32)), globals := 3, closure := [], defaults := Value.none, kwdefaults := Value.none, pyModule := Value.str (Str.ofString "law_qz0059_01") 499, code := Value.ref 299 } }),
 (301, { cls := Value.type "tuple", data := Data.seq #[] }),
 (304, { cls := Value.type "code", data := Data.fields #[Value.str (Str.ofString "law") 574, Value.str (Str.ofString "law") 575, Value.str (Str.ofString "/claim/cut.py") 576, Value.int 180 0, Value.int 1 0, Value.int 0 0, Value.int 0 0, Value.int 3 0, Value.ref 301, Value.bool true, Value.int 181 0, Value.ref 302, Value.none, Value.none, Value.none, Value.ref 303, Value.int 577 0, Value.int 180 0, Value.str (Str.ofString "/claim/cut.py") 578] }),
 (305, { cls := Value.type "function", data := Data.func { name := Str.ofString "law", qualname := Str.ofString "law", params := (fA (topS 33)), body := FuncBody.stmts (fB (topS 33)), scope := (fS (topS 33)), globals := 3, closure := [], defaults := Value.none, kwdefaults := Value.none, pyModule := Value.str (Str.ofString "law_qz0059_01") 499, code := Value.ref 304 } })]
noncomputable def viewP : Program := PySem.W.view PySem.Challenge.pw_qz0059_01 [0, 2, 3, 5, 6, 7, 8, 9, 10, 11, 12, 13, 14, 15, 17, 18, 19, 20, 21, 22, 24, 25, 26, 27, 28, 29, 30, 31, 32, 33]
noncomputable abbrev HK : Hook := kmHook heapK [2, 3, 15, 17, 18, 20, 21, 22, 29, 31, 32, 34, 35, 36, 37, 38, 39, 42, 49, 50, 51, 54, 57, 58, 59, 61, 62, 64, 65, 66, 68, 69, 71, 72, 80, 82, 83, 85, 86, 87, 89, 90, 92, 93, 94, 95, 96, 97, 98, 101, 103, 104, 106, 107, 108, 110, 111, 113, 114, 115, 117, 118, 120, 121, 122, 124, 125, 127, 128, 129, 131, 132, 134, 135, 136, 138, 139, 141, 142, 150, 153, 154, 155, 157, 158, 160, 161, 162, 164, 165, 167, 168, 169, 171, 172, 174, 175, 176, 178, 179, 181, 182, 183, 186, 187, 188, 190, 191, 193, 194, 195, 197, 198, 200, 201, 202, 203, 204, 205, 206, 209, 212, 213, 214, 217, 218, 219, 221, 222, 224, 225, 226, 228, 229, 231, 232, 233, 235, 236, 238, 239, 240, 242, 243, 245, 246, 247, 249, 250, 252, 253, 254, 256, 257, 259, 260, 261, 263, 264, 266, 267, 268, 270, 271, 273, 274, 275, 277, 278, 280, 281, 282, 284, 285, 287, 288, 289, 292, 293, 294, 296, 297, 299, 300, 301, 304, 305] (fun _ => by kernel_rfl) [295, 116, 109, 302]
noncomputable def lawD : DefRec := { name := Str.ofString "law", params := fA (topS 33), body := fB (topS 33), scope := fS (topS 33), pos := fP (topS 33) }
namespace Top
/-- the object that the written part holds at place j -/
noncomputable def hk (P : Params) (j : Nat) : Obj := match (heapK P)[j]? with
  | some x => x.2
  | none => default
/-- the last heap as a tree -/
noncomputable def treeF : Params → BT := fun P => 
(.node (boot_o_0 P) 
(.node (boot_o_1 P) 
(.node (hk P 1) 
(.node (boot_o_7 P) 
(.node (hk P 2) 
(.node (hk P 9) 
(.node ({ cls := Value.none, data := Data.func { name := Str.ofString "borders", qualname := Str.ofString "borders", params := (fA (topS 6)), body := FuncBody.stmts (fB (topS 6)), scope := (fS (topS 6)), globals := 0, closure := [], defaults := Value.none, kwdefaults := Value.none } }) 
(.node (hk P 67) 
(.node ({ cls := Value.none, data := Data.fields #[] }) .nil .nil) .nil) 
(.node (hk P 107) .nil .nil)) 
(.node (hk P 45) 
(.node ({ cls := Value.none, data := Data.func { name := Str.ofString "spans", qualname := Str.ofString "Region.spans", params := (fA (inS 17 1)), body := FuncBody.stmts (fB (inS 17 1)), scope := (fS (inS 17 1)), globals := 0, closure := [], defaults := Value.none, kwdefaults := Value.none } }) 
(.node (hk P 174) .nil .nil) .nil) 
(.node ({ cls := Value.none, data := Data.func { name := Str.ofString "by_rows", qualname := Str.ofString "by_rows", params := (fA (topS 20)), body := FuncBody.stmts (fB (topS 20)), scope := (fS (topS 20)), globals := 0, closure := [], defaults := Value.none, kwdefaults := Value.none } }) .nil .nil))) 
(.node ({ cls := Value.type "code", data := Data.fields #[Value.str (Str.ofString "SizeFault") 227, Value.str (Str.ofString "SizeFault") 228, Value.str (Str.ofString "/claim/cut.py") 229, Value.int 9 0, Value.int 0 0, Value.int 0 0, Value.int 0 0, Value.int 0 0, Value.ref 45, Value.bool false, Value.int 181 0, Value.ref 46, Value.none, Value.none, Value.none, Value.none, Value.int 230 0, Value.int 9 0, Value.str (Str.ofString "/claim/cut.py") 231] }) 
(.node ({ cls := Value.type "frame", slots := #[some (Value.ref 78), some (Value.ref 3), some (Value.ref 75), none, some (Value.str (Str.ofString "outlinemill.spans") 241), none, some (Value.ref 0)] }) 
(.node ({ cls := Value.type "tuple", data := Data.seq #[] }) 
(.node (hk P 163) .nil .nil) .nil) 
(.node ({ cls := Value.type "super", data := Data.fields #[Value.ref 204, Value.ref 204, Value.ref 204] }) .nil .nil)) 
(.node (hk P 56) 
(.node (hk P 96) 
(.node ({ cls := Value.none, data := Data.func { name := Str.ofString "law", qualname := Str.ofString "law", params := (fA (topS 33)), body := FuncBody.stmts (fB (topS 33)), scope := (fS (topS 33)), globals := 0, closure := [], defaults := Value.none, kwdefaults := Value.none } }) .nil .nil) .nil) 
(.node (hk P 140) .nil .nil)))) 
(.node ({ cls := Value.type "builtin_function_or_method", data := Data.fields #[Value.builtin "type.__prepare__", Value.type "type"] }) 
(.node (hk P 16) 
(.node (hk P 32) 
(.node (hk P 73) 
(.node (hk P 157) .nil .nil) .nil) 
(.node ({ cls := Value.none, data := Data.func { name := Str.ofString "like", qualname := Str.ofString "Region.like", params := (fA (inS 17 7)), body := FuncBody.stmts (fB (inS 17 7)), scope := (fS (inS 17 7)), globals := 0, closure := [], defaults := Value.none, kwdefaults := Value.none } }) .nil .nil)) 
(.node (hk P 50) 
(.node (hk P 90) 
(.node ({ cls := Value.none, data := Data.fields #[] }) .nil .nil) .nil) 
(.node (hk P 134) .nil .nil))) 
(.node ({ cls := Value.none, data := Data.fields #[] }) 
(.node (hk P 39) 
(.node ({ cls := Value.none, data := Data.fields #[] }) 
(.node ({ cls := Value.none, data := Data.func { name := Str.ofString "_law_is_let", qualname := Str.ofString "_law_is_let", params := (fA (topS 29)), body := FuncBody.stmts (fB (topS 29)), scope := (fS (topS 29)), globals := 0, closure := [], defaults := Value.none, kwdefaults := Value.none } }) .nil .nil) .nil) 
(.node ({ cls := Value.none, data := Data.fields #[] }) .nil .nil)) 
(.node ({ cls := Value.none, data := Data.func { name := Str.ofString "common", qualname := Str.ofString "common", params := (fA (topS 11)), body := FuncBody.stmts (fB (topS 11)), scope := (fS (topS 11)), globals := 0, closure := [], defaults := Value.none, kwdefaults := Value.none } }) 
(.node (hk P 102) .nil .nil) 
(.node (hk P 146) .nil .nil))))) 
(.node ({ cls := Value.type "tuple", data := Data.seq #[] }) 
(.node ({ cls := Value.none, data := Data.func { name := Str.ofString "_wall", qualname := Str.ofString "_wall", params := (fA (topS 0)), body := FuncBody.stmts (fB (topS 0)), scope := (fS (topS 0)), globals := 0, closure := [], defaults := Value.none, kwdefaults := Value.none } }) 
(.node (hk P 12) 
(.node ({ cls := Value.none, data := Data.fields #[] }) 
(.node (hk P 70) 
(.node (hk P 154) .nil .nil) .nil) 
(.node (hk P 110) .nil .nil)) 
(.node ({ cls := Value.type "super", data := Data.fields #[Value.ref 96, Value.ref 96, Value.ref 96] }) 
(.node ({ cls := Value.none, data := Data.fields #[] }) 
(.node ({ cls := Value.none, data := Data.func { name := Str.ofString "_law_has", qualname := Str.ofString "_law_has", params := (fA (topS 31)), body := FuncBody.stmts (fB (topS 31)), scope := (fS (topS 31)), globals := 0, closure := [], defaults := Value.none, kwdefaults := Value.none } }) .nil .nil) .nil) 
(.node ({ cls := Value.none, data := Data.fields #[] }) .nil .nil))) 
(.node (hk P 20) 
(.node (hk P 36) 
(.node ({ cls := Value.none, data := Data.fields #[Value.int 87 0, Value.int 4 0, Value.ref 153, Value.int 93 0, Value.int 4 0, Value.ref 160, Value.int 96 0, Value.int 4 0, Value.ref 167, Value.int 99 0, Value.int 4 0, Value.ref 174, Value.int 102 0, Value.int 4 0, Value.ref 181, Value.int 105 0, Value.int 4 0, Value.ref 186, Value.int 108 0, Value.int 4 0, Value.ref 193, Value.int 111 0, Value.int 4 0, Value.ref 200] }) 
(.node (hk P 166) .nil .nil) .nil) 
(.node ({ cls := Value.none, data := Data.func { name := Str.ofString "of_rectangle", qualname := Str.ofString "of_rectangle", params := (fA (topS 18)), body := FuncBody.stmts (fB (topS 18)), scope := (fS (topS 18)), globals := 0, closure := [], defaults := Value.none, kwdefaults := Value.none } }) .nil .nil)) 
(.node (hk P 59) 
(.node (hk P 99) .nil .nil) 
(.node (hk P 143) .nil .nil)))) 
(.node ({ cls := Value.type "code", data := Data.fields #[Value.str (Str.ofString "MillError") 198, Value.str (Str.ofString "MillError") 199, Value.str (Str.ofString "/claim/cut.py") 200, Value.int 5 0, Value.int 0 0, Value.int 0 0, Value.int 0 0, Value.int 0 0, Value.ref 25, Value.bool false, Value.int 181 0, Value.ref 26, Value.none, Value.none, Value.none, Value.none, Value.int 201 0, Value.int 5 0, Value.str (Str.ofString "/claim/cut.py") 202] }) 
(.node ({ cls := Value.type "builtin_function_or_method", data := Data.fields #[Value.builtin "type.__prepare__", Value.type "type"] }) 
(.node ({ cls := Value.type "dict", data := Data.dict #[{ hash := PyData.keyHash P (Str.ofString "__module__"), key := Value.str (Str.ofString "__module__") 280, val := Value.str (Str.ofString "outlinemill.spans") 241 }, { hash := PyData.keyHash P (Str.ofString "__qualname__"), key := Value.str (Str.ofString "__qualname__") 282, val := Value.str (Str.ofString "Walk") 281 }, { hash := PyData.keyHash P (Str.ofString "__firstlineno__"), key := Value.str (Str.ofString "__firstlineno__") 284, val := Value.int 41 283 }, { hash := PyData.keyHash P (Str.ofString "__init__"), key := Value.str (Str.ofString "__init__") 292, val := Value.ref 86 }, { hash := PyData.keyHash P (Str.ofString "holds"), key := Value.str (Str.ofString "holds") 300, val := Value.ref 93 }, { hash := PyData.keyHash P (Str.ofString "__static_attributes__"), key := Value.str (Str.ofString "__static_attributes__") 303, val := Value.ref 94 }] 6 }) 
(.node (hk P 76) 
(.node (hk P 160) .nil .nil) .nil) 
(.node (hk P 116) .nil .nil)) 
(.node (hk P 53) 
(.node (hk P 93) 
(.node (hk P 182) .nil .nil) .nil) 
(.node (hk P 137) .nil .nil))) 
(.node (hk P 24) 
(.node ({ cls := Value.none, data := Data.func { name := Str.ofString "holds", qualname := Str.ofString "Walk.holds", params := (fA (inS 8 1)), body := FuncBody.stmts (fB (inS 8 1)), scope := (fS (inS 8 1)), globals := 0, closure := [], defaults := Value.none, kwdefaults := Value.none } }) 
(.node (hk P 82) 
(.node ({ cls := Value.none, data := Data.fields #[] }) .nil .nil) .nil) 
(.node (hk P 126) .nil .nil)) 
(.node ({ cls := Value.none, data := Data.fields #[] }) 
(.node (hk P 104) .nil .nil) 
(.node ({ cls := Value.none, data := Data.func { name := Str.ofString "_law_take", qualname := Str.ofString "_law_take", params := (fA (topS 25)), body := FuncBody.stmts (fB (topS 25)), scope := (fS (topS 25)), globals := 0, closure := [], defaults := Value.none, kwdefaults := Value.none } }) .nil .nil)))))) 
(.node (boot_o_5 P) 
(.node (boot_o_9 P) 
(.node (hk P 3) 
(.node ({ cls := Value.none, data := Data.func { name := Str.ofString "__init__", qualname := Str.ofString "MillError.__init__", params := (fA (inS 2 0)), body := FuncBody.stmts (fB (inS 2 0)), scope := (fS (inS 2 0)), globals := 0, closure := [], defaults := Value.none, kwdefaults := Value.none } }) 
(.node (hk P 28) 
(.node (hk P 69) 
(.node (hk P 153) .nil .nil) .nil) 
(.node (hk P 108) .nil .nil)) 
(.node (hk P 47) 
(.node (hk P 86) 
(.node (hk P 176) .nil .nil) .nil) 
(.node (hk P 130) .nil .nil))) 
(.node (hk P 18) 
(.node ({ cls := Value.none, data := Data.fields #[] }) 
(.node ({ cls := Value.type "dict", data := Data.dict #[{ hash := PyData.keyHash P (Str.ofString "__module__"), key := Value.str (Str.ofString "__module__") 383, val := Value.str (Str.ofString "outlinemill.regions") 374 }, { hash := PyData.keyHash P (Str.ofString "__qualname__"), key := Value.str (Str.ofString "__qualname__") 385, val := Value.str (Str.ofString "Region") 384 }, { hash := PyData.keyHash P (Str.ofString "__firstlineno__"), key := Value.str (Str.ofString "__firstlineno__") 387, val := Value.int 85 386 }, { hash := PyData.keyHash P (Str.ofString "__init__"), key := Value.str (Str.ofString "__init__") 393, val := Value.ref 154 }, { hash := PyData.keyHash P (Str.ofString "spans"), key := Value.str (Str.ofString "spans") 401, val := Value.ref 161 }, { hash := PyData.keyHash P (Str.ofString "heights"), key := Value.str (Str.ofString "heights") 408, val := Value.ref 168 }, { hash := PyData.keyHash P (Str.ofString "is_empty"), key := Value.str (Str.ofString "is_empty") 415, val := Value.ref 175 }, { hash := PyData.keyHash P (Str.ofString "holds"), key := Value.str (Str.ofString "holds") 424, val := Value.ref 182 }, { hash := PyData.keyHash P (Str.ofString "area"), key := Value.str (Str.ofString "area") 430, val := Value.ref 187 }, { hash := PyData.keyHash P (Str.ofString "box"), key := Value.str (Str.ofString "box") 437, val := Value.ref 194 }, { hash := PyData.keyHash P (Str.ofString "like"), key := Value.str (Str.ofString "like") 445, val := Value.ref 201 }, { hash := PyData.keyHash P (Str.ofString "__static_attributes__"), key := Value.str (Str.ofString "__static_attributes__") 447, val := Value.ref 202 }] 12 }) 
(.node (hk P 164) .nil .nil) .nil) 
(.node (hk P 120) .nil .nil)) 
(.node (hk P 57) 
(.node ({ cls := Value.none, data := Data.fields #[] }) 
(.node (hk P 186) .nil .nil) .nil) 
(.node ({ cls := Value.none, data := Data.fields #[] }) .nil .nil)))) 
(.node ({ cls := Value.type "tuple", data := Data.seq #[] }) 
(.node ({ cls := Value.type "builtin_function_or_method", data := Data.fields #[Value.builtin "object.__init_subclass__", Value.ref 38] }) 
(.node ({ cls := Value.type "tuple", data := Data.seq #[] }) 
(.node ({ cls := Value.none, data := Data.fields #[] }) 
(.node ({ cls := Value.none, data := Data.func { name := Str.ofString "_law_told", qualname := Str.ofString "_law_told", params := (fA (topS 27)), body := FuncBody.stmts (fB (topS 27)), scope := (fS (topS 27)), globals := 0, closure := [], defaults := Value.none, kwdefaults := Value.none } }) .nil .nil) .nil) 
(.node (hk P 114) .nil .nil)) 
(.node ({ cls := Value.none, data := Data.func { name := Str.ofString "put_together", qualname := Str.ofString "put_together", params := (fA (topS 9)), body := FuncBody.stmts (fB (topS 9)), scope := (fS (topS 9)), globals := 0, closure := [], defaults := Value.none, kwdefaults := Value.none } }) 
(.node (hk P 92) 
(.node (hk P 181) .nil .nil) .nil) 
(.node (hk P 136) .nil .nil))) 
(.node (hk P 22) 
(.node (hk P 40) 
(.node (hk P 80) 
(.node (hk P 170) .nil .nil) .nil) 
(.node (hk P 124) .nil .nil)) 
(.node (hk P 63) 
(.node ({ cls := Value.none, data := Data.func { name := Str.ofString "area", qualname := Str.ofString "Region.area", params := (fA (inS 17 5)), body := FuncBody.stmts (fB (inS 17 5)), scope := (fS (inS 17 5)), globals := 0, closure := [], defaults := Value.none, kwdefaults := Value.none } }) .nil .nil) 
(.node (hk P 147) .nil .nil))))) 
(.node ({ cls := Value.type "code", data := Data.fields #[Value.str (Str.ofString "<module>") 182, Value.str (Str.ofString "<module>") 183, Value.str (Str.ofString "/claim/cut.py") 184, Value.int 1 0, Value.int 0 0, Value.int 0 0, Value.int 0 0, Value.int 0 0, Value.ref 11, Value.bool false, Value.int 181 0, Value.ref 12, Value.none, Value.none, Value.none, Value.none, Value.int 185 0, Value.int 1 0, Value.str (Str.ofString "/claim/cut.py") 186] }) 
(.node (hk P 6) 
(.node (hk P 14) 
(.node (hk P 31) 
(.node ({ cls := Value.none, data := Data.func { name := Str.ofString "length", qualname := Str.ofString "length", params := (fA (topS 13)), body := FuncBody.stmts (fB (topS 13)), scope := (fS (topS 13)), globals := 0, closure := [], defaults := Value.none, kwdefaults := Value.none } }) 
(.node (hk P 156) .nil .nil) .nil) 
(.node (hk P 111) .nil .nil)) 
(.node (hk P 49) 
(.node (hk P 89) 
(.node (hk P 178) .nil .nil) .nil) 
(.node (hk P 133) .nil .nil))) 
(.node ({ cls := Value.type "builtin_function_or_method", data := Data.fields #[Value.builtin "object.__init_subclass__", Value.ref 51] }) 
(.node (hk P 37) 
(.node ({ cls := Value.type "frame", slots := #[some (Value.ref 148), some (Value.ref 3), some (Value.ref 145), none, some (Value.str (Str.ofString "outlinemill.regions") 374), none, some (Value.ref 0)] }) 
(.node (hk P 167) .nil .nil) .nil) 
(.node (hk P 122) .nil .nil)) 
(.node (hk P 60) 
(.node (hk P 100) .nil .nil) 
(.node (hk P 144) .nil .nil)))) 
(.node (hk P 8) 
(.node ({ cls := Value.type "tuple", data := Data.seq #[] }) 
(.node ({ cls := Value.none, data := Data.fields #[Value.int 43 0, Value.int 4 0, Value.ref 85, Value.int 47 0, Value.int 4 0, Value.ref 92] }) 
(.node (hk P 77) 
(.node ({ cls := Value.none, data := Data.fields #[] }) .nil .nil) .nil) 
(.node (hk P 118) .nil .nil)) 
(.node ({ cls := Value.none, data := Data.fields #[] }) 
(.node ({ cls := Value.none, data := Data.func { name := Str.ofString "is_empty", qualname := Str.ofString "Region.is_empty", params := (fA (inS 17 3)), body := FuncBody.stmts (fB (inS 17 3)), scope := (fS (inS 17 3)), globals := 0, closure := [], defaults := Value.none, kwdefaults := Value.none } }) 
(.node (hk P 184) .nil .nil) .nil) 
(.node ({ cls := Value.none, data := Data.func { name := Str.ofString "region_cut", qualname := Str.ofString "region_cut", params := (fA (topS 22)), body := FuncBody.stmts (fB (topS 22)), scope := (fS (topS 22)), globals := 0, closure := [], defaults := Value.none, kwdefaults := Value.none } }) .nil .nil))) 
(.node (hk P 25) 
(.node (hk P 43) 
(.node (hk P 83) 
(.node (hk P 173) .nil .nil) .nil) 
(.node (hk P 127) .nil .nil)) 
(.node (hk P 66) 
(.node ({ cls := Value.none, data := Data.fields #[] }) .nil .nil) 
(.node (hk P 150) .nil .nil))))))) 
(.node (hk P 0) 
(.node (boot_o_4 P) 
(.node (boot_o_8 P) 
(.node ({ cls := Value.none, data := Data.fields #[] }) 
(.node (hk P 10) 
(.node (hk P 27) 
(.node (hk P 68) 
(.node (hk P 152) .nil .nil) .nil) 
(.node ({ cls := Value.none, data := Data.func { name := Str.ofString "box", qualname := Str.ofString "Region.box", params := (fA (inS 17 6)), body := FuncBody.stmts (fB (inS 17 6)), scope := (fS (inS 17 6)), globals := 0, closure := [], defaults := Value.none, kwdefaults := Value.none } }) .nil .nil)) 
(.node (hk P 46) 
(.node (hk P 85) 
(.node (hk P 175) .nil .nil) .nil) 
(.node (hk P 129) .nil .nil))) 
(.node ({ cls := Value.type "frame", slots := #[some (Value.ref 47), some (Value.ref 3), some (Value.ref 44), none, some (Value.str (Str.ofString "outlinemill.errors") 194), none, some (Value.ref 0)] }) 
(.node (hk P 34) 
(.node ({ cls := Value.type "builtin_function_or_method", data := Data.fields #[Value.builtin "type.__prepare__", Value.type "type"] }) 
(.node ({ cls := Value.none, data := Data.func { name := Str.ofString "_law_rectangle", qualname := Str.ofString "_law_rectangle", params := (fA (topS 28)), body := FuncBody.stmts (fB (topS 28)), scope := (fS (topS 28)), globals := 0, closure := [], defaults := Value.none, kwdefaults := Value.none } }) .nil .nil) .nil) 
(.node ({ cls := Value.type "builtin_function_or_method", data := Data.fields #[Value.builtin "object.__init_subclass__", Value.ref 204] }) .nil .nil)) 
(.node ({ cls := Value.none, data := Data.func { name := Str.ofString "union", qualname := Str.ofString "union", params := (fA (topS 10)), body := FuncBody.stmts (fB (topS 10)), scope := (fS (topS 10)), globals := 0, closure := [], defaults := Value.none, kwdefaults := Value.none } }) 
(.node (hk P 97) 
(.node (hk P 185) .nil .nil) .nil) 
(.node (hk P 141) .nil .nil)))) 
(.node ({ cls := Value.type "dict", data := Data.dict #[{ hash := PyData.keyHash P (Str.ofString "__module__"), key := Value.str (Str.ofString "__module__") 203, val := Value.str (Str.ofString "outlinemill.errors") 194 }, { hash := PyData.keyHash P (Str.ofString "__qualname__"), key := Value.str (Str.ofString "__qualname__") 205, val := Value.str (Str.ofString "MillError") 204 }, { hash := PyData.keyHash P (Str.ofString "__firstlineno__"), key := Value.str (Str.ofString "__firstlineno__") 207, val := Value.int 5 206 }, { hash := PyData.keyHash P (Str.ofString "__init__"), key := Value.str (Str.ofString "__init__") 215, val := Value.ref 35 }, { hash := PyData.keyHash P (Str.ofString "__static_attributes__"), key := Value.str (Str.ofString "__static_attributes__") 217, val := Value.ref 36 }] 5 }) 
(.node ({ cls := Value.type "super", data := Data.fields #[Value.ref 38, Value.ref 38, Value.ref 38] }) 
(.node (hk P 33) 
(.node (hk P 74) 
(.node (hk P 158) .nil .nil) .nil) 
(.node (hk P 113) .nil .nil)) 
(.node (hk P 51) 
(.node (hk P 91) 
(.node (hk P 180) .nil .nil) .nil) 
(.node (hk P 135) .nil .nil))) 
(.node ({ cls := Value.none, data := Data.func { name := Str.ofString "normal", qualname := Str.ofString "normal", params := (fA (topS 5)), body := FuncBody.stmts (fB (topS 5)), scope := (fS (topS 5)), globals := 0, closure := [], defaults := Value.none, kwdefaults := Value.none } }) 
(.node ({ cls := Value.none, data := Data.fields #[] }) 
(.node ({ cls := Value.none, data := Data.func { name := Str.ofString "__init__", qualname := Str.ofString "Region.__init__", params := (fA (inS 17 0)), body := FuncBody.stmts (fB (inS 17 0)), scope := (fS (inS 17 0)), globals := 0, closure := [], defaults := Value.none, kwdefaults := Value.none } }) 
(.node (hk P 169) .nil .nil) .nil) 
(.node ({ cls := Value.none, data := Data.func { name := Str.ofString "of_rectangles", qualname := Str.ofString "of_rectangles", params := (fA (topS 19)), body := FuncBody.stmts (fB (topS 19)), scope := (fS (topS 19)), globals := 0, closure := [], defaults := Value.none, kwdefaults := Value.none } }) .nil .nil)) 
(.node (hk P 62) 
(.node ({ cls := Value.none, data := Data.fields #[] }) .nil .nil) 
(.node ({ cls := Value.none, data := Data.fields #[] }) .nil .nil))))) 
(.node ({ cls := Value.none, data := Data.fields #[Value.int 1 0, Value.int 0 0, Value.ref 20, Value.int 5 0, Value.int 0 0, Value.ref 27, Value.int 9 0, Value.int 0 0, Value.ref 47, Value.int 12 0, Value.int 0 0, Value.ref 57, Value.int 22 0, Value.int 0 0, Value.ref 64, Value.int 28 0, Value.int 0 0, Value.ref 71, Value.int 41 0, Value.int 0 0, Value.ref 78, Value.int 51 0, Value.int 0 0, Value.ref 106, Value.int 63 0, Value.int 0 0, Value.ref 113, Value.int 65 0, Value.int 0 0, Value.ref 120, Value.int 67 0, Value.int 0 0, Value.ref 127, Value.int 69 0, Value.int 0 0, Value.ref 134, Value.int 74 0, Value.int 0 0, Value.ref 141, Value.int 85 0, Value.int 0 0, Value.ref 148, Value.int 113 0, Value.int 0 0, Value.ref 212, Value.int 119 0, Value.int 0 0, Value.ref 217, Value.int 127 0, Value.int 0 0, Value.ref 224, Value.int 133 0, Value.int 0 0, Value.ref 231, Value.int 135 0, Value.int 0 0, Value.ref 238, Value.int 144 0, Value.int 0 0, Value.ref 245, Value.int 149 0, Value.int 0 0, Value.ref 252, Value.int 156 0, Value.int 0 0, Value.ref 259, Value.int 158 0, Value.int 0 0, Value.ref 266, Value.int 163 0, Value.int 0 0, Value.ref 273, Value.int 166 0, Value.int 0 0, Value.ref 280, Value.int 168 0, Value.int 0 0, Value.ref 287, Value.int 170 0, Value.int 0 0, Value.ref 292, Value.int 175 0, Value.int 0 0, Value.ref 299, Value.int 180 0, Value.int 0 0, Value.ref 304] }) 
(.node (hk P 5) 
(.node (hk P 13) 
(.node (hk P 30) 
(.node (hk P 71) 
(.node (hk P 155) .nil .nil) .nil) 
(.node ({ cls := Value.none, data := Data.fields #[] }) .nil .nil)) 
(.node ({ cls := Value.type "builtin_function_or_method", data := Data.fields #[Value.builtin "object.__init_subclass__", Value.ref 96] }) 
(.node (hk P 88) 
(.node (hk P 177) .nil .nil) .nil) 
(.node (hk P 132) .nil .nil))) 
(.node ({ cls := Value.type "super", data := Data.fields #[Value.ref 51, Value.ref 51, Value.ref 51] }) 
(.node ({ cls := Value.none, data := Data.func { name := Str.ofString "__init__", qualname := Str.ofString "Walk.__init__", params := (fA (inS 8 0)), body := FuncBody.stmts (fB (inS 8 0)), scope := (fS (inS 8 0)), globals := 0, closure := [], defaults := Value.none, kwdefaults := Value.none } }) 
(.node ({ cls := Value.type "code", data := Data.fields #[Value.str (Str.ofString "Region") 378, Value.str (Str.ofString "Region") 379, Value.str (Str.ofString "/claim/cut.py") 380, Value.int 85 0, Value.int 0 0, Value.int 0 0, Value.int 0 0, Value.int 0 0, Value.ref 146, Value.bool false, Value.int 181 0, Value.ref 147, Value.none, Value.none, Value.none, Value.none, Value.int 381 0, Value.int 85 0, Value.str (Str.ofString "/claim/cut.py") 382] }) 
(.node ({ cls := Value.none, data := Data.fields #[] }) .nil .nil) .nil) 
(.node (hk P 121) .nil .nil)) 
(.node ({ cls := Value.none, data := Data.fields #[] }) 
(.node ({ cls := Value.none, data := Data.func { name := Str.ofString "holds", qualname := Str.ofString "Region.holds", params := (fA (inS 17 4)), body := FuncBody.stmts (fB (inS 17 4)), scope := (fS (inS 17 4)), globals := 0, closure := [], defaults := Value.none, kwdefaults := Value.none } }) .nil .nil) 
(.node ({ cls := Value.none, data := Data.func { name := Str.ofString "_law_pool", qualname := Str.ofString "_law_pool", params := (fA (topS 24)), body := FuncBody.stmts (fB (topS 24)), scope := (fS (topS 24)), globals := 0, closure := [], defaults := Value.none, kwdefaults := Value.none } }) .nil .nil)))) 
(.node ({ cls := Value.type "frame", slots := #[some (Value.ref 27), some (Value.ref 3), some (Value.ref 24), none, some (Value.str (Str.ofString "outlinemill.errors") 194), none, some (Value.ref 0)] }) 
(.node ({ cls := Value.type "dict", data := Data.dict #[{ hash := PyData.keyHash P (Str.ofString "__module__"), key := Value.str (Str.ofString "__module__") 232, val := Value.str (Str.ofString "outlinemill.errors") 194 }, { hash := PyData.keyHash P (Str.ofString "__qualname__"), key := Value.str (Str.ofString "__qualname__") 234, val := Value.str (Str.ofString "SizeFault") 233 }, { hash := PyData.keyHash P (Str.ofString "__firstlineno__"), key := Value.str (Str.ofString "__firstlineno__") 236, val := Value.int 9 235 }, { hash := PyData.keyHash P (Str.ofString "__static_attributes__"), key := Value.str (Str.ofString "__static_attributes__") 237, val := Value.ref 49 }] 4 }) 
(.node ({ cls := Value.type "tuple", data := Data.seq #[] }) 
(.node ({ cls := Value.none, data := Data.func { name := Str.ofString "holds", qualname := Str.ofString "holds", params := (fA (topS 14)), body := FuncBody.stmts (fB (topS 14)), scope := (fS (topS 14)), globals := 0, closure := [], defaults := Value.none, kwdefaults := Value.none } }) 
(.node (hk P 161) .nil .nil) .nil) 
(.node (hk P 117) .nil .nil)) 
(.node (hk P 54) 
(.node (hk P 94) 
(.node (hk P 183) .nil .nil) .nil) 
(.node (hk P 138) .nil .nil))) 
(.node ({ cls := Value.none, data := Data.fields #[] }) 
(.node (hk P 42) 
(.node ({ cls := Value.none, data := Data.fields #[] }) 
(.node (hk P 172) .nil .nil) .nil) 
(.node ({ cls := Value.none, data := Data.fields #[] }) .nil .nil)) 
(.node (hk P 65) 
(.node (hk P 105) .nil .nil) 
(.node (hk P 149) .nil .nil)))))) 
(.node (boot_o_6 P) 
(.node (boot_o_10 P) 
(.node (hk P 4) 
(.node (hk P 11) 
(.node (hk P 29) 
(.node ({ cls := Value.none, data := Data.fields #[] }) 
(.node ({ cls := Value.none, data := Data.func { name := Str.ofString "_law_one", qualname := Str.ofString "_law_one", params := (fA (topS 26)), body := FuncBody.stmts (fB (topS 26)), scope := (fS (topS 26)), globals := 0, closure := [], defaults := Value.none, kwdefaults := Value.none } }) .nil .nil) .nil) 
(.node (hk P 109) .nil .nil)) 
(.node (hk P 48) 
(.node (hk P 87) 
(.node ({ cls := Value.none, data := Data.fields #[] }) .nil .nil) .nil) 
(.node (hk P 131) .nil .nil))) 
(.node (hk P 19) 
(.node (hk P 35) 
(.node ({ cls := Value.type "tuple", data := Data.seq #[] }) 
(.node (hk P 165) .nil .nil) .nil) 
(.node ({ cls := Value.none, data := Data.fields #[] }) .nil .nil)) 
(.node (hk P 58) 
(.node (hk P 98) .nil .nil) 
(.node (hk P 142) .nil .nil)))) 
(.node ({ cls := Value.none, data := Data.fields #[Value.int 7 0, Value.int 4 0, Value.ref 34] }) 
(.node (hk P 17) 
(.node ({ cls := Value.type "builtin_function_or_method", data := Data.fields #[Value.builtin "type.__prepare__", Value.type "type"] }) 
(.node (hk P 75) 
(.node (hk P 159) .nil .nil) .nil) 
(.node (hk P 115) .nil .nil)) 
(.node (hk P 52) 
(.node ({ cls := Value.none, data := Data.fields #[] }) 
(.node ({ cls := Value.none, data := Data.func { name := Str.ofString "_law_fixed_right", qualname := Str.ofString "_law_fixed_right", params := (fA (topS 32)), body := FuncBody.stmts (fB (topS 32)), scope := (fS (topS 32)), globals := 0, closure := [], defaults := Value.none, kwdefaults := Value.none } }) .nil .nil) .nil) 
(.node ({ cls := Value.none, data := Data.fields #[] }) .nil .nil))) 
(.node (hk P 23) 
(.node (hk P 41) 
(.node (hk P 81) 
(.node (hk P 171) .nil .nil) .nil) 
(.node (hk P 125) .nil .nil)) 
(.node (hk P 64) 
(.node (hk P 103) .nil .nil) 
(.node (hk P 148) .nil .nil))))) 
(.node ({ cls := Value.type "frame", slots := #[some (Value.ref 13), some (Value.ref 3), some (Value.ref 3), none, some (Value.str (Str.ofString "__main__") 164), none, some (Value.ref 0)] }) 
(.node (hk P 7) 
(.node (hk P 15) 
(.node ({ cls := Value.none, data := Data.func { name := Str.ofString "merged_borders", qualname := Str.ofString "merged_borders", params := (fA (topS 7)), body := FuncBody.stmts (fB (topS 7)), scope := (fS (topS 7)), globals := 0, closure := [], defaults := Value.none, kwdefaults := Value.none } }) 
(.node (hk P 72) 
(.node ({ cls := Value.none, data := Data.fields #[] }) .nil .nil) .nil) 
(.node (hk P 112) .nil .nil)) 
(.node ({ cls := Value.none, data := Data.fields #[] }) 
(.node ({ cls := Value.none, data := Data.func { name := Str.ofString "heights", qualname := Str.ofString "Region.heights", params := (fA (inS 17 2)), body := FuncBody.stmts (fB (inS 17 2)), scope := (fS (inS 17 2)), globals := 0, closure := [], defaults := Value.none, kwdefaults := Value.none } }) 
(.node (hk P 179) .nil .nil) .nil) 
(.node ({ cls := Value.none, data := Data.func { name := Str.ofString "region_union", qualname := Str.ofString "region_union", params := (fA (topS 21)), body := FuncBody.stmts (fB (topS 21)), scope := (fS (topS 21)), globals := 0, closure := [], defaults := Value.none, kwdefaults := Value.none } }) .nil .nil))) 
(.node (hk P 21) 
(.node (hk P 38) 
(.node (hk P 79) 
(.node (hk P 168) .nil .nil) .nil) 
(.node (hk P 123) .nil .nil)) 
(.node (hk P 61) 
(.node (hk P 101) .nil .nil) 
(.node (hk P 145) .nil .nil)))) 
(.node ({ cls := Value.none, data := Data.fields #[] }) 
(.node ({ cls := Value.none, data := Data.fields #[] }) 
(.node ({ cls := Value.type "code", data := Data.fields #[Value.str (Str.ofString "Walk") 275, Value.str (Str.ofString "Walk") 276, Value.str (Str.ofString "/claim/cut.py") 277, Value.int 41 0, Value.int 0 0, Value.int 0 0, Value.int 0 0, Value.int 0 0, Value.ref 76, Value.bool false, Value.int 181 0, Value.ref 77, Value.none, Value.none, Value.none, Value.none, Value.int 278 0, Value.int 41 0, Value.str (Str.ofString "/claim/cut.py") 279] }) 
(.node (hk P 78) 
(.node (hk P 162) .nil .nil) .nil) 
(.node (hk P 119) .nil .nil)) 
(.node (hk P 55) 
(.node (hk P 95) 
(.node ({ cls := Value.none, data := Data.fields #[] }) .nil .nil) .nil) 
(.node (hk P 139) .nil .nil))) 
(.node (hk P 26) 
(.node (hk P 44) 
(.node (hk P 84) 
(.node ({ cls := Value.none, data := Data.func { name := Str.ofString "_law_lies", qualname := Str.ofString "_law_lies", params := (fA (topS 30)), body := FuncBody.stmts (fB (topS 30)), scope := (fS (topS 30)), globals := 0, closure := [], defaults := Value.none, kwdefaults := Value.none } }) .nil .nil) .nil) 
(.node (hk P 128) .nil .nil)) 
(.node ({ cls := Value.none, data := Data.func { name := Str.ofString "cut_to", qualname := Str.ofString "cut_to", params := (fA (topS 12)), body := FuncBody.stmts (fB (topS 12)), scope := (fS (topS 12)), globals := 0, closure := [], defaults := Value.none, kwdefaults := Value.none } }) 
(.node (hk P 106) .nil .nil) 
(.node (hk P 151) .nil .nil))))))))
/-- the tree's places below n -/
noncomputable def cutT : BT → Nat → Nat → Nat → BT
  | .nil, _, _, _ => .nil
  | .node v l r, n, a, b => match Nat.ble n b with
    | true => .nil
    | false => .node v (cutT l n (2 * a) (a + b)) (cutT r n (2 * a) (2 * a + b))
noncomputable def envK : Env := { scope := PySem.Challenge.pw_qz0059_01.main.scope, locals := mainNs, globals := mainNs, cells := [], code := .ref 13, frame := some 14 }
noncomputable def bodyK : List Stmt := behindTheImports PySem.Challenge.pw_qz0059_01
noncomputable abbrev cK : Code := .body bodyK envK
noncomputable abbrev annK : Option Value := some (.ref 6)
noncomputable def heapF (P : Params) : Heap := absHeap (treeF P) 306 {}
noncomputable abbrev endF (w : World) (os : OsState) : Shared := ⟨heapF w.params, #[], {}, 580, os⟩
noncomputable def t_pre : Params → BT := fun P => ((((cutT (treeF P) 15 1 0).set 2 fun _ => boot_o_2 P).set 3 fun _ => boot_o_3 P).set 12 fun _ => { cls := Value.none, data := Data.fields #[] })
noncomputable abbrev s_pre (w : World) (os : OsState) : SharedT := ⟨t_pre w.params, 15, {}, #[], {}, 187, os⟩
theorem g_pre (w : World) (os : OsState) : topGo treeTable PySem.Challenge.pw_qz0059_01 w 11 annK 12 ⟨boot_heap w.params, #[], boot_drawn, boot_toks, os⟩ (topStub PySem.Challenge.pw_qz0059_01) = some ((s_pre w os).abs, (⟨denote treeTable cK, cK, (⟨0, 0, 0, 0⟩ : Pos), [topFrame ⟨0, 0, 0, 0⟩]⟩ : Thread)) := by
  rw [Fast.te15667345088766844465, Fast.te14364793385576792824, Fast.te11892475500146522536]
  kernel_rfl
theorem g_block (w : World) (os : OsState) : segRunT treeTable PySem.Challenge.pw_qz0059_01 w 11 annK 1 1 (s_pre w os) (blockOf bodyK envK cK (⟨0, 0, 0, 0⟩ : Pos) [topFrame ⟨0, 0, 0, 0⟩]) = some (Flow.next, s_pre w os, cK, (⟨0, 0, 0, 0⟩ : Pos)) := by
  rw [Fast.te10110043849684766642, Fast.te14364793385576792824]
  kernel_rfl
noncomputable def t_p2 : Params → BT := fun P => ((((cutT (treeF P) 42 1 0).set 3 fun _ => { cls := Value.type "dict", data := Data.dict #[{ hash := PyData.keyHash P (Str.ofString "__name__"), key := Value.str (Str.ofString "__name__") 165, val := Value.str (Str.ofString "outlinemill.errors") 194 }, { hash := PyData.keyHash P (Str.ofString "__doc__"), key := Value.str (Str.ofString "__doc__") 166, val := Value.none }, { hash := PyData.keyHash P (Str.ofString "__package__"), key := Value.str (Str.ofString "__package__") 167, val := Value.none }, { hash := PyData.keyHash P (Str.ofString "__loader__"), key := Value.str (Str.ofString "__loader__") 168, val := Value.builtin "__main__.__loader__#opaque" }, { hash := PyData.keyHash P (Str.ofString "__spec__"), key := Value.str (Str.ofString "__spec__") 169, val := Value.none }, { hash := PyData.keyHash P (Str.ofString "__annotations__"), key := Value.str (Str.ofString "__annotations__") 170, val := Value.ref 6 }, { hash := PyData.keyHash P (Str.ofString "__builtins__"), key := Value.str (Str.ofString "__builtins__") 171, val := Value.ref 4 }, { hash := PyData.keyHash P (Str.ofString "__file__"), key := Value.str (Str.ofString "__file__") 173, val := Value.str (Str.ofString "/claim/cut.py") 172 }, { hash := PyData.keyHash P (Str.ofString "__cached__"), key := Value.str (Str.ofString "__cached__") 174, val := Value.none }, { hash := PyData.keyHash P (Str.ofString "_wall"), key := Value.str (Str.ofString "_wall") 193, val := Value.ref 21 }, { hash := PyData.keyHash P (Str.ofString "MillError"), key := Value.str (Str.ofString "MillError") 224, val := Value.ref 38 }] 11 }).set 12 fun _ => { cls := Value.none, data := Data.fields #[Value.int 1 0, Value.int 0 0, Value.ref 20, Value.int 5 0, Value.int 0 0, Value.ref 27] }).set 38 fun _ => { cls := Value.type "type", data := Data.cls { name := Str.ofString "MillError", bases := [Value.type "Exception"], mro := [Value.ref 38, Value.type "Exception", Value.type "BaseException", Value.type "object"], ns := 37, qualname := Str.ofString "MillError" }, slots := #[some (Value.ref 22), none, some (Value.str (Str.ofString "MillError") 196), some (Value.str (Str.ofString "MillError") 204), some (Value.builtin "Exception.__new__"), some (Value.bool true)] })
noncomputable abbrev s_p2 (w : World) (os : OsState) : SharedT := ⟨t_p2 w.params, 42, {}, #[], {}, 225, os⟩
noncomputable def b_p2 : List Stmt := (bodyK.drop 0).take 3
theorem g_p2 (w : World) (os : OsState) : segRunT treeTable PySem.Challenge.pw_qz0059_01 w 11 annK 1 267 (s_pre w os) (piecesOf b_p2 envK cK (⟨0, 0, 0, 0⟩ : Pos) [topFrame ⟨0, 0, 0, 0⟩]) = some (Flow.next, s_p2 w os, cK, (⟨5, 0, 8, 30⟩ : Pos)) := by
  rw [Fast.te10110043849684766642, Fast.te14364793385576792824]
  kernel_rfl
noncomputable def t_p7 : Params → BT := fun P => (((cutT (treeF P) 73 1 0).set 3 fun _ => { cls := Value.type "dict", data := Data.dict #[{ hash := PyData.keyHash P (Str.ofString "__name__"), key := Value.str (Str.ofString "__name__") 165, val := Value.str (Str.ofString "outlinemill.spans") 241 }, { hash := PyData.keyHash P (Str.ofString "__doc__"), key := Value.str (Str.ofString "__doc__") 166, val := Value.none }, { hash := PyData.keyHash P (Str.ofString "__package__"), key := Value.str (Str.ofString "__package__") 167, val := Value.none }, { hash := PyData.keyHash P (Str.ofString "__loader__"), key := Value.str (Str.ofString "__loader__") 168, val := Value.builtin "__main__.__loader__#opaque" }, { hash := PyData.keyHash P (Str.ofString "__spec__"), key := Value.str (Str.ofString "__spec__") 169, val := Value.none }, { hash := PyData.keyHash P (Str.ofString "__annotations__"), key := Value.str (Str.ofString "__annotations__") 170, val := Value.ref 6 }, { hash := PyData.keyHash P (Str.ofString "__builtins__"), key := Value.str (Str.ofString "__builtins__") 171, val := Value.ref 4 }, { hash := PyData.keyHash P (Str.ofString "__file__"), key := Value.str (Str.ofString "__file__") 173, val := Value.str (Str.ofString "/claim/cut.py") 172 }, { hash := PyData.keyHash P (Str.ofString "__cached__"), key := Value.str (Str.ofString "__cached__") 174, val := Value.none }, { hash := PyData.keyHash P (Str.ofString "_wall"), key := Value.str (Str.ofString "_wall") 193, val := Value.ref 21 }, { hash := PyData.keyHash P (Str.ofString "MillError"), key := Value.str (Str.ofString "MillError") 224, val := Value.ref 38 }, { hash := PyData.keyHash P (Str.ofString "SizeFault"), key := Value.str (Str.ofString "SizeFault") 240, val := Value.ref 51 }, { hash := PyData.keyHash P (Str.ofString "normal"), key := Value.str (Str.ofString "normal") 248, val := Value.ref 58 }, { hash := PyData.keyHash P (Str.ofString "borders"), key := Value.str (Str.ofString "borders") 258, val := Value.ref 65 }, { hash := PyData.keyHash P (Str.ofString "merged_borders"), key := Value.str (Str.ofString "merged_borders") 272, val := Value.ref 72 }] 15 }).set 12 fun _ => { cls := Value.none, data := Data.fields #[Value.int 1 0, Value.int 0 0, Value.ref 20, Value.int 5 0, Value.int 0 0, Value.ref 27, Value.int 9 0, Value.int 0 0, Value.ref 47, Value.int 12 0, Value.int 0 0, Value.ref 57, Value.int 22 0, Value.int 0 0, Value.ref 64, Value.int 28 0, Value.int 0 0, Value.ref 71] })
noncomputable abbrev s_p7 (w : World) (os : OsState) : SharedT := ⟨t_p7 w.params, 73, {}, #[], {}, 273, os⟩
noncomputable def b_p7 : List Stmt := (bodyK.drop 3).take 5
theorem g_p7 (w : World) (os : OsState) : segRunT treeTable PySem.Challenge.pw_qz0059_01 w 11 annK 1 317 (s_p2 w os) (piecesOf b_p7 envK cK (⟨5, 0, 8, 30⟩ : Pos) [topFrame ⟨0, 0, 0, 0⟩]) = some (Flow.next, s_p7 w os, cK, (⟨28, 0, 40, 16⟩ : Pos)) := by
  rw [Fast.te10110043849684766642, Fast.te14364793385576792824]
  kernel_rfl
noncomputable def t_p8 : Params → BT := fun P => (((cutT (treeF P) 101 1 0).set 3 fun _ => { cls := Value.type "dict", data := Data.dict #[{ hash := PyData.keyHash P (Str.ofString "__name__"), key := Value.str (Str.ofString "__name__") 165, val := Value.str (Str.ofString "outlinemill.spans") 241 }, { hash := PyData.keyHash P (Str.ofString "__doc__"), key := Value.str (Str.ofString "__doc__") 166, val := Value.none }, { hash := PyData.keyHash P (Str.ofString "__package__"), key := Value.str (Str.ofString "__package__") 167, val := Value.none }, { hash := PyData.keyHash P (Str.ofString "__loader__"), key := Value.str (Str.ofString "__loader__") 168, val := Value.builtin "__main__.__loader__#opaque" }, { hash := PyData.keyHash P (Str.ofString "__spec__"), key := Value.str (Str.ofString "__spec__") 169, val := Value.none }, { hash := PyData.keyHash P (Str.ofString "__annotations__"), key := Value.str (Str.ofString "__annotations__") 170, val := Value.ref 6 }, { hash := PyData.keyHash P (Str.ofString "__builtins__"), key := Value.str (Str.ofString "__builtins__") 171, val := Value.ref 4 }, { hash := PyData.keyHash P (Str.ofString "__file__"), key := Value.str (Str.ofString "__file__") 173, val := Value.str (Str.ofString "/claim/cut.py") 172 }, { hash := PyData.keyHash P (Str.ofString "__cached__"), key := Value.str (Str.ofString "__cached__") 174, val := Value.none }, { hash := PyData.keyHash P (Str.ofString "_wall"), key := Value.str (Str.ofString "_wall") 193, val := Value.ref 21 }, { hash := PyData.keyHash P (Str.ofString "MillError"), key := Value.str (Str.ofString "MillError") 224, val := Value.ref 38 }, { hash := PyData.keyHash P (Str.ofString "SizeFault"), key := Value.str (Str.ofString "SizeFault") 240, val := Value.ref 51 }, { hash := PyData.keyHash P (Str.ofString "normal"), key := Value.str (Str.ofString "normal") 248, val := Value.ref 58 }, { hash := PyData.keyHash P (Str.ofString "borders"), key := Value.str (Str.ofString "borders") 258, val := Value.ref 65 }, { hash := PyData.keyHash P (Str.ofString "merged_borders"), key := Value.str (Str.ofString "merged_borders") 272, val := Value.ref 72 }, { hash := PyData.keyHash P (Str.ofString "Walk"), key := Value.str (Str.ofString "Walk") 310, val := Value.ref 96 }] 16 }).set 12 fun _ => { cls := Value.none, data := Data.fields #[Value.int 1 0, Value.int 0 0, Value.ref 20, Value.int 5 0, Value.int 0 0, Value.ref 27, Value.int 9 0, Value.int 0 0, Value.ref 47, Value.int 12 0, Value.int 0 0, Value.ref 57, Value.int 22 0, Value.int 0 0, Value.ref 64, Value.int 28 0, Value.int 0 0, Value.ref 71, Value.int 41 0, Value.int 0 0, Value.ref 78] })
noncomputable abbrev s_p8 (w : World) (os : OsState) : SharedT := ⟨t_p8 w.params, 101, {}, #[], {}, 311, os⟩
noncomputable def b_p8 : List Stmt := (bodyK.drop 8).take 1
theorem g_p8 (w : World) (os : OsState) : segRunT treeTable PySem.Challenge.pw_qz0059_01 w 11 annK 1 256 (s_p7 w os) (piecesOf b_p8 envK cK (⟨28, 0, 40, 16⟩ : Pos) [topFrame ⟨0, 0, 0, 0⟩]) = some (Flow.next, s_p8 w os, cK, (⟨41, 0, 50, 76⟩ : Pos)) := by
  rw [Fast.te10110043849684766642, Fast.te14364793385576792824]
  kernel_rfl
noncomputable def t_p16 : Params → BT := fun P => (((cutT (treeF P) 143 1 0).set 3 fun _ => { cls := Value.type "dict", data := Data.dict #[{ hash := PyData.keyHash P (Str.ofString "__name__"), key := Value.str (Str.ofString "__name__") 165, val := Value.str (Str.ofString "outlinemill.regions") 374 }, { hash := PyData.keyHash P (Str.ofString "__doc__"), key := Value.str (Str.ofString "__doc__") 166, val := Value.none }, { hash := PyData.keyHash P (Str.ofString "__package__"), key := Value.str (Str.ofString "__package__") 167, val := Value.none }, { hash := PyData.keyHash P (Str.ofString "__loader__"), key := Value.str (Str.ofString "__loader__") 168, val := Value.builtin "__main__.__loader__#opaque" }, { hash := PyData.keyHash P (Str.ofString "__spec__"), key := Value.str (Str.ofString "__spec__") 169, val := Value.none }, { hash := PyData.keyHash P (Str.ofString "__annotations__"), key := Value.str (Str.ofString "__annotations__") 170, val := Value.ref 6 }, { hash := PyData.keyHash P (Str.ofString "__builtins__"), key := Value.str (Str.ofString "__builtins__") 171, val := Value.ref 4 }, { hash := PyData.keyHash P (Str.ofString "__file__"), key := Value.str (Str.ofString "__file__") 173, val := Value.str (Str.ofString "/claim/cut.py") 172 }, { hash := PyData.keyHash P (Str.ofString "__cached__"), key := Value.str (Str.ofString "__cached__") 174, val := Value.none }, { hash := PyData.keyHash P (Str.ofString "_wall"), key := Value.str (Str.ofString "_wall") 193, val := Value.ref 21 }, { hash := PyData.keyHash P (Str.ofString "MillError"), key := Value.str (Str.ofString "MillError") 224, val := Value.ref 38 }, { hash := PyData.keyHash P (Str.ofString "SizeFault"), key := Value.str (Str.ofString "SizeFault") 240, val := Value.ref 51 }, { hash := PyData.keyHash P (Str.ofString "normal"), key := Value.str (Str.ofString "normal") 248, val := Value.ref 58 }, { hash := PyData.keyHash P (Str.ofString "borders"), key := Value.str (Str.ofString "borders") 258, val := Value.ref 65 }, { hash := PyData.keyHash P (Str.ofString "merged_borders"), key := Value.str (Str.ofString "merged_borders") 272, val := Value.ref 72 }, { hash := PyData.keyHash P (Str.ofString "Walk"), key := Value.str (Str.ofString "Walk") 310, val := Value.ref 96 }, { hash := PyData.keyHash P (Str.ofString "put_together"), key := Value.str (Str.ofString "put_together") 326, val := Value.ref 107 }, { hash := PyData.keyHash P (Str.ofString "union"), key := Value.str (Str.ofString "union") 334, val := Value.ref 114 }, { hash := PyData.keyHash P (Str.ofString "common"), key := Value.str (Str.ofString "common") 342, val := Value.ref 121 }, { hash := PyData.keyHash P (Str.ofString "cut_to"), key := Value.str (Str.ofString "cut_to") 351, val := Value.ref 128 }, { hash := PyData.keyHash P (Str.ofString "length"), key := Value.str (Str.ofString "length") 361, val := Value.ref 135 }, { hash := PyData.keyHash P (Str.ofString "holds"), key := Value.str (Str.ofString "holds") 372, val := Value.ref 142 }, { hash := PyData.keyHash P (Str.ofString "holds_spans"), key := Value.str (Str.ofString "holds_spans") 373, val := Value.ref 142 }] 23 }).set 12 fun _ => { cls := Value.none, data := Data.fields #[Value.int 1 0, Value.int 0 0, Value.ref 20, Value.int 5 0, Value.int 0 0, Value.ref 27, Value.int 9 0, Value.int 0 0, Value.ref 47, Value.int 12 0, Value.int 0 0, Value.ref 57, Value.int 22 0, Value.int 0 0, Value.ref 64, Value.int 28 0, Value.int 0 0, Value.ref 71, Value.int 41 0, Value.int 0 0, Value.ref 78, Value.int 51 0, Value.int 0 0, Value.ref 106, Value.int 63 0, Value.int 0 0, Value.ref 113, Value.int 65 0, Value.int 0 0, Value.ref 120, Value.int 67 0, Value.int 0 0, Value.ref 127, Value.int 69 0, Value.int 0 0, Value.ref 134, Value.int 74 0, Value.int 0 0, Value.ref 141] })
noncomputable abbrev s_p16 (w : World) (os : OsState) : SharedT := ⟨t_p16 w.params, 143, {}, #[], {}, 376, os⟩
noncomputable def b_p16 : List Stmt := (bodyK.drop 9).take 8
theorem g_p16 (w : World) (os : OsState) : segRunT treeTable PySem.Challenge.pw_qz0059_01 w 11 annK 1 214 (s_p8 w os) (piecesOf b_p16 envK cK (⟨41, 0, 50, 76⟩ : Pos) [topFrame ⟨0, 0, 0, 0⟩]) = some (Flow.next, s_p16 w os, cK, (⟨84, 0, 84, 8⟩ : Pos)) := by
  rw [Fast.te10110043849684766642, Fast.te14364793385576792824]
  kernel_rfl
noncomputable def t_p17 : Params → BT := fun P => (((cutT (treeF P) 209 1 0).set 3 fun _ => { cls := Value.type "dict", data := Data.dict #[{ hash := PyData.keyHash P (Str.ofString "__name__"), key := Value.str (Str.ofString "__name__") 165, val := Value.str (Str.ofString "outlinemill.regions") 374 }, { hash := PyData.keyHash P (Str.ofString "__doc__"), key := Value.str (Str.ofString "__doc__") 166, val := Value.none }, { hash := PyData.keyHash P (Str.ofString "__package__"), key := Value.str (Str.ofString "__package__") 167, val := Value.none }, { hash := PyData.keyHash P (Str.ofString "__loader__"), key := Value.str (Str.ofString "__loader__") 168, val := Value.builtin "__main__.__loader__#opaque" }, { hash := PyData.keyHash P (Str.ofString "__spec__"), key := Value.str (Str.ofString "__spec__") 169, val := Value.none }, { hash := PyData.keyHash P (Str.ofString "__annotations__"), key := Value.str (Str.ofString "__annotations__") 170, val := Value.ref 6 }, { hash := PyData.keyHash P (Str.ofString "__builtins__"), key := Value.str (Str.ofString "__builtins__") 171, val := Value.ref 4 }, { hash := PyData.keyHash P (Str.ofString "__file__"), key := Value.str (Str.ofString "__file__") 173, val := Value.str (Str.ofString "/claim/cut.py") 172 }, { hash := PyData.keyHash P (Str.ofString "__cached__"), key := Value.str (Str.ofString "__cached__") 174, val := Value.none }, { hash := PyData.keyHash P (Str.ofString "_wall"), key := Value.str (Str.ofString "_wall") 193, val := Value.ref 21 }, { hash := PyData.keyHash P (Str.ofString "MillError"), key := Value.str (Str.ofString "MillError") 224, val := Value.ref 38 }, { hash := PyData.keyHash P (Str.ofString "SizeFault"), key := Value.str (Str.ofString "SizeFault") 240, val := Value.ref 51 }, { hash := PyData.keyHash P (Str.ofString "normal"), key := Value.str (Str.ofString "normal") 248, val := Value.ref 58 }, { hash := PyData.keyHash P (Str.ofString "borders"), key := Value.str (Str.ofString "borders") 258, val := Value.ref 65 }, { hash := PyData.keyHash P (Str.ofString "merged_borders"), key := Value.str (Str.ofString "merged_borders") 272, val := Value.ref 72 }, { hash := PyData.keyHash P (Str.ofString "Walk"), key := Value.str (Str.ofString "Walk") 310, val := Value.ref 96 }, { hash := PyData.keyHash P (Str.ofString "put_together"), key := Value.str (Str.ofString "put_together") 326, val := Value.ref 107 }, { hash := PyData.keyHash P (Str.ofString "union"), key := Value.str (Str.ofString "union") 334, val := Value.ref 114 }, { hash := PyData.keyHash P (Str.ofString "common"), key := Value.str (Str.ofString "common") 342, val := Value.ref 121 }, { hash := PyData.keyHash P (Str.ofString "cut_to"), key := Value.str (Str.ofString "cut_to") 351, val := Value.ref 128 }, { hash := PyData.keyHash P (Str.ofString "length"), key := Value.str (Str.ofString "length") 361, val := Value.ref 135 }, { hash := PyData.keyHash P (Str.ofString "holds"), key := Value.str (Str.ofString "holds") 372, val := Value.ref 142 }, { hash := PyData.keyHash P (Str.ofString "holds_spans"), key := Value.str (Str.ofString "holds_spans") 373, val := Value.ref 142 }, { hash := PyData.keyHash P (Str.ofString "Region"), key := Value.str (Str.ofString "Region") 454, val := Value.ref 204 }] 24 }).set 12 fun _ => { cls := Value.none, data := Data.fields #[Value.int 1 0, Value.int 0 0, Value.ref 20, Value.int 5 0, Value.int 0 0, Value.ref 27, Value.int 9 0, Value.int 0 0, Value.ref 47, Value.int 12 0, Value.int 0 0, Value.ref 57, Value.int 22 0, Value.int 0 0, Value.ref 64, Value.int 28 0, Value.int 0 0, Value.ref 71, Value.int 41 0, Value.int 0 0, Value.ref 78, Value.int 51 0, Value.int 0 0, Value.ref 106, Value.int 63 0, Value.int 0 0, Value.ref 113, Value.int 65 0, Value.int 0 0, Value.ref 120, Value.int 67 0, Value.int 0 0, Value.ref 127, Value.int 69 0, Value.int 0 0, Value.ref 134, Value.int 74 0, Value.int 0 0, Value.ref 141, Value.int 85 0, Value.int 0 0, Value.ref 148] })
noncomputable abbrev s_p17 (w : World) (os : OsState) : SharedT := ⟨t_p17 w.params, 209, {}, #[], {}, 455, os⟩
noncomputable def b_p17 : List Stmt := (bodyK.drop 17).take 1
theorem g_p17 (w : World) (os : OsState) : segRunT treeTable PySem.Challenge.pw_qz0059_01 w 11 annK 1 437 (s_p16 w os) (piecesOf b_p17 envK cK (⟨84, 0, 84, 8⟩ : Pos) [topFrame ⟨0, 0, 0, 0⟩]) = some (Flow.next, s_p17 w os, cK, (⟨85, 0, 112, 38⟩ : Pos)) := by
  rw [Fast.te10110043849684766642, Fast.te14364793385576792824]
  kernel_rfl
noncomputable def t_p25 : Params → BT := fun P => (((cutT (treeF P) 254 1 0).set 3 fun _ => { cls := Value.type "dict", data := Data.dict #[{ hash := PyData.keyHash P (Str.ofString "__name__"), key := Value.str (Str.ofString "__name__") 165, val := Value.str (Str.ofString "law_qz0059_01") 499 }, { hash := PyData.keyHash P (Str.ofString "__doc__"), key := Value.str (Str.ofString "__doc__") 166, val := Value.none }, { hash := PyData.keyHash P (Str.ofString "__package__"), key := Value.str (Str.ofString "__package__") 167, val := Value.none }, { hash := PyData.keyHash P (Str.ofString "__loader__"), key := Value.str (Str.ofString "__loader__") 168, val := Value.builtin "__main__.__loader__#opaque" }, { hash := PyData.keyHash P (Str.ofString "__spec__"), key := Value.str (Str.ofString "__spec__") 169, val := Value.none }, { hash := PyData.keyHash P (Str.ofString "__annotations__"), key := Value.str (Str.ofString "__annotations__") 170, val := Value.ref 6 }, { hash := PyData.keyHash P (Str.ofString "__builtins__"), key := Value.str (Str.ofString "__builtins__") 171, val := Value.ref 4 }, { hash := PyData.keyHash P (Str.ofString "__file__"), key := Value.str (Str.ofString "__file__") 173, val := Value.str (Str.ofString "/claim/cut.py") 172 }, { hash := PyData.keyHash P (Str.ofString "__cached__"), key := Value.str (Str.ofString "__cached__") 174, val := Value.none }, { hash := PyData.keyHash P (Str.ofString "_wall"), key := Value.str (Str.ofString "_wall") 193, val := Value.ref 21 }, { hash := PyData.keyHash P (Str.ofString "MillError"), key := Value.str (Str.ofString "MillError") 224, val := Value.ref 38 }, { hash := PyData.keyHash P (Str.ofString "SizeFault"), key := Value.str (Str.ofString "SizeFault") 240, val := Value.ref 51 }, { hash := PyData.keyHash P (Str.ofString "normal"), key := Value.str (Str.ofString "normal") 248, val := Value.ref 58 }, { hash := PyData.keyHash P (Str.ofString "borders"), key := Value.str (Str.ofString "borders") 258, val := Value.ref 65 }, { hash := PyData.keyHash P (Str.ofString "merged_borders"), key := Value.str (Str.ofString "merged_borders") 272, val := Value.ref 72 }, { hash := PyData.keyHash P (Str.ofString "Walk"), key := Value.str (Str.ofString "Walk") 310, val := Value.ref 96 }, { hash := PyData.keyHash P (Str.ofString "put_together"), key := Value.str (Str.ofString "put_together") 326, val := Value.ref 107 }, { hash := PyData.keyHash P (Str.ofString "union"), key := Value.str (Str.ofString "union") 334, val := Value.ref 114 }, { hash := PyData.keyHash P (Str.ofString "common"), key := Value.str (Str.ofString "common") 342, val := Value.ref 121 }, { hash := PyData.keyHash P (Str.ofString "cut_to"), key := Value.str (Str.ofString "cut_to") 351, val := Value.ref 128 }, { hash := PyData.keyHash P (Str.ofString "length"), key := Value.str (Str.ofString "length") 361, val := Value.ref 135 }, { hash := PyData.keyHash P (Str.ofString "holds"), key := Value.str (Str.ofString "holds") 372, val := Value.ref 142 }, { hash := PyData.keyHash P (Str.ofString "holds_spans"), key := Value.str (Str.ofString "holds_spans") 373, val := Value.ref 142 }, { hash := PyData.keyHash P (Str.ofString "Region"), key := Value.str (Str.ofString "Region") 454, val := Value.ref 204 }, { hash := PyData.keyHash P (Str.ofString "of_rectangle"), key := Value.str (Str.ofString "of_rectangle") 460, val := Value.ref 213 }, { hash := PyData.keyHash P (Str.ofString "of_rectangles"), key := Value.str (Str.ofString "of_rectangles") 466, val := Value.ref 218 }, { hash := PyData.keyHash P (Str.ofString "by_rows"), key := Value.str (Str.ofString "by_rows") 477, val := Value.ref 225 }, { hash := PyData.keyHash P (Str.ofString "region_union"), key := Value.str (Str.ofString "region_union") 485, val := Value.ref 232 }, { hash := PyData.keyHash P (Str.ofString "region_cut"), key := Value.str (Str.ofString "region_cut") 498, val := Value.ref 239 }, { hash := PyData.keyHash P (Str.ofString "_law_pool"), key := Value.str (Str.ofString "_law_pool") 511, val := Value.ref 246 }, { hash := PyData.keyHash P (Str.ofString "_law_take"), key := Value.str (Str.ofString "_law_take") 520, val := Value.ref 253 }] 31 }).set 12 fun _ => { cls := Value.none, data := Data.fields #[Value.int 1 0, Value.int 0 0, Value.ref 20, Value.int 5 0, Value.int 0 0, Value.ref 27, Value.int 9 0, Value.int 0 0, Value.ref 47, Value.int 12 0, Value.int 0 0, Value.ref 57, Value.int 22 0, Value.int 0 0, Value.ref 64, Value.int 28 0, Value.int 0 0, Value.ref 71, Value.int 41 0, Value.int 0 0, Value.ref 78, Value.int 51 0, Value.int 0 0, Value.ref 106, Value.int 63 0, Value.int 0 0, Value.ref 113, Value.int 65 0, Value.int 0 0, Value.ref 120, Value.int 67 0, Value.int 0 0, Value.ref 127, Value.int 69 0, Value.int 0 0, Value.ref 134, Value.int 74 0, Value.int 0 0, Value.ref 141, Value.int 85 0, Value.int 0 0, Value.ref 148, Value.int 113 0, Value.int 0 0, Value.ref 212, Value.int 119 0, Value.int 0 0, Value.ref 217, Value.int 127 0, Value.int 0 0, Value.ref 224, Value.int 133 0, Value.int 0 0, Value.ref 231, Value.int 135 0, Value.int 0 0, Value.ref 238, Value.int 144 0, Value.int 0 0, Value.ref 245, Value.int 149 0, Value.int 0 0, Value.ref 252] })
noncomputable abbrev s_p25 (w : World) (os : OsState) : SharedT := ⟨t_p25 w.params, 254, {}, #[], {}, 521, os⟩
noncomputable def b_p25 : List Stmt := (bodyK.drop 18).take 8
theorem g_p25 (w : World) (os : OsState) : segRunT treeTable PySem.Challenge.pw_qz0059_01 w 11 annK 1 224 (s_p17 w os) (piecesOf b_p25 envK cK (⟨85, 0, 112, 38⟩ : Pos) [topFrame ⟨0, 0, 0, 0⟩]) = some (Flow.next, s_p25 w os, cK, (⟨149, 0, 155, 57⟩ : Pos)) := by
  rw [Fast.te10110043849684766642, Fast.te14364793385576792824]
  kernel_rfl
noncomputable def t_p33 : Params → BT := fun P => treeF P
noncomputable abbrev s_p33 (w : World) (os : OsState) : SharedT := ⟨t_p33 w.params, 306, {}, #[], {}, 580, os⟩
noncomputable def b_p33 : List Stmt := (bodyK.drop 26).take 8
theorem g_p33 (w : World) (os : OsState) : segRunT treeTable PySem.Challenge.pw_qz0059_01 w 11 annK 1 232 (s_p25 w os) (piecesOf b_p33 envK cK (⟨149, 0, 155, 57⟩ : Pos) [topFrame ⟨0, 0, 0, 0⟩]) = some (Flow.next, s_p33 w os, cK, (⟨180, 0, 207, 113⟩ : Pos)) := by
  rw [Fast.te10110043849684766642, Fast.te14364793385576792824]
  kernel_rfl
theorem g_fin (w : World) (os : OsState) : topRun treeTable PySem.Challenge.pw_qz0059_01 w 11 annK 2 (s_p33 w os).abs ⟨doneF .next, cK, (⟨180, 0, 207, 113⟩ : Pos), [topFrame ⟨0, 0, 0, 0⟩]⟩ = some (endF w os) := by
  rw [Fast.te14082659384304107361]
  kernel_rfl
theorem body_parts : (b_p2 ++ (b_p7 ++ (b_p8 ++ (b_p16 ++ (b_p17 ++ (b_p25 ++ (b_p33 ++ []))))))) = bodyK := by kernel_rfl
theorem run_all (w : World) (os : OsState) : topRun treeTable PySem.Challenge.pw_qz0059_01 w 11 annK (12 + (1 + (267 + (317 + (256 + (214 + (437 + (224 + (232 + 2))))))))) ⟨boot_heap w.params, #[], boot_drawn, boot_toks, os⟩ (topStub PySem.Challenge.pw_qz0059_01) = some (endF w os) := by
  have k := piece_app (segRun_of (g_p2 w os)) (piece_app (segRun_of (g_p7 w os)) (piece_app (segRun_of (g_p8 w os)) (piece_app (segRun_of (g_p16 w os)) (piece_app (segRun_of (g_p17 w os)) (piece_app (segRun_of (g_p25 w os)) (piece_app (segRun_of (g_p33 w os)) (piece_nil (g_fin w os))))))))
  rw [body_parts] at k
  exact go_top (g_pre w os) (piece_block (segRun_of (g_block w os)) k)
theorem l_1 (w : World) (os : OsState) : (staticsOk (importedModules PySem.Challenge.pw_qz0059_01.main.body) (boot_heap w.params) (heapF w.params) && namesBound PySem.Challenge.pw_qz0059_01 (heapF w.params) && gensDone (endF w os) && laidKept (boot_heap w.params) (heapF w.params)) = true := by
  unfold staticsOk namesBound laidKept
  rw [Fast.te5923862056798008813, Fast.te8920871248978507458]
  kernel_rfl
theorem l_2 (w : World) (os : OsState) : Hook.obs HK (endF w os) = Hook.val HK w := by
  kernel_rfl
theorem k_1 (w : World) (os : OsState) : seen ((recsOf viewP).map (·.name)) (ownsOf viewP) [] { (endF w os) with gens := #[] } = expectedOf viewP := by
  rw [Fast.te5160383126252970620, Fast.te3399658132070893891, Fast.te5991557255702980513]
  kernel_rfl
theorem k_2 (w : World) (os : OsState) : (endF w os).heap.bltView = bltViewBooted := by
  kernel_rfl
theorem k_3 (w : World) (os : OsState) : (endF w os).heap.keysOk (looseW viewP [Str.ofString "holds_spans"]) ((recsOf viewP).map (·.name)) ((litsOf viewP).map (·.1)) ((clssOf viewP (looseW viewP [Str.ofString "holds_spans"])).map (·.name)) = true := by
  rw [Fast.te10880121769531294198, Fast.te3399658132070893891, Fast.te7409074990110511671, Fast.te13664370479719496447, Fast.te821141287760084731]
  kernel_rfl
theorem k_4 (w : World) (os : OsState) : (endF w os).heap.accountedOkI (importedModules PySem.Challenge.pw_qz0059_01.main.body) = true := by
  rw [Fast.te14722251495701143533, Fast.te5923862056798008813]
  kernel_rfl
theorem k_5 (w : World) (os : OsState) : ((endF w os).heap.isNs mainGlobals && (endF w os).heap.isNs builtinsNs) = true := by
  kernel_rfl
theorem k_6 (w : World) (os : OsState) : tablesOk viewP (endF w os).heap = true := by
  rw [Fast.te10994771534591457954]
  kernel_rfl
theorem k_7 (w : World) (os : OsState) : (fun s => xlAt viewP [] s && recOk (RowW.records PySem.Challenge.rw_qz0059_01.row.toRowW) s) (endF w os) = true := by
  kernel_rfl
theorem k_8 (w : World) (os : OsState) : tabsOk viewP (endF w os) = true := by
  rw [Fast.te479339242167458305]
  kernel_rfl
theorem k_9 (w : World) (os : OsState) : pinSeenD viewP (drecsOf viewP) (endF w os) = pinGoodD (drecsOf viewP) := by
  rw [Fast.te16090120013241838585, Fast.te3247288618530077131]
  kernel_rfl
theorem k_10 (w : World) (os : OsState) : plainSeenE viewP (looseW viewP [Str.ofString "holds_spans"]) (endF w os) = plainGoodE viewP (looseW viewP [Str.ofString "holds_spans"]) := by
  rw [Fast.te2386780881361962483, Fast.te821141287760084731]
  kernel_rfl
theorem k_11 (w : World) (os : OsState) : plainSeenD viewP [Str.ofString "holds_spans"] (endF w os) = plainGoodD viewP [Str.ofString "holds_spans"] := by
  rw [Fast.te11698064438423848299]
  kernel_rfl
theorem k_12 (w : World) (os : OsState) : wideSeen viewP (endF w os) = wideGood viewP := by
  rw [Fast.te7317090234206586261]
  kernel_rfl
theorem k_13 (w : World) (os : OsState) : clsSeenW viewP [Str.ofString "holds_spans"] (endF w os) = clsGoodW viewP [Str.ofString "holds_spans"] := by
  rw [Fast.te7369524293546568484]
  kernel_rfl
theorem and_all {a b c d e f g : Bool} (h1 : a = true) (h2 : b = true) (h3 : (c && d) = true) (h5 : e = true) (h6 : f = true) (h7 : g = true) : (a && b && c && d && e && f && g) = true := by
  obtain ⟨h3, h4⟩ := Bool.and_eq_true_iff.mp h3
  subst h1 h2 h3 h4 h5 h6 h7
  rfl
theorem l_3 (w : World) (os : OsState) : openSeen viewP [Str.ofString "holds_spans"] (importedModules PySem.Challenge.pw_qz0059_01.main.body) (fun s => xlAt viewP [] s && recOk (RowW.records PySem.Challenge.rw_qz0059_01.row.toRowW) s) true (endF w os) = openGood viewP [Str.ofString "holds_spans"] := by
  unfold openSeen openGood
  exact looks_pair (k_1 w os) (looks_pair (k_2 w os) (looks_pair (and_all (k_3 w os) (k_4 w os) (k_5 w os) (k_6 w os) (k_7 w os) rfl)
    (looks_pair (k_8 w os) (looks_pair (k_9 w os) (looks_pair (k_10 w os) (looks_pair (k_11 w os) (looks_pair (k_12 w os) (k_13 w os))))))))
theorem opens : ∀ w : World, (fencedOpening treeTable PySem.Challenge.pw_qz0059_01 w 4006).map (fun s => (s.heap, s.gens, s.drawn, s.toks)) = some (boot_heap w.params, #[], boot_drawn, boot_toks) :=
  boot_open (by kernel_rfl) (by kernel_rfl) (fun s => by kernel_rfl)
theorem size (w : World) : ((boot_heap w.params).isNs mainGlobals && (#[] : Array GenState).size == 0, (boot_heap w.params).objs.size, (boot_heap w.params).nsMap mainGlobals "__annotations__") = (true, 11, annK) := by
  rw [Fast.te8920871248978507458]
  kernel_rfl
noncomputable abbrev lK : OpenLaw := PySem.Challenge.rw_qz0059_01
theorem w_1 : (sreFenced lK.row.prog.main && ((moduleNames lK.row.prog.main.body).isEmpty || lookedIntoSs (moduleNames lK.row.prog.main.body) lK.row.prog.main.body)) = true := by
  rw [Fast.te11788848310118352699, Fast.te12862048085361865435]
  kernel_rfl
theorem w_2 : namesResolve lK.row.prog = true := by
  rw [Fast.te8377067652309620493]
  kernel_rfl
theorem w_3 : (lK.row.prog.boundNames.all fun n => !worldNames.contains n) = true := by
  rw [Fast.te18344453789297297638]
  kernel_rfl
theorem r_vars : readsOut lK.row.prog lK.row.prog.main.body "vars" = false := by
  unfold readsOut
  rw [Fast.te17119622794617984870]
  kernel_rfl
theorem r_dir : readsOut lK.row.prog lK.row.prog.main.body "dir" = false := by
  unfold readsOut
  rw [Fast.te17119622794617984870]
  kernel_rfl
theorem r_locals : readsOut lK.row.prog lK.row.prog.main.body "locals" = false := by
  unfold readsOut
  rw [Fast.te17119622794617984870]
  kernel_rfl
theorem none_of {p : Str → Bool} {a b c : Str} (ha : p a = false) (hb : p b = false) (hc : p c = false) : [a, b, c].filter p = [] := by
  simp only [List.filter, ha, hb, hc]
theorem r_all : (["vars", "dir", "locals"] : List Str).filter (readsOut lK.row.prog lK.row.prog.main.body) = [] := by
  exact none_of r_vars r_dir r_locals
theorem r_imp : (!(importedModules lK.row.prog.main.body).all cThrough.contains) = false := by
  rw [Fast.te5923862056798008813]
  kernel_rfl
theorem r_road : noRoadLSs { strict := false, foot := none, bare := [] } lK.row.prog.main.body = true := by
  rw [Fast.te8326940854005059898]
  kernel_rfl
theorem w_4 : noRoadLSs { strict := !(importedModules lK.row.prog.main.body).all cThrough.contains, foot := none, bare := (["vars", "dir", "locals"] : List Str).filter (readsOut lK.row.prog lK.row.prog.main.body) } lK.row.prog.main.body = true := by
  rw [r_all, r_imp]
  exact r_road
theorem w_5 : namesMeet lK.row.prog lK.row.prog.main.body (fun _ n => attrL n) = true := by
  rw [Fast.te17119622794617984870]
  kernel_rfl
theorem w_6 : looksOpen lK.row.prog = true := by
  unfold looksOpen
  exact look_both (look_both (look_both (look_both w_1 w_2) w_3) w_4) w_5
theorem w_7 : lK.row.wellSaid = true := by
  unfold OpenRow.wellSaid OpenRow.partSaid
  repeat' with_reducible refine look_both ?_ ?_
  · exact w_6
  all_goals kernel_rfl
theorem w_8 : lK.footing.all footLine = true := by
  rw [Fast.te10501279942588096481]
  kernel_rfl
theorem w_9 : noClassBlock lK.prog lK.footing = true := by
  rw [Fast.te8179353310426384613]
  kernel_rfl
theorem w_10 : noRoadLSs { strict := true, foot := some lK.bound', writes := lK.writes, may := lK.may } lK.footing = true := by
  rw [Fast.te8326940854005059898]
  kernel_rfl
theorem w_11 : defStands lK.about lK.above = true := by
  rw [Fast.te9558739934217749035]
  kernel_rfl
theorem w_12 : lK.namesIt = true := by
  rw [Fast.te16286561074155671207]
  kernel_rfl
theorem w_13 : namesMeet lK.prog lK.footing (fun sc n => (!(["type", "isinstance", "issubclass", "getattr", "hasattr"] : List Str).contains n || sc.names.lookup n == some .globalImplicit) &&
    (lK.may != some n || sc.kind == .module || sc.names.lookup n == some .globalImplicit)) = true := by
  rw [Fast.te17119622794617984870]
  kernel_rfl
theorem w_14 : namesMeet lK.prog lK.above (fun _ n => !lK.own.contains n) = true := by
  rw [Fast.te17119622794617984870, Fast.te10792542408131684335]
  kernel_rfl
theorem w_15 : namesMeet lK.prog lK.footing (fun sc n => sc.kind == .module || sc.names.lookup n != some .globalExplicit) = true := by
  rw [Fast.te17119622794617984870]
  kernel_rfl
end Top
theorem left : LeftO PySem.Challenge.pw_qz0059_01 viewP [Str.ofString "holds_spans"] (fun s => xlAt viewP [] s && recOk (RowW.records PySem.Challenge.rw_qz0059_01.row.toRowW) s) (Hook.obs HK) (Hook.val HK) 4006 :=
  LeftO.of_pieces (H₁ := Top.heapF) Top.opens Top.size Top.run_all (by rfl) fun w => funext fun os => looks_pair (Top.l_1 w os) (looks_pair (Top.l_3 w os) (Top.l_2 w os))
theorem said : PySem.Challenge.rw_qz0059_01.wellSaid = true := by
  unfold OpenLaw.wellSaid
  repeat' with_reducible refine look_both ?_ ?_
  · exact Top.w_7
  · kernel_rfl
  · exact Top.w_8
  · exact Top.w_9
  · kernel_rfl
  · kernel_rfl
  · exact Top.w_10
  · exact Top.w_11
  · exact Top.w_12
  · kernel_rfl
  · kernel_rfl
  · kernel_rfl
  · kernel_rfl
  · exact Top.w_13
  · kernel_rfl
  · kernel_rfl
  · rw [Fast.named_eq]; kernel_rfl
  · exact Top.w_14
  · exact Top.w_15
theorem promised : PySem.Challenge.rw_qz0059_01.row.toRowW.promised := by w_witness2
/-- the head: what a walk of the law shows -/
theorem hd (walk : WalkO viewP [Str.ofString "holds_spans"] (XL viewP []) HK.says PySem.Challenge.rw_qz0059_01.row.toRowW lawD [] fun f vs => PySem.call f vs) : PySem.Challenge.rw_qz0059_01.Holds :=
  holds_law said fun sd => PySem.W.holds_open (q := viewP) (loose := [Str.ofString "holds_spans"]) (Xt := fun s => xlAt viewP [] s && recOk (RowW.records PySem.Challenge.rw_qz0059_01.row.toRowW) s) (XP := XL viewP []) (Yf := Hook.obs HK) (Ya := Hook.val HK) (YP := Hook.says HK) (N := 4006)
    left (Hook.of HK) (Hook.keeps HK) (fun s e => xl_of s (Bool.and_eq_true_iff.mp e).1) XL.keeps (by rfl) (by rfl) (by rfl) (fun s e => recFacts_of (Bool.and_eq_true_iff.mp e).2) (by rfl) sd (by decide +kernel) ⟨rfl, rfl, rfl, rfl, rfl, by decide +kernel⟩ promised walk
end Mine
namespace Mine
open PySem PySem.W PyProof.Rows PySem.Calls

structure Xd where
  w : World
  p : Program
  loose : List Str
  mean : ExcName → Option Value
  mg : Str → Option Value
  mb : Str → Option Value
  B : Heap
noncomputable abbrev lamQ (x : String) : Str := (Str.ofString x ++ (".<locals>." : Str)) ++ ("<lambda>" : Str)
noncomputable def TW (X : Xd) : Wd :=
  { prog := PySem.Challenge.pw_qz0059_01, w := X.w, K := heapK X.w.params, p := X.p, loose := X.loose, mean := X.mean, mg := X.mg, mb := X.mb, B := X.B,
    tabs := [(295, 299, [(⟨177, 21, 177, 59⟩, lamQ "_law_fixed_right"), (⟨179, 21, 179, 73⟩, lamQ "_law_fixed_right")]), (116, 120, [(⟨66, 36, 66, 78⟩, lamQ "common")]), (109, 113, [(⟨64, 36, 64, 77⟩, lamQ "union")]),
      (302, 304, [(⟨186, 22, 186, 74⟩, lamQ "law"), (⟨188, 23, 188, 50⟩, lamQ "law"), (⟨204, 21, 204, 79⟩, lamQ "law")])] }
noncomputable abbrev XOk (X : Xd) : Prop := Base (TW X) (TW X).B

/-- a pair of ints -/
noncomputable def IsPair (z : Heap) (v : Value) (p : Span) : Prop := ∃ a t u, v = .ref a ∧ IsTup z a [Value.int p.1 t, Value.int p.2 u].toArray
theorem IsPair.mono {z z' : Heap} {v : Value} {p : Span} (h : IsPair z v p) (hz : z.StaysIn z') : IsPair z' v p := let ⟨a, t, u, e, q⟩ := h; ⟨a, t, u, e, IsTup.keeps q hz⟩
inductive All2 {α β : Type} (R : α → β → Prop) : List α → List β → Prop
  | nil : All2 R [] []
  | cons {a b as bs} : R a b → All2 R as bs → All2 R (a :: as) (b :: bs)
section
variable {α β : Type} {R R' : α → β → Prop} {as : List α} {bs : List β}
theorem All2.length (h : All2 R as bs) : as.length = bs.length := by
  induction h with
  | nil => rfl
  | cons _ _ ih => simp [ih]
theorem All2.get (h : All2 R as bs) : ∀ {i : Nat} {a : α}, as[i]? = some a → ∃ b, bs[i]? = some b ∧ R a b := by
  induction h with
  | nil => intro i a e; simp at e
  | cons r _ ih =>
    intro i a e
    cases i with
    | zero => simp at e; subst e; exact ⟨_, rfl, r⟩
    | succ i => simp at e; simpa using ih e
theorem All2.get' (h : All2 R as bs) : ∀ {i : Nat} {b : β}, bs[i]? = some b → ∃ a, as[i]? = some a ∧ R a b := by
  induction h with
  | nil => intro i a e; simp at e
  | cons r _ ih =>
    intro i a e
    cases i with
    | zero => simp at e; subst e; exact ⟨_, rfl, r⟩
    | succ i => simp at e; simpa using ih e
theorem All2.mono (h : All2 R as bs) (f : ∀ a b, R a b → R' a b) : All2 R' as bs := by
  induction h with
  | nil => exact .nil
  | cons r _ ih => exact .cons (f _ _ r) ih
theorem All2.snoc {a : α} {b : β} (h : All2 R as bs) (r : R a b) : All2 R (as ++ [a]) (bs ++ [b]) := by
  induction h with
  | nil => exact .cons r .nil
  | cons q _ ih => exact .cons q ih
theorem All2.append {cs : List α} {ds : List β} (h : All2 R as bs) (r : All2 R cs ds) : All2 R (as ++ cs) (bs ++ ds) := by
  induction h with
  | nil => exact r
  | cons q _ ih => exact .cons q ih
theorem All2.last {a : α} (h : All2 R as bs) (e : as.getLast? = some a) : ∃ b, bs.getLast? = some b ∧ R a b := by
  rw [List.getLast?_eq_getElem?] at e
  obtain ⟨b, hb, r⟩ := h.get e
  exact ⟨b, by rw [List.getLast?_eq_getElem?, ← h.length]; exact hb, r⟩
theorem All2.last' {b : β} (h : All2 R as bs) (e : bs.getLast? = some b) : ∃ a, as.getLast? = some a ∧ R a b := by
  rw [List.getLast?_eq_getElem?] at e
  obtain ⟨a, ha, r⟩ := h.get' e
  exact ⟨a, by rw [List.getLast?_eq_getElem?, h.length]; exact ha, r⟩
theorem All2.dropLast (h : All2 R as bs) : All2 R as.dropLast bs.dropLast := by
  induction h with
  | nil => exact .nil
  | @cons a b as bs r h ih =>
    cases h with
    | nil => exact .nil
    | cons r2 h2 => exact .cons r ih
end
noncomputable abbrev AInt (v : Value) (i : Int) : Prop := ∃ t, v = .int i t
noncomputable abbrev Pairs (z : Heap) (vs : List Value) (sp : List Span) : Prop := All2 (IsPair z) vs sp
theorem Pairs.mono {z z' : Heap} {vs : List Value} {sp : List Span} (h : Pairs z vs sp) (hz : z.StaysIn z') : Pairs z' vs sp := All2.mono h fun _ _ r => r.mono hz
end Mine
namespace Mine
open PySem PySem.W PyProof.Rows PySem.Calls

-- the tree of a sort's questions
noncomputable def evalT {α : Type} (lt : Nat → Nat → Bool) : KasT α → α
  | .ret a => a
  | .ask i j k => evalT lt (k (lt i j))
noncomputable def askIn {α : Type} (n : Nat) : KasT α → Bool
  | .ret _ => true
  | .ask i j k => decide (i < n) && decide (j < n) && askIn n (k true) && askIn n (k false)
noncomputable def okRank (r : List Nat) : Bool :=
  let p := (evalT (fun i j => decide (r.getD i 0 < r.getD j 0)) (kas_sort r.length)).toList
  (List.range r.length).isPerm p && (List.range (r.length - 1)).all (fun i => decide (r.getD (p.getD i 0) 0 ≤ r.getD (p.getD (i+1) 0) 0))
theorem ask2 : askIn 2 (kas_sort 2) = true := by decide +kernel
theorem ask3 : askIn 3 (kas_sort 3) = true := by decide +kernel
theorem ask4 : askIn 4 (kas_sort 4) = true := by decide +kernel
theorem ok2 : ∀ a ∈ List.range 2, ∀ b ∈ List.range 2, okRank [a, b] = true := by decide +kernel
theorem ok3 : ∀ a ∈ List.range 3, ∀ b ∈ List.range 3, ∀ c ∈ List.range 3, okRank [a, b, c] = true := by decide +kernel
theorem ok4 : ∀ a ∈ List.range 4, ∀ b ∈ List.range 4, ∀ c ∈ List.range 4, ∀ d ∈ List.range 4, okRank [a, b, c, d] = true := by decide +kernel
theorem askIn_len {n : Nat} (h2 : 2 ≤ n) (h4 : n ≤ 4) : askIn n (kas_sort n) = true := by
  rcases (by omega : n = 2 ∨ n = 3 ∨ n = 4) with rfl | rfl | rfl
  · exact ask2
  · exact ask3
  · exact ask4
theorem okRank_all {r : List Nat} (h2 : 2 ≤ r.length) (h4 : r.length ≤ 4) (h : ∀ x ∈ r, x < r.length) : okRank r = true := by
  match r, h2, h4, h with
  | [a, b], _, _, h => exact ok2 a (List.mem_range.mpr (h a (by simp))) b (List.mem_range.mpr (h b (by simp)))
  | [a, b, c], _, _, h => exact ok3 a (List.mem_range.mpr (h a (by simp))) b (List.mem_range.mpr (h b (by simp))) c (List.mem_range.mpr (h c (by simp)))
  | [a, b, c, d], _, _, h => exact ok4 a (List.mem_range.mpr (h a (by simp))) b (List.mem_range.mpr (h b (by simp))) c (List.mem_range.mpr (h c (by simp))) d (List.mem_range.mpr (h d (by simp)))
theorem evalT_congr {α : Type} {n : Nat} {f g : Nat → Nat → Bool} (hfg : ∀ i j, i < n → j < n → f i j = g i j) : ∀ t : KasT α, askIn n t = true → evalT f t = evalT g t
  | .ret a, _ => rfl
  | .ask i j k, h => by
    simp only [askIn, Bool.and_eq_true, decide_eq_true_eq] at h
    show evalT f (k (f i j)) = evalT g (k (g i j))
    rw [hfg i j h.1.1.1 h.1.1.2]
    refine evalT_congr hfg _ ?_
    cases g i j
    · exact h.2
    · exact h.1.2

/-- the order of pairs -/
noncomputable def lexlt (p q : Span) : Bool := if p.1 = q.1 then decide (p.2 < q.2) else decide (p.1 < q.1)
noncomputable def rankOf (ps : List Span) (i : Nat) : Nat := ((List.range ps.length).filter fun j => lexlt (ps.getD j (0, 0)) (ps.getD i (0, 0))).length
theorem lexlt_trans {p q r : Span} (h1 : lexlt p q = true) (h2 : lexlt q r = true) : lexlt p r = true := by
  unfold lexlt at *
  split at h1 <;> split at h2 <;> split <;> simp at * <;> omega
theorem lexlt_irr (p : Span) : lexlt p p = false := by simp [lexlt]
theorem lexlt_neg {p q r : Span} (h1 : lexlt p q = true) (h2 : lexlt r q = false) : lexlt p r = true := by
  unfold lexlt at *
  split at h1 <;> split at h2 <;> split <;> simp at * <;> omega
theorem filter_len_le {α : Type} {l : List α} {f g : α → Bool} (h : ∀ x ∈ l, f x = true → g x = true) : (l.filter f).length ≤ (l.filter g).length := by
  induction l with
  | nil => simp
  | cons a l ih =>
    have ih := ih fun x hx => h x (.tail _ hx)
    have ha := h a (.head _)
    by_cases hf : f a = true
    · simp [hf, ha hf, ih]
    · by_cases hg : g a = true
      · simp only [List.filter_cons, hf, hg, if_true, List.length_cons]; simp; omega
      · simp [hf, hg, ih]
theorem filter_len_lt {α : Type} {l : List α} {f g : α → Bool} (h : ∀ x ∈ l, f x = true → g x = true) {a : α} (ha : a ∈ l) (hf : f a = false) (hg : g a = true) : (l.filter f).length < (l.filter g).length := by
  induction l with
  | nil => cases ha
  | cons b l ih =>
    rcases List.mem_cons.mp ha with rfl | ha
    · have := filter_len_le fun x hx => h x (.tail _ hx)
      simp only [List.filter_cons, hf, hg, if_true, List.length_cons]; simp; omega
    · have ih := ih (fun x hx => h x (.tail _ hx)) ha
      have hb := h b (.head _)
      by_cases hfb : f b = true
      · simp [hfb, hb hfb, ih]
      · by_cases hgb : g b = true
        · simp only [List.filter_cons, hfb, hgb, if_true, List.length_cons]; simp; omega
        · simp [hfb, hgb, ih]
theorem rank_lt {ps : List Span} {i j : Nat} (hi : i < ps.length) (hj : j < ps.length) : decide (rankOf ps i < rankOf ps j) = lexlt (ps.getD i (0, 0)) (ps.getD j (0, 0)) := by
  cases h : lexlt (ps.getD i (0, 0)) (ps.getD j (0, 0)) with
  | true =>
    rw [decide_eq_true_eq]
    exact filter_len_lt (fun x _ hx => lexlt_trans hx h) (a := i) (List.mem_range.mpr hi) (lexlt_irr _) h
  | false =>
    rw [decide_eq_false_iff_not, Nat.not_lt]
    exact filter_len_le fun x _ hx => lexlt_neg hx h
theorem rank_small {ps : List Span} {i : Nat} (hi : i < ps.length) : rankOf ps i < ps.length := by
  have := filter_len_lt (l := List.range ps.length) (f := fun j => lexlt (ps.getD j (0, 0)) (ps.getD i (0, 0))) (g := fun _ => true) (fun _ _ _ => rfl) (a := i) (List.mem_range.mpr hi) (lexlt_irr _) rfl
  exact Nat.lt_of_lt_of_le this (Nat.le_trans (List.length_filter_le _ _) (by simp))
noncomputable def lexle (p q : Span) : Prop := lexlt q p = false
/-- what the sort of a few pairs comes to -/
theorem sort_few {ps : List Span} (h2 : 2 ≤ ps.length) (h4 : ps.length ≤ 4) :
    ∃ p : List Nat, (evalT (fun i j => lexlt (ps.getD i (0, 0)) (ps.getD j (0, 0))) (kas_sort ps.length)).toList = p ∧ p.Perm (List.range ps.length) ∧ (p.map fun i => ps.getD i (0, 0)).Pairwise lexle := by
  refine ⟨_, rfl, ?_⟩
  generalize hp : (evalT (fun i j => lexlt (ps.getD i (0, 0)) (ps.getD j (0, 0))) (kas_sort ps.length)).toList = p
  let r := (List.range ps.length).map (rankOf ps)
  have rl : r.length = ps.length := by simp [r]
  have rg : ∀ i, i < ps.length → r.getD i 0 = rankOf ps i := fun i hi => by simp [r, List.getD_eq_getElem?_getD, hi]
  have ok := okRank_all (r := r) (by rw [rl]; exact h2) (by rw [rl]; exact h4) (fun x hx => by
    obtain ⟨i, hi, rfl⟩ := List.mem_map.mp hx
    rw [rl]; exact rank_small (List.mem_range.mp hi))
  have ev : evalT (fun i j => lexlt (ps.getD i (0, 0)) (ps.getD j (0, 0))) (kas_sort ps.length) = evalT (fun i j => decide (r.getD i 0 < r.getD j 0)) (kas_sort r.length) := by
    rw [rl]
    exact evalT_congr (n := ps.length) (fun i j hi hj => by rw [rg i hi, rg j hj, rank_lt hi hj]) _ (askIn_len h2 h4)
  unfold okRank at ok
  rw [← ev, hp] at ok
  simp only [Bool.and_eq_true, rl] at ok
  have pm : p.Perm (List.range ps.length) := (List.isPerm_iff.mp ok.1).symm
  refine ⟨pm, ?_⟩
  have pin : ∀ x ∈ p, x < ps.length := fun x hx => List.mem_range.mp (pm.subset hx)
  have pl : p.length = ps.length := by simpa using pm.length_eq
  have step : ∀ i, i + 1 < p.length → rankOf ps (p.getD i 0) ≤ rankOf ps (p.getD (i + 1) 0) := fun i hi => by
    have := List.all_eq_true.mp ok.2 i (List.mem_range.mpr (by omega))
    rw [decide_eq_true_eq] at this
    have e1 : p.getD i 0 ∈ p := by
      rw [List.getD_eq_getElem?_getD, List.getElem?_eq_getElem (by omega)]; exact List.getElem_mem _
    have e2 : p.getD (i + 1) 0 ∈ p := by
      rw [List.getD_eq_getElem?_getD, List.getElem?_eq_getElem hi]; exact List.getElem_mem _
    rw [rg _ (pin _ e1), rg _ (pin _ e2)] at this
    exact this
  have chain : ∀ i j, i ≤ j → j < p.length → rankOf ps (p.getD i 0) ≤ rankOf ps (p.getD j 0) := by
    intro i j hij
    induction j with
    | zero => intro _; have : i = 0 := by omega
              subst this; exact Nat.le_refl _
    | succ j ih =>
      intro hj
      rcases Nat.lt_or_ge i (j + 1) with q | q
      · exact Nat.le_trans (ih (by omega) (by omega)) (step j hj)
      · have : i = j + 1 := by omega
        subst this; exact Nat.le_refl _
  rw [List.pairwise_map]
  refine List.pairwise_iff_getElem.mpr fun i j hi hj hij => ?_
  have c := chain i j (Nat.le_of_lt hij) hj
  have e1 : p.getD i 0 = p[i] := by simp [List.getD_eq_getElem?_getD, hi]
  have e2 : p.getD j 0 = p[j] := by simp [List.getD_eq_getElem?_getD, hj]
  rw [e1, e2] at c
  have := rank_lt (ps := ps) (pin _ (List.getElem_mem hj)) (pin _ (List.getElem_mem hi))
  unfold lexle
  rw [← this, decide_eq_false_iff_not]
  omega

/-- questions that are answered and leave all as it was -/
theorem kasWp_pure {α : Type} {n : Nat} {lt : Nat → Nat → Bool} {cmp : Nat → Nat → (Bool → Shared → Prop) → Shared → Prop} {s : Shared} (hc : ∀ i j C, i < n → j < n → C (lt i j) s → cmp i j C s) {Q : α → Shared → Prop} :
    ∀ t : KasT α, askIn n t = true → Q (evalT lt t) s → t.kasWp cmp Q s
  | .ret a, _, h => h
  | .ask i j k, hin, h => by
    simp only [askIn, Bool.and_eq_true, decide_eq_true_eq] at hin
    refine hc i j _ hin.1.1.1 hin.1.1.2 (kasWp_pure hc (k (lt i j)) ?_ h)
    cases lt i j
    · exact hin.2
    · exact hin.1.2

section
variable {W : Wd} {Γ : Ctx} {s : Shared} {env : Env}
theorem zip_self {vs : List Value} (h2 : vs.length < 2) : (vs.toArray.zip vs.toArray).map (·.2) = vs.toArray := by
  match vs, h2 with
  | [], _ => simp
  | [v], _ => simp
theorem list_sort_short {A : Around} {E : Value → Shared → Prop} {a : Addr} {vs : List Value} {n : Nat} {P : PySem.Fin → Shared → Prop} (ho : s.heap.get? a = some (seqObj "list" vs.toArray n)) (h2 : vs.length < 2)
    (h : P (.done (.ret .none)) { s with heap := sortedHeap s.heap a vs vs.toArray }) : wpAny (model W.prog W.w) A (Builtin.«list.sort» ⟨[.ref a], []⟩) P E s := by
  rw [list_sort_plain]
  have ha : a < s.heap.objs.size := Heap.lt_size ho
  refine wpAny_bind (listItems_at ho rfl ?_)
  refine wpAny_bind (listUpdate_at ho rfl ?_ (by rw [List.size_toArray, sizeLine_eq]; omega) (Nat.zero_le _))
  obtain ⟨e1, ho1⟩ : ∃ e1, (s.heap.update a (Obj.mapSeq fun _ => (#[] : Array Value))).get? a = some (seqObj "list" #[] e1) := ⟨_, get?_update_seq ho fun _ => #[]⟩
  refine wpAny_bind (seqEpoch_at ho1 rfl ?_)
  refine wpAny_bind (wpAny_newTuple ?_ (by show vs.length ≤ _; rw [sizeLine_eq]; omega))
  refine wpAny_bind (wpAny_newList ?_ (Nat.zero_le _))
  refine wpAny_holding ?_
  have ho6 : (((s.heap.update a (Obj.mapSeq fun _ => (#[] : Array Value))).push (seqObj "tuple" vs.toArray 0)).push (seqObj "list" #[] 0)).get? a = some (seqObj "list" #[] e1) := by
    rw [Heap.get?_push_ne _ _ _ (by rw [size_push', Heap.size_update]; exact Nat.ne_of_lt (Nat.lt_succ_of_lt ha)), Heap.get?_push_ne _ _ _ (by rw [Heap.size_update]; exact Nat.ne_of_lt ha)]
    exact ho1
  show wpAny (model W.prog W.w) A _ P E { s with heap := ((s.heap.update a (Obj.mapSeq fun _ => (#[] : Array Value))).push (seqObj "tuple" vs.toArray 0)).push (seqObj "list" #[] 0) }
  dsimp only
  have hsz : vs.toArray.size < 2 := by simpa using h2
  rw [if_pos hsz, if_pos hsz]
  refine wpAny_bind (wpAny_pure ?_)
  rw [StateT.run_pure]
  refine wpAny_bind (wpAny_pure ?_)
  dsimp only
  have hz := zip_self h2
  refine wpAny_bind (seqEpoch_at ho6 rfl ?_)
  show wpAny (model W.prog W.w) A (Builtin.List.listUpdate (.ref a) (fun _ => (vs.toArray.zip vs.toArray).map (·.2)) >>= _) P E _
  rw [hz]
  refine wpAny_bind (listUpdate_at ho6 rfl ?_ (Nat.zero_le _) (by rw [List.size_toArray, sizeLine_eq]; omega))
  show wpAny (model W.prog W.w) A (if (e1 != e1) = true then _ else _) P E _
  simp only [bne_self_eq_false, Bool.false_eq_true, if_false]
  exact wpAny_pure h
theorem sorted_short {A : Around} {E : Value → Shared → Prop} {l : Addr} {vs : List Value} {Q : Value → Shared → Prop} (hl : s.heap.IsList l vs.toArray) (h2 : vs.length < 2)
    (h : Q (.ref (s.heap.objs.size + 1)) { s with heap := sortedAll s.heap vs vs.toArray }) : wpAny (model W.prog W.w) A (call (.builtin "sorted") [.ref l]) Q E s := by
  refine Calls.call_function_entry kind_sorted plain_sorted entry_sorted (args_sorted1 _) ?_
  unfold Builtin.«sorted»
  refine wpAny_bind (m := checkCount "sorted" 1 1 _) (wpAny_pure ?_)
  refine wpAny_bind (collect_list hl ?_ (by rw [sizeLine_eq]; omega))
  refine wpAny_bind (wpAny_newList ?_ (by rw [sizeLine_eq]; omega))
  have hsz : ((s.heap.push (seqObj "list" #[] 0)).update s.heap.objs.size (Obj.mapSeq (· ++ vs.toArray))).objs.size = s.heap.objs.size + 1 := by rw [Heap.size_update, size_push']
  have hoL : (((s.heap.push (seqObj "list" #[] 0)).update s.heap.objs.size (Obj.mapSeq (· ++ vs.toArray))).push (seqObj "list" vs.toArray 0)).get? (s.heap.objs.size + 1) = some (seqObj "list" vs.toArray 0) := by
    rw [← hsz]; exact Heap.get?_push_size _ rfl
  show wpAny _ _ _ _ _ { s with heap := ((s.heap.push (seqObj "list" #[] 0)).update s.heap.objs.size (Obj.mapSeq (· ++ vs.toArray))).push (seqObj "list" vs.toArray 0) }
  rw [hsz]
  exact wpAny_bind (wpAny_holding (wpAny_call_entry slot_list_sort ⟨_, hoL, rfl⟩ entry_list_sort (list_sort_short hoL h2 ⟨_, rfl, wpAny_pure ⟨_, rfl, h⟩⟩) (args_list_sort _)))

theorem l_sorted_short {l : Addr} {vs : List Value} {k : Value → St → Prop} {m : Loc} {mu : Mu} {z : Heap} (hl : LIn ⟨m, mu, z⟩ l vs) (h2 : vs.length < 2) (h : ∀ a, k (.ref a) ⟨m, (a, .list vs) :: mu, z⟩) : Sat W Γ (call (.builtin "sorted") [.ref l]) k ⟨m, mu, z⟩ := fun s c => by
  refine sorted_short (hl.at c).isList h2 ⟨_, ?_, h _⟩
  obtain ⟨e, he⟩ := sortedAll_at s.heap vs vs.toArray
  exact c.alloc (tk := s.toks) (fun b o => sortedAll_old) ⟨e, he⟩ (fun b hb => by rw [List.mem_singleton.mp hb]; exact Nat.le_succ _) (by simp [Asn.foot])
theorem l_sorted_ints {l : Addr} {vs : List Value} {ns : List Int} {k : Value → St → Prop} {m : Loc} {mu : Mu} {z : Heap} (hl : LIn ⟨m, mu, z⟩ l vs) (hI : All2 AInt vs ns) (h64 : vs.length < 64)
    (h : ∀ (a : Addr) (us : List Value) (ns' : List Int), All2 AInt us ns' → ns'.Perm ns → ns'.Pairwise (· ≤ ·) → k (.ref a) ⟨m, (a, .list us) :: mu, z⟩) : Sat W Γ (call (.builtin "sorted") [.ref l]) k ⟨m, mu, z⟩ := fun s c => by
  have conv : ∀ {vs : List Value} {ns : List Int}, All2 AInt vs ns → IntsAre vs ns := fun h => by
    induction h with
    | nil => exact .nil
    | cons r _ ih => obtain ⟨t, rfl⟩ := r; exact .cons _ _ ih
  have vnoc : ∀ {vs : List Value} {ns : List Int}, IntsAre vs ns → All2 AInt vs ns := fun h => by
    induction h with
    | nil => exact .nil
    | cons n t _ ih => exact .cons ⟨_, rfl⟩ ih
  refine sorted_ints (hl.at c).isList (conv hI) h64 fun out ns' h1 h2 h3 => ⟨_, ?_, h _ out.toList ns' (vnoc h1) h2 h3⟩
  obtain ⟨e, he⟩ := sortedAll_at s.heap vs out
  exact c.alloc (tk := s.toks) (fun b o => sortedAll_old) ⟨e, by simpa using he⟩ (fun b hb => by rw [List.mem_singleton.mp hb]; exact Nat.le_succ _) (by simp [Asn.foot])

theorem lex_step {A : Around} {E : Value → Shared → Prop} {s : Shared} {h : Heap} (hk : h.StaysIn s.heap) {v u : Value} {p q : Span} (hv : IsPair h v p) (hu : IsPair h u q) {C : Bool → Shared → Prop} (hC : C (lexlt p q) s) : wpAny (model W.prog W.w) A (keyLt' (tuples' true) v u) C E s := by
  obtain ⟨a, t1, t2, rfl, ha⟩ := hv
  obtain ⟨b, u1, u2, rfl, hb⟩ := hu
  obtain ⟨oa, ha1, ha2, na, ha3⟩ := ha
  obtain ⟨ob, hb1, hb2, nb, hb3⟩ := hb
  refine kat_lt (hk _ _ ha1) ha3 (hk _ _ hb1) hb3 ?_
  show KatLex W.prog W.w A true false C [(.int p.1 t1, .int q.1 u1), (.int p.2 t2, .int q.2 u2)] 0 s
  refine kat_cons (wpAny_eqBool_int ?_)
  by_cases h1 : p.1 = q.1
  · rw [beq_iff_eq.mpr h1]
    refine kat_yes (kat_cons (wpAny_eqBool_int ?_))
    by_cases h2 : p.2 = q.2
    · rw [beq_iff_eq.mpr h2]
      refine kat_yes (kat_nil ?_)
      simpa [lexlt, h1, h2] using hC
    · rw [beq_eq_false_iff_ne.mpr h2]
      refine kat_no (kat_one _ _ (PySem.P.lt_int ?_))
      simpa [lexlt, h1, PySem.W.BoolBack] using hC
  · rw [beq_eq_false_iff_ne.mpr h1]
    refine kat_no (oneLt_int ?_)
    simpa [lexlt, h1] using hC

theorem pairs_pick {z : Heap} {vs : List Value} {sp : List Span} (hp : Pairs z vs sp) : ∀ p : List Nat, (∀ x ∈ p, x < vs.length) → Pairs z (p.map fun i => vs.getD i Value.none) (p.map fun i => sp.getD i (0, 0))
  | [], _ => .nil
  | i :: p, pin => by
    refine .cons ?_ (pairs_pick hp p fun x hx => pin x (.tail _ hx))
    obtain ⟨v, hv⟩ : ∃ v, vs[i]? = some v := ⟨_, List.getElem?_eq_getElem (pin i (.head _))⟩
    obtain ⟨q, hq, r⟩ := hp.get hv
    show IsPair z (vs.getD i .none) (sp.getD i (0, 0))
    rw [List.getD_eq_getElem?_getD, List.getD_eq_getElem?_getD, hv, hq]; exact r
theorem l_sorted_pairs {l : Addr} {vs : List Value} {sp : List Span} {k : Value → St → Prop} {m : Loc} {mu : Mu} {z : Heap} (hl : (l, .list vs) ∈ mu) (hbm : Γ.bm = []) (hp : Pairs z vs sp) (h2 : 2 ≤ vs.length) (h4 : vs.length ≤ 4)
    (h : ∀ (a : Addr) (us : List Value) (sq : List Span), Pairs z us sq → sq.Perm sp → sq.Pairwise lexle → k (.ref a) ⟨m, (a, .list us) :: mu, z⟩) : Sat W Γ (call (.builtin "sorted") [.ref l]) k ⟨m, mu, z⟩ := fun s c => by
  have hlen := hp.length
  obtain ⟨nl, hol⟩ := c.mu _ hl
  have hlf : l ∈ foots mu := List.mem_flatMap.mpr ⟨_, hl, by simp [Asn.foot]⟩
  have hln : Γ.n ≤ l := (c.munew l hlf).resolve_left (by rw [hbm]; exact List.not_mem_nil)
  have hlled : (l, listOf vs.toArray nl) ∈ led W.B s.heap Γ.L := led_mem (c.muz l hlf).2.1 (by
    cases q : W.B.get? l with
    | none => rfl
    | some o => have := (c.muz l hlf).1; rw [c.z0 _ _ (c.Bz _ _ q)] at this; cases this) hol
  refine kat_sorted c.F c.N ⟨_, hol, rfl, nl, rfl⟩ h2 (by omega) fun D e1 h' F' N' hD => ?_
  have hk : ∀ b o, b ≠ Γ.L → s.heap.get? b = some o → h'.get? b = some o := fun b o hb e => by
    cases q : W.B.get? b with
    | some o' => have := c.Bh b o' q; rw [e] at this; cases this; exact F'.keep b o q
    | none => exact (N' (b, o) (.tail _ (led_mem hb q e))).1
  have hz : z.StaysIn h' := fun b o e => hk b o (fun q => by have := c.zL; rw [← q] at this; have e' : z.get? b = some o := e; rw [show z.get? b = none from this] at e'; cases e') (c.zle b o e)
  have hp' : Pairs h' vs sp := Pairs.mono hp hz
  obtain ⟨fs, hfs, hfl, hfT⟩ : ∃ fs, KatTups h' vs fs ∧ fs.length = vs.length ∧ ∀ v ∈ fs, ∃ i t, v = Value.int i t := by
    clear h hl hol hlled h2 h4 hlen hp
    induction hp' with
    | nil => exact ⟨[], .nil, rfl, fun _ h => nomatch h⟩
    | @cons v p vs sp r _ ih =>
      obtain ⟨fs, i1, i2, i3⟩ := ih
      obtain ⟨a, t, u, rfl, o, ho, hc, n, hd⟩ := r
      exact ⟨.int p.1 t :: fs, .cons ho hc hd rfl i1, by simp [i2], fun v hv => by
        rcases List.mem_cons.mp hv with rfl | hv
        · exact ⟨_, _, rfl⟩
        · exact i3 v hv⟩
  refine kat_kind (T := .type "int") hfs (by omega) (fun v hv => ?_) rfl ?_
  · obtain ⟨i, t, rfl⟩ := hfT v hv
    exact Looks.of_pure rfl
  rw [show (Value.type "int" != Value.type "tuple") = true from rfl]
  have hget : ∀ i, i < vs.length → IsPair h' (vs.getD i .none) (sp.getD i (0, 0)) := fun i hi => by
    obtain ⟨v, hv⟩ : ∃ v, vs[i]? = some v := ⟨_, List.getElem?_eq_getElem hi⟩
    obtain ⟨q, hq, r⟩ := hp'.get hv
    rw [List.getD_eq_getElem?_getD, List.getD_eq_getElem?_getD, hv, hq]; exact r
  obtain ⟨p, hpe, hpp, hps⟩ := sort_few (ps := sp) (by omega) (by omega)
  refine kasWp_pure (n := vs.length) (lt := fun i j => lexlt (sp.getD i (0, 0)) (sp.getD j (0, 0))) (fun i j C hi hj hC => ?_) _ (askIn_len h2 h4) ?_
  · exact lex_step (h := h') (fun _ _ e => e) (hget i hi) (hget j hj) hC
  · rw [hlen, hpe]
    refine KasFin.intro F' N' (.head fun q hq => ?_) fun h'' cc F'' N'' => ⟨_, ?_, h D (p.map fun i => vs.getD i Value.none) (p.map fun i => sp.getD i (0, 0)) ?_ ?_ hps⟩
    · exact Nat.ne_of_lt (hD q hq)
    · have hk2 : ∀ b o, b ≠ Γ.L → s.heap.get? b = some o → h''.get? b = some o := fun b o hb e => by
        cases q : W.B.get? b with
        | some o' => have := c.Bh b o' q; rw [e] at this; cases this; exact F''.keep b o q
        | none => exact (N'' (b, o) (.tail _ (led_mem hb q e))).1
      have hDo := N'' _ (.head _)
      have hDs : s.heap.get? D = none := by
        cases q : s.heap.get? D with
        | none => rfl
        | some o => exact absurd (hD (D, o) (led_mem hDo.2.1 hDo.2.2 q)) (Nat.lt_irrefl _)
      have c' : Coh W Γ ⟨m, mu, z⟩ { s with heap := h'' } := c.store (tk := s.toks) F''.ns hk2
      refine c'.adopt (x := .list (p.map fun i => vs.getD i Value.none)) ⟨cc, hDo.1⟩ (fun b hb => ?_) (by simp [Asn.foot])
      rw [List.mem_singleton.mp hb]
      refine ⟨?_, hDo.2.1, fun hm => ?_, Nat.le_trans hln (Nat.le_of_lt (hD _ hlled))⟩
      · cases q : z.get? D with
        | none => rfl
        | some o => have := c.zle _ _ q; rw [hDs] at this; cases this
      · obtain ⟨o, ho⟩ := c.mulive hm
        rw [hDs] at ho; cases ho
    · exact pairs_pick hp p fun x hx => by rw [hlen]; exact List.mem_range.mp (hpp.subset hx)
    · have := hpp.map fun i => sp.getD i (0, 0)
      refine this.trans ?_
      have e : (List.range sp.length).map (fun i => sp.getD i (0, 0)) = sp := by
        apply List.ext_getElem?
        intro i
        by_cases hi : i < sp.length
        · simp [hi, List.getD_eq_getElem?_getD]
        · simp [hi]
      rw [e]
theorem l_sorted_few {l : Addr} {vs : List Value} {sp : List Span} {k : Value → St → Prop} {m : Loc} {mu : Mu} {z : Heap} (hl : (l, .list vs) ∈ mu) (hbm : Γ.bm = []) (hp : Pairs z vs sp) (h4 : sp.length ≤ 4)
    (h : ∀ (a : Addr) (us : List Value) (sq : List Span), Pairs z us sq → sq.Perm sp → sq.Pairwise lexle → k (.ref a) ⟨m, (a, .list us) :: mu, z⟩) : Sat W Γ (call (.builtin "sorted") [.ref l]) k ⟨m, mu, z⟩ := by
  have hlen := hp.length
  rcases Nat.lt_or_ge vs.length 2 with q | q
  · refine l_sorted_short (.inl hl) q fun a => h a vs sp hp (List.Perm.refl _) ?_
    match sp, (show sp.length < 2 by omega) with
    | [], _ => exact List.Pairwise.nil
    | [x], _ => exact List.pairwise_singleton _ _
  · exact l_sorted_pairs hl hbm hp q (by omega) h
theorem lexle_fst {sp : List Span} (h : sp.Pairwise lexle) : sp.Pairwise fun a b => a.1 ≤ b.1 := h.imp fun {a b} q => by
  unfold lexle lexlt at q
  split at q
  · omega
  · simp at q; omega
theorem Sat.freeze {α : Type} {t : Sem α} {k : α → St → Prop} {m : Loc} {pre post : Mu} {z : Heap} {a : Addr} {x : Asn} (hbm : Γ.bm = []) (h : ∀ z', z.StaysIn z' → x.At W z' a → Sat W Γ t k ⟨m, pre ++ post, z'⟩) : Sat W Γ t k ⟨m, pre ++ (a, x) :: post, z⟩ := fun s c => by
  obtain ⟨z', h1, h2, c'⟩ := c.freeze fun b hb => (c.munew b (List.mem_flatMap.mpr ⟨(a, x), by simp, hb⟩)).resolve_left (by rw [hbm]; exact List.not_mem_nil)
  exact h z' h1 h2 s c'
theorem Sat.freeze0 {α : Type} {t : Sem α} {k : α → St → Prop} {m : Loc} {post : Mu} {z : Heap} {a : Addr} {x : Asn} (hbm : Γ.bm = []) (h : ∀ z', z.StaysIn z' → x.At W z' a → Sat W Γ t k ⟨m, post, z'⟩) : Sat W Γ t k ⟨m, (a, x) :: post, z⟩ := Sat.freeze (pre := []) hbm h
theorem Sat.freezeB {α : Type} {t : Sem α} {k : α → St → Prop} {m : Loc} {pre post : Mu} {z : Heap} {a : Addr} {x : Asn} (hbm : ∀ b ∈ Γ.bm, b ∈ foots (pre ++ post)) (h : ∀ z', z.StaysIn z' → x.At W z' a → Sat W Γ t k ⟨m, pre ++ post, z'⟩) : Sat W Γ t k ⟨m, pre ++ (a, x) :: post, z⟩ := fun s c => by
  have nd' : (foots pre ++ (x.foot a ++ foots post)).Nodup := by simpa [foots] using c.mund
  rw [List.nodup_append, List.nodup_append] at nd'
  obtain ⟨z', h1, h2, c'⟩ := c.freeze fun b hb => (c.munew b (List.mem_flatMap.mpr ⟨(a, x), by simp, hb⟩)).resolve_left fun q => by
    have := hbm b q
    rw [foots_append] at this
    rcases List.mem_append.mp this with w | w
    · exact nd'.2.2 b w b (List.mem_append_left _ hb) rfl
    · exact nd'.2.1.2.2 b hb b w rfl
  exact h z' h1 h2 s c'
end
end Mine
namespace Mine
open PySem PySem.W PyProof.Rows PySem.Calls

theorem lk_list_keys : typeLookup (.type "list") "keys" = pure none := by rw [typeLookup_type, builtinLookup_eq_fast]; kernel_rfl
theorem keys_call {prog : Program} {w : World} {A : Around} {s : Shared} {a : Addr} {xs : Array Value} {n : Nat} {tk : Tok} {R : Result → Shared → Prop} (hx : s.heap.get? a = some (PySem.W.listOf xs n)) (hA : A.handled = none)
    (h : ∀ h' tk' e, Heap.NewAttrErr s.heap h' e (.ref a) "keys" → R (.error (.ref e)) { s with heap := h', toks := tk' }) : codeAny (model prog w) A (.call (.builtin "list.__getattribute__") ⟨[.ref a, .str "keys" tk], []⟩) R s :=
  codeAny_call_builtin F.slot_list_getattribute.plain am_entry_list_getattribute (F.slot_list_getattribute.check _ _ _ _ _ _ _ _ (show s.TypeIs (.ref a) "list" from ⟨_, hx, rfl⟩) (F.args_list_getattribute_2 _ _)
    (meets_getattribute_miss_list a xs n #[] "keys" tk lk_list_keys (by decide +kernel) (by size_fits) prog w A R s ⟨hx, hA, fun h' tk' e hx' => h h' tk' e hx'⟩))
theorem list_no_keys {prog : Program} {w : World} {A : Around} {E : Value → Shared → Prop} {s : Shared} {a : Addr} {xs : Array Value} {n : Nat} {Q : Option Value → Shared → Prop} (hx : s.heap.get? a = some (PySem.W.listOf xs n)) (hA : A.handled = none)
    (h : ∀ h' tk, (∀ b o, s.heap.get? b = some o → h'.get? b = some o) → Q none { s with heap := h', toks := tk }) : wpAny (model prog w) A (getAttr? (.ref a) "keys") Q E s := by
  obtain ⟨hp, g, d, tk, os⟩ := s
  have hT : (⟨hp, g, d, tk, os⟩ : Shared).TypeIs (.ref a) "list" := ⟨_, hx, rfl⟩
  have f1 := sub_AttributeError
  have f3 := F.slot_list_getattribute.lookup
  have f4 := F.slot_list_getattribute.bind (.ref a)
  have f5 := am_list_getattr_none
  have f6 := lk_list_keys
  unfold getAttr? getAttrBy? getAttrBy
  repeat (any_goals (first | assumption | ((with_reducible show wpAny _ _ (call (Value.builtin "list.__getattribute__") _ _) _ _ _); refine call_meets F.slot_list_getattribute ⟨_, hx, rfl⟩ am_entry_list_getattribute (F.args_list_getattribute_2 _ _) (meets_getattribute_miss_list a xs n #[] _ _ f6 (by decide +kernel)) ⟨⟨_, hx, rfl⟩, hA, fun h' tk' e hx' => ?_⟩) | wp_step))
  have hT2 : ∀ tk', (⟨hp, g, d, tk', os⟩ : Shared).TypeIs (.ref a) "list" := fun _ => ⟨_, hx, rfl⟩
  refine keys_call hx hA fun h' tk' e hx' => ?_
  obtain ⟨t', u', he⟩ := hx'.there
  dsimp only
  unfold getattributeRaised
  repeat (any_goals (first | assumption | wp_step))
  exact h h' tk' hx'.keeps

theorem entry_update_loop : entryFor table "dict.update.loop" = some Builtin.«dict.update.loop» := entryFor_of_fast (by kernel_rfl)
/-- a pair of a key and a value -/
noncomputable def IsEntry (z : Heap) (v : Value) (kv : Int × Value) : Prop := ∃ T t, v = .ref T ∧ IsTup z T [Value.int kv.1 t, kv.2].toArray
theorem IsEntry.mono {z z' : Heap} {v : Value} {kv : Int × Value} (h : IsEntry z v kv) (hz : z.StaysIn z') : IsEntry z' v kv := let ⟨T, t, e, q⟩ := h; ⟨T, t, e, IsTup.keeps q hz⟩

theorem update_loop {prog : Program} {w : World} {A : Around} {s₀ : Shared} {d it l : Addr} {vs : List Value} {kvs : List (Int × Value)} {R : Result → Shared → Prop} (hA : A.handled = none) (hl : s₀.heap.IsList l vs.toArray) (hall : All2 (IsEntry s₀.heap) vs kvs) (hsz : kvs.length ≤ 1000000)
    (hd0 : s₀.heap.get? d = none) (hi0 : s₀.heap.get? it = none) (hdi : d ≠ it)
    (hR : ∀ h' tk, s₀.heap.StaysIn h' → h'.DictOf (intKind prog w) d (merged [] kvs) → R (.ok (.ret .none)) { s₀ with heap := h', toks := tk }) : ∀ (j i : Nat) (h : Heap) (tk : Nat), i + j = vs.length → s₀.heap.StaysIn h → h.IsListIter it l i → h.DictOf (intKind prog w) d (merged [] (kvs.take i)) →
    codeAny (model prog w) A (.builtin "dict.update.loop" ⟨[.ref d, .ref it, rawInt i, .none], []⟩) R { s₀ with heap := h, toks := tk } := by
  intro j
  induction j with
  | zero =>
    intro i h tk hij hst hit hdo
    have hlen := hall.length
    refine codeAny_builtin entry_update_loop ?_
    unfold Builtin.«dict.update.loop»
    show wpAny _ _ (pyNext (.ref it) >>= _) _ _ _
    have hv : vs.toArray[i]? = none := by simp; omega
    refine wpAny_bind (wpAny_pyNext_list_end (by exact hA) hit (hl.at (hst l)) hv fun h' hs => ?_)
    show wpAny _ _ (Builtin.Dict.addKeywords d [] >>= _) _ _ _
    refine wpAny_bind (wpAny_pure (wpAny_pure ?_))
    have e : kvs.take i = kvs := List.take_of_length_le (by omega)
    rw [e] at hdo
    refine hR h' tk (fun b o q => hs b o (fun e => by rw [e, hi0] at q; cases q) (hst b o q)) ?_
    obtain ⟨o, es, ep, ho, r⟩ := hdo
    exact ⟨o, es, ep, hs _ _ hdi ho, r⟩
  | succ j ih =>
    intro i h tk hij hst hit hdo
    have hlen := hall.length
    have hi : i < vs.length := by omega
    obtain ⟨v, hv⟩ : ∃ v, vs[i]? = some v := ⟨_, List.getElem?_eq_getElem hi⟩
    obtain ⟨⟨k, x⟩, hkv, T, t, rfl, hT⟩ := hall.get hv
    refine codeAny_builtin entry_update_loop ?_
    unfold Builtin.«dict.update.loop»
    show wpAny _ _ (pyNext (.ref it) >>= _) _ _ _
    refine wpAny_bind (wpAny_pyNext_list_item hit (hl.at (hst l)) (by simpa using hv) fun h' hit' hs => ?_)
    have hst' : s₀.heap.StaysIn h' := fun b o q => (hs.2 b (fun e => by rw [e, hi0] at q; cases q)).trans (hst b o q)
    have hT' : IsTup h' T [Value.int k t, x].toArray := IsTup.keeps hT hst'
    obtain ⟨oT, ho, hc, nT, hdT⟩ := hT'
    refine wpAny_bind (wpAny_holding ?_)
    refine wpAny_bind (wpAny_tryCatch ?_)
    unfold Builtin.Dict.pairItems
    refine wpAny_bind (wpAny_typeOf (T := "tuple") ⟨oT, ho, hc⟩ ?_)
    rw [if_pos (by decide)]
    refine wpAny_bind (wpAny_seqItems ho hdT (wpAny_pure ?_))
    show wpAny _ _ (holding _ (dictSet d (.int k t) x)) _ _ _
    have hdo' : h'.DictOf (intKind prog w) d (merged [] (kvs.take i)) := by
      obtain ⟨o, es, ep, ho, r⟩ := hdo
      exact ⟨o, es, ep, (hs.2 d hdi).trans ho, r⟩
    have hml := merged_length_le ([] : List (Int × Value)) (kvs.take i)
    rw [List.length_take] at hml
    refine wpAny_holding (wpAny_dictSet_pairs (knd := intKind prog w) (k := k) (by simp [intKind, Value.isInt]) hdo' (fun h'' hd'' hs'' => ?_) (by rw [sizeLine_eq]; simp at hml; omega))
    refine wpAny_pure ⟨Code.quiet_builtin _ (by decide +kernel), ?_⟩
    have hst'' : s₀.heap.StaysIn h'' := fun b o q => (hs''.2 b (fun e => by rw [e, hd0] at q; cases q)).trans (hst' b o q)
    refine ih (i + 1) h'' (tk + 1) (by omega) hst'' ?_ ?_
    · obtain ⟨o, ho, r⟩ := hit'
      exact ⟨o, (hs''.2 it (Ne.symm hdi)).trans ho, r⟩
    · rw [merged_take_succ [] kvs i (k, x) hkv]; exact hd''

theorem dict_pairs {prog : Program} {w : World} {A : Around} {E : Value → Shared → Prop} {s : Shared} {l : Addr} {vs : List Value} {n : Nat} {kvs : List (Int × Value)} {Q : Value → Shared → Prop} (hA : A.handled = none) (hl : s.heap.get? l = some (PySem.W.listOf vs.toArray n))
    (hall : All2 (IsEntry s.heap) vs kvs) (hn : (kvs.map (·.1)).Nodup) (hsz : kvs.length ≤ 1000000) (h : ∀ h' tk, s.heap.StaysIn h' → h'.DictOf (intKind prog w) s.heap.objs.size kvs → Q (.ref s.heap.objs.size) { s with heap := h', toks := tk }) :
    wpAny (model prog w) A (call (.type "dict") [.ref l]) Q E s := by
  refine callType_codes (Q₁ := fun obj s₁ => obj = .ref s.heap.objs.size ∧ s₁ = { s with heap := s.heap.push { cls := .type "dict", data := .dict #[] } }) PySem.F.kt_called_dict (PySem.F.kt_typeCall_dict_1 _) PySem.F.entry_dict_init (kt_code_dict_new _ ⟨rfl, rfl⟩) ?_
  rintro obj s₁ ⟨rfl, rfl⟩
  have hnew : (s.heap.push { cls := .type "dict", data := .dict #[] }).DictOf (intKind prog w) s.heap.objs.size [] := Heap.DictOf.new s.heap
  have hl' : (s.heap.push { cls := .type "dict", data := .dict #[] }).get? l = some (PySem.W.listOf vs.toArray n) := Heap.get?_push_of_some _ hl
  refine ⟨hnew.typeIs, PySem.F.args_dict_init_2 _ _, ?_⟩
  unfold Builtin.«dict.__init__»
  refine wpAny_bind ?_
  unfold Builtin.Dict.selfAndRest
  refine wpAny_bind (wpAny_notOrdered_dict hnew.typeIs ?_)
  show wpAny _ _ (pure (s.heap.objs.size, [Value.ref l])) _ _ _
  refine wpAny_pure ?_
  show wpAny _ _ (Builtin.Dict.updateFrom "dict.__init__" s.heap.objs.size (.ref l) [] .none) _ _ _
  unfold Builtin.Dict.updateFrom
  refine wpAny_bind (wpAny_typeOf (T := "list") ⟨_, hl', rfl⟩ ?_)
  rw [if_pos (by decide)]
  refine wpAny_bind (list_no_keys hl' (by exact hA) fun h1 tk1 hk1 => ?_)
  rw [if_pos (show (none : Option Value).isNone = true from rfl)]
  refine wpAny_bind (wpAny_rule ?_)
  have hdo1 : h1.DictOf (intKind prog w) s.heap.objs.size [] := by
    obtain ⟨o, es, ep, ho, r⟩ := hnew
    exact ⟨o, es, ep, hk1 _ _ ho, r⟩
  have hl1 : h1.get? l = some (PySem.W.listOf vs.toArray n) := hk1 _ _ hl'
  refine wpAny_bind (wpAny_pyIter_list ⟨_, hl1, rfl, n, rfl⟩ ?_)
  refine wpAny_pure ⟨Code.quiet_builtin _ (by decide +kernel), ?_⟩
  have k0 : ∀ b o, s.heap.get? b = some o → h1.get? b = some o := fun b o e => hk1 _ _ (Heap.get?_push_of_some _ e)
  have dlt : s.heap.objs.size < h1.objs.size := by
    obtain ⟨o, es, ep, ho, r⟩ := hdo1
    exact Heap.lt_size ho
  refine update_loop (s₀ := s) (l := l) (vs := vs) (kvs := kvs) (by exact hA) ⟨_, hl, rfl, n, rfl⟩ hall hsz (Heap.get?_none_of_le (Nat.le_refl _)) (Heap.get?_none_of_le (Nat.le_of_lt dlt)) (Nat.ne_of_lt dlt) (fun h' tk hst hd => ?_)
    vs.length 0 _ tk1 (Nat.zero_add _) (fun b o e => Heap.get?_push_of_some _ (k0 b o e)) ⟨_, Heap.get?_push_size _ rfl, rfl, rfl⟩ ?_
  · rw [merged_nil_of_nodup kvs hn] at hd
    exact ⟨rfl, h h' tk hst hd⟩
  · show Heap.DictOf (intKind prog w) _ _ (merged [] (kvs.take 0))
    obtain ⟨o, es, ep, ho, r⟩ := hdo1
    exact ⟨o, es, ep, Heap.get?_push_of_some _ ho, r⟩

section
variable {W : Wd} {Γ : Ctx} {s : Shared}
theorem d_pairs {l : Addr} {vs : List Value} {kvs : List (Int × Value)} {k : Value → St → Prop} {m : Loc} {mu : Mu} {z : Heap} (WO : Base W W.B) (R : Room 1 Γ.A) (hl : LIn ⟨m, mu, z⟩ l vs) (hall : All2 (IsEntry z) vs kvs) (hn : (kvs.map (·.1)).Nodup) (hsz : kvs.length ≤ 1000000)
    (h : ∀ d, k (.ref d) ⟨m, (d, .dict kvs) :: mu, z⟩) : Sat W Γ (call (.type "dict") [.ref l]) k ⟨m, mu, z⟩ := fun s c => by
  obtain ⟨n, ho⟩ := hl.at c
  refine dict_pairs R.handled ho (hall.mono fun a b r => r.mono c.zle) hn hsz fun h' tk hk hd => ⟨_, ?_, h _⟩
  refine c.alloc (x := .dict kvs) (tk := tk) hk ⟨?_, hd⟩ (fun b hb => by rw [List.mem_singleton.mp hb]; exact Nat.le_refl _) (by simp [Asn.foot])
  have := modules_low (c.base WO).top.nolimit
  exact beq_eq_false_iff_ne.mpr (Nat.ne_of_gt this)
end
end Mine
namespace Mine
open PySem PySem.W PyProof.Rows PySem.Calls

section
variable {W : Wd} {Γ : Ctx} {s : Shared} {env : Env}
/-- some objects at hand are taken in -/
theorem Coh.adopts {m : Loc} {l mu : Mu} {z : Heap} (c : Coh W Γ ⟨m, mu, z⟩ s) (hx : ∀ p ∈ l, p.2.At W s.heap p.1) (hf : ∀ b ∈ foots l, z.get? b = none ∧ b ≠ Γ.L ∧ b ∉ foots mu ∧ Γ.n ≤ b) (hn : (foots l).Nodup) :
    Coh W Γ ⟨m, l ++ mu, z⟩ s :=
  { c with
    mu := fun p hp => (List.mem_append.mp hp).elim (hx p) (c.mu p)
    muz := fun b hb => by
      rcases List.mem_append.mp (foots_append l mu ▸ hb) with hb | hb
      · exact ⟨(hf b hb).1, (hf b hb).2.1, fun ht => absurd (c.tlt ht) (Nat.not_lt.mpr (hf b hb).2.2.2)⟩
      · exact c.muz b hb
    munew := fun b hb => by
      rcases List.mem_append.mp (foots_append l mu ▸ hb) with hb | hb
      · exact .inr (hf b hb).2.2.2
      · exact c.munew b hb
    mund := by
      show (foots (l ++ mu)).Nodup
      rw [foots_append]
      exact List.nodup_append.mpr ⟨hn, c.mund, fun b hb d hd e => (hf b hb).2.2.1 (e ▸ hd)⟩ }

noncomputable def cellMu (scope : Scope) (binds : Loc) (L : Addr) : Mu := (cellsFrom (L + 1) scope.names []).map fun p => (p.2, Asn.cell (bindC (fun x => scope.names.lookup x) binds (fun _ => none) p.1))
theorem foots_cells (scope : Scope) (binds : Loc) (L : Addr) : foots (cellMu scope binds L) = (cellsFrom (L + 1) scope.names []).map (·.2) := by
  unfold cellMu foots
  induction cellsFrom (L + 1) scope.names [] with
  | nil => rfl
  | cons p r ih => rw [List.map_cons, List.flatMap_cons, ih]; rfl

theorem enterCellC {n : Nat} {bm : Mu} {z : Heap} {Post : PostT} {name qual : Str} {params : Arguments} {body : List Stmt} {scope : Scope} {dV kV doc pm cdv ct oc : Value} {an od : Option Addr} {osl : Array (Option Value)} {f : Addr} {args : List Value} (binds : Loc) {m : Loc}
    (WO : Base W W.B) (ho : W.K.lookup f = some ⟨oc, od, .func (fnOf name qual params body scope dV kV doc pm an cdv ct), osl⟩) (hcd : codeIn W.K cdv qual = true)
    (hbind : bindArgs (fnOf name qual params body scope dV kV doc pm an cdv ct) ⟨args, []⟩ = pure binds)
    (hkind : ∀ n : Nat, ∀ x ∈ binds, scope.names.lookup x.1 = some .local ∨ (scope.names.lookup x.1 = some .cell ∧ ((cellsFrom n scope.names []).lookup x.1).isSome = true))
    (hnd : ((cellsFrom 0 scope.names []).map (·.1)).Nodup)
    (k : Flow → St → Prop) (hk' : ∀ (Γ : Ctx) (s' : Shared) (fl : Flow) (σ : St), Γ.z₀ = z → Γ.bm = foots bm → Coh W Γ σ s' → k fl σ → ∃ bm' nw z', After W Γ.s₀ z bm bm' nw z' s'.heap ∧ Post (retv fl) bm' nw z')
    (h : ∀ Γ : Ctx, Room n Γ.A → NoE Γ → Γ.z₀ = z → Γ.bm = foots bm → Sat W Γ (execs body (envX qual scope Γ.L f cdv (cellsFrom (Γ.L + 1) scope.names []))) k ⟨m, cellMu scope binds Γ.L ++ bm, z⟩)
    (hm : ∀ x, bindL (fun x => scope.names.lookup x) binds (fun _ => none) x = mget m x) (hco : scope.isCoroutine = false := by rfl) (hgen : scope.isGenerator = false := by rfl) (hk : scope.kind = .function := by rfl) : SpecC W (n + 1) (.ref f) args bm z Post := by
  intro A s Q R P hQ
  have b : Base W s.heap := (WO.keeps P.Bz).keeps P.zle
  have room : A.depth < recursionLimit := by have := R.depth; show A.depth < 1000; omega
  refine codeAny_call_cells (fd := fnOf name qual params body scope dV kV doc pm an cdv ct) (body := body) (binds := binds) room (b.K _ _ ho) rfl b.top.nolimit (codeRec_of b.K hcd) rfl hbind rfl (hkind _) (fun s₁ x => ?_) hco hgen hk
  obtain ⟨h₁, tk, rfl, hk₁⟩ := x.done
  let Γ : Ctx := ⟨A.deeper (envX qual scope s.heap.objs.size f cdv (cellsFrom (s.heap.objs.size + 1) scope.names [])), s.heap.objs.size, z, s, foots bm, fun _ _ => False⟩
  have hns : h₁.Ns s.heap.objs.size (mget m) := by
    have := x.toInCall.ns
    have e : (bindL (fun x => scope.names.lookup x) binds fun _ => none) = mget m := funext hm
    rw [← e]; exact this
  have c0 : Coh W Γ ⟨m, bm, z⟩ { s with heap := h₁, toks := tk } := start (A := Γ.A) (E := Γ.E) (tk := tk) P (Nat.le_refl _) hns hk₁
  have names : ∀ {n : Str} {c : Addr}, (n, c) ∈ cellsFrom (s.heap.objs.size + 1) scope.names [] → (cellsFrom (s.heap.objs.size + 1) scope.names []).lookup n = some c := fun hmem =>
    lookup_of_mem_nodup (cellsFrom_names scope.names 0 (s.heap.objs.size + 1) [] [] rfl ▸ hnd) hmem
  have c1 : Coh W Γ ⟨m, cellMu scope binds s.heap.objs.size ++ bm, z⟩ { s with heap := h₁, toks := tk } := by
    refine c0.adopts (fun p hp => ?_) (fun b hb => ?_) ?_
    · obtain ⟨⟨nm, a⟩, hq, rfl⟩ := List.mem_map.mp hp
      exact x.cell nm a (names hq)
    · rw [foots_cells] at hb
      obtain ⟨⟨nm, a⟩, hq, rfl⟩ := List.mem_map.mp hb
      have hab : s.heap.objs.size < a := x.above nm a hq
      refine ⟨?_, Nat.ne_of_gt hab, fun hmm => ?_, Nat.le_of_lt hab⟩
      · cases q : z.get? a with
        | none => rfl
        | some o => exact absurd (Heap.lt_size (P.zle _ _ q)) (Nat.not_lt.mpr (Nat.le_of_lt hab))
      · obtain ⟨p, hp, ha⟩ := List.mem_flatMap.mp hmm
        obtain ⟨o, ho⟩ := (P.mu p hp).lives a ha
        exact absurd (Heap.lt_size ho) (Nat.not_lt.mpr (Nat.le_of_lt hab))
    · rw [foots_cells, List.nodup_iff_pairwise_ne, List.pairwise_map]
      exact x.apart
  have S := h Γ R.deeper (fun _ _ x => x) rfl rfl _ c1
  refine wpAny_mono S (fun fl s' hs => ?_) fun _ _ x => x.elim
  obtain ⟨σ', c, hk9⟩ := hs
  obtain ⟨bm', nw, z', a, h3⟩ := hk' Γ s' fl σ' rfl rfl c hk9
  rw [c.rest]
  exact hQ _ _ _ _ _ _ a h3
/-- nothing lent, the result frozen -/
theorem enterCellF {n : Nat} {z : Heap} {Post : Value → Heap → Prop} {name qual : Str} {params : Arguments} {body : List Stmt} {scope : Scope} {dV kV doc pm cdv ct oc : Value} {an od : Option Addr} {osl : Array (Option Value)} {f : Addr} {args : List Value} (binds : Loc) {m : Loc}
    (WO : Base W W.B) (ho : W.K.lookup f = some ⟨oc, od, .func (fnOf name qual params body scope dV kV doc pm an cdv ct), osl⟩) (hcd : codeIn W.K cdv qual = true)
    (hbind : bindArgs (fnOf name qual params body scope dV kV doc pm an cdv ct) ⟨args, []⟩ = pure binds)
    (hkind : ∀ n : Nat, ∀ x ∈ binds, scope.names.lookup x.1 = some .local ∨ (scope.names.lookup x.1 = some .cell ∧ ((cellsFrom n scope.names []).lookup x.1).isSome = true))
    (hnd : ((cellsFrom 0 scope.names []).map (·.1)).Nodup)
    (h : ∀ Γ : Ctx, Room n Γ.A → NoE Γ → Γ.z₀ = z → Γ.bm = [] → Sat W Γ (execs body (envX qual scope Γ.L f cdv (cellsFrom (Γ.L + 1) scope.names []))) (EndsF W Post) ⟨m, cellMu scope binds Γ.L, z⟩)
    (hm : ∀ x, bindL (fun x => scope.names.lookup x) binds (fun _ => none) x = mget m x) (hco : scope.isCoroutine = false := by rfl) (hgen : scope.isGenerator = false := by rfl) (hk : scope.kind = .function := by rfl) : SpecC W (n + 1) (.ref f) args [] z (NoNew fun r _ z' => Post r z') :=
  enterCellC (bm := []) binds WO ho hcd hbind hkind hnd (EndsF W Post) (fun Γ s' fl σ hz hb c hk => by
    obtain ⟨z', a, p⟩ := c.endsF hz hb hk
    exact ⟨[], [], z', a, rfl, p⟩) (fun Γ R hE hz hb => by rw [List.append_nil]; exact h Γ R hE hz hb) hm hco hgen hk

theorem l_sum {l : Addr} {vs : List Value} {ns : List Int} {k : Value → St → Prop} {m : Loc} {mu : Mu} {z : Heap} (R : Room 1 Γ.A) (hl : LIn ⟨m, mu, z⟩ l vs) (hI : All2 AInt vs ns) (h : ∀ t, k (.int ns.sum t) ⟨m, mu, z⟩) : Sat W Γ (call (.builtin "sum") [.ref l]) k ⟨m, mu, z⟩ := fun s c => by
  have conv : ∀ {vs : List Value} {ns : List Int}, All2 AInt vs ns → IntsAre vs ns := fun h => by
    induction h with
    | nil => exact .nil
    | cons r _ ih => obtain ⟨t, rfl⟩ := r; exact .cons _ _ ih
  exact PyProof.Rows.LSm.sum_ints c.F c.N R.handled (hl.at c).isList (conv hI) fun h' tk t' F' N' => ⟨_, c.viaNews F' N' fun _ h => h, h _⟩
end
end Mine
namespace Mine
open PySem PySem.W PyProof.Rows PySem.Calls

/-- the frames of a stack, lent -/
noncomputable def FramesIn (l : List Env) (bm : Mu) : Prop := ∀ env ∈ l, env.scope.kind ≠ .module ∧ ∃ L f, env.frame = some L ∧ (L, Asn.raw (NsO f)) ∈ bm
theorem funFrames_of {W : Wd} {B h : Heap} {bm : Mu} : ∀ {l : List Env}, FramesIn l bm → (∀ p ∈ bm, p.2.At W h p.1) → (∀ a ∈ foots bm, B.get? a = none) → h.FunFrames B l
  | [], _, _, _ => trivial
  | env :: l, hf, hm, hB => by
    obtain ⟨hk, L, f, hL, hin⟩ := hf env (.head _)
    obtain ⟨o, ho, es, ep, hd, _⟩ := hm _ hin
    refine ⟨hk, ⟨L, o, hL, hB L (List.mem_flatMap.mpr ⟨_, hin, by simp [Asn.foot]⟩), ho, fun vs q => by rw [hd] at q; cases q⟩, funFrames_of (fun e he => hf e (.tail _ he)) hm hB⟩

/-- an exception in flight, as it comes out of a call -/
structure Fly (W : Wd) (C : Addr) (l : List Env) (bm : Mu) (z : Heap) (s : Shared) (e : Addr) (h' : Heap) : Prop where
  out : ∃ B z' a0, Heap.FlyingW B l e (.ref C) a0 h' ∧ z'.StaysIn B ∧ z.StaysIn z' ∧ (∀ b o, z'.get? b = some o → (∃ o', z.get? b = some o') ∨ s.heap.objs.size ≤ b) ∧ TabInv W.tabs z' B ∧
    (∀ b o, b ∉ foots bm → b ∉ W.tabs.map (·.1) → s.heap.get? b = some o → B.get? b = some o) ∧ (∀ a ∈ foots bm, B.get? a = none)
  frames : ∀ p ∈ bm, p.2.At W h' p.1

/-- a contract with a second way out -/
noncomputable def SpecE (W : Wd) (C : Addr) (n : Nat) (f : Value) (args : List Value) (l : List Env) (bm : Mu) (z : Heap) (Post : PostT) (Err : Prop) : Prop :=
  ∀ (A : Around) (s : Shared) (R : Result → Shared → Prop), Room n A → A.frames = some l → Pre W s z bm →
    (∀ r bm' nw z' h' tk', After W s z bm bm' nw z' h' → Post r bm' nw z' → R (.ok (.ret r)) { s with heap := h', toks := tk' }) →
    (∀ e h' tk', Err → Fly W C l bm z s e h' → R (.error (.ref e)) { s with heap := h', toks := tk' }) → codeAny (model W.prog W.w) A (.call f ⟨args, []⟩) R s

theorem Heap.get?_ne_of {h : Heap} {a b : Addr} {o o' : Obj} (ha : h.get? a = some o) (hb : h.get? b = some o') (hne : o ≠ o') : a ≠ b := fun e => hne (by rw [e, hb] at ha; exact (Option.some.inj ha).symm)

/-- what an exception on its way leaves as it is: a frame, a cell -/
noncomputable abbrev SlotOk (x : Asn) : Prop := (∃ f, x = .raw (NsO f)) ∨ ∃ v, x = .cell v
theorem slots_frames {W : Wd} {h h' : Heap} {bm : Mu} (hns : ∀ p ∈ bm, SlotOk p.2) (hm : ∀ p ∈ bm, p.2.At W h p.1) (k : h.UpToSlots h') : ∀ p ∈ bm, p.2.At W h' p.1 := fun p hp => by
  have hq := hns p hp
  have := hm p hp
  obtain ⟨a, x⟩ := p
  dsimp only at hq this ⊢
  rcases hq with ⟨f, e⟩ | ⟨v, e⟩
  · subst e
    obtain ⟨o, ho, es, ep, hd, r⟩ := this
    obtain ⟨sl, hs⟩ := k a o ho fun vs q => by rw [hd] at q; cases q
    exact ⟨_, hs, es, ep, hd, r⟩
  · subst e
    obtain ⟨o, ho, hd⟩ := this
    obtain ⟨sl, hs⟩ := k a o ho fun vs q => by rw [hd] at q; cases q
    exact ⟨_, hs, hd⟩
section
variable {W : Wd} {Γ : Ctx} {s : Shared} {env : Env}
/-- the new exception, before any frame has noted it -/
noncomputable def NewX (C : Addr) (o : Obj) : Prop := o.cls = .ref C ∧ ∃ vs a0, o.data = .fields vs ∧ vs[0]? = some a0 ∧ vs[1]? = some .none

theorem leave_new {C e : Addr} {m : Loc} {bm mu : Mu} {z : Heap} {l : List Env} {Q : Unit → Shared → Prop} {E : Value → Shared → Prop} (c : Coh W Γ ⟨m, mu, z⟩ s) (hA : Γ.A.frames = some (env :: l)) (hf : env.frame = some Γ.L) (hke : env.scope.kind ≠ .module) (hl : FramesIn l bm) (hbm : Γ.bm = foots bm)
    (hb : ∀ p ∈ bm, p ∈ mu) (hbz : ∀ a ∈ foots bm, Γ.z₀.get? a = none) (hx : (e, .raw (NewX C)) ∈ mu) (heb : e ∉ foots bm) (hns : ∀ p ∈ bm, SlotOk p.2)
    (hQ : ∀ h', Fly W C l bm Γ.z₀ Γ.s₀ e h' → Q () { s with heap := h' }) : wpAny (model W.prog W.w) Γ.A (leaving env (.ref e)) Q E s := by
  obtain ⟨oe, hoe, hcls, vs, a0, hd, h0, h1⟩ := c.mu _ hx
  have hef : e ∈ foots mu := List.mem_flatMap.mpr ⟨_, hx, by simp [Asn.foot]⟩
  have hez := c.muz e hef
  have hbf : ∀ a ∈ foots bm, a ∈ foots mu := fun a ha => by
    obtain ⟨p, hp, h⟩ := List.mem_flatMap.mp ha
    exact List.mem_flatMap.mpr ⟨p, hb p hp, h⟩
  let hid := Γ.L :: e :: foots bm
  have eB : ∀ {b o}, (hideAll s.heap hid).get? b = some o → s.heap.get? b = some o := fun q => of_hideAll _ q
  have nB : ∀ a ∈ hid, (hideAll s.heap hid).get? a = none := fun a ha => hideAll_none _ ha
  have keepB : ∀ b o, b ∉ hid → s.heap.get? b = some o → (hideAll s.heap hid).get? b = some o := fun b o hb e => hideAll_get _ e hb
  have zB : z.StaysIn (hideAll s.heap hid) := fun b o q => keepB b o (fun hm => by
    rcases List.mem_cons.mp hm with rfl | hm
    · have := c.zL; rw [show z.get? Γ.L = none from this] at q; cases q
    · rcases List.mem_cons.mp hm with rfl | hm
      · rw [show z.get? _ = none from hez.1] at q; cases q
      · rw [show z.get? b = none from (c.muz b (hbf b hm)).1] at q; cases q) (c.zle b o q)
  have FF : s.heap.FunFrames (hideAll s.heap hid) (env :: l) := by
    obtain ⟨o, es, ep, ho, hdL, _⟩ := c.ns
    refine ⟨hke, ⟨Γ.L, o, hf, nB _ (.head _), ho, fun vs q => by rw [hdL] at q; cases q⟩, funFrames_of hl (fun p hp => c.mu p (hb p hp)) fun a ha => nB a (.tail _ (.tail _ ha))⟩
  have tb : TabInv W.tabs z (hideAll s.heap hid) := c.tabs.mono (fun _ _ e => e) (fun t ht => (c.tabs t ht).1) fun t ht o q => keepB _ _ (fun hm => by
    have htm : t.1 ∈ W.tabs.map (·.1) := List.mem_map.mpr ⟨t, ht, rfl⟩
    rcases List.mem_cons.mp hm with q | hm
    · exact c.Ltab (q ▸ htm)
    · rcases List.mem_cons.mp hm with q | hm
      · exact hez.2.2 (q ▸ htm)
      · exact (c.muz _ (hbf _ hm)).2.2 htm) q
  have enew : Γ.n ≤ e := (c.munew e hef).resolve_left (by rw [hbm]; exact heb)
  refine wpAny_leaving_firstW hA FF hf hoe (fun b o q => eB q) (nB e (.tail _ (.head _))) hd h1 h0 fun h' hL => hQ h' ?_
  obtain ⟨k1, ⟨_, _, k2⟩, k3, k4⟩ := hL
  rw [hcls] at k3
  refine ⟨⟨hideAll s.heap hid, z, a0, ⟨k1, nB e (.tail _ (.head _)), k2, k3⟩, zB, c.z0, c.zgrow, tb, fun b o hb' ht q => ?_, fun a ha => nB a (.tail _ (.tail _ ha))⟩, fun p hp => ?_⟩
  · refine keepB b o (fun hm => ?_) (c.keep b o (by rw [hbm]; exact hb') ht q)
    rcases List.mem_cons.mp hm with rfl | hm
    · exact absurd (Heap.lt_size q) (Nat.not_lt.mpr c.Lnew)
    · rcases List.mem_cons.mp hm with rfl | hm
      · exact absurd (Heap.lt_size q) (Nat.not_lt.mpr enew)
      · exact hb' hm
  · exact slots_frames hns (fun p hp => c.mu p (hb p hp)) k4 p hp

/-- an exception that comes out of a call leaves the next frame too -/
theorem leave_fly {C e : Addr} {m : Loc} {bm mu : Mu} {z : Heap} {l : List Env} {s₂ : Shared} {h₂ : Heap} {tk : Nat} {Q : Unit → Shared → Prop} {E : Value → Shared → Prop} (c : Coh W Γ ⟨m, mu, z⟩ s₂) (hA : Γ.A.frames = some (env :: l)) (hf : env.frame = some Γ.L) (hbm : Γ.bm = foots bm)
    (hbs : bm.Sublist mu) (hns : ∀ p ∈ bm, SlotOk p.2) (x : Fly W C (env :: l) ((Γ.L, .raw (NsO (mget m))) :: bm) z s₂ e h₂)
    (hQ : ∀ h', Fly W C l bm Γ.z₀ Γ.s₀ e h' → Q () { s₂ with heap := h', toks := tk }) : wpAny (model W.prog W.w) Γ.A (leaving env (.ref e)) Q E { s₂ with heap := h₂, toks := tk } := by
  obtain ⟨⟨B, z', a0, fl, zB, zz, zg, tb, keep, nB⟩, fr⟩ := x
  refine wpAny_leaves_onW hA hf fl fun h' fl' sl => hQ h' ⟨⟨B, z', a0, fl', zB, fun b o q => zz b o (c.z0 b o q), fun b o q => ?_, tb, fun b o hb ht q => ?_, fun a ha => nB a ?_⟩, slots_frames hns (fun p hp => fr p (.tail _ hp)) sl⟩
  · rcases zg b o q with ⟨o', h⟩ | h
    · exact c.zgrow b o' h
    · exact .inr (Nat.le_trans c.size h)
  · refine keep b o (fun hm => ?_) ht (c.keep b o (by rw [hbm]; exact hb) ht q)
    rcases List.mem_cons.mp (by simpa [foots, Asn.foot] using hm : b ∈ Γ.L :: foots bm) with rfl | hm
    · exact absurd (Heap.lt_size q) (Nat.not_lt.mpr c.Lnew)
    · exact hb hm
  · show a ∈ foots _
    rw [show foots ((Γ.L, Asn.raw (NsO (mget m))) :: bm) = Γ.L :: foots bm by simp [foots, Asn.foot]]
    exact .tail _ ha

/-- own frame is lent with the others: the state a callee starts from -/
theorem Coh.lend {m : Loc} {bm mu : Mu} {z : Heap} (c : Coh W Γ ⟨m, bm ++ mu, z⟩ s) : Pre W s z ((Γ.L, .raw (NsO (mget m))) :: bm) := by
  have P := Coh.pre c
  have ft : foots ((Γ.L, Asn.raw (NsO (mget m))) :: bm) = Γ.L :: foots bm := by simp [foots, Asn.foot]
  exact { P with
    mu := fun p hp => by
      rcases List.mem_cons.mp hp with rfl | hp
      · exact NsO.of c.ns
      · exact P.mu p hp
    muz := fun a ha => by
      rw [ft] at ha
      rcases List.mem_cons.mp ha with rfl | ha
      · exact ⟨c.zL, c.Ltab⟩
      · exact P.muz a ha
    mund := by
      rw [ft]
      exact List.nodup_cons.mpr ⟨fun h => (c.muz _ (by rw [foots_append]; exact List.mem_append_left _ h)).2.1 rfl, P.mund⟩ }
/-- and what it has back -/
theorem Coh.back {m : Loc} {bm mu nw : Mu} {z z' : Heap} {h' : Heap} {tk : Nat} (c : Coh W Γ ⟨m, bm ++ mu, z⟩ s) (a : After W s z ((Γ.L, .raw (NsO (mget m))) :: bm) ((Γ.L, .raw (NsO (mget m))) :: bm) nw z' h') : Coh W Γ ⟨m, nw ++ (bm ++ mu), z'⟩ { s with heap := h', toks := tk } := by
  have ft : foots ((Γ.L, Asn.raw (NsO (mget m))) :: bm) = Γ.L :: foots bm := by simp [foots, Asn.foot]
  have nd := c.mund
  simp only [foots_append] at nd
  have nd' := List.nodup_append.mp nd
  have inb : ∀ {b}, b ∈ foots bm → b ∈ foots (bm ++ mu) := fun h => by rw [foots_append]; exact List.mem_append_left _ h
  have inm : ∀ {b}, b ∈ foots mu → b ∈ foots (bm ++ mu) := fun h => by rw [foots_append]; exact List.mem_append_right _ h
  have kp : ∀ b o, b ≠ Γ.L → b ∉ foots bm → b ∉ W.tabs.map (·.1) → s.heap.get? b = some o → h'.get? b = some o := fun b o hL hb ht q => a.keep b o (by rw [ft]; exact fun h => (List.mem_cons.mp h).elim hL hb) ht q
  have zn : ∀ b, b < s.heap.objs.size → z.get? b = none → z'.get? b = none := fun b hb e => by
    cases q : z'.get? b with
    | none => rfl
    | some o =>
      rcases a.zgrow b o q with ⟨o', h⟩ | h
      · rw [e] at h; cases h
      · exact absurd hb (Nat.not_lt.mpr h)
  have cut : ∀ {b}, b ∈ foots (nw ++ (bm ++ mu)) → b ∈ foots nw ∨ b ∈ foots (bm ++ mu) := fun {b} hb => by
    rw [foots_append] at hb
    exact List.mem_append.mp hb
  exact {
    rest := by have := c.rest; rw [this]
    ns := NsO.ns (a.mu (Γ.L, .raw (NsO (mget m))) (.head _))
    Lnew := c.Lnew
    keep := fun b o hb ht e => by
      have e' := c.keep b o hb ht e
      refine kp b o (fun q => absurd (Heap.lt_size e) (Nat.not_lt.mpr (q ▸ c.Lnew))) (fun h => ?_) ht e'
      rcases c.munew b (inb h) with q | q
      · exact hb q
      · exact absurd (Heap.lt_size e) (Nat.not_lt.mpr q)
    zle := a.zle
    z0 := fun b o e => a.zz b o (c.z0 b o e)
    zgrow := fun b o e => by
      rcases a.zgrow b o e with ⟨o', h⟩ | h
      · exact c.zgrow b o' h
      · exact .inr (Nat.le_trans c.size h)
    zL := zn _ c.ltL c.zL
    mu := fun p hp => by
      rcases List.mem_append.mp hp with hp | hp
      · exact a.nwa p hp
      rcases List.mem_append.mp hp with hp | hp
      · exact a.mu p (.tail _ hp)
      · refine (c.mu p (List.mem_append_right _ hp)).same fun b hb o e => ?_
        have hm : b ∈ foots mu := List.mem_flatMap.mpr ⟨p, hp, hb⟩
        exact kp b o (c.muz b (inm hm)).2.1 (fun h => nd'.2.2 b h b hm rfl) (c.muz b (inm hm)).2.2 e
    muz := fun b hb => by
      rcases cut hb with h | h
      · have q := a.nwf b h
        exact ⟨q.2, fun e => absurd c.ltL (Nat.not_lt.mpr (e ▸ q.1)), fun ht => absurd (c.tlt ht) (Nat.not_lt.mpr (Nat.le_trans c.size q.1))⟩
      · have q := c.muz b h
        exact ⟨zn b (c.mult h) q.1, q.2⟩
    munew := fun b hb => by
      rcases cut hb with h | h
      · exact .inr (Nat.le_trans c.size (a.nwf b h).1)
      · exact c.munew b h
    mund := by
      show (foots (nw ++ (bm ++ mu))).Nodup
      rw [foots_append]
      exact List.nodup_append.mpr ⟨a.nwd, c.mund, fun x hx y hy e => absurd (c.mult (e ▸ hy)) (Nat.not_lt.mpr (a.nwf x hx).1)⟩
    tabs := a.tabs
    tlow := c.tlow
    Bz := c.Bz
    Bn := c.Bn }
end
end Mine
namespace Mine
open PySem PySem.W PyProof.Rows PySem.Calls

section
variable {W : Wd} {Γ : Ctx} {s : Shared} {env : Env}
/-- an end that gives the lent things back and freezes its result -/
noncomputable def EndsFB (W : Wd) (bm : Mu) (Post : Value → Heap → Prop) (fl : Flow) (σ : St) : Prop := ∃ fr : Mu, (fr ++ bm).Sublist σ.mu ∧ ∀ z', σ.z.StaysIn z' → (∀ p ∈ fr, p.2.At W z' p.1) → Post (retv fl) z'
theorem Coh.endsFB {σ : St} {z : Heap} {bm : Mu} {s' : Shared} {Post : Value → Heap → Prop} {fl : Flow} (c : Coh W Γ σ s') (hz : Γ.z₀ = z) (hb : Γ.bm = foots bm) (h : EndsFB W bm Post fl σ) : ∃ z', After W Γ.s₀ z bm bm [] z' s'.heap ∧ Post (retv fl) z' := by
  obtain ⟨fr, hsub, hP⟩ := h
  have c1 : Coh W Γ ⟨σ.m, fr ++ bm, σ.z⟩ s' := Coh.sub (mu := σ.mu) c hsub
  have nd := c1.mund
  simp only [foots_append] at nd
  have nd' := List.nodup_append.mp nd
  have inf : ∀ {b}, b ∈ foots fr → b ∈ foots (fr ++ bm) := fun h => by rw [foots_append]; exact List.mem_append_left _ h
  have inb : ∀ {b}, b ∈ foots bm → b ∈ foots (fr ++ bm) := fun h => by rw [foots_append]; exact List.mem_append_right _ h
  obtain ⟨z', h1, h2, h3, h4⟩ := restrict σ.z s'.heap c.zle (foots fr)
  have new : ∀ b ∈ foots fr, Γ.n ≤ b := fun b hb' => (c1.munew b (inf hb')).resolve_left (by rw [hb]; exact fun q => nd'.2.2 b hb' b q rfl)
  refine ⟨z', ?_, hP z' h1 fun p hp => (c1.mu p (List.mem_append_left _ hp)).same fun b hb o e => h3 b (List.mem_flatMap.mpr ⟨p, hp, hb⟩) o e⟩
  exact {
    keep := fun b o hb' ht e => c.keep b o (by rw [hb]; exact hb') ht e
    zz := fun b o e => h1 b o (c.z0 b o (hz ▸ e))
    zle := h2
    zgrow := fun b o e => by
      rcases h4 b o e with q | q
      · exact hz ▸ c.zgrow b o q
      · exact .inr (new b q)
    mu := fun p hp => c1.mu p (List.mem_append_right _ hp)
    same := rfl
    tabs := c.tabs.mono h1 (fun t ht => by
      cases q : z'.get? t.1 with
      | none => rfl
      | some o =>
        rcases h4 _ o q with w | w
        · rw [(c.tabs t ht).1] at w; cases w
        · exact absurd (List.mem_map.mpr ⟨t, ht, rfl⟩) (c1.muz _ (inf w)).2.2) fun t ht o e => e
    nwa := fun _ h => nomatch h
    nwf := fun _ h => nomatch h
    nwd := List.nodup_nil }

theorem enterE {C : Addr} {n : Nat} {l : List Env} {bm : Mu} {z : Heap} {Post : Value → Heap → Prop} {Err : Prop} {name qual : Str} {params : Arguments} {body : List Stmt} {scope : Scope} {dV kV doc pm cdv ct oc : Value} {an od : Option Addr} {osl : Array (Option Value)} {f : Addr} {args : List Value} (binds : Loc) {m : Loc}
    (WO : Base W W.B) (ho : W.K.lookup f = some ⟨oc, od, .func (fnOf name qual params body scope dV kV doc pm an cdv ct), osl⟩) (hcd : codeIn W.K cdv qual = true)
    (hbind : bindArgs (fnOf name qual params body scope dV kV doc pm an cdv ct) ⟨args, []⟩ = pure binds)
    (hkind : ∀ n : Nat, ∀ x ∈ binds, scope.names.lookup x.1 = some .local ∨ (scope.names.lookup x.1 = some .cell ∧ ((cellsFrom n scope.names []).lookup x.1).isSome = true))
    (hnd : ((cellsFrom 0 scope.names []).map (·.1)).Nodup) (hl : FramesIn l bm) (hns : ∀ p ∈ bm, SlotOk p.2)
    (h : ∀ Γ : Ctx, Room n Γ.A → Γ.z₀ = z → Γ.bm = foots bm → EBack W Γ (envX qual scope Γ.L f cdv (cellsFrom (Γ.L + 1) scope.names [])) → Γ.A.frames = some (envX qual scope Γ.L f cdv (cellsFrom (Γ.L + 1) scope.names []) :: l) →
      (∀ e m mu z' s', Err → Coh W Γ ⟨m, mu, z'⟩ s' → (∀ p ∈ bm, p ∈ mu) → (e, .raw (NewX C)) ∈ mu → e ∉ foots bm → Γ.E (.ref e) s') →
      Sat W Γ (execs body (envX qual scope Γ.L f cdv (cellsFrom (Γ.L + 1) scope.names []))) (EndsFB W bm Post) ⟨m, cellMu scope binds Γ.L ++ bm, z⟩)
    (hm : ∀ x, bindL (fun x => scope.names.lookup x) binds (fun _ => none) x = mget m x) (hco : scope.isCoroutine = false := by rfl) (hgen : scope.isGenerator = false := by rfl) (hk : scope.kind = .function := by rfl) :
    SpecE W C (n + 1) (.ref f) args l bm z (fun r bm' nw z' => nw = [] ∧ bm' = bm ∧ Post r z') Err := by
  intro A s R Rm hA P hQ hErr
  have b : Base W s.heap := (WO.keeps P.Bz).keeps P.zle
  have room : A.depth < recursionLimit := by have := Rm.depth; show A.depth < 1000; omega
  refine codeAny_call_cells (fd := fnOf name qual params body scope dV kV doc pm an cdv ct) (body := body) (binds := binds) room (b.K _ _ ho) rfl b.top.nolimit (codeRec_of b.K hcd) rfl hbind rfl (hkind _) (fun s₁ x => ?_) hco hgen hk
  obtain ⟨h₁, tk, rfl, hk₁⟩ := x.done
  show wpAny (model W.prog W.w) (A.deeper (envX qual scope s.heap.objs.size f cdv (cellsFrom (s.heap.objs.size + 1) scope.names []))) (execs body (envX qual scope s.heap.objs.size f cdv (cellsFrom (s.heap.objs.size + 1) scope.names []))) _ _ _
  generalize henv : envX qual scope s.heap.objs.size f cdv (cellsFrom (s.heap.objs.size + 1) scope.names []) = env
  let Γ : Ctx := ⟨A.deeper env, s.heap.objs.size, z, s, foots bm, fun e s' => wpAny (model W.prog W.w) (A.deeper env) (leaving env e) (fun _ s'' => R (.error e) s'') (fun e' s'' => R (.error e') s'') s'⟩
  have hfr : Γ.A.frames = some (env :: l) := Around.frames_deeper hA
  have hns' : h₁.Ns s.heap.objs.size (mget m) := by
    have := x.toInCall.ns
    have e : (bindL (fun x => scope.names.lookup x) binds fun _ => none) = mget m := funext hm
    rw [← e]; exact this
  have c0 : Coh W Γ ⟨m, bm, z⟩ { s with heap := h₁, toks := tk } := start (A := Γ.A) (E := Γ.E) (tk := tk) P (Nat.le_refl _) hns' hk₁
  have names : ∀ {n : Str} {c : Addr}, (n, c) ∈ cellsFrom (s.heap.objs.size + 1) scope.names [] → (cellsFrom (s.heap.objs.size + 1) scope.names []).lookup n = some c := fun hmem =>
    lookup_of_mem_nodup (cellsFrom_names scope.names 0 (s.heap.objs.size + 1) [] [] rfl ▸ hnd) hmem
  have c1 : Coh W Γ ⟨m, cellMu scope binds s.heap.objs.size ++ bm, z⟩ { s with heap := h₁, toks := tk } := by
    refine c0.adopts (fun p hp => ?_) (fun b hb => ?_) ?_
    · obtain ⟨⟨nm, a⟩, hq, rfl⟩ := List.mem_map.mp hp
      exact x.cell nm a (names hq)
    · rw [foots_cells] at hb
      obtain ⟨⟨nm, a⟩, hq, rfl⟩ := List.mem_map.mp hb
      have hab : s.heap.objs.size < a := x.above nm a hq
      refine ⟨?_, Nat.ne_of_gt hab, fun hmm => ?_, Nat.le_of_lt hab⟩
      · cases q : z.get? a with
        | none => rfl
        | some o => exact absurd (Heap.lt_size (P.zle _ _ q)) (Nat.not_lt.mpr (Nat.le_of_lt hab))
      · obtain ⟨p, hp, ha⟩ := List.mem_flatMap.mp hmm
        obtain ⟨o, ho⟩ := (P.mu p hp).lives a ha
        exact absurd (Heap.lt_size ho) (Nat.not_lt.mpr (Nat.le_of_lt hab))
    · rw [foots_cells, List.nodup_iff_pairwise_ne, List.pairwise_map]
      exact x.apart
  have hke : env.scope.kind ≠ .module := by rw [← henv]; show scope.kind ≠ .module; rw [hk]; exact fun q => nomatch q
  have hef : env.frame = some Γ.L := by rw [← henv]
  have S := h Γ Rm.deeper rfl rfl (by
      show EBack W Γ (envX qual scope s.heap.objs.size f cdv (cellsFrom (s.heap.objs.size + 1) scope.names []))
      rw [henv]; exact PassesOwn.leaving) (by
      show Γ.A.frames = some (envX qual scope s.heap.objs.size f cdv (cellsFrom (s.heap.objs.size + 1) scope.names []) :: l)
      rw [henv]; exact hfr) (fun e m mu z' s' he c hb hx heb => ?_)
  · have S' : Sat W Γ (execs body env) (EndsFB W bm Post) ⟨m, cellMu scope binds Γ.L ++ bm, z⟩ := by rw [← henv]; exact S
    refine wpAny_mono (S' _ c1) (fun fl s' hs => ?_) fun e s' x => by
      have x' : wpAny (model W.prog W.w) (A.deeper env) (leaving env e) (fun _ s'' => R (.error e) s'') (fun e' s'' => R (.error e') s'') s' := x
      rw [← henv] at x'; exact x'
    obtain ⟨σ', c, hk9⟩ := hs
    obtain ⟨z', a, h3⟩ := c.endsFB rfl rfl hk9
    rw [c.rest]
    exact hQ _ _ _ _ _ _ a ⟨rfl, rfl, h3⟩
  · show wpAny (model W.prog W.w) Γ.A (leaving env (.ref e)) _ _ s'
    refine leave_new c hfr hef hke hl rfl hb (fun a ha => (P.muz a ha).1) hx heb hns fun h' fy => ?_
    have := hErr e h' s'.toks he fy
    rw [c.rest]
    exact this
end
end Mine
namespace Mine
open PySem PySem.W PyProof.Rows PySem.Calls

theorem SpecE.mono {W : Wd} {C : Addr} {n m : Nat} {f : Value} {args : List Value} {l : List Env} {bm : Mu} {z : Heap} {Post Post' : PostT} {Err Err' : Prop} (S : SpecE W C n f args l bm z Post Err) (h : ∀ r bm' nw z', z.StaysIn z' → Post r bm' nw z' → Post' r bm' nw z') (he : Err → Err') (hn : n ≤ m) :
    SpecE W C m f args l bm z Post' Err' := fun A s R Rm hA P k ke => S A s R (Rm.less hn) hA P (fun r bm' nw z' h' tk' a p => k r bm' nw z' h' tk' a (h r bm' nw z' a.zz p)) fun e h' tk' x fy => ke e h' tk' (he x) fy

section
variable {W : Wd} {Γ : Ctx} {s : Shared} {env : Env}
/-- a call that may raise, from a frame that lends itself -/
theorem use_specE {C : Addr} {n : Nat} {f : Value} {args : List Value} {l : List Env} {bm mu : Mu} {m : Loc} {z : Heap} {Post : Value → Heap → Prop} {Err : Prop} {k : Value → St → Prop}
    (S : SpecE W C n f args (env :: l) ((Γ.L, .raw (NsO (mget m))) :: bm) z (fun r bm' nw z' => nw = [] ∧ bm' = (Γ.L, .raw (NsO (mget m))) :: bm ∧ Post r z') Err) (R : Room n Γ.A) (hA : Γ.A.frames = some (env :: l))
    (h : ∀ r z', z.StaysIn z' → Post r z' → k r ⟨m, bm ++ mu, z'⟩)
    (hE : ∀ e s₂ h' tk', Err → Coh W Γ ⟨m, bm ++ mu, z⟩ s₂ → Fly W C (env :: l) ((Γ.L, .raw (NsO (mget m))) :: bm) z s₂ e h' → Γ.E (.ref e) { s₂ with heap := h', toks := tk' }) : Sat W Γ (call f args) k ⟨m, bm ++ mu, z⟩ := fun s c =>
  wpAny_call (S Γ.A s _ R hA c.lend (fun r bm' nw z' h' tk' a ⟨e1, e2, p⟩ => by
    subst e1; subst e2
    exact ⟨_, c.back a, h r z' a.zz p⟩) fun e h' tk' x fy => hE e s h' tk' x c fy)

/-- a lambda of no arguments whose body calls what may raise -/
theorem enterLE {C : Addr} {n : Nat} {l : List Env} {bm : Mu} {z : Heap} {Post : Value → Heap → Prop} {Err : Prop} {f : Addr} {qual : Str} {params : Arguments} {body : Expr} {scope : Scope} {clos : List (Str × Addr)} (WO : Base W W.B)
    (hL : IsLam z f qual params body scope clos) (hbind : ∀ pm c' ctv, bindArgs (kla_fn "<lambda>" qual params body scope clos pm (.ref c') ctv) ⟨[], []⟩ = pure []) (hcell : ∀ x ∈ scope.names, x.2 ≠ .cell) (hns : ∀ p ∈ bm, SlotOk p.2)
    (h : ∀ (Γ : Ctx) (c' : Addr), Room n Γ.A → Γ.z₀ = z → Γ.bm = foots bm → Γ.A.frames = some (envX qual scope Γ.L f (.ref c') clos :: l) →
      (∀ e s₂ h' tk' m mu z', Err → Coh W Γ ⟨m, mu, z'⟩ s₂ → bm.Sublist mu → Fly W C (envX qual scope Γ.L f (.ref c') clos :: l) ((Γ.L, .raw (NsO (mget m))) :: bm) z' s₂ e h' → Γ.E (.ref e) { s₂ with heap := h', toks := tk' }) →
      Sat W Γ (eval body (envX qual scope Γ.L f (.ref c') clos)) (fun v => EndsFB W bm Post (.ret v)) ⟨[], bm, z⟩)
    (hco : scope.isCoroutine = false := by rfl) (hgen : scope.isGenerator = false := by rfl) (hk : scope.kind = .function := by rfl) : SpecE W C (n + 1) (.ref f) [] l bm z (fun r bm' nw z' => nw = [] ∧ bm' = bm ∧ Post r z') Err := by
  intro A s R Rm hA P hQ hErr
  have b : Base W s.heap := (WO.keeps P.Bz).keeps P.zle
  have room : A.depth < recursionLimit := by have := Rm.depth; show A.depth < 1000; omega
  obtain ⟨pm, c', ctv, ho, hrec⟩ := hL
  refine kla_callFunE room (P.zle _ _ ho) rfl hco hgen rfl (hrec.keeps P.zle) ?_
  rw [hbind]
  refine wpAny_pure (wpAny_newFunctionEnv hcell (fun x hx => nomatch hx) (fun h₁ hns' hsb => ⟨b.top.nolimit.fresh _ hsb, ?_⟩) hk)
  show codeAny _ _ (.expr body (envX qual scope s.heap.objs.size f (.ref c') clos)) _ _
  have hk₁ : ∀ b o, s.heap.get? b = some o → h₁.get? b = some o := fun b o e => hsb.extBut b o (Nat.ne_of_lt (Heap.lt_size e)) (Heap.get?_push_of_some _ e)
  let Γ : Ctx := ⟨A.deeper (envX qual scope s.heap.objs.size f (.ref c') clos), s.heap.objs.size, z, s, foots bm, fun e s' => wpAny (model W.prog W.w) (A.deeper (envX qual scope s.heap.objs.size f (.ref c') clos)) (leaving (envX qual scope s.heap.objs.size f (.ref c') clos) e) (fun _ s'' => R (.error e) s'') (fun e' s'' => R (.error e') s'') s'⟩
  have hfr : Γ.A.frames = some (envX qual scope s.heap.objs.size f (.ref c') clos :: l) := Around.frames_deeper hA
  have S := h Γ c' Rm.deeper rfl rfl hfr (fun e s₂ h' tk' m mu z' he c hbs fy => leave_fly c hfr rfl rfl hbs hns fy fun h'' fy' => by
    have := hErr e h'' tk' he fy'
    rw [c.rest]
    exact this) _ (start (A := Γ.A) (E := Γ.E) (m := []) (tk := s.toks + ([] : List (Str × Value)).length) P (Nat.le_refl _) hns' hk₁)
  refine kla_codeExpr (wpAny_mono S (fun v s' hs => ?_) fun _ _ x => x)
  obtain ⟨σ', c, hk9⟩ := hs
  obtain ⟨z', a, h3⟩ := c.endsFB rfl rfl hk9
  rw [c.rest]
  exact hQ _ _ _ _ _ _ a ⟨rfl, rfl, h3⟩
end
end Mine
namespace Mine
open PySem PySem.W PyProof.Rows PySem.Calls

/-- what is to be read of an exception class of one's own -/
structure ExcK (M : Model) (h : Heap) (C : Addr) : Prop where
  tup : Looks M h (isInstance (.ref C) (.type "tuple")) false
  exc : Looks M h (isExcClass (.ref C)) true
  sub : Looks M h (isSubtype (.ref C) (.ref C)) true
  base : Looks M h (isSubtype (.ref C) (.type "BaseException")) true
  mty : Looks M h (typeOf (.ref C)) (.type "type")
theorem ExcK.keeps {M : Model} {h h' : Heap} {C : Addr} (x : ExcK M h C) (k : h.StaysIn h') : ExcK M h' C := ⟨x.tup.keeps k, x.exc.keeps k, x.sub.keeps k, x.base.keeps k, x.mty.keeps k⟩

section
variable {prog : Program} {w : World} {A : Around} {E : Value → Shared → Prop} {s : Shared} {env : Env}
theorem typeOf_ref {M : Model} {e : Addr} {o : Obj} {cls : Value} {Q : Value → Shared → Prop} (ho : s.heap.get? e = some o) (hc : o.cls = cls) (h : Q cls s) : wpAny M A (typeOf (.ref e)) Q E s :=
  Looks.here (show Looks M s.heap (typeOf (.ref e)) o.cls from (Looks.ld ho).andThen .now) (hc ▸ h)
theorem excMatches_K {M : Model} {e C : Addr} {o : Obj} {Q : Bool → Shared → Prop} (X : ExcK M s.heap C) (ho : s.heap.get? e = some o) (hc : o.cls = .ref C) (h : Q true s) : wpAny M A (excMatches (.ref e) (.ref C)) Q E s := by
  unfold excMatches
  refine wpAny_bind (X.tup.here ?_)
  rw [if_neg (by decide)]
  refine wpAny_bind (wpAny_pure ?_)
  simp only [List.forIn_cons, List.forIn_nil]
  refine wpAny_bind (wpAny_bind (wpAny_bind (X.exc.here ?_)))
  simp only [Bool.not_true, Bool.false_eq_true, if_false]
  refine wpAny_pure ?_
  refine wpAny_pure ?_
  refine wpAny_bind (typeOf_ref ho hc ?_)
  refine wpAny_bind (wpAny_bind (wpAny_bind (X.sub.here ?_)))
  simp only [if_true]
  exact wpAny_pure (wpAny_pure (wpAny_pure h))
theorem handleBy_K {e C : Addr} {t : Expr} {b₀ : Stmt} {suite : List Stmt} {pos : Pos} {rest : List ExceptHandler} {Q : Flow → Shared → Prop}
    (h : wpAny (model prog w) (A.mark (some (.ref e))) (eval t env) (fun c s₁ => c = .ref C ∧ ExcK (model prog w) s₁.heap C ∧ (∃ o, s₁.heap.get? e = some o ∧ o.cls = .ref C) ∧
      wpAny (model prog w) (A.mark (some (.ref e))) (setFlight (.ref e) none) (fun _ s₂ => wpAny (model prog w) (A.mark (some (.ref e))) (execs (b₀ :: suite) env) Q (notedBy (model prog w) (A.mark (some (.ref e))) env (cameBackBy (model prog w) A env E)) s₂) (notedBy (model prog w) (A.mark (some (.ref e))) env (cameBackBy (model prog w) A env E)) s₁)
      (notedBy (model prog w) (A.mark (some (.ref e))) env (cameBackBy (model prog w) A env E)) s) :
    wpAny (model prog w) A (handleBy (.ref e) env (.ExceptHandler (some t) none (b₀ :: suite) pos :: rest)) Q E s := by
  refine wpAny_handleBy_cons (codeAny_handlers_test (wpAny_mono h (fun c s₁ h₁ => ?_) fun _ _ x => x)) (by intro q; cases q)
  obtain ⟨rfl, X, ⟨o, ho, hc⟩, hk⟩ := h₁
  exact excMatches_K X ho hc (codeAny_handlers_suite hk)
theorem raise_own {C : Addr} {ex : Expr} {pos : Pos} {Q : Flow → Shared → Prop} (hh : A.handled = none)
    (h : wpAny (model prog w) A (eval ex env) (fun v s₁ => ∃ a ob vs, v = .ref a ∧ ExcK (model prog w) s₁.heap C ∧ s₁.heap.get? a = some ob ∧ ob.cls = .ref C ∧ ob.data = .fields vs ∧ vs[1]? = some .none ∧ E (.ref a) s₁) E s) :
    wpAny (model prog w) A (exec (.Raise (some ex) none pos) env) Q E s := by
  show wpAny (model prog w) A (do standAt pos; raiseStmt env (some (do let v ← eval ex env; standAt pos; pure v)) none) Q E s
  refine wpAny_bind (wpAny_standAt ?_)
  unfold raiseStmt
  dsimp only
  refine wpAny_bind (wpAny_bind (wpAny_mono h (fun v s₁ h₁ => wpAny_bind (wpAny_standAt (wpAny_pure ?_))) fun _ _ x => x))
  obtain ⟨a, ob, vs, rfl, X, ha, hcls, hd, h1, hE⟩ := h₁
  have hnt : ∀ {Q' : Bool → Shared → Prop}, Q' false s₁ → wpAny (model prog w) A (isType (.ref a)) Q' E s₁ := by
    intro Q' hq
    simp only [isType, loadHead]
    refine wpAny_bind (wpAny_loadPart ha ?_)
    rw [hd]; exact wpAny_pure hq
  refine wpAny_bind (wpAny_pure ?_)
  dsimp only
  refine wpAny_bind (wpAny_holding ?_)
  unfold excFromValue isExcClass
  refine wpAny_bind (wpAny_bind (hnt ?_))
  simp only [Bool.false_eq_true, if_false]
  refine wpAny_pure ?_
  simp only [Bool.false_eq_true, if_false]
  unfold isInstance
  refine wpAny_bind (wpAny_bind (typeOf_ref ha hcls (X.base.here ?_)))
  simp only [if_true]
  refine wpAny_pure ?_
  refine wpAny_bind (hnt ?_)
  simp only [Bool.false_eq_true, if_false]
  unfold raisedInstance
  refine wpAny_bind (wpAny_bind (typeOf_ref ha hcls (wpAny_bind (X.mty.here ?_))))
  rw [if_pos (by decide)]
  refine wpAny_pure ?_
  unfold setFlight raiseNew
  refine wpAny_bind (wpAny_bind (wpAny_field ha hd h1 ?_))
  rw [if_neg (by decide)]
  refine wpAny_pure (wpAny_bind (wpAny_handled ?_))
  rw [hh]
  first
    | exact wpAny_throw hE
    | exact wpAny_bind (wpAny_pure (wpAny_throw hE))
end
section
variable {W : Wd} {Γ : Ctx} {s : Shared} {env : Env}
theorem exec_Raise' {C : Addr} {ex : Expr} {pos : Pos} {k : Flow → St → Prop} {σ : St} (R : Room 1 Γ.A) (X : ExcK (model W.prog W.w) W.B C)
    (h : Sat W Γ (eval ex env) (fun v σ' => ∃ e, v = .ref e ∧ (e, .raw (NewX C)) ∈ σ'.mu ∧ ∀ s', Coh W Γ σ' s' → Γ.E (.ref e) s') σ) : Sat W Γ (exec (.Raise (some ex) none pos) env) k σ := fun s c =>
  raise_own R.handled (h.run c fun v s' σ' c' ⟨e, ev, hm, hE⟩ => by
    obtain ⟨o, ho, hc, vs, a0, hd, _, h1⟩ := c'.mu _ hm
    exact ⟨e, o, vs, ev, X.keeps c'.Bh, ho, hc, hd, h1, hE s' c'⟩)

theorem Fly.after {C : Addr} {l : List Env} {bm : Mu} {z : Heap} {e : Addr} {h' : Heap} (x : Fly W C l bm z s e h') : ∃ z', After W s z bm bm [] z' h' := by
  obtain ⟨⟨B, z', a0, fl, zB, zz, zg, tb, keep, nB⟩, fr⟩ := x
  exact ⟨z', {
    keep := fun b o hb ht e => fl.1 b o (keep b o hb ht e)
    zz := zz
    zle := fun b o e => fl.1 b o (zB b o e)
    zgrow := zg
    mu := fr
    same := rfl
    tabs := tb.mono (fun _ _ e => e) (fun t ht => (tb t ht).1) fun t ht o e => fl.1 _ _ e
    nwa := fun _ h => nomatch h
    nwf := fun _ h => nomatch h
    nwd := List.nodup_nil }⟩
theorem Fly.there {C : Addr} {l : List Env} {bm : Mu} {z : Heap} {e : Addr} {h' : Heap} (x : Fly W C l bm z s e h') : ∃ o, h'.get? e = some o ∧ o.cls = .ref C := by
  obtain ⟨⟨B, z', a0, fl, _⟩, _⟩ := x
  exact fl.there
/-- the handler's frame notes the exception, and takes it -/
theorem looks_fly {C : Addr} {l : List Env} {bm : Mu} {z : Heap} {e L : Addr} {h' : Heap} {tk : Nat} {Q : Unit → Shared → Prop} {E E' : Value → Shared → Prop} {A : Around} (hA : A.frames = some (env :: l)) (hf : env.frame = some L) (hns : ∀ p ∈ bm, SlotOk p.2) (x : Fly W C (env :: l) bm z s e h')
    (hQ : ∀ h'', Fly W C (env :: l) bm z s e h'' → Q () { s with heap := h'', toks := tk }) : wpAny (model W.prog W.w) A (noteFrame (.ref e) env) (fun _ s₂ => wpAny (model W.prog W.w) A (setFlight (.ref e) none) Q E s₂) E' { s with heap := h', toks := tk } := by
  obtain ⟨⟨B, z', a0, fl, zB, zz, zg, tb, keep, nB⟩, fr⟩ := x
  refine wpAny_looks_onW hA hf fl fun h₄ hheld sm4 => ?_
  refine wpAny_landsW hheld fun h₅ fl5 sm5 => hQ h₅ ⟨⟨B, z', a0, fl5, zB, zz, zg, tb, keep, nB⟩, slots_frames hns fr (sm4.trans sm5)⟩
theorem lands_fly {C : Addr} {l : List Env} {bm : Mu} {z : Heap} {e : Addr} {h' : Heap} {tk : Nat} {Q : Unit → Shared → Prop} {E : Value → Shared → Prop} {A : Around} (hns : ∀ p ∈ bm, SlotOk p.2) (x : Fly W C l bm z s e h')
    (hQ : ∀ h'', Fly W C l bm z s e h'' → Q () { s with heap := h'', toks := tk }) : wpAny (model W.prog W.w) A (setFlight (.ref e) none) Q E { s with heap := h', toks := tk } := by
  obtain ⟨⟨B, z', a0, fl, zB, zz, zg, tb, keep, nB⟩, fr⟩ := x
  exact lands_againW fl fun h₅ fl5 sm5 => hQ h₅ ⟨⟨B, z', a0, fl5, zB, zz, zg, tb, keep, nB⟩, slots_frames hns fr sm5⟩
end
end Mine
namespace Mine
open PySem PySem.W PyProof.Rows PySem.Calls

section
variable {prog : Program} {w : World} {A : Around} {E : Value → Shared → Prop} {s : Shared} {K : Frag} {x C : Addr}
/-- what a class must be for a plain store -/
noncomputable def plainStore (K : Frag) (C : Addr) : Prop := ∃ cd, clsIn K C = some cd ∧ cd.hasDict = true ∧ cd.mro.isEmpty = false ∧ cd.mro.contains (.type "object") = true ∧ ∀ self, refuseLoop self "__setattr__" cd.mro = pure ()
theorem osa_open2 {R : Result → Shared → Prop} {ox : Obj} {od : Option Obj} {name : Str} {tk : Tok} {v : Value} {r : Option Value} (X : K.In s.heap) (I : InstAt s.heap x ox C od) (hp : plainStore K C) (ht : takerIn K C name = some r)
    (h : ∀ b, wpAny (model prog w) A.in1 (match r with | some a => Builtin.ObjectAttr.setByDescriptor a (.ref x) v | none => Builtin.ObjectAttr.storeInOwnDict (.ref x) (.ref C) (.str name tk) name v b)
      (fun fin s' => match fin with | .done f => R (.ok f) s' | .again c' => c'.quiet = true ∧ codeAny (model prog w) A c' R s') (fun e s' => R (.error e) s') s) :
    codeAny (model prog w) A (.call (.builtin "object.__setattr__") ⟨[.ref x, .str name tk, v], []⟩) R s := by
  have SF := PySem.F.store_object
  obtain ⟨cd, hc, _, ne, ho, hrf⟩ := hp
  have sub : Looks (model prog w) s.heap (isInstance (.ref x) (.type "object")) true := I.type.andThen (looks_mroIn X (by unfold mroIn; rw [hc, Option.bind_some, if_neg (by rw [ne]; decide), ho]))
  refine codeAny_call_builtin SF.slot.plain SF.entry (@check_slot (model prog w) _ _ s "object.__setattr__" "object" "__setattr__" (.ref x) [.str name tk, v] [] _ SF.kind SF.split sub (SF.args (.ref x) (.str name tk) v) ?_)
  obtain ⟨attr, ha, hr⟩ := Option.bind_eq_some_iff.mp ht
  have hm : Looks (model prog w) s.heap (mroOf (.ref C)) cd.mro := (looks_clsIn X hc).andThen .now
  have L3 : Looks (model prog w) s.heap (Builtin.ObjectAttr.storeTaker? attr) r := by
    cases attr with
    | none => cases hr; exact .now
    | some a =>
      obtain ⟨b, hb, rfl⟩ := Option.map_eq_some_iff.mp hr
      refine (looks_takesIn X hb).andThen ?_
      cases b <;> exact .now
  rw [osa_eq, refuse_eq]
  refine wpAny_bind (wpAny_bind (I.type.here (wpAny_bind (hm.here ?_))))
  rw [hrf]
  refine wpAny_pure (wpAny_bind (I.type.here (wpAny_bind ((looks_findIn X ha).here (wpAny_bind (L3.here ?_))))))
  exact h _
/-- an exception's first attribute: its dict is made -/
theorem set_first {vs : Array Value} {name : Str} {v : Value} {Q : Unit → Shared → Prop} (X : K.In s.heap) (hx : s.heap.get? x = some { cls := .ref C, data := .fields vs })
    (hs : findIn K (.ref C) "__setattr__" = some (some (.builtin "object.__setattr__"))) (hp : plainStore K C) (ht : takerIn K C name = some none)
    (h : ∀ h' tk d, (∀ b o, b ≠ x → s.heap.get? b = some o → h'.get? b = some o) → h'.get? x = some { cls := .ref C, dict := some d, data := .fields vs } → Q () { s with heap := h', toks := tk }) :
    wpAny (model prog w) A (setAttr (.ref x) name v) Q E s := by
  have I : InstAt s.heap x { cls := .ref C, data := .fields vs } C none := ⟨hx, rfl, rfl, trivial⟩
  refine set_plain X I hs ?_
  refine osa_open2 (s := { s with toks := s.toks + 1 }) X I hp ht fun b => ?_
  obtain ⟨cd, hc, hd', _⟩ := hp
  refine wpAny_bind (wpAny_pure (wpAny_bind (wpAny_bind (wpAny_loadPart hx (wpAny_bind (looks_clsIn X hc _ _ _ _ (fun _ _ e => e) ?_))))))
  rw [hd']
  simp only [Bool.not_true, Bool.false_eq_true, if_false, typeHasDict, Bool.or_self]
  refine wpAny_bind (wpAny_alloc ?_)
  refine wpAny_bind (wpAny_update (Heap.get?_push_of_some _ hx) ?_)
  have hlt : x < s.heap.objs.size := Heap.lt_size hx
  have D : ((s.heap.push { cls := .type "dict", data := .dict #[] }).update x fun o => { o with dict := some s.heap.objs.size }).get? s.heap.objs.size = some { cls := .type "dict", data := .dict #[] } :=
    (Heap.get?_update_other _ _ (Nat.ne_of_lt hlt)).trans (Heap.get?_push_size _ rfl)
  have Dx : ((s.heap.push { cls := .type "dict", data := .dict #[] }).update x fun o => { o with dict := some s.heap.objs.size }).get? x = some { cls := .ref C, dict := some s.heap.objs.size, data := .fields vs } :=
    Heap.get?_update_self _ (Heap.get?_push_of_some _ hx) rfl
  have Dk : ∀ b o, b ≠ x → s.heap.get? b = some o → ((s.heap.push { cls := .type "dict", data := .dict #[] }).update x fun o => { o with dict := some s.heap.objs.size }).get? b = some o := fun b o hb e =>
    (Heap.get?_update_other _ _ (Ne.symm hb)).trans (Heap.get?_push_of_some _ e)
  generalize hg : ((s.heap.push { cls := .type "dict", data := .dict #[] }).update x fun o => { o with dict := some s.heap.objs.size }) = g at D Dx Dk
  show wpAny (model prog w) A.in1 (pure (some s.heap.objs.size)) _ _ { s with heap := g, toks := s.toks + 1 }
  refine wpAny_pure (wpAny_bind (wpAny_pure (wpAny_bind ?_)))
  unfold nsSet
  refine wpAny_bind (wpAny_bind (wpAny_askSetting (wpAny_pure (wpAny_bind (wpAny_mkText (wpAny_bind (wpAny_loadPart D ?_)))))))
  dsimp only
  rw [show aRefKeyMayBeTheName name #[] = false from by rw [aRefKeyMayBeTheName_at]; simp]
  refine wpAny_updatePart D ?_
  have dx : s.heap.objs.size ≠ x := Nat.ne_of_gt hlt
  refine wpAny_bind (wpAny_lookBehind (Heap.get?_update_self _ D rfl) (by rfl) ?_)
  refine wpAny_pure ?_
  exact h _ _ s.heap.objs.size (fun b o hb e => (Heap.get?_update_other _ _ (Nat.ne_of_gt (Heap.lt_size e))).trans (Dk b o hb e)) ((Heap.get?_update_other _ _ dx).trans Dx)
end

noncomputable def BornX (C : Addr) (o : Obj) : Prop := ∃ vs a0, o = { cls := .ref C, data := .fields vs } ∧ vs[0]? = some a0 ∧ vs[1]? = some .none
section
variable {W : Wd} {Γ : Ctx} {s : Shared} {env : Env}
theorem x_set {e C : Addr} {name : Str} {v : Value} {k : Unit → St → Prop} {m : Loc} {post : Mu} {z : Heap} (WO : Base W W.B) (hs : findIn W.K (.ref C) "__setattr__" = some (some (.builtin "object.__setattr__")))
    (hp : plainStore W.K C) (ht : takerIn W.K C name = some none) (h : k () ⟨m, (e, .raw (NewX C)) :: post, z⟩) : Sat W Γ (setAttr (.ref e) name v) k ⟨m, (e, .raw (BornX C)) :: post, z⟩ := fun s c => by
  obtain ⟨o, ho, vs, a0, rfl, h0, h1⟩ := c.mu (e, .raw (BornX C)) (.head _)
  refine set_first (c.base WO).K ho hs hp ht fun h' tk d hk hx => ⟨_, Coh.upd (pre := []) (x := .raw (BornX C)) (y := .raw (NewX C)) c rfl (fun b o hb e => hk b o (by simpa [Asn.foot] using hb) e) ⟨_, hx, rfl, vs, a0, rfl, h0, h1⟩, h⟩
end
end Mine
namespace Mine
open PySem PySem.W PyProof.Rows PySem.Calls

section
variable {prog : Program} {w : World} {A : Around} {E : Value → Shared → Prop} {R : Result → Shared → Prop} {h : Heap} {g : Array GenState} {d : Drawn} {t : Nat} {os : OsState} {K : Frag}
variable {nm q : Str} {C N : Addr} {bs bm : List Value} {hdct : Bool} {sn : List Str} {sub : List Value} {ab : Bool} {col : Option Bool} {dd : Option Addr} {k0 k1 k2 k3 k5 : Option Value}
structure MroE (bm : List Value) (C : Addr) : Prop where
  B : (Value.ref C :: bm).contains (.type "Exception") = true
  A : (Value.ref C :: bm).contains (.type "AttributeError") = false
  N : (Value.ref C :: bm).contains (.type "NameError") = false

theorem exc_check_new {M : Model} (H : MroE bm C) {rest : List Value} {Q : Unit → Shared → Prop} (hC : h.get? C = some (excClassObj nm q C N bs bm hdct sn sub ab col dd k0 k1 k2 k3 k5 "Exception.__new__"))
    (hq : Q () ⟨h, g, d, t, os⟩) : wpAny M A (checkBuiltinCall "Exception.__new__" ⟨.ref C :: rest, []⟩) Q E ⟨h, g, d, t, os⟩ := by
  have Fn := PySem.F.excBase_Exception
  have hcont := H.B
  have hstar := Fn.noStar
  simp only [checkBuiltinCall, Fn.newKind, Fn.newSplit, Fn.newRow]
  repeat (first | refine wpAny_loadPart_at hC ?_ | (refine wpAny_isSubtype_exc hC ?_; rw [hcont]) | refine wpAny_staticBase_exc hC ?_ | refine wpAny_madeBy_exc hC ?_ | simp only [bne_self_eq_false, Bool.false_eq_true, if_false] | wp_step)
  exact hq
theorem exc_new (H : MroE bm C) {rest : List Value} (hC : h.get? C = some (excClassObj nm q C N bs bm hdct sn sub ab col dd k0 k1 k2 k3 k5 "Exception.__new__"))
    (hq : R (.ok (.ret (.ref (h.objs.size + 1)))) ⟨(h.push { cls := .type "tuple", data := .seq rest.toArray }).push
      { cls := .ref C, data := .fields #[.ref h.objs.size, .none, .none, .none, .bool false, .none] }, g, d, t, os⟩) (hrest : rest.length ≤ sizeLine) :
    codeAny (model prog w) A (.builtin "Exception.__new__" ⟨.ref C :: rest, []⟩) R ⟨h, g, d, t, os⟩ := by
  have Fn := PySem.F.excBase_Exception
  have hends := Fn.ends
  have hcB := H.B
  have hcA := H.A
  have hcN := H.N
  refine PySem.codeAny_builtinAt Fn.entry ?_
  unfold Builtin.«BaseException.__new__»
  refine PySem.wpAt_bind ?_
  show PySem.wpAt _ _ _ (stack >>= _) _ _ _
  refine PySem.wpAt_bind (PySem.wpAt_stack fun p below => PySem.wpAt_of_wpAny ?_)
  wp_walk
  refine PySem.wpAt_of_wpAny ?_
  rw [Fn.owner]
  repeat (first | with_reducible refine wpAny_madeHere_exc Fn.canon hC ?_ | with_reducible refine wpAny_loadPart_at hC ?_ | (with_reducible refine wpAny_isSubtype_exc hC ?_; first | rw [hcB] | rw [hcA] | rw [hcN]) | wp_step)
  show R _ _
  rw [Heap.size_push]
  exact hq
theorem exc_type_call {A₂ : Around} (H : MroE bm C) {fI : Addr} {rest : List Value} (X : K.In h) (hC : h.get? C = some (excClassObj nm q C N bs bm hdct sn sub ab col dd k0 k1 k2 k3 k5 "Exception.__new__"))
    (hi : findIn K (.ref C) "__init__" = some (some (.ref fI))) (hf : isFn K (.ref fI) = true) (hrest : rest.length ≤ sizeLine)
    (hq : codeAny (model prog w) A (.call (.ref fI) ⟨.ref (h.objs.size + 1) :: rest, []⟩) (InitBack (h.objs.size + 1) R) ⟨(h.push { cls := .type "tuple", data := .seq rest.toArray }).push
      { cls := .ref C, data := .fields #[.ref h.objs.size, .none, .none, .none, .bool false, .none] }, g, d, t, os⟩) :
    wpAny (model prog w) A (Builtin.«type.__call__» ⟨.ref C :: rest, []⟩) (fun fin s' => match fin with | .done f => R (.ok f) s' | .again c' => c'.quiet = true ∧ codeAny (model prog w) A₂ c' R s') (fun e s' => R (.error e) s') ⟨h, g, d, t, os⟩ := by
  have Fn := PySem.F.excBase_Exception
  repeat (first | with_reducible refine wpAny_loadPart_at hC ?_ | with_reducible refine wpAny_madeBy_exc hC ?_ | wp_step)
  refine codeAny_call_builtin_code (Code.quiet_builtin _ Fn.quiet) (exc_check_new H hC ?_)
  refine exc_new H hC ?_ hrest
  show wpAny _ _ _ _ _ _
  have k : ∀ b o, h.get? b = some o → ((h.push { cls := .type "tuple", data := .seq rest.toArray }).push { cls := .ref C, data := .fields #[.ref h.objs.size, .none, .none, .none, .bool false, .none] }).get? b = some o :=
    fun b o e => Heap.get?_push_of_some _ (Heap.get?_push_of_some _ e)
  have hC₁ := k _ _ hC
  have hget : ((h.push { cls := .type "tuple", data := .seq rest.toArray }).push
      { cls := .ref C, data := .fields #[.ref h.objs.size, .none, .none, .none, .bool false, .none] }).get? (h.objs.size + 1) = some
      { cls := .ref C, data := .fields #[.ref h.objs.size, .none, .none, .none, .bool false, .none] } := by heap_get
  have hcC : (Value.ref C :: bm).contains (.ref C) = true := by simp
  unfold isInstance
  repeat (first | with_reducible refine wpAny_loadPart_at hget ?_ | (with_reducible refine wpAny_isSubtype_exc hC₁ ?_; rw [hcC]) | wp_step)
  show wpAny _ _ (typeLookup (.ref C) _) _ _ _
  refine ((looks_findIn X hi).keeps k).here ?_
  refine wpAny_holding (wpAny_bind (((bind_fn X (.ref (h.objs.size + 1)) (beq_iff_eq.mp hf)).keeps k).here ?_))
  refine wpAny_bind (wpAny_call (codeAny_mono hq fun r s' z => ?_))
  rcases r with e | (v | _ | _ | _) <;> first | exact z | exact z.elim | skip
  obtain ⟨rfl, z⟩ := z
  exact wpAny_pure (wpAny_pure z)
theorem exc_call (H : MroE bm C) {fI : Addr} {rest : List Value} (X : K.In h) (hC : h.get? C = some (excClassObj nm q C N bs bm hdct sn sub ab col dd k0 k1 k2 k3 k5 "Exception.__new__"))
    (hi : findIn K (.ref C) "__init__" = some (some (.ref fI))) (hf : isFn K (.ref fI) = true) (hrest : rest.length ≤ sizeLine)
    (hq : codeAny (model prog w) (A.under (.builtin "type.__call__" ⟨.ref C :: rest, []⟩)) (.call (.ref fI) ⟨.ref (h.objs.size + 1) :: rest, []⟩) (InitBack (h.objs.size + 1) R) ⟨(h.push { cls := .type "tuple", data := .seq rest.toArray }).push
      { cls := .ref C, data := .fields #[.ref h.objs.size, .none, .none, .none, .bool false, .none] }, g, d, t, os⟩) :
    codeAny (model prog w) A (.call (.ref C) ⟨rest, []⟩) R ⟨h, g, d, t, os⟩ := by
  have f1 := tc_lookup
  have f2 := tc_bind (.ref C)
  have hT : (⟨h, g, d, t, os⟩ : Shared).TypeIs (.ref C) "type" := ⟨_, hC, rfl⟩
  refine codeAny_of_tree ?_
  show wpAny _ _ (callAny (.ref C) _) _ _ _
  repeat (any_goals (first | assumption | with_reducible refine wpAny_loadPart_at hC ?_ | wp_step))
  refine ⟨rfl, ?_⟩
  exact codeAny_call_builtin_at (Code.quiet_builtin _ (by decide +kernel)) entry_typeCall (wpAny_check_type_call_sub hC (exc_type_call H X hC hi hf hrest hq))
end

theorem x_make {W : Wd} {n : Nat} {C fI : Addr} {args : List Value} {z : Heap} {nm q : Str} {N : Addr} {bs bm : List Value} {hdct : Bool} {sn : List Str} {sub : List Value} {ab : Bool} {col : Option Bool} {dd : Option Addr} {k0 k1 k2 k3 k5 : Option Value} (WO : Base W W.B) (H : MroE bm C)
    (hC : W.K.lookup C = some (excClassObj nm q C N bs bm hdct sn sub ab col dd k0 k1 k2 k3 k5 "Exception.__new__")) (hi : findIn W.K (.ref C) "__init__" = some (some (.ref fI))) (hf : isFn W.K (.ref fI) = true) (hargs : args.length ≤ 1000)
    (init : ∀ e, SpecC W n (.ref fI) (.ref e :: args) [(e, .raw (BornX C))] z (NoNew fun r bm' z' => r = .none ∧ bm' = [(e, .raw (NewX C))])) :
    SpecC W (n + 1) (.ref C) args [] z (fun r _ nw _ => ∃ e, r = .ref e ∧ nw = [(e, .raw (NewX C))]) := by
  intro A s R Rm Pr hQ
  have b : Base W s.heap := (WO.keeps Pr.Bz).keeps Pr.zle
  obtain ⟨h, g, d, t, os⟩ := s
  refine exc_call H b.K (b.K _ _ hC) hi hf (by rw [sizeLine_eq]; omega) ?_
  have k1 : ∀ b o, h.get? b = some o → ((h.push { cls := .type "tuple", data := .seq args.toArray }).push { cls := .ref C, data := .fields #[.ref h.objs.size, .none, .none, .none, .bool false, .none] }).get? b = some o :=
    fun b o e => Heap.get?_push_of_some _ (Heap.get?_push_of_some _ e)
  have gx : ((h.push { cls := .type "tuple", data := .seq args.toArray }).push { cls := .ref C, data := .fields #[.ref h.objs.size, .none, .none, .none, .bool false, .none] }).get? (h.objs.size + 1) = some { cls := .ref C, data := .fields #[.ref h.objs.size, .none, .none, .none, .bool false, .none] } := by
    have := Heap.get?_push_size (h.push { cls := .type "tuple", data := .seq args.toArray }) (o := { cls := .ref C, data := .fields #[.ref h.objs.size, .none, .none, .none, .bool false, .none] }) rfl
    rwa [Heap.size_push] at this
  have sz : ((h.push { cls := .type "tuple", data := .seq args.toArray }).push { cls := .ref C, data := .fields #[.ref h.objs.size, .none, .none, .none, .bool false, .none] }).objs.size = h.objs.size + 2 := by rw [Heap.size_push, Heap.size_push]
  have zn : ∀ a, h.objs.size ≤ a → z.get? a = none := fun a ha => by
    cases e : z.get? a with
    | none => rfl
    | some o => exact absurd (Heap.lt_size (Pr.zle _ _ e)) (Nat.not_lt.mpr ha)
  have tl : ∀ a, h.objs.size ≤ a → a ∉ W.tabs.map (·.1) := fun a ha ht => by
    obtain ⟨p, hp, rfl⟩ := List.mem_map.mp ht
    exact absurd (Pr.tlow p hp) (Nat.not_lt.mpr ha)
  generalize hg : (h.push { cls := .type "tuple", data := .seq args.toArray }).push { cls := .ref C, data := .fields #[.ref h.objs.size, .none, .none, .none, .bool false, .none] } = h2 at *
  have Pr' : Pre W ⟨h2, g, d, t, os⟩ z [(h.objs.size + 1, .raw (BornX C))] := {
    zle := fun b o e => k1 b o (Pr.zle b o e)
    Bz := Pr.Bz
    Bn := by show _ ≤ h2.objs.size; rw [sz]; exact Nat.le_trans Pr.Bn (Nat.le_add_right _ _)
    mu := fun p hp => by rw [List.mem_singleton.mp hp]; exact ⟨_, gx, _, _, rfl, rfl, rfl⟩
    muz := fun a ha => by
      have ha' : a = h.objs.size + 1 := by simpa [foots, Asn.foot] using ha
      have hge : h.objs.size ≤ a := by rw [ha']; exact Nat.le_succ _
      exact ⟨zn a hge, tl a hge⟩
    mund := by simp [foots, Asn.foot]
    tabs := Pr.tabs.mono (fun _ _ e => e) (fun t ht => (Pr.tabs t ht).1) fun t ht o e => k1 _ _ e
    tlow := fun t ht => by have := Pr.tlow t ht; show _ < h2.objs.size; rw [sz]; exact Nat.lt_of_lt_of_le this (Nat.le_add_right _ _) }
  refine init (h.objs.size + 1) _ _ _ Rm.make Pr' fun r bm' nw z' h' tk' a p => ?_
  obtain ⟨rfl, rfl, rfl⟩ := p
  have ft : foots [(h.objs.size + 1, Asn.raw (BornX C))] = [h.objs.size + 1] := by simp [foots, Asn.foot]
  refine ⟨rfl, hQ (.ref (h.objs.size + 1)) [] [(h.objs.size + 1, .raw (NewX C))] z' h' tk' ?_ ⟨_, rfl, rfl⟩⟩
  exact {
    keep := fun b o hb ht e => a.keep b o (fun hm => by
      rw [ft] at hm
      have hb' : b = h.objs.size + 1 := by simpa using hm
      have := Heap.lt_size e
      rw [hb'] at this
      exact absurd this (by show ¬ _ < h.objs.size; omega)) ht (k1 b o e)
    zz := a.zz
    zle := a.zle
    zgrow := fun b o e => (a.zgrow b o e).imp id fun q => by
      have q' : h2.objs.size ≤ b := q
      rw [sz] at q'
      exact Nat.le_trans (Nat.le_add_right _ 2) q'
    mu := fun _ h => nomatch h
    same := rfl
    tabs := a.tabs
    nwa := a.mu
    nwf := fun c hc => by
      have hc' : c = h.objs.size + 1 := by simpa [foots, Asn.foot] using hc
      have hge : h.objs.size ≤ c := by rw [hc']; exact Nat.le_succ _
      refine ⟨hge, ?_⟩
      cases e : z'.get? c with
      | none => rfl
      | some o =>
        exfalso
        rcases a.zgrow c o e with ⟨o', q⟩ | q
        · rw [zn c hge] at q; cases q
        · have q' : h2.objs.size ≤ c := q
          rw [sz, hc'] at q'
          omega
    nwd := by simp [foots, Asn.foot] }
end Mine
namespace Mine
open PySem PySem.W PyProof.Rows PySem.Calls

section
variable {W : Wd} {Γ : Ctx} {s : Shared} {env : Env}
/-- the around and the way out are of no account to what stands in the heap -/
theorem Coh.re {Γ' : Ctx} {σ : St} (c : Coh W Γ σ s) (hL : Γ'.L = Γ.L) (hz : Γ'.z₀ = Γ.z₀) (hs : Γ'.s₀ = Γ.s₀) (hb : Γ'.bm = Γ.bm) : Coh W Γ' σ s := by
  obtain ⟨A, L, z₀, s₀, bm, E⟩ := Γ
  obtain ⟨A', L', z₀', s₀', bm', E'⟩ := Γ'
  dsimp only at hL hz hs hb
  subst hL hz hs hb
  exact ⟨c.rest, c.ns, c.Lnew, c.keep, c.zle, c.z0, c.zgrow, c.zL, c.mu, c.muz, c.munew, c.mund, c.tabs, c.tlow, c.Bz, c.Bn⟩

theorem exec_Try' {C : Addr} {l : List Env} {body : List Stmt} {t : Expr} {b₀ : Stmt} {suite : List Stmt} {hp pos : Pos} {k : Flow → St → Prop} {m : Loc} {bm mu : Mu} {z : Heap} {Err : Prop} (X : ExcK (model W.prog W.w) W.B C) (hA : Γ.A.frames = some (env :: l)) (hf : env.frame = some Γ.L)
    (hns : ∀ p ∈ bm, SlotOk p.2)
    (h : ∀ Γ' : Ctx, Γ'.A = Γ.A → Γ'.L = Γ.L → Γ'.z₀ = Γ.z₀ → Γ'.bm = Γ.bm →
      (∀ e s₂ h' tk', Err → Coh W Γ' ⟨m, bm ++ mu, z⟩ s₂ → Fly W C (env :: l) ((Γ.L, .raw (NsO (mget m))) :: bm) z s₂ e h' → Γ'.E (.ref e) { s₂ with heap := h', toks := tk' }) →
      Sat W Γ' (execs body env) (fun fl σ => fl ≠ .next ∧ k fl σ) ⟨m, bm ++ mu, z⟩)
    (hname : ∀ (A' : Around) (s' : Shared) (Q : Value → Shared → Prop) (E' : Value → Shared → Prop), W.B.StaysIn s'.heap → Q (.ref C) s' → wpAny (model W.prog W.w) A' (eval t env) Q E' s')
    (hsuite : ∀ (Γ' : Ctx) (z' : Heap), Γ'.L = Γ.L → Γ'.z₀ = Γ.z₀ → z.StaysIn z' → Err → Sat W Γ' (execs (b₀ :: suite) env) k ⟨m, bm ++ mu, z'⟩) :
    Sat W Γ (exec (.Try body [.ExceptHandler (some t) none (b₀ :: suite) hp] [] [] pos) env) k ⟨m, bm ++ mu, z⟩ := fun s c => by
  refine wpAny_Try_except ?_
  have S := h ⟨Γ.A, Γ.L, Γ.z₀, Γ.s₀, Γ.bm, fun e s₁ => wpAny (model W.prog W.w) Γ.A (noteFrame e env) (fun _ s₂ => wpAny (model W.prog W.w) Γ.A (setFlight e none) (fun _ s₃ => wpAny (model W.prog W.w) Γ.A (handleBy e env [.ExceptHandler (some t) none (b₀ :: suite) hp]) (fun a s' => ∃ σ', Coh W Γ σ' s' ∧ k a σ') Γ.E s₃) Γ.E s₂) Γ.E s₁⟩ rfl rfl rfl rfl (fun e s₂ h' tk' he c₂ fy => ?_) s (c.re rfl rfl rfl rfl)
  · refine wpAny_mono S (fun fl s₁ ⟨σ₁, c₁, hne, hk⟩ => ?_) fun _ _ x => x
    cases fl with
    | next => exact absurd rfl hne
    | cont => exact ⟨σ₁, c₁.re rfl rfl rfl rfl, hk⟩
    | brk => exact ⟨σ₁, c₁.re rfl rfl rfl rfl, hk⟩
    | ret v => exact ⟨σ₁, c₁.re rfl rfl rfl rfl, hk⟩
  · have hns' : ∀ p ∈ ((Γ.L, Asn.raw (NsO (mget m))) :: bm), SlotOk p.2 := fun p hp => by
      rcases List.mem_cons.mp hp with rfl | hp
      · exact .inl ⟨_, rfl⟩
      · exact hns p hp
    refine looks_fly hA hf hns' fy fun h4 fy4 => ?_
    refine handleBy_K (C := C) ?_
    obtain ⟨z4, a4⟩ := fy4.after
    have c4 : Coh W Γ ⟨m, bm ++ mu, z4⟩ { s₂ with heap := h4, toks := tk' } := (Coh.back (Γ := Γ) (nw := []) (c₂.re rfl rfl rfl rfl) a4)
    refine hname _ _ _ _ c4.Bh ⟨rfl, X.keeps c4.Bh, fy4.there, ?_⟩
    refine lands_fly hns' fy4 fun h5 fy5 => ?_
    obtain ⟨z5, a5⟩ := fy5.after
    have c5 : Coh W Γ ⟨m, bm ++ mu, z5⟩ { s₂ with heap := h5, toks := tk' } := (Coh.back (Γ := Γ) (nw := []) (c₂.re rfl rfl rfl rfl) a5)
    have S2 := hsuite ⟨Γ.A.mark (some (.ref e)), Γ.L, Γ.z₀, Γ.s₀, Γ.bm, notedBy (model W.prog W.w) (Γ.A.mark (some (.ref e))) env (cameBackBy (model W.prog W.w) Γ.A env Γ.E)⟩ z5 rfl rfl a5.zz he _ (c5.re rfl rfl rfl rfl)
    exact wpAny_mono S2 (fun fl s6 ⟨σ6, c6, hk⟩ => ⟨σ6, c6.re rfl rfl rfl rfl, hk⟩) fun _ _ x => x
end
end Mine
namespace Mine
open PySem PySem.W PyProof.Rows PySem.Calls

section
variable {W : Wd} {Γ : Ctx} {σ : St} {s : Shared} {env : Env}
theorem t_chain2 {l r1 r2 : Expr} {op1 op2 : CmpOp} {pos : Pos} {whole : Sem Value} {k : Bool → St → Prop}
    (h : Sat W Γ (eval l env) (fun a σ₁ => Sat W Γ (eval r1 env) (fun b σ₂ => Sat W Γ (compareOp op1 a b) (fun c σ₃ => Sat W Γ (truthy c) (fun t σ₄ =>
      if t then Sat W Γ (eval r2 env) (fun d σ₅ => Sat W Γ (compareOp op2 b d) (fun e σ₆ => Sat W Γ (truthy e) k σ₆) σ₅) σ₄ else k false σ₄) σ₃) σ₂) σ₁) σ)
    (hm : lastMarks [op1, op2] [r1, r2] = false := by with_unfolding_all rfl) : Sat W Γ (isTrue (.Compare l [op1, op2] [r1, r2] pos) env whole) k σ := fun s c =>
  isTrue_chain (h.run c fun a s₁ σ₁ c₁ x => test_link (x.run c₁ fun b s₂ σ₂ c₂ y => y.run c₂ fun v s₃ σ₃ c₃ w => w.run c₃ fun t s₄ σ₄ c₄ q => by
    cases t
    · exact ⟨σ₄, c₄, q⟩
    · exact test_last (Sat.run q c₄ fun d s₅ σ₅ c₅ u => u.run c₅ fun e s₆ σ₆ c₆ o => o s₆ c₆))) hm
theorem e_chain2 {l r1 r2 : Expr} {op1 op2 : CmpOp} {pos : Pos} {k : Value → St → Prop}
    (h : Sat W Γ (eval l env) (fun a σ₁ => Sat W Γ (eval r1 env) (fun b σ₂ => Sat W Γ (compareOp op1 a b) (fun c σ₃ => Sat W Γ (truthy c) (fun t σ₄ =>
      if t then Sat W Γ (eval r2 env) (fun d σ₅ => Sat W Γ (compareOp op2 b d) k σ₅) σ₄ else k c σ₄) σ₃) σ₂) σ₁) σ)
    (hm : lastMarks [op1, op2] [r1, r2] = false := by with_unfolding_all rfl) : Sat W Γ (eval (.Compare l [op1, op2] [r1, r2] pos) env) k σ := fun s c =>
  Compare_chain (h.run c fun a s₁ σ₁ c₁ x => chain_link (x.run c₁ fun b s₂ σ₂ c₂ y => y.run c₂ fun v s₃ σ₃ c₃ w => w.run c₃ fun t s₄ σ₄ c₄ q => by
    cases t
    · exact ⟨σ₄, c₄, q⟩
    · exact chain_last (Sat.run q c₄ fun d s₅ σ₅ c₅ u => u s₅ c₅))) hm
end
end Mine
namespace Mine
open PySem PySem.W PyProof.Rows PySem.Calls

theorem cellsFrom_acc : ∀ (names : List (Str × NameKind)) (n : Nat) (acc : List (Str × Addr)), cellsFrom n names acc = cellsFrom n names [] ++ acc
  | [], n, acc => rfl
  | (name, kind) :: r, n, acc => by
    unfold cellsFrom
    split
    · rw [cellsFrom_acc r (n + 1) ((name, n) :: acc), cellsFrom_acc r (n + 1) [(name, n)], List.append_assoc]; rfl
    · exact cellsFrom_acc r n acc
/-- the cells of a comprehension's own, empty -/
noncomputable def cellN (scope : Scope) (C : Addr) : Mu := (cellsFrom (C + 1) scope.names []).map fun p => (p.2, Asn.cell none)
theorem foots_cellN (scope : Scope) (C : Addr) : foots (cellN scope C) = (cellsFrom (C + 1) scope.names []).map (·.2) := by
  unfold cellN foots
  induction cellsFrom (C + 1) scope.names [] with
  | nil => rfl
  | cons p r ih => rw [List.map_cons, List.flatMap_cons, ih]; rfl

section
variable {W : Wd} {Γ : Ctx} {s : Shared} {env : Env}
theorem newEnv_comp {M : Model} {A : Around} {E : Value → Shared → Prop} {scope : Scope} {globals : Addr} {closure : List (Str × Addr)} {qual : Str} {outer : Env} {Q : Env → Shared → Prop}
    (hQ : ∀ h', h'.Ns s.heap.objs.size (fun _ => none) → (∀ b o, s.heap.get? b = some o → h'.get? b = some o) → CellsOk h' (s.heap.objs.size + 1) (cellsFrom (s.heap.objs.size + 1) scope.names []) →
      Q (newEnv scope s.heap.objs.size globals (cellsFrom (s.heap.objs.size + 1) scope.names closure) qual none .none (some outer) builtinsNs) { s with heap := h' }) :
    wpAny M A (newFunctionEnv scope globals closure [] qual none .none (some outer)) Q E s := by
  simp only [newFunctionEnv, Option.isSome_some, if_true]
  refine wpAny_bind (wpAny_alloc ?_)
  refine wpAny_bind (wpAny_layCells _ (fun name kind cells => by cases hkc : kind == NameKind.cell <;> simp [hkc]) _ _ _ _ ?_)
  have ok := cellsFrom_ok scope.names (s.heap.push { cls := .type "dict", data := .dict #[] }) (s.heap.objs.size + 1) [] ⟨fun _ _ hm => (nomatch hm), List.Pairwise.nil⟩ (by rw [Heap.size_push]; exact Nat.le_refl _)
  rw [Heap.size_push] at ok
  rw [show ({ s with heap := s.heap.push { cls := .type "dict", data := .dict #[] } } : Shared).heap.objs.size = s.heap.objs.size + 1 from Heap.size_push ..]
  rw [List.forIn_nil]
  refine wpAny_bind (wpAny_pure (wpAny_pure ?_))
  exact hQ _ ((Heap.Ns.new s.heap (.type "dict")).keeps (pushCells_keeps _ _)) (fun b o e => pushCells_keeps _ _ b o (Heap.get?_push_of_some _ e)) ok

noncomputable abbrev compOut (W : Wd) (Γ : Ctx) (k : St → Prop) (r : Result) (s' : Shared) : Prop := r = .ok .next ∧ ∃ σ', Coh W Γ σ' s' ∧ k σ'
/-- what a part of a comprehension does -/
noncomputable def CSat (W : Wd) (Γ : Ctx) (c : Code) (k : St → Prop) (σ : St) : Prop := ∀ s, Coh W Γ σ s → codeAny (model W.prog W.w) Γ.A c (compOut W Γ k) s

noncomputable abbrev compState (Γ : Ctx) (scope : Scope) (D C : Addr) (σ : St) : St := ⟨[], (D, .list []) :: (Γ.L, .raw (NsO (mget σ.m))) :: (cellN scope C ++ σ.mu), σ.z⟩
noncomputable abbrev compEnvA (scope : Scope) (cl : List (Str × Addr)) (C : Addr) (env : Env) : Env := compEnvC scope (cellsFrom (C + 1) scope.names cl) C env

theorem comp_coreG {e : Expr} {scope : Scope} {cl : List (Str × Addr)} {itv : Value} {σ : St} {k : Addr → Addr → St → Prop} (hkind : scope.kind = .function) (c : Coh W Γ σ s) {E : Value → Shared → Prop} {RR : Value → Addr → Result → Shared → Prop}
    (loop : ∀ D C : Addr, CSat W (Γ.at C fun _ _ => False) (.compStart e 0 itv (.ref D) (compEnvA scope cl C env)) (k D C) (compState Γ scope D C σ))
    (hRR : ∀ D C σ' s', Coh W (Γ.at C fun _ _ => False) σ' s' → k D C σ' → RR (.ref D) C (.ok .next) s') :
    wpAny (model W.prog W.w) Γ.A (newList []) (fun acc s₃ => wpAny (model W.prog W.w) Γ.A (newFunctionEnv scope env.globals cl [] env.qual none .none (some env)) (fun cenv s₄ =>
      codeAny (model W.prog W.w) Γ.A (.compStart e 0 itv acc { cenv with scope := relabel scope env }) (RR acc cenv.locals) s₄) E s₃) E s := by
  refine wpAny_newObj_type (newEnv_comp (fun h₁ hns₁ hk₁ ok => ?_))
  dsimp only at hns₁ hk₁ ok ⊢
  obtain ⟨m₂, mu₀, z₂⟩ := σ
  have c1 : Coh W Γ ⟨m₂, (s.heap.objs.size, .list []) :: mu₀, z₂⟩ { s with heap := s.heap.push { cls := .type "list", dict := none, data := .seq ([] : List Value).toArray }, toks := s.toks } :=
    c.alloc (x := .list []) (fun b o e => Heap.get?_push_of_some _ e) ⟨0, Heap.get?_push_size _ rfl⟩ (fun b hb => by rw [List.mem_singleton.mp hb]; exact Nat.le_refl _) (by simp [Asn.foot])
  generalize hD : s.heap.objs.size = D at *
  generalize hC : (s.heap.push { cls := .type "list", dict := none, data := .seq ([] : List Value).toArray }).objs.size = C at *
  have hCs : ({ s with heap := s.heap.push { cls := .type "list", dict := none, data := .seq ([] : List Value).toArray }, toks := s.toks } : Shared).heap.objs.size = C := hC
  have c2 := c1.into (E := fun _ _ => False) (tk := s.toks) (h' := h₁) (C := C) (by rw [hCs]; exact Nat.le_refl _) hns₁ hk₁
  have hlow : ∀ b ∈ foots (cellN scope C), C < b ∧ ∃ o, h₁.get? b = some o := fun b hb => by
    rw [foots_cellN] at hb
    obtain ⟨⟨nm, a⟩, hq, rfl⟩ := List.mem_map.mp hb
    obtain ⟨⟨o, ho, _⟩, hlt⟩ := ok.empty nm a hq
    exact ⟨hlt, o, ho⟩
  have c3 : Coh W (Γ.at C fun _ _ => False) ⟨[], cellN scope C ++ ((Γ.L, .raw (NsO (mget m₂))) :: (D, .list []) :: mu₀), z₂⟩ { s with heap := h₁, toks := s.toks } := by
    refine c2.adopts (fun p hp => ?_) (fun b hb => ?_) ?_
    · obtain ⟨⟨nm, a⟩, hq, rfl⟩ := List.mem_map.mp hp
      exact (ok.empty nm a hq).1
    · obtain ⟨hlt, _⟩ := hlow b hb
      refine ⟨?_, fun e => absurd hlt (by rw [e]; exact Nat.lt_irrefl _), fun hm => ?_, ?_⟩
      · cases q : z₂.get? b with
        | none => rfl
        | some o => exact absurd (Heap.lt_size (c1.zle _ _ q)) (by rw [hCs]; exact Nat.not_lt.mpr (Nat.le_of_lt hlt))
      · have hm' : b = Γ.L ∨ b ∈ foots ((D, Asn.list []) :: mu₀) := by simpa [foots, Asn.foot] using hm
        rcases hm' with rfl | hm'
        · exact absurd c1.ltL (by rw [hCs]; exact Nat.not_lt.mpr (Nat.le_of_lt hlt))
        · exact absurd (c1.mult hm') (by rw [hCs]; exact Nat.not_lt.mpr (Nat.le_of_lt hlt))
      · exact Nat.le_trans (by have := c1.size; rw [hCs] at this; exact this) (Nat.le_of_lt hlt)
    · rw [foots_cellN, List.nodup_iff_pairwise_ne, List.pairwise_map]
      exact ok.apart
  have c4 : Coh W (Γ.at C fun _ _ => False) (compState Γ scope D C ⟨m₂, mu₀, z₂⟩) { s with heap := h₁, toks := s.toks } := by
    refine c3.perm (fun p hp => ?_) ?_
    · simp only [List.mem_cons, List.mem_append] at hp ⊢
      rcases hp with h | h | h | h
      · exact .inr (.inr (.inl h))
      · exact .inr (.inl h)
      · exact .inl h
      · exact .inr (.inr (.inr h))
    · have := c3.mund
      simp only [foots, List.flatMap_append, List.flatMap_cons, Asn.foot] at this ⊢
      refine (List.Perm.nodup_iff ?_).mp this
      show (_ ++ (Γ.L :: D :: _)).Perm (D :: Γ.L :: (_ ++ _))
      refine (List.perm_middle).trans ?_
      refine (List.Perm.cons _ List.perm_middle).trans ?_
      exact List.Perm.swap _ _ _
  exact codeAny_mono (loop D C _ c4) fun r s' ⟨e1, σ', c', hk⟩ => by subst e1; exact hRR D C σ' s' c' hk

/-- the end of a comprehension: its list and the frame around it -/
noncomputable def CDone (Γ : Ctx) (σ₂ : St) (kk : Addr → List Value → Mu → Heap → Prop) (D : Addr) (σ : St) : Prop := ∃ vs mu', ((D, Asn.list vs) :: (Γ.L, Asn.raw (NsO (mget σ₂.m))) :: mu').Sublist σ.mu ∧ σ₂.z.StaysIn σ.z ∧ kk D vs mu' σ.z

theorem e_compG {elt target iter : Expr} {ifs : List Expr} {gs : List Comprehension} {scope : Scope} {pos : Pos} {cl : List (Str × Addr)} {k : Value → St → Prop} {σ : St}
    (h : Sat W Γ (eval iter env) (fun xv σ₁ => Sat W Γ (pyIter xv) (fun itv σ₂ => ∃ kk : Addr → List Value → Mu → Heap → Prop,
      (∀ D C : Addr, CSat W (Γ.at C fun _ _ => False) (.compStart (.ListComp elt (⟨target, iter, ifs, 0⟩ :: gs) scope pos) 0 itv (.ref D) (compEnvA scope cl C env)) (CDone Γ σ₂ kk D) (compState Γ scope D C σ₂)) ∧
      (∀ D vs mu z, σ₂.z.StaysIn z → kk D vs mu z → k (.ref D) ⟨σ₂.m, (D, .list vs) :: mu, z⟩)) σ₁) σ)
    (hclos : closureFor scope env = pure cl) (hkind : scope.kind = .function) (hnames : ∀ y ∈ scope.names, y.2 = .local → scope.names.lookup y.1 = some .local)
    (hs : ∀ x, foldedSetIterable iter env x = pure x) : Sat W Γ (eval (.ListComp elt (⟨target, iter, ifs, 0⟩ :: gs) scope pos) env) k σ := fun s c => by
  rw [eval_ListComp]
  refine wpAny_comprehension_free (use := none) rfl hs hclos hkind hnames (h.run c fun xv s₁ σ₁ c₁ h₁ => h₁.run c₁ fun itv s₂ σ₂ c₂ h₂ => ?_)
  obtain ⟨kk, hloop, hk⟩ := h₂
  refine comp_coreG (RR := fun acc C => compPost (model W.prog W.w) Γ.A Γ.E none _ acc C) hkind c₂ hloop fun D C σ' s' c' hd => ?_
  obtain ⟨vs, mu', hsub, hz, hkk⟩ := hd
  refine ⟨_, c'.ns, fun h'' hs'' => ⟨_, ?_, hk D vs mu' σ'.z hz hkk⟩⟩
  have c3 : Coh W (Γ.at C fun _ _ => False) ⟨σ'.m, [(D, .list vs)] ++ (Γ.L, .raw (NsO (mget σ₂.m))) :: mu', σ'.z⟩ s' := Coh.sub (mu := σ'.mu) c' hsub
  exact Coh.outof (pre := [_]) (tk := s'.toks) c3 c₂.Lnew fun b o hb e => (hs''.2 b hb).trans e

theorem asg_compG {x : Str} {px spos : Pos} {elt target iter : Expr} {ifs : List Expr} {gs : List Comprehension} {scope : Scope} {pos : Pos} {cl : List (Str × Addr)} {k : Flow → St → Prop} {σ : St}
    (h : Sat W Γ (eval iter env) (fun xv σ₁ => Sat W Γ (pyIter xv) (fun itv σ₂ => ∃ kk : Addr → List Value → Mu → Heap → Prop,
      (∀ D C : Addr, CSat W (Γ.at C fun _ _ => False) (.compStart (.ListComp elt (⟨target, iter, ifs, 0⟩ :: gs) scope pos) 0 itv (.ref D) (compEnvA scope cl C env)) (CDone Γ σ₂ kk D) (compState Γ scope D C σ₂)) ∧
      (∀ D vs mu z, σ₂.z.StaysIn z → kk D vs mu z → k .next ⟨(x, .ref D) :: σ₂.m, (D, .list vs) :: mu, z⟩)) σ₁) σ)
    (hsw : swapsWith (.ListComp elt (⟨target, iter, ifs, 0⟩ :: gs) scope pos) (some (.Name x px)) spos.line env = pure true)
    (hclos : closureFor scope env = pure cl) (hkind : scope.kind = .function) (hnames : ∀ y ∈ scope.names, y.2 = .local → scope.names.lookup y.1 = some .local)
    (hs : ∀ x, foldedSetIterable iter env x = pure x) (hL : env.locals = Γ.L) (hke : env.scope.kind = .function) (hl : env.kindOf x = some .local) :
    Sat W Γ (exec (.Assign [.Name x px] (.ListComp elt (⟨target, iter, ifs, 0⟩ :: gs) scope pos) spos) env) k σ := fun s c => by
  rw [exec_Assign_Name_used _ _ _ _ hsw]
  refine wpAny_bind (wpAny_standAt (wpAny_bind ?_))
  show wpAny _ Γ.A (do let _ ← comprehension (.ListComp elt (⟨target, iter, ifs, 0⟩ :: gs) scope pos) scope env _ (newList []) false (eval iter env) (some (assign (.Name x px) env))) _ _ s
  refine wpAny_bind (wpAny_mono (wpAny_comprehension_free (use := some (assign (.Name x px) env)) (Q := fun _ s' => ∃ σ', Coh W Γ σ' s' ∧ k .next σ') rfl hs hclos hkind hnames
    (h.run c fun xv s₁ σ₁ c₁ h₁ => h₁.run c₁ fun itv s₂ σ₂ c₂ h₂ => ?_)) (fun _ s' hq => wpAny_pure (wpAny_pure hq)) fun _ _ e => e)
  obtain ⟨kk, hloop, hk⟩ := h₂
  refine comp_coreG (RR := fun acc C => compPost (model W.prog W.w) Γ.A Γ.E (some (assign (.Name x px) env)) (fun _ s' => ∃ σ', Coh W Γ σ' s' ∧ k .next σ') acc C) hkind c₂ hloop fun D C σ' s' c₃ hd => ?_
  obtain ⟨vs, mu', hsub, hz, hkk⟩ := hd
  have c' : Coh W (Γ.at C fun _ _ => False) ⟨σ'.m, (D, .list vs) :: (Γ.L, .raw (NsO (mget σ₂.m))) :: mu', σ'.z⟩ s' := Coh.sub (mu := σ'.mu) c₃ hsub
  show wpAny _ Γ.A (assign (.Name x px) env (.ref D)) _ _ _
  have hin : (Γ.L, Asn.raw (NsO (mget σ₂.m))) ∈ (D, Asn.list vs) :: (Γ.L, Asn.raw (NsO (mget σ₂.m))) :: mu' := .tail _ (.head _)
  have hq := c'.muz Γ.L (List.mem_flatMap.mpr ⟨_, hin, by simp [Asn.foot]⟩)
  have nsL : s'.heap.Ns Γ.L (mget σ₂.m) := NsO.ns (c'.mu _ hin)
  refine wpAny_assign_Name (wpAny_storeName_local hl (hL ▸ nsL) (fun h₂ hn₂ hs₂ => ?_) (by rw [hke]; rfl))
  have c'' : Coh W (Γ.at C fun _ _ => False) ⟨σ'.m, [(D, .list vs)] ++ (Γ.L, .raw (NsO (mget ((x, .ref D) :: σ₂.m)))) :: mu', σ'.z⟩ { s' with heap := h₂, toks := s'.toks + 1 } :=
    Coh.upd (pre := [(D, .list vs)]) (x := .raw (NsO (mget σ₂.m))) (y := .raw (NsO (mget ((x, .ref D) :: σ₂.m)))) c' rfl (fun b o hb e => (hs₂.2 b (by rw [hL]; simpa [Asn.foot] using hb)).trans e) (NsO.of (hL ▸ hn₂))
  refine ⟨_, c''.ns, fun h₃ hs₃ => ⟨_, ?_, hk D vs mu' σ'.z hz hkk⟩⟩
  exact Coh.outof (pre := [_]) (tk := s'.toks + 1) c'' c₂.Lnew fun b o hb e => (hs₃.2 b hb).trans e
end
end Mine
namespace Mine
open PySem PySem.W PyProof.Rows PySem.Calls

/-- one turn of the innermost `for` -/
noncomputable abbrev innerTurn (e elt target : Expr) (ifs : List Expr) (d : Nat) (p : Pos) (it acc : Value) (env : Env) : Sem PySem.Fin := do
  standAt p
  match ← pyNext it with
  | none => pure (.done .next)
  | some v =>
    letOwnedTupleGo target it v
    assign target env v
    let mut ok := true
    for c in ifs do
      if ok then ok ← isTrue c env (eval c env)
    if ok then
      (do let _ ← call (.builtin "list.append") [acc, ← eval elt env])
    again (.compLoop e d it acc env)
theorem turn_1 (elt target iter : Expr) (ifs : List Expr) (scope : Scope) (pos : Pos) (it acc : Value) (env : Env) :
    compTurn (.ListComp elt [⟨target, iter, ifs, 0⟩] scope pos) 0 it acc env = innerTurn (.ListComp elt [⟨target, iter, ifs, 0⟩] scope pos) elt target ifs 0 iter.pos it acc env := by rfl
theorem turn_2 (elt t1 i1 target iter : Expr) (ifs1 ifs : List Expr) (scope : Scope) (pos : Pos) (it acc : Value) (env : Env) :
    compTurn (.ListComp elt [⟨t1, i1, ifs1, 0⟩, ⟨target, iter, ifs, 0⟩] scope pos) 1 it acc env = innerTurn (.ListComp elt [⟨t1, i1, ifs1, 0⟩, ⟨target, iter, ifs, 0⟩] scope pos) elt target ifs 1 iter.pos it acc env := by rfl
theorem turn_o (elt t1 i1 target iter : Expr) (ifs : List Expr) (scope : Scope) (pos : Pos) (it acc : Value) (env : Env) :
    compTurn (.ListComp elt [⟨t1, i1, [], 0⟩, ⟨target, iter, ifs, 0⟩] scope pos) 0 it acc env = (do
      standAt i1.pos
      match ← pyNext it with
      | none => pure (.done .next)
      | some v =>
        letOwnedTupleGo t1 it v
        assign t1 env v
        let x ← eval iter env
        standAt iter.pos
        let x ← foldedSetIterable iter env x
        let _ ← runOwn (.compStart (.ListComp elt [⟨t1, i1, [], 0⟩, ⟨target, iter, ifs, 0⟩] scope pos) 1 (← holding [x] (pyIter x)) acc env) env
        again (.compLoop (.ListComp elt [⟨t1, i1, [], 0⟩, ⟨target, iter, ifs, 0⟩] scope pos) 0 it acc env)) := by rfl

section
variable {prog : Program} {w : World} {A : Around} {R : Result → Shared → Prop} {s : Shared} {env : Env}
theorem compLoop_ownG {elt target : Expr} {gens : List Comprehension} {ifs : List Expr} {scope : Scope} {pos p : Pos} {d : Nat} {it acc : Value} (hshape : compTurn (.ListComp elt gens scope pos) d it acc env = innerTurn (.ListComp elt gens scope pos) elt target ifs d p it acc env) (I : Nat → Shared → Prop)
    (turn : ∀ n s, I n s → wpAny (model prog w) A (pyNext it) (fun r s₁ => match r with
      | none => R (.ok .next) s₁
      | some v => wpAny (model prog w) A (letOwnedTupleGo target it v) (fun _ s₁ => wpAny (model prog w) A (assign target env v) (fun _ s₂ =>
          wpAny (model prog w) A (Tests ifs env) (fun ok s₃ =>
            if ok = true then wpAny (model prog w) A (eval elt env) (fun x s₄ =>
              wpAny (model prog w) A (call (.builtin "list.append") [acc, x]) (fun _ s₅ => ∃ m, m < n ∧ I m s₅) (notedBy (model prog w) A env fun e s' => R (.error e) s') s₄) (notedBy (model prog w) A env fun e s' => R (.error e) s') s₃
            else ∃ m, m < n ∧ I m s₃) (notedBy (model prog w) A env fun e s' => R (.error e) s') s₂) (notedBy (model prog w) A env fun e s' => R (.error e) s') s₁) (notedBy (model prog w) A env fun e s' => R (.error e) s') s₁) (notedBy (model prog w) A env fun e s' => R (.error e) s') s)
    (n : Nat) (h : I n s) : codeAny (model prog w) A (.compLoop (.ListComp elt gens scope pos) d it acc env) R s := by
  refine codeAny_loop rfl I (fun n s hI => ?_) n h
  show wpAny _ A ((compTurn (.ListComp elt gens scope pos) d it acc env).onRaise (fun x => do noteFrame x env; theTreesLotGoes x)) _ _ s
  refine wpAny_noted ?_
  rw [hshape]
  refine wpAny_bind (wpAny_standAt (wpAny_bind (wpAny_mono (turn n s hI) (fun r s₁ h₁ => ?_) fun _ _ h' => h')))
  cases r with
  | none => exact wpAny_pure h₁
  | some v =>
    refine wpAny_bind (wpAny_mono h₁ (fun _ s₁' h₁' => ?_) fun _ _ h' => h')
    refine wpAny_bind (wpAny_mono h₁' (fun _ s₂ h₂ => wpAny_bind (wpAny_mono h₂ (fun ok s₃ h₃ => ?_) fun _ _ h' => h')) fun _ _ h' => h')
    cases ok with
    | false => exact wpAny_pure ⟨rfl, h₃⟩
    | true =>
      exact wpAny_bind (wpAny_bind (wpAny_mono h₃ (fun x s₄ h₄ => wpAny_bind (wpAny_mono h₄ (fun _ s₅ h₅ => wpAny_pure (wpAny_pure ⟨rfl, h₅⟩)) fun _ _ h' => h')) fun _ _ h' => h'))
theorem compLoop_outG {elt t1 i1 target iter : Expr} {ifs : List Expr} {scope : Scope} {pos : Pos} {it acc : Value} (hf : ∀ x, foldedSetIterable iter env x = pure x) (I : Nat → Shared → Prop)
    (turn : ∀ n s, I n s → wpAny (model prog w) A (pyNext it) (fun r s₁ => match r with
      | none => R (.ok .next) s₁
      | some v => wpAny (model prog w) A (letOwnedTupleGo t1 it v) (fun _ s₁ => wpAny (model prog w) A (assign t1 env v) (fun _ s₂ =>
          wpAny (model prog w) A (eval iter env) (fun x s₃ => wpAny (model prog w) A (pyIter x) (fun it' s₄ =>
            codeAny (model prog w) A (.compStart (.ListComp elt [⟨t1, i1, [], 0⟩, ⟨target, iter, ifs, 0⟩] scope pos) 1 it' acc env) (fun r s₅ => r = .ok .next ∧ ∃ m, m < n ∧ I m s₅) s₄) (notedBy (model prog w) A env fun e s' => R (.error e) s') s₃)
            (notedBy (model prog w) A env fun e s' => R (.error e) s') s₂) (notedBy (model prog w) A env fun e s' => R (.error e) s') s₁) (notedBy (model prog w) A env fun e s' => R (.error e) s') s₁) (notedBy (model prog w) A env fun e s' => R (.error e) s') s)
    (n : Nat) (h : I n s) : codeAny (model prog w) A (.compLoop (.ListComp elt [⟨t1, i1, [], 0⟩, ⟨target, iter, ifs, 0⟩] scope pos) 0 it acc env) R s := by
  refine codeAny_loop rfl I (fun n s hI => ?_) n h
  show wpAny _ A ((compTurn (.ListComp elt [⟨t1, i1, [], 0⟩, ⟨target, iter, ifs, 0⟩] scope pos) 0 it acc env).onRaise (fun x => do noteFrame x env; theTreesLotGoes x)) _ _ s
  refine wpAny_noted ?_
  rw [turn_o]
  refine wpAny_bind (wpAny_standAt (wpAny_bind (wpAny_mono (turn n s hI) (fun r s₁ h₁ => ?_) fun _ _ h' => h')))
  cases r with
  | none => exact wpAny_pure h₁
  | some v =>
    refine wpAny_bind (wpAny_mono h₁ (fun _ s₁' h₁' => ?_) fun _ _ h' => h')
    refine wpAny_bind (wpAny_mono h₁' (fun _ s₂ h₂ => wpAny_bind (wpAny_mono h₂ (fun x s₃ h₃ => ?_) fun _ _ h' => h')) fun _ _ h' => h')
    refine wpAny_bind (wpAny_standAt (wpAny_bind (wpAny_of_eq (hf x) ?_)))
    refine wpAny_bind (wpAny_holding (wpAny_mono h₃ (fun it' s₄ h₄ => ?_) fun _ _ h' => h'))
    refine wpAny_bind (wpAny_runOwn (codeAny_mono h₄ fun r s₅ h₅ => ?_))
    obtain ⟨rfl, h₅⟩ := h₅
    exact wpAny_pure ⟨rfl, h₅⟩
theorem compStart_two {elt t1 i1 target iter : Expr} {ifs ifs1 : List Expr} {scope : Scope} {pos : Pos} {it acc : Value}
    (h0 : codeAny (model prog w) A (.compLoop (.ListComp elt [⟨t1, i1, ifs1, 0⟩, ⟨target, iter, ifs, 0⟩] scope pos) 1 it acc env) R s)
    (h : wpAny (model prog w) A (pyIter it) (fun it' s' => codeAny (model prog w) A (.compLoop (.ListComp elt [⟨t1, i1, ifs1, 0⟩, ⟨target, iter, ifs, 0⟩] scope pos) 1 it' acc env) R s')
      (notedBy (model prog w) A env fun x s' => R (.error x) s') s) :
    codeAny (model prog w) A (.compStart (.ListComp elt [⟨t1, i1, ifs1, 0⟩, ⟨target, iter, ifs, 0⟩] scope pos) 1 it acc env) R s := by
  refine codeAny_of_tree ?_
  show wpAny _ _ ((compStart (.ListComp elt [⟨t1, i1, ifs1, 0⟩, ⟨target, iter, ifs, 0⟩] scope pos) 1 it acc env).onRaise (fun x => do noteFrame x env; standAt theWindowsPlace)) _ _ s
  refine wpAny_notedAt ?_
  unfold compStart
  show wpAny _ _ (ask >>= _) _ _ s
  refine wpAny_bind (wpAny_askSetting (wpAny_ite ?_))
  split
  · first
      | exact wpAny_bind (wpAny_pure (wpAny_pure (And.intro rfl h0)))
      | exact wpAny_pure (And.intro rfl h0)
  · first
      | exact wpAny_bind (wpAny_rule (wpAny_bind (wpAny_standAt (wpAny_bind (wpAny_mono h (fun it' s' h' => wpAny_pure (And.intro rfl h')) fun _ _ x => x)))))
      | (refine wpAny_bind (wpAny_rule ?_); show wpAny _ _ (standAt iter.pos >>= _) _ _ s; exact wpAny_bind (wpAny_standAt (wpAny_bind (wpAny_mono h (fun it' s' h' => wpAny_pure (And.intro rfl h')) fun _ _ x => x))))
end

section
variable {W : Wd} {Γ : Ctx} {s : Shared} {env : Env}
theorem Coh.swap {m : Loc} {p q : Addr × Asn} {mu : Mu} {z : Heap} (c : Coh W Γ ⟨m, p :: q :: mu, z⟩ s) : Coh W Γ ⟨m, q :: p :: mu, z⟩ s := by
  refine c.perm (fun x hx => ?_) ?_
  · rcases List.mem_cons.mp hx with rfl | hx
    · exact .tail _ (.head _)
    · rcases List.mem_cons.mp hx with rfl | hx
      · exact .head _
      · exact .tail _ (.tail _ hx)
  · have := c.mund
    simp only [foots, List.flatMap_cons] at this ⊢
    exact (List.perm_append_comm_assoc _ _ _).nodup_iff.mp this
theorem Coh.swap12 {m : Loc} {o p q : Addr × Asn} {mu : Mu} {z : Heap} (c : Coh W Γ ⟨m, o :: p :: q :: mu, z⟩ s) : Coh W Γ ⟨m, o :: q :: p :: mu, z⟩ s := by
  refine c.perm (fun x hx => ?_) ?_
  · rcases List.mem_cons.mp hx with rfl | hx
    · exact .head _
    · rcases List.mem_cons.mp hx with rfl | hx
      · exact .tail _ (.tail _ (.head _))
      · rcases List.mem_cons.mp hx with rfl | hx
        · exact .tail _ (.head _)
        · exact .tail _ (.tail _ (.tail _ hx))
  · have := c.mund
    simp only [foots, List.flatMap_cons] at this ⊢
    exact (List.Perm.append_left _ (List.perm_append_comm_assoc _ _ _)).nodup_iff.mp this
/-- one object comes to the front -/
theorem Coh.front {m : Loc} {pre post : Mu} {p : Addr × Asn} {z : Heap} (c : Coh W Γ ⟨m, pre ++ p :: post, z⟩ s) : Coh W Γ ⟨m, p :: (pre ++ post), z⟩ s := by
  refine c.perm (fun x hx => ?_) ?_
  · rcases List.mem_cons.mp hx with rfl | hx
    · exact List.mem_append_right _ (.head _)
    · rcases List.mem_append.mp hx with h | h
      · exact List.mem_append_left _ h
      · exact List.mem_append_right _ (.tail _ h)
  · have := c.mund
    simp only [foots, List.flatMap_append, List.flatMap_cons] at this ⊢
    exact (List.perm_append_comm_assoc _ _ _).nodup_iff.mp this
theorem CSat.weak {c : Code} {k : St → Prop} {σ σ' : St} (h : CSat W Γ c k σ') (hc : ∀ s, Coh W Γ σ s → Coh W Γ σ' s) : CSat W Γ c k σ := fun s x => h s (hc s x)
theorem CSat.mono {c : Code} {k k' : St → Prop} {σ : St} (h : CSat W Γ c k σ) (hk : ∀ σ', k σ' → k' σ') : CSat W Γ c k' σ := fun s x => codeAny_mono (h s x) fun r s' ⟨e, σ', c', q⟩ => ⟨e, σ', c', hk _ q⟩

theorem cs_start1 {elt target iter : Expr} {ifs : List Expr} {rest : List Comprehension} {scope : Scope} {pos : Pos} {it : Addr} {acc : Value} {n : Nat} {z : Heap} {P : Nat → Value → Prop} {S : Nat → Obj → Prop} {k : St → Prop} {σ : St} (D : Drw W Γ.A z it n P S) (hm : (it, .raw (S 0)) ∈ σ.mu)
    (h : CSat W Γ (.compLoop (.ListComp elt (⟨target, iter, ifs, 0⟩ :: rest) scope pos) 0 (.ref it) acc env) k σ) : CSat W Γ (.compStart (.ListComp elt (⟨target, iter, ifs, 0⟩ :: rest) scope pos) 0 (.ref it) acc env) k σ := fun s c =>
  codeAny_compStart_list (h s c) (D.again _ _ _ 0 (c.mu _ hm) (h s c))
theorem cs_start2 {elt t1 i1 target iter : Expr} {ifs1 ifs : List Expr} {scope : Scope} {pos : Pos} {it : Addr} {acc : Value} {n : Nat} {z : Heap} {P : Nat → Value → Prop} {S : Nat → Obj → Prop} {k : St → Prop} {σ : St} (D : Drw W Γ.A z it n P S) (hm : (it, .raw (S 0)) ∈ σ.mu)
    (h : CSat W Γ (.compLoop (.ListComp elt [⟨t1, i1, ifs1, 0⟩, ⟨target, iter, ifs, 0⟩] scope pos) 1 (.ref it) acc env) k σ) : CSat W Γ (.compStart (.ListComp elt [⟨t1, i1, ifs1, 0⟩, ⟨target, iter, ifs, 0⟩] scope pos) 1 (.ref it) acc env) k σ := fun s c =>
  compStart_two (h s c) (D.again _ _ _ 0 (c.mu _ hm) (h s c))

theorem cs_inner {elt target : Expr} {gens : List Comprehension} {ifs : List Expr} {scope : Scope} {pos p : Pos} {d : Nat} {it Da : Addr} {n : Nat} {z₀ : Heap} {P : Nat → Value → Prop} {S : Nat → Obj → Prop} {k : St → Prop} {m₀ : Loc} {mu₀ : Mu} {vs₀ : List Value}
    (J : Nat → Loc → List Value → Mu → Heap → Prop) (hNE : NoE Γ) (hshape : compTurn (.ListComp elt gens scope pos) d (.ref it) (.ref Da) env = innerTurn (.ListComp elt gens scope pos) elt target ifs d p (.ref it) (.ref Da) env)
    (D : Drw W Γ.A z₀ it n P S) (h0 : J 0 m₀ vs₀ mu₀ z₀) (hsm : ∀ i m vs mu z, J i m vs mu z → vs.length ≤ 900000)
    (turn : ∀ (i : Nat) (v : Value) (vs : List Value) (m : Loc) (mu : Mu) (z : Heap), i < n → P i v → z₀.StaysIn z → J i m vs mu z →
      Sat W Γ (assign target env v) (fun _ σ₃ => Sat W Γ (Tests ifs env) (fun ok σ₄ =>
        if ok = true then Sat W Γ (eval elt env) (fun y σ₅ => ∃ mu', ((it, Asn.raw (S (i + 1))) :: (Da, .list vs) :: mu').Sublist σ₅.mu ∧ z₀.StaysIn σ₅.z ∧ J (i + 1) σ₅.m (vs ++ [y]) mu' σ₅.z) σ₄
        else ∃ mu', ((it, Asn.raw (S (i + 1))) :: (Da, .list vs) :: mu').Sublist σ₄.mu ∧ z₀.StaysIn σ₄.z ∧ J (i + 1) σ₄.m vs mu' σ₄.z) σ₃)
        ⟨m, (it, .raw (S (i + 1))) :: (Da, .list vs) :: mu, z⟩)
    (done : ∀ vs m mu z, z₀.StaysIn z → J n m vs mu z → k ⟨m, (Da, .list vs) :: mu, z⟩) :
    CSat W Γ (.compLoop (.ListComp elt gens scope pos) d (.ref it) (.ref Da) env) k ⟨m₀, (it, .raw (S 0)) :: (Da, .list vs₀) :: mu₀, z₀⟩ := fun s c => by
  refine compLoop_ownG hshape (fun j s' => ∃ i m vs mu z, j = n - i ∧ i ≤ n ∧ z₀.StaysIn z ∧ J i m vs mu z ∧ Coh W Γ ⟨m, (it, .raw (S i)) :: (Da, .list vs) :: mu, z⟩ s') (fun j s' hI => ?_) n
      ⟨0, m₀, vs₀, mu₀, z₀, rfl, Nat.zero_le _, fun _ _ e => e, h0, c⟩
  obtain ⟨i, m, vs, mu, z, rfl, hi, hz, hJ, c'⟩ := hI
  have hit : ∃ o, s'.heap.get? it = some o ∧ S i o := c'.mu (it, .raw (S i)) (.head _)
  have D' := D.mono hz
  rcases Nat.lt_or_ge i n with hlt | hge
  · refine D'.next i s' _ _ hlt c'.zle hit fun v h' tk hp hk hS => ?_
    have cN : Coh W Γ ⟨m, (it, .raw (S (i + 1))) :: (Da, .list vs) :: mu, z⟩ { s' with heap := h', toks := tk } := c'.iterStep hk hS
    have T := turn i v vs m mu z hlt hp hz hJ
    refine D'.own _ _ _ (i + 1) target v hS ?_
    refine wpAny_mono (T _ cN) (fun _ s₃ ⟨σ₃, c₃, h₃⟩ => ?_) fun e s₃ x => (hNE e s₃ x).elim
    refine wpAny_mono (h₃ s₃ c₃) (fun ok s₄ ⟨σ₄, c₄, h₄⟩ => ?_) fun e s₄ x => (hNE e s₄ x).elim
    cases ok with
    | false =>
      obtain ⟨mu', hsub, hz', hJ'⟩ := h₄
      rw [if_neg (by decide)]
      exact ⟨n - (i + 1), by omega, i + 1, σ₄.m, vs, mu', σ₄.z, rfl, hlt, hz', hJ', c₄.sub hsub⟩
    | true =>
      refine wpAny_mono (h₄ s₄ c₄) (fun y s₅ ⟨σ₅, c₅, h₅⟩ => ?_) fun e s₄ x => (hNE e s₄ x).elim
      obtain ⟨mu', hsub, hz', hJ'⟩ := h₅
      have c₆ : Coh W Γ ⟨σ₅.m, [(it, .raw (S (i + 1)))] ++ (Da, .list vs) :: mu', σ₅.z⟩ s₅ := c₅.sub hsub
      have ap := l_append (W := W) (Γ := Γ) (x := y) (k := fun _ σ => σ = ⟨σ₅.m, [(it, .raw (S (i + 1)))] ++ (Da, .list (vs ++ [y])) :: mu', σ₅.z⟩) (by have := hsm _ _ _ _ _ hJ; omega) rfl
      refine wpAny_mono (ap _ c₆) (fun _ s₇ ⟨σ₇, c₇, e₇⟩ => ?_) fun e s₄ x => (hNE e s₄ x).elim
      subst e₇
      exact ⟨n - (i + 1), by omega, i + 1, σ₅.m, vs ++ [y], mu', σ₅.z, rfl, hlt, hz', hJ', c₇⟩
  · obtain rfl : i = n := Nat.le_antisymm hi hge
    refine D'.stop s' _ _ c'.zle hit fun h' tk hk => ?_
    exact ⟨rfl, _, Coh.updrop (pre := []) (x := .raw (S i)) c' fun b o hb e => hk b o (by simpa [Asn.foot] using hb) e, done vs m mu z hz hJ⟩

theorem cs_outer {elt t1 i1 target iter : Expr} {ifs : List Expr} {scope : Scope} {pos : Pos} {it Da : Addr} {n : Nat} {z₀ : Heap} {P : Nat → Value → Prop} {S : Nat → Obj → Prop} {k : St → Prop} {m₀ : Loc} {mu₀ : Mu} {vs₀ : List Value}
    (J : Nat → List Value → Mu → Heap → Prop) (hNE : NoE Γ) (hf : ∀ x, foldedSetIterable iter env x = pure x)
    (D : Drw W Γ.A z₀ it n P S) (h0 : J 0 vs₀ mu₀ z₀)
    (turn : ∀ (i : Nat) (v : Value) (vs : List Value) (m : Loc) (mu : Mu) (z : Heap), i < n → P i v → z₀.StaysIn z → J i vs mu z →
      Sat W Γ (assign t1 env v) (fun _ σ₃ => Sat W Γ (eval iter env) (fun x σ₄ => Sat W Γ (pyIter x) (fun itv σ₅ =>
        CSat W Γ (.compStart (.ListComp elt [⟨t1, i1, [], 0⟩, ⟨target, iter, ifs, 0⟩] scope pos) 1 itv (.ref Da) env) (fun σ₆ => ∃ vs' mu', (∀ s, Coh W Γ σ₆ s → Coh W Γ ⟨σ₆.m, (it, .raw (S (i + 1))) :: (Da, .list vs') :: mu', σ₆.z⟩ s) ∧ z₀.StaysIn σ₆.z ∧ J (i + 1) vs' mu' σ₆.z) σ₅) σ₄) σ₃)
        ⟨m, (it, .raw (S (i + 1))) :: (Da, .list vs) :: mu, z⟩)
    (done : ∀ vs m mu z, z₀.StaysIn z → J n vs mu z → k ⟨m, (Da, .list vs) :: mu, z⟩) :
    CSat W Γ (.compLoop (.ListComp elt [⟨t1, i1, [], 0⟩, ⟨target, iter, ifs, 0⟩] scope pos) 0 (.ref it) (.ref Da) env) k ⟨m₀, (it, .raw (S 0)) :: (Da, .list vs₀) :: mu₀, z₀⟩ := fun s c => by
  refine compLoop_outG hf (fun j s' => ∃ i m vs mu z, j = n - i ∧ i ≤ n ∧ z₀.StaysIn z ∧ J i vs mu z ∧ Coh W Γ ⟨m, (it, .raw (S i)) :: (Da, .list vs) :: mu, z⟩ s') (fun j s' hI => ?_) n
      ⟨0, m₀, vs₀, mu₀, z₀, rfl, Nat.zero_le _, fun _ _ e => e, h0, c⟩
  obtain ⟨i, m, vs, mu, z, rfl, hi, hz, hJ, c'⟩ := hI
  have hit : ∃ o, s'.heap.get? it = some o ∧ S i o := c'.mu (it, .raw (S i)) (.head _)
  have D' := D.mono hz
  rcases Nat.lt_or_ge i n with hlt | hge
  · refine D'.next i s' _ _ hlt c'.zle hit fun v h' tk hp hk hS => ?_
    have cN : Coh W Γ ⟨m, (it, .raw (S (i + 1))) :: (Da, .list vs) :: mu, z⟩ { s' with heap := h', toks := tk } := c'.iterStep hk hS
    have T := turn i v vs m mu z hlt hp hz hJ
    refine D'.own _ _ _ (i + 1) t1 v hS ?_
    refine wpAny_mono (T _ cN) (fun _ s₃ ⟨σ₃, c₃, h₃⟩ => ?_) fun e s₃ x => (hNE e s₃ x).elim
    refine wpAny_mono (h₃ s₃ c₃) (fun x s₄ ⟨σ₄, c₄, h₄⟩ => ?_) fun e s₄ x => (hNE e s₄ x).elim
    refine wpAny_mono (h₄ s₄ c₄) (fun itv s₅ ⟨σ₅, c₅, h₅⟩ => ?_) fun e s₄ x => (hNE e s₄ x).elim
    refine codeAny_mono (h₅ s₅ c₅) fun r s₆ ⟨er, σ₆, c₆, vs', mu', hco, hz', hJ'⟩ => ⟨er, n - (i + 1), by omega, i + 1, σ₆.m, vs', mu', σ₆.z, rfl, hlt, hz', hJ', hco s₆ c₆⟩
  · obtain rfl : i = n := Nat.le_antisymm hi hge
    refine D'.stop s' _ _ c'.zle hit fun h' tk hk => ?_
    exact ⟨rfl, _, Coh.updrop (pre := []) (x := .raw (S i)) c' fun b o hb e => hk b o (by simpa [Asn.foot] using hb) e, done vs m mu z hz hJ⟩
end
end Mine
namespace Mine
open PySem PySem.W PyProof.Rows PySem.Calls

theorem cellsFrom_none : ∀ (names : List (Str × NameKind)) (n : Nat) (acc : List (Str × Addr)), (∀ y ∈ names, y.2 ≠ .cell) → cellsFrom n names acc = acc
  | [], n, acc, _ => rfl
  | (name, kind) :: r, n, acc, h => by
    unfold cellsFrom
    rw [if_neg (by simpa using h (name, kind) (.head _))]
    exact cellsFrom_none r n acc fun y hy => h y (.tail _ hy)
section
variable {W : Wd} {Γ : Ctx} {s : Shared} {env : Env}
theorem e_comp {elt target iter : Expr} {ifs : List Expr} {scope : Scope} {pos : Pos} {cl : List (Str × Addr)} {k : Value → St → Prop} {σ : St} (J : Nat → List Value → Mu → Heap → Prop)
    (h : Sat W Γ (eval iter env) (fun xv σ₁ => Sat W Γ (pyIter xv) (fun itv σ₂ => ∃ it n P S mu₂, CompSpec W Γ elt target ifs scope cl env J itv σ₂ it n P S mu₂ ∧
      (∀ D vs mu z, σ₂.z.StaysIn z → J n vs mu z → k (.ref D) ⟨σ₂.m, (D, .list vs) :: mu, z⟩)) σ₁) σ)
    (hclos : closureFor scope env = pure cl) (hcell : ∀ y ∈ scope.names, y.2 ≠ .cell) (hkind : scope.kind = .function) (hnames : ∀ y ∈ scope.names, y.2 = .local → scope.names.lookup y.1 = some .local)
    (hs : ∀ x, foldedSetIterable iter env x = pure x) : Sat W Γ (eval (.ListComp elt [⟨target, iter, ifs, 0⟩] scope pos) env) k σ := by
  refine e_compG (h.mono fun xv σ₁ h₁ => h₁.mono fun itv σ₂ ⟨it, n, P, S, mu₂, K, hk⟩ => ⟨fun D vs mu z => J n vs mu z, fun D C => ?_, hk⟩) hclos hkind hnames hs
  obtain ⟨m₂, mu₀, z₂⟩ := σ₂
  have e1 := K.itv
  have e2 := K.mu
  dsimp only at e1 e2
  subst e1 e2
  have hc : ∀ acc, cellsFrom (C + 1) scope.names acc = acc := fun acc => cellsFrom_none _ _ _ hcell
  have D' : Drw W (Γ.at C fun _ _ => False).A z₂ it n P S := K.drw
  unfold compState compEnvA cellN
  rw [hc, hc]
  refine CSat.weak (σ' := ⟨[], (it, .raw (S 0)) :: (D, .list []) :: (Γ.L, .raw (NsO (mget m₂))) :: mu₂, z₂⟩) ?_ (fun s c => Coh.front (pre := [_, _]) c)
  refine cs_start1 D' (.head _) ?_
  refine cs_inner (fun i _ vs mu z => i ≤ n ∧ vs.length ≤ i ∧ ∃ mu', mu = (Γ.L, .raw (NsO (mget m₂))) :: mu' ∧ J i vs mu' z) (fun _ _ h => h) (turn_1 _ _ _ _ _ _ _ _ _) D' ⟨Nat.zero_le _, Nat.le_refl _, _, rfl, K.start⟩ (fun i _ vs _ _ ⟨h1, h2, _⟩ => by have := K.small; omega) ?_ ?_
  · rintro i v vs m mu z hi hv hz ⟨_, hl, mu', rfl, hJ⟩
    refine (K.turn (Γ.at C fun _ _ => False) D i v vs m mu' z rfl rfl rfl (fun _ _ h => h) hi hv hz hJ).mono fun _ σ₃ h₃ => h₃.mono fun ok σ₄ h₄ => ?_
    cases ok with
    | false =>
      obtain ⟨mu9, h5, h6, h7⟩ := h₄
      exact ⟨_, h5, h6, hi, Nat.le_succ_of_le hl, _, rfl, h7⟩
    | true =>
      refine Sat.mono h₄ fun y σ₅ ⟨mu9, h5, h6, h7⟩ => ⟨_, h5, h6, hi, by simp; omega, _, rfl, h7⟩
  · rintro vs m mu z hz ⟨_, _, mu', rfl, hJ⟩
    exact ⟨vs, mu', List.Sublist.refl _, hz, hJ⟩
end
end Mine
namespace Mine
open PySem PySem.W PyProof.Rows PySem.Calls

section
variable {W : Wd} {Γ : Ctx} {s : Shared} {env : Env}
theorem t_add {a b : Addr} {vs ws : List Value} {k : Value → St → Prop} {m : Loc} {mu : Mu} {z : Heap} (ha : IsTup z a vs.toArray) (hb : IsTup z b ws.toArray) (hv : vs ≠ []) (hw : ws ≠ []) (hsz : vs.length + ws.length ≤ 1000)
    (h : ∀ T z', z.StaysIn z' → IsTup z' T (vs ++ ws).toArray → k (.ref T) ⟨m, mu, z'⟩) : Sat W Γ (binaryOp .Add (.ref a) (.ref b)) k ⟨m, mu, z⟩ := fun s c => by
  refine add_tuples (hsz := by rw [sizeLine_eq]; omega) c.F c.N (IsTup.keeps ha c.zle) (IsTup.keeps hb c.zle) (fun e => absurd e hv) (fun _ e => absurd e hw) fun _ _ h' F' N' => ?_
  have c' : Coh W Γ ⟨m, mu, z⟩ { s with heap := h' } := c.viaNews (tk := s.toks) F' N' fun p hp => .tail _ hp
  have c2 := c'.adopt (a := s.heap.objs.size) (x := .raw fun o => o.cls = .type "tuple" ∧ ∃ n, o.data = .seq (vs ++ ws).toArray n) ⟨_, (N' _ (.head _)).1, rfl, _, rfl⟩ (fun b hb => by rw [List.mem_singleton.mp hb]; exact c.fresh (Nat.le_refl _)) (by simp [Asn.foot])
  obtain ⟨z', h1, h2, c''⟩ := c2.freeze (pre := []) (fun b hb => by rw [List.mem_singleton.mp hb]; exact c.size)
  exact ⟨_, c'', h _ z' h1 h2⟩

theorem FramesIn.skip {l : List Env} {bm : Mu} {p : Addr × Asn} (h : FramesIn l bm) : FramesIn l (p :: bm) := fun env he => by
  obtain ⟨h1, L, f, h2, h3⟩ := h env he
  exact ⟨h1, L, f, h2, .tail _ h3⟩
theorem FramesIn.push {l : List Env} {bm : Mu} {L : Addr} {f : Str → Option Value} (h : FramesIn l bm) (h1 : env.frame = some L) (h2 : env.scope.kind ≠ .module) : FramesIn (env :: l) ((L, .raw (NsO f)) :: bm) := fun e he => by
  rcases List.mem_cons.mp he with rfl | he
  · exact ⟨h2, L, f, h1, .head _⟩
  · exact h.skip e he
theorem slots_fr {bm : Mu} {L : Addr} {f : Str → Option Value} (h : ∀ p ∈ bm, SlotOk p.2) : ∀ p ∈ ((L, Asn.raw (NsO f)) :: bm), SlotOk p.2 := fun p hp => by
  rcases List.mem_cons.mp hp with rfl | hp
  · exact .inl ⟨_, rfl⟩
  · exact h p hp
theorem slots_cell {bm : Mu} {L : Addr} {v : Option Value} (h : ∀ p ∈ bm, SlotOk p.2) : ∀ p ∈ ((L, Asn.cell v) :: bm), SlotOk p.2 := fun p hp => by
  rcases List.mem_cons.mp hp with rfl | hp
  · exact .inr ⟨_, rfl⟩
  · exact h p hp
/-- the first object goes behind the next ones -/
theorem Coh.sink {m : Loc} {p : Addr × Asn} {pre post : Mu} {z : Heap} (c : Coh W Γ ⟨m, p :: (pre ++ post), z⟩ s) : Coh W Γ ⟨m, pre ++ p :: post, z⟩ s := by
  refine c.perm (fun x hx => ?_) ?_
  · rcases List.mem_append.mp hx with h | h
    · exact .tail _ (List.mem_append_left _ h)
    · rcases List.mem_cons.mp h with rfl | h
      · exact .head _
      · exact .tail _ (List.mem_append_right _ h)
  · have := c.mund
    simp only [foots, List.flatMap_append, List.flatMap_cons] at this ⊢
    exact (List.perm_append_comm_assoc _ _ _).nodup_iff.mp this
/-- a call that never raises, from a frame that lends itself -/
theorem use_specT {C : Addr} {n : Nat} {f : Value} {args : List Value} {l : List Env} {bm mu : Mu} {m : Loc} {z : Heap} {Post : Value → Heap → Prop} {k : Value → St → Prop}
    (S : SpecE W C n f args (env :: l) ((Γ.L, .raw (NsO (mget m))) :: bm) z (fun r bm' nw z' => nw = [] ∧ bm' = (Γ.L, .raw (NsO (mget m))) :: bm ∧ Post r z') False) (R : Room n Γ.A) (hA : Γ.A.frames = some (env :: l))
    (h : ∀ r z', z.StaysIn z' → Post r z' → k r ⟨m, bm ++ mu, z'⟩) : Sat W Γ (call f args) k ⟨m, bm ++ mu, z⟩ := use_specE S R hA h fun _ _ _ _ x => x.elim
/-- a call that raises not for these arguments -/
theorem use_specN' {C : Addr} {n : Nat} {f : Value} {args : List Value} {l : List Env} {bm mu : Mu} {m : Loc} {z : Heap} {Post : Value → Heap → Prop} {Err : Prop} {k : Value → St → Prop}
    (S : SpecE W C n f args (env :: l) ((Γ.L, .raw (NsO (mget m))) :: bm) z (fun r bm' nw z' => nw = [] ∧ bm' = (Γ.L, .raw (NsO (mget m))) :: bm ∧ Post r z') Err) (hn : ¬ Err) (R : Room n Γ.A) (hA : Γ.A.frames = some (env :: l))
    (h : ∀ r z', z.StaysIn z' → Post r z' → k r ⟨m, bm ++ mu, z'⟩) : Sat W Γ (call f args) k ⟨m, bm ++ mu, z⟩ := use_specE S R hA h fun _ _ _ _ x => (hn x).elim
end
end Mine
namespace Mine
open PySem PySem.W PyProof.Rows PySem.Calls
local macro_rules | `(tactic| nest_cls) => `(tactic| first
  | exact List.Mem.head _
  | exact List.Mem.tail _ (List.Mem.head _)
  | exact List.Mem.tail _ (List.Mem.tail _ (List.Mem.head _))
  | exact List.Mem.tail _ (List.Mem.tail _ (List.Mem.tail _ (List.Mem.head _)))
  | exact List.Mem.tail _ (List.Mem.tail _ (List.Mem.tail _ (List.Mem.tail _ (List.Mem.head _))))
  | exact List.Mem.tail _ (List.Mem.tail _ (List.Mem.tail _ (List.Mem.tail _ (List.Mem.tail _ (List.Mem.head _))))))
local macro_rules | `(tactic| mem_news) => `(tactic| first | assumption | exact Room.less (by assumption) (by decide))
local macro_rules | `(tactic| tb_start) => `(tactic| first
  | ((with_reducible refine' name_l ?hv ?_ ?hL ?hk ?hl ?hd); (case hl => rfl); (case hv => first | rfl | assumption); (case hL => rfl); (case hk => rfl); (case hd => decide))
  | ((with_reducible refine' name_g ?B ?hv ?_ ?hg ?hk ?hx ?hd); (case hx => rfl); (case B => assumption); (case hv => with_unfolding_all rfl); (case hg => rfl); (case hk => rfl); (case hd => decide))
  | ((with_reducible refine' name_b ?B ?hv ?hb ?_ ?hg ?hbu ?hk ?hx ?hd ?hn); (case hx => rfl); (case B => assumption); (case hv => with_unfolding_all rfl); (case hb => with_reducible first | exact Boot.«len» | exact Boot.«range» | exact Boot.«sorted» | exact Boot.«int» | exact Boot.«max» | exact Boot.«list» | exact Boot.«dict» | exact Boot.«sum»); (case hg => rfl); (case hbu => rfl); (case hk => rfl); (case hd => decide); (case hn => decide))
  | ((with_reducible refine' name_c ?hc ?hm ?_ ?hk ?hx ?hb); (case hx => rfl); (case hc => rfl); (case hm => nest_cls); (case hk => rfl); (case hb => decide))
  | ((with_reducible refine' name_f ?hc ?hm ?_ ?hk ?hx ?hb ?hn); (case hx => rfl); (case hc => rfl); (case hm => nest_cls); (case hk => rfl); (case hb => decide); (case hn => decide)))
local macro_rules | `(tactic| tb_rel) => `(tactic| first
  | tb_start
  | with_reducible first
    | refine execs_cons' ?_
    | refine nx_next ?_
    | refine nx_ret ?_
    | refine nx_cont ?_
    | refine const_b ?_
    | refine const_n ?_
    | refine execs_nil' ?_
    | refine exec_If' ?_
    | refine exec_Ret ?_
    | refine exec_Aug ?_
    | refine exec_AugA ?_
    | refine exec_Cont ?_
    | refine e_sub ?_
    | refine e_bin ?_
    | refine e_un ?_
    | refine e_and ?_
    | refine e_or ?_
    | refine e_tup ?_
    | refine e_list ?_
    | refine e_if ?_
    | refine items_nil ?_
    | refine t_not ?_
    | refine t_and ?_
    | refine t_or ?_
    | refine truthy_b ?_
    | refine as_name ?_
    | refine bind_name ?_
    | refine io_cons ?_
    | refine io_nil ?_
    | refine i_lt ?_
    | refine i_le ?_
    | refine i_gt ?_
    | refine i_ge ?_
    | refine i_eq ?_
    | refine i_ne ?_
    | refine PyProof.Rows.ite_tt ?_
    | refine PyProof.Rows.ite_ff ?_
    | refine v_is_none ?_
    | refine v_isnt_none ?_
    | refine b_eq ?_
    | refine b_ne ?_
    | refine u_not ?_
    | refine int_int ?_
  | ((with_reducible first | refine const_i ?_ | refine const_s ?_ | refine i_add ?_ | refine i_iadd ?_ | refine i_sub ?_ | refine i_neg ?_ | refine int_bool ?_); intro _)
  | ((with_reducible first | refine exec_Asg ?_ ?h | refine exec_AsgS ?_ ?h | refine exec_AsgA ?_ ?h | refine' e_meth ?_ ?h | refine e_call ?_ ?h | refine items_cons ?_ ?h); (case h => rfl))
  | ((with_reducible first | refine e_attr ?_ ?h | refine e_cmp ?_ ?h | refine t_cmp ?_ ?h); (case h => with_unfolding_all rfl))
  | ((with_reducible refine t_plain ?_ ?he); (case he => rfl))
  | ((with_reducible refine store_l ?_ ?hL ?hk ?hl); (case hl => rfl); (case hL => rfl); (case hk => rfl))
  | ((with_reducible refine' load_l ?hv ?_ ?hL ?hk ?hl); (case hl => rfl); (case hv => first | rfl | assumption); (case hL => rfl); (case hk => rfl))
  | ((with_reducible refine exec_Expr_none ?_ ?hi ?hs); (case hi => rfl); (case hs => rfl))
  | ((with_reducible refine asg_tup2 ?R ?_ ?hs ?hw ?h1 ?h2); (case R => mem_news); (case hs => rfl); (case hw => rfl); (case h1 => rfl); (case h2 => rfl))
  | ((with_reducible refine asg_tup3 ?R ?_ ?hs ?hw ?h1 ?h2 ?h3); (case R => mem_news); (case hs => rfl); (case hw => rfl); (case h1 => rfl); (case h2 => rfl); (case h3 => rfl))
  | ((with_reducible first | refine cw_b ?_ ?he ?hp | refine cw_t ?_ ?he ?hp); (case he => rfl); (case hp => rfl))
  | ((with_reducible refine cw_z ?hf ?_ ?he ?hp); (case hf => assumption); (case he => rfl); (case hp => rfl))
  | ((with_reducible refine cw_f ?WO ?hk ?_ ?he ?hp); (case WO => assumption); (case hk => kernel_rfl); (case he => rfl); (case hp => rfl))
  | ((with_reducible refine' l_meth ?hl ?_); (case hl => exact Or.inl (by nest_cls)))
  | ((with_reducible refine cw_f0 ?WO ?hk ?_); (case WO => assumption); (case hk => kernel_rfl))
  | ((with_reducible refine' a_get ?WO ?hI ?hg ?hh ?ha ?hn ?hl ?hv ?_); (case WO => assumption); (case hI => exact Or.inl (by nest_cls)); (case hg => kernel_rfl); (case hh => kernel_rfl); (case ha => rfl); (case hn => kernel_rfl); (case hl => rfl); (case hv => rfl))
  | ((with_reducible refine' a_meth ?WO ?hI ?hg ?hf ?ht ?hl ?_); (case WO => assumption); (case hI => exact Or.inl (by nest_cls)); (case hg => kernel_rfl); (case hf => rfl); (case ht => kernel_rfl); (case hl => rfl))
  | ((with_reducible refine a_set0 ?WO ?hs ?hp ?ht ?hh ?hz ?_); (case WO => assumption); (case hs => rfl); (case hp => kernel_rfl); (case ht => rfl); (case hh => kernel_rfl); (case hz => first | simp | simp [fput]))
  | ((with_reducible refine max_ints ?R ?_); (case R => mem_news); intro _)
  | ((with_reducible show Sat _ _ (execs _ _) _ _); refine execs_cons' ?_))
section
variable {X : Xd} (WO : XOk X)
include WO
theorem length_spec {l : Addr} {z : Heap} {vs : List Value} {sp : List Span} (hl : LZ z l vs) (hp : Pairs z vs sp) :
    SpecC (TW X) 2 (.ref 135) [.ref l] [] z (NoNew fun r _ z' => ∃ t, r = .int (lenF sp) t) := by
  refine enter (n := 1) [(Str.ofString "spans", .ref l)] WO (by rfl) (by kernel_rfl) (by rfl) (locs rfl) (by decide) (fun Γ R hE hz₀ hbm => ?_)
  repeat tb_rel
  with_reducible refine for_any (fun i m mu z' => (∃ t, mget m (Str.ofString "total") = some (.int (lenF (sp.take i)) t)) ∧ mget m (Str.ofString "spans") = some (.ref l) ∧ mu = []) hE.back ?_ ?hs
  case hs => intro _; rfl
  repeat tb_rel
  refine iter_list hl.isList fun it => ⟨it, _, _, LI l, _, rfl, rfl, drw_list R.handled hl.isList, ⟨⟨_, by rfl⟩, by rfl, rfl⟩, ?_, ?_⟩
  · rintro i v m mu z₁ hi hv hz ⟨⟨t, h1⟩, h2, rfl⟩
    obtain ⟨⟨a, b⟩, hs, T, t1, t2, rfl, hT⟩ := hp.get hv
    refine un_pair R (IsTup.keeps hT hz) ?_
    repeat tb_rel
    refine ⟨_, List.Sublist.refl _, hz, ⟨_, (congrArg (fun x => some (Value.int x _)) ?_ : some _ = _)⟩, h2, rfl⟩
    rw [lenF, lenF, List.take_add_one, hs]
    simp
  · rintro m mu z₁ hz ⟨⟨t, h1⟩, h2, rfl⟩
    repeat tb_rel
    refine ⟨[], rfl, fun _ h => (nomatch h), t, ?_⟩
    rw [hp.length, List.take_length]; rfl

theorem borders_spec {l : Addr} {z : Heap} {vs : List Value} {sp : List Span} (hl : LZ z l vs) (hp : Pairs z vs sp) (hn : sp.length ≤ 1000) :
    SpecC (TW X) 2 (.ref 65) [.ref l] [] z (NoNew fun r _ z' => ∃ a us, r = .ref a ∧ LZ z' a us ∧ All2 AInt us (bordF sp)) := by
  refine enterF (n := 1) [(Str.ofString "spans", .ref l)] WO (by rfl) (by kernel_rfl) (by rfl) (locs rfl) (by decide) (fun Γ R hE hz₀ hbm => ?_)
  repeat tb_rel
  refine new_list (fun f => ?_)
  repeat tb_rel
  with_reducible refine for_any (fun i m mu z' => ∃ us, mget m (Str.ofString "found") = some (.ref f) ∧ mget m (Str.ofString "spans") = some (.ref l) ∧ mu = [(f, .list us)] ∧ All2 AInt us (bordF (sp.take i))) hE.back ?_ ?hs
  case hs => intro _; rfl
  repeat tb_rel
  refine iter_list hl.isList fun it => ⟨it, _, _, LI l, _, rfl, rfl, drw_list R.handled hl.isList, ⟨[], by rfl, by rfl, rfl, .nil⟩, ?_, ?_⟩
  · rintro i v m mu z₁ hi hv hz ⟨us, h1, h2, rfl, h3⟩
    obtain ⟨⟨a, b⟩, hs, T, t1, t2, rfl, hT⟩ := hp.get hv
    refine un_pair R (IsTup.keeps hT hz) ?_
    repeat tb_rel
    have hlen : us.length ≤ 2000 := by
      rw [h3.length, bordF_length, List.length_take]; omega
    refine l_append (pre := [_]) (by omega) ?_
    refine ⟨rfl, ?_⟩
    repeat tb_rel
    refine l_append (pre := [_]) (by simp; omega) ?_
    refine ⟨rfl, ?_⟩
    repeat tb_rel
    refine ⟨_, List.Sublist.refl _, hz, _, h1, h2, rfl, ?_⟩
    have e : bordF (sp.take (i + 1)) = bordF (sp.take i) ++ [a] ++ [b] := by
      rw [List.take_add_one, hs]; simp [bordF]
    rw [e]
    exact (h3.snoc ⟨_, rfl⟩).snoc ⟨_, rfl⟩
  · rintro m mu z₁ hz ⟨us, h1, h2, rfl, h3⟩
    repeat tb_rel
    refine ⟨[(f, .list us)], List.Sublist.refl _, fun z' hz' hf => ⟨_, us, rfl, hf _ (.head _), ?_⟩⟩
    rw [hp.length, List.take_length] at h3
    exact h3
end
/-- where the merging stands -/
noncomputable abbrev MrgJ (a1 a2 f : Addr) (sp1 sp2 : List Span) (n : Nat) (m : Loc) (mu : List (Addr × Asn)) (z' : Heap) : Prop := ∃ us F at_ to_ t t', mget m (Str.ofString "first") = some (.ref a1) ∧ mget m (Str.ofString "second") = some (.ref a2) ∧ mget m (Str.ofString "found") = some (.ref f) ∧ mget m (Str.ofString "at") = some (.int (at_ : Nat) t) ∧ mget m (Str.ofString "to") = some (.int (to_ : Nat) t') ∧ mu = [(f, .list us)] ∧ All2 AInt us F ∧ Mrg (bordF sp1) (bordF sp2) at_ to_ F ∧ n + at_ + to_ = (bordF sp1).length + (bordF sp2).length
section
variable {X : Xd} (WO : XOk X)
include WO
theorem merged_spec {l1 l2 : Addr} {z : Heap} {vs1 vs2 : List Value} {sp1 sp2 : List Span} (hl1 : LZ z l1 vs1) (hp1 : Pairs z vs1 sp1) (hn1 : sp1.length ≤ 1000) (hl2 : LZ z l2 vs2) (hp2 : Pairs z vs2 sp2) (hn2 : sp2.length ≤ 1000) (hc1 : Canon sp1) (hc2 : Canon sp2) :
    SpecC (TW X) 3 (.ref 72) [.ref l1, .ref l2] [] z (NoNew fun r _ z' => ∃ a us ps, r = .ref a ∧ LZ z' a us ∧ All2 AInt us ps ∧ ps.length ≤ 2 * (sp1.length + sp2.length) ∧ Incr ps ∧ ∀ x, x ∈ ps ↔ x ∈ bordF sp1 ∨ x ∈ bordF sp2) := by
  refine enterF (n := 2) [(Str.ofString "one", .ref l1), (Str.ofString "other", .ref l2)] WO (by rfl) (by kernel_rfl) (by rfl) (locs rfl) (by decide) (fun Γ R hE hz₀ hbm => ?_)
  repeat tb_rel
  refine use_spec0 (borders_spec WO hl1 hp1 hn1).spec R (fun r _ z1 hz1 h1 => ?_)
  obtain ⟨a1, us1, rfl, hA1, hA⟩ := h1
  repeat tb_rel
  refine use_spec0 (borders_spec WO (hl2.mono hz1) (hp2.mono hz1) hn2).spec R (fun r _ z2 hz2 h2 => ?_)
  obtain ⟨a2, us2, rfl, hB2, hB⟩ := h2
  have hA2 := hA1.mono hz2
  repeat tb_rel
  refine new_list (fun f => ?_)
  repeat tb_rel
  have lA := bordF_length sp1
  have lB := bordF_length sp2
  refine while_any (MrgJ a1 a2 f sp1 sp2)
    hE ((bordF sp1).length + (bordF sp2).length) ⟨[], [], 0, 0, _, _, by rfl, by rfl, by rfl, by rfl, by rfl, rfl, .nil, Mrg.start _ _, by omega⟩ ?_
  rintro n m mu z3 hz3 ⟨us, F, at_, to_, t, t', e1, e2, e3, e4, e5, rfl, hF, M, hn⟩
  have gA := hA2.mono hz3
  have gB := hB2.mono hz3
  have ll1 := hA.length
  have ll2 := hB.length
  have lF := hF.length
  have lM := M.len
  refine Sat.as (decide (at_ < (bordF sp1).length) || decide (to_ < (bordF sp2).length)) ?_ ?_
  · repeat tb_rel
    refine l_len (.inr gA) (by omega) fun _ => ?_
    repeat tb_rel
    refine PyProof.Rows.split_bool (fun h => ?_) (fun h => ?_)
    · refine ⟨?_, rfl⟩
      simp at h; (rw [Bool.eq_iff_iff]; simp only [decide_eq_true_eq, Bool.or_eq_true, Bool.and_eq_true, Bool.not_eq_true', decide_eq_false_iff_not, beq_iff_eq, bne_iff_ne, beq_eq_false_iff_ne, Bool.true_eq_false, Bool.false_eq_true, iff_true, iff_false, true_iff, false_iff, ne_eq, not_or, not_and]; omega)
    · repeat tb_rel
      refine l_len (.inr gB) (by omega) fun _ => ?_
      repeat tb_rel
      refine ⟨?_, rfl⟩
      simp at h; (rw [Bool.eq_iff_iff]; simp only [decide_eq_true_eq, Bool.or_eq_true, Bool.and_eq_true, Bool.not_eq_true', decide_eq_false_iff_not, beq_iff_eq, bne_iff_ne, beq_eq_false_iff_ne, Bool.true_eq_false, Bool.false_eq_true, iff_true, iff_false, true_iff, false_iff, ne_eq, not_or, not_and]; omega)
  refine PyProof.Rows.split_bool (fun h => ?_) (fun h => ?_)
  · refine execs_cons' ?_
    have hcl : ∀ {i : Nat}, i < (bordF sp1).length → ∃ t, us1[i]? = some (.int (nthI (bordF sp1) i) t) := fun {i} hi => by
      obtain ⟨v, hv, t, rfl⟩ := hA.get' (i := i) (nthI_some hi)
      exact ⟨t, hv⟩
    have hcr : ∀ {i : Nat}, i < (bordF sp2).length → ∃ t, us2[i]? = some (.int (nthI (bordF sp2) i) t) := fun {i} hi => by
      obtain ⟨v, hv, t, rfl⟩ := hB.get' (i := i) (nthI_some hi)
      exact ⟨t, hv⟩
    have h' : at_ < (bordF sp1).length ∨ to_ < (bordF sp2).length := by simpa using h
    have i1 := M.la
    have i2 := M.lb
    refine Sat.mono (k := fun fl σ' => fl = Flow.next ∧ ∃ a' t' : Nat, ∃ p ta tb tp, σ'.mu = [(f, .list us)] ∧ σ'.z = z3 ∧ mget σ'.m (Str.ofString "first") = some (.ref a1) ∧ mget σ'.m (Str.ofString "second") = some (.ref a2) ∧ mget σ'.m (Str.ofString "found") = some (.ref f) ∧
        mget σ'.m (Str.ofString "at") = some (.int (a' : Nat) ta) ∧ mget σ'.m (Str.ofString "to") = some (.int (t' : Nat) tb) ∧ mget σ'.m (Str.ofString "place") = some (.int p tp) ∧ a' + t' = at_ + to_ + 1 ∧
        (F.getLast? ≠ some p → Mrg (bordF sp1) (bordF sp2) a' t' (F ++ [p])) ∧ (F.getLast? = some p → Mrg (bordF sp1) (bordF sp2) a' t' F)) ?_ ?_
    · refine exec_If' ?_
      refine Sat.as (decide (to_ = (bordF sp2).length) || (decide (at_ < (bordF sp1).length) && decide (nthI (bordF sp1) at_ ≤ nthI (bordF sp2) to_))) ?_ ?_
      · repeat tb_rel
        refine l_len (.inr gB) (by omega) fun _ => ?_
        repeat tb_rel
        refine PyProof.Rows.split_bool (fun h => ?_) (fun h => ?_)
        · refine ⟨?_, rfl⟩
          simp at h; (rw [Bool.eq_iff_iff]; simp only [decide_eq_true_eq, Bool.or_eq_true, Bool.and_eq_true, Bool.not_eq_true', decide_eq_false_iff_not, beq_iff_eq, bne_iff_ne, beq_eq_false_iff_ne, Bool.true_eq_false, Bool.false_eq_true, iff_true, iff_false, true_iff, false_iff, ne_eq, not_or, not_and]; omega)
        · repeat tb_rel
          refine l_len (.inr gA) (by omega) fun _ => ?_
          repeat tb_rel
          simp at h
          refine PyProof.Rows.split_bool (fun h3 => ?_) (fun h3 => ?_)
          · simp at h3
            obtain ⟨_, hx⟩ := hcl (i := at_) (by omega)
            obtain ⟨_, hy⟩ := hcr (i := to_) (by omega)
            repeat tb_rel
            refine l_get (.inr gA) (by omega) (by omega) (by simpa using hx) ?_
            repeat tb_rel
            refine l_get (.inr gB) (by omega) (by omega) (by simpa using hy) ?_
            repeat tb_rel
            refine ⟨?_, rfl⟩
            (rw [Bool.eq_iff_iff]; simp only [decide_eq_true_eq, Bool.or_eq_true, Bool.and_eq_true, Bool.not_eq_true', decide_eq_false_iff_not, beq_iff_eq, bne_iff_ne, beq_eq_false_iff_ne, Bool.true_eq_false, Bool.false_eq_true, iff_true, iff_false, true_iff, false_iff, ne_eq, not_or, not_and]; omega)
          · refine ⟨?_, rfl⟩
            simp at h3
            (rw [Bool.eq_iff_iff]; simp only [decide_eq_true_eq, Bool.or_eq_true, Bool.and_eq_true, Bool.not_eq_true', decide_eq_false_iff_not, beq_iff_eq, bne_iff_ne, beq_eq_false_iff_ne, Bool.true_eq_false, Bool.false_eq_true, iff_true, iff_false, true_iff, false_iff, ne_eq, not_or, not_and]; omega)
      refine PyProof.Rows.split_bool (fun h2 => ?_) (fun h2 => ?_)
      · simp at h2
        obtain ⟨_, hx⟩ := hcl (i := at_) (by omega)
        repeat tb_rel
        refine l_get (.inr gA) (by omega) (by omega) (by simpa using hx) ?_
        repeat tb_rel
        have st := M.stepA (bordF_incr hc1) (nthI_some (show at_ < (bordF sp1).length by omega)) (by
          rcases Nat.lt_or_ge to_ (bordF sp2).length with q | q
          · exact .inr ⟨_, nthI_some q, by omega⟩
          · exact .inl (by omega)) (bordF_incr hc2)
        exact ⟨rfl, at_ + 1, to_, _, _, _, _, rfl, rfl, e1, e2, e3, rfl, e5, rfl, by omega, st.1, st.2⟩
      · simp at h2
        obtain ⟨_, hx⟩ := hcr (i := to_) (by omega)
        repeat tb_rel
        refine l_get (.inr gB) (by omega) (by omega) (by simpa using hx) ?_
        repeat tb_rel
        have st := M.stepB (bordF_incr hc1) (nthI_some (show to_ < (bordF sp2).length by omega)) (by
          rcases Nat.lt_or_ge at_ (bordF sp1).length with q | q
          · exact .inr ⟨_, nthI_some q, by have := h2.2 q; omega⟩
          · exact .inl (by omega)) (bordF_incr hc2)
        exact ⟨rfl, at_, to_ + 1, _, _, _, _, rfl, rfl, e1, e2, e3, e4, rfl, rfl, by omega, st.1, st.2⟩
    · rintro _ ⟨m', mu', z'⟩ ⟨rfl, a', t', p, ta, tb, tp, rfl, rfl, g1, g2, g3, g4, g5, g6, hs, M1, M2⟩
      refine nx_next (execs_cons' (exec_If' ?_))
      refine Sat.asd (decide (F.getLast? ≠ some p)) ?_ ?_
      · repeat tb_rel
        refine new_list (fun e0 => ?_)
        refine l_eq_nil (vs := us) (R.less (by decide)) (.inl (.tail _ (.head _))) (.inl (.head _)) ?_
        repeat tb_rel
        refine PyProof.Rows.split_bool (fun h => ?_) (fun h => ?_)
        · refine ⟨?_, rfl, rfl, [_], rfl⟩
          simp at h; subst h
          cases hF; simp
        · simp at h
          obtain ⟨v, hv⟩ : ∃ v, us.getLast? = some v := by
            cases q : us.getLast? with
            | none => exact absurd (List.getLast?_eq_none_iff.mp q) h
            | some v => exact ⟨v, rfl⟩
          obtain ⟨x, hx, _, rfl⟩ := hF.last hv
          repeat tb_rel
          refine l_last (.inl (by simp)) hv ?_
          repeat tb_rel
          refine ⟨?_, rfl, rfl, [_], rfl⟩
          rw [hx]; by_cases q : x = p <;> simp [q, bne]
      refine PyProof.Rows.split_bool (fun h => ?_) (fun h => ?_)
      · simp at h
        repeat tb_rel
        refine l_append0 (vs := us) (by omega) ?_
        refine ⟨rfl, ?_⟩
        repeat tb_rel
        exact ⟨n - 1, _, by omega, List.Sublist.refl _, hz3, _, F ++ [p], a', t', _, _, g1, g2, g3, g4, g5, rfl, hF.snoc ⟨_, rfl⟩, M1 h, by omega⟩
      · simp at h
        repeat tb_rel
        exact ⟨n - 1, _, by omega, List.Sublist.refl _, hz3, _, F, a', t', _, _, g1, g2, g3, g4, g5, rfl, hF, M2 h, by omega⟩
  · simp at h
    repeat tb_rel
    have d := M.done (by omega) (by omega)
    refine ⟨[(f, .list us)], List.Sublist.refl _, fun z' hz' hf => ⟨f, us, F, rfl, hf _ (.head _), hF, by omega, d.1, d.2⟩⟩
end

noncomputable def spA (sp : List Span) (i : Nat) : Span := sp.getD i (0, 0)
theorem spA_some {sp : List Span} {i : Nat} (h : i < sp.length) : sp[i]? = some (spA sp i) := by simp [spA, List.getD_eq_getElem?_getD, h]
theorem canon_at {sp : List Span} (hc : Canon sp) {i : Nat} {x : Int} (hi : i ≤ sp.length) (h1 : ∀ q ∈ sp.take i, q.2 ≤ x) (h2 : i < sp.length → x < (spA sp i).2) : Mem sp x ↔ i < sp.length ∧ (spA sp i).1 ≤ x := by
  constructor
  · rintro ⟨p, hp, h3, h4⟩
    obtain ⟨j, hj, rfl⟩ := List.getElem_of_mem hp
    have hji : ¬ j < i := fun q => by
      have := h1 sp[j] (by rw [List.mem_take_iff_getElem]; exact ⟨j, by omega, rfl⟩)
      omega
    have hi' : i < sp.length := by omega
    refine ⟨hi', ?_⟩
    rcases Nat.lt_or_ge i j with q | q
    · have := List.pairwise_iff_getElem.mp hc.2 i j hi' hj q
      have h5 := h2 hi'
      have e : spA sp i = sp[i] := by simp [spA, List.getD_eq_getElem?_getD, hi']
      rw [e] at h5 ⊢
      have := hc.1 sp[i] (List.getElem_mem _)
      omega
    · obtain rfl : i = j := by omega
      have e : spA sp i = sp[i] := by simp [spA, List.getD_eq_getElem?_getD, hi']
      rw [e]; exact h3
  · rintro ⟨hi', h3⟩
    have e : spA sp i = sp[i] := by simp [spA, List.getD_eq_getElem?_getD, hi']
    exact ⟨sp[i], List.getElem_mem _, by rw [← e]; exact h3, by rw [← e]; exact h2 hi'⟩

section
variable {X : Xd} (WO : XOk X)
include WO
noncomputable abbrev walkAt (l : Addr) (i : Int) (t : Tok) : List (Str × Value) := [(Str.ofString "spans", .ref l), (Str.ofString "at", .int i t)]
theorem walkinit_spec {x dx l : Addr} {z : Heap} :
    SpecC (TW X) 2 (.ref 86) [.ref x, .ref l] [(x, .inst 96 dx [])] z (NoNew fun r bm' _ => r = .none ∧ ∃ fs, bm' = [(x, .inst 96 dx fs)] ∧ ∃ t, fs = walkAt l 0 t) := by
  refine enter (n := 1) [(Str.ofString "self", .ref x), (Str.ofString "spans", .ref l)] WO (by rfl) (by kernel_rfl) (by rfl) (locs rfl) (by decide) (fun Γ R hE hz₀ hbm => ?_)
  repeat tb_rel
  refine ⟨_, ?_, fun _ h => h, rfl, _, rfl, _, rfl⟩
  rfl
theorem walk_make {l : Addr} {z : Heap} :
    SpecC (TW X) 3 (.ref 96) [.ref l] [] z (fun r _ nw _ => ∃ x dx fs, r = .ref x ∧ nw = [(x, .inst 96 dx fs)] ∧ ∃ t, fs = walkAt l 0 t) :=
  make_spec (n := 2) (P := fun fs _ => ∃ t, fs = walkAt l 0 t) WO (by kernel_rfl) (by rfl) (by kernel_rfl) fun x dx => walkinit_spec WO

theorem walkholds_spec {x dx l : Addr} {z : Heap} {vs : List Value} {sp : List Span} (hl : LZ z l vs) (hp : Pairs z vs sp) (hc : Canon sp) (hn : sp.length ≤ 1000) {a : Nat} {t : Tok} (ha : a ≤ sp.length) {y : Int} {ty : Tok} (hy : ∀ q ∈ sp.take a, q.2 ≤ y) :
    SpecC (TW X) 2 (.ref 93) [.ref x, .int y ty] [(x, .inst 96 dx (walkAt l a t))] z (NoNew fun r bm' _ => r = .bool (decide (Mem sp y)) ∧ ∃ (a' : Nat) (t' : Tok), bm' = [(x, .inst 96 dx (walkAt l a' t'))] ∧ a' ≤ sp.length ∧ ∀ q ∈ sp.take a', q.2 ≤ y) := by
  refine enter (n := 1) [(Str.ofString "self", .ref x), (Str.ofString "place", .int y ty)] WO (by rfl) (by kernel_rfl) (by rfl) (locs rfl) (by decide) (fun Γ R hE hz₀ hbm => ?_)
  refine execs_cons' ?_
  have lvs := hp.length
  refine while_any (fun n m mu z' => ∃ (a' : Nat) (t' : Tok), mget m (Str.ofString "self") = some (.ref x) ∧ mget m (Str.ofString "place") = some (.int y ty) ∧ mu = [(x, .inst 96 dx (walkAt l a' t'))] ∧ a' ≤ sp.length ∧ (∀ q ∈ sp.take a', q.2 ≤ y) ∧ n + a' = sp.length)
    hE (sp.length - a) ⟨a, t, rfl, rfl, rfl, ha, hy, by omega⟩ ?_
  rintro n m mu z1 hz1 ⟨a', t', e1, e2, rfl, ha', hy', hna⟩
  have g := hl.mono hz1
  have gp := hp.mono hz1
  have hcl : a' < sp.length → ∃ T t1 t2, vs[a']? = some (.ref T) ∧ IsTup z1 T [Value.int (spA sp a').1 t1, Value.int (spA sp a').2 t2].toArray := fun hi => by
    obtain ⟨v, hv, T, t1, t2, rfl, hT⟩ := gp.get' (spA_some hi)
    exact ⟨T, t1, t2, hv, hT⟩
  refine Sat.as (decide (a' < sp.length) && decide ((spA sp a').2 ≤ y)) ?_ ?_
  · repeat tb_rel
    refine l_len (.inr g) (by omega) fun _ => ?_
    repeat tb_rel
    refine PyProof.Rows.split_bool (fun h => ?_) (fun h => ?_)
    · simp at h
      obtain ⟨T, t1, t2, hv, hT⟩ := hcl (by omega)
      repeat tb_rel
      refine l_get (.inr g) (by omega) (by omega) (by simpa using hv) ?_
      repeat tb_rel
      refine t_get (j := 1) hT (by decide) (by rfl) (by rfl) ?_
      repeat tb_rel
      refine ⟨?_, rfl⟩
      have : a' < sp.length := by omega
      simp [this]
    · simp at h
      refine ⟨?_, rfl⟩
      have : ¬ a' < sp.length := by omega
      simp [this]
  refine PyProof.Rows.split_bool (fun h => ?_) (fun h => ?_)
  · simp at h
    repeat tb_rel
    refine ⟨n - 1, _, by omega, List.Sublist.refl _, hz1, a' + 1, _, e1, e2, rfl, by omega, fun q hq => ?_, by omega⟩
    rw [List.take_add_one, spA_some h.1] at hq
    rcases List.mem_append.mp hq with q1 | q1
    · exact hy' q q1
    · simp at q1; subst q1; exact h.2
  · have hm := canon_at hc ha' hy' (fun hi => by simp [hi] at h; omega)
    repeat tb_rel
    refine l_len (.inr g) (by omega) fun _ => ?_
    repeat tb_rel
    refine PyProof.Rows.split_bool (fun h => ?_) (fun h => ?_)
    · simp at h
      obtain ⟨T, t1, t2, hv, hT⟩ := hcl (by omega)
      repeat tb_rel
      refine l_get (.inr g) (by omega) (by omega) (by simpa using hv) ?_
      repeat tb_rel
      refine t_get (j := 0) hT (by decide) (by rfl) (by rfl) ?_
      repeat tb_rel
      have : a' < sp.length := by omega
      refine ⟨[(x, .inst 96 dx (walkAt l a' t'))], rfl, fun _ h => h, ?_, a', t', rfl, ha', hy'⟩
      simp only [retv]
      congr 1
      simp [hm, this]
    · simp at h
      have : ¬ a' < sp.length := by omega
      refine ⟨[(x, .inst 96 dx (walkAt l a' t'))], rfl, fun _ h => h, ?_, a', t', rfl, ha', hy'⟩
      simp only [retv]
      congr 1
      simp [hm, this]
      exact h
end
/-- where the putting together stands -/
noncomputable abbrev PutJ (x1 x2 fo pl f dx1 dx2 l1 l2 : Addr) (sp1 sp2 : List Span) (ps : List Int) (op : Bool → Bool → Bool) (i : Nat) (m : Loc) (mu : List (Addr × Asn)) (z' : Heap) : Prop := ∃ (a1 a2 : Nat) (t1 t2 : Tok) (ws : List Value) (F : List Span), mget m (Str.ofString "first") = some (.ref x1) ∧ mget m (Str.ofString "second") = some (.ref x2) ∧ mget m (Str.ofString "found") = some (.ref fo) ∧ mget m (Str.ofString "places") = some (.ref pl) ∧ mget m (Str.ofString "keeps") = some (.ref f) ∧ mu = [(x2, .inst 96 dx2 (walkAt l2 a2 t2)), (x1, .inst 96 dx1 (walkAt l1 a1 t1)), (fo, .list ws)] ∧ Pairs z' ws F ∧ a1 ≤ sp1.length ∧ (∀ q ∈ sp1.take a1, q.2 ≤ nthI ps i) ∧ a2 ≤ sp2.length ∧ (∀ q ∈ sp2.take a2, q.2 ≤ nthI ps i) ∧ ((ps = [] ∧ F = []) ∨ (ps ≠ [] ∧ Put (opMem op sp1 sp2) ps i F))
section
variable {X : Xd} (WO : XOk X)
include WO
/-- a test of two bools, as a function object at hand -/
noncomputable def Keeps (X : Xd) (f : Addr) (op : Bool → Bool → Bool) (z : Heap) : Prop := IsFnAt z f ∧ ∀ z', z.StaysIn z' → ∀ a b, SpecC (TW X) 1 (.ref f) [.bool a, .bool b] [] z' (NoNew fun r _ _ => r = .bool (op a b))
theorem put_spec {l1 l2 f : Addr} {z : Heap} {vs1 vs2 : List Value} {sp1 sp2 : List Span} {op : Bool → Bool → Bool} (hl1 : LZ z l1 vs1) (hp1 : Pairs z vs1 sp1) (hn1 : sp1.length ≤ 1000) (hl2 : LZ z l2 vs2) (hp2 : Pairs z vs2 sp2) (hn2 : sp2.length ≤ 1000) (hc1 : Canon sp1) (hc2 : Canon sp2)
    (hf : Keeps X f op z) (h0 : op false false = false) :
    SpecC (TW X) 4 (.ref 107) [.ref l1, .ref l2, .ref f] [] z (NoNew fun r _ z' => ∃ a us sp, r = .ref a ∧ LZ z' a us ∧ Pairs z' us sp ∧ Canon sp ∧ sp.length ≤ sp1.length + sp2.length ∧ ∀ x, Mem sp x ↔ opMem op sp1 sp2 x = true) := by
  refine enterF (n := 3) [(Str.ofString "one", .ref l1), (Str.ofString "other", .ref l2), (Str.ofString "keeps", .ref f)] WO (by rfl) (by kernel_rfl) (by rfl) (locs rfl) (by decide) (fun Γ R hE hz₀ hbm => ?_)
  repeat tb_rel
  refine new_list (fun fo => ?_)
  repeat tb_rel
  refine use_spec1 (walk_make WO).spec R (fun r _ nw z1 hz1 h => ?_)
  obtain ⟨x1, dx1, _, rfl, rfl, _, rfl⟩ := h
  repeat tb_rel
  refine use_spec1 (walk_make WO).spec R (fun r _ nw z2 hz2 h => ?_)
  obtain ⟨x2, dx2, _, rfl, rfl, _, rfl⟩ := h
  have hz02 : z.StaysIn z2 := fun b o e => hz2 b o (hz1 b o e)
  repeat tb_rel
  refine use_spec0 (merged_spec WO (hl1.mono hz02) (hp1.mono hz02) hn1 (hl2.mono hz02) (hp2.mono hz02) hn2 hc1 hc2).spec R (fun r _ z3 hz3 h => ?_)
  obtain ⟨pl, us, ps, rfl, hpl, hps, hlen, hinc, hmem⟩ := h
  have H : Plc sp1 sp2 ps := ⟨hinc, hmem⟩
  have lps := hps.length
  have hz03 : z.StaysIn z3 := fun b o e => hz3 b o (hz02 b o e)
  repeat tb_rel
  with_reducible refine for_any (PutJ x1 x2 fo pl f dx1 dx2 l1 l2 sp1 sp2 ps op) hE.back ?_ ?hs
  case hs => intro _; rfl
  repeat tb_rel
  refine l_len (.inr hpl) (by omega) fun _ => ?_
  repeat tb_rel
  refine call_range1 fun rg z4 hz4 hrg => ?_
  refine iter_range hrg (by omega) (by omega) fun it => ⟨it, _, _, RI 0 _, _, rfl, rfl, drw_range R.handled, ⟨0, 0, _, _, [], [], by rfl, by rfl, by rfl, by rfl, by rfl, rfl, .nil, Nat.zero_le _, fun _ h => (by simp at h), Nat.zero_le _, fun _ h => (by simp at h), ?_⟩, ?_, ?_⟩
  · by_cases hps0 : ps = []
    · exact .inl ⟨hps0, rfl⟩
    · exact .inr ⟨hps0, Put.start (opMem_low H h0)⟩
  · rintro i v m mu z5 hi ⟨tv, rfl⟩ hz5 ⟨a1, a2, t1, t2, ws, F, e1, e2, e3, e4, e5, rfl, hF, ha1, hq1, ha2, hq2, hD⟩
    have hi1 : i + 1 < ps.length := by omega
    have hput : Put (opMem op sp1 sp2) ps i F := by
      rcases hD with ⟨h, _⟩ | ⟨_, h⟩
      · rw [h] at hi1; simp at hi1
      · exact h
    have hz35 : z3.StaysIn z5 := fun b o e => hz5 b o (hz4 b o e)
    have hz05 : z.StaysIn z5 := fun b o e => hz35 b o (hz03 b o e)
    have gpl := hpl.mono hz35
    have hcl : ∀ {i : Nat}, i < ps.length → ∃ t, us[i]? = some (.int (nthI ps i) t) := fun {i} hi => by
      obtain ⟨v, hv, t, rfl⟩ := hps.get' (i := i) (nthI_some hi)
      exact ⟨t, hv⟩
    obtain ⟨_, hb⟩ := hcl (i := i) (by omega)
    obtain ⟨_, he⟩ := hcl (i := i + 1) (by omega)
    have hlt := nthI_lt hinc (show i < i + 1 by omega) hi1
    have hco := opMem_const (op := op) H hi1
    have nF := hF.length
    have nL := hput.len
    repeat tb_rel
    refine l_get (.inr gpl) (by omega) (by omega) (by simpa using hb) ?_
    repeat tb_rel
    refine l_get (.inr gpl) (by omega) (by omega) (by simpa using (show us[(0 + (i : Int) + 1).toNat]? = _ by rw [show (0 + (i : Int) + 1).toNat = i + 1 by omega]; exact he)) ?_
    have hfz : IsFnAt Γ.z₀ f := hz₀ ▸ hf.1
    repeat tb_rel
    refine use_spec_in (pre := [_, _]) (Q := fun r x' _ => r = .bool (decide (Mem sp1 (nthI ps i))) ∧ ∃ (a' : Nat) (t' : Tok), x' = .inst 96 dx1 (walkAt l1 a' t') ∧ a' ≤ sp1.length ∧ ∀ q ∈ sp1.take a', q.2 ≤ nthI ps i) (walkholds_spec WO (hl1.mono hz05) (hp1.mono hz05) hc1 hn1 ha1 hq1).spec (R.less (by decide)) (fun r bm' nw z' h => ?_) (fun r x' z6 hz6 h => ?_)
    · obtain ⟨rfl, rfl, a', t', rfl, h⟩ := h
      exact ⟨rfl, _, rfl, rfl, a', t', rfl, h⟩
    obtain ⟨rfl, a1', t1', rfl, ha1', hq1'⟩ := h
    have hz06 : z.StaysIn z6 := fun b o e => hz6 b o (hz05 b o e)
    repeat tb_rel
    refine use_spec_in (pre := [_]) (Q := fun r x' _ => r = .bool (decide (Mem sp2 (nthI ps i))) ∧ ∃ (a' : Nat) (t' : Tok), x' = .inst 96 dx2 (walkAt l2 a' t') ∧ a' ≤ sp2.length ∧ ∀ q ∈ sp2.take a', q.2 ≤ nthI ps i) (walkholds_spec WO (hl2.mono hz06) (hp2.mono hz06) hc2 hn2 ha2 hq2).spec (R.less (by decide)) (fun r bm' nw z' h => ?_) (fun r x' z7 hz7 h => ?_)
    · obtain ⟨rfl, rfl, a', t', rfl, h⟩ := h
      exact ⟨rfl, _, rfl, rfl, a', t', rfl, h⟩
    obtain ⟨rfl, a2', t2', rfl, ha2', hq2'⟩ := h
    have hz07 : z.StaysIn z7 := fun b o e => hz7 b o (hz06 b o e)
    repeat tb_rel
    refine use_spec0 (hf.2 z7 hz07 _ _).spec (R.less (by decide)) (fun r _ z8 hz8 h => ?_)
    subst h
    have hz58 : z5.StaysIn z8 := fun b o e => hz8 b o (hz7 b o (hz6 b o e))
    have hz48 : z4.StaysIn z8 := fun b o e => hz58 b o (hz5 b o e)
    have hF8 := hF.mono hz58
    have hq1n : ∀ q ∈ sp1.take a1', q.2 ≤ nthI ps (i + 1) := fun q hq => by have := hq1' q hq; omega
    have hq2n : ∀ q ∈ sp2.take a2', q.2 ≤ nthI ps (i + 1) := fun q hq => by have := hq2' q hq; omega
    have hne : ps ≠ [] := fun e => by rw [e] at hi1; simp at hi1
    repeat tb_rel
    refine PyProof.Rows.split_bool (fun h => ?_) (fun h => ?_)
    · repeat tb_rel
      have hP : opMem op sp1 sp2 (nthI ps i) = false := by simpa [opMem] using h
      exact ⟨_, List.Sublist.refl _, hz48, a1', a2', t1', t2', ws, F, e1, e2, e3, e4, e5, rfl, hF8, ha1', hq1n, ha2', hq2n, .inr ⟨hne, hput.skip hlt hco hP⟩⟩
    · have hP : opMem op sp1 sp2 (nthI ps i) = true := by simpa [opMem] using h
      have tcl : ∀ {q : Span}, F.getLast? = some q → ∃ T u1 u2, ws.getLast? = some (.ref T) ∧ IsTup z8 T [Value.int q.1 u1, Value.int q.2 u2].toArray := fun {q} hq => by
        obtain ⟨v, hv, T, u1, u2, rfl, hT⟩ := hF8.last' hq
        exact ⟨T, u1, u2, hv, hT⟩
      refine execs_nil' (nx_next (execs_cons' (exec_If' ?_)))
      refine Sat.asd (decide (∃ q, F.getLast? = some q ∧ q.2 = nthI ps i)) ?_ ?_
      · repeat tb_rel
        refine new_list (fun e0 => ?_)
        refine l_ne_nil (vs := ws) (R.less (by decide)) (.inl (by nest_cls)) (.inl (.head _)) ?_
        repeat tb_rel
        refine PyProof.Rows.split_bool (fun h => ?_) (fun h => ?_)
        · simp at h
          obtain ⟨q, hq⟩ : ∃ q, F.getLast? = some q := by
            cases e : F.getLast? with
            | none =>
              rw [List.getLast?_eq_none_iff.mp e] at hF8
              cases hF8; exact absurd rfl h
            | some q => exact ⟨q, rfl⟩
          obtain ⟨T, u1, u2, hv, hT⟩ := tcl hq
          repeat tb_rel
          refine l_last (vs := ws) (.inl (by nest_cls)) hv ?_
          repeat tb_rel
          refine t_get (j := 1) hT (by decide) (by rfl) (by rfl) ?_
          repeat tb_rel
          refine ⟨?_, rfl, rfl, [_], rfl⟩
          rw [hq]
          by_cases e : q.2 = nthI ps i <;> simp [e]
        · simp at h
          refine ⟨?_, rfl, rfl, [_], rfl⟩
          subst h; cases hF8; simp
      refine PyProof.Rows.split_bool (fun h => ?_) (fun h => ?_)
      · simp only [decide_eq_true_eq] at h
        obtain ⟨q, hq, hqe⟩ := h
        obtain ⟨T, u1, u2, hv, hT⟩ := tcl hq
        repeat tb_rel
        refine l_last (vs := ws) (.inl (by nest_cls)) hv ?_
        repeat tb_rel
        refine t_get (j := 0) hT (by decide) (by rfl) (by rfl) ?_
        repeat tb_rel
        refine new_tup fun T' z9 hz9 hT' => ?_
        repeat tb_rel
        refine l_setlast (pre := [_, _, _]) (by rintro rfl; simp at hv) ?_
        repeat tb_rel
        exact ⟨_, List.Sublist.refl _, fun b o e => hz9 b o (hz48 b o e), a1', a2', t1', t2', _, _, e1, e2, e3, e4, e5, rfl, (All2.dropLast (hF8.mono hz9)).snoc ⟨T', _, _, rfl, hT'⟩, ha1', hq1n, ha2', hq2n, .inr ⟨hne, hput.ext hlt hco hP hq hqe⟩⟩
      · simp only [decide_eq_false_iff_not, not_exists, not_and] at h
        repeat tb_rel
        refine new_tup fun T' z9 hz9 hT' => ?_
        repeat tb_rel
        refine l_append (pre := [_, _, _]) (by omega) ?_
        refine ⟨rfl, ?_⟩
        repeat tb_rel
        exact ⟨_, List.Sublist.refl _, fun b o e => hz9 b o (hz48 b o e), a1', a2', t1', t2', _, _, e1, e2, e3, e4, e5, rfl, (hF8.mono hz9).snoc ⟨T', _, _, rfl, hT'⟩, ha1', hq1n, ha2', hq2n, .inr ⟨hne, hput.app hlt hco hP h⟩⟩
  · rintro m mu z5 hz5 ⟨a1, a2, t1, t2, ws, F, e1, e2, e3, e4, e5, rfl, hF, ha1, hq1, ha2, hq2, hD⟩
    repeat tb_rel
    refine ⟨[(fo, .list ws)], List.Sublist.cons _ (List.Sublist.cons _ (List.Sublist.refl _)), fun z' hz' hfr => ⟨fo, ws, F, rfl, hfr _ (.head _), hF.mono hz', ?_⟩⟩
    rcases hD with ⟨hp, rfl⟩ | ⟨hp, hD⟩
    · exact ⟨canon_nil, by simp, fun x => by simp [mem_nil, opMem_nil H h0 hp]⟩
    · have hpos : 0 < ps.length := List.length_pos_iff.mpr hp
      have en : (us.length : Int) - 1 - 0 = ((ps.length - 1 : Nat) : Int) := by omega
      rw [en, Int.toNat_natCast] at hD
      refine ⟨hD.canon, ?_, put_done H h0 (by omega) hD⟩
      have := hD.len
      omega
end

theorem uniq109 (X : Xd) : ∀ t ∈ (TW X).tabs, t.1 = 109 → ∀ q ∈ t.2.2, q.2 = lamQ "union" := by
  intro t ht h1 q hq
  rcases ht with _ | ⟨_, _ | ⟨_, _ | ⟨_, _ | ⟨_, h⟩⟩⟩⟩
  · exact absurd h1 (by decide)
  · exact absurd h1 (by decide)
  · rcases hq with _ | ⟨_, h⟩
    · rfl
    · cases h
  · exact absurd h1 (by decide)
  · cases h
theorem uniq116 (X : Xd) : ∀ t ∈ (TW X).tabs, t.1 = 116 → ∀ q ∈ t.2.2, q.2 = lamQ "common" := by
  intro t ht h1 q hq
  rcases ht with _ | ⟨_, _ | ⟨_, _ | ⟨_, _ | ⟨_, h⟩⟩⟩⟩
  · exact absurd h1 (by decide)
  · rcases hq with _ | ⟨_, h⟩
    · rfl
    · cases h
  · exact absurd h1 (by decide)
  · exact absurd h1 (by decide)
  · cases h
theorem uniq295 (X : Xd) : ∀ t ∈ (TW X).tabs, t.1 = 295 → ∀ q ∈ t.2.2, q.2 = lamQ "_law_fixed_right" := by
  intro t ht h1 q hq
  rcases ht with _ | ⟨_, _ | ⟨_, _ | ⟨_, _ | ⟨_, h⟩⟩⟩⟩
  · rcases hq with _ | ⟨_, _ | ⟨_, h⟩⟩
    · rfl
    · rfl
    · cases h
  · exact absurd h1 (by decide)
  · exact absurd h1 (by decide)
  · exact absurd h1 (by decide)
  · cases h
theorem uniq302 (X : Xd) : ∀ t ∈ (TW X).tabs, t.1 = 302 → ∀ q ∈ t.2.2, q.2 = lamQ "law" := by
  intro t ht h1 q hq
  rcases ht with _ | ⟨_, _ | ⟨_, _ | ⟨_, _ | ⟨_, h⟩⟩⟩⟩
  · exact absurd h1 (by decide)
  · exact absurd h1 (by decide)
  · exact absurd h1 (by decide)
  · rcases hq with _ | ⟨_, _ | ⟨_, _ | ⟨_, h⟩⟩⟩
    · rfl
    · rfl
    · rfl
    · cases h
  · cases h
section
variable {X : Xd} (WO : XOk X)
include WO
theorem lookup_spec {l : Addr} {z : Heap} {vs : List Value} {sp : List Span} (hl : LZ z l vs) (hp : Pairs z vs sp) (hc : Canon sp) (hn : sp.length ≤ 1000) {y : Int} {ty : Tok} :
    SpecC (TW X) 2 (.ref 142) [.ref l, .int y ty] [] z (NoNew fun r _ _ => r = .bool (decide (Mem sp y))) := by
  refine enter (n := 1) [(Str.ofString "spans", .ref l), (Str.ofString "x", .int y ty)] WO (by rfl) (by kernel_rfl) (by rfl) (locs rfl) (by decide) (fun Γ R hE hz₀ hbm => ?_)
  have lvs := hp.length
  repeat tb_rel
  refine l_len (.inr hl) (by omega) fun _ => ?_
  repeat tb_rel
  refine while_any (fun n m mu z' => ∃ (lo hi : Nat) (t t' : Tok), mget m (Str.ofString "spans") = some (.ref l) ∧ mget m (Str.ofString "x") = some (.int y ty) ∧ mget m (Str.ofString "low") = some (.int (lo : Nat) t) ∧ mget m (Str.ofString "high") = some (.int (hi : Nat) t') ∧
      mu = [] ∧ lo ≤ hi ∧ hi ≤ sp.length ∧ (∀ q ∈ sp.take lo, q.2 ≤ y) ∧ (∀ q ∈ sp.drop hi, y < q.2) ∧ n + lo = hi) hE sp.length ⟨0, sp.length, _, _, by rfl, by rfl, by rfl, by rw [← lvs]; rfl, rfl, Nat.zero_le _, Nat.le_refl _, fun _ h => (by simp at h), fun _ h => (by simp at h), rfl⟩ ?_
  rintro n m mu z1 hz1 ⟨lo, hi, t, t', e1, e2, e3, e4, rfl, h1, h2, h3, h4, h5⟩
  have g := hl.mono hz1
  have gp := hp.mono hz1
  have hcl : ∀ {i : Nat}, i < sp.length → ∃ T t1 t2, vs[i]? = some (.ref T) ∧ IsTup z1 T [Value.int (spA sp i).1 t1, Value.int (spA sp i).2 t2].toArray := fun {i} hi => by
    obtain ⟨v, hv, T, t1, t2, rfl, hT⟩ := gp.get' (spA_some hi)
    exact ⟨T, t1, t2, hv, hT⟩
  have mono : ∀ i j (hi : i < sp.length) (hj : j < sp.length), i ≤ j → (spA sp i).2 ≤ (spA sp j).2 := fun i j hi hj hij => by
    rcases Nat.lt_or_ge i j with q | q
    · have a := List.pairwise_iff_getElem.mp hc.2 i j hi hj q
      have b := hc.1 sp[j] (List.getElem_mem _)
      have e1 : spA sp i = sp[i] := by simp [spA, List.getD_eq_getElem?_getD, hi]
      have e2 : spA sp j = sp[j] := by simp [spA, List.getD_eq_getElem?_getD, hj]
      rw [e1, e2]; omega
    · obtain rfl : i = j := by omega
      exact Int.le_refl _
  repeat tb_rel
  refine PyProof.Rows.split_bool (fun h => ?_) (fun h => ?_)
  · simp at h
    repeat tb_rel
    refine i_fdiv (by decide) (by decide +kernel) fun _ => ?_
    have em : ((lo : Int) + hi).fdiv 2 = (((lo + hi) / 2 : Nat) : Int) := by
      rw [Int.fdiv_eq_ediv_of_nonneg _ (by decide)]; omega
    rw [em]
    have hm1 : lo ≤ (lo + hi) / 2 := by omega
    have hm2 : (lo + hi) / 2 < hi := by omega
    generalize (lo + hi) / 2 = mid at *
    repeat tb_rel
    obtain ⟨T, t1, t2, hv, hT⟩ := hcl (i := mid) (by omega)
    refine l_get (.inr g) (by omega) (by omega) (by simpa using hv) ?_
    repeat tb_rel
    refine t_get (j := 1) hT (by decide) (by rfl) (by rfl) ?_
    repeat tb_rel
    refine PyProof.Rows.split_bool (fun h' => ?_) (fun h' => ?_)
    · simp at h'
      repeat tb_rel
      refine ⟨n - (mid + 1 - lo), _, by omega, List.Sublist.refl _, hz1, mid + 1, hi, _, _, e1, e2, rfl, e4, rfl, by omega, by omega, fun q hq => ?_, h4, by omega⟩
      obtain ⟨j, hj, rfl⟩ := List.mem_take_iff_getElem.mp hq
      have := mono j mid (by omega) (by omega) (by omega)
      have e : spA sp j = sp[j] := by simp [spA, List.getD_eq_getElem?_getD, show j < sp.length by omega]
      rw [← e]; omega
    · simp at h'
      repeat tb_rel
      refine ⟨mid - lo, _, by omega, List.Sublist.refl _, hz1, lo, mid, _, _, e1, e2, e3, rfl, rfl, by omega, by omega, h3, fun q hq => ?_, by omega⟩
      obtain ⟨j, hj, rfl⟩ := List.mem_drop_iff_getElem.mp hq
      have := mono mid (mid + j) (by omega) (by omega) (by omega)
      have e : spA sp (mid + j) = sp[mid + j] := by simp [spA, List.getD_eq_getElem?_getD, show mid + j < sp.length by omega]
      rw [← e]; omega
  · simp at h
    obtain rfl : hi = lo := by omega
    have hm := canon_at hc h2 h3 (fun hi' => by
      have e : spA sp hi = sp[hi] := by simp [spA, List.getD_eq_getElem?_getD, hi']
      rw [e]
      exact h4 _ (List.mem_drop_iff_getElem.mpr ⟨0, by omega, by simp⟩))
    repeat tb_rel
    refine l_len (.inr g) (by omega) fun _ => ?_
    repeat tb_rel
    refine PyProof.Rows.split_bool (fun h => ?_) (fun h => ?_)
    · simp at h
      obtain ⟨T, t1, t2, hv, hT⟩ := hcl (i := hi) (by omega)
      repeat tb_rel
      refine l_get (.inr g) (by omega) (by omega) (by simpa using hv) ?_
      repeat tb_rel
      refine t_get (j := 0) hT (by decide) (by rfl) (by rfl) ?_
      repeat tb_rel
      have : hi < sp.length := by omega
      refine ⟨[], rfl, fun _ h => h, ?_⟩
      simp only [retv]
      congr 1
      simp [hm, this]
    · simp at h
      have : ¬ hi < sp.length := by omega
      refine ⟨[], rfl, fun _ h => h, ?_⟩
      simp only [retv]
      congr 1
      simp [hm, this]
      exact h

theorem union_spec {l1 l2 : Addr} {z : Heap} {vs1 vs2 : List Value} {sp1 sp2 : List Span} (hl1 : LZ z l1 vs1) (hp1 : Pairs z vs1 sp1) (hn1 : sp1.length ≤ 1000) (hl2 : LZ z l2 vs2) (hp2 : Pairs z vs2 sp2) (hn2 : sp2.length ≤ 1000) (hc1 : Canon sp1) (hc2 : Canon sp2) :
    SpecC (TW X) 5 (.ref 114) [.ref l1, .ref l2] [] z (NoNew fun r _ z' => ∃ a us sp, r = .ref a ∧ LZ z' a us ∧ Pairs z' us sp ∧ Canon sp ∧ sp.length ≤ sp1.length + sp2.length ∧ ∀ x, Mem sp x ↔ Mem sp1 x ∨ Mem sp2 x) := by
  refine enter (n := 4) [(Str.ofString "one", .ref l1), (Str.ofString "other", .ref l2)] WO (by rfl) (by kernel_rfl) (by rfl) (locs rfl) (by decide) (fun Γ R hE hz₀ hbm => ?_)
  repeat tb_rel
  refine e_lam (P := 109) (cc := 113) (qual := lamQ "union") WO (by rfl) (List.Mem.tail _ (List.Mem.tail _ (List.Mem.head _))) (List.Mem.head _) (by rfl) (uniq109 X) (by rfl) (by rfl) (by rfl) fun g z1 hz1 hL => ?_
  repeat tb_rel
  have hK : Keeps X g or z1 := ⟨hL.fn, fun z' hz' a b => by
    refine enterL (n := 0) [(Str.ofString "is_in", .bool a), (Str.ofString "is_there", .bool b)] WO (hL.mono hz') (fun _ _ _ => by rfl) (locs rfl) (by decide) (fun Γ c' R hE hz₀ hbm => ?_)
    repeat tb_rel
    refine PyProof.Rows.split_bool (fun h => ?_) (fun h => ?_)
    · exact ⟨[], rfl, fun _ h => h, by simp [retv, h]⟩
    · repeat tb_rel
      exact ⟨[], rfl, fun _ h => h, by simp [retv, h]⟩⟩
  refine use_spec0 (put_spec WO (hl1.mono hz1) (hp1.mono hz1) hn1 (hl2.mono hz1) (hp2.mono hz1) hn2 hc1 hc2 hK rfl).spec R (fun r _ z2 hz2 h => ?_)
  obtain ⟨a, us, sp, rfl, h1, h2, h3, h4, h5⟩ := h
  exact ⟨[], rfl, fun _ h => h, a, us, sp, rfl, h1, h2, h3, h4, fun x => by rw [h5]; simp [opMem]⟩
end

section
variable {X : Xd} (WO : XOk X)
include WO
theorem common_spec {l1 l2 : Addr} {z : Heap} {vs1 vs2 : List Value} {sp1 sp2 : List Span} (hl1 : LZ z l1 vs1) (hp1 : Pairs z vs1 sp1) (hn1 : sp1.length ≤ 1000) (hl2 : LZ z l2 vs2) (hp2 : Pairs z vs2 sp2) (hn2 : sp2.length ≤ 1000) (hc1 : Canon sp1) (hc2 : Canon sp2) :
    SpecC (TW X) 5 (.ref 121) [.ref l1, .ref l2] [] z (NoNew fun r _ z' => ∃ a us sp, r = .ref a ∧ LZ z' a us ∧ Pairs z' us sp ∧ Canon sp ∧ sp.length ≤ sp1.length + sp2.length ∧ ∀ x, Mem sp x ↔ Mem sp1 x ∧ Mem sp2 x) := by
  refine enter (n := 4) [(Str.ofString "one", .ref l1), (Str.ofString "other", .ref l2)] WO (by rfl) (by kernel_rfl) (by rfl) (locs rfl) (by decide) (fun Γ R hE hz₀ hbm => ?_)
  repeat tb_rel
  refine e_lam (P := 116) (cc := 120) (qual := lamQ "common") WO (by rfl) (List.Mem.tail _ (List.Mem.head _)) (List.Mem.head _) (by rfl) (uniq116 X) (by rfl) (by rfl) (by rfl) fun g z1 hz1 hL => ?_
  repeat tb_rel
  have hK : Keeps X g and z1 := ⟨hL.fn, fun z' hz' a b => by
    refine enterL (n := 0) [(Str.ofString "is_in", .bool a), (Str.ofString "is_there", .bool b)] WO (hL.mono hz') (fun _ _ _ => by rfl) (locs rfl) (by decide) (fun Γ c' R hE hz₀ hbm => ?_)
    repeat tb_rel
    refine PyProof.Rows.split_bool (fun h => ?_) (fun h => ?_)
    · repeat tb_rel
      exact ⟨[], rfl, fun _ h => h, by simp [retv, h]⟩
    · exact ⟨[], rfl, fun _ h => h, by simp [retv, h]⟩⟩
  refine use_spec0 (put_spec WO (hl1.mono hz1) (hp1.mono hz1) hn1 (hl2.mono hz1) (hp2.mono hz1) hn2 hc1 hc2 hK rfl).spec R (fun r _ z2 hz2 h => ?_)
  obtain ⟨a, us, sp, rfl, h1, h2, h3, h4, h5⟩ := h
  exact ⟨[], rfl, fun _ h => h, a, us, sp, rfl, h1, h2, h3, h4, fun x => by rw [h5]; simp [opMem]⟩

theorem normal_spec {l : Addr} {z : Heap} {vs : List Value} {sp : List Span} (hl : LZ z l vs) (hp : Pairs z vs sp) (hn : sp.length ≤ 4) :
    SpecC (TW X) 2 (.ref 58) [.ref l] [] z (NoNew fun r _ z' => ∃ a us sq, r = .ref a ∧ LZ z' a us ∧ Pairs z' us sq ∧ Canon sq ∧ sq.length ≤ sp.length ∧ ∀ x, Mem sq x ↔ Mem sp x) := by
  refine enterF (n := 1) [(Str.ofString "pairs", .ref l)] WO (by rfl) (by kernel_rfl) (by rfl) (locs rfl) (by decide) (fun Γ R hE hz₀ hbm => ?_)
  have lvs := hp.length
  repeat tb_rel
  refine new_list (fun f => ?_)
  repeat tb_rel
  with_reducible refine for_late hE.back ?_ ?hs
  case hs => intro _; rfl
  repeat tb_rel
  refine e_comp (fun i ws mu z' => mu = [(f, .list [])] ∧ Pairs z' ws (sp.take i)) ?_ (by rfl) (by decide) (by rfl) (by decide) (by intro _; rfl)
  repeat tb_rel
  refine iter_list hl.isList fun it => ⟨it, _, _, LI l, _, ⟨rfl, rfl, drw_list R.handled hl.isList, by omega, ⟨rfl, .nil⟩, ?_⟩, ?_⟩
  · rintro Γ' D i v ws m mu z1 hA hz0 hb' hE' hi hv hz1 ⟨rfl, hw⟩
    have R' : Room 1 Γ'.A := hA ▸ R
    obtain ⟨p, hs, T, t1, t2, rfl, hT⟩ := hp.get hv
    refine un_pair R' (IsTup.keeps hT hz1) ?_
    repeat tb_rel
    refine tests_nil ?_
    rw [if_pos rfl]
    repeat tb_rel
    refine new_tup fun T' z2 hz2 hT' => ?_
    refine ⟨_, List.Sublist.refl _, zt hz1 hz2, rfl, ?_⟩
    rw [take_snoc hs]
    exact (hw.mono hz2).snoc ⟨T', _, _, rfl, hT'⟩
  · rintro D ws mu z1 hz1 ⟨rfl, hw⟩
    rw [lvs, List.take_length] at hw
    repeat tb_rel
    refine l_sorted_few (sp := sp) (.head _) hbm hw hn fun a us sq hus hperm hle => ?_
    refine Sat.freeze0 hbm fun z2 hz2 ha => ?_
    have hsl : sq.length = sp.length := hperm.length_eq
    have lus := hus.length
    have hs := lexle_fst hle
    have ha' : LZ z2 a us := ha
    refine iter_list ha'.isList fun it2 => ⟨it2, _, _, LI a, _, fun i m mu z' => ∃ ws F, mget m (Str.ofString "found") = some (.ref f) ∧ mu = [(D, .list ws), (f, .list (F : List Value × List Span).1)] ∧ Pairs z' F.1 F.2 ∧ Nrm sq i F.2, rfl, rfl, drw_list R.handled ha'.isList, ⟨ws, ([], []), by rfl, rfl, .nil, Nrm.start _⟩, ?_, ?_⟩
    · rintro i v m mu z3 hi hv hz3 ⟨ws, ⟨fs, F⟩, e1, rfl, hF, M⟩
      obtain ⟨p, hp', T, t1, t2, rfl, hT⟩ := hus.get hv
      have nF := hF.length
      have nL := M.len
      refine un_pair R (IsTup.keeps hT (zt hz2 hz3)) ?_
      repeat tb_rel
      refine PyProof.Rows.split_bool (fun h => ?_) (fun h => ?_)
      · simp at h
        repeat tb_rel
        exact ⟨_, List.Sublist.refl _, hz3, ws, (fs, F), e1, rfl, hF, M.skip hp' h⟩
      · simp at h
        have tcl : ∀ {q : Span}, F.getLast? = some q → ∃ T u1 u2, fs.getLast? = some (.ref T) ∧ IsTup z3 T [Value.int q.1 u1, Value.int q.2 u2].toArray := fun {q} hq => by
          obtain ⟨v, hv, T, u1, u2, rfl, hT⟩ := hF.last' hq
          exact ⟨T, u1, u2, hv, hT⟩
        refine execs_nil' (nx_next (execs_cons' (exec_If' ?_)))
        refine Sat.asd (decide (∃ q, F.getLast? = some q ∧ p.1 ≤ q.2)) ?_ ?_
        · repeat tb_rel
          refine new_list (fun e0 => ?_)
          refine l_ne_nil (vs := fs) (R.less (by decide)) (.inl (by nest_cls)) (.inl (.head _)) ?_
          repeat tb_rel
          refine PyProof.Rows.split_bool (fun h => ?_) (fun h => ?_)
          · simp at h
            obtain ⟨q, hq⟩ : ∃ q, F.getLast? = some q := by
              cases e : F.getLast? with
              | none =>
                rw [List.getLast?_eq_none_iff.mp e] at hF
                cases hF; exact absurd rfl h
              | some q => exact ⟨q, rfl⟩
            obtain ⟨T, u1, u2, hv, hT⟩ := tcl hq
            repeat tb_rel
            refine l_last (vs := fs) (.inl (by nest_cls)) hv ?_
            repeat tb_rel
            refine t_get (j := 1) hT (by decide) (by rfl) (by rfl) ?_
            repeat tb_rel
            refine ⟨?_, rfl, rfl, [_], rfl⟩
            rw [hq]
            by_cases e : p.1 ≤ q.2 <;> simp [e]
          · simp at h
            refine ⟨?_, rfl, rfl, [_], rfl⟩
            subst h; cases hF; simp
        refine PyProof.Rows.split_bool (fun h' => ?_) (fun h' => ?_)
        · simp only [decide_eq_true_eq] at h'
          obtain ⟨q, hq, hqe⟩ := h'
          obtain ⟨T, u1, u2, hv, hT⟩ := tcl hq
          repeat tb_rel
          refine l_last (vs := fs) (.inl (by nest_cls)) hv ?_
          repeat tb_rel
          refine t_get (j := 0) hT (by decide) (by rfl) (by rfl) ?_
          repeat tb_rel
          refine l_last (vs := fs) (.inl (by nest_cls)) hv ?_
          repeat tb_rel
          refine t_get (j := 1) hT (by decide) (by rfl) (by rfl) ?_
          repeat tb_rel
          refine max_ints (R.less (by decide)) fun _ => ?_
          repeat tb_rel
          refine new_tup fun T' z9 hz9 hT' => ?_
          repeat tb_rel
          refine l_setlast (pre := [_, _]) (by rintro rfl; simp at hv) ?_
          repeat tb_rel
          exact ⟨_, List.Sublist.refl _, zt hz3 hz9, ws, (_, _), e1, rfl, (All2.dropLast (hF.mono hz9)).snoc ⟨T', _, _, rfl, hT'⟩, M.ext hs hp' h hq hqe⟩
        · simp only [decide_eq_false_iff_not, not_exists, not_and, Int.not_le] at h'
          repeat tb_rel
          refine new_tup fun T' z9 hz9 hT' => ?_
          repeat tb_rel
          refine l_append (pre := [_, _]) (by omega) ?_
          refine ⟨rfl, ?_⟩
          repeat tb_rel
          exact ⟨_, List.Sublist.refl _, zt hz3 hz9, ws, (_, _), e1, rfl, (hF.mono hz9).snoc ⟨T', _, _, rfl, hT'⟩, M.app hs hp' h h'⟩
    · rintro m mu z3 hz3 ⟨ws, ⟨fs, F⟩, e1, rfl, hF, M⟩
      repeat tb_rel
      have nL : F.length ≤ us.length := M.len
      exact ⟨[(f, .list fs)], List.Sublist.cons _ (List.Sublist.refl _), fun z' hz' hfr => ⟨f, fs, F, rfl, hfr _ (.head _), hF.mono hz', M.canon, by omega, fun x => (Nrm.done (lus ▸ M) x).trans (mem_perm hperm x)⟩⟩
end

/-- a list of spans, frozen -/
noncomputable def IsSp (z : Heap) (v : Value) (sp : List Span) : Prop := ∃ l vs, v = .ref l ∧ LZ z l vs ∧ Pairs z vs sp
theorem IsSp.mono {z z' : Heap} {v : Value} {sp : List Span} (h : IsSp z v sp) (hz : z.StaysIn z') : IsSp z' v sp := let ⟨l, vs, e, h1, h2⟩ := h; ⟨l, vs, e, h1.mono hz, h2.mono hz⟩
noncomputable def IsRow (z : Heap) (kv : Int × Value) (r : Int × List Span) : Prop := kv.1 = r.1 ∧ IsSp z kv.2 r.2
noncomputable abbrev IsRows (z : Heap) (kvs : List (Int × Value)) (rs : RowsM) : Prop := All2 (IsRow z) kvs rs
theorem IsRows.mono {z z' : Heap} {kvs : List (Int × Value)} {rs : RowsM} (h : IsRows z kvs rs) (hz : z.StaysIn z') : IsRows z' kvs rs := All2.mono h fun _ _ r => ⟨r.1, r.2.mono hz⟩
theorem IsRows.keys {z : Heap} {kvs : List (Int × Value)} {rs : RowsM} (h : IsRows z kvs rs) : kvs.map (·.1) = rs.map (·.1) := by
  induction h with
  | nil => rfl
  | cons r _ ih => rw [List.map_cons, List.map_cons, r.1, ih]
theorem IsRows.at {z : Heap} {kvs : List (Int × Value)} {rs : RowsM} (h : IsRows z kvs rs) {y : Int} : (y ∈ rs.map (·.1) → ∃ v, valueAt kvs y = some v ∧ IsSp z v (rowAt rs y)) ∧ (y ∉ rs.map (·.1) → valueAt kvs y = none) := by
  induction h with
  | nil => exact ⟨fun h => (by cases h), fun _ => rfl⟩
  | @cons kv r kvs rs q _ ih =>
    have e : valueAt (kv :: kvs) y = if r.1 = y then some kv.2 else valueAt kvs y := by
      unfold valueAt
      rw [List.find?_cons, q.1]
      by_cases h : r.1 = y <;> simp [h]
    rw [e, rowAt_cons, List.map_cons, List.mem_cons]
    by_cases h : r.1 = y
    · rw [if_pos h, if_pos h]
      exact ⟨fun _ => ⟨_, rfl, q.2⟩, fun w => absurd (.inl h.symm) w⟩
    · rw [if_neg h, if_neg h]
      exact ⟨fun w => ih.1 (w.resolve_left fun w => h w.symm), fun w => ih.2 fun w' => w (.inr w')⟩
/-- a region, frozen -/
noncomputable def IsRegion (X : Xd) (z : Heap) (x : Addr) (rs : RowsM) : Prop := ∃ dx d kvs, Asn.At (TW X) z x (.inst 204 dx [(Str.ofString "rows", .ref d)]) ∧ Asn.At (TW X) z d (.dict kvs) ∧ IsRows z kvs rs
theorem Asn.At.mono {W : Wd} {z z' : Heap} {a : Addr} {x : Asn} (h : x.At W z a) (hz : z.StaysIn z') : x.At W z' a := h.same fun b _ o e => hz b o e
theorem IsRegion.mono {X : Xd} {z z' : Heap} {x : Addr} {rs : RowsM} (h : IsRegion X z x rs) (hz : z.StaysIn z') : IsRegion X z' x rs := let ⟨dx, d, kvs, h1, h2, h3⟩ := h; ⟨dx, d, kvs, h1.mono hz, h2.mono hz, h3.mono hz⟩
section
variable {X : Xd} (WO : XOk X)
include WO
theorem cut_spec {l : Addr} {z : Heap} {vs : List Value} {sp : List Span} (hl : LZ z l vs) (hp : Pairs z vs sp) (hn : sp.length ≤ 1000) (hc : Canon sp) {lo hi : Int} {t1 t2 : Tok} :
    SpecC (TW X) 6 (.ref 128) [.ref l, .int lo t1, .int hi t2] [] z (NoNew fun r _ z' => ∃ sq, IsSp z' r sq ∧ Canon sq ∧ sq.length ≤ sp.length + 1 ∧ ∀ x, Mem sq x ↔ Mem sp x ∧ lo ≤ x ∧ x < hi) := by
  refine enter (n := 5) [(Str.ofString "spans", .ref l), (Str.ofString "low", .int lo t1), (Str.ofString "high", .int hi t2)] WO (by rfl) (by kernel_rfl) (by rfl) (locs rfl) (by decide) (fun Γ R hE hz₀ hbm => ?_)
  repeat tb_rel
  refine new_tup fun T z1 hz1 hT => ?_
  repeat tb_rel
  refine new_list fun a => ?_
  repeat tb_rel
  refine Sat.freeze0 hbm fun z2 hz2 ha => ?_
  have ha' : LZ z2 a [.ref T] := ha
  have hp' : Pairs z2 [.ref T] [(lo, hi)] := .cons ⟨T, _, _, rfl, IsTup.keeps hT hz2⟩ .nil
  refine use_spec0 (normal_spec WO ha' hp' (by simp)).spec (R.less (by decide)) (fun r _ z3 hz3 h => ?_)
  obtain ⟨b, us, sq, rfl, hb, hq, hcq, hlq, hmq⟩ := h
  repeat tb_rel
  have hz03 : z.StaysIn z3 := zt hz1 (zt hz2 hz3)
  have hlq' : sq.length ≤ 1 := hlq
  refine use_spec0 (common_spec WO (hl.mono hz03) (hp.mono hz03) hn hb hq (by omega) hc hcq).spec R (fun r _ z4 hz4 h => ?_)
  obtain ⟨c, ws, sr, rfl, h1, h2, h3, h4, h5⟩ := h
  exact ⟨[], rfl, fun _ h => h, sr, ⟨c, ws, rfl, h1, h2⟩, h3, by omega, fun x => (h5 x).trans (and_congr_right fun _ => (hmq x).trans mem_one)⟩

theorem reginit_spec {x dx d : Addr} {z : Heap} {kvs : List (Int × Value)} {rs : RowsM} (hd : Asn.At (TW X) z d (.dict kvs)) (hrs : IsRows z kvs rs) (hnd : (rs.map (·.1)).Nodup) (hsz : rs.length ≤ 50) (hc : ∀ r ∈ rs, Canon r.2) (hlen : ∀ r ∈ rs, r.2.length ≤ 1000) :
    SpecC (TW X) 2 (.ref 154) [.ref x, .ref d] [(x, .inst 204 dx [])] z (NoNew fun r bm' z' => r = .none ∧ ∃ fs, bm' = [(x, .inst 204 dx fs)] ∧
      ∃ d' kvs' ys, fs = [(Str.ofString "rows", .ref d')] ∧ Asn.At (TW X) z' d' (.dict kvs') ∧ IsRows z' kvs' (kept rs ys) ∧ ys.Perm (rs.map (·.1)) ∧ ys.Pairwise (· < ·)) := by
  refine enter (n := 1) [(Str.ofString "self", .ref x), (Str.ofString "rows", .ref d)] WO (by rfl) (by kernel_rfl) (by rfl) (locs rfl) (by decide) (fun Γ R hE hz₀ hbm => ?_)
  have lk := hrs.length
  repeat tb_rel
  refine d_new WO fun d' => ?_
  repeat tb_rel
  refine a_set (pre := [_]) WO (by rfl) (by kernel_rfl) (by rfl) (by kernel_rfl) (by simp) ?_
  repeat tb_rel
  with_reducible refine for_late hE.back ?_ ?hs
  case hs => intro _; rfl
  repeat tb_rel
  obtain ⟨hS, hD⟩ := id hd
  obtain ⟨ep, hat⟩ := hD.dictAt
  refine e_comp (fun i ws mu z' => mu = [(d', .dict []), (x, .inst 204 dx [(Str.ofString "rows", .ref d')])] ∧ All2 AInt ws ((rs.map (·.1)).take i)) ?_ (by rfl) (by decide) (by rfl) (by decide) (by intro _; rfl)
  repeat tb_rel
  refine iter_dict hS hat fun it => ⟨it, _, _, KI d kvs.length ep, _, ⟨rfl, rfl, drw_dict R.handled hat, by omega, ⟨rfl, .nil⟩, ?_⟩, ?_⟩
  · rintro Γ' D i v ws m mu z1 hA hz0 hb' hE' hi ⟨k, xv, t, hk, rfl⟩ hz1 ⟨rfl, hw⟩
    have R' : Room 1 Γ'.A := hA ▸ R
    repeat tb_rel
    refine tests_nil ?_
    rw [if_pos rfl]
    repeat tb_rel
    refine ⟨_, List.Sublist.refl _, hz1, rfl, ?_⟩
    obtain ⟨r, hr, e, _⟩ := hrs.get hk
    have e1 : (rs.map (·.1))[i]? = some k := by rw [List.getElem?_map, hr]; simp [← e]
    rw [List.take_add_one, e1]
    exact hw.snoc ⟨_, rfl⟩
  · rintro D ws mu z1 hz1 ⟨rfl, hw⟩
    rw [lk, ← List.length_map (f := (·.1)) (as := rs), List.take_length] at hw
    have lw := hw.length
    repeat tb_rel
    refine l_sorted_ints (.inl (.head _)) hw (by rw [lw, List.length_map]; omega) fun a us ys hus hperm hle => ?_
    have hup : ys.Pairwise (· < ·) := by
      have hn : ys.Nodup := hperm.nodup_iff.mpr hnd
      rw [List.nodup_iff_pairwise_ne] at hn
      exact (hle.and hn).imp fun {a b} ⟨h1, h2⟩ => by omega
    have lus := hus.length
    have lys := hperm.length_eq
    rw [List.length_map] at lys
    refine Sat.freezeB (pre := []) (a := a) (x := .list us) (by rw [hbm]; simp [foots, Asn.foot]) fun z2 hz2 ha => ?_
    have ha' : LZ z2 a us := ha
    have hz02 : z.StaysIn z2 := zt hz1 hz2
    refine Sat.sub (mu' := [(d', .dict []), (x, .inst 204 dx [(Str.ofString "rows", .ref d')])]) ?_ (List.Sublist.cons _ (List.Sublist.refl _))
    refine iter_list ha'.isList fun it2 => ⟨it2, _, _, LI a, _, fun i m mu z' => ∃ kvs', mget m (Str.ofString "self") = some (.ref x) ∧ mget m (Str.ofString "rows") = some (.ref d) ∧ mu = [(d', .dict kvs'), (x, .inst 204 dx [(Str.ofString "rows", .ref d')])] ∧ IsRows z' kvs' (kept rs (ys.take i)), rfl, rfl, drw_list R.handled ha'.isList, ⟨[], by rfl, by rfl, rfl, .nil⟩, ?_, ?_⟩
    · rintro i v m mu z3 hi hv hz3 ⟨kvs', e1, e2, rfl, hK⟩
      obtain ⟨y, hy, t, rfl⟩ := hus.get hv
      have hz03 : z.StaysIn z3 := zt hz02 hz3
      have hd3 := hd.mono hz03
      have hr3 := hrs.mono hz03
      have hyin : y ∈ rs.map (·.1) := hperm.subset (List.mem_of_getElem? hy)
      obtain ⟨v, hvat, li, vi, rfl, hli, hpi⟩ := hr3.at.1 hyin
      have lpi := hpi.length
      have hlr : (rowAt rs y).length ≤ 1000 := by
        obtain ⟨r, hr, e⟩ := List.mem_map.mp hyin
        have := rowAt_of_mem hnd hr
        rw [e] at this
        rw [this]; exact hlen r hr
      tb_rel
      tb_rel
      refine execs_cons' (exec_If' ?_)
      refine Sat.asd (decide (rowAt rs y ≠ [])) ?_ ?_
      · repeat tb_rel
        refine d_get (kvs := kvs) (.inr hd3) hvat ?_
        repeat tb_rel
        refine new_list (fun e0 => ?_)
        refine l_ne_nil (vs := vi) (R.less (by decide)) (.inr hli) (.inl (.head _)) ?_
        repeat tb_rel
        refine ⟨?_, rfl, rfl, [_], rfl⟩
        have hnil : vi = [] ↔ rowAt rs y = [] := by rw [← List.length_eq_zero_iff, ← List.length_eq_zero_iff, lpi]
        by_cases q : rowAt rs y = [] <;> simp [q, hnil]
      have hsn : kept rs (ys.take (i + 1)) = kept rs (ys.take i) ++ (if rowAt rs y = [] then [] else [(y, rowAt rs y)]) := by
        rw [List.take_add_one, hy]; exact kept_snoc rs _ y
      refine PyProof.Rows.split_bool (fun h => ?_) (fun h => ?_)
      · simp only [decide_eq_true_eq, ne_eq] at h
        repeat tb_rel
        refine d_get (kvs := kvs) (.inr hd3) hvat ?_
        repeat tb_rel
        refine l_copy (.inr hli) (by omega) fun a2 => ?_
        repeat tb_rel
        refine Sat.freezeB (pre := []) (a := a2) (x := .list vi) (by rw [hbm]; simp [foots, Asn.foot]) fun z4 hz4 ha2 => ?_
        have ha2' : LZ z4 a2 vi := ha2
        have hlk : kvs'.length ≤ 50 := by
          rw [hK.length]
          refine Nat.le_trans (List.length_filterMap_le _ _) ?_
          rw [List.length_take]; omega
        refine d_set (pre := [_]) (by omega) ?_
        repeat tb_rel
        have hab : valueAt kvs' y = none := hK.at.2 fun hm => by
          obtain ⟨r, hr, e⟩ := List.mem_map.mp hm
          have hmt := (kept_fst hr).1
          rw [e] at hmt
          obtain ⟨j, hj, ej⟩ := List.mem_take_iff_getElem.mp hmt
          obtain ⟨hi', eyi⟩ := List.getElem?_eq_some_iff.mp hy
          have := List.pairwise_iff_getElem.mp hup j i (by omega) hi' (by omega)
          rw [ej, eyi] at this
          omega
        refine ⟨_, List.Sublist.refl _, zt hz3 hz4, kvs' ++ [(y, .ref a2)], e1, e2, ?_, ?_⟩
        · show (d', Asn.dict (stored kvs' y (.ref a2))) :: _ = _
          rw [stored_absent hab]
        · rw [hsn, if_neg h]
          exact (hK.mono hz4).snoc ⟨rfl, a2, vi, rfl, ha2', hpi.mono hz4⟩
      · simp only [decide_eq_false_iff_not, ne_eq, Decidable.not_not] at h
        repeat tb_rel
        refine ⟨_, List.Sublist.refl _, hz3, kvs', e1, e2, rfl, ?_⟩
        rw [hsn, if_pos h, List.append_nil]
        exact hK
    · rintro m mu z3 hz3 ⟨kvs', e1, e2, rfl, hK⟩
      rw [lus, List.take_length] at hK
      refine nx_next ?_
      refine Sat.freezeB (pre := []) (a := d') (x := .dict kvs') (by rw [hbm]; simp [foots, Asn.foot]) fun z4 hz4 hd4 => ?_
      refine execs_nil' ?_
      exact ⟨[(x, .inst 204 dx [(Str.ofString "rows", .ref d')])], rfl, fun _ h => h, rfl, _, rfl, d', kvs', ys, rfl, hd4, hK.mono hz4, hperm, hup⟩
theorem region_make {d : Addr} {z : Heap} {kvs : List (Int × Value)} {rs : RowsM} (hd : Asn.At (TW X) z d (.dict kvs)) (hrs : IsRows z kvs rs) (hnd : (rs.map (·.1)).Nodup) (hsz : rs.length ≤ 50) (hc : ∀ r ∈ rs, Canon r.2) (hlen : ∀ r ∈ rs, r.2.length ≤ 1000) :
    SpecC (TW X) 3 (.ref 204) [.ref d] [] z (fun r _ nw z' => ∃ x dx fs, r = .ref x ∧ nw = [(x, .inst 204 dx fs)] ∧
      ∃ d' kvs' ys, fs = [(Str.ofString "rows", .ref d')] ∧ Asn.At (TW X) z' d' (.dict kvs') ∧ IsRows z' kvs' (kept rs ys) ∧ ys.Perm (rs.map (·.1)) ∧ ys.Pairwise (· < ·)) :=
  make_spec (n := 2) (P := fun fs z' => ∃ d' kvs' ys, fs = [(Str.ofString "rows", .ref d')] ∧ Asn.At (TW X) z' d' (.dict kvs') ∧ IsRows z' kvs' (kept rs ys) ∧ ys.Perm (rs.map (·.1)) ∧ ys.Pairwise (· < ·)) WO (by kernel_rfl) (by rfl) (by kernel_rfl) fun x dx => reginit_spec WO hd hrs hnd hsz hc hlen
end

noncomputable def pairD (p : Span) : PyData := .tuple [.int p.1, .int p.2]
noncomputable def spD (sp : List Span) : PyData := .list (sp.map pairD)
theorem reads_pair {h : Heap} {v : Value} {p : Span} (x : IsPair h v p) : Reads h v (pairD p) [] := by
  obtain ⟨a, t, u, rfl, o, ho, hc, n, hd⟩ := x
  exact Reads.tuple (as := [] ++ ([] ++ [])) ho hc hd (.cons (.int _ _) (.cons (.int _ _) .nil))
theorem reads_pairs {h : Heap} {vs : List Value} {sp : List Span} (x : Pairs h vs sp) : ReadsAll h vs (sp.map pairD) [] := by
  induction x with
  | nil => exact .nil
  | cons r _ ih => exact ReadsAll.cons (as := []) (reads_pair r) ih
theorem reads_sp {h : Heap} {l : Addr} {vs : List Value} {sp : List Span} (hl : LZ h l vs) (x : Pairs h vs sp) : Reads h (.ref l) (spD sp) [l] := by
  obtain ⟨n, ho⟩ := hl
  exact Reads.list (as := []) ho rfl rfl (reads_pairs x)
theorem shaped_pair (p : Span) : SeqAt.shaped (pairD p) = true := by rfl
theorem shaped_sp (sp : List Span) : SeqAt.shaped (spD sp) = true := by
  have h1 : PyData.canLayAll0 (sp.map pairD) = true := by
    induction sp with
    | nil => rfl
    | cons p r ih => rw [List.map_cons, PyData.canLayAll0, ih]; rfl
  have h2 : PyData.depthAll (sp.map pairD) ≤ 1 := by
    clear h1
    induction sp with
    | nil => simp [PyData.depthAll]
    | cons p r ih =>
      rw [List.map_cons, PyData.depthAll]
      have : PyData.depth (pairD p) = 1 := by rfl
      omega
  show (PyData.canLay0 (spD sp) && decide (PyData.depth (spD sp) ≤ 64)) = true
  rw [Bool.and_eq_true]
  refine ⟨by simp only [spD, PyData.canLay0]; exact h1, decide_eq_true ?_⟩
  simp only [spD, PyData.depth]; omega
theorem eq_sp {A : Around} {s : Shared} {v u : Value} {sp : List Span} (hu : A.in1.units + 64 < cLine) (hv : IsSp s.heap v sp) (hw : IsSp s.heap u sp) : SeqAt.EqAt A.in1 s v u true := by
  obtain ⟨l, vs, rfl, h1, h2⟩ := hv
  obtain ⟨l', ws, rfl, h3, h4⟩ := hw
  have := keq_at (A := A) (reads_sp h1 h2) (reads_sp h3 h4) (shaped_sp sp) (shaped_sp sp) hu
  rwa [PySem.SeqAt.eqv_refl _ (SeqAt.canLay_of_shaped (shaped_sp sp))] at this
theorem eq_pair {A : Around} {s : Shared} {v u : Value} {p q : Span} (hu : A.in1.units + 64 < cLine) (hv : IsPair s.heap v p) (hw : IsPair s.heap u q) : SeqAt.EqAt A.in1 s v u (decide (p = q)) := by
  have := keq_at (A := A) (reads_pair hv) (reads_pair hw) (shaped_pair p) (shaped_pair q) hu
  have e : PyData.eqv (pairD p) (pairD q) = decide (p = q) := by
    simp only [pairD, PyData.eqv, PyData.eqvAll, Bool.and_true]
    rw [Bool.eq_iff_iff]
    simp [Prod.ext_iff]
  rwa [e] at this
theorem keq_hits {A : Around} {s : Shared} {kb : List (Int × Value)} : ∀ {ka : List (Int × Value)}, (∀ kv ∈ ka, ∃ y, valueAt kb kv.1 = some y ∧ SeqAt.EqAt A s kv.2 y true) → KeqHits A s kb ka true
  | [], _ => .nil
  | (k, v) :: r, h => by
    obtain ⟨y, h1, h2⟩ := h (k, v) (.head _)
    exact KeqHits.hit (e := true) (b := true) h1 h2 (keq_hits fun kv hk => h kv (.tail _ hk))
section
variable {W : Wd} {Γ : Ctx} {σ : St} {s : Shared}
theorem Room.u64 {A : Around} (R : Room 4 A) : A.in1.units + 64 < cLine := by have := R.units; show A.units + 1 + 64 < 9900; omega
theorem d_eq {a b : Addr} {ka kb : List (Int × Value)} {rs : RowsM} {k : Value → St → Prop} (R : Room 4 Γ.A) (ha : DIn W σ a ka) (hb : DIn W σ b kb) (h1 : IsRows σ.z ka rs) (h2 : IsRows σ.z kb rs) (hnd : (rs.map (·.1)).Nodup) (h : k (.bool true) σ) :
    Sat W Γ (compareOp .Eq (.ref a) (.ref b)) k σ := fun s c => by
  obtain ⟨sa, da⟩ := ha.at c
  obtain ⟨sb, db⟩ := hb.at c
  have l1 := h1.length
  have l2 := h2.length
  refine keq_eq (r := true) sa sb da db R.u (fun _ => keq_hits fun kv hkv => ?_) ⟨σ, c, ?_⟩
  · obtain ⟨i, hi, rfl⟩ := List.getElem_of_mem hkv
    obtain ⟨r, hr, e, hs⟩ := (h1.mono c.zle).get (List.getElem?_eq_getElem hi)
    have hrm : r ∈ rs := List.mem_of_getElem? hr
    obtain ⟨v, hv, hs'⟩ := (h2.mono c.zle).at.1 (List.mem_map.mpr ⟨r, hrm, rfl⟩ : r.1 ∈ _)
    rw [rowAt_of_mem hnd hrm] at hs'
    exact ⟨v, by rw [e]; exact hv, eq_sp R.u64 hs hs'⟩
  · simpa [l1, l2] using h
theorem p_in {l : Addr} {vs : List Value} {ps : List Span} {v : Value} {p : Span} {k : Value → St → Prop} (R : Room 4 Γ.A) (hl : LIn σ l vs) (hp : Pairs σ.z vs ps) (hv : IsPair σ.z v p) (h : k (.bool (decide (p ∈ ps))) σ) : Sat W Γ (compareOp .In v (.ref l)) k σ := fun s c => by
  have hlen := hp.length
  obtain ⟨n, ho⟩ := hl.at c
  have h0 := hp.mono c.zle
  -- what each item is told
  letI inst : ∀ (u : Value) (p : Span), Decidable (∃ q, IsPair s.heap u q ∧ q = p) := fun _ _ => Classical.propDecidable _
  let e : Value → Bool := fun u => decide (∃ q, IsPair s.heap u q ∧ q = p)
  have key : ∀ u ∈ vs, ∀ q, IsPair s.heap u q → SeqAt.EqAt Γ.A.in1 s u v (e u) := fun u _ q hq => by
    have := eq_pair (A := Γ.A) R.u64 hq (hv.mono c.zle)
    have e' : e u = decide (q = p) := by
      rw [Bool.eq_iff_iff]
      refine Iff.trans (b := ∃ q, IsPair s.heap u q ∧ q = p) ⟨fun h => of_decide_eq_true h, fun h => decide_eq_true h⟩ (Iff.trans ?_ decide_eq_true_iff.symm)
      constructor
      · rintro ⟨q', hq', rfl⟩
        obtain ⟨a, t, w, rfl, o, ho1, _, n1, hd⟩ := hq
        obtain ⟨a', t', w', ea, o', ho2, _, n2, hd'⟩ := hq'
        cases ea
        rw [ho1] at ho2; cases ho2
        rw [hd] at hd'
        injection hd' with hd' _
        have := congrArg Array.toList hd'
        simp at this
        exact Prod.ext this.1.1 this.2.1
      · rintro rfl; exact ⟨q, hq, rfl⟩
    rw [e']; exact this
  refine SeqAt.in_listAt e ⟨_, ho, rfl, n, rfl⟩ (fun u hu => ?_) ⟨σ, c, ?_⟩
  · have hu' : u ∈ vs := by simpa using hu
    obtain ⟨i, hi, rfl⟩ := List.getElem_of_mem hu'
    obtain ⟨q, _, hq⟩ := h0.get (List.getElem?_eq_getElem hi)
    exact key _ hu' q hq
  · have : vs.toArray.any e = decide (p ∈ ps) := by
      rw [Bool.eq_iff_iff, decide_eq_true_eq, List.any_toArray, List.any_eq_true]
      constructor
      · rintro ⟨u, hu, he⟩
        obtain ⟨q, hq, rfl⟩ : ∃ q, IsPair s.heap u q ∧ q = p := of_decide_eq_true he
        obtain ⟨i, hi, rfl⟩ := List.getElem_of_mem hu
        obtain ⟨q', hq', r⟩ := h0.get (List.getElem?_eq_getElem hi)
        have a1 := key _ hu q hq
        have : q' = q := by
          obtain ⟨a, t, w, ea0, o, ho1, _, n1, hd⟩ := r
          obtain ⟨a', t', w', ea, o', ho2, _, n2, hd'⟩ := hq
          rw [ea0] at ea
          cases ea
          rw [ho1] at ho2; cases ho2
          rw [hd] at hd'
          injection hd' with hd' _
          have := congrArg Array.toList hd'
          simp at this
          exact Prod.ext this.1.1 this.2.1
        rw [← this]; exact List.mem_of_getElem? hq'
      · intro hmem
        obtain ⟨i, hi, rfl⟩ := List.getElem_of_mem hmem
        obtain ⟨u, hu, r⟩ := h0.get' (List.getElem?_eq_getElem hi)
        exact ⟨u, List.mem_of_getElem? hu, (show e u = true from decide_eq_true ⟨_, r, rfl⟩)⟩
    rw [this]; exact h
end
section
variable {X : Xd} (WO : XOk X)
include WO
/-- the row of a region, or the empty list at hand -/
theorem row_cases {z : Heap} {d : Addr} {kvs : List (Int × Value)} {rs : RowsM} (hrs : IsRows z kvs rs) (y : Int) (e0 : Addr) :
    (∃ l vs, (valueAt kvs y).getD (.ref e0) = .ref l ∧ LZ z l vs ∧ Pairs z vs (rowAt rs y)) ∨ ((valueAt kvs y).getD (.ref e0) = .ref e0 ∧ rowAt rs y = []) := by
  by_cases h : y ∈ rs.map (·.1)
  · obtain ⟨v, hv, l, vs, rfl, h1, h2⟩ := hrs.at.1 h
    exact .inl ⟨l, vs, by rw [hv]; rfl, h1, h2⟩
  · refine .inr ⟨by rw [hrs.at.2 h]; rfl, rowAt_notin fun r hr e => h (e ▸ List.mem_map.mpr ⟨r, hr, rfl⟩)⟩
theorem spans_spec {x : Addr} {z : Heap} {rs : RowsM} (hx : IsRegion X z x rs) {y : Int} {t : Tok} (hsz : (rowAt rs y).length ≤ 1000) :
    SpecC (TW X) 1 (.ref 161) [.ref x, .int y t] [] z (NoNew fun r _ z' => IsSp z' r (rowAt rs y)) := by
  refine enterF (n := 0) [(Str.ofString "self", .ref x), (Str.ofString "y", .int y t)] WO (by rfl) (by kernel_rfl) (by rfl) (locs rfl) (by decide) (fun Γ R hE hz₀ hbm => ?_)
  obtain ⟨dx, d, kvs, h1, h2, h3⟩ := hx
  repeat tb_rel
  refine a_get WO (.inr h1) (by kernel_rfl) (by kernel_rfl) (by rfl) (by kernel_rfl) (by rfl) (by rfl) ?_
  refine d_meth (.inr h2) ?_
  refine d_get2 h2.1 ?_ (by rfl)
  repeat tb_rel
  refine new_list fun e0 => ?_
  refine ⟨y, t, kvs, rfl, .inr h2, ?_⟩
  repeat tb_rel
  rcases row_cases (X := X) WO (d := d) h3 y e0 with ⟨l, vs, e, hl, hp⟩ | ⟨e, hr⟩
  · rw [e]
    have := hp.length
    refine l_copy (.inr hl) (by omega) fun a => ?_
    exact ⟨[(a, .list vs)], List.Sublist.cons_cons _ (List.nil_sublist _), fun z' hz' hf => ⟨a, vs, rfl, hf _ (.head _), hp.mono hz'⟩⟩
  · rw [e]
    refine l_copy (.inl (.head _)) (by simp) fun a => ?_
    exact ⟨[(a, .list [])], List.Sublist.cons_cons _ (List.nil_sublist _), fun z' hz' hf => ⟨a, [], rfl, hf _ (.head _), by rw [hr]; exact .nil⟩⟩
theorem heights_spec {x : Addr} {z : Heap} {rs : RowsM} (hx : IsRegion X z x rs) (hsz : rs.length ≤ 50) :
    SpecC (TW X) 2 (.ref 168) [.ref x] [] z (NoNew fun r _ z' => ∃ l vs, r = .ref l ∧ LZ z' l vs ∧ All2 AInt vs (rs.map (·.1))) := by
  refine enterF (n := 1) [(Str.ofString "self", .ref x)] WO (by rfl) (by kernel_rfl) (by rfl) (locs rfl) (by decide) (fun Γ R hE hz₀ hbm => ?_)
  obtain ⟨dx, d, kvs, h1, h2, h3⟩ := hx
  have hk := h3.length
  repeat tb_rel
  refine a_get WO (.inr h1) (by kernel_rfl) (by kernel_rfl) (by rfl) (by kernel_rfl) (by rfl) (by rfl) ?_
  repeat tb_rel
  refine d_list R (.inr h2) (by omega) fun a vs hl hv => ?_
  refine ⟨[(a, .list vs)], List.Sublist.refl _, fun z' hz' hf => ⟨a, vs, rfl, hf _ (.head _), ?_⟩⟩
  have : ∀ (vs : List Value) (kvs : List (Int × Value)) (rs : RowsM), All2 (IsRow z) kvs rs → vs.length = kvs.length → (∀ (j : Nat) (v : Value), vs[j]? = some v → ∃ i x t, kvs[j]? = some (i, x) ∧ v = Value.int i t) → All2 AInt vs (rs.map (·.1)) := by
    intro vs kvs rs h
    induction h generalizing vs with
    | nil => intro hl _; rw [List.length_eq_zero_iff.mp hl]; exact .nil
    | @cons kv r kvs rs q _ ih =>
      intro hl hv
      match vs, hl with
      | v :: vs, hl =>
        obtain ⟨i, x, t, e, rfl⟩ := hv 0 v rfl
        simp at e
        refine .cons ⟨t, ?_⟩ (ih vs (by simpa using hl) fun j v hj => hv (j + 1) v (by simpa using hj))
        show Value.int i t = Value.int r.1 t
        rw [← q.1, e]
  exact this vs kvs rs h3 hl hv
theorem rholds_spec {x : Addr} {z : Heap} {rs : RowsM} (hx : IsRegion X z x rs) (ho : RegOk rs) {px y : Int} {tx t : Tok} (hsz : (rowAt rs y).length ≤ 1000) :
    SpecC (TW X) 3 (.ref 182) [.ref x, .int px tx, .int y t] [] z (NoNew fun r _ _ => r = .bool (decide (Mem (rowAt rs y) px))) := by
  refine enter (n := 2) [(Str.ofString "self", .ref x), (Str.ofString "x", .int px tx), (Str.ofString "y", .int y t)] WO (by rfl) (by kernel_rfl) (by rfl) (locs rfl) (by decide) (fun Γ R hE hz₀ hbm => ?_)
  obtain ⟨dx, d, kvs, h1, h2, h3⟩ := hx
  repeat tb_rel
  refine a_get WO (.inr h1) (by kernel_rfl) (by kernel_rfl) (by rfl) (by kernel_rfl) (by rfl) (by rfl) ?_
  refine d_meth (.inr h2) ?_
  refine d_get2 h2.1 ?_ (by rfl)
  repeat tb_rel
  refine new_list fun e0 => ?_
  refine ⟨y, t, kvs, rfl, .inr h2, ?_⟩
  repeat tb_rel
  refine Sat.freeze0 hbm fun z1 hz1 he0 => ?_
  rcases row_cases (X := X) WO (d := d) h3 y e0 with ⟨l, vs, e, hl, hp⟩ | ⟨e, hr⟩
  · rw [e]
    refine use_spec0 (lookup_spec WO (hl.mono hz1) (hp.mono hz1) (ho.rowCanon y) hsz).spec R (fun r _ z3 hz3 h => ?_)
    exact ⟨[], rfl, fun _ h => h, h⟩
  · rw [e]
    have he : LZ z1 e0 [] := he0
    refine use_spec0 (lookup_spec WO he .nil canon_nil (by simp)).spec R (fun r _ z3 hz3 h => ?_)
    exact ⟨[], rfl, fun _ h => h, by rw [hr]; exact h⟩
end
section
variable {X : Xd} (WO : XOk X)
include WO
theorem area_spec {x : Addr} {z : Heap} {rs : RowsM} (hx : IsRegion X z x rs) (hsz : rs.length ≤ 50) (hnd : (rs.map (·.1)).Nodup) :
    SpecC (TW X) 3 (.ref 187) [.ref x] [] z (NoNew fun r _ _ => ∃ t, r = .int ((rs.map fun r => lenF r.2).sum) t) := by
  refine enterCellF (n := 2) (m := []) [(Str.ofString "self", .ref x)] WO (by rfl) (by kernel_rfl) (by rfl) (fun n y hy => ?_) (by decide) (fun Γ R hE hz₀ hbm => ?_) (fun _ => rfl)
  · rw [List.mem_singleton.mp hy]; exact .inr ⟨by rfl, by rfl⟩
  obtain ⟨dx, d, kvs, h1, h2, h3⟩ := hx
  have hk := h3.length
  show Sat _ _ _ _ ⟨[], [(Γ.L + 1, .cell (some (.ref x)))], z⟩
  repeat tb_rel
  refine e_comp (fun i ws mu z' => mu = [(Γ.L + 1, .cell (some (.ref x)))] ∧ All2 AInt ws ((rs.map fun r => lenF r.2).take i)) ?_ (by rfl) (by decide) (by rfl) (by decide) (by intro _; rfl)
  repeat tb_rel
  refine a_get WO (.inr h1) (by kernel_rfl) (by kernel_rfl) (by rfl) (by kernel_rfl) (by rfl) (by rfl) ?_
  obtain ⟨hS, hD⟩ := id h2
  obtain ⟨ep, hat⟩ := hD.dictAt
  refine iter_dict hS hat fun it => ⟨it, _, _, KI d kvs.length ep, _, ⟨rfl, rfl, drw_dict R.handled hat, by omega, ⟨rfl, .nil⟩, ?_⟩, ?_⟩
  · rintro Γ' D i v ws m mu z1 hA hz0 hb' hE' hi ⟨k, xv, t, hkv, rfl⟩ hz1 ⟨rfl, hw⟩
    have R' : Room 2 Γ'.A := hA ▸ R
    obtain ⟨r, hr, e, l, vs, hv, hl, hp⟩ := h3.get hkv
    have e' : k = r.1 := e
    repeat tb_rel
    refine tests_nil ?_
    rw [if_pos rfl]
    repeat tb_rel
    refine a_get WO (.inr (h1.mono hz1)) (by kernel_rfl) (by kernel_rfl) (by rfl) (by kernel_rfl) (by rfl) (by rfl) ?_
    repeat tb_rel
    refine d_get (kvs := kvs) (.inr (h2.mono hz1)) (valueAt_of_get (by rw [h3.keys]; exact hnd) hkv) ?_
    repeat tb_rel
    have hv' : xv = .ref l := hv
    subst hv'
    refine use_spec0 (length_spec WO (hl.mono hz1) (hp.mono hz1)).spec (R'.less (by decide)) (fun r' _ z2 hz2 h => ?_)
    obtain ⟨t', rfl⟩ := h
    refine ⟨_, List.Sublist.refl _, zt hz1 hz2, rfl, ?_⟩
    have e1 : (rs.map fun r => lenF r.2)[i]? = some (lenF r.2) := by rw [List.getElem?_map, hr]; rfl
    rw [List.take_add_one, e1]
    exact hw.snoc ⟨_, rfl⟩
  · rintro D ws mu z1 hz1 ⟨rfl, hw⟩
    rw [hk, ← List.length_map (f := fun r => lenF r.2) (as := rs), List.take_length] at hw
    repeat tb_rel
    refine l_sum (R.less (by decide)) (.inl (.head _)) hw fun t => ?_
    exact ⟨[], List.nil_sublist _, fun z' _ _ => ⟨t, rfl⟩⟩
end
theorem keys_ints {z : Heap} : ∀ {vs : List Value} {kvs : List (Int × Value)} {rs : RowsM}, All2 (IsRow z) kvs rs → vs.length = kvs.length → (∀ (j : Nat) (v : Value), vs[j]? = some v → ∃ i x t, kvs[j]? = some (i, x) ∧ v = Value.int i t) → All2 AInt vs (rs.map (·.1)) := by
  intro vs kvs rs h
  induction h generalizing vs with
  | nil => intro hl _; rw [List.length_eq_zero_iff.mp hl]; exact .nil
  | @cons kv r kvs rs q _ ih =>
    intro hl hv
    match vs, hl with
    | v :: vs, hl =>
      obtain ⟨i, x, t, e, rfl⟩ := hv 0 v rfl
      simp at e
      refine .cons ⟨t, ?_⟩ (ih (by simpa using hl) fun j v hj => hv (j + 1) v (by simpa using hj))
      show Value.int i t = Value.int r.1 t
      rw [← q.1, e]
/-- the union of two rows, for one height -/
structure UnRow (rs1 rs2 : RowsM) (B : Nat) (r : Int × List Span) : Prop where
  canon : Canon r.2
  len : r.2.length ≤ B
  mem : ∀ x, Mem r.2 x ↔ Mem (rowAt rs1 r.1) x ∨ Mem (rowAt rs2 r.1) x
section
variable {X : Xd} (WO : XOk X)
include WO
theorem like_spec {x y : Addr} {z : Heap} {rs : RowsM} (hx : IsRegion X z x rs) (hy : IsRegion X z y rs) (hnd : (rs.map (·.1)).Nodup) :
    SpecC (TW X) 5 (.ref 201) [.ref x, .ref y] [] z (NoNew fun r _ _ => r = .bool true) := by
  refine enter (n := 4) [(Str.ofString "self", .ref x), (Str.ofString "other", .ref y)] WO (by rfl) (by kernel_rfl) (by rfl) (locs rfl) (by decide) (fun Γ R hE hz₀ hbm => ?_)
  obtain ⟨dx, d, kvs, h1, h2, h3⟩ := hx
  obtain ⟨dy, d', kvs', g1, g2, g3⟩ := hy
  repeat tb_rel
  refine a_get WO (.inr h1) (by kernel_rfl) (by kernel_rfl) (by rfl) (by kernel_rfl) (by rfl) (by rfl) ?_
  repeat tb_rel
  refine a_get WO (.inr g1) (by kernel_rfl) (by kernel_rfl) (by rfl) (by kernel_rfl) (by rfl) (by rfl) ?_
  refine d_eq R (.inr h2) (.inr g2) h3 g3 hnd ?_
  exact ⟨[], rfl, fun _ h => h, rfl⟩
theorem isempty_spec {x : Addr} {z : Heap} (hx : IsRegion X z x []) :
    SpecC (TW X) 5 (.ref 175) [.ref x] [] z (NoNew fun r _ _ => r = .bool true) := by
  refine enter (n := 4) [(Str.ofString "self", .ref x)] WO (by rfl) (by kernel_rfl) (by rfl) (locs rfl) (by decide) (fun Γ R hE hz₀ hbm => ?_)
  obtain ⟨dx, d, kvs, h1, h2, h3⟩ := hx
  cases h3
  repeat tb_rel
  refine a_get WO (.inr h1) (by kernel_rfl) (by kernel_rfl) (by rfl) (by kernel_rfl) (by rfl) (by rfl) ?_
  repeat tb_rel
  refine d_new WO fun e => ?_
  refine d_eq (rs := []) R (.inr h2) (.inl (.head _)) .nil .nil List.nodup_nil ?_
  exact ⟨[], rfl, fun _ h => (nomatch h), rfl⟩

theorem byrows_spec {x1 x2 : Addr} {z : Heap} {rs1 rs2 : RowsM} {b1 b2 : Nat} (hx : IsRegion X z x1 rs1) (hy : IsRegion X z x2 rs2) (ho1 : RegOk rs1) (ho2 : RegOk rs2) (hsz : rs1.length + rs2.length ≤ 50) (hb1 : ∀ y, (rowAt rs1 y).length ≤ b1) (hb2 : ∀ y, (rowAt rs2 y).length ≤ b2) (hbb : b1 + b2 ≤ 1000) :
    SpecC (TW X) 6 (.ref 225) [.ref x1, .ref x2, .ref 114] [] z (NoNew fun r _ z' => ∃ x rs, r = .ref x ∧ IsRegion X z' x rs ∧ RegOk rs ∧ rs.length ≤ rs1.length + rs2.length ∧ (∀ y, (rowAt rs y).length ≤ b1 + b2) ∧ ∀ y x, Mem (rowAt rs y) x ↔ Mem (rowAt rs1 y) x ∨ Mem (rowAt rs2 y) x) := by
  refine enterF (n := 5) [(Str.ofString "one", .ref x1), (Str.ofString "other", .ref x2), (Str.ofString "put_together", .ref 114)] WO (by rfl) (by kernel_rfl) (by rfl) (locs rfl) (by decide) (fun Γ R hE hz₀ hbm => ?_)
  have hx' := hx
  have hy' := hy
  obtain ⟨dx, d1, kvs1, h1, h2, h3⟩ := hx'
  obtain ⟨dy, d2, kvs2, g1, g2, g3⟩ := hy'
  have lk1 := h3.length
  have lk2 := g3.length
  repeat tb_rel
  refine d_new WO fun d => ?_
  repeat tb_rel
  with_reducible refine for_late hE.back ?_ ?hs
  case hs => intro _; rfl
  repeat tb_rel
  refine a_get WO (.inr h1) (by kernel_rfl) (by kernel_rfl) (by rfl) (by kernel_rfl) (by rfl) (by rfl) ?_
  repeat tb_rel
  refine d_list (R.less (by decide)) (.inr h2) (by omega) fun a1 vs1 hl1 hv1 => ?_
  repeat tb_rel
  refine a_get WO (.inr g1) (by kernel_rfl) (by kernel_rfl) (by rfl) (by kernel_rfl) (by rfl) (by rfl) ?_
  repeat tb_rel
  refine d_list (R.less (by decide)) (.inr g2) (by omega) fun a2 vs2 hl2 hv2 => ?_
  refine l_add (.inl (.tail _ (.head _))) (.inl (.head _)) (by omega) fun a3 => ?_
  have hI := (keys_ints h3 hl1 hv1).append (keys_ints g3 hl2 hv2)
  generalize hys : rs1.map (·.1) ++ rs2.map (·.1) = ys at hI
  have lI := hI.length
  have lys : ys.length = rs1.length + rs2.length := by rw [← hys]; simp
  refine Sat.freeze0 hbm fun z2 hz2 ha => ?_
  have ha' : LZ z2 a3 (vs1 ++ vs2) := ha
  refine Sat.sub (mu' := [(d, .dict [])]) ?_ (List.Sublist.cons _ (List.Sublist.cons _ (List.Sublist.refl _)))
  refine iter_list ha'.isList fun it => ⟨it, _, _, LI a3, _, fun i m mu z' => ∃ kvs Rr, mget m (Str.ofString "one") = some (.ref x1) ∧ mget m (Str.ofString "other") = some (.ref x2) ∧ mget m (Str.ofString "put_together") = some (.ref 114) ∧ mget m (Str.ofString "rows") = some (.ref d) ∧
      mu = [(d, .dict kvs)] ∧ IsRows z' kvs Rr ∧ (Rr.map (·.1)).Nodup ∧ Rr.length ≤ i ∧ (∀ y, y ∈ Rr.map (·.1) ↔ y ∈ ys.take i) ∧ ∀ r ∈ Rr, UnRow rs1 rs2 (b1 + b2) r, rfl, rfl, drw_list R.handled ha'.isList,
      ⟨[], [], by rfl, by rfl, by rfl, by rfl, rfl, .nil, List.nodup_nil, Nat.le_refl _, fun y => by simp, fun _ h => nomatch h⟩, ?_, ?_⟩
  · rintro i v m mu z3 hi hv hz3 ⟨kvs, Rr, e1, e2, e3, e4, rfl, hK, hn, hl, hk, hu⟩
    obtain ⟨y, hyy, t, rfl⟩ := hI.get hv
    have hz03 : z.StaysIn z3 := zt hz2 hz3
    have hat := hK.at (y := y)
    have htk : ys.take (i + 1) = ys.take i ++ [y] := by rw [List.take_add_one, hyy]; rfl
    tb_rel
    tb_rel
    refine execs_cons' (exec_If' ?_)
    refine Sat.as (decide (y ∉ ys.take i)) ?_ ?_
    · repeat tb_rel
      refine d_notin (kvs := kvs) (.inl (by nest_cls)) ?_
      repeat tb_rel
      refine ⟨?_, rfl⟩
      by_cases q : y ∈ ys.take i
      · obtain ⟨v, hv, _⟩ := hat.1 ((hk y).mpr q)
        simp [hv, q]
      · rw [hat.2 fun h => q ((hk y).mp h)]
        simp [q]
    refine PyProof.Rows.split_bool (fun h => ?_) (fun h => ?_)
    · simp only [decide_eq_true_eq] at h
      have hnone := hat.2 fun q => h ((hk y).mp q)
      repeat tb_rel
      refine a_meth WO (.inr (h1.mono hz03)) (by kernel_rfl) (by rfl) (by kernel_rfl) (by rfl) ?_
      repeat tb_rel
      refine use_spec0 (spans_spec WO (hx.mono hz03) (by have := hb1 y; omega)).spec (R.less (by decide)) (fun r _ z4 hz4 h => ?_)
      obtain ⟨l1, ws1, rfl, hl1, hp1⟩ := h
      have hz04 := zt hz03 hz4
      repeat tb_rel
      refine a_meth WO (.inr (g1.mono hz04)) (by kernel_rfl) (by rfl) (by kernel_rfl) (by rfl) ?_
      repeat tb_rel
      refine use_spec0 (spans_spec WO (hy.mono hz04) (by have := hb2 y; omega)).spec (R.less (by decide)) (fun r _ z5 hz5 h => ?_)
      obtain ⟨l2, ws2, rfl, hl2, hp2⟩ := h
      repeat tb_rel
      refine use_spec0 (union_spec WO (hl1.mono hz5) (hp1.mono hz5) (by have := hb1 y; omega) hl2 hp2 (by have := hb2 y; omega) (ho1.rowCanon y) (ho2.rowCanon y)).spec R (fun r _ z6 hz6 h => ?_)
      obtain ⟨l3, ws3, sp, rfl, hl3, hp3, hc3, hlen3, hm3⟩ := h
      repeat tb_rel
      have hkl := hK.length
      refine d_set (pre := [_]) (by omega) ?_
      repeat tb_rel
      have hz36 : z3.StaysIn z6 := zt hz4 (zt hz5 hz6)
      have b1' := hb1 y
      have b2' := hb2 y
      refine ⟨_, List.Sublist.refl _, zt hz3 hz36, kvs ++ [(y, .ref l3)], Rr ++ [(y, sp)], e1, e2, e3, e4, ?_, (hK.mono hz36).snoc ⟨rfl, l3, ws3, rfl, hl3, hp3⟩, ?_, by simp; omega, ?_, ?_⟩
      · show [(d, Asn.dict (stored kvs y (.ref l3)))] = _
        rw [stored_absent hnone]
      · rw [List.map_append, List.nodup_append]
        refine ⟨hn, by simp, fun a ha b hb => ?_⟩
        simp at hb
        rintro rfl
        exact h ((hk _).mp (hb ▸ ha))
      · intro w
        rw [List.map_append, List.mem_append, htk, List.mem_append, hk w]; simp
      · intro r hr
        rcases List.mem_append.mp hr with q | q
        · exact hu r q
        · rw [List.mem_singleton.mp q]
          exact ⟨hc3, by show sp.length ≤ _; omega, hm3⟩
    · simp only [decide_eq_false_iff_not, Decidable.not_not] at h
      repeat tb_rel
      refine ⟨_, List.Sublist.refl _, hz3, kvs, Rr, e1, e2, e3, e4, rfl, hK, hn, by omega, fun w => ?_, hu⟩
      rw [htk, List.mem_append, hk w]
      simp only [List.mem_singleton]
      exact ⟨.inl, fun q => q.elim id fun q => q ▸ h⟩
  · rintro m mu z3 hz3 ⟨kvs, Rr, e1, e2, e3, e4, rfl, hK, hn, hl, hk, hu⟩
    rw [lI, List.take_length] at hk
    repeat tb_rel
    refine Sat.freeze0 hbm fun z4 hz4 hd4 => ?_
    refine use_spec1 (region_make WO hd4 (hK.mono hz4) hn (by omega) (fun r hr => (hu r hr).canon) (fun r hr => by have := (hu r hr).len; omega)).spec (R.less (by decide)) (fun r _ nw z5 hz5 h => ?_)
    obtain ⟨x, dz, fs, rfl, rfl, d', kvs', zs, rfl, q1, q2, q3, q4⟩ := h
    have hin : ∀ r ∈ Rr, r.1 ∈ zs := fun r hr => q3.symm.subset (List.mem_map.mpr ⟨r, hr, rfl⟩)
    have hrow := fun w => kept_row (ys := zs) hin w
    have hlz : zs.length = Rr.length := by rw [q3.length_eq, List.length_map]
    refine ⟨[(x, .inst 204 dz _)], List.Sublist.refl _, fun z6 hz6 hf => ⟨x, kept Rr zs, rfl, ⟨dz, d', kvs', hf _ (.head _), q1.mono hz6, q2.mono hz6⟩, kept_ok q4 fun r hr => (hu r hr).canon, ?_, fun w => ?_, fun w u => ?_⟩⟩
    · refine Nat.le_trans (List.length_filterMap_le _ _) ?_
      omega
    · rw [hrow w]
      by_cases e : rowAt Rr w = []
      · rw [e]; simp
      · obtain ⟨r, hr, _, e2⟩ := rowAt_mem e
        rw [← e2]; exact (hu r hr).len
    · rw [hrow w]
      by_cases e : w ∈ Rr.map (·.1)
      · obtain ⟨r, hr, rfl⟩ := List.mem_map.mp e
        rw [rowAt_of_mem hn hr]; exact (hu r hr).mem u
      · rw [rowAt_notin fun r hr q => e (List.mem_map.mpr ⟨r, hr, q⟩)]
        have hw : w ∉ ys := fun q => e ((hk w).mpr q)
        rw [← hys, List.mem_append, not_or] at hw
        rw [rowAt_notin fun r hr q => hw.1 (List.mem_map.mpr ⟨r, hr, q⟩), rowAt_notin fun r hr q => hw.2 (List.mem_map.mpr ⟨r, hr, q⟩)]
        simp [mem_nil]
theorem runion_spec {x1 x2 : Addr} {z : Heap} {rs1 rs2 : RowsM} {b1 b2 : Nat} (hx : IsRegion X z x1 rs1) (hy : IsRegion X z x2 rs2) (ho1 : RegOk rs1) (ho2 : RegOk rs2) (hsz : rs1.length + rs2.length ≤ 50) (hb1 : ∀ y, (rowAt rs1 y).length ≤ b1) (hb2 : ∀ y, (rowAt rs2 y).length ≤ b2) (hbb : b1 + b2 ≤ 1000) :
    SpecC (TW X) 7 (.ref 232) [.ref x1, .ref x2] [] z (NoNew fun r _ z' => ∃ x rs, r = .ref x ∧ IsRegion X z' x rs ∧ RegOk rs ∧ rs.length ≤ rs1.length + rs2.length ∧ (∀ y, (rowAt rs y).length ≤ b1 + b2) ∧ ∀ y x, Mem (rowAt rs y) x ↔ Mem (rowAt rs1 y) x ∨ Mem (rowAt rs2 y) x) := by
  refine enter (n := 6) [(Str.ofString "one", .ref x1), (Str.ofString "other", .ref x2)] WO (by rfl) (by kernel_rfl) (by rfl) (locs rfl) (by decide) (fun Γ R hE hz₀ hbm => ?_)
  repeat tb_rel
  refine use_spec0 (byrows_spec WO hx hy ho1 ho2 hsz hb1 hb2 hbb).spec R (fun r _ z2 hz2 h => ?_)
  exact ⟨[], rfl, fun _ h => h, h⟩
end

theorem plain51 (X : Xd) : plainStore (TW X).K 51 := ⟨_, by rfl, by rfl, by rfl, by rfl, fun self => by kernel_rfl⟩

section
variable {X : Xd} (WO : XOk X)
include WO
theorem faultinit_spec {e : Addr} {x : Str} {t : Tok} {z : Heap} :
    SpecC (TW X) 1 (.ref 35) [.ref e, .str x t] [(e, .raw (BornX 51))] z (NoNew fun r bm' _ => r = .none ∧ bm' = [(e, .raw (NewX 51))]) := by
  refine enter (n := 0) [(Str.ofString "self", .ref e), (Str.ofString "message", .str x t)] WO (by rfl) (by kernel_rfl) (by rfl) (locs rfl) (by decide) (fun Γ R hE hz₀ hbm => ?_)
  refine execs_cons' (exec_AsgA ?_ (by rfl))
  tb_rel
  tb_rel
  refine x_set WO (by rfl) (plain51 X) (by rfl) ?_
  refine nx_next (execs_nil' ?_)
  refine ⟨[(e, .raw (NewX 51))], ?_, fun _ h => h, rfl, rfl⟩
  rfl
theorem fault_make {x : Str} {t : Tok} {z : Heap} : SpecC (TW X) 2 (.ref 51) [.str x t] [] z (fun r _ nw _ => ∃ e, r = .ref e ∧ nw = [(e, .raw (NewX 51))]) :=
  x_make (n := 1) (bm := [.ref 38, .type "Exception", .type "BaseException", .type "object"]) WO ⟨by rfl, by rfl, by rfl⟩ (by rfl) (by rfl) (by kernel_rfl) (by simp) fun e => faultinit_spec WO
end
theorem exck51 {X : Xd} (WO : XOk X) : ExcK (model (TW X).prog (TW X).w) (TW X).B 51 where
  tup := Looks.of_peek WO.K (by kernel_rfl)
  exc := Looks.of_peek WO.K (by kernel_rfl)
  sub := Looks.of_peek WO.K (by kernel_rfl)
  base := Looks.of_peek WO.K (by kernel_rfl)
  mty := Looks.of_peek WO.K (by kernel_rfl)

section
variable {X : Xd} (WO : XOk X)
include WO
theorem told_spec {g : Addr} {l : List Env} {bm : Mu} {z : Heap} {n : Nat} {Post : Value → Heap → Prop} {Err : Prop} (hl : FramesIn l bm) (hns : ∀ p ∈ bm, SlotOk p.2) (hfn : IsFnAt z g) (hmono : ∀ r z1 z2, z1.StaysIn z2 → Post r z1 → Post r z2)
    (hcall : ∀ (env : Env) (L : Addr) (f : Str → Option Value), env.frame = some L → env.scope.kind ≠ .module → SpecE (TW X) 51 n (.ref g) [] (env :: l) ((L, .raw (NsO f)) :: bm) z (fun r bm' nw z'' => nw = [] ∧ bm' = (L, .raw (NsO f)) :: bm ∧ Post r z'') Err) :
    SpecE (TW X) 51 (n + 1) (.ref 267) [.ref g] l bm z (fun r bm' nw z' => nw = [] ∧ bm' = bm ∧ (Post r z' ∨ (Err ∧ r = .none))) False := by
  refine enterE (n := n) (m := [(Str.ofString "call", .ref g)]) [(Str.ofString "call", .ref g)] WO (by rfl) (by kernel_rfl) (by rfl) (fun n y hy => ?_) (by decide) hl hns (fun Γ R hz₀ hbm hEB hA hE => ?_) (fun _ => rfl)
  · rw [List.mem_singleton.mp hy]; exact .inl (by rfl)
  refine Sat.weak (σ' := ⟨[(Str.ofString "call", .ref g)], bm ++ [], z⟩) ?_ (fun s c => by rw [List.append_nil]; exact c)
  refine execs_cons' ?_
  refine exec_Try' (C := 51) (l := l) (Err := Err) (exck51 WO) hA rfl hns (fun Γ' e1 e2 e3 e4 hE' => ?_) (fun A' s' Q E' hB hQ => ?_) (fun Γ' z' e2 e3 hz he => ?_)
  · obtain ⟨A', L', z₀', s₀', bm', E''⟩ := Γ'
    dsimp only at e1 e2 e3 e4 hE'
    subst e1 e2 e3 e4
    refine execs_cons' (exec_Ret ?_)
    refine e_call ?_ (by rfl)
    refine name_l (v := .ref g) (by rfl) ?_ (by rfl) (by rfl) (by rfl) (by decide)
    refine cw_z0 hfn ?_
    refine use_specE (C := 51) (l := l) (Err := Err) (hcall _ _ _ (by rfl) (show ScopeKind.function ≠ ScopeKind.module from fun q => nomatch q)) R hA (fun r z' hz p => ?_) (fun e s₂ h' tk' he c fy => hE' e s₂ h' tk' he c fy)
    exact nx_ret ⟨by simp, nx_ret ⟨[], by simp, fun z'' hz'' _ => .inl (hmono _ _ _ hz'' p)⟩⟩
  · have b := WO.keeps hB
    exact Name_function_global (by rfl) (by rfl) (loadGlobal_global b.top.g (mg_of b.K b.top.g (by with_unfolding_all rfl)) hQ) (by decide)
  · refine execs_cons' (exec_Ret (const_n ?_))
    exact nx_ret (nx_ret ⟨[], by simp, fun z'' hz'' _ => .inr ⟨he, rfl⟩⟩)
end
/-- the places of one rectangle -/
noncomputable def rectRows (left top width : Int) (n : Nat) : RowsM := (List.range n).map fun (i : Nat) => (top + (i : Int), [(left, left + width)])
theorem rectRows_keys (left top width : Int) (n : Nat) : ((rectRows left top width n).map (·.1)).Nodup := by
  unfold rectRows
  rw [List.map_map, List.nodup_iff_pairwise_ne, List.pairwise_map]
  refine List.pairwise_lt_range.imp fun {a b} h => ?_
  show top + (a : Int) ≠ top + (b : Int)
  omega
theorem rectRows_row (left top width : Int) (n : Nat) (y : Int) : rowAt (rectRows left top width n) y = if top ≤ y ∧ y < top + n then [(left, left + width)] else [] := by
  split
  · rename_i h
    have hm : (y, [(left, left + width)]) ∈ rectRows left top width n := List.mem_map.mpr ⟨(y - top).toNat, List.mem_range.mpr (by omega), by
      have : top + ((y - top).toNat : Int) = y := by omega
      rw [this]⟩
    exact rowAt_of_mem (rectRows_keys left top width n) hm
  · rename_i h
    refine rowAt_notin fun r hr e => h ?_
    obtain ⟨i, hi, rfl⟩ := List.mem_map.mp hr
    have := List.mem_range.mp hi
    have e' : top + (i : Int) = y := e
    omega
theorem rectRows_in {left top width : Int} {n : Nat} {r : Int × List Span} (hr : r ∈ rectRows left top width n) : r.2 = [(left, left + width)] := by
  obtain ⟨i, hi, rfl⟩ := List.mem_map.mp hr
  rfl
theorem canon_one {a b : Int} (h : a < b) : Canon [(a, b)] := ⟨fun p hp => by rw [List.mem_singleton.mp hp]; exact h, List.pairwise_singleton _ _⟩
theorem kept_nil (ys : List Int) : kept [] ys = [] := by
  unfold kept
  induction ys with
  | nil => rfl
  | cons y ys ih => simp [rowAt_nil]

theorem Coh.head_off {W : Wd} {Γ : Ctx} {m : Loc} {e : Addr} {x : Obj → Prop} {mu : Mu} {z : Heap} {s : Shared} (c : Coh W Γ ⟨m, (e, .raw x) :: mu, z⟩ s) : e ∉ foots mu := by
  have : (foots ((e, Asn.raw x) :: mu)).Nodup := c.mund
  rw [show foots ((e, Asn.raw x) :: mu) = e :: foots mu by simp [foots, Asn.foot]] at this
  exact (List.nodup_cons.mp this).1
theorem foots_subset {a b : Mu} (h : ∀ p ∈ a, p ∈ b) : ∀ x ∈ foots a, x ∈ foots b := fun x hx => by
  obtain ⟨p, hp, hq⟩ := List.mem_flatMap.mp hx
  exact List.mem_flatMap.mpr ⟨p, h p hp, hq⟩
/-- the first object is frozen; what is lent lies behind it -/
theorem Sat.frz {W : Wd} {Γ : Ctx} {α : Type} {t : Sem α} {k : α → St → Prop} {m : Loc} {bm post : Mu} {z : Heap} {a : Addr} {x : Asn} (hbm : Γ.bm = foots bm) (hb : ∀ p ∈ bm, p ∈ post) (h : ∀ z', z.StaysIn z' → x.At W z' a → Sat W Γ t k ⟨m, post, z'⟩) : Sat W Γ t k ⟨m, (a, x) :: post, z⟩ :=
  Sat.freezeB (pre := []) (by rw [hbm]; exact foots_subset hb) h
section
variable {X : Xd} (WO : XOk X)
include WO
theorem raise_fault {Γ : Ctx} {env : Env} {msg : Str} {kk : Nat} {p1 p2 p3 pos : Pos} {k : Flow → St → Prop} {m : Loc} {bm mu : Mu} {z : Heap} (R : Room 2 Γ.A)
    (hE : ∀ e m mu z' s', Coh (TW X) Γ ⟨m, mu, z'⟩ s' → (∀ p ∈ bm, p ∈ mu) → (e, .raw (NewX 51)) ∈ mu → e ∉ foots bm → Γ.E (.ref e) s') (hb : ∀ p ∈ bm, p ∈ mu)
    (hg : env.globals = mainGlobals) (hk : env.scope.kind = .function) (hx : env.kindOf (Str.ofString "SizeFault") = some .globalImplicit)
    (hcall : eval (.Call (.Name (Str.ofString "SizeFault") p1) [.Constant (.str msg) kk p2] [] p3) env = (do callWith p3 (← eval (.Name (Str.ofString "SizeFault") p1) env) [] (backTo p3 (starEach [.Constant (.str msg) kk p2] env)) (backToKw p3 (keywordEach [] env))))
    (h1 : starEach [.Constant (.str msg) kk p2] env = (false, eval (.Constant (.str msg) kk p2) env) :: starEach [] env) :
    Sat (TW X) Γ (exec (.Raise (some (.Call (.Name (Str.ofString "SizeFault") p1) [.Constant (.str msg) kk p2] [] p3)) none pos) env) k ⟨m, mu, z⟩ := by
  refine exec_Raise' (C := 51) (R.less (by decide)) (exck51 WO) ?_
  refine e_call ?_ hcall
  refine name_g WO (by with_unfolding_all rfl) ?_ hg hk hx (by decide)
  refine cw_f WO (by kernel_rfl) ?_ h1 (by rfl)
  refine items_cons ?_ h1
  refine const_s fun t => ?_
  refine items_nil ?_
  refine use_spec1 (fault_make WO).spec R (fun r _ nw z1 hz1 h => ?_)
  obtain ⟨e, rfl, rfl⟩ := h
  exact ⟨e, rfl, .head _, fun s' c => hE e _ _ _ s' c (fun p hp => .tail _ (hb p hp)) (.head _) fun q => c.head_off (foots_subset hb e q)⟩

theorem rect_spec {l : List Env} {bm : Mu} {z : Heap} (hl : FramesIn l bm) (hns : ∀ p ∈ bm, SlotOk p.2) {left top width height : Int} {t1 t2 t3 t4 : Tok} (hb : -(2 ^ 20) < top ∧ top < 2 ^ 20 ∧ height ≤ 50) :
    SpecE (TW X) 51 6 (.ref 213) [.int left t1, .int top t2, .int width t3, .int height t4] l bm z (fun r bm' nw z' => nw = [] ∧ bm' = bm ∧ ∃ x rs, 0 ≤ width ∧ 0 ≤ height ∧ r = .ref x ∧ IsRegion X z' x rs ∧ RegOk rs ∧ rs.length ≤ 50 ∧ (∀ y, (rowAt rs y).length ≤ 1) ∧ rs.length ≤ height.toNat ∧ ∀ y x, Mem (rowAt rs y) x ↔ (top ≤ y ∧ y < top + height ∧ left ≤ x ∧ x < left + width)) (width < 0 ∨ height < 0) := by
  refine enterE (n := 5) (m := [(Str.ofString "height", .int height t4), (Str.ofString "top", .int top t2)]) [(Str.ofString "left", .int left t1), (Str.ofString "top", .int top t2), (Str.ofString "width", .int width t3), (Str.ofString "height", .int height t4)] WO (by rfl) (by kernel_rfl) (by rfl) (fun n y hy => ?_) (by decide) hl hns (fun Γ R hz₀ hbm hEB hA hE => ?_) (fun _ => ?_)
  · rcases hy with _ | ⟨_, _ | ⟨_, _ | ⟨_, _ | ⟨_, h⟩⟩⟩⟩
    · exact .inr ⟨by rfl, by rfl⟩
    · exact .inl (by rfl)
    · exact .inr ⟨by rfl, by rfl⟩
    · exact .inl (by rfl)
    · cases h
  · show Sat _ _ _ _ ⟨_, (Γ.L + 2, .cell (some (.int width t3))) :: (Γ.L + 1, .cell (some (.int left t1))) :: bm, z⟩
    refine execs_cons' (exec_If' ?_)
    refine Sat.as (decide (width < 0) || decide (height < 0)) ?_ ?_
    · repeat tb_rel
      refine PyProof.Rows.split_bool (fun h => ?_) (fun h => ?_)
      · refine ⟨?_, rfl⟩
        simp at h; simp [h]
      · repeat tb_rel
        refine ⟨?_, rfl⟩
        simp at h
        simp [show ¬ width < 0 by omega]
    refine PyProof.Rows.split_bool (fun h => ?_) (fun h => ?_)
    · simp at h
      refine execs_cons' ?_
      exact raise_fault (bm := bm) WO (R.less (by decide)) (fun e m mu z' s' => hE e m mu z' s' h) (fun p hp => .tail _ (.tail _ hp)) rfl rfl rfl rfl rfl
    · simp at h
      obtain ⟨hw, hh⟩ := h
      refine execs_nil' (nx_next (execs_cons' (exec_If' ?_)))
      refine Sat.as (decide (width = 0)) ?_ ?_
      · repeat tb_rel
        exact ⟨by rw [Bool.eq_iff_iff]; simp, rfl⟩
      refine PyProof.Rows.split_bool (fun h => ?_) (fun h => ?_)
      · simp at h
        repeat tb_rel
        refine d_new WO fun d => ?_
        repeat tb_rel
        refine Sat.frz hbm (by intro p hp; simp [hp]) fun z1 hz1 hd => ?_
        refine use_spec1 (region_make WO (rs := []) hd .nil List.nodup_nil (by simp) (fun _ h => nomatch h) (fun _ h => nomatch h)).spec (R.less (by decide)) (fun r _ nw z5 hz5 h => ?_)
        obtain ⟨x, dz, fs, rfl, rfl, d', kvs', zs, rfl, q1, q2, q3, q4⟩ := h
        rw [kept_nil] at q2
        repeat tb_rel
        refine ⟨[(x, .inst 204 dz _)], List.Sublist.cons_cons _ (List.Sublist.cons _ (List.Sublist.cons _ (List.Sublist.refl _))), fun z6 hz6 hf => ⟨x, [], hw, hh, rfl, ⟨dz, d', kvs', hf _ (.head _), q1.mono hz6, q2.mono hz6⟩, ⟨List.Pairwise.nil, fun _ h => (nomatch h), fun _ h => (nomatch h)⟩, by simp, fun y => by simp [rowAt_nil], by simp, fun y x => ?_⟩⟩
        rw [rowAt_nil]
        simp only [mem_nil, false_iff]
        omega
      · simp at h
        have hwp : 0 < width := by omega
        have hK := rectRows_keys left top width height.toNat
        have hlen : (rectRows left top width height.toNat).length = height.toNat := by simp [rectRows]
        repeat tb_rel
        refine e_comp (fun i ws mu z' => mu = (Γ.L + 2, .cell (some (.int width t3))) :: (Γ.L + 1, .cell (some (.int left t1))) :: bm ∧ ∃ kvs, All2 (IsEntry z') ws kvs ∧ IsRows z' kvs ((rectRows left top width height.toNat).take i)) ?_ (by rfl) (by decide) (by rfl) (by decide) (by intro _; rfl)
        repeat tb_rel
        refine call_range2 fun rg z1 hz1 hrg => ?_
        refine iter_range hrg (by omega) (by omega) fun it => ⟨it, _, _, RI top _, _, ⟨rfl, rfl, drw_range R.handled, by omega, ⟨rfl, [], .nil, .nil⟩, ?_⟩, ?_⟩
        · rintro Γ' D i v ws m mu z2 hA' hz0 hb' hE' hi ⟨t, rfl⟩ hz2 ⟨rfl, kvs, hw', hr⟩
          have R' : Room 5 Γ'.A := hA' ▸ R
          have hbm' : Γ'.bm = foots bm := hb'.trans hbm
          repeat tb_rel
          refine tests_nil ?_
          rw [if_pos rfl]
          repeat tb_rel
          refine new_tup fun T z3 hz3 hT => ?_
          repeat tb_rel
          refine new_list fun a => ?_
          repeat tb_rel
          refine Sat.frz hbm' (by intro p hp; simp [hp]) fun z4 hz4 ha => ?_
          refine new_tup fun T' z5 hz5 hT' => ?_
          have hz25 := zt hz3 (zt hz4 hz5)
          refine ⟨_, List.Sublist.refl _, zt hz2 hz25, rfl, kvs ++ [(top + i, .ref a)], (hw'.mono fun _ _ r => r.mono hz25).snoc ⟨T', _, rfl, hT'⟩, ?_⟩
          have e1 : (rectRows left top width height.toNat)[i]? = some (top + (i : Int), [(left, left + width)]) := by
            have : i < height.toNat := by omega
            simp [rectRows, this]
          rw [List.take_add_one, e1]
          exact (hr.mono hz25).snoc ⟨rfl, a, _, rfl, LZ.mono ha hz5, .cons ⟨T, _, _, rfl, IsTup.keeps hT (zt hz4 hz5)⟩ .nil⟩
        · rintro D ws mu z2 hz2 ⟨rfl, kvs, hw', hr⟩
          rw [show (top + height - top).toNat = (rectRows left top width height.toNat).length by rw [hlen]; omega, List.take_length] at hr
          have hkl := hr.length
          repeat tb_rel
          refine d_pairs WO (R.less (by decide)) (.inl (.head _)) hw' (by rw [hr.keys]; exact hK) (by omega) fun d => ?_
          repeat tb_rel
          refine Sat.frz hbm (by intro p hp; simp [hp]) fun z3 hz3 hd => ?_
          refine use_spec1 (region_make WO hd (hr.mono hz3) hK (by omega) (fun r hr => by rw [rectRows_in hr]; exact canon_one (by omega)) (fun r hr => by rw [rectRows_in hr]; simp)).spec (R.less (by decide)) (fun r _ nw z5 hz5 h => ?_)
          obtain ⟨x, dz, fs, rfl, rfl, d', kvs', zs, rfl, q1, q2, q3, q4⟩ := h
          repeat tb_rel
          have hin : ∀ r ∈ rectRows left top width height.toNat, r.1 ∈ zs := fun r hr => q3.symm.subset (List.mem_map.mpr ⟨r, hr, rfl⟩)
          have hrow := fun w => kept_row (ys := zs) hin w
          have hlz : zs.length = height.toNat := by rw [q3.length_eq, List.length_map, hlen]
          have hkz : (kept (rectRows left top width height.toNat) zs).length ≤ height.toNat := Nat.le_trans (List.length_filterMap_le _ _) (by omega)
          refine ⟨[(x, .inst 204 dz _)], List.Sublist.cons_cons _ (List.Sublist.cons _ (List.Sublist.cons _ (List.Sublist.cons _ (List.Sublist.refl _)))), fun z6 hz6 hf => ⟨x, kept (rectRows left top width height.toNat) zs, hw, hh, rfl, ⟨dz, d', kvs', hf _ (.head _), q1.mono hz6, q2.mono hz6⟩, kept_ok q4 fun r hr => by rw [rectRows_in hr]; exact canon_one (by omega), by omega, fun y => ?_, hkz, fun y x => ?_⟩⟩
          · rw [hrow y, rectRows_row]
            split <;> simp
          · rw [hrow y, rectRows_row]
            split
            · rw [mem_one]
              show left ≤ x ∧ x < left + width ↔ _
              omega
            · simp only [mem_nil, false_iff]
              omega
  · rfl
end
/-- a tuple of four ints, frozen -/
noncomputable def IsQuad (z : Heap) (v : Value) (q : Rc) : Prop := ∃ a t1 t2 t3 t4, v = .ref a ∧ IsTup z a [Value.int q.l t1, Value.int q.t t2, Value.int q.w t3, Value.int q.h t4].toArray
theorem IsQuad.mono {z z' : Heap} {v : Value} {q : Rc} (h : IsQuad z v q) (hz : z.StaysIn z') : IsQuad z' v q := let ⟨a, t1, t2, t3, t4, e, r⟩ := h; ⟨a, t1, t2, t3, t4, e, IsTup.keeps r hz⟩
noncomputable abbrev Quads (z : Heap) (vs : List Value) (qs : List Rc) : Prop := All2 (IsQuad z) vs qs
theorem Quads.mono {z z' : Heap} {vs : List Value} {qs : List Rc} (h : Quads z vs qs) (hz : z.StaysIn z') : Quads z' vs qs := All2.mono h fun _ _ r => r.mono hz
theorem IsRows.put {z : Heap} {kvs : List (Int × Value)} {rs : RowsM} {y : Int} {v : Value} {sp : List Span} (h : IsRows z kvs rs) (hv : IsSp z v sp) : IsRows z (stored kvs y v) (putRow rs y sp) := by
  have hk := h.keys
  have e : kvs.any (fun kv => kv.1 = y) = decide (y ∈ rs.map (·.1)) := by
    rw [← hk, Bool.eq_iff_iff, List.any_eq_true, decide_eq_true_eq, List.mem_map]
    constructor
    · rintro ⟨kv, h1, h2⟩; exact ⟨kv, h1, of_decide_eq_true h2⟩
    · rintro ⟨kv, h1, h2⟩; exact ⟨kv, h1, decide_eq_true h2⟩
  unfold stored putRow
  rw [e]
  by_cases hin : y ∈ rs.map (·.1)
  · rw [if_pos (decide_eq_true hin), if_pos hin]
    clear e hk hin
    induction h with
    | nil => exact .nil
    | @cons kv r kvs rs q _ ih =>
      refine .cons ?_ ih
      have q1 := q.1
      dsimp only
      by_cases hr : r.1 = y
      · rw [if_pos hr, if_pos (q1.trans hr)]; exact ⟨q1, hv⟩
      · rw [if_neg hr, if_neg fun e => hr (q1.symm.trans e)]; exact q
  · rw [if_neg (by simpa using hin), if_neg hin]
    exact h.snoc ⟨rfl, hv⟩
theorem d_sys {W : Wd} {Γ : Ctx} {α : Type} {t : Sem α} {k : α → St → Prop} {σ : St} {d : Addr} {kvs : List (Int × Value)} (h : (d, Asn.dict kvs) ∈ σ.mu) (hk : (d == sysModules) = false → Sat W Γ t k σ) : Sat W Γ t k σ := fun s c => hk (c.mu _ h).1 s c
/-- where the outer loop stands -/
noncomputable abbrev RcsJ (d c : Addr) (bm : List (Addr × Asn)) (qs : List Rc) (i : Nat) (m : Loc) (mu : List (Addr × Asn)) (z' : Heap) : Prop := ∃ kvs Rr, mu = (d, .dict kvs) :: (c, .cell (some (.ref d))) :: bm ∧ IsRows z' kvs Rr ∧ (Rr.map (·.1)).Nodup ∧ Rr.length ≤ 10 * i ∧ (∀ q ∈ qs.take i, q.ok) ∧ ∀ y, rowAt Rr y = covRow (qs.take i) y
/-- where the inner loop stands -/
noncomputable abbrev RcsK (d c it la : Addr) (bm : List (Addr × Asn)) (qs : List Rc) (q : Rc) (i j : Nat) (m : Loc) (mu : List (Addr × Asn)) (z' : Heap) : Prop := ∃ tl tw kvs Rr, mget m (Str.ofString "left") = some (.int q.l tl) ∧ mget m (Str.ofString "width") = some (.int q.w tw) ∧ mu = (it, .raw (LI la (i + 1))) :: (d, .dict kvs) :: (c, .cell (some (.ref d))) :: bm ∧ IsRows z' kvs Rr ∧ (Rr.map (·.1)).Nodup ∧ Rr.length ≤ 10 * i + j ∧ ∀ y, rowAt Rr y = covRow (qs.take i) y ++ (if q.t ≤ y ∧ y < q.t + j then [(q.l, q.l + q.w)] else [])
section
variable {X : Xd} (WO : XOk X)
include WO
theorem rects_spec {l : List Env} {bm : Mu} {z : Heap} (hl : FramesIn l bm) (hns : ∀ p ∈ bm, SlotOk p.2) {la : Addr} {vs : List Value} {qs : List Rc} (hla : LZ z la vs) (hqs : Quads z vs qs) (hn : qs.length ≤ 4) (hb : ∀ q ∈ qs, -(2 ^ 20) < q.t ∧ q.t < 2 ^ 20 ∧ q.h ≤ 10) :
    SpecE (TW X) 51 6 (.ref 218) [.ref la] l bm z (fun r bm' nw z' => nw = [] ∧ bm' = bm ∧ ∃ x rs, (∀ q ∈ qs, q.ok) ∧ r = .ref x ∧ IsRegion X z' x rs ∧ RegOk rs ∧ rs.length ≤ 40 ∧ (∀ y, (rowAt rs y).length ≤ 4) ∧ ∀ y x, Mem (rowAt rs y) x ↔ ∃ q ∈ qs, q.has x y) (∃ q ∈ qs, ¬ q.ok) := by
  refine enterE (n := 5) (m := [(Str.ofString "rectangles", .ref la)]) [(Str.ofString "rectangles", .ref la)] WO (by rfl) (by kernel_rfl) (by rfl) (fun n y hy => ?_) (by decide) hl hns (fun Γ R hz₀ hbm hEB hA hE => ?_) (fun _ => ?_)
  · rw [List.mem_singleton.mp hy]; exact .inl (by rfl)
  · show Sat _ _ _ _ ⟨_, (Γ.L + 1, .cell none) :: bm, z⟩
    have lvs := hqs.length
    repeat tb_rel
    refine d_new WO fun d => ?_
    refine store_c (pre := [_]) (by rfl) ?_
    repeat tb_rel
    with_reducible refine for_any (RcsJ d (Γ.L + 1) bm qs) hEB ?_ ?hs
    case hs => intro _; rfl
    repeat tb_rel
    refine iter_list hla.isList fun it => ⟨it, _, _, LI la, _, rfl, rfl, drw_list R.handled hla.isList, ⟨[], [], rfl, .nil, List.nodup_nil, by simp, by simp, fun y => by simp [covRow, rowAt_nil]⟩, ?_, ?_⟩
    · rintro i v m mu z₁ hi hv hz ⟨kvs, Rr, rfl, hR, hnd, hRl, hok, hrow⟩
      obtain ⟨q, hq, T, t1, t2, t3, t4, rfl, hT⟩ := hqs.get hv
      have hqm : q ∈ qs := List.mem_of_getElem? hq
      obtain ⟨hb1, hb2, hb3⟩ := hb q hqm
      have htk : qs.take (i + 1) = qs.take i ++ [q] := by rw [List.take_add_one, hq]; rfl
      refine un_quad (R.less (by decide)) (IsTup.keeps hT hz) ?_
      repeat tb_rel
      refine PyProof.Rows.split_bool (fun h => ?_) (fun h => ?_)
      · simp at h
        repeat tb_rel
        exact raise_fault (bm := bm) WO (R.less (by decide)) (fun e m mu z' s' => hE e m mu z' s' ⟨q, hqm, fun o => absurd h (by have := o.1; omega)⟩) (by intro p hp; simp [hp]) rfl rfl rfl rfl rfl
      repeat tb_rel
      simp at h
      refine PyProof.Rows.split_bool (fun h' => ?_) (fun h' => ?_)
      · simp at h'
        repeat tb_rel
        exact raise_fault (bm := bm) WO (R.less (by decide)) (fun e m mu z' s' => hE e m mu z' s' ⟨q, hqm, fun o => absurd h' (by have := o.2; omega)⟩) (by intro p hp; simp [hp]) rfl rfl rfl rfl rfl
      simp at h'
      have hqo : q.ok := ⟨h, h'⟩
      refine execs_nil' (nx_next (execs_cons' ?_))
      with_reducible refine for_any (RcsK d (Γ.L + 1) it la bm qs q i) hEB ?_ ?hs
      case hs => intro _; rfl
      repeat tb_rel
      refine call_range2 fun rg z2 hz2 hrg => ?_
      refine iter_range hrg (by omega) (by omega) fun it2 => ⟨it2, _, _, RI q.t _, _, rfl, rfl, drw_range R.handled, ⟨_, _, kvs, Rr, by rfl, by rfl, rfl, hR.mono hz2, hnd, by omega, fun y => by rw [hrow y, if_neg (by omega), List.append_nil]⟩, ?_, ?_⟩
      · rintro j v m mu z3 hj ⟨tv, rfl⟩ hz3 ⟨tl, tw, kvs, Rr, e1, e2, rfl, hR, hnd, hRl, hrow⟩
        have hj' : j < 10 := by omega
        have hi4 : i < 4 := by omega
        have hlen : (rowAt Rr (q.t + j)).length ≤ 5 := by
          rw [hrow]
          have := covRow_len (qs.take i) (q.t + j)
          rw [List.length_take] at this
          rw [List.length_append]
          split <;> simp <;> omega
        have lR := hR.length
        repeat tb_rel
        refine d_meth (kvs := kvs) (.inl (by nest_cls)) ?_
        refine d_sys (d := d) (kvs := kvs) (by nest_cls) fun hS => ?_
        refine d_get2 hS ?_ (by rfl)
        repeat tb_rel
        refine new_list fun e0 => ?_
        refine ⟨_, _, kvs, rfl, .inl (by nest_cls), ?_⟩
        obtain ⟨rl, rv, hre, hrl, hrp⟩ : ∃ rl rv, (valueAt kvs (q.t + j)).getD (.ref e0) = .ref rl ∧ ((rl = e0 ∧ rv = []) ∨ LZ z3 rl rv) ∧ Pairs z3 rv (rowAt Rr (q.t + j)) := by
          rcases row_cases (X := X) WO (d := d) hR (q.t + j) e0 with ⟨l, vs, e, hl, hp⟩ | ⟨e, hr⟩
          · exact ⟨l, vs, e, .inr hl, hp⟩
          · exact ⟨e0, [], e, .inl ⟨rfl, rfl⟩, by rw [hr]; exact .nil⟩
        rw [hre]
        have lrv := hrp.length
        repeat tb_rel
        refine new_tup fun T' z4 hz4 hT' => ?_
        repeat tb_rel
        refine new_list fun a1 => ?_
        refine l_add (vs := rv) (ws := [.ref T']) (by
          rcases hrl with ⟨rfl, rfl⟩ | hrl
          · exact .inl (by nest_cls)
          · exact .inr (hrl.mono hz4)) (.inl (by nest_cls)) (by simp; omega) fun a2 => ?_
        refine Sat.frz hbm (by intro p hp; simp [hp]) fun z5 hz5 ha2 => ?_
        refine Sat.sub ?_ (List.Sublist.cons _ (List.Sublist.cons _ (List.Sublist.refl _)))
        repeat tb_rel
        refine d_set (pre := [_, _]) (by omega) ?_
        have hz35 : z3.StaysIn z5 := zt hz4 hz5
        have hsp : IsSp z5 (.ref a2) (rowAt Rr (q.t + j) ++ [(q.l, q.l + q.w)]) := ⟨a2, _, rfl, ha2, (hrp.mono hz35).snoc ⟨T', _, _, rfl, IsTup.keeps hT' hz5⟩⟩
        have hpl := putRow_len Rr (q.t + j) (rowAt Rr (q.t + j) ++ [(q.l, q.l + q.w)])
        repeat tb_rel
        refine ⟨_, List.Sublist.refl _, zt hz3 hz35, _, _, _, _, e1, e2, rfl, (hR.mono hz35).put hsp, putRow_keys _ _ _ hnd, by omega, fun w => ?_⟩
        rw [putRow_row]
        by_cases hw : w = q.t + j
        · rw [if_pos hw, hw, hrow, if_neg (by omega), List.append_nil, if_pos (by omega)]
        · rw [if_neg hw, hrow]
          by_cases hc : q.t ≤ w ∧ w < q.t + j
          · rw [if_pos hc, if_pos (by omega)]
          · rw [if_neg hc, if_neg (by omega)]
      · rintro m mu z3 hz3 ⟨tl, tw, kvs, Rr, e1, e2, rfl, hR, hnd, hRl, hrow⟩
        repeat tb_rel
        have hen : (((q.t + q.h - q.t).toNat : Nat) : Int) = q.h := by omega
        refine ⟨_, List.Sublist.refl _, zt hz (zt hz2 hz3), kvs, Rr, rfl, hR, hnd, by omega, fun p hp => ?_, fun y => ?_⟩
        · rw [htk] at hp
          rcases List.mem_append.mp hp with h1 | h1
          · exact hok p h1
          · rw [List.mem_singleton.mp h1]; exact hqo
        · rw [htk, covRow_snoc, hrow, hen]
    · rintro m mu z2 hz2 ⟨kvs, Rr, rfl, hR, hnd, hRl, hok, hrow⟩
      rw [lvs, List.take_length] at hrow hok
      have lR := hR.length
      refine nx_next ?_
      refine Sat.frz hbm (by intro p hp; simp [hp]) fun z3 hz3 hd => ?_
      obtain ⟨hS, hD⟩ := id hd
      obtain ⟨ep, hat⟩ := hD.dictAt
      have hR3 := hR.mono hz3
      repeat tb_rel
      refine e_comp (fun i ws mu z' => mu = (Γ.L + 1, .cell (some (.ref d))) :: bm ∧ ∃ kvs2 Rs2, All2 (IsEntry z') ws kvs2 ∧ IsRows z' kvs2 Rs2 ∧ Rs2.map (·.1) = (Rr.map (·.1)).take i ∧ ∀ r ∈ Rs2, Canon r.2 ∧ r.2.length ≤ 4 ∧ ∀ x, Mem r.2 x ↔ Mem (rowAt Rr r.1) x) ?_ (by rfl) (by decide) (by rfl) (by decide) (by intro _; rfl)
      repeat tb_rel
      refine iter_dict hS hat fun it => ⟨it, _, _, KI d kvs.length ep, _, ⟨rfl, rfl, drw_dict R.handled hat, by omega, ⟨rfl, [], [], .nil, .nil, rfl, fun _ h => nomatch h⟩, ?_⟩, ?_⟩
      · rintro Γ' D i v ws m mu z4 hA' hz0 hb' hE' hi ⟨kk, xv, t, hk, rfl⟩ hz4 ⟨rfl, kvs2, Rs2, hw, hr2, hk2, hp2⟩
        have R' : Room 5 Γ'.A := hA' ▸ R
        have hbm' : Γ'.bm = foots bm := hb'.trans hbm
        obtain ⟨r, hr, ek, li, vi, hvi, hli, hpi⟩ := (hR3.mono hz4).get hk
        have ek' : kk = r.1 := ek
        have hvi' : xv = .ref li := hvi
        subst hvi'
        have hrow' := rowAt_of_mem hnd (List.mem_of_getElem? hr)
        have hl4 : r.2.length ≤ 4 := by rw [← hrow', hrow]; exact Nat.le_trans (covRow_len _ _) hn
        repeat tb_rel
        refine tests_nil ?_
        rw [if_pos rfl]
        repeat tb_rel
        refine d_get (kvs := kvs) (.inr (hd.mono hz4)) (valueAt_of_get (by rw [hR3.keys]; exact hnd) hk) ?_
        repeat tb_rel
        refine use_spec0 (normal_spec WO hli hpi hl4).spec (R'.less (by decide)) (fun r' _ z5 hz5 h => ?_)
        obtain ⟨a, us, sq, rfl, hau, hpu, hcq, hlq, hmq⟩ := h
        repeat tb_rel
        refine new_tup fun T' z6 hz6 hT' => ?_
        have hz46 := zt hz5 hz6
        refine ⟨_, List.Sublist.refl _, zt hz4 hz46, rfl, kvs2 ++ [(kk, .ref a)], Rs2 ++ [(kk, sq)], (hw.mono fun _ _ r => r.mono hz46).snoc ⟨T', _, rfl, hT'⟩, (hr2.mono hz46).snoc ⟨rfl, a, us, rfl, hau.mono hz6, hpu.mono hz6⟩, ?_, ?_⟩
        · rw [List.map_append, hk2, List.take_add_one, List.getElem?_map, hr, ek']; rfl
        · intro q hq
          rcases List.mem_append.mp hq with h1 | h1
          · exact hp2 q h1
          · rw [List.mem_singleton.mp h1]
            refine ⟨hcq, by show sq.length ≤ 4; omega, fun x => ?_⟩
            show Mem sq x ↔ Mem (rowAt Rr kk) x
            rw [ek', hrow', hmq]
      · rintro D ws mu z4 hz4 ⟨rfl, kvs2, Rs2, hw, hr2, hk2, hp2⟩
        rw [lR, ← List.length_map (f := (·.1)) (as := Rr), List.take_length] at hk2
        have hlk := hr2.length
        have hl2 : Rs2.length = Rr.length := by have := congrArg List.length hk2; simpa using this
        repeat tb_rel
        refine d_pairs WO (R.less (by decide)) (.inl (.head _)) hw (by rw [hr2.keys, hk2]; exact hnd) (by omega) fun d2 => ?_
        repeat tb_rel
        refine Sat.frz hbm (by intro p hp; simp [hp]) fun z5 hz5 hd2 => ?_
        refine use_spec1 (region_make WO hd2 (hr2.mono hz5) (by rw [hk2]; exact hnd) (by omega) (fun r hr => (hp2 r hr).1) (fun r hr => by have := (hp2 r hr).2.1; omega)).spec (R.less (by decide)) (fun r _ nw z6 hz6 h => ?_)
        obtain ⟨x, dz, fs, rfl, rfl, d', kvs', zs, rfl, q1, q2, q3, q4⟩ := h
        repeat tb_rel
        have hin : ∀ r ∈ Rs2, r.1 ∈ zs := fun r hr => q3.symm.subset (List.mem_map.mpr ⟨r, hr, rfl⟩)
        have hrw := fun w => kept_row (ys := zs) hin w
        have hlz : zs.length = Rr.length := by rw [q3.length_eq, List.length_map, hl2]
        have hkz : (kept Rs2 zs).length ≤ Rr.length := Nat.le_trans (List.length_filterMap_le _ _) (by omega)
        refine ⟨[(x, .inst 204 dz _)], List.Sublist.cons_cons _ (List.Sublist.cons _ (List.Sublist.cons _ (List.Sublist.refl _))), fun z6 hz6 hf => ⟨x, kept Rs2 zs, hok, rfl, ⟨dz, d', kvs', hf _ (.head _), q1.mono hz6, q2.mono hz6⟩, kept_ok q4 fun r hr => (hp2 r hr).1, by omega, fun y => ?_, fun y x => ?_⟩⟩
        · rw [hrw y]
          by_cases e : rowAt Rs2 y = []
          · rw [e]; simp
          · obtain ⟨r, hr, _, e2⟩ := rowAt_mem e
            rw [← e2]; exact (hp2 r hr).2.1
        · rw [hrw y, ← covRow_mem, ← hrow]
          by_cases e : y ∈ Rs2.map (·.1)
          · obtain ⟨r, hr, rfl⟩ := List.mem_map.mp e
            rw [rowAt_of_mem (by rw [hk2]; exact hnd) hr]; exact (hp2 r hr).2.2 x
          · rw [rowAt_notin fun r hr q => e (List.mem_map.mpr ⟨r, hr, q⟩), rowAt_notin fun r hr q => e (by rw [hk2]; exact List.mem_map.mpr ⟨r, hr, q⟩)]
  · rfl
end
section
variable {X : Xd} (WO : XOk X)
include WO
theorem regcut_spec {l : List Env} {bm : Mu} {z : Heap} (hl : FramesIn l bm) (hns : ∀ p ∈ bm, SlotOk p.2) {x : Addr} {rs : RowsM} {B : Nat} (hx : IsRegion X z x rs) (ho : RegOk rs) (hsz : rs.length ≤ 49) (hB : ∀ y, (rowAt rs y).length ≤ B) (hBB : B ≤ 900) {left top width height : Int} {t1 t2 t3 t4 : Tok} :
    SpecE (TW X) 51 7 (.ref 239) [.ref x, .int left t1, .int top t2, .int width t3, .int height t4] l bm z (fun r bm' nw z' => nw = [] ∧ bm' = bm ∧ ∃ x' rs', 0 ≤ width ∧ 0 ≤ height ∧ r = .ref x' ∧ IsRegion X z' x' rs' ∧ RegOk rs' ∧ rs'.length ≤ rs.length ∧ (∀ y, (rowAt rs' y).length ≤ B + 1) ∧ ∀ y w, Mem (rowAt rs' y) w ↔ Mem (rowAt rs y) w ∧ (top ≤ y ∧ y < top + height ∧ left ≤ w ∧ w < left + width)) (width < 0 ∨ height < 0) := by
  refine enterE (n := 6) (m := [(Str.ofString "height", .int height t4), (Str.ofString "width", .int width t3), (Str.ofString "top", .int top t2), (Str.ofString "left", .int left t1), (Str.ofString "region", .ref x)]) [(Str.ofString "region", .ref x), (Str.ofString "left", .int left t1), (Str.ofString "top", .int top t2), (Str.ofString "width", .int width t3), (Str.ofString "height", .int height t4)] WO (by rfl) (by kernel_rfl) (by rfl) (fun n y hy => .inl (locs rfl y hy)) (by decide) hl hns (fun Γ R hz₀ hbm hEB hA hE => ?_) (fun _ => by rfl)
  show Sat _ _ _ _ ⟨_, bm, z⟩
  have hx' := hx
  obtain ⟨dx, d0, kvs0, h1, h2, h3⟩ := hx'
  refine execs_cons' (exec_If' ?_)
  refine Sat.as (decide (width < 0) || decide (height < 0)) ?_ ?_
  · repeat tb_rel
    refine PyProof.Rows.split_bool (fun h => ?_) (fun h => ?_)
    · refine ⟨?_, rfl⟩
      simp at h; simp [h]
    · repeat tb_rel
      refine ⟨?_, rfl⟩
      simp at h
      simp [show ¬ width < 0 by omega]
  refine PyProof.Rows.split_bool (fun h => ?_) (fun h => ?_)
  · simp at h
    refine execs_cons' ?_
    exact raise_fault (bm := bm) WO (R.less (by decide)) (fun e m mu z' s' => hE e m mu z' s' h) (fun p hp => hp) rfl rfl rfl rfl rfl
  simp at h
  obtain ⟨hw, hh⟩ := h
  refine execs_nil' (nx_next (execs_cons' ?_))
  repeat tb_rel
  refine d_new WO fun d => ?_
  repeat tb_rel
  with_reducible refine for_late hEB ?_ ?hs
  case hs => intro _; rfl
  repeat tb_rel
  refine a_meth WO (.inr h1) (by kernel_rfl) (by rfl) (by kernel_rfl) (by rfl) ?_
  repeat tb_rel
  refine use_spec0 (heights_spec WO hx (by omega)).spec (R.less (by decide)) (fun r _ z1 hz1 h => ?_)
  obtain ⟨la, ys, rfl, hla, hys⟩ := h
  have lys := hys.length
  rw [List.length_map] at lys
  have hnd := ho.nodup
  refine iter_list hla.isList fun it => ⟨it, _, _, LI la, _, fun i m mu z' => ∃ kvs Rr, mget m (Str.ofString "region") = some (.ref x) ∧ mget m (Str.ofString "left") = some (.int left t1) ∧ mget m (Str.ofString "top") = some (.int top t2) ∧ mget m (Str.ofString "width") = some (.int width t3) ∧ mget m (Str.ofString "height") = some (.int height t4) ∧ mget m (Str.ofString "rows") = some (.ref d) ∧
      mu = (d, .dict kvs) :: bm ∧ IsRows z' kvs Rr ∧ (Rr.map (·.1)).Nodup ∧ Rr.length ≤ i ∧ (∀ y, y ∈ Rr.map (·.1) ↔ y ∈ (rs.map (·.1)).take i ∧ top ≤ y ∧ y < top + height) ∧ ∀ r ∈ Rr, Canon r.2 ∧ r.2.length ≤ B + 1 ∧ ∀ w, Mem r.2 w ↔ Mem (rowAt rs r.1) w ∧ left ≤ w ∧ w < left + width, rfl, rfl, drw_list R.handled hla.isList,
      ⟨[], [], by rfl, by rfl, by rfl, by rfl, by rfl, by rfl, rfl, .nil, List.nodup_nil, Nat.le_refl _, fun y => by simp, fun _ h => nomatch h⟩, ?_, ?_⟩
  · rintro i v m mu z2 hi hv hz2 ⟨kvs, Rr, e1, e2, e3, e4, e5, e6, rfl, hK, hn, hlR, hk, hu⟩
    obtain ⟨y, hyy, t, rfl⟩ := hys.get hv
    have htk : (rs.map (·.1)).take (i + 1) = (rs.map (·.1)).take i ++ [y] := by rw [List.take_add_one, hyy]; rfl
    have hz02 : z.StaysIn z2 := zt hz1 hz2
    have hyin : y ∈ rs.map (·.1) := List.mem_of_getElem? hyy
    have hynot : y ∉ (rs.map (·.1)).take i := fun hm => by
      have h9 : ((rs.map (·.1)).take (i + 1)).Nodup := hnd.sublist (List.take_sublist _ _)
      rw [htk, List.nodup_append] at h9
      exact h9.2.2 y hm y (by simp) rfl
    tb_rel
    tb_rel
    refine execs_cons' (exec_If' ?_)
    refine Sat.as (decide (top ≤ y) && decide (y < top + height)) ?_ ?_
    · refine t_chain2 ?_ (by with_unfolding_all rfl)
      repeat tb_rel
      refine PyProof.Rows.split_bool (fun h => ?_) (fun h => ?_)
      · repeat tb_rel
        refine ⟨?_, rfl⟩
        simp at h
        simp [h]
      · refine ⟨?_, rfl⟩
        simp at h
        simp [show ¬ top ≤ y by omega]
    refine PyProof.Rows.split_bool (fun h => ?_) (fun h => ?_)
    · simp at h
      obtain ⟨v, hvat, li, vi, rfl, hli, hpi⟩ := (h3.mono hz02).at.1 hyin
      have hBy := hB y
      repeat tb_rel
      refine a_get WO (.inr (h1.mono hz02)) (by kernel_rfl) (by kernel_rfl) (by rfl) (by kernel_rfl) (by rfl) (by rfl) ?_
      repeat tb_rel
      refine d_get (kvs := kvs0) (.inr (h2.mono hz02)) hvat ?_
      repeat tb_rel
      refine use_spec0 (cut_spec WO hli hpi (by omega) (ho.rowCanon y)).spec R (fun r _ z3 hz3 h => ?_)
      obtain ⟨sq, hsp, hcq, hlq, hmq⟩ := h
      repeat tb_rel
      have hlk := hK.length
      have hlen : (rs.map (·.1)).length = rs.length := List.length_map _
      refine d_set (pre := [_]) (by omega) ?_
      repeat tb_rel
      have hab : valueAt kvs y = none := hK.at.2 fun hm => hynot ((hk y).mp hm).1
      refine ⟨_, List.Sublist.refl _, zt hz2 hz3, kvs ++ [(y, r)], Rr ++ [(y, sq)], e1, e2, e3, e4, e5, e6, ?_, (hK.mono hz3).snoc ⟨rfl, hsp⟩, ?_, by simp; omega, ?_, ?_⟩
      · show (d, Asn.dict (stored kvs y r)) :: _ = _
        rw [stored_absent hab]
      · rw [List.map_append, List.nodup_append]
        refine ⟨hn, by simp, fun a ha b hb => ?_⟩
        simp at hb
        rintro rfl
        exact hynot ((hk _).mp (hb ▸ ha)).1
      · intro w
        rw [List.map_append, List.mem_append, htk, List.mem_append, hk w]
        simp only [List.map_cons, List.map_nil, List.mem_singleton]
        constructor
        · rintro (q | rfl)
          · exact ⟨.inl q.1, q.2⟩
          · exact ⟨.inr rfl, h⟩
        · rintro ⟨q | rfl, r⟩
          · exact .inl ⟨q, r⟩
          · exact .inr rfl
      · intro r hr
        rcases List.mem_append.mp hr with q | q
        · exact hu r q
        · rw [List.mem_singleton.mp q]
          exact ⟨hcq, by show sq.length ≤ _; omega, hmq⟩
    · simp at h
      repeat tb_rel
      refine ⟨_, List.Sublist.refl _, hz2, kvs, Rr, e1, e2, e3, e4, e5, e6, rfl, hK, hn, by omega, fun w => ?_, hu⟩
      rw [htk, List.mem_append, hk w]
      simp only [List.mem_singleton]
      constructor
      · rintro ⟨q1, q2⟩; exact ⟨.inl q1, q2⟩
      · rintro ⟨q1 | rfl, q2⟩
        · exact ⟨q1, q2⟩
        · exact absurd (h q2.1) (by omega)
  · rintro m mu z2 hz2 ⟨kvs, Rr, e1, e2, e3, e4, e5, e6, rfl, hK, hn, hlR, hk, hu⟩
    rw [lys, ← List.length_map (f := (·.1)) (as := rs), List.take_length] at hk
    repeat tb_rel
    refine Sat.frz hbm (by intro p hp; simp [hp]) fun z4 hz4 hd4 => ?_
    refine use_spec1 (region_make WO hd4 (hK.mono hz4) hn (by omega) (fun r hr => (hu r hr).1) (fun r hr => by have := (hu r hr).2.1; omega)).spec (R.less (by decide)) (fun r _ nw z5 hz5 h => ?_)
    obtain ⟨x', dz, fs, rfl, rfl, d', kvs', zs, rfl, q1, q2, q3, q4⟩ := h
    have hin : ∀ r ∈ Rr, r.1 ∈ zs := fun r hr => q3.symm.subset (List.mem_map.mpr ⟨r, hr, rfl⟩)
    have hrow := fun w => kept_row (ys := zs) hin w
    have hlz : zs.length = Rr.length := by rw [q3.length_eq, List.length_map]
    have hkz : (kept Rr zs).length ≤ Rr.length := Nat.le_trans (List.length_filterMap_le _ _) (by omega)
    repeat tb_rel
    refine ⟨[(x', .inst 204 dz _)], List.Sublist.cons_cons _ (List.Sublist.refl _), fun z6 hz6 hf => ⟨x', kept Rr zs, hw, hh, rfl, ⟨dz, d', kvs', hf _ (.head _), q1.mono hz6, q2.mono hz6⟩, kept_ok q4 fun r hr => (hu r hr).1, by omega, fun w => ?_, fun w u => ?_⟩⟩
    · rw [hrow w]
      by_cases e : rowAt Rr w = []
      · rw [e]; simp
      · obtain ⟨r, hr, _, e2⟩ := rowAt_mem e
        rw [← e2]; exact (hu r hr).2.1
    · rw [hrow w]
      by_cases e : w ∈ Rr.map (·.1)
      · have hkw := (hk w).mp e
        obtain ⟨r, hr, rfl⟩ := List.mem_map.mp e
        rw [rowAt_of_mem hn hr, (hu r hr).2.2 u]
        exact and_congr_right fun _ => ⟨fun q => ⟨hkw.2.1, hkw.2.2, q⟩, fun q => q.2.2⟩
      · rw [rowAt_notin fun r hr q => e (List.mem_map.mpr ⟨r, hr, q⟩)]
        simp only [mem_nil, false_iff]
        rintro ⟨hm, g1, g2, _⟩
        by_cases hwr : w ∈ rs.map (·.1)
        · exact e ((hk w).mpr ⟨hwr, g1, g2⟩)
        · rw [rowAt_notin fun r hr q => hwr (List.mem_map.mpr ⟨r, hr, q⟩)] at hm
          exact mem_nil _ hm
end
theorem bits_small {b : Int} (h : b.natAbs < 2 ^ 63) : Builtin.Int.intBits b ≤ 64 := by
  unfold Builtin.Int.intBits
  split
  · omega
  · rename_i hb
    have hb' : b.natAbs ≠ 0 := by
      intro e; apply hb; rw [beq_iff_eq]; omega
    have := (Nat.log2_lt hb').mpr h
    omega
theorem mul_r {a b : Int} (h : b.natAbs < 2 ^ 63) : IntMulOk a b := IntMulOk.of_right (bits_small h)
theorem ite_sat {W : Wd} {Γ : Ctx} {α : Type} {b : Bool} {t1 t2 : Sem α} {k k' : α → St → Prop} {σ : St} (h1 : b = true → Sat W Γ t1 k' σ) (h2 : b = false → Sat W Γ t2 k' σ) (hk : ∀ v σ', k' v σ' → k v σ') : if b then Sat W Γ t1 k σ else Sat W Γ t2 k σ := by
  cases b
  · exact (h2 rfl).mono hk
  · exact (h1 rfl).mono hk
theorem fmod_bd (a : Int) {b : Int} (hb : 0 < b) : 0 ≤ a.fmod b ∧ a.fmod b < b := ⟨Int.fmod_nonneg_of_pos _ hb, Int.fmod_lt_of_pos _ hb⟩
theorem fdiv_nn {a b : Int} (ha : 0 ≤ a) (hb : 0 < b) : 0 ≤ a.fdiv b := by
  rw [Int.fdiv_eq_ediv_of_nonneg _ (Int.le_of_lt hb)]
  exact Int.ediv_nonneg ha (Int.le_of_lt hb)
theorem IsList.mono' {z z' : Heap} {l : Addr} {vs : Array Value} (h : z.IsList l vs) (hz : z.StaysIn z') : z'.IsList l vs := h.at (hz l)
theorem l_lenI {W : Wd} {Γ : Ctx} {σ : St} {l : Addr} {vs : List Value} {k : Value → St → Prop} (hl : σ.z.IsList l vs.toArray) (hn : vs.length < 2 ^ 60) (h : ∀ t, k (.int vs.length t) σ) : Sat W Γ (call (.builtin "len") [.ref l]) k σ := fun s c => by
  refine call_len_list (hl.at (c.zle l)) (by simp; omega) ⟨σ, c.toks _, ?_⟩
  simpa using h (s.toks + 1)
theorem l_getI {W : Wd} {Γ : Ctx} {σ : St} {value slice : Expr} {l : Addr} {vs : List Value} {i : Int} {t : Tok} {v : Value} {k : Value → St → Prop} (hl : σ.z.IsList l vs.toArray) (h0 : 0 ≤ i) (hi : i < 2 ^ 60) (hv : vs[i.toNat]? = some v) (h : k v σ)
    (hs : subscripted slice false (.ref l) (.int i t) = operate [.ref l, .int i t] (getItem (.ref l) (.int i t)) := by with_unfolding_all rfl) : Sat W Γ (subscriptTail value slice (.ref l) (.int i t)) k σ := fun s c =>
  have q := hl.at (c.zle l)
  tail_any q.typeIs slot_list_getitem.lookup (wpAny_getItem_list q h0 (by omega) (by simpa using hv) ⟨σ, c, h⟩) hs
/-- the two ints that the law draws from -/
noncomputable def Src (x : Asn) : Prop := ∃ g m t1 t2, x = .list [.int g t1, .int m t2] ∧ 0 ≤ g ∧ 0 ≤ m ∧ m < 2147483647
theorem src_foots {a : Addr} {x x' : Asn} (h : Src x) (h' : Src x') : foots [(a, x')] = foots [(a, x)] := by
  obtain ⟨_, _, _, _, rfl, _⟩ := h
  obtain ⟨_, _, _, _, rfl, _⟩ := h'
  rfl
section
variable {X : Xd} (WO : XOk X)
include WO
theorem pool_spec {la : Addr} {vs : List Value} {ns : List Int} {z : Heap} (hla : z.IsList la vs.toArray) (hns : All2 AInt vs ns) (hn : ns.length ≤ 1000) {t : Tok} :
    SpecC (TW X) 2 (.ref 246) [.ref la, .int 0 t] [] z (fun r _ nw _ => ∃ a x, r = .ref a ∧ nw = [(a, x)] ∧ Src x) := by
  refine enterN (n := 1) (Post := fun r nw _ => ∃ a x, r = .ref a ∧ nw = [(a, x)] ∧ Src x) [(Str.ofString "script", .ref la), (Str.ofString "k", .int 0 t)] WO (by rfl) (by kernel_rfl) (by rfl) (locs rfl) (by decide) (fun Γ R hE hz₀ hbm => ?_)
  have lvs := hns.length
  refine execs_cons' (exec_Asg ?_ (by rfl))
  refine e_if ?_
  refine Sat.as (decide (0 < vs.length)) ?_ ?_
  · repeat tb_rel
    refine l_lenI hla (by omega) fun _ => ?_
    repeat tb_rel
    refine ⟨?_, rfl⟩
    rw [Bool.eq_iff_iff]; simp
  refine ite_sat (k' := fun v σ => σ = ⟨[(Str.ofString "k", .int 0 t), (Str.ofString "script", .ref la)], [], z⟩ ∧ ∃ c t, v = Value.int c t) (fun h => ?_) (fun h => ?_) ?_
  · simp only [decide_eq_true_eq] at h
    obtain ⟨v, hv⟩ : ∃ v, vs[0]? = some v := ⟨_, List.getElem?_eq_getElem h⟩
    obtain ⟨c, hc, t', rfl⟩ := hns.get hv
    repeat tb_rel
    refine l_getI hla (by decide) (by decide) (by simpa using hv) ?_
    exact ⟨rfl, _, _, rfl⟩
  · repeat tb_rel
    exact ⟨rfl, _, _, rfl⟩
  · rintro _ _ ⟨rfl, c, tc, rfl⟩
    repeat tb_rel
    refine max_ints R fun _ => ?_
    repeat tb_rel
    have hg : 0 ≤ (if -1 - c > c then -1 - c else c) := by split <;> omega
    generalize (if -1 - c > c then -1 - c else c) = g at *
    refine i_mod (by decide) fun _ => ?_
    repeat tb_rel
    refine i_mul (mul_r (by decide)) fun _ => ?_
    repeat tb_rel
    refine i_mul (mul_r (by decide)) fun _ => ?_
    repeat tb_rel
    refine i_mul (mul_r (by decide)) fun _ => ?_
    repeat tb_rel
    refine i_mul (mul_r (by decide)) fun _ => ?_
    repeat tb_rel
    refine i_mod (by decide) fun _ => ?_
    have hm := fmod_bd ((g.fmod 2147483629 + 7919 * 0 * 0 + 31 * 0 + 17) * 48271) (b := 2147483647) (by decide)
    generalize ((g.fmod 2147483629 + 7919 * 0 * 0 + 31 * 0 + 17) * 48271).fmod 2147483647 = mx at *
    repeat tb_rel
    refine i_pow (by decide) (by decide) (by decide) fun _ => ?_
    repeat tb_rel
    refine i_mul (mul_r (by split <;> decide)) fun _ => ?_
    repeat tb_rel
    refine new_list fun a => ?_
    refine ⟨[_], List.Sublist.refl _, a, _, rfl, rfl, _, _, _, _, rfl, ?_, hm.1, hm.2⟩
    refine Int.mul_nonneg hg ?_
    split <;> decide
theorem take_spec {a : Addr} {x : Asn} {z : Heap} (hx : Src x) {top : Int} {t : Tok} (h1 : 0 < top) (h2 : top < 1000) :
    SpecC (TW X) 2 (.ref 253) [.ref a, .int top t] [(a, x)] z (NoNew fun r bm' z' => ∃ x' d td, bm' = [(a, x')] ∧ Src x' ∧ r = .int d td ∧ 0 ≤ d ∧ d < top) := by
  obtain ⟨g, m, t1, t2, rfl, hg, hm1, hm2⟩ := hx
  refine enter (n := 1) [(Str.ofString "source", .ref a), (Str.ofString "top", .int top t)] WO (by rfl) (by kernel_rfl) (by rfl) (locs rfl) (by decide) (fun Γ R hE hz₀ hbm => ?_)
  have hlog : top.natAbs.log2 < 9000 := by
    have h0 : top.natAbs ≠ 0 := by omega
    have : top.natAbs.log2 < 10 := (Nat.log2_lt h0).mpr (by omega)
    omega
  refine execs_cons' (exec_If' ?_)
  refine Sat.as (decide (0 < g)) ?_ ?_
  · repeat tb_rel
    refine l_get (.inl (by nest_cls)) (by decide) (by decide) (by rfl) ?_
    repeat tb_rel
    exact ⟨rfl, rfl⟩
  refine PyProof.Rows.split_bool (fun h => ?_) (fun h => ?_)
  · simp only [decide_eq_true_eq] at h
    repeat tb_rel
    refine l_get (.inl (by nest_cls)) (by decide) (by decide) (by rfl) ?_
    repeat tb_rel
    refine i_mod (by omega) fun _ => ?_
    repeat tb_rel
    refine l_get (.inl (by nest_cls)) (by decide) (by decide) (by rfl) ?_
    repeat tb_rel
    refine i_fdiv (by omega) hlog fun _ => ?_
    repeat tb_rel
    refine l_set (pre := []) (j := 0) (by simp) (by decide) ?_
    repeat tb_rel
    have hd := fmod_bd g h1
    exact ⟨[(a, .list [.int (g.fdiv top) _, .int m t2])], rfl, fun _ h => h, _, _, _, rfl, ⟨_, _, _, _, rfl, fdiv_nn hg h1, hm1, hm2⟩, rfl, hd.1, hd.2⟩
  · repeat tb_rel
    refine l_get (.inl (by nest_cls)) (by decide) (by decide) (by rfl) ?_
    repeat tb_rel
    refine i_mul (mul_r (by decide)) fun _ => ?_
    repeat tb_rel
    refine i_mod (by decide) fun _ => ?_
    have hm := fmod_bd (m * 39373 + 7) (b := 2147483647) (by decide)
    generalize (m * 39373 + 7).fmod 2147483647 = m' at *
    repeat tb_rel
    refine l_set (pre := []) (j := 1) (by simp) (by decide) ?_
    repeat tb_rel
    refine l_get (.inl (by nest_cls)) (by decide) (by decide) (by rfl) ?_
    repeat tb_rel
    refine l_get (.inl (by nest_cls)) (by decide) (by decide) (by rfl) ?_
    repeat tb_rel
    refine i_mul (mul_r (by omega)) fun _ => ?_
    repeat tb_rel
    refine i_mod (by decide) fun _ => ?_
    repeat tb_rel
    refine i_fdiv (by decide) (by decide +kernel) fun _ => ?_
    repeat tb_rel
    refine i_mod (by omega) fun _ => ?_
    have hd := fmod_bd (((m' * m').fmod 2147483629).fdiv 32) h1
    repeat tb_rel
    exact ⟨[(a, .list [.int g t1, .int m' _])], rfl, fun _ h => h, _, _, _, rfl, ⟨_, _, _, _, rfl, hg, hm.1, hm.2⟩, rfl, hd.1, hd.2⟩
theorem one_spec {a la : Addr} {x : Asn} {vs : List Value} {ns : List Int} {z : Heap} (hx : Src x) (hla : LZ z la vs) (hns : All2 AInt vs ns) (h1 : 0 < ns.length) (h2 : ns.length < 1000) :
    SpecC (TW X) 3 (.ref 260) [.ref a, .ref la] [(a, x)] z (NoNew fun r bm' z' => ∃ x' d td, bm' = [(a, x')] ∧ Src x' ∧ r = .int d td ∧ d ∈ ns) := by
  refine enter (n := 2) [(Str.ofString "source", .ref a), (Str.ofString "things", .ref la)] WO (by rfl) (by kernel_rfl) (by rfl) (locs rfl) (by decide) (fun Γ R hE hz₀ hbm => ?_)
  have lvs := hns.length
  repeat tb_rel
  refine l_len (.inr hla) (by omega) fun _ => ?_
  repeat tb_rel
  refine use_spec_in (pre := []) (post := []) (Q := fun r x' _ => Src x' ∧ ∃ d td, r = .int d td ∧ 0 ≤ d ∧ d < (vs.length : Int)) (take_spec WO hx (by omega) (by omega)).spec R (fun r bm' nw z' h => ?_) (fun r x' z2 hz2 h => ?_)
  · obtain ⟨rfl, x', d, td, rfl, h3, rfl, h4⟩ := h
    exact ⟨rfl, x', rfl, h3, d, td, rfl, h4⟩
  obtain ⟨hx', d, td, rfl, hd0, hd1⟩ := h
  obtain ⟨v, hv⟩ : ∃ v, vs[d.toNat]? = some v := ⟨_, List.getElem?_eq_getElem (by omega)⟩
  obtain ⟨c, hc, t', rfl⟩ := hns.get hv
  refine l_get (.inr (hla.mono hz2)) hd0 (by omega) hv ?_
  exact ⟨[(a, x')], src_foots hx hx', fun _ h => h, _, _, _, rfl, hx', rfl, List.mem_of_getElem? hc⟩
end
/-- what the law's rectangles keep to -/
structure RcB (q : Rc) : Prop where
  l1 : -3 ≤ q.l
  l2 : q.l ≤ 3
  t1 : -2 ≤ q.t
  t2 : q.t ≤ 2
  w1 : -1 ≤ q.w
  w2 : q.w ≤ 4
  h1 : -2 ≤ q.h
  h2 : q.h ≤ 3
section
variable {X : Xd} (WO : XOk X)
include WO
theorem rectangle_spec {a : Addr} {x : Asn} {z : Heap} (hx : Src x) :
    SpecC (TW X) 4 (.ref 274) [.ref a] [(a, x)] z (NoNew fun r bm' z' => ∃ x' q, bm' = [(a, x')] ∧ Src x' ∧ IsQuad z' r q ∧ RcB q) := by
  refine enter (n := 3) [(Str.ofString "source", .ref a)] WO (by rfl) (by kernel_rfl) (by rfl) (locs rfl) (by decide) (fun Γ R hE hz₀ hbm => ?_)
  have tk : ∀ {bm' nw : Mu} {z' : Heap} {top : Int} {r : Value}, (NoNew fun r bm' z' => ∃ x' d td, bm' = [(a, x')] ∧ Src x' ∧ r = .int d td ∧ 0 ≤ d ∧ d < top) r bm' nw z' → nw = [] ∧ ∃ x', bm' = [(a, x')] ∧ Src x' ∧ ∃ d td, r = .int d td ∧ 0 ≤ d ∧ d < top := by
    rintro bm' nw z' top r ⟨rfl, x', d, td, rfl, h3, rfl, h4⟩
    exact ⟨rfl, x', rfl, h3, d, td, rfl, h4⟩
  have on : ∀ {bm' nw : Mu} {z' : Heap} {ns : List Int} {r : Value}, (NoNew fun r bm' z' => ∃ x' d td, bm' = [(a, x')] ∧ Src x' ∧ r = .int d td ∧ d ∈ ns) r bm' nw z' → nw = [] ∧ ∃ x', bm' = [(a, x')] ∧ Src x' ∧ ∃ d td, r = .int d td ∧ d ∈ ns := by
    rintro bm' nw z' top r ⟨rfl, x', d, td, rfl, h3, rfl, h4⟩
    exact ⟨rfl, x', rfl, h3, d, td, rfl, h4⟩
  repeat tb_rel
  refine use_spec_in (pre := []) (post := []) (Q := fun r x' _ => Src x' ∧ ∃ d td, r = .int d td ∧ 0 ≤ d ∧ d < 7) (take_spec WO hx (by decide) (by decide)).spec (R.less (by decide)) (fun r bm' nw z' h => tk h) (fun r x1 z1 hz1 h => ?_)
  obtain ⟨hx1, d1, td1, rfl, hd1, hd1'⟩ := h
  repeat tb_rel
  refine use_spec_in (pre := []) (post := []) (Q := fun r x' _ => Src x' ∧ ∃ d td, r = .int d td ∧ 0 ≤ d ∧ d < 5) (take_spec WO hx1 (by decide) (by decide)).spec (R.less (by decide)) (fun r bm' nw z' h => tk h) (fun r x2 z2 hz2 h => ?_)
  obtain ⟨hx2, d2, td2, rfl, hd2, hd2'⟩ := h
  repeat tb_rel
  refine new_list fun la => ?_
  repeat tb_rel
  refine Sat.freezeB (pre := []) (by rw [hbm, ← src_foots hx hx2]; exact fun b hb => hb) fun z3 hz3 hla => ?_
  refine use_spec_in (pre := []) (post := []) (Q := fun r x' _ => Src x' ∧ ∃ d td, r = .int d td ∧ d ∈ [0, 1, 2, 3, 4, 2, 3, -1]) (one_spec WO hx2 hla (ns := [0, 1, 2, 3, 4, 2, 3, -1]) (.cons ⟨_, rfl⟩ (.cons ⟨_, rfl⟩ (.cons ⟨_, rfl⟩ (.cons ⟨_, rfl⟩ (.cons ⟨_, rfl⟩ (.cons ⟨_, rfl⟩ (.cons ⟨_, rfl⟩ (.cons ⟨_, rfl⟩ .nil)))))))) (by decide) (by decide)).spec (R.less (by decide)) (fun r bm' nw z' h => on h) (fun r x3 z4 hz4 h => ?_)
  obtain ⟨hx3, d3, td3, rfl, hd3⟩ := h
  repeat tb_rel
  refine new_list fun lb => ?_
  repeat tb_rel
  refine Sat.freezeB (pre := []) (by rw [hbm, ← src_foots hx hx3]; exact fun b hb => hb) fun z5 hz5 hlb => ?_
  refine use_spec_in (pre := []) (post := []) (Q := fun r x' _ => Src x' ∧ ∃ d td, r = .int d td ∧ d ∈ [0, 1, 2, 3, 1, 2, 3, -2]) (one_spec WO hx3 hlb (ns := [0, 1, 2, 3, 1, 2, 3, -2]) (.cons ⟨_, rfl⟩ (.cons ⟨_, rfl⟩ (.cons ⟨_, rfl⟩ (.cons ⟨_, rfl⟩ (.cons ⟨_, rfl⟩ (.cons ⟨_, rfl⟩ (.cons ⟨_, rfl⟩ (.cons ⟨_, rfl⟩ .nil)))))))) (by decide) (by decide)).spec (R.less (by decide)) (fun r bm' nw z' h => on h) (fun r x4 z6 hz6 h => ?_)
  obtain ⟨hx4, d4, td4, rfl, hd4⟩ := h
  repeat tb_rel
  refine new_tup fun T z7 hz7 hT => ?_
  repeat tb_rel
  refine ⟨[(a, x4)], src_foots hx hx4, fun _ h => h, x4, ⟨d1 - 3, d2 - 2, d3, d4⟩, rfl, hx4, ⟨T, _, _, _, _, rfl, hT⟩, ?_⟩
  have h3 : -1 ≤ d3 ∧ d3 ≤ 4 := by simp at hd3; omega
  have h4 : -2 ≤ d4 ∧ d4 ≤ 3 := by simp at hd4; omega
  constructor <;> dsimp only <;> omega
theorem islet_spec {v : Value} {q : Rc} {z : Heap} (hq : IsQuad z v q) :
    SpecC (TW X) 2 (.ref 281) [v] [] z (NoNew fun r _ _ => r = .bool (decide q.ok)) := by
  obtain ⟨T, t1, t2, t3, t4, rfl, hT⟩ := hq
  refine enter (n := 1) [(Str.ofString "row", .ref T)] WO (by rfl) (by kernel_rfl) (by rfl) (locs rfl) (by decide) (fun Γ R hE hz₀ hbm => ?_)
  repeat tb_rel
  refine t_get (j := 2) hT (by decide) (by rfl) (by rfl) ?_
  repeat tb_rel
  refine PyProof.Rows.split_bool (fun h => ?_) (fun h => ?_)
  · repeat tb_rel
    refine t_get (j := 3) hT (by decide) (by rfl) (by rfl) ?_
    repeat tb_rel
    refine ⟨[], rfl, fun _ h => h, ?_⟩
    simp only [retv]
    congr 1
    simp at h
    rw [Bool.eq_iff_iff]
    simp [Rc.ok, h]
  · simp at h
    exact ⟨[], rfl, fun _ h => h, congrArg Value.bool ((decide_eq_false (by omega)).trans (decide_eq_false fun o : q.ok => by have := o.1; omega).symm)⟩
theorem lies_spec {v : Value} {q : Rc} {z : Heap} (hq : IsQuad z v q) {px py : Int} {u1 u2 : Tok} :
    SpecC (TW X) 2 (.ref 288) [v, .int px u1, .int py u2] [] z (NoNew fun r _ _ => r = .bool (decide (q.has px py))) := by
  obtain ⟨T, t1, t2, t3, t4, rfl, hT⟩ := hq
  refine enter (n := 1) [(Str.ofString "row", .ref T), (Str.ofString "x", .int px u1), (Str.ofString "y", .int py u2)] WO (by rfl) (by kernel_rfl) (by rfl) (locs rfl) (by decide) (fun Γ R hE hz₀ hbm => ?_)
  refine execs_cons' (exec_Ret (e_and ?_))
  refine e_chain2 ?_ (by with_unfolding_all rfl)
  repeat tb_rel
  refine t_get (j := 0) hT (by decide) (by rfl) (by rfl) ?_
  repeat tb_rel
  refine PyProof.Rows.split_bool (fun h => ?_) (fun h => ?_)
  · repeat tb_rel
    refine t_get (j := 0) hT (by decide) (by rfl) (by rfl) ?_
    repeat tb_rel
    refine t_get (j := 2) hT (by decide) (by rfl) (by rfl) ?_
    repeat tb_rel
    refine PyProof.Rows.split_bool (fun h' => ?_) (fun h' => ?_)
    · refine e_chain2 ?_ (by with_unfolding_all rfl)
      repeat tb_rel
      refine t_get (j := 1) hT (by decide) (by rfl) (by rfl) ?_
      repeat tb_rel
      refine PyProof.Rows.split_bool (fun h2 => ?_) (fun h2 => ?_)
      · repeat tb_rel
        refine t_get (j := 1) hT (by decide) (by rfl) (by rfl) ?_
        repeat tb_rel
        refine t_get (j := 3) hT (by decide) (by rfl) (by rfl) ?_
        repeat tb_rel
        refine ⟨[], rfl, fun _ h => h, ?_⟩
        simp only [retv]
        congr 1
        simp at h h' h2
        rw [Bool.eq_iff_iff]
        simp [Rc.has, h, h', h2]
      · simp at h2
        exact ⟨[], rfl, fun _ h => h, congrArg Value.bool ((decide_eq_false (by omega)).trans (decide_eq_false fun o : q.has px py => by have := o.2.2.1; omega).symm)⟩
    · simp at h'
      exact ⟨[], rfl, fun _ h => h, congrArg Value.bool ((decide_eq_false (by omega)).trans (decide_eq_false fun o : q.has px py => by have := o.2.1; omega).symm)⟩
  · repeat tb_rel
    rw [h]
    refine PyProof.Rows.ite_ff ?_
    simp at h
    exact ⟨[], rfl, fun _ h => h, congrArg Value.bool (decide_eq_false fun o : q.has px py => by have := o.1; omega).symm⟩
end
theorem aroundRow_get {i j : Nat} (hj : j < 15) : (aroundRow i)[j]? = some ((-5 + (j : Int), -4 + (i : Int)) : Span) := by simp [aroundRow, hj]
theorem aroundRow_len (i : Nat) : (aroundRow i).length = 15 := by simp [aroundRow]
section
variable {X : Xd} (WO : XOk X)
include WO
theorem has_spec {x pl : Addr} {pv : List Value} {z : Heap} {rs : RowsM} {ps : List Span} (hx : IsRegion X z x rs) (ho : RegOk rs) (hpl : LZ z pl pv) (hps : Pairs z pv ps) (hsz : rs.length ≤ 50) (hrow : ∀ y, (rowAt rs y).length ≤ 1000) (hpn : ps.length ≤ 1000)
    (hag : ∀ p ∈ aroundL, decide (Mem (rowAt rs p.2) p.1) = decide (p ∈ ps)) (har : (rs.map fun r => lenF r.2).sum = (ps.length : Int)) :
    SpecC (TW X) 6 (.ref 293) [.ref x, .ref pl] [] z (NoNew fun r _ _ => r = .bool true) := by
  refine enterCellF (n := 5) (m := []) [(Str.ofString "region", .ref x), (Str.ofString "places", .ref pl)] WO (by rfl) (by kernel_rfl) (by rfl) (fun n y hy => ?_) (by decide) (fun Γ R hE hz₀ hbm => ?_) (fun _ => rfl)
  · rcases hy with _ | ⟨_, _ | ⟨_, h⟩⟩
    · exact .inr ⟨by rfl, by rfl⟩
    · exact .inr ⟨by rfl, by rfl⟩
    · cases h
  show Sat _ _ _ _ ⟨[], [(Γ.L + 2, .cell (some (.ref pl))), (Γ.L + 1, .cell (some (.ref x)))], z⟩
  have lps := hps.length
  have hx' := hx
  obtain ⟨dx, d0, kvs0, h1, h2, h3⟩ := hx'
  refine execs_cons' (asg_compG ?_ (by rfl) (by rfl) (by rfl) (by decide) (by intro _; rfl) (by rfl) (by rfl) (by rfl))
  repeat tb_rel
  refine call_range2 fun rg z1 hz1 hrg => ?_
  refine iter_range hrg (by decide) (by decide) fun it => ⟨fun D vs mu z' => mu = [(Γ.L + 2, .cell (some (.ref pl))), (Γ.L + 1, .cell (some (.ref x)))] ∧ Pairs z' vs aroundL, fun D C => ?_, ?_⟩
  · have DR : Drw (TW X) Γ.A z1 it 11 (fun i v => ∃ t, v = .int (-4 + i) t) (RI (-4) 11) := drw_range R.handled
    refine CSat.weak (σ' := ⟨[], (it, .raw (RI (-4) 11 0)) :: (D, .list []) :: (Γ.L, .raw (NsO (mget []))) :: [(Γ.L + 2, .cell (some (.ref pl))), (Γ.L + 1, .cell (some (.ref x)))], z1⟩) ?_ (fun s c => Coh.front (pre := [_, _]) c)
    refine cs_start1 (Γ := Γ.at C fun _ _ => False) DR (.head _) ?_
    refine cs_outer (Γ := Γ.at C fun _ _ => False) (fun i vs mu z' => mu = (Γ.L, .raw (NsO (mget []))) :: [(Γ.L + 2, .cell (some (.ref pl))), (Γ.L + 1, .cell (some (.ref x)))] ∧ vs.length ≤ 15 * i ∧ Pairs z' vs ((List.range i).flatMap aroundRow)) (fun _ _ h => h) (by intro _; rfl) DR ⟨rfl, Nat.le_refl _, .nil⟩ ?_ ?_
    · rintro i v vs m mu z2 hi ⟨t, rfl⟩ hz2 ⟨rfl, hvl, hp⟩
      repeat tb_rel
      refine call_range2 fun rg2 z3 hz3 hrg2 => ?_
      refine iter_range hrg2 (by decide) (by decide) fun it2 => ?_
      have DR2 : Drw (TW X) Γ.A z3 it2 15 (fun i v => ∃ t, v = .int (-5 + i) t) (RI (-5) 15) := drw_range R.handled
      refine CSat.weak (σ' := ⟨_, (it2, .raw (RI (-5) 15 0)) :: (D, .list vs) :: (it, .raw (RI (-4) 11 (i + 1))) :: (Γ.L, .raw (NsO (mget []))) :: [(Γ.L + 2, .cell (some (.ref pl))), (Γ.L + 1, .cell (some (.ref x)))], z3⟩) ?_ (fun s c => Coh.swap12 c)
      refine cs_start2 (Γ := Γ.at C fun _ _ => False) DR2 (.head _) ?_
      refine cs_inner (Γ := Γ.at C fun _ _ => False) (fun j m ws mu z' => (∃ t, mget m (Str.ofString "y") = some (.int (-4 + i) t)) ∧ mu = (it, .raw (RI (-4) 11 (i + 1))) :: (Γ.L, .raw (NsO (mget []))) :: [(Γ.L + 2, .cell (some (.ref pl))), (Γ.L + 1, .cell (some (.ref x)))] ∧ ws.length ≤ 900000 ∧ j ≤ 15 ∧ ws.length ≤ 15 * i + j ∧ Pairs z' ws ((List.range i).flatMap aroundRow ++ (aroundRow i).take j)) (fun _ _ h => h) (turn_2 _ _ _ _ _ _ _ _ _ _ _ _) DR2 ⟨⟨_, rfl⟩, rfl, by omega, by omega, by omega, by rw [List.take_zero, List.append_nil]; exact hp.mono hz3⟩ (fun _ _ _ _ _ h => h.2.2.1) ?_ ?_
      · rintro j v ws m mu z4 hj ⟨t2, rfl⟩ hz4 ⟨⟨ty, ey⟩, rfl, _, _, hwl, hpw⟩
        repeat tb_rel
        refine tests_nil ?_
        rw [if_pos rfl]
        repeat tb_rel
        refine new_tup fun T z5 hz5 hT => ?_
        refine ⟨_, List.Sublist.refl _, zt hz4 hz5, ⟨ty, ey⟩, rfl, by simp; omega, by omega, by simp; omega, ?_⟩
        rw [List.take_add_one, aroundRow_get hj, ← List.append_assoc]
        exact (hpw.mono hz5).snoc ⟨T, _, _, rfl, hT⟩
      · rintro ws m mu z4 hz4 ⟨_, rfl, _, _, hwl, hpw⟩
        refine ⟨ws, _, fun s c => Coh.swap c, zt hz2 (zt hz3 hz4), rfl, by omega, ?_⟩
        rw [List.range_succ, List.flatMap_append, List.flatMap_cons, List.flatMap_nil, List.append_nil]
        rw [show (aroundRow i).take 15 = aroundRow i from List.take_of_length_le (by rw [aroundRow_len]; exact Nat.le_refl _)] at hpw
        exact hpw
    · rintro vs m mu z2 hz2 ⟨rfl, hvl, hp⟩
      exact ⟨vs, _, List.Sublist.refl _, hz2, rfl, hp⟩
  · rintro D vs mu z2 hz2 ⟨rfl, hp⟩
    have lp := hp.length
    have hal : aroundL.length = 165 := by decide
    refine nx_next ?_
    refine Sat.freeze0 hbm fun z3 hz3 hD => ?_
    have hD' : LZ z3 D vs := hD
    have hz03 : z.StaysIn z3 := zt hz1 (zt hz2 hz3)
    refine execs_cons' (exec_If' (t_cmp ?_ (by with_unfolding_all rfl)))
    refine e_comp (fun i ws mu z' => mu = [(Γ.L + 2, .cell (some (.ref pl))), (Γ.L + 1, .cell (some (.ref x)))] ∧ ws = []) ?_ (by rfl) (by decide) (by rfl) (by decide) (by intro _; rfl)
    repeat tb_rel
    refine iter_list hD'.isList fun it2 => ⟨it2, _, _, LI D, _, ⟨rfl, rfl, drw_list R.handled hD'.isList, by omega, ⟨rfl, rfl⟩, ?_⟩, ?_⟩
    · rintro Γ' D2 i v ws m mu z4 hA hz0 hb' hE' hi hv hz4 ⟨rfl, rfl⟩
      have R' : Room 5 Γ'.A := hA ▸ R
      obtain ⟨q, hq, T, t1, t2, rfl, hT⟩ := (hp.mono hz3).get hv
      have hqm : q ∈ aroundL := List.mem_of_getElem? hq
      have hT4 := IsTup.keeps hT hz4
      have hz04 := zt hz03 hz4
      repeat tb_rel
      refine tests_one (t_cmp ?_ (by with_unfolding_all rfl))
      repeat tb_rel
      refine a_meth WO (.inr (h1.mono hz04)) (by kernel_rfl) (by rfl) (by kernel_rfl) (by rfl) ?_
      repeat tb_rel
      refine t_get (j := 0) hT4 (by decide) (by rfl) (by rfl) ?_
      repeat tb_rel
      refine t_get (j := 1) hT4 (by decide) (by rfl) (by rfl) ?_
      repeat tb_rel
      refine use_spec0 (rholds_spec WO (hx.mono hz04) ho (hrow _)).spec (R'.less (by decide)) (fun r _ z5 hz5 h => ?_)
      subst h
      repeat tb_rel
      refine p_in (R'.less (by decide)) (.inr (hpl.mono (zt hz04 hz5))) (hps.mono (zt hz04 hz5)) (p := q) ⟨T, _, _, rfl, IsTup.keeps hT4 hz5⟩ ?_
      repeat tb_rel
      rw [hag q hqm]
      rw [show (decide (q ∈ ps) != decide (q ∈ ps)) = false by simp]
      refine PyProof.Rows.ite_ff ?_
      exact ⟨_, List.Sublist.refl _, zt hz4 hz5, rfl, rfl⟩
    · rintro D2 ws mu z4 hz4 ⟨rfl, rfl⟩
      have hz04 := zt hz03 hz4
      repeat tb_rel
      refine new_list fun e0 => ?_
      refine l_ne_nil (vs := []) (R.less (by decide)) (.inl (by nest_cls)) (.inl (.head _)) ?_
      repeat tb_rel
      rw [show (!decide (([] : List Value) = [])) = false by simp]
      refine PyProof.Rows.ite_ff ?_
      refine execs_nil' (nx_next (execs_cons' (exec_Ret ?_)))
      repeat tb_rel
      refine a_meth WO (.inr (h1.mono hz04)) (by kernel_rfl) (by rfl) (by kernel_rfl) (by rfl) ?_
      repeat tb_rel
      refine use_spec0 (area_spec WO (hx.mono hz04) hsz ho.nodup).spec (R.less (by decide)) (fun r _ z5 hz5 h => ?_)
      obtain ⟨ta, rfl⟩ := h
      repeat tb_rel
      refine l_len (.inr (hpl.mono (zt hz04 hz5))) (by omega) fun _ => ?_
      repeat tb_rel
      refine ⟨[], List.nil_sublist _, fun z' _ _ => congrArg Value.bool ?_⟩
      rw [har, lps, beq_iff_eq]
end
theorem kfun : ScopeKind.function ≠ ScopeKind.module := by decide
section
variable {X : Xd} (WO : XOk X)
include WO
/-- _law_told of a lambda -/
theorem told_lam {g : Addr} {l : List Env} {bm : Mu} {z : Heap} {n : Nat} {Post : Value → Heap → Prop} {Err : Prop} {qual : Str} {params : Arguments} {body : Expr} {scope : Scope} {clos : List (Str × Addr)} (hl : FramesIn l bm) (hns : ∀ p ∈ bm, SlotOk p.2) (hL : IsLam z g qual params body scope clos)
    (hbind : ∀ pm c' ctv, bindArgs (kla_fn "<lambda>" qual params body scope clos pm (.ref c') ctv) ⟨[], []⟩ = pure []) (hcell : ∀ x ∈ scope.names, x.2 ≠ .cell) (hmono : ∀ r z1 z2, z1.StaysIn z2 → Post r z1 → Post r z2)
    (h : ∀ (Γ : Ctx) (c' : Addr) (l' : List Env) (fr : Addr × Asn), FramesIn l' (fr :: bm) → (∀ p ∈ fr :: bm, SlotOk p.2) → Room n Γ.A → Γ.z₀ = z → Γ.bm = foots (fr :: bm) → Γ.A.frames = some (envX qual scope Γ.L g (.ref c') clos :: l') →
      (∀ e s₂ h' tk' m mu z', Err → Coh (TW X) Γ ⟨m, mu, z'⟩ s₂ → (fr :: bm).Sublist mu → Fly (TW X) 51 (envX qual scope Γ.L g (.ref c') clos :: l') ((Γ.L, .raw (NsO (mget m))) :: fr :: bm) z' s₂ e h' → Γ.E (.ref e) { s₂ with heap := h', toks := tk' }) →
      Sat (TW X) Γ (eval body (envX qual scope Γ.L g (.ref c') clos)) (fun v => EndsFB (TW X) (fr :: bm) Post (.ret v)) ⟨[], fr :: bm, z⟩)
    (hco : scope.isCoroutine = false := by rfl) (hgen : scope.isGenerator = false := by rfl) (hk : scope.kind = .function := by rfl) :
    SpecE (TW X) 51 (n + 2) (.ref 267) [.ref g] l bm z (fun r bm' nw z' => nw = [] ∧ bm' = bm ∧ (Post r z' ∨ (Err ∧ r = .none))) False :=
  told_spec WO (n := n + 1) hl hns hL.fn hmono fun env L f hf hm => enterLE WO hL hbind hcell (slots_fr hns) (fun Γ c' R hz hb hA hE => h Γ c' (env :: l) (L, .raw (NsO f)) (hl.push hf hm) (slots_fr hns) R hz hb hA hE) hco hgen hk

theorem fixed_spec {l : List Env} {bm : Mu} {z : Heap} (hl : FramesIn l bm) (hns : ∀ p ∈ bm, SlotOk p.2) :
    SpecE (TW X) 51 10 (.ref 300) [] l bm z (fun r bm' nw z' => nw = [] ∧ bm' = bm ∧ r = .bool true) False := by
  refine enterE (n := 9) (m := []) [] WO (by rfl) (by kernel_rfl) (by rfl) (fun n y hy => by cases hy) (by decide) hl hns (fun Γ R hz₀ hbm hEB hA hE => ?_) (fun _ => by rfl)
  show Sat _ _ _ _ ⟨[], (Γ.L + 1, .cell none) :: bm, z⟩
  repeat tb_rel
  with_reducible refine for_late hEB ?_ ?hs
  case hs => intro _; rfl
  repeat tb_rel
  refine new_tup fun T1 z1 hz1 hT1 => ?_
  repeat tb_rel
  refine new_tup fun T2 z2 hz2 hT2 => ?_
  repeat tb_rel
  refine new_tup fun T3 z3 hz3 hT3 => ?_
  repeat tb_rel
  refine new_list fun a => ?_
  refine Sat.frz hbm (by intro p hp; simp [hp]) fun z4 hz4 ha => ?_
  have ha' : LZ z4 a [.ref T1, .ref T2, .ref T3] := ha
  refine iter_list ha'.isList fun it => ⟨it, _, _, LI a, _, fun i m mu z' => ∃ v, mu = (Γ.L + 1, .cell v) :: bm, rfl, rfl, drw_list R.handled ha'.isList, ⟨_, rfl⟩, ?_, ?_⟩
  · rintro i v m mu z5 hi hv hz5 ⟨v0, rfl⟩
    obtain ⟨T, w, h, t1, t2, rfl, hT, hbad⟩ : ∃ T w h t1 t2, v = .ref T ∧ IsTup z5 T [Value.int w t1, Value.int h t2].toArray ∧ ((w < 0 ∨ h < 0) ∧ h ≤ 2) := by
      match i, hi, hv with
      | 0, _, hv => cases hv; exact ⟨T1, _, _, _, _, rfl, IsTup.keeps hT1 (zt hz2 (zt hz3 (zt hz4 hz5))), by decide⟩
      | 1, _, hv => cases hv; exact ⟨T2, _, _, _, _, rfl, IsTup.keeps hT2 (zt hz3 (zt hz4 hz5)), by decide⟩
      | 2, _, hv => cases hv; exact ⟨T3, _, _, _, _, rfl, IsTup.keeps hT3 (zt hz4 hz5), by decide⟩
    repeat tb_rel
    refine store_c (pre := [_]) (by rfl) ?_
    repeat tb_rel
    refine e_lam (P := 295) (cc := 299) (qual := lamQ "_law_fixed_right") WO (by rfl) (List.Mem.head _) (List.Mem.head _) (by rfl) (uniq295 X) (by rfl) (by rfl) (by rfl) fun g z6 hz6 hL => ?_
    repeat tb_rel
    refine Sat.weak (σ' := ⟨m, ((Γ.L + 1, .cell (some (.ref T))) :: bm) ++ [(it, .raw (LI a (i + 1)))], z6⟩) ?_ (fun s c => Coh.sink (post := []) (by rw [List.append_nil]; exact c))
    have T6 := IsTup.keeps hT hz6
    refine use_specT (told_lam (n := 7) (Post := fun _ _ => False) (Err := True) WO ((hl.skip).push rfl kfun) (slots_fr (slots_cell hns)) hL (fun _ _ _ => by rfl) (by decide) (fun _ _ _ _ h => h) (fun Γ' c' l' fr hl' hns' R' hz' hb' hA' hE' => ?_)) R hA (fun r z7 hz7 h => ?_)
    · repeat tb_rel
      refine new_tup fun T0 z8 hz8 hT0 => ?_
      repeat tb_rel
      refine t_add hT0 (IsTup.keeps T6 hz8) (by simp) (by simp) (by simp) fun T' z9 hz9 hT' => ?_
      repeat tb_rel
      refine new_list fun a2 => ?_
      repeat tb_rel
      refine Sat.frz hb' (fun p hp => hp) fun zA hzA ha2 => ?_
      refine Sat.weak (σ' := ⟨[], (fr :: (Γ.L, .raw (NsO (mget m))) :: (Γ.L + 1, .cell (some (.ref T))) :: bm) ++ [], zA⟩) ?_ (fun s c => by rw [List.append_nil]; exact c)
      refine use_specE (rects_spec WO (qs := [⟨0, 0, w, h⟩]) (hl'.push rfl kfun) (slots_fr hns') ha2 (.cons ⟨T', _, _, _, _, rfl, IsTup.keeps hT' hzA⟩ .nil) (by simp) (fun q hq => by rw [List.mem_singleton.mp hq]; exact ⟨by show (-(2 ^ 20) : Int) < 0; decide, by show (0 : Int) < 2 ^ 20; decide, by show h ≤ 10; omega⟩)) (R'.less (by decide)) hA' (fun r z' hz' h => ?_) (fun e s₂ h' tk' he c fy => hE' e s₂ h' tk' _ _ _ trivial c (List.sublist_append_left _ _) fy)
      obtain ⟨x, rs, hok, _⟩ := h
      have := hok _ (List.mem_singleton.mpr rfl)
      exact absurd this (fun o => by have o1 : 0 ≤ w := o.1; have o2 : 0 ≤ h := o.2; omega)
    · obtain rfl : r = .none := h.elim False.elim fun h => h.2
      repeat tb_rel
      refine PyProof.Rows.split_bool (fun h => (by cases h)) (fun h => ?_)
      refine Sat.weak (σ' := ⟨m, (it, .raw (LI a (i + 1))) :: (Γ.L + 1, .cell (some (.ref T))) :: bm, z7⟩) ?_ (fun s c => by have := Coh.front (post := []) c; rw [List.append_nil] at this; exact this)
      repeat tb_rel
      exact ⟨_, List.Sublist.refl _, zt hz5 (zt hz6 hz7), _, rfl⟩
  · rintro m mu z5 hz5 ⟨v0, rfl⟩
    repeat tb_rel
    refine e_lam (P := 295) (cc := 299) (qual := lamQ "_law_fixed_right") WO (by rfl) (List.Mem.head _) (List.Mem.tail _ (List.Mem.head _)) (by rfl) (uniq295 X) (by rfl) (by rfl) (by rfl) fun g z6 hz6 hL => ?_
    repeat tb_rel
    refine Sat.weak (σ' := ⟨m, bm ++ [(Γ.L + 1, .cell v0)], z6⟩) ?_ (fun s c => Coh.sink (post := []) (by rw [List.append_nil]; exact c))
    refine use_specT (told_lam (n := 7) (Post := fun _ _ => False) (Err := True) WO (hl.push rfl kfun) (slots_fr hns) hL (fun _ _ _ => by rfl) (by decide) (fun _ _ _ _ h => h) (fun Γ' c' l' fr hl' hns' R' hz' hb' hA' hE' => ?_)) R hA (fun r z7 hz7 h => ?_)
    · repeat tb_rel
      refine new_tup fun T0 z8 hz8 hT0 => ?_
      repeat tb_rel
      refine new_tup fun T' z9 hz9 hT' => ?_
      repeat tb_rel
      refine new_list fun a2 => ?_
      repeat tb_rel
      refine Sat.frz hb' (fun p hp => hp) fun zA hzA ha2 => ?_
      refine Sat.weak (σ' := ⟨[], (fr :: (Γ.L, .raw (NsO (mget m))) :: bm) ++ [], zA⟩) ?_ (fun s c => by rw [List.append_nil]; exact c)
      refine use_specE (rects_spec WO (qs := [⟨0, 0, 2, 2⟩, ⟨5, 5, 1, -1⟩]) (hl'.push rfl kfun) (slots_fr hns') ha2 (.cons ⟨T0, _, _, _, _, rfl, IsTup.keeps hT0 (zt hz9 hzA)⟩ (.cons ⟨T', _, _, _, _, rfl, IsTup.keeps hT' hzA⟩ .nil)) (by simp) (fun q hq => ?_)) (R'.less (by decide)) hA' (fun r z' hz' h => ?_) (fun e s₂ h' tk' he c fy => hE' e s₂ h' tk' _ _ _ trivial c (List.sublist_append_left _ _) fy)
      · rcases hq with _ | ⟨_, _ | ⟨_, h⟩⟩
        · exact ⟨by decide, by decide, by decide⟩
        · exact ⟨by decide, by decide, by decide⟩
        · cases h
      · obtain ⟨x, rs, hok, _⟩ := h
        have o := (hok ⟨5, 5, 1, -1⟩ (.tail _ (.head _))).2
        exact absurd o (by decide)
    · obtain rfl : r = .none := h.elim False.elim fun h => h.2
      refine Sat.weak (σ' := ⟨m, (Γ.L + 1, .cell v0) :: bm, z7⟩) ?_ (fun s c => by have := Coh.front (post := []) c; rw [List.append_nil] at this; exact this)
      repeat tb_rel
      refine PyProof.Rows.split_bool (fun _ => ?_) (fun h => (by cases h))
      repeat tb_rel
      refine new_list fun a2 => ?_
      repeat tb_rel
      refine Sat.frz hbm (fun p hp => .tail _ hp) fun zA hzA ha2 => ?_
      refine Sat.weak (σ' := ⟨m, bm ++ [(Γ.L + 1, .cell v0)], zA⟩) ?_ (fun s c => Coh.sink (post := []) (by rw [List.append_nil]; exact c))
      refine use_specN' (rects_spec WO (qs := []) (hl.push rfl kfun) (slots_fr hns) ha2 .nil (by simp) (fun q hq => nomatch hq)) (fun ⟨q, hq, _⟩ => nomatch hq) (R.less (by decide)) hA (fun r zB hzB h => ?_)
      obtain ⟨x, rs, _, rfl, hx, ho, _, _, hm⟩ := h
      have hrs : rs = [] := reg_uniq ho ⟨List.Pairwise.nil, fun _ h => (nomatch h), fun _ h => (nomatch h)⟩ fun px y => by
        rw [hm, rowAt_nil]
        exact ⟨fun ⟨q, hq, _⟩ => (nomatch hq), fun h => (mem_nil _ h).elim⟩
      subst hrs
      obtain ⟨dx, d0, kvs0, h1, h2, h3⟩ := id hx
      refine a_meth WO (.inr h1) (by kernel_rfl) (by rfl) (by kernel_rfl) (by rfl) ?_
      repeat tb_rel
      refine use_spec0 (isempty_spec WO hx).spec (R.less (by decide)) (fun r _ zC hzC h => ?_)
      subst h
      repeat tb_rel
      exact ⟨[], List.sublist_append_left _ _, fun z' _ _ => rfl⟩
end
local macro_rules | `(tactic| nest_cls) => `(tactic| (repeat (first | exact List.Mem.head _ | assumption | refine List.Mem.tail _ ?_)))
/-- the law's own body, by its place in the text -/
noncomputable def lawBody : List Stmt := fB (topS 33)
noncomputable def lawScope : Scope := fS (topS 33)
noncomputable def lawEnv (L : Addr) : Env := envX (Str.ofString "law") lawScope L 305 (.ref 304) [(Str.ofString "rows", L + 5), (Str.ofString "region", L + 4), (Str.ofString "cut", L + 3), (Str.ofString "row", L + 2), (Str.ofString "source", L + 1)]
/-- the law's five cells -/
noncomputable abbrev lawCells (L : Addr) (rows region cut row source : Option Value) : Mu := [(L + 5, .cell rows), (L + 4, .cell region), (L + 3, .cell cut), (L + 2, .cell row), (L + 1, .cell source)]
/-- what the law's frame knows of its way out -/
structure LawAt (X : Xd) (Γ : Ctx) : Prop where
  R : Room 12 Γ.A
  hbm : Γ.bm = []
  hEB : EBack (TW X) Γ (lawEnv Γ.L)
  hA : Γ.A.frames = some [lawEnv Γ.L]
noncomputable abbrev LawEnd (X : Xd) : Flow → St → Prop := EndsFB (TW X) [] (fun r _ => r = .bool true)
theorem no_frames : FramesIn [] [] := fun _ h => nomatch h
theorem law_frame {L : Addr} {f : Str → Option Value} {bm : Mu} : FramesIn [lawEnv L] ((L, .raw (NsO f)) :: bm) := fun e he => by
  rw [List.mem_singleton.mp he]
  exact ⟨kfun, L, f, rfl, .head _⟩
theorem nil_slots : ∀ p ∈ ([] : Mu), SlotOk p.2 := fun _ h => nomatch h
section
variable {X : Xd} (WO : XOk X)
include WO
/-- the first three statements: the fixed right, the source, the rectangles -/
theorem law_1 {Γ : Ctx} (LA : LawAt X Γ) {la : Addr} {vs : List Value} {ns : List Int} {z : Heap} (hla : z.IsList la vs.toArray) (hns : All2 AInt vs ns) (hn : ns.length ≤ 1000)
    (h : ∀ (m : Loc) (a lr : Addr) (x : Asn) (vr : List Value) (qs : List Rc) (z' : Heap), z.StaysIn z' → Src x → LZ z' lr vr → Quads z' vr qs → (∀ q ∈ qs, RcB q) → qs.length ≤ 4 →
      Sat (TW X) Γ (execs (lawBody.drop 3) (lawEnv Γ.L)) (LawEnd X) ⟨m, (a, x) :: lawCells Γ.L (some (.ref lr)) none none none (some (.ref a)), z'⟩) :
    Sat (TW X) Γ (execs lawBody (lawEnv Γ.L)) (LawEnd X) ⟨[(Str.ofString "script", .ref la)], lawCells Γ.L none none none none none, z⟩ := by
  have R := LA.R
  have hbm := LA.hbm
  refine execs_cons' (exec_If' (t_not (t_plain ?_ (by rfl))))
  repeat tb_rel
  refine use_specT (bm := []) (l := []) (fixed_spec WO law_frame (slots_fr nil_slots)) (R.less (by decide)) LA.hA (fun r z1 hz1 h => ?_)
  subst h
  repeat tb_rel
  refine PyProof.Rows.ite_ff ?_
  refine execs_nil' (nx_next (execs_cons' (exec_Asg ?_ (by rfl))))
  repeat tb_rel
  refine use_spec1 (pool_spec WO (IsList.mono' hla hz1) hns hn).spec (R.less (by decide)) (fun r _ nw z2 hz2 h => ?_)
  obtain ⟨a, x0, rfl, rfl, hx0⟩ := h
  refine store_c (pre := [_, _, _, _, _]) (by rfl) ?_
  refine nx_next (execs_cons' (exec_Asg ?_ (by rfl)))
  refine e_comp (fun i ws mu z' => ∃ x qs, mu = (a, x) :: lawCells Γ.L none none none none (some (.ref a)) ∧ Src x ∧ Quads z' ws qs ∧ (∀ q ∈ qs, RcB q) ∧ qs.length = i) ?_ (by rfl) (by decide) (by rfl) (by decide) (by intro _; rfl)
  repeat tb_rel
  refine use_spec_in (pre := []) (Q := fun r x' _ => Src x' ∧ ∃ d td, r = .int d td ∧ 0 ≤ d ∧ d < 4) (take_spec WO hx0 (by decide) (by decide)).spec (R.less (by decide)) (fun r bm' nw z' h => ?_) (fun r x1 z3 hz3 h => ?_)
  · obtain ⟨rfl, x', d, td, rfl, h3, rfl, h4⟩ := h
    exact ⟨rfl, x', rfl, h3, d, td, rfl, h4⟩
  obtain ⟨hx1, d, td, rfl, hd0, hd1⟩ := h
  repeat tb_rel
  refine call_range1 fun rg z4 hz4 hrg => ?_
  refine iter_range hrg (by omega) (by omega) fun it => ⟨it, _, _, RI 0 _, _, ⟨rfl, rfl, drw_range R.handled, by omega, ⟨x1, [], rfl, hx1, .nil, (fun _ h => nomatch h), rfl⟩, ?_⟩, ?_⟩
  · rintro Γ' D i v ws m mu z5 hA' hz0 hb' hE' hi ⟨t, rfl⟩ hz5 ⟨x, qs, rfl, hx, hq, hqb, hql⟩
    have R' : Room 12 Γ'.A := hA' ▸ R
    repeat tb_rel
    refine tests_nil ?_
    rw [if_pos rfl]
    repeat tb_rel
    refine use_spec_in (pre := [_, _, _]) (Q := fun r x' z' => Src x' ∧ ∃ q, IsQuad z' r q ∧ RcB q) (rectangle_spec WO hx).spec (R'.less (by decide)) (fun r bm' nw z' h => ?_) (fun r x2 z6 hz6 h => ?_)
    · obtain ⟨rfl, x', q, rfl, h3, h4⟩ := h
      exact ⟨rfl, x', rfl, h3, q, h4⟩
    obtain ⟨hx2, q, hqq, hqb'⟩ := h
    refine ⟨_, List.Sublist.refl _, zt hz5 hz6, x2, qs ++ [q], rfl, hx2, (hq.mono hz6).snoc hqq, fun p hp => ?_, by simp [hql]⟩
    rcases List.mem_append.mp hp with h1 | h1
    · exact hqb p h1
    · rw [List.mem_singleton.mp h1]; exact hqb'
  · rintro D ws mu z5 hz5 ⟨x, qs, rfl, hx, hq, hqb, hql⟩
    refine store_c (pre := [_, _]) (by rfl) ?_
    refine nx_next ?_
    refine Sat.freeze0 hbm fun z6 hz6 hD => ?_
    exact h _ a D x ws qs z6 (zt hz1 (zt hz2 (zt hz3 (zt hz4 (zt hz5 hz6))))) hx hD (hq.mono hz6) hqb (by omega)
end
/-- a region of just the places that lie in some of the rectangles -/
structure RegOf (X : Xd) (z : Heap) (xr : Addr) (rs : RowsM) (qs : List Rc) (B : Nat) : Prop where
  reg : IsRegion X z xr rs
  ok : RegOk rs
  len : rs.length ≤ 40
  row : ∀ y, (rowAt rs y).length ≤ B
  mem : ∀ y x, Mem (rowAt rs y) x ↔ ∃ q ∈ qs, q.has x y
theorem RegOf.mono {X : Xd} {z z' : Heap} {xr : Addr} {rs : RowsM} {qs : List Rc} {B : Nat} (h : RegOf X z xr rs qs B) (hz : z.StaysIn z') : RegOf X z' xr rs qs B := ⟨h.reg.mono hz, h.ok, h.len, h.row, h.mem⟩
theorem RcB.top {q : Rc} (h : RcB q) : -(2 ^ 20) < q.t ∧ q.t < 2 ^ 20 ∧ q.h ≤ 50 := by
  obtain ⟨_, _, h1, h2, _, _, h3, h4⟩ := h
  omega
theorem RcB.top' {q : Rc} (h : RcB q) : -(2 ^ 20) < q.t ∧ q.t < 2 ^ 20 ∧ q.h ≤ 10 := by
  obtain ⟨_, _, h1, h2, _, _, h3, h4⟩ := h
  omega
section
variable {X : Xd} (WO : XOk X)
include WO
/-- the loop that asks of_rectangle's refusals -/
theorem law_2 {Γ : Ctx} (LA : LawAt X Γ) {m₀ : Loc} {a lr : Addr} {x : Asn} {vr : List Value} {qs : List Rc} {z : Heap} (hlr : LZ z lr vr) (hqs : Quads z vr qs) (hqb : ∀ q ∈ qs, RcB q) (hql : qs.length ≤ 4)
    (h : ∀ (m : Loc) (v : Option Value) (z' : Heap), z.StaysIn z' → Sat (TW X) Γ (execs (lawBody.drop 4) (lawEnv Γ.L)) (LawEnd X) ⟨m, (a, x) :: lawCells Γ.L (some (.ref lr)) none none v (some (.ref a)), z'⟩) :
    Sat (TW X) Γ (execs (lawBody.drop 3) (lawEnv Γ.L)) (LawEnd X) ⟨m₀, (a, x) :: lawCells Γ.L (some (.ref lr)) none none none (some (.ref a)), z⟩ := by
  have R := LA.R
  have hbm := LA.hbm
  refine execs_cons' ?_
  refine for_any (fun i m mu z' => ∃ v, mu = (a, x) :: lawCells Γ.L (some (.ref lr)) none none v (some (.ref a))) LA.hEB ?_ (by intro _; rfl)
  repeat tb_rel
  refine iter_list hlr.isList fun it => ⟨it, _, _, LI lr, _, rfl, rfl, drw_list R.handled hlr.isList, ⟨_, rfl⟩, ?_, ?_⟩
  · rintro i v m mu z1 hi hv hz1 ⟨v0, rfl⟩
    obtain ⟨q, hq, hqz⟩ := (hqs.mono hz1).get hv
    have hqm : q ∈ qs := List.mem_of_getElem? hq
    have hb := hqb q hqm
    obtain ⟨T, t1, t2, t3, t4, rfl, hT⟩ := id hqz
    repeat tb_rel
    refine store_c (pre := [_, _, _, _, _]) (by rfl) ?_
    repeat tb_rel
    refine e_lam (P := 302) (cc := 304) (qual := lamQ "law") WO (by rfl) (List.Mem.tail _ (List.Mem.tail _ (List.Mem.tail _ (List.Mem.head _)))) (List.Mem.head _) (by rfl) (uniq302 X) (by rfl) (by rfl) (by rfl) fun g z2 hz2 hL => ?_
    repeat tb_rel
    refine Sat.weak (σ' := ⟨m, [(Γ.L + 2, .cell (some (.ref T)))] ++ [(it, .raw (LI lr (i + 1))), (a, x), (Γ.L + 5, .cell (some (.ref lr))), (Γ.L + 4, .cell none), (Γ.L + 3, .cell none), (Γ.L + 1, .cell (some (.ref a)))], z2⟩) ?_ (fun s c => Coh.front (pre := [_, _, _, _, _]) c)
    have hT2 := IsTup.keeps hT hz2
    refine use_specT (l := []) (told_lam (n := 9) (Post := fun r _ => q.ok ∧ ∃ y, r = Value.ref y) (Err := ¬ q.ok) WO law_frame (slots_fr (slots_cell nil_slots)) hL (fun _ _ _ => by rfl) (by decide) (fun _ _ _ _ h => h) (fun Γ' c' l' fr hl' hns' R' hz' hb' hA' hE' => ?_)) (R.less (by decide)) LA.hA (fun r z3 hz3 h => ?_)
    · repeat tb_rel
      refine t_get (j := 0) hT2 (by decide) (by rfl) (by rfl) ?_
      repeat tb_rel
      refine t_get (j := 1) hT2 (by decide) (by rfl) (by rfl) ?_
      repeat tb_rel
      refine t_get (j := 2) hT2 (by decide) (by rfl) (by rfl) ?_
      repeat tb_rel
      refine t_get (j := 3) hT2 (by decide) (by rfl) (by rfl) ?_
      repeat tb_rel
      refine Sat.weak (σ' := ⟨[], (fr :: (Γ.L, .raw (NsO (mget m))) :: [(Γ.L + 2, .cell (some (.ref T)))]) ++ [], z2⟩) ?_ (fun s c => by rw [List.append_nil]; exact c)
      refine use_specE (rect_spec WO (hl'.push rfl kfun) (slots_fr hns') hb.top) (R'.less (by decide)) hA' (fun r z' hz' h => ?_) (fun e s₂ h' tk' he c fy => hE' e s₂ h' tk' _ _ _ (fun o => by have := o.1; have := o.2; omega) c (List.sublist_append_left _ _) fy)
      obtain ⟨y, rs, h1, h2, rfl, _⟩ := h
      exact ⟨[], List.sublist_append_left _ _, fun z' _ _ => ⟨⟨h1, h2⟩, y, rfl⟩⟩
    · have hr : (r == Value.none) = !decide q.ok := by
        rcases h with ⟨h1, y, rfl⟩ | ⟨h1, rfl⟩
        · rw [decide_eq_true h1]; rfl
        · rw [decide_eq_false h1]; rfl
      repeat tb_rel
      refine use_spec0 (islet_spec WO (hqz.mono (zt hz2 hz3))).spec (R.less (by decide)) (fun r' _ z4 hz4 h' => ?_)
      subst h'
      repeat tb_rel
      rw [hr, show ((!decide q.ok) == decide q.ok) = false by cases decide q.ok <;> rfl]
      refine PyProof.Rows.ite_ff ?_
      refine Sat.weak (σ' := ⟨m, (it, .raw (LI lr (i + 1))) :: (a, x) :: lawCells Γ.L (some (.ref lr)) none none (some (.ref T)) (some (.ref a)), z4⟩) ?_ (fun s c => Coh.sink (pre := [_, _, _, _, _]) c)
      repeat tb_rel
      exact ⟨_, List.Sublist.refl _, zt hz1 (zt hz2 (zt hz3 hz4)), _, rfl⟩
  · rintro m mu z1 hz1 ⟨v0, rfl⟩
    exact nx_next (h m v0 z1 hz1)
/-- the region, or none -/
theorem law_3 {Γ : Ctx} (LA : LawAt X Γ) {m : Loc} {a lr : Addr} {x : Asn} {v : Option Value} {vr : List Value} {qs : List Rc} {z : Heap} (hlr : LZ z lr vr) (hqs : Quads z vr qs) (hqb : ∀ q ∈ qs, RcB q) (hql : qs.length ≤ 4)
    (h : ∀ (r : Value) (z' : Heap), z.StaysIn z' → (((∀ q ∈ qs, q.ok) ∧ ∃ xr rs, r = .ref xr ∧ RegOf X z' xr rs qs 4) ∨ ((∃ q ∈ qs, ¬ q.ok) ∧ r = .none)) → Sat (TW X) Γ (execs (lawBody.drop 5) (lawEnv Γ.L)) (LawEnd X) ⟨m, (a, x) :: lawCells Γ.L (some (.ref lr)) (some r) none v (some (.ref a)), z'⟩) :
    Sat (TW X) Γ (execs (lawBody.drop 4) (lawEnv Γ.L)) (LawEnd X) ⟨m, (a, x) :: lawCells Γ.L (some (.ref lr)) none none v (some (.ref a)), z⟩ := by
  have R := LA.R
  have hbm := LA.hbm
  refine execs_cons' (exec_Asg ?_ (by rfl))
  repeat tb_rel
  refine e_lam (P := 302) (cc := 304) (qual := lamQ "law") WO (by rfl) (List.Mem.tail _ (List.Mem.tail _ (List.Mem.tail _ (List.Mem.head _)))) (List.Mem.tail _ (List.Mem.head _)) (by rfl) (uniq302 X) (by rfl) (by rfl) (by rfl) fun g z2 hz2 hL => ?_
  repeat tb_rel
  refine Sat.weak (σ' := ⟨m, [(Γ.L + 5, .cell (some (.ref lr)))] ++ [(a, x), (Γ.L + 4, .cell none), (Γ.L + 3, .cell none), (Γ.L + 2, .cell v), (Γ.L + 1, .cell (some (.ref a)))], z2⟩) ?_ (fun s c => Coh.front (pre := [_]) c)
  refine use_specT (l := []) (told_lam (n := 9) (Post := fun r z' => (∀ q ∈ qs, q.ok) ∧ ∃ xr rs, r = Value.ref xr ∧ RegOf X z' xr rs qs 4) (Err := ∃ q ∈ qs, ¬ q.ok) WO law_frame (slots_fr (slots_cell nil_slots)) hL (fun _ _ _ => by rfl) (by decide) (fun r z1 z2 hz h => ⟨h.1, let ⟨xr, rs, e, h2⟩ := h.2; ⟨xr, rs, e, h2.mono hz⟩⟩) (fun Γ' c' l' fr hl' hns' R' hz' hb' hA' hE' => ?_)) (R.less (by decide)) LA.hA (fun r z3 hz3 h' => ?_)
  · repeat tb_rel
    refine Sat.weak (σ' := ⟨[], (fr :: (Γ.L, .raw (NsO (mget m))) :: [(Γ.L + 5, .cell (some (.ref lr)))]) ++ [], z2⟩) ?_ (fun s c => by rw [List.append_nil]; exact c)
    refine use_specE (rects_spec WO (hl'.push rfl kfun) (slots_fr hns') (hlr.mono hz2) (hqs.mono hz2) hql (fun q hq => (hqb q hq).top')) (R'.less (by decide)) hA' (fun r z' hz' h => ?_) (fun e s₂ h' tk' he c fy => hE' e s₂ h' tk' _ _ _ he c (List.sublist_append_left _ _) fy)
    obtain ⟨xr, rs, h0, rfl, h1, h2, h3, h4, h5⟩ := h
    exact ⟨[], List.sublist_append_left _ _, fun z'' hz'' _ => ⟨h0, xr, rs, rfl, ⟨h1.mono hz'', h2, h3, h4, h5⟩⟩⟩
  · refine store_c (pre := [_, _]) (by rfl) ?_
    refine nx_next (Sat.weak (h r z3 (zt hz2 hz3) h') (fun s c => Coh.sink (pre := [_]) c))
end
theorem Sat.sub_if {W : Wd} {Γ : Ctx} {α : Type} {b : Bool} {t1 t2 : Sem α} {k : α → St → Prop} {m : Loc} {mu mu' : Mu} {z : Heap} (hs : mu'.Sublist mu) (h : if b = true then Sat W Γ t1 k ⟨m, mu', z⟩ else Sat W Γ t2 k ⟨m, mu', z⟩) : if b = true then Sat W Γ t1 k ⟨m, mu, z⟩ else Sat W Γ t2 k ⟨m, mu, z⟩ := by
  cases b
  · exact Sat.sub h hs
  · exact Sat.sub h hs
section
variable {X : Xd} (WO : XOk X)
include WO
theorem law_4 {Γ : Ctx} (LA : LawAt X Γ) {m : Loc} {a lr : Addr} {x : Asn} {v : Option Value} {vr : List Value} {qs : List Rc} {r : Value} {z : Heap} (hlr : LZ z lr vr) (hqs : Quads z vr qs) (hqb : ∀ q ∈ qs, RcB q) (hql : qs.length ≤ 4)
    (hr : ((∀ q ∈ qs, q.ok) ∧ ∃ xr rs, r = .ref xr ∧ RegOf X z xr rs qs 4) ∨ ((∃ q ∈ qs, ¬ q.ok) ∧ r = .none))
    (h : ∀ (lr' xr : Addr) (vr' : List Value) (qs' : List Rc) (rs : RowsM) (z' : Heap), z.StaysIn z' → LZ z' lr' vr' → Quads z' vr' qs' → (∀ q ∈ qs', RcB q ∧ q.ok) → qs'.length ≤ 4 → RegOf X z' xr rs qs' 4 →
      Sat (TW X) Γ (execs (lawBody.drop 6) (lawEnv Γ.L)) (LawEnd X) ⟨m, (a, x) :: lawCells Γ.L (some (.ref lr')) (some (.ref xr)) none v (some (.ref a)), z'⟩) :
    Sat (TW X) Γ (execs (lawBody.drop 5) (lawEnv Γ.L)) (LawEnd X) ⟨m, (a, x) :: lawCells Γ.L (some (.ref lr)) (some r) none v (some (.ref a)), z⟩ := by
  have R := LA.R
  have hbm := LA.hbm
  have lq := hqs.length
  refine execs_cons' (exec_If' (t_cmp ?_ (by with_unfolding_all rfl)))
  refine e_comp (fun i ws mu z' => mu = (a, x) :: lawCells Γ.L (some (.ref lr)) (some r) none v (some (.ref a)) ∧ Quads z' ws ((qs.take i).filter fun q => !decide q.ok)) ?_ (by rfl) (by decide) (by rfl) (by decide) (by intro _; rfl)
  repeat tb_rel
  refine iter_list hlr.isList fun it => ⟨it, _, _, LI lr, _, ⟨rfl, rfl, drw_list R.handled hlr.isList, by omega, ⟨rfl, .nil⟩, ?_⟩, ?_⟩
  · rintro Γ' D i y ws m' mu z4 hA' hz0 hb' hE' hi hv hz4 ⟨rfl, hw⟩
    have R' : Room 12 Γ'.A := hA' ▸ R
    obtain ⟨q, hq, hqz⟩ := (hqs.mono hz4).get hv
    obtain ⟨T, t1, t2, t3, t4, rfl, hT⟩ := id hqz
    repeat tb_rel
    refine tests_one (t_not (t_plain ?_ (by rfl)))
    repeat tb_rel
    refine use_spec0 (islet_spec WO hqz).spec (R'.less (by decide)) (fun r' _ z5 hz5 h' => ?_)
    subst h'
    repeat tb_rel
    refine PyProof.Rows.split_bool (fun ho => ?_) (fun ho => ?_)
    · repeat tb_rel
      refine ⟨_, List.Sublist.refl _, zt hz4 hz5, rfl, ?_⟩
      rw [PySem.take_succ_filter _ _ _ _ hq, if_pos ho]
      exact (hw.mono hz5).snoc (hqz.mono hz5)
    · refine ⟨_, List.Sublist.refl _, zt hz4 hz5, rfl, ?_⟩
      rw [PySem.take_succ_filter _ _ _ _ hq, if_neg (by rw [ho]; decide), List.append_nil]
      exact hw.mono hz5
  · rintro D ws mu z4 hz4 ⟨rfl, hw⟩
    rw [lq, List.take_length] at hw
    have lw := hw.length
    repeat tb_rel
    refine new_list fun e0 => ?_
    refine l_ne_nil (vs := ws) (R.less (by decide)) (.inl (by nest_cls)) (.inl (.head _)) ?_
    repeat tb_rel
    have hnil : ws = [] ↔ ∀ q ∈ qs, q.ok := by
      rw [← List.length_eq_zero_iff, lw, List.length_eq_zero_iff, List.filter_eq_nil_iff]
      exact forall_congr' fun q => forall_congr' fun _ => by simp
    refine Sat.sub_if (mu' := (a, x) :: lawCells Γ.L (some (.ref lr)) (some r) none v (some (.ref a))) (List.Sublist.cons _ (List.Sublist.cons _ (List.Sublist.refl _))) ?_
    rcases hr with ⟨hok, xr, rs, rfl, hreg⟩ | ⟨⟨qb, hqbm, hqbo⟩, rfl⟩
    · rw [show (!decide (ws = [])) = false by rw [decide_eq_true (hnil.mpr hok)]; rfl]
      refine PyProof.Rows.ite_ff ?_
      refine execs_nil' (nx_next ?_)
      exact h lr xr vr qs rs z4 hz4 (hlr.mono hz4) (hqs.mono hz4) (fun q hq => ⟨hqb q hq, hok q hq⟩) hql (hreg.mono hz4)
    · rw [show (!decide (ws = [])) = true by rw [decide_eq_false fun e => hqbo (hnil.mp e qb hqbm)]; rfl]
      refine PyProof.Rows.ite_tt ?_
      repeat tb_rel
      refine PyProof.Rows.split_bool (fun h => (by cases h)) (fun _ => ?_)
      refine execs_nil' (nx_next (execs_cons' (exec_Asg ?_ (by rfl))))
      refine e_comp (fun i ws mu z' => mu = (a, x) :: lawCells Γ.L (some (.ref lr)) (some .none) none v (some (.ref a)) ∧ Quads z' ws ((qs.take i).filter fun q => decide q.ok)) ?_ (by rfl) (by decide) (by rfl) (by decide) (by intro _; rfl)
      repeat tb_rel
      have hlr4 := hlr.mono hz4
      refine iter_list hlr4.isList fun it => ⟨it, _, _, LI lr, _, ⟨rfl, rfl, drw_list R.handled hlr4.isList, by omega, ⟨rfl, .nil⟩, ?_⟩, ?_⟩
      · rintro Γ' D i y ws m' mu z5 hA' hz0 hb' hE' hi hv hz5 ⟨rfl, hw⟩
        have R' : Room 12 Γ'.A := hA' ▸ R
        obtain ⟨q, hq, hqz⟩ := (hqs.mono (zt hz4 hz5)).get hv
        obtain ⟨T, t1, t2, t3, t4, rfl, hT⟩ := id hqz
        repeat tb_rel
        refine tests_one (t_plain ?_ (by rfl))
        repeat tb_rel
        refine use_spec0 (islet_spec WO hqz).spec (R'.less (by decide)) (fun r' _ z6 hz6 h' => ?_)
        subst h'
        repeat tb_rel
        refine PyProof.Rows.split_bool (fun ho => ?_) (fun ho => ?_)
        · repeat tb_rel
          refine ⟨_, List.Sublist.refl _, zt hz5 hz6, rfl, ?_⟩
          rw [PySem.take_succ_filter _ _ _ _ hq, if_pos ho]
          exact (hw.mono hz6).snoc (hqz.mono hz6)
        · refine ⟨_, List.Sublist.refl _, zt hz5 hz6, rfl, ?_⟩
          rw [PySem.take_succ_filter _ _ _ _ hq, if_neg (by rw [ho]; decide), List.append_nil]
          exact hw.mono hz6
      · rintro D2 ws2 mu z5 hz5 ⟨rfl, hw2⟩
        rw [lq, List.take_length] at hw2
        have hfl : (qs.filter fun q => decide q.ok).length ≤ 4 := Nat.le_trans (List.length_filter_le _ _) hql
        have hfm : ∀ q ∈ qs.filter (fun q => decide q.ok), RcB q ∧ q.ok := fun q hq => ⟨hqb q (List.mem_filter.mp hq).1, of_decide_eq_true (List.mem_filter.mp hq).2⟩
        refine store_c (pre := [_, _]) (by rfl) ?_
        refine nx_next ?_
        refine Sat.freeze0 hbm fun z6 hz6 hD => ?_
        have hD' : LZ z6 D2 ws2 := hD
        refine execs_cons' (exec_Asg ?_ (by rfl))
        repeat tb_rel
        refine use_specN' (bm := []) (l := []) (rects_spec WO law_frame (slots_fr nil_slots) hD' (hw2.mono hz6) hfl (fun q hq => (hfm q hq).1.top')) (fun ⟨q, hq, hqo⟩ => hqo (hfm q hq).2) (R.less (by decide)) LA.hA (fun r z7 hz7 h' => ?_)
        obtain ⟨xr, rs, h0, rfl, h1, h2, h3, h4, h5⟩ := h'
        refine store_c (pre := [_, _]) (by rfl) ?_
        refine nx_next (execs_nil' (nx_next ?_))
        exact h D2 xr ws2 _ rs z7 (zt hz4 (zt hz5 (zt hz6 hz7))) (hD'.mono hz7) (hw2.mono (zt hz6 hz7)) hfm hfl ⟨h1, h2, h3, h4, h5⟩
end
/-- a place that some of the rectangles hold -/
noncomputable def inSome (qs : List Rc) (p : Span) : Bool := decide (∃ q ∈ qs, q.has p.1 p.2)
theorem aroundL_len : aroundL.length = 165 := by decide
section
variable {X : Xd} (WO : XOk X)
include WO
theorem law_5 {Γ : Ctx} (LA : LawAt X Γ) {m : Loc} {MU : Mu} {z : Heap}
    (h : ∀ (al : Addr) (av : List Value) (z' : Heap), z.StaysIn z' → LZ z' al av → Pairs z' av aroundL →
      Sat (TW X) Γ (execs (lawBody.drop 7) (lawEnv Γ.L)) (LawEnd X) ⟨(Str.ofString "around", .ref al) :: m, MU, z'⟩) :
    Sat (TW X) Γ (execs (lawBody.drop 6) (lawEnv Γ.L)) (LawEnd X) ⟨m, MU, z⟩ := by
  have R := LA.R
  have hbm := LA.hbm
  refine execs_cons' (asg_compG ?_ (by rfl) (by rfl) (by rfl) (by decide) (by intro _; rfl) (by rfl) (by rfl) (by rfl))
  repeat tb_rel
  refine call_range2 fun rg z1 hz1 hrg => ?_
  refine iter_range hrg (by decide) (by decide) fun it => ⟨fun D vs mu z' => mu = MU ∧ Pairs z' vs aroundL, fun D C => ?_, ?_⟩
  · have DR : Drw (TW X) Γ.A z1 it 11 (fun i v => ∃ t, v = .int (-4 + i) t) (RI (-4) 11) := drw_range R.handled
    refine CSat.weak (σ' := ⟨[], (it, .raw (RI (-4) 11 0)) :: (D, .list []) :: (Γ.L, .raw (NsO (mget m))) :: MU, z1⟩) ?_ (fun s c => Coh.front (pre := [_, _]) c)
    refine cs_start1 (Γ := Γ.at C fun _ _ => False) DR (.head _) ?_
    refine cs_outer (Γ := Γ.at C fun _ _ => False) (fun i vs mu z' => mu = (Γ.L, .raw (NsO (mget m))) :: MU ∧ vs.length ≤ 15 * i ∧ Pairs z' vs ((List.range i).flatMap aroundRow)) (fun _ _ h => h) (by intro _; rfl) DR ⟨rfl, Nat.le_refl _, .nil⟩ ?_ ?_
    · rintro i v vs m' mu z2 hi ⟨t, rfl⟩ hz2 ⟨rfl, hvl, hp⟩
      repeat tb_rel
      refine call_range2 fun rg2 z3 hz3 hrg2 => ?_
      refine iter_range hrg2 (by decide) (by decide) fun it2 => ?_
      have DR2 : Drw (TW X) Γ.A z3 it2 15 (fun i v => ∃ t, v = .int (-5 + i) t) (RI (-5) 15) := drw_range R.handled
      refine CSat.weak (σ' := ⟨_, (it2, .raw (RI (-5) 15 0)) :: (D, .list vs) :: (it, .raw (RI (-4) 11 (i + 1))) :: (Γ.L, .raw (NsO (mget m))) :: MU, z3⟩) ?_ (fun s c => Coh.swap12 c)
      refine cs_start2 (Γ := Γ.at C fun _ _ => False) DR2 (.head _) ?_
      refine cs_inner (Γ := Γ.at C fun _ _ => False) (fun j m' ws mu z' => (∃ t, mget m' (Str.ofString "y") = some (.int (-4 + i) t)) ∧ mu = (it, .raw (RI (-4) 11 (i + 1))) :: (Γ.L, .raw (NsO (mget m))) :: MU ∧ ws.length ≤ 900000 ∧ j ≤ 15 ∧ ws.length ≤ 15 * i + j ∧ Pairs z' ws ((List.range i).flatMap aroundRow ++ (aroundRow i).take j)) (fun _ _ h => h) (turn_2 _ _ _ _ _ _ _ _ _ _ _ _) DR2 ⟨⟨_, rfl⟩, rfl, by omega, by omega, by omega, by rw [List.take_zero, List.append_nil]; exact hp.mono hz3⟩ (fun _ _ _ _ _ h => h.2.2.1) ?_ ?_
      · rintro j v ws m' mu z4 hj ⟨t2, rfl⟩ hz4 ⟨⟨ty, ey⟩, rfl, _, _, hwl, hpw⟩
        repeat tb_rel
        refine tests_nil ?_
        rw [if_pos rfl]
        repeat tb_rel
        refine new_tup fun T z5 hz5 hT => ?_
        refine ⟨_, List.Sublist.refl _, zt hz4 hz5, ⟨ty, ey⟩, rfl, by simp; omega, by omega, by simp; omega, ?_⟩
        rw [List.take_add_one, aroundRow_get hj, ← List.append_assoc]
        exact (hpw.mono hz5).snoc ⟨T, _, _, rfl, hT⟩
      · rintro ws m' mu z4 hz4 ⟨_, rfl, _, _, hwl, hpw⟩
        refine ⟨ws, _, fun s c => Coh.swap c, zt hz2 (zt hz3 hz4), rfl, by omega, ?_⟩
        rw [List.range_succ, List.flatMap_append, List.flatMap_cons, List.flatMap_nil, List.append_nil]
        rw [show (aroundRow i).take 15 = aroundRow i from List.take_of_length_le (by rw [aroundRow_len]; exact Nat.le_refl _)] at hpw
        exact hpw
    · rintro vs m' mu z2 hz2 ⟨rfl, hvl, hp⟩
      exact ⟨vs, _, List.Sublist.refl _, hz2, rfl, hp⟩
  · rintro D vs mu z2 hz2 ⟨rfl, hp⟩
    refine nx_next ?_
    refine Sat.freeze0 hbm fun z3 hz3 hD => ?_
    exact h D vs z3 (zt hz1 (zt hz2 hz3)) hD (hp.mono hz3)

theorem law_6 {Γ : Ctx} (LA : LawAt X Γ) {m : Loc} {a lr al : Addr} {x : Asn} {rg ct rw : Option Value} {vr av : List Value} {qs : List Rc} {z : Heap} (hlr : LZ z lr vr) (hqs : Quads z vr qs) (hql : qs.length ≤ 4) (hal : LZ z al av) (hap : Pairs z av aroundL)
    (h : ∀ (pl : Addr) (pv : List Value) (z' : Heap), z.StaysIn z' → LZ z' pl pv → Pairs z' pv (aroundL.filter (inSome qs)) →
      Sat (TW X) Γ (execs (lawBody.drop 8) (lawEnv Γ.L)) (LawEnd X) ⟨(Str.ofString "places", .ref pl) :: (Str.ofString "around", .ref al) :: m, (a, x) :: lawCells Γ.L (some (.ref lr)) rg ct rw (some (.ref a)), z'⟩) :
    Sat (TW X) Γ (execs (lawBody.drop 7) (lawEnv Γ.L)) (LawEnd X) ⟨(Str.ofString "around", .ref al) :: m, (a, x) :: lawCells Γ.L (some (.ref lr)) rg ct rw (some (.ref a)), z⟩ := by
  have R := LA.R
  have hbm := LA.hbm
  have lav := hap.length
  have lq := hqs.length
  generalize hMU : (a, x) :: lawCells Γ.L (some (.ref lr)) rg ct rw (some (.ref a)) = MU at *
  have hrm : (Γ.L + 5, Asn.cell (some (.ref lr))) ∈ MU := by rw [← hMU]; exact .tail _ (.head _)
  refine execs_cons' (asg_compG (cl := [(Str.ofString "rows", Γ.L + 5)]) ?_ (by rfl) (by rfl) (by rfl) (by decide) (by intro _; rfl) (by rfl) (by rfl) (by rfl))
  repeat tb_rel
  refine iter_list hal.isList fun it => ⟨fun D vs mu z' => mu = MU ∧ Pairs z' vs (aroundL.filter (inSome qs)), fun D C => ?_, ?_⟩
  · have DR : Drw (TW X) Γ.A z it av.length (fun i v => av[i]? = some v) (LI al) := drw_list R.handled hal.isList
    refine CSat.weak (σ' := ⟨[], (it, .raw (LI al 0)) :: (D, .list []) :: (Γ.L, .raw (NsO (mget ((Str.ofString "around", .ref al) :: m)))) :: (C + 2, .cell none) :: (C + 1, .cell none) :: MU, z⟩) ?_ (fun s c => Coh.front (pre := [_, _, _, _]) c)
    refine cs_start1 (Γ := Γ.at C fun _ _ => False) DR (.head _) ?_
    refine cs_inner (Γ := Γ.at C fun _ _ => False) (fun i m' ws mu z' => ∃ vx vy, mu = (Γ.L, .raw (NsO (mget ((Str.ofString "around", .ref al) :: m)))) :: (C + 2, .cell vy) :: (C + 1, .cell vx) :: MU ∧ ws.length ≤ i ∧ i ≤ 165 ∧ Pairs z' ws ((aroundL.take i).filter (inSome qs))) (fun _ _ h => h) (turn_1 _ _ _ _ _ _ _ _ _) DR ⟨none, none, rfl, by simp, by omega, .nil⟩ (fun _ _ _ _ _ ⟨_, _, _, h1, h2, _⟩ => by omega) ?_ ?_
    · rintro i v ws m' mu z1 hi hv hz1 ⟨vx, vy, rfl, hwl, hi2, hpw⟩
      have hi3 : i < 165 := by rw [aroundL_len] at lav; omega
      obtain ⟨p, hp, T, t1, t2, rfl, hT⟩ := (hap.mono hz1).get hv
      have R' : Room 1 (Γ.at C fun _ _ => False).A := R.less (by decide)
      refine un_pair R' hT ?_
      refine store_c (pre := [_, _, _, _]) (by rfl) ?_
      refine store_c (pre := [_, _, _]) (by rfl) ?_
      refine tests_one (t_cmp ?_ (by with_unfolding_all rfl))
      refine e_comp (fun i2 ws2 mu2 z' => mu2 = (it, .raw (LI al (i + 1))) :: (D, .list ws) :: (Γ.L, .raw (NsO (mget ((Str.ofString "around", .ref al) :: m)))) :: (C + 2, .cell (some (.int p.2 t2))) :: (C + 1, .cell (some (.int p.1 t1))) :: MU ∧ Quads z' ws2 ((qs.take i2).filter fun q => decide (q.has p.1 p.2))) ?_ (by rfl) (by decide) (by rfl) (by decide) (by intro _; rfl)
      repeat tb_rel
      have hlr1 := hlr.mono hz1
      refine iter_list hlr1.isList fun it2 => ⟨it2, _, _, LI lr, _, ⟨rfl, rfl, drw_list R.handled hlr1.isList, by omega, ⟨rfl, .nil⟩, ?_⟩, ?_⟩
      · rintro Γ' D2 i2 v2 ws2 m2 mu2 z2 hA' hz0 hb' hE' hi2' hv2 hz2 ⟨rfl, hw2⟩
        have R2 : Room 12 Γ'.A := hA' ▸ R
        obtain ⟨q, hq, hqz⟩ := (hqs.mono (zt hz1 hz2)).get hv2
        obtain ⟨T2, u1, u2, u3, u4, rfl, hT2⟩ := id hqz
        repeat tb_rel
        refine tests_one (t_plain ?_ (by rfl))
        repeat tb_rel
        refine use_spec0 (lies_spec WO hqz).spec (R2.less (by decide)) (fun r' _ z3 hz3 h' => ?_)
        subst h'
        repeat tb_rel
        refine PyProof.Rows.split_bool (fun ho => ?_) (fun ho => ?_)
        · repeat tb_rel
          refine ⟨_, List.Sublist.refl _, zt hz2 hz3, rfl, ?_⟩
          rw [PySem.take_succ_filter _ _ _ _ hq, if_pos ho]
          exact (hw2.mono hz3).snoc (hqz.mono hz3)
        · refine ⟨_, List.Sublist.refl _, zt hz2 hz3, rfl, ?_⟩
          rw [PySem.take_succ_filter _ _ _ _ hq, if_neg (by rw [ho]; decide), List.append_nil]
          exact hw2.mono hz3
      · rintro D2 ws2 mu2 z2 hz2 ⟨rfl, hw2⟩
        rw [lq, List.take_length] at hw2
        have lw := hw2.length
        repeat tb_rel
        refine new_list fun e0 => ?_
        refine l_ne_nil (vs := ws2) (R.less (by decide)) (.inl (by nest_cls)) (.inl (.head _)) ?_
        repeat tb_rel
        have hP : (!decide (ws2 = [])) = inSome qs p := by
          have : ws2 = [] ↔ ¬ ∃ q ∈ qs, q.has p.1 p.2 := by
            rw [← List.length_eq_zero_iff, lw, List.length_eq_zero_iff, List.filter_eq_nil_iff]
            simp
          unfold inSome
          by_cases hx : ∃ q ∈ qs, q.has p.1 p.2
          · rw [decide_eq_true hx, decide_eq_false fun e => this.mp e hx]; rfl
          · rw [decide_eq_false hx, decide_eq_true (this.mpr hx)]; rfl
        rw [hP]
        refine PyProof.Rows.split_bool (fun ho => ?_) (fun ho => ?_)
        · repeat tb_rel
          refine new_tup fun T' z3 hz3 hT' => ?_
          refine ⟨_, List.Sublist.cons _ (List.Sublist.cons _ (List.Sublist.refl _)), zt hz1 (zt hz2 hz3), _, _, rfl, by simp; omega, by omega, ?_⟩
          rw [PySem.take_succ_filter _ _ _ _ hp, if_pos ho]
          exact (hpw.mono (zt hz2 hz3)).snoc ⟨T', _, _, rfl, hT'⟩
        · refine ⟨_, List.Sublist.cons _ (List.Sublist.cons _ (List.Sublist.refl _)), zt hz1 hz2, _, _, rfl, by omega, by omega, ?_⟩
          rw [PySem.take_succ_filter _ _ _ _ hp, if_neg (by rw [ho]; decide), List.append_nil]
          exact hpw.mono hz2
    · rintro ws m' mu z1 hz1 ⟨vx, vy, rfl, hwl, hi2, hpw⟩
      rw [lav, List.take_length] at hpw
      exact ⟨ws, MU, List.Sublist.cons_cons _ (List.Sublist.cons_cons _ (List.Sublist.cons _ (List.Sublist.cons _ (List.Sublist.refl _)))), hz1, rfl, hpw⟩
  · rintro D vs mu z2 hz2 ⟨rfl, hp⟩
    refine nx_next ?_
    refine Sat.freeze0 hbm fun z3 hz3 hD => ?_
    exact h D vs z3 (zt hz2 hz3) hD (hp.mono hz3)
end
theorem RcB.bounds {q : Rc} (h : RcB q) {x y : Int} (hq : q.has x y) : (-5 ≤ x ∧ x < 10) ∧ (-4 ≤ y ∧ y < 7) := by
  obtain ⟨h1, h2, h3, h4, h5, h6, h7, h8⟩ := h
  obtain ⟨g1, g2, g3, g4⟩ := hq
  omega
theorem inSome_iff {qs : List Rc} {x y : Int} : inSome qs (x, y) = true ↔ ∃ q ∈ qs, q.has x y := by
  unfold inSome
  exact decide_eq_true_iff
theorem agree_of {rs : RowsM} {P : Span → Bool} (hm : ∀ y x, Mem (rowAt rs y) x ↔ P (x, y) = true) : ∀ p ∈ aroundL, decide (Mem (rowAt rs p.2) p.1) = decide (p ∈ aroundL.filter P) := fun p hp => by
  rw [Bool.eq_iff_iff, decide_eq_true_eq, decide_eq_true_eq, List.mem_filter]
  exact (hm p.2 p.1).trans ⟨fun h => ⟨hp, h⟩, fun h => h.2⟩
theorem filter_small (P : Span → Bool) : (aroundL.filter P).length ≤ 1000 := by
  have := List.length_filter_le P aroundL
  rw [aroundL_len] at this
  omega
/-- where the union of the law stands -/
noncomputable abbrev UniJ (X : Xd) (L lr pl a : Addr) (x : Asn) (rg ct : Option Value) (qs : List Rc) (i : Nat) (m : Loc) (mu : List (Addr × Asn)) (z' : Heap) : Prop := ∃ o rw rs, mget m (Str.ofString "other") = some (.ref o) ∧ mget m (Str.ofString "places") = some (.ref pl) ∧ mu = (a, x) :: lawCells L (some (.ref lr)) rg ct rw (some (.ref a)) ∧ IsRegion X z' o rs ∧ RegOk rs ∧ rs.length ≤ 3 * i ∧ (∀ y, (rowAt rs y).length ≤ i) ∧ ∀ y w, Mem (rowAt rs y) w ↔ ∃ q ∈ qs.take i, q.has w y
section
variable {X : Xd} (WO : XOk X)
include WO
theorem law_7 {Γ : Ctx} (LA : LawAt X Γ) {m : Loc} {xr pl : Addr} {pv : List Value} {MU : Mu} {qs : List Rc} {rs : RowsM} {B : Nat} {z : Heap} (hB : B ≤ 1000) (hrm : (Γ.L + 4, Asn.cell (some (.ref xr))) ∈ MU) (hreg : RegOf X z xr rs qs B) (hqb : ∀ q ∈ qs, RcB q) (epl : mget m (Str.ofString "places") = some (.ref pl)) (hpl : LZ z pl pv) (hpv : Pairs z pv (aroundL.filter (inSome qs)))
    (h : ∀ z', z.StaysIn z' → Sat (TW X) Γ (execs (lawBody.drop 9) (lawEnv Γ.L)) (LawEnd X) ⟨m, MU, z'⟩) :
    Sat (TW X) Γ (execs (lawBody.drop 8) (lawEnv Γ.L)) (LawEnd X) ⟨m, MU, z⟩ := by
  have R := LA.R
  have hbm := LA.hbm
  have hm : ∀ y x, Mem (rowAt rs y) x ↔ inSome qs (x, y) = true := fun y x => (hreg.mem y x).trans inSome_iff.symm
  refine execs_cons' (exec_If' ?_)
  repeat tb_rel
  refine PyProof.Rows.split_bool (fun h => (by cases h)) (fun _ => ?_)
  repeat tb_rel
  refine use_spec0 (has_spec WO hreg.reg hreg.ok hpl hpv (by have := hreg.len; omega) (fun y => Nat.le_trans (hreg.row y) hB) (filter_small _) (agree_of hm) (area_law hreg.ok hm fun x y hx => by
    obtain ⟨q, hq, hh⟩ := inSome_iff.mp hx
    exact (hqb q hq).bounds hh)).spec (R.less (by decide)) (fun r' _ z1 hz1 h' => ?_)
  subst h'
  repeat tb_rel
  refine PyProof.Rows.ite_ff ?_
  refine execs_nil' (nx_next ?_)
  exact h z1 hz1
theorem law_8 {Γ : Ctx} (LA : LawAt X Γ) {m : Loc} {MU : Mu} {z : Heap}
    (h : ∀ o z', z.StaysIn z' → IsRegion X z' o [] → Sat (TW X) Γ (execs (lawBody.drop 10) (lawEnv Γ.L)) (LawEnd X) ⟨(Str.ofString "other", .ref o) :: m, MU, z'⟩) :
    Sat (TW X) Γ (execs (lawBody.drop 9) (lawEnv Γ.L)) (LawEnd X) ⟨m, MU, z⟩ := by
  have R := LA.R
  have hbm := LA.hbm
  refine execs_cons' (exec_Asg ?_ (by rfl))
  repeat tb_rel
  refine d_new WO fun d => ?_
  repeat tb_rel
  refine Sat.freeze0 hbm fun z1 hz1 hd => ?_
  refine use_spec1 (region_make WO (rs := []) hd .nil List.nodup_nil (by simp) (fun _ h => nomatch h) (fun _ h => nomatch h)).spec (R.less (by decide)) (fun r _ nw z5 hz5 h' => ?_)
  obtain ⟨x, dz, fs, rfl, rfl, d', kvs', zs, rfl, q1, q2, q3, q4⟩ := h'
  rw [kept_nil] at q2
  refine store_l ?_ (by rfl) (by rfl) (by rfl)
  refine nx_next ?_
  refine Sat.freeze0 hbm fun z6 hz6 hx => ?_
  exact h x z6 (zt hz1 (zt hz5 hz6)) ⟨dz, d', kvs', hx, q1.mono hz6, q2.mono hz6⟩
theorem law_9 {Γ : Ctx} (LA : LawAt X Γ) {m₀ : Loc} {a lr o₀ pl : Addr} {x : Asn} {rg ct rw : Option Value} {vr : List Value} {qs : List Rc} {z : Heap} (hlr : LZ z lr vr) (hqs : Quads z vr qs) (hqb : ∀ q ∈ qs, RcB q ∧ q.ok) (hql : qs.length ≤ 4)
    (eo : mget m₀ (Str.ofString "other") = some (.ref o₀)) (ep : mget m₀ (Str.ofString "places") = some (.ref pl)) (ho : IsRegion X z o₀ [])
    (h : ∀ (m : Loc) (rw : Option Value) o rs z', z.StaysIn z' → mget m (Str.ofString "other") = some (.ref o) → mget m (Str.ofString "places") = some (.ref pl) → IsRegion X z' o rs → RegOk rs → (∀ y w, Mem (rowAt rs y) w ↔ ∃ q ∈ qs, q.has w y) →
      Sat (TW X) Γ (execs (lawBody.drop 11) (lawEnv Γ.L)) (LawEnd X) ⟨m, (a, x) :: lawCells Γ.L (some (.ref lr)) rg ct rw (some (.ref a)), z'⟩) :
    Sat (TW X) Γ (execs (lawBody.drop 10) (lawEnv Γ.L)) (LawEnd X) ⟨m₀, (a, x) :: lawCells Γ.L (some (.ref lr)) rg ct rw (some (.ref a)), z⟩ := by
  have R := LA.R
  have hbm := LA.hbm
  have lq := hqs.length
  refine execs_cons' ?_
  refine for_any (UniJ X Γ.L lr pl a x rg ct qs) LA.hEB ?_ (by intro _; rfl)
  repeat tb_rel
  refine iter_list hlr.isList fun it => ⟨it, _, _, LI lr, _, rfl, rfl, drw_list R.handled hlr.isList, ⟨_, _, [], eo, ep, rfl, ho, ⟨List.Pairwise.nil, fun _ h => (nomatch h), fun _ h => (nomatch h)⟩, by simp, fun y => by simp [rowAt_nil], fun y w => by simp [rowAt_nil, mem_nil]⟩, ?_, ?_⟩
  · rintro i v m mu z1 hi hv hz1 ⟨o, rw, rs, e1, e2, rfl, hr, hok, hl, hrow, hmem⟩
    obtain ⟨q, hq, hqz⟩ := (hqs.mono hz1).get hv
    have hqm : q ∈ qs := List.mem_of_getElem? hq
    obtain ⟨hb, hqo⟩ := hqb q hqm
    obtain ⟨T, t1, t2, t3, t4, rfl, hT⟩ := id hqz
    have hi4 : i < 4 := by omega
    repeat tb_rel
    refine store_c (pre := [_, _, _, _, _]) (by rfl) ?_
    repeat tb_rel
    refine t_get (j := 0) hT (by decide) (by rfl) (by rfl) ?_
    repeat tb_rel
    refine t_get (j := 1) hT (by decide) (by rfl) (by rfl) ?_
    repeat tb_rel
    refine t_get (j := 2) hT (by decide) (by rfl) (by rfl) ?_
    repeat tb_rel
    refine t_get (j := 3) hT (by decide) (by rfl) (by rfl) ?_
    repeat tb_rel
    refine use_specN' (bm := []) (l := []) (rect_spec WO law_frame (slots_fr nil_slots) hb.top) (fun he => by have := hqo.1; have := hqo.2; omega) (R.less (by decide)) LA.hA (fun r z2 hz2 h' => ?_)
    obtain ⟨y1, rs1, _, _, rfl, g1, g2, g3, g4, g5, g6⟩ := h'
    repeat tb_rel
    have h3 : rs1.length ≤ 3 := by have := hb.h2; omega
    refine use_spec0 (runion_spec WO g1 (hr.mono hz2) g2 hok (by omega) g4 hrow (by omega)).spec (R.less (by decide)) (fun r' _ z3 hz3 h' => ?_)
    obtain ⟨y2, rs2, rfl, k1, k2, k3, k4, k5⟩ := h'
    repeat tb_rel
    refine ⟨_, List.Sublist.refl _, zt hz1 (zt hz2 hz3), y2, _, rs2, rfl, e2, rfl, k1, k2, by omega, fun y => by have := k4 y; omega, fun y w => ?_⟩
    rw [k5, g6, hmem, List.take_add_one, hq]
    constructor
    · rintro (⟨c1, c2, c3, c4⟩ | ⟨p, hp, hh⟩)
      · exact ⟨q, List.mem_append_right _ (.head _), c3, c4, c1, c2⟩
      · exact ⟨p, List.mem_append_left _ hp, hh⟩
    · rintro ⟨p, hp, hh⟩
      rcases List.mem_append.mp hp with c | c
      · exact .inr ⟨p, c, hh⟩
      · have : p = q := by simpa using c
        subst this
        exact .inl ⟨hh.2.2.1, hh.2.2.2, hh.1, hh.2.1⟩
  · rintro m mu z1 hz1 ⟨o, rw, rs, e1, e2, rfl, hr, hok, hl, hrow, hmem⟩
    rw [lq, List.take_length] at hmem
    exact nx_next (h m rw o rs z1 hz1 e1 e2 hr hok hmem)
end
/-- what is told of the cut -/
structure CutOf (X : Xd) (z : Heap) (xt : Addr) (rt : RowsM) (qs : List Rc) (qc : Rc) : Prop where
  reg : IsRegion X z xt rt
  ok : RegOk rt
  len : rt.length ≤ 40
  row : ∀ y, (rowAt rt y).length ≤ 5
  mem : ∀ y w, Mem (rowAt rt y) w ↔ (inSome qs (w, y) && decide (qc.has w y)) = true
theorem CutOf.mono {X : Xd} {z z' : Heap} {xt : Addr} {rt : RowsM} {qs : List Rc} {qc : Rc} (h : CutOf X z xt rt qs qc) (hz : z.StaysIn z') : CutOf X z' xt rt qs qc := ⟨h.reg.mono hz, h.ok, h.len, h.row, h.mem⟩
section
variable {X : Xd} (WO : XOk X)
include WO
theorem law_10 {Γ : Ctx} (LA : LawAt X Γ) {m : Loc} {xr o : Addr} {MU : Mu} {qs : List Rc} {rs rs2 : RowsM} {B : Nat} {z : Heap} (hrm : (Γ.L + 4, Asn.cell (some (.ref xr))) ∈ MU) (hreg : RegOf X z xr rs qs B) (eo : mget m (Str.ofString "other") = some (.ref o)) (ho : IsRegion X z o rs2) (hok : RegOk rs2)
    (hm : ∀ y w, Mem (rowAt rs2 y) w ↔ ∃ q ∈ qs, q.has w y)
    (h : ∀ z', z.StaysIn z' → Sat (TW X) Γ (execs (lawBody.drop 12) (lawEnv Γ.L)) (LawEnd X) ⟨m, MU, z'⟩) :
    Sat (TW X) Γ (execs (lawBody.drop 11) (lawEnv Γ.L)) (LawEnd X) ⟨m, MU, z⟩ := by
  have R := LA.R
  have e : rs2 = rs := reg_uniq hok hreg.ok fun x y => (hm y x).trans (hreg.mem y x).symm
  subst e
  obtain ⟨dx, d0, kvs0, h1, h2, h3⟩ := id ho
  refine execs_cons' (exec_If' (t_not (t_plain ?_ (by rfl))))
  repeat tb_rel
  refine a_meth WO (.inr h1) (by kernel_rfl) (by rfl) (by kernel_rfl) (by rfl) ?_
  repeat tb_rel
  refine use_spec0 (like_spec WO ho hreg.reg hok.nodup).spec (R.less (by decide)) (fun r' _ z1 hz1 h' => ?_)
  subst h'
  repeat tb_rel
  refine PyProof.Rows.ite_ff ?_
  refine execs_nil' (nx_next ?_)
  exact h z1 hz1
theorem law_11 {Γ : Ctx} (LA : LawAt X Γ) {m : Loc} {a xr : Addr} {x : Asn} {rows rw : Option Value} {qs : List Rc} {rs : RowsM} {z : Heap} (hx : Src x) (hreg : RegOf X z xr rs qs 4)
    (h : ∀ (T : Addr) (qc : Rc) (r : Value) (MU : Mu) z', z.StaysIn z' → (Γ.L + 3, Asn.cell (some (.ref T))) ∈ MU → IsQuad z' (.ref T) qc → RcB qc → ((qc.ok ∧ ∃ xt rt, r = .ref xt ∧ CutOf X z' xt rt qs qc) ∨ (¬ qc.ok ∧ r = .none)) →
      Sat (TW X) Γ (execs (lawBody.drop 14) (lawEnv Γ.L)) (LawEnd X) ⟨(Str.ofString "told", r) :: m, MU, z'⟩) :
    Sat (TW X) Γ (execs (lawBody.drop 12) (lawEnv Γ.L)) (LawEnd X) ⟨m, (a, x) :: lawCells Γ.L rows (some (.ref xr)) none rw (some (.ref a)), z⟩ := by
  have R := LA.R
  have hbm := LA.hbm
  refine execs_cons' (exec_Asg ?_ (by rfl))
  repeat tb_rel
  refine use_spec_in (pre := []) (Q := fun r x' z' => Src x' ∧ ∃ q, IsQuad z' r q ∧ RcB q) (rectangle_spec WO hx).spec (R.less (by decide)) (fun r bm' nw z' h => ?_) (fun r x2 z1 hz1 h' => ?_)
  · obtain ⟨rfl, x', q, rfl, h3, h4⟩ := h
    exact ⟨rfl, x', rfl, h3, q, h4⟩
  obtain ⟨hx2, qc, hqz, hqb⟩ := h'
  obtain ⟨T, t1, t2, t3, t4, rfl, hT⟩ := id hqz
  refine store_c (pre := [_, _, _]) (by rfl) ?_
  refine nx_next (execs_cons' (exec_Asg ?_ (by rfl)))
  repeat tb_rel
  refine e_lam (P := 302) (cc := 304) (qual := lamQ "law") WO (by rfl) (List.Mem.tail _ (List.Mem.tail _ (List.Mem.tail _ (List.Mem.head _)))) (List.Mem.tail _ (List.Mem.tail _ (List.Mem.head _))) (by rfl) (uniq302 X) (by rfl) (by rfl) (by rfl) fun g z2 hz2 hL => ?_
  repeat tb_rel
  refine Sat.weak (σ' := ⟨m, [(Γ.L + 3, .cell (some (.ref T))), (Γ.L + 4, .cell (some (.ref xr)))] ++ [(a, x2), (Γ.L + 5, .cell rows), (Γ.L + 2, .cell rw), (Γ.L + 1, .cell (some (.ref a)))], z2⟩) ?_ (fun s c => Coh.front (pre := [_, _, _]) (Coh.front (pre := [_, _]) c))
  have hT2 := IsTup.keeps hT hz2
  have hreg2 := hreg.mono (zt hz1 hz2)
  refine use_specT (l := []) (told_lam (n := 9) (Post := fun r z' => qc.ok ∧ ∃ xt rt, r = Value.ref xt ∧ CutOf X z' xt rt qs qc) (Err := ¬ qc.ok) WO law_frame (slots_fr (slots_cell (slots_cell nil_slots))) hL (fun _ _ _ => by rfl) (by decide) (fun r z1 z2 hz h => ⟨h.1, let ⟨xt, rt, e, h2⟩ := h.2; ⟨xt, rt, e, h2.mono hz⟩⟩) (fun Γ' c' l' fr hl' hns' R' hz' hb' hA' hE' => ?_)) (R.less (by decide)) LA.hA (fun r z3 hz3 h' => ?_)
  · repeat tb_rel
    refine t_get (j := 0) hT2 (by decide) (by rfl) (by rfl) ?_
    repeat tb_rel
    refine t_get (j := 1) hT2 (by decide) (by rfl) (by rfl) ?_
    repeat tb_rel
    refine t_get (j := 2) hT2 (by decide) (by rfl) (by rfl) ?_
    repeat tb_rel
    refine t_get (j := 3) hT2 (by decide) (by rfl) (by rfl) ?_
    repeat tb_rel
    refine Sat.weak (σ' := ⟨[], (fr :: (Γ.L, .raw (NsO (mget m))) :: [(Γ.L + 3, .cell (some (.ref T))), (Γ.L + 4, .cell (some (.ref xr)))]) ++ [], z2⟩) ?_ (fun s c => by rw [List.append_nil]; exact c)
    refine use_specE (regcut_spec WO (hl'.push rfl kfun) (slots_fr hns') hreg2.reg hreg2.ok (by have := hreg2.len; omega) hreg2.row (by decide)) (R'.less (by decide)) hA' (fun r z' hz' h => ?_) (fun e s₂ h' tk' he c fy => hE' e s₂ h' tk' _ _ _ (fun o => by have := o.1; have := o.2; omega) c (List.sublist_append_left _ _) fy)
    obtain ⟨y, rt, h1, h2, rfl, k1, k2, k3, k4, k5⟩ := h
    refine ⟨[], List.sublist_append_left _ _, fun z'' hz'' _ => ⟨⟨h1, h2⟩, y, rt, rfl, ⟨k1.mono hz'', k2, by have := hreg2.len; omega, k4, fun yy w => ?_⟩⟩⟩
    rw [k5, Bool.and_eq_true, inSome_iff, hreg2.mem, decide_eq_true_eq]
    exact and_congr_right fun _ => ⟨fun ⟨c1, c2, c3, c4⟩ => ⟨c3, c4, c1, c2⟩, fun ⟨c1, c2, c3, c4⟩ => ⟨c3, c4, c1, c2⟩⟩
  · refine store_l ?_ (by rfl) (by rfl) (by rfl)
    refine nx_next ?_
    exact h T qc r _ z3 (zt hz1 (zt hz2 hz3)) (.head _) (hqz.mono (zt hz2 hz3)) hqb h'
theorem law_12 {Γ : Ctx} (LA : LawAt X Γ) {m : Loc} {pl T : Addr} {r : Value} {pv : List Value} {MU : Mu} {qs : List Rc} {qc : Rc} {z : Heap} (hcm : (Γ.L + 3, Asn.cell (some (.ref T))) ∈ MU) (hqz : IsQuad z (.ref T) qc) (hqb : ∀ q ∈ qs, RcB q) (epl : mget m (Str.ofString "places") = some (.ref pl)) (hpl : LZ z pl pv) (hpv : Pairs z pv (aroundL.filter (inSome qs)))
    (hr : (qc.ok ∧ ∃ xt rt, r = .ref xt ∧ CutOf X z xt rt qs qc) ∨ (¬ qc.ok ∧ r = .none)) :
    Sat (TW X) Γ (execs (lawBody.drop 14) (lawEnv Γ.L)) (LawEnd X) ⟨(Str.ofString "told", r) :: m, MU, z⟩ := by
  have R := LA.R
  have hbm := LA.hbm
  refine execs_cons' (exec_If' (t_not (t_plain ?_ (by rfl))))
  repeat tb_rel
  refine use_spec0 (islet_spec WO hqz).spec (R.less (by decide)) (fun r' _ z1 hz1 h' => ?_)
  subst h'
  repeat tb_rel
  rcases hr with ⟨hok, xt, rt, rfl, hc⟩ | ⟨hok, rfl⟩
  · rw [decide_eq_true hok]
    refine PyProof.Rows.ite_ff ?_
    refine execs_nil' (nx_next (execs_cons' (exec_Ret ?_)))
    repeat tb_rel
    refine PyProof.Rows.split_bool (fun _ => ?_) (fun h => (by cases h))
    repeat tb_rel
    have hpl1 := hpl.mono hz1
    have hpv1 := hpv.mono hz1
    have lp := hpv.length
    have hps := filter_small (inSome qs)
    refine e_comp (fun i ws mu z' => mu = MU ∧ Pairs z' ws (((aroundL.filter (inSome qs)).take i).filter fun p => decide (qc.has p.1 p.2))) ?_ (by rfl) (by decide) (by rfl) (by decide) (by intro _; rfl)
    repeat tb_rel
    refine iter_list hpl1.isList fun it => ⟨it, _, _, LI pl, _, ⟨rfl, rfl, drw_list R.handled hpl1.isList, by omega, ⟨rfl, .nil⟩, ?_⟩, ?_⟩
    · rintro Γ' D i v ws m' mu z2 hA' hz0 hb' hE' hi hv hz2 ⟨rfl, hw⟩
      have R' : Room 12 Γ'.A := hA' ▸ R
      obtain ⟨p, hp, Tp, u1, u2, rfl, hTp⟩ := (hpv1.mono hz2).get hv
      repeat tb_rel
      refine tests_one (t_plain ?_ (by rfl))
      repeat tb_rel
      refine t_get (j := 0) hTp (by decide) (by rfl) (by rfl) ?_
      repeat tb_rel
      refine t_get (j := 1) hTp (by decide) (by rfl) (by rfl) ?_
      repeat tb_rel
      refine use_spec0 (lies_spec WO (hqz.mono (zt hz1 hz2))).spec (R'.less (by decide)) (fun r' _ z3 hz3 h' => ?_)
      subst h'
      repeat tb_rel
      refine PyProof.Rows.split_bool (fun ho => ?_) (fun ho => ?_)
      · repeat tb_rel
        refine ⟨_, List.Sublist.refl _, zt hz2 hz3, rfl, ?_⟩
        rw [PySem.take_succ_filter _ _ _ _ hp, if_pos ho]
        exact (hw.mono hz3).snoc ⟨Tp, _, _, rfl, IsTup.keeps hTp hz3⟩
      · refine ⟨_, List.Sublist.refl _, zt hz2 hz3, rfl, ?_⟩
        rw [PySem.take_succ_filter _ _ _ _ hp, if_neg (by rw [ho]; decide), List.append_nil]
        exact hw.mono hz3
    · rintro D ws mu z2 hz2 ⟨rfl, hw⟩
      rw [lp, List.take_length, List.filter_filter] at hw
      repeat tb_rel
      refine Sat.freeze0 hbm fun z3 hz3 hD => ?_
      have hc3 := hc.mono (zt hz1 (zt hz2 hz3))
      have hfe : (aroundL.filter fun p => decide (qc.has p.1 p.2) && inSome qs p) = aroundL.filter fun p => inSome qs p && decide (qc.has p.1 p.2) := List.filter_congr fun p _ => Bool.and_comm _ _
      rw [hfe] at hw
      refine use_spec0 (has_spec WO hc3.reg hc3.ok hD (hw.mono hz3) (by have := hc3.len; omega) (fun y => Nat.le_trans (hc3.row y) (by decide)) (filter_small _) (agree_of (P := fun p => inSome qs p && decide (qc.has p.1 p.2)) hc3.mem) (area_law (P := fun p => inSome qs p && decide (qc.has p.1 p.2)) hc3.ok hc3.mem fun x y hx => by
        obtain ⟨q, hq, hh⟩ := inSome_iff.mp (Bool.and_eq_true _ _ ▸ hx).1
        exact (hqb q hq).bounds hh)).spec (R.less (by decide)) (fun r' _ z4 hz4 h' => ?_)
      subst h'
      repeat tb_rel
      exact ⟨[], List.nil_sublist _, fun _ _ _ => rfl⟩
  · rw [decide_eq_false hok]
    refine PyProof.Rows.ite_tt ?_
    repeat tb_rel
    exact ⟨[], List.nil_sublist _, fun _ _ _ => rfl⟩
end
section
variable {X : Xd} (WO : XOk X)
include WO
theorem law_spec {la : Addr} {vs : List Value} {ns : List Int} {z : Heap} (hla : z.IsList la vs.toArray) (hns : All2 AInt vs ns) (hn : ns.length ≤ 1000) :
    SpecE (TW X) 51 13 (.ref 305) [.ref la] [] [] z (fun r bm' nw z' => nw = [] ∧ bm' = [] ∧ r = .bool true) False := by
  refine enterE (n := 12) (m := [(Str.ofString "script", .ref la)]) [(Str.ofString "script", .ref la)] WO (by rfl) (by kernel_rfl) (by rfl) (fun n y hy => ?_) (by decide) no_frames nil_slots (fun Γ R hz₀ hbm hEB hA hE => ?_) (fun _ => by rfl)
  · rw [List.mem_singleton.mp hy]; exact .inl (by rfl)
  have LA : LawAt X Γ := ⟨R, hbm, hEB, hA⟩
  show Sat _ _ (execs lawBody (lawEnv Γ.L)) _ ⟨[(Str.ofString "script", .ref la)], lawCells Γ.L none none none none none, z⟩
  refine law_1 WO LA hla hns hn fun m1 a lr x vr qs z1 hz1 hx hlr hqs hqb hql => ?_
  refine law_2 WO LA hlr hqs hqb hql fun m2 v z2 hz2 => ?_
  refine law_3 WO LA (hlr.mono hz2) (hqs.mono hz2) hqb hql fun r z3 hz3 hr => ?_
  refine law_4 WO LA (hlr.mono (zt hz2 hz3)) (hqs.mono (zt hz2 hz3)) hqb hql hr fun lr' xr vr' qs' rs z4 hz4 hlr' hqs' hqb' hql' hreg => ?_
  have hqB : ∀ q ∈ qs', RcB q := fun q hq => (hqb' q hq).1
  refine law_5 WO LA fun al av z5 hz5 hal hap => ?_
  refine law_6 WO LA (hlr'.mono hz5) (hqs'.mono hz5) hql' hal hap fun pl pv z6 hz6 hpl hpv => ?_
  have hz46 := zt hz5 hz6
  refine law_7 WO LA (by decide) (.tail _ (.tail _ (.head _))) (hreg.mono hz46) hqB rfl hpl hpv fun z7 hz7 => ?_
  have hz47 := zt hz46 hz7
  refine law_8 WO LA fun o z8 hz8 ho => ?_
  have hz48 := zt hz47 hz8
  refine law_9 WO LA (hlr'.mono hz48) (hqs'.mono hz48) hqb' hql' rfl rfl ho fun m9 rw9 o9 rs9 z9 hz9 eo ep ho9 hok9 hm9 => ?_
  have hz49 := zt hz48 hz9
  refine law_10 WO LA (.tail _ (.tail _ (.head _))) (hreg.mono hz49) eo ho9 hok9 hm9 fun z10 hz10 => ?_
  have hz410 := zt hz49 hz10
  refine law_11 WO LA hx (hreg.mono hz410) fun T qc r11 MU z11 hz11 hcm hqz hqcb hr11 => ?_
  have hz611 := zt hz7 (zt hz8 (zt hz9 (zt hz10 hz11)))
  exact law_12 WO LA hcm hqz hqB ep (hpl.mono hz611) (hpv.mono hz611) hr11
end
/-- the code objects that make functions, and their tables -/
noncomputable abbrev lawTabs : List (Addr × Addr) := [(299, 295), (120, 116), (113, 109), (304, 302)]
theorem law_tabs {w : World} {h : Heap} (KX : (heapK w.params).In h) (h8 : ∀ P ∈ ([295, 116, 109, 302] : List Addr), h.get? P = some (tabObj #[])) : TabsAt lawTabs h := by
  intro q hq
  rcases hq with _ | ⟨_, _ | ⟨_, _ | ⟨_, _ | ⟨_, hq⟩⟩⟩⟩
  · exact ⟨codeHd_of_K KX (by kernel_rfl), h8 295 (.head _)⟩
  · exact ⟨codeHd_of_K KX (by kernel_rfl), h8 116 (.tail _ (.head _))⟩
  · exact ⟨codeHd_of_K KX (by kernel_rfl), h8 109 (.tail _ (.tail _ (.head _)))⟩
  · exact ⟨codeHd_of_K KX (by kernel_rfl), h8 302 (.tail _ (.tail _ (.tail _ (.head _))))⟩
  · cases hq
theorem law_join {w : World} {s₁ : Shared} {p : Program} {loose : List Str} {mean : ExcName → Option Value} {mg mb : Str → Option Value} {fa la : Addr} {vs : List Value} {ns : List Int} {Q : Result → Shared → Prop} (KX : (heapK w.params).In s₁.heap) (h8 : ∀ P ∈ ([295, 116, 109, 302] : List Addr), s₁.heap.get? P = some (tabObj #[]))
    (T : Top p loose mean mg mb s₁.heap) (hmg : mg (Str.ofString "law") = some (.ref fa)) (hL : s₁.heap.IsList la vs.toArray) (hI : IntsAre vs ns) (hn : ns.length ≤ 1000)
    (hQ : ∀ h' tk, (∀ b o, (ghostOf s₁.heap lawTabs).get? b = some o → h'.get? b = some o) → GrownAll lawTabs h' → Q (.ok (.ret (.bool true))) { s₁ with heap := h', toks := tk }) :
    codeAny (model PySem.Challenge.pw_qz0059_01 w) callerA (.call (.ref fa) ⟨[.ref la], []⟩) Q s₁ := by
  have hT9 := law_tabs KX h8
  have e : mg (Str.ofString "law") = some (.ref 305) := mg_of KX T.g (by with_unfolding_all rfl)
  obtain rfl : fa = 305 := by rw [hmg] at e; cases e; rfl
  let X : Xd := ⟨w, topProg, (loose ++ (recsOf p).map (·.name) ++ (litsOf p).map (·.1) ++ (clssOf p loose).map (·.name)), mean, mg, mb, ghostOf s₁.heap lawTabs⟩
  have KG : (TW X).K.In (TW X).B := ghost_K hT9 KX (by kernel_rfl)
  have hh : ∀ t ∈ (TW X).tabs, CodeHd (TW X).B t.2.1 t.1 ∧ (ghostOf s₁.heap lawTabs).get? t.1 = none ∧ s₁.heap.get? t.1 = some (tabObj #[]) := by
    intro t ht
    rcases ht with _ | ⟨_, _ | ⟨_, _ | ⟨_, _ | ⟨_, hq⟩⟩⟩⟩
    · exact ⟨codeHd_of_K KG (by kernel_rfl), hideAll_none _ (.head _), h8 295 (.head _)⟩
    · exact ⟨codeHd_of_K KG (by kernel_rfl), hideAll_none _ (.tail _ (.head _)), h8 116 (.tail _ (.head _))⟩
    · exact ⟨codeHd_of_K KG (by kernel_rfl), hideAll_none _ (.tail _ (.tail _ (.head _))), h8 109 (.tail _ (.tail _ (.head _)))⟩
    · exact ⟨codeHd_of_K KG (by kernel_rfl), hideAll_none _ (.tail _ (.tail _ (.tail _ (.head _)))), h8 302 (.tail _ (.tail _ (.tail _ (.head _))))⟩
    · cases hq
  have WO : XOk X := ⟨KG, ghost_top hT9 T, fun t ht => (hh t ht).1⟩
  have conv : ∀ {vs : List Value} {ns : List Int}, IntsAre vs ns → All2 AInt vs ns := fun h => by
    induction h with
    | nil => exact .nil
    | cons n t _ ih => exact .cons ⟨_, rfl⟩ ih
  have S := law_spec WO (z := ghostOf s₁.heap lawTabs) (ghost_list hT9 hL) (conv hI) hn
  have zle : (ghostOf s₁.heap lawTabs).StaysIn s₁.heap := fun b o q => of_hideAll _ q
  have tin : ∀ b, b ∈ (TW X).tabs.map (·.1) → (ghostOf s₁.heap lawTabs).get? b = none := fun b hb => by
    obtain ⟨t, ht, rfl⟩ := List.mem_map.mp hb
    exact (hh t ht).2.1
  refine S callerA s₁ Q ⟨rfl, by decide, by decide⟩ rfl ?_ (fun r bm' nw z' h' tk' a ⟨e1, e2, e3⟩ => ?_) (fun _ _ _ f _ => f.elim)
  · exact {
      zle := zle
      Bz := fun _ _ q => q
      Bn := Nat.le_of_eq (hideAll_size _ _)
      mu := fun _ hp => nomatch hp
      muz := fun _ ha => nomatch ha
      mund := List.nodup_nil
      tabs := fun t ht => ⟨(hh t ht).2.1, #[], (hh t ht).2.2, trivial, fun q _ => .inl rfl⟩
      tlow := fun t ht => Heap.lt_size (hh t ht).2.2 }
  · subst e3
    refine hQ h' tk' (fun b o q => a.keep b o (fun hm => nomatch hm) (fun hm => ?_) (zle b o q)) ?_
    · rw [tin b hm] at q; cases q
    · have g : ∀ t ∈ (TW X).tabs, GrownAt t.1 h' := fun t ht => let ⟨_, ps, h1, _⟩ := a.tabs t ht; ⟨ps, h1⟩
      exact ⟨g _ (.head _), g _ (.tail _ (.head _)), g _ (.tail _ (.tail _ (.head _))), g _ (.tail _ (.tail _ (.tail _ (.head _)))), trivial⟩
end Mine
open PySem PySem.W PyProof.Rows
set_option maxRecDepth 100000 in
set_option maxHeartbeats 8000000 in
theorem PySem.Challenge.cw_qz0059_01_holds : PySem.Challenge.rw_qz0059_01.Holds :=
  Mine.hd (by
  intro w s₀ s₁ mg mb G Y fa o pm cd doc dV kV ho hd hcd hD hmg hg args vals as hpre hlay hrd hwl hlo
  have KX := km_in_of Y
  have h8 := km_tabs_of Y
  refine Ground.open G ?_
  intro T B D TE TW
  wrow_args hpre hlay hrd hwl hlo
  refine enter_call ?_
  refine kn_post (Mine.law_tabs KX h8) (fun _ _ => rfl) ?_
  rename_i ns _ _ _ _ _ _ _ la vs _ hL _ _ _ hI _ hlen _
  refine Mine.law_join KX h8 T hmg hL hI (by simp at hlen; omega) fun h' tk hk hG => ⟨⟨.inl ⟨_, .bool true, [], rfl, fun _ => rfl, .bool true, ?_, ?_⟩, hk, rfl, hg⟩, hG⟩
  · wrow_post
  · exact fun _ => ⟨List.nodup_nil, fun a ha => nomatch ha⟩)
