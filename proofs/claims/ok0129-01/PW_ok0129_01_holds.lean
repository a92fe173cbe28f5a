import PyProof.Rows.All
import Wide.All
import OpenK.AllK
import Wide.FinOn
import Lean
import PySem.Challenge.RW_ok0129_01
open PySem PySem.W PyProof.Rows
set_option Elab.async false
set_option maxRecDepth 100000
set_option maxHeartbeats 8000000
namespace Mine
-- the heap alone is written out here (hd.heap_1): the head itself is walked at the claim
section
local macro_rules | `(tactic| o_head $_) => `(tactic| skip)
theorem hd (h : PySem.Challenge.rw_ok0129_01.row.Holds) : PySem.Challenge.rw_ok0129_01.row.Holds := by
  k_head
  exact h
end
end Mine
set_option maxHeartbeats 4000000
set_option compiler.extract_closed false

-- layer, part 1
section
open PySem PySem.Calls PySem.W PyProof.Rows
namespace Mine

noncomputable abbrev KK (w : World) : Frag := Mine.hd.heap_1 w.params
abbrev NoE : Value → Shared → Prop := fun _ _ => False

def Sub (h h' : Heap) : Prop := ∀ b o, h.get? b = some o → h'.get? b = some o
def Ch (S : List Addr) (h h' : Heap) : Prop := ∀ b o, h.get? b = some o → b ∉ S → h'.get? b = some o
theorem Sub.refl (h : Heap) : Sub h h := fun _ _ e => e
theorem Sub.trans {a b c : Heap} (x : Sub a b) (y : Sub b c) : Sub a c := fun p o e => y p o (x p o e)
theorem Sub.none {a b : Heap} {p : Addr} (x : Sub a b) (e : b.get? p = .none) : a.get? p = .none := by
  cases q : a.get? p with
  | none => rfl
  | some o => rw [x p o q] at e; cases e
theorem Ch.of_sub {S : List Addr} {a b : Heap} (x : Sub a b) : Ch S a b := fun p o e _ => x p o e
theorem Ch.sub {a b : Heap} (x : Ch [] a b) : Sub a b := fun p o e => x p o e (by simp)
theorem Ch.trans {S : List Addr} {a b c : Heap} (x : Ch S a b) (y : Ch S b c) : Ch S a c := fun p o e n => y p o (x p o e n) n
theorem Ch.mono {S S' : List Addr} {a b : Heap} (x : Ch S a b) (h : ∀ p ∈ S, p ∈ S') : Ch S' a b := fun p o e n => x p o e fun q => n (h _ q)
theorem Ch.of_same {a : Addr} {h h' : Heap} (x : Heap.SameBut a h h') : Ch [a] h h' := fun b o e n => x.extBut b o (by simpa using n) e
theorem Sub.push (h : Heap) (o : Obj) : Sub h (h.push o) := fun _ _ e => Heap.get?_push_of_some _ e
theorem fresh_size (h : Heap) {a : Addr} (ha : h.objs.size ≤ a) : h.get? a = none := by
  cases e : h.get? a with
  | none => rfl
  | some o => exact absurd (Heap.lt_size e) (Nat.not_lt.mpr ha)

structure Base (w : World) (h : Heap) : Prop where
  k : (KK w).In h
  g : ∃ mg, h.Ns mainGlobals mg
  b : ∃ mb, h.Ns builtinsNs mb ∧ ∀ x : Str, x ≠ "__name__" → mb x = bootBuiltins x
  nolimit : h.NoLimit
theorem Base.keeps {w : World} {h h' : Heap} (B : Base w h) (k : Sub h h') : Base w h' where
  k := B.k.keeps k
  g := let ⟨mg, e⟩ := B.g; ⟨mg, e.keeps k⟩
  b := let ⟨mb, e, r⟩ := B.b; ⟨mb, e.keeps k, r⟩
  nolimit := B.nolimit.keeps k

inductive Vs where
  | int (i : Int)
  | val (v : Value)
def Vs.is : Vs → Value → Prop
  | .int i, v => ∃ t, v = .int i t
  | .val u, v => v = u

abbrev Loc := List (Str × Vs)
abbrev Led := List (Addr × (Obj → Prop))

structure St (g : Heap) (L : Addr) (h : Heap) (l : Loc) (led : Led) : Prop where
  ns : ∃ m, h.Ns L m ∧ ∀ x v, l.lookup x = some v → ∃ u, m x = some u ∧ v.is u
  keep : Sub g h
  gl : g.get? L = none
  at' : ∀ p ∈ led, ∃ o, h.get? p.1 = some o ∧ p.2 o
  ne : ∀ p ∈ led, p.1 ≠ L
  fresh : ∀ p ∈ led, g.get? p.1 = none
  nd : (led.map (·.1)).Nodup

theorem Ns.some {h : Heap} {L : Addr} {m : Str → Option Value} (n : h.Ns L m) : ∃ o, h.get? L = some o := let ⟨o, _, _, e, _⟩ := n; ⟨o, e⟩

section
variable {g g' h h' : Heap} {L : Addr} {l l' : Loc} {led led' : Led}

theorem St.weak (S : St g L h l led) (hs : Sub g' g) : St g' L h l led :=
  ⟨S.ns, hs.trans S.keep, hs.none S.gl, S.at', S.ne, fun p hp => hs.none (S.fresh p hp), S.nd⟩
theorem St.locs (S : St g L h l led) (hl : ∀ x v, l'.lookup x = some v → l.lookup x = some v) : St g L h l' led :=
  ⟨let ⟨m, n, e⟩ := S.ns; ⟨m, n, fun x v q => e x v (hl x v q)⟩, S.keep, S.gl, S.at', S.ne, S.fresh, S.nd⟩
theorem St.sub_led (S : St g L h l led) (hl : led'.Sublist led) : St g L h l led' :=
  ⟨S.ns, S.keep, S.gl, fun p hp => S.at' p (hl.subset hp), fun p hp => S.ne p (hl.subset hp), fun p hp => S.fresh p (hl.subset hp), S.nd.sublist (hl.map _)⟩
theorem St.perm (S : St g L h l led) (hl : led'.Perm led) : St g L h l led' :=
  ⟨S.ns, S.keep, S.gl, fun p hp => S.at' p (hl.subset hp), fun p hp => S.ne p (hl.subset hp), fun p hp => S.fresh p (hl.subset hp), (hl.map _).nodup_iff.mpr S.nd⟩

theorem St.store (S : St g L h l led) {x : Str} {v : Vs} {u : Value} (hv : v.is u) (hn : ∀ m, h.Ns L m → h'.Ns L (fun y => if y = x then some u else m y)) (hs : Heap.SameBut L h h') : St g L h' ((x, v) :: l) led := by
  obtain ⟨m, n, e⟩ := S.ns
  refine ⟨⟨_, hn m n, fun y z q => ?_⟩, fun b o q => hs.extBut b o ?_ (S.keep b o q), S.gl, fun p hp => ?_, S.ne, S.fresh, S.nd⟩
  · rw [List.lookup_cons] at q
    by_cases hy : y = x
    · subst hy
      simp only [beq_self_eq_true] at q
      cases q
      exact ⟨u, by simp, hv⟩
    · have : (y == x) = false := beq_eq_false_iff_ne.mpr hy
      rw [this] at q
      rw [if_neg hy]
      exact e y z q
  · rintro rfl; rw [S.gl] at q; cases q
  · obtain ⟨o, ho, hp'⟩ := S.at' p hp
    exact ⟨o, hs.extBut _ _ (S.ne p hp) ho, hp'⟩

/-- a step that turns nothing that is known -/
theorem St.ch0 (S : St g L h l led) (hc : Sub h h') : St g L h' l led :=
  ⟨let ⟨m, n, e⟩ := S.ns; ⟨m, n.keeps hc, e⟩, S.keep.trans hc, S.gl, fun p hp => let ⟨o, ho, q⟩ := S.at' p hp; ⟨o, hc _ _ ho, q⟩, S.ne, S.fresh, S.nd⟩

/-- a step that turns the objects of ds alone, all of the ledger -/
theorem St.chG (S : St g L h l led) {ds : List Addr} (hc : Ch ds h h') (hsub : ∀ d ∈ ds, d ∈ led.map (·.1)) (hk : led'.map (·.1) = led.map (·.1))
    (hat : ∀ p ∈ led', ∃ o, h'.get? p.1 = some o ∧ p.2 o) : St g L h' l led' := by
  have hm : ∀ p ∈ led', ∃ q ∈ led, q.1 = p.1 := fun p hp => by
    have : p.1 ∈ led.map (·.1) := hk ▸ List.mem_map_of_mem hp
    obtain ⟨q, hq, e⟩ := List.mem_map.mp this
    exact ⟨q, hq, e⟩
  have hL : L ∉ ds := fun q => by
    obtain ⟨p, hp, e⟩ := List.mem_map.mp (hsub _ q)
    exact S.ne p hp e
  refine ⟨?_, fun b o q => hc b o (S.keep b o q) fun hb => ?_, S.gl, hat, fun p hp => ?_, fun p hp => ?_, hk ▸ S.nd⟩
  · obtain ⟨m, n, e⟩ := S.ns
    exact ⟨m, n.at' fun o q => hc _ o q hL, e⟩
  · obtain ⟨p, hp, e⟩ := List.mem_map.mp (hsub _ hb)
    have := S.fresh p hp
    rw [e, q] at this; cases this
  · obtain ⟨q, hq, e⟩ := hm p hp; rw [← e]; exact S.ne q hq
  · obtain ⟨q, hq, e⟩ := hm p hp; rw [← e]; exact S.fresh q hq

inductive Put (d : Addr) (Φ : Obj → Prop) : Led → Led → Prop
  | head {Ψ r} : Put d Φ ((d, Ψ) :: r) ((d, Φ) :: r)
  | tail {p r r'} : Put d Φ r r' → Put d Φ (p :: r) (p :: r')
theorem Put.keys {d : Addr} {Φ : Obj → Prop} : ∀ {a b : Led}, Put d Φ a b → b.map (·.1) = a.map (·.1)
  | _, _, .head => rfl
  | _, _, .tail h => by simp [h.keys]
theorem Put.mem {d : Addr} {Φ : Obj → Prop} : ∀ {a b : Led}, Put d Φ a b → ∃ Ψ, (d, Ψ) ∈ a
  | _, _, .head => ⟨_, .head _⟩
  | _, _, .tail h => let ⟨Ψ, q⟩ := h.mem; ⟨Ψ, .tail _ q⟩
theorem Put.split {d : Addr} {Φ : Obj → Prop} : ∀ {a b : Led}, Put d Φ a b → (a.map (·.1)).Nodup → ∀ p ∈ b, p = (d, Φ) ∨ (p ∈ a ∧ p.1 ≠ d)
  | _, _, .head (r := r), hn, p, hp => by
    rcases List.mem_cons.mp hp with rfl | hp
    · exact .inl rfl
    · refine .inr ⟨.tail _ hp, fun e => ?_⟩
      simp only [List.map_cons, List.nodup_cons] at hn
      exact hn.1 (e ▸ List.mem_map_of_mem hp)
  | _, _, .tail (p := q) h, hn, p, hp => by
    simp only [List.map_cons, List.nodup_cons] at hn
    rcases List.mem_cons.mp hp with rfl | hp
    · refine .inr ⟨.head _, fun e => ?_⟩
      obtain ⟨Ψ, m⟩ := h.mem
      exact hn.1 (e ▸ List.mem_map_of_mem (f := (·.1)) m)
    · rcases h.split hn.2 p hp with e | ⟨a, b⟩
      · exact .inl e
      · exact .inr ⟨.tail _ a, b⟩

theorem St.ch1 (S : St g L h l led) {d : Addr} {Φ : Obj → Prop} (hc : Ch [d] h h') (hp : Put d Φ led led') (hd : ∃ o, h'.get? d = some o ∧ Φ o) : St g L h' l led' := by
  refine S.chG hc (fun x hx => ?_) hp.keys fun p hp' => ?_
  · obtain ⟨Ψ, m⟩ := hp.mem
    rw [List.mem_singleton.mp hx]
    exact List.mem_map_of_mem (f := (·.1)) m
  · rcases hp.split S.nd p hp' with rfl | ⟨a, b⟩
    · exact hd
    · obtain ⟨o, ho, q⟩ := S.at' p a
      exact ⟨o, hc _ _ ho (by simpa using b), q⟩

/-- a new object comes under the ledger -/
theorem St.add (S : St g L h l led) {a : Addr} {Φ : Obj → Prop} (hf : g.get? a = none) (hL : a ≠ L) (hn : a ∉ led.map (·.1)) (ha : ∃ o, h.get? a = some o ∧ Φ o) : St g L h l ((a, Φ) :: led) :=
  ⟨S.ns, S.keep, S.gl, fun p hp => by rcases List.mem_cons.mp hp with rfl | hp; exact ha; exact S.at' p hp,
    fun p hp => by rcases List.mem_cons.mp hp with rfl | hp; exact hL; exact S.ne p hp,
    fun p hp => by rcases List.mem_cons.mp hp with rfl | hp; exact hf; exact S.fresh p hp,
    by simp only [List.map_cons, List.nodup_cons]; exact ⟨hn, S.nd⟩⟩
/-- an object that was not there before the step is in no ledger of before -/
theorem St.add_new (S : St g L h l led) (S' : St g L h' l' led') {a : Addr} {Φ : Obj → Prop} (hk : led'.map (·.1) = led.map (·.1)) (hf : h.get? a = none) (ha : ∃ o, h'.get? a = some o ∧ Φ o) : St g L h' l' ((a, Φ) :: led') := by
  refine S'.add (S.keep.none hf) ?_ ?_ ha
  · rintro rfl
    obtain ⟨m, n, _⟩ := S.ns
    obtain ⟨o, e⟩ := Ns.some n
    rw [hf] at e; cases e
  · rw [hk]
    intro q
    obtain ⟨p, hp, e⟩ := List.mem_map.mp q
    obtain ⟨o, ho, _⟩ := S.at' p hp
    rw [e, hf] at ho; cases ho
theorem St.push (S : St g L h l led) {o : Obj} {Φ : Obj → Prop} (hf : o.isFreed = false) (hp : Φ o) : St g L (h.push o) l ((h.objs.size, Φ) :: led) :=
  S.add_new (S.ch0 (Sub.push h o)) rfl (fresh_size h (Nat.le_refl _)) ⟨o, Heap.get?_push_size _ hf, hp⟩

theorem St.get (S : St g L h l led) {a : Addr} {Φ : Obj → Prop} (hm : (a, Φ) ∈ led) : ∃ o, h.get? a = some o ∧ Φ o := S.at' _ hm
theorem St.at_ne (S : St g L h l led) {a b : Addr} {Φ : Obj → Prop} (hm : (a, Φ) ∈ led) {o : Obj} (hg : g.get? b = some o) : b ≠ a := by
  rintro rfl
  have := S.fresh _ hm
  rw [hg] at this; cases this

/-- all that stands, but the frame and the ledger, is kept for good from here on -/
theorem St.freeze (S : St g L h l led) : ∃ g', Sub g g' ∧ Sub g' h ∧ St g' L h l led ∧ ∀ b o, h.get? b = some o → b ≠ L → b ∉ led.map (·.1) → g'.get? b = some o := by
  have hk : ∀ b o, h.get? b = some o → b ≠ L → b ∉ led.map (·.1) → (hideAll h (L :: led.map (·.1))).get? b = some o := fun b o e n1 n2 =>
    hideAll_get _ e (by simp only [List.mem_cons, not_or]; exact ⟨n1, n2⟩)
  have hg : Sub g (hideAll h (L :: led.map (·.1))) := fun b o e => hk b o (S.keep b o e) (by rintro rfl; rw [S.gl] at e; cases e) fun q => by
    obtain ⟨p, hp, e'⟩ := List.mem_map.mp q
    have := S.fresh p hp
    rw [e', e] at this; cases this
  refine ⟨_, hg, fun b o e => of_hideAll _ e, ⟨S.ns, fun b o e => of_hideAll _ e, hideAll_none _ (.head _), S.at', S.ne, fun p hp => hideAll_none _ (.tail _ (List.mem_map_of_mem hp)), S.nd⟩, hk⟩

theorem St.toFr (S : St g L h l led) : ∃ m, Fr ({} : Heap) L h m ∧ News ({} : Heap) L h ((List.range h.objs.size).filterMap fun a => if a = L then none else (h.get? a).map (a, ·)) ∧
    ∀ h', Fr ({} : Heap) L h' m → News ({} : Heap) L h' ((List.range h.objs.size).filterMap fun a => if a = L then none else (h.get? a).map (a, ·)) → St g L h' l led ∧ Ch [L] h h' := by
  obtain ⟨m, n, e⟩ := S.ns
  have nog : ∀ a, ({} : Heap).get? a = none := fun a => by simp [Heap.get?]
  have mem : ∀ b o, b ≠ L → h.get? b = some o → (b, o) ∈ (List.range h.objs.size).filterMap fun a => if a = L then none else (h.get? a).map (a, ·) := fun b o hb q =>
    List.mem_filterMap.mpr ⟨b, List.mem_range.mpr (Heap.lt_size q), by rw [if_neg hb, q]; rfl⟩
  refine ⟨m, ⟨n, fun b o q => (by rw [nog] at q; cases q), Nat.zero_le _⟩, fun p hp => ?_, fun h' F N => ?_⟩
  · obtain ⟨a, _, q⟩ := List.mem_filterMap.mp hp
    by_cases ha : a = L
    · rw [if_pos ha] at q; cases q
    · rw [if_neg ha] at q
      cases hh : h.get? a with
      | none => rw [hh] at q; cases q
      | some o => rw [hh] at q; cases q; exact ⟨hh, ha, nog _⟩
  · have hc : Ch [L] h h' := fun b o q nb => (N _ (mem b o (by simpa using nb) q)).1
    refine ⟨⟨⟨m, F.ns, e⟩, fun b o q => hc b o (S.keep b o q) ?_, S.gl, fun p hp => ?_, S.ne, S.fresh, S.nd⟩, hc⟩
    · intro hb
      rw [List.mem_singleton.mp hb, S.gl] at q; cases q
    · obtain ⟨o, ho, q⟩ := S.at' p hp
      exact ⟨o, hc _ _ ho (by simpa using S.ne p hp), q⟩
end
end Mine
end

-- layer, part 2
section
open PySem PySem.Calls PySem.W PyProof.Rows
namespace Mine

/-- a state by its heap and its count of tokens -/
def sh (s : Shared) (h : Heap) (t : Nat) : Shared := { s with heap := h, toks := t }
theorem sh_heap (s : Shared) (h : Heap) (t : Nat) : (sh s h t).heap = h := rfl

structure Room (A : Around) (k : Nat) : Prop where
  h : A.handled = none
  d : A.depth + k < recursionLimit
  u : A.units + 3 * k + 100 < cLine
theorem Room.deeper {A : Around} {k : Nat} {env : Env} (r : Room A (k + 1)) : Room (A.deeper env) k :=
  ⟨r.h, by have := r.d; show A.depth + 1 + k < _; omega, by have := r.u; show A.units + 3 + 3 * k + 100 < _; omega⟩
theorem Room.mono {A : Around} {k j : Nat} (r : Room A k) (h : j ≤ k) : Room A j :=
  ⟨r.h, by have := r.d; omega, by have := r.u; omega⟩
theorem Room.lt {A : Around} {k : Nat} (r : Room A k) : A.depth < recursionLimit := by have := r.d; omega

def toVs : Value → Vs
  | .int i _ => .int i
  | v => .val v
theorem toVs_is (v : Value) : (toVs v).is v := by cases v <;> first | exact ⟨_, rfl⟩ | rfl

theorem lookup_toVs : ∀ (b : List (Str × Value)) {x : Str} {v : Vs}, (b.map fun p => (p.1, toVs p.2)).lookup x = some v → ∃ u, b.lookup x = some u ∧ v.is u
  | [], _, _, h => by cases h
  | p :: r, x, v, h => by
    rw [List.map_cons, List.lookup_cons] at h
    rw [List.lookup_cons]
    cases e : x == p.1 with
    | true => rw [e] at h; cases h; exact ⟨_, rfl, toVs_is _⟩
    | false => rw [e] at h; exact lookup_toVs r h
/-- what an object is to be -/
def IsInts (ns : List Int) (o : Obj) : Prop := o.cls = .type "list" ∧ ∃ vs n, o.data = .seq vs.toArray n ∧ IntsAre vs ns
def IsIntsP (ns : List Int) (o : Obj) : Prop := ∃ vs n, o = { cls := .type "list", data := .seq vs.toArray n } ∧ IntsAre vs ns
theorem IsIntsP.r {ns : List Int} {o : Obj} (h : IsIntsP ns o) : IsInts ns o := by obtain ⟨vs, n, rfl, hi⟩ := h; exact ⟨rfl, vs, n, rfl, hi⟩
def IsRefs (as : List Addr) (o : Obj) : Prop := ∃ n, o = { cls := .type "list", data := .seq (as.map Value.ref).toArray n }
def IsSrc (o : Obj) : Prop := ∃ a b, IsInts [a, b] o
def IsCellV (v : Vs) (o : Obj) : Prop := ∃ u, o.data = .cell (some u) ∧ v.is u
def IsCellA (o : Obj) : Prop := ∃ u, o.data = .cell u
theorem IsCellV.any {v : Vs} {o : Obj} (h : IsCellV v o) : IsCellA o := let ⟨_, e, _⟩ := h; ⟨_, e⟩

def IL (h : Heap) (a : Addr) (ns : List Int) : Prop := ∃ o, h.get? a = some o ∧ IsInts ns o
theorem IL.sub {h h' : Heap} {a : Addr} {ns : List Int} (x : IL h a ns) (k : Sub h h') : IL h' a ns := let ⟨o, e, q⟩ := x; ⟨o, k _ _ e, q⟩
theorem IL.list {h : Heap} {a : Addr} {ns : List Int} (x : IL h a ns) : ∃ vs, h.IsList a vs.toArray ∧ IntsAre vs ns := by
  obtain ⟨o, e, hc, vs, n, hd, hi⟩ := x
  exact ⟨vs, ⟨_, e, hc, n, hd⟩, hi⟩
theorem IL.of_list {h : Heap} {a : Addr} {ns : List Int} {vs : List Value} (x : h.IsList a vs.toArray) (hi : IntsAre vs ns) : IL h a ns := by
  obtain ⟨o, ho, hc, n, hd⟩ := x
  exact ⟨o, ho, hc, vs, n, hd, hi⟩
def ILP (h : Heap) (a : Addr) (ns : List Int) : Prop := ∃ o, h.get? a = some o ∧ IsIntsP ns o
theorem ILP.sub {h h' : Heap} {a : Addr} {ns : List Int} (x : ILP h a ns) (k : Sub h h') : ILP h' a ns := let ⟨o, e, q⟩ := x; ⟨o, k _ _ e, q⟩
theorem ILP.r {h : Heap} {a : Addr} {ns : List Int} (x : ILP h a ns) : IL h a ns := let ⟨o, e, q⟩ := x; ⟨o, e, q.r⟩
theorem ILP.plain {h : Heap} {a : Addr} {ns : List Int} (x : ILP h a ns) : ∃ vs, h.PlainList a vs.toArray ∧ IntsAre vs ns := by
  obtain ⟨o, e, vs, n, rfl, hi⟩ := x
  exact ⟨vs, ⟨n, e⟩, hi⟩
theorem ILP.of_plain {h : Heap} {a : Addr} {ns : List Int} {vs : List Value} (x : h.PlainList a vs.toArray) (hi : IntsAre vs ns) : ILP h a ns := by
  obtain ⟨n, ho⟩ := x
  exact ⟨_, ho, vs, n, rfl, hi⟩
def RL (h : Heap) (a : Addr) (as : List Addr) : Prop := ∃ o, h.get? a = some o ∧ IsRefs as o
theorem RL.sub {h h' : Heap} {a : Addr} {ns : List Addr} (x : RL h a ns) (k : Sub h h') : RL h' a ns := let ⟨o, e, q⟩ := x; ⟨o, k _ _ e, q⟩
theorem RL.list {h : Heap} {a : Addr} {ns : List Addr} (x : RL h a ns) : h.IsList a (ns.map Value.ref).toArray := by
  obtain ⟨o, e, n, rfl⟩ := x
  exact ⟨_, e, rfl, n, rfl⟩
theorem RL.plain {h : Heap} {a : Addr} {ns : List Addr} (x : RL h a ns) : h.PlainList a (ns.map Value.ref).toArray := by
  obtain ⟨o, e, n, rfl⟩ := x
  exact ⟨n, e⟩

theorem Put.same {d : Addr} {Φ : Obj → Prop} : ∀ {a : Led}, (d, Φ) ∈ a → Put d Φ a a
  | _, .head _ => .head
  | _, .tail _ h => .tail (Put.same h)

section
variable {prog : Program} {w : World} {A : Around} {s : Shared} {h0 : Heap} {tk0 : Nat} {Q : Value → Shared → Prop} {g : Heap} {L : Addr} {l : Loc} {led : Led} {env : Env}

theorem enterC {R : Result → Shared → Prop} {f : Addr} {args : List Value} {binds : List (Str × Value)} {name qual : Str} {params : Arguments} {body : List Stmt} {scope : Scope} {dV kV doc pm cdv ct oc : Value} {an od : Option Addr} {osl : Array (Option Value)} {k : Nat}
    (led : Led) (l : Loc) (hroom : Room A (k + 1)) (B : Base w g) (hg : Sub g h0) (hled : ∀ p ∈ led, ∃ o, h0.get? p.1 = some o ∧ p.2 o) (hfr : ∀ p ∈ led, g.get? p.1 = none) (hnd : (led.map (·.1)).Nodup)
    (ho : (KK w).lookup f = some ⟨oc, od, .func (fnOf name qual params body scope dV kV doc pm an cdv ct), osl⟩) (hcd : codeIn (KK w) cdv qual = true)
    (hbind : bindArgs (fnOf name qual params body scope dV kV doc pm an cdv ct) ⟨args, []⟩ = pure binds) (hloc : ∀ y ∈ binds, scope.names.lookup y.1 = some .local)
    (hl : l = binds.reverse.map fun p => (p.1, toVs p.2))
    (hcell : ∀ x ∈ scope.names, x.2 ≠ .cell) (hco : scope.isCoroutine = false) (hgen : scope.isGenerator = false) (hk : scope.kind = .function)
    (h : ∀ g' L h₁ tk, Base w g' → Sub g g' → (∀ b o, h0.get? b = some o → b ∉ led.map (·.1) → g'.get? b = some o) → Sub h0 h₁ → St g' L h₁ l led → Room (A.deeper (envOf qual scope L f cdv)) k →
      wpAny (model prog w) (A.deeper (envOf qual scope L f cdv)) (execs body (envOf qual scope L f cdv))
        (fun fl s' => R (.ok (.ret (match fl with | .ret v => v | _ => .none))) s') NoE (sh s h₁ tk)) :
    codeAny (model prog w) A (.call (.ref f) ⟨args, []⟩) R (sh s h0 tk0) := by
  have Bs := B.keeps hg
  refine codeAny_call_def (fd := fnOf name qual params body scope dV kV doc pm an cdv ct) (body := body) (binds := binds) hroom.lt (Bs.k _ _ ho) rfl Bs.nolimit (codeRec_of Bs.k hcd) rfl (BindsTo.of_eq hbind) hcell hloc (fun h₁ hns hk₁ => ?_) hco hgen hk
  have hk' : ∀ b o, h0.get? b = some o → b ∉ led.map (·.1) → (hideAll h0 (led.map (·.1))).get? b = some o := fun b o e n => hideAll_get _ e n
  have hgg : Sub g (hideAll h0 (led.map (·.1))) := fun b o e => hk' b o (hg b o e) fun q => by
    obtain ⟨p, hp, e'⟩ := List.mem_map.mp q
    have := hfr p hp
    rw [e', e] at this; cases this
  refine wpAny_mono (h _ h0.objs.size h₁ _ (B.keeps hgg) hgg hk' hk₁ ⟨⟨_, hns, fun x v e => ?_⟩, fun b o e => hk₁ b o (of_hideAll _ e), fresh_size _ (Nat.le_of_eq (hideAll_size _ _)), fun p hp => ?_, fun p hp => ?_, fun p hp => hideAll_none _ (List.mem_map_of_mem hp), hnd⟩ hroom.deeper)
    (fun fl s' q => q) fun _ _ q => q.elim
  · subst hl
    exact lookup_toVs _ e
  · obtain ⟨o, ho', q⟩ := hled p hp
    exact ⟨o, hk₁ _ _ ho', q⟩
  · obtain ⟨o, ho', _⟩ := hled p hp
    exact Nat.ne_of_lt (Heap.lt_size ho')
theorem enter {f : Addr} {args : List Value} {binds : List (Str × Value)} {name qual : Str} {params : Arguments} {body : List Stmt} {scope : Scope} {dV kV doc pm cdv ct oc : Value} {an od : Option Addr} {osl : Array (Option Value)} {k : Nat}
    (led : Led) (l : Loc) (hroom : Room A (k + 1)) (B : Base w g) (hg : Sub g h0) (hled : ∀ p ∈ led, ∃ o, h0.get? p.1 = some o ∧ p.2 o) (hfr : ∀ p ∈ led, g.get? p.1 = none) (hnd : (led.map (·.1)).Nodup)
    (ho : (KK w).lookup f = some ⟨oc, od, .func (fnOf name qual params body scope dV kV doc pm an cdv ct), osl⟩) (hcd : codeIn (KK w) cdv qual = true)
    (hbind : bindArgs (fnOf name qual params body scope dV kV doc pm an cdv ct) ⟨args, []⟩ = pure binds) (hloc : ∀ y ∈ binds, scope.names.lookup y.1 = some .local)
    (hl : l = binds.reverse.map fun p => (p.1, toVs p.2))
    (hcell : ∀ x ∈ scope.names, x.2 ≠ .cell) (hco : scope.isCoroutine = false) (hgen : scope.isGenerator = false) (hk : scope.kind = .function)
    (h : ∀ g' L h₁ tk, Base w g' → Sub g g' → (∀ b o, h0.get? b = some o → b ∉ led.map (·.1) → g'.get? b = some o) → Sub h0 h₁ → St g' L h₁ l led → Room (A.deeper (envOf qual scope L f cdv)) k →
      wpAny (model prog w) (A.deeper (envOf qual scope L f cdv)) (execs body (envOf qual scope L f cdv))
        (fun fl s' => Q (match fl with | .ret v => v | _ => .none) s') NoE (sh s h₁ tk)) :
    wpAny (model prog w) A (call (.ref f) args) Q NoE (sh s h0 tk0) :=
  wpAny_call (enterC led l hroom B hg hled hfr hnd ho hcd hbind hloc hl hcell hco hgen hk h)

section names
variable {M : Model} {E : Value → Shared → Prop} {x : Str} {pos : Pos} {c : Addr} {i : Int} {v : Value}
theorem ld_i (S : St g L h0 l led) (hl : l.lookup x = some (.int i)) (h : ∀ t, Q (.int i t) (sh s h0 tk0)) (hL : env.locals = L := by exact rfl) (hk : env.scope.kind = .function := by exact rfl) (hx : env.kindOf x = some .local := by exact rfl)
    (hd : (x == ("__debug__" : Str)) = false := by decide) : wpAny M A (eval (.Name x pos) env) Q E (sh s h0 tk0) := by
  obtain ⟨m, n, e⟩ := S.ns
  obtain ⟨u, hu, t, rfl⟩ := e _ _ hl
  subst hL
  exact wpAny_Name (wpAny_loadName_local hk hx n hu (h t)) hd
theorem ld_v (S : St g L h0 l led) (hl : l.lookup x = some (.val v)) (h : Q v (sh s h0 tk0)) (hL : env.locals = L := by exact rfl) (hk : env.scope.kind = .function := by exact rfl) (hx : env.kindOf x = some .local := by exact rfl)
    (hd : (x == ("__debug__" : Str)) = false := by decide) : wpAny M A (eval (.Name x pos) env) Q E (sh s h0 tk0) := by
  obtain ⟨m, n, e⟩ := S.ns
  obtain ⟨u, hu, rfl⟩ := e _ _ hl
  subst hL
  exact wpAny_Name (wpAny_loadName_local hk hx n hu h) hd
theorem ldc_i (S : St g L h0 l led) (hc : env.cells.lookup x = some c) (hm : (c, IsCellV (.int i)) ∈ led) (h : ∀ t, Q (.int i t) (sh s h0 tk0)) (hk : env.scope.kind = .function := by exact rfl) (hx : env.kindOf x = some .cell := by exact rfl)
    (hd : (x == ("__debug__" : Str)) = false := by decide) : wpAny M A (eval (.Name x pos) env) Q E (sh s h0 tk0) := by
  obtain ⟨o, ho, u, hu, t, rfl⟩ := S.get hm
  exact wpAny_Name (wpAny_loadName_cell hk hx hc ⟨o, ho, hu⟩ (h t)) hd
theorem ldc_v (S : St g L h0 l led) (hc : env.cells.lookup x = some c) (hm : (c, IsCellV (.val v)) ∈ led) (h : Q v (sh s h0 tk0)) (hk : env.scope.kind = .function := by exact rfl) (hx : env.kindOf x = some .cell := by exact rfl)
    (hd : (x == ("__debug__" : Str)) = false := by decide) : wpAny M A (eval (.Name x pos) env) Q E (sh s h0 tk0) := by
  obtain ⟨o, ho, u, hu, rfl⟩ := S.get hm
  exact wpAny_Name (wpAny_loadName_cell hk hx hc ⟨o, ho, hu⟩ h) hd
theorem ldg (S : St g L h0 l led) (B : Base w g) (e : nsIn (KK w) mainGlobals x = some (some v)) (h : Q v (sh s h0 tk0)) (hk : env.scope.kind = .function := by exact rfl) (hx : env.kindOf x = some .globalImplicit := by exact rfl) (hg : env.globals = mainGlobals := by exact rfl)
    (hd : (x == ("__debug__" : Str)) = false := by decide) : wpAny M A (eval (.Name x pos) env) Q E (sh s h0 tk0) := by
  obtain ⟨mg, n⟩ := B.g
  exact Name_function_global hk hx (loadGlobal_global (env := env) (by rw [hg]; exact n.keeps S.keep) (mg_of B.k n e) h) hd
theorem ldb (S : St g L h0 l led) (B : Base w g) (e : nsIn (KK w) mainGlobals x = some none) (hv : bootBuiltins x = some v) (hn : x ≠ "__name__") (h : Q v (sh s h0 tk0)) (hk : env.scope.kind = .function := by exact rfl) (hx : env.kindOf x = some .globalImplicit := by exact rfl) (hg : env.globals = mainGlobals := by exact rfl)
    (hb : env.builtins = builtinsNs := by exact rfl) (hd : (x == ("__debug__" : Str)) = false := by decide) : wpAny M A (eval (.Name x pos) env) Q E (sh s h0 tk0) := by
  obtain ⟨mg, n⟩ := B.g
  obtain ⟨mb, nb, eb⟩ := B.b
  exact Name_function_global hk hx (loadGlobal_builtin (env := env) (by rw [hg]; exact n.keeps S.keep) (mg_none_of B.k n e) (by rw [hb]; exact nb.keeps S.keep) ((eb x hn).trans hv) h) hd

theorem st_l {Q : Unit → Shared → Prop} (S : St g L h0 l led) {vv : Vs} (hv : vv.is v) (h : ∀ h' tk, St g L h' ((x, vv) :: l) led → Q () (sh s h' tk)) (hL : env.locals = L := by exact rfl) (hk : env.scope.kind = .function := by exact rfl) (hx : env.kindOf x = some .local := by exact rfl) :
    wpAny M A (storeName env x v) Q E (sh s h0 tk0) := by
  obtain ⟨m, n, e⟩ := S.ns
  subst hL
  refine wpAny_storeName_local hx n (fun h' hn hs => h h' _ (S.store hv (fun m' n' => ?_) hs)) (by rw [hk]; rfl)
  have : m' = m := by rw [n'.eq_nsMap, n.eq_nsMap]
  subst this
  exact hn
theorem st_c {Q : Unit → Shared → Prop} (S : St g L h0 l led) {vv : Vs} {led' : Led} (hv : vv.is v) (hc : env.cells.lookup x = some c) (hp : Put c (IsCellV vv) led led') (hany : ∃ Ψ, (c, Ψ) ∈ led ∧ ∀ o, Ψ o → IsCellA o)
    (h : ∀ h', St g L h' l led' → Q () (sh s h' tk0)) (hk : env.scope.kind = .function := by exact rfl) (hx : env.kindOf x = some .cell := by exact rfl) :
    wpAny M A (storeName env x v) Q E (sh s h0 tk0) := by
  obtain ⟨Ψ, hm, ha⟩ := hany
  obtain ⟨o, ho, hΨ⟩ := S.get hm
  obtain ⟨u, hu⟩ := ha o hΨ
  refine wpAny_storeName_cell hk hx hc ⟨o, ho, hu⟩ fun h' hcell hs => h h' (S.ch1 (Ch.of_same hs) hp ?_)
  obtain ⟨o', ho', hd⟩ := hcell
  exact ⟨o', ho', _, hd, hv⟩
end names
theorem int_is (i : Int) (t : Tok) : (Vs.int i).is (.int i t) := ⟨t, rfl⟩
theorem val_is (v : Value) : (Vs.val v).is v := rfl
theorem cellA_any : ∀ o, IsCellA o → IsCellA o := fun _ h => h
theorem cellV_any {v : Vs} : ∀ o, IsCellV v o → IsCellA o := fun _ h => h.any

theorem tab_mem_of {α : Type} : ∀ {l : List (Str × α)} {x : Str} {v : α}, l.lookup x = some v → (x, v) ∈ l
  | [], _, _, h => by cases h
  | p :: r, x, v, h => by
    rw [List.lookup_cons] at h
    cases e : x == p.1 with
    | true => rw [e] at h; cases h; rw [beq_iff_eq.mp e]; exact .head _
    | false => rw [e] at h; exact .tail _ (tab_mem_of h)
def bnTab : List (Str × Value) := [("len", .builtin "len"), ("max", .builtin "max"), ("min", .builtin "min"), ("abs", .builtin "abs"), ("sum", .builtin "sum"), ("sorted", .builtin "sorted"), ("isinstance", .builtin "isinstance"), ("int", .type "int"), ("range", .type "range"), ("list", .type "list"), ("zip", .type "zip")]
theorem bn_all : ∀ p ∈ bnTab, bootBuiltins p.1 = some p.2 ∧ p.1 ≠ "__name__" := by decide +kernel
section
variable {M : Model} {E : Value → Shared → Prop} {x : Str} {pos : Pos} {v : Value} {f : Addr}
theorem ldG (S : St g L h0 l led) (B : Base w g) (e : nsIn (KK w) mainGlobals x = some (some (.ref f))) (h : Q (.ref f) (sh s h0 tk0)) (hk : env.scope.kind = .function := by exact rfl) (hx : env.kindOf x = some .globalImplicit := by exact rfl) (hg : env.globals = mainGlobals := by exact rfl)
    (hd : (x == ("__debug__" : Str)) = false := by decide) : wpAny M A (eval (.Name x pos) env) Q E (sh s h0 tk0) := ldg S B e h hk hx hg hd
theorem ldB (S : St g L h0 l led) (B : Base w g) (e : nsIn (KK w) mainGlobals x = some none) (hv : bnTab.lookup x = some v) (h : Q v (sh s h0 tk0)) (hk : env.scope.kind = .function := by exact rfl) (hx : env.kindOf x = some .globalImplicit := by exact rfl) (hg : env.globals = mainGlobals := by exact rfl)
    (hb : env.builtins = builtinsNs := by exact rfl) (hd : (x == ("__debug__" : Str)) = false := by decide) : wpAny M A (eval (.Name x pos) env) Q E (sh s h0 tk0) :=
  let b := bn_all _ (tab_mem_of hv)
  ldb S B e b.1 b.2 h hk hx hg hb hd
end
theorem if_t {M : Model} {E : Value → Shared → Prop} {α : Type} {b : Bool} {t u : Sem α} {Q : α → Shared → Prop} (h1 : b = true → wpAny M A t Q E s) (h2 : b = false → wpAny M A u Q E s) : (if b then wpAny M A t Q E s else wpAny M A u Q E s) := by
  cases b
  · exact h2 rfl
  · exact h1 rfl
end

theorem le_up {a b c : Int} (h : b ≤ c) (k : a ≤ b) : a ≤ c := Int.le_trans k h
theorem lt_up {a b c : Int} (h : b ≤ c) (k : a < b) : a < c := Int.lt_of_lt_of_le k h
end Mine
end

-- layer, part 3
section
open PySem PySem.Calls PySem.W PyProof.Rows
namespace Mine
/-- what comes behind a statement, kept as one letter while the statement is walked -/
structure Nx (N : Shared → Prop) (R : Value → Shared → Prop) (Q' : Flow → Shared → Prop) : Prop where
  a : ∀ s, N s → Q' .next s
  b : ∀ v s, R v s → Q' (.ret v) s
theorem Nx.n {N : Shared → Prop} {R : Value → Shared → Prop} {Q' : Flow → Shared → Prop} {s : Shared} (x : Nx N R Q') (h : N s) : Q' .next s := x.a _ h
theorem Nx.r {N : Shared → Prop} {R : Value → Shared → Prop} {Q' : Flow → Shared → Prop} {s : Shared} {v : Value} (x : Nx N R Q') (h : R v s) : Q' (.ret v) s := x.b _ _ h
theorem ex_cons {M : Model} {A : Around} {E : Value → Shared → Prop} {env : Env} {s : Shared} {st : Stmt} {rest : List Stmt} {Q : Flow → Shared → Prop}
    (h : ∀ Q', Nx (wpAny M A (execs rest env) Q E) (fun v => Q (.ret v)) Q' → wpAny M A (exec st env) Q' E s) : wpAny M A (execs (st :: rest) env) Q E s :=
  wpAny_execs_cons (h _ ⟨fun _ q => q, fun _ _ q => q⟩)
section
variable {prog : Program} {w : World} {A : Around} {E : Value → Shared → Prop} {s : Shared} {h0 : Heap} {tk0 : Nat} {g : Heap} {L : Addr} {l : Loc} {led : Led} {env : Env} {a b : Int} {t u : Tok}

section
variable {Q : Value → Shared → Prop}
theorem c_int {i : Int} {k : Nat} {pos : Pos} {M : Model} (h : ∀ t tk, Q (.int i t) (sh s h0 tk)) : wpAny M A (eval (.Constant (.int i) k pos) env) Q E (sh s h0 tk0) := wpAny_Constant_int (h _ _)
theorem c_str {x : Str} {k : Nat} {pos : Pos} {M : Model} (h : ∀ t tk, Q (.str x t) (sh s h0 tk)) : wpAny M A (eval (.Constant (.str x) k pos) env) Q E (sh s h0 tk0) := Calls.Constant_str (h _ _)
theorem o_add (h : ∀ t tk, Q (.int (a + b) t) (sh s h0 tk)) : wpAny (model prog w) A (binaryOp .Add (.int a t) (.int b u)) Q E (sh s h0 tk0) := PyProof.Rows.add_int (h _ _)
theorem o_sub (h : ∀ t tk, Q (.int (a - b) t) (sh s h0 tk)) : wpAny (model prog w) A (binaryOp .Sub (.int a t) (.int b u)) Q E (sh s h0 tk0) := PyProof.Rows.sub_int (h _ _)
theorem o_mul (hm : IntMulOk a b) (h : ∀ t tk, Q (.int (a * b) t) (sh s h0 tk)) : wpAny (model prog w) A (binaryOp .Mult (.int a t) (.int b u)) Q E (sh s h0 tk0) := PyProof.Rows.mul_int (h _ _) hm
theorem o_mod (hb : 0 < b) (h : ∀ t tk, Q (.int (a % b) t) (sh s h0 tk)) : wpAny (model prog w) A (binaryOp .Mod (.int a t) (.int b u)) Q E (sh s h0 tk0) :=
  PyProof.Rows.mod_int (by omega) (by rw [Int.fmod_eq_emod_of_nonneg a (by omega)]; exact h _ _)
theorem o_div (hb : 0 < b) (hb2 : b < 2 ^ 30) (h : ∀ t tk, Q (.int (a / b) t) (sh s h0 tk)) : wpAny (model prog w) A (binaryOp .FloorDiv (.int a t) (.int b u)) Q E (sh s h0 tk0) :=
  PyProof.Rows.floordiv_int (by omega) (by rw [Int.fdiv_eq_ediv_of_nonneg a (by omega)]; exact h _ _) (.inl (PyProof.noPylong_small (by omega)))
theorem o_pow (hn : 0 ≤ b) (hsz : (Builtin.Int.intBits a : Int) * b ≤ 2 ^ 27) (h : ∀ t tk, Q (.int (a ^ b.toNat) t) (sh s h0 tk)) : wpAny (model prog w) A (binaryOp .Pow (.int a t) (.int b u)) Q E (sh s h0 tk0) := PyProof.Rows.pow_int hn hsz (h _ _)
theorem o_shl (hn : 0 ≤ b) (hb : b ≤ 1000) (ha : a.natAbs < 2 ^ 64) (h : ∀ t tk, Q (.int (a * 2 ^ b.toNat) t) (sh s h0 tk)) : wpAny (model prog w) A (binaryOp .LShift (.int a t) (.int b u)) Q E (sh s h0 tk0) := PyProof.Rows.lshift_int_small hn (by omega) ha (h _ _)
/-- what an operation of two ints gives -/
@[irreducible] def OpIs (op : Operator) (i j r : Int) : Prop := ∀ (prog : Program) (w : World) (A : Around) (E : Value → Shared → Prop) (s : Shared) (h0 : Heap) (tk0 : Nat) (t u : Tok) (Q : Value → Shared → Prop),
  (∀ t tk, Q (.int r t) (sh s h0 tk)) → wpAny (model prog w) A (binaryOp op (.int i t) (.int j u)) Q E (sh s h0 tk0)
theorem OpIs.add : OpIs .Add a b (a + b) := by unfold OpIs; exact fun _ _ _ _ _ _ _ _ _ _ h => o_add h
theorem OpIs.sub : OpIs .Sub a b (a - b) := by unfold OpIs; exact fun _ _ _ _ _ _ _ _ _ _ h => o_sub h
theorem OpIs.mul (hm : IntMulOk a b) : OpIs .Mult a b (a * b) := by unfold OpIs; exact fun _ _ _ _ _ _ _ _ _ _ h => o_mul hm h
theorem OpIs.mod (hb : 0 < b) : OpIs .Mod a b (a % b) := by unfold OpIs; exact fun _ _ _ _ _ _ _ _ _ _ h => o_mod hb h
theorem OpIs.div (hb : 0 < b) (hb2 : b < 2 ^ 30) : OpIs .FloorDiv a b (a / b) := by unfold OpIs; exact fun _ _ _ _ _ _ _ _ _ _ h => o_div hb hb2 h
theorem o_bin {op : Operator} {r : Int} (x : OpIs op a b r) (h : ∀ t tk, Q (.int r t) (sh s h0 tk)) : wpAny (model prog w) A (binaryOp op (.int a t) (.int b u)) Q E (sh s h0 tk0) := by
  unfold OpIs at x; exact x _ _ _ _ _ _ _ _ _ _ h
/-- an expression of ints alone, and its value -/
@[irreducible] def Pu (env : Env) (l : Loc) (led : Led) (e : Expr) (i : Int) : Prop := ∀ (prog : Program) (w : World) (A : Around) (E : Value → Shared → Prop) (s : Shared) (h0 : Heap) (tk0 : Nat) (g : Heap) (Q : Value → Shared → Prop),
  St g env.locals h0 l led → env.scope.kind = .function → (∀ t tk, Q (.int i t) (sh s h0 tk)) → wpAny (model prog w) A (eval e env) Q E (sh s h0 tk0)
theorem Pu.num {i : Int} {k : Nat} {p : Pos} : Pu env l led (.Constant (.int i) k p) i := by unfold Pu; exact fun _ _ _ _ _ _ _ _ _ _ _ h => c_int h
theorem Pu.loc {x : Str} {p : Pos} {i : Int} (hl : l.lookup x = some (.int i)) (hx : env.kindOf x = some .local) (hd : (x == ("__debug__" : Str)) = false) : Pu env l led (.Name x p) i := by
  unfold Pu; exact fun _ _ _ _ _ _ _ _ _ S hk h => ld_i S hl (fun t => h t _) rfl hk hx hd
theorem Pu.cell {x : Str} {p : Pos} {i : Int} {c : Addr} (hc : env.cells.lookup x = some c) (hm : (c, IsCellV (.int i)) ∈ led) (hx : env.kindOf x = some .cell) (hd : (x == ("__debug__" : Str)) = false) : Pu env l led (.Name x p) i := by
  unfold Pu; exact fun _ _ _ _ _ _ _ _ _ S hk h => ldc_i S hc hm (fun t => h t _) hk hx hd
theorem Pu.bin {e f : Expr} {op : Operator} {p : Pos} {i j r : Int} (x : Pu env l led e i) (y : Pu env l led f j) (z : OpIs op i j r) : Pu env l led (.BinOp e op f p) r := by
  unfold Pu at x y ⊢; exact fun _ _ _ _ _ _ _ _ _ S hk h => wpAny_BinOp (x _ _ _ _ _ _ _ _ _ S hk fun _ _ => y _ _ _ _ _ _ _ _ _ S hk fun _ _ => o_bin z h)
theorem pu_go {e : Expr} {i : Int} (S : St g env.locals h0 l led) (P : Pu env l led e i) (h : ∀ t tk, Q (.int i t) (sh s h0 tk)) (hk : env.scope.kind = .function := by exact rfl) : wpAny (model prog w) A (eval e env) Q E (sh s h0 tk0) := by
  unfold Pu at P; exact P _ _ _ _ _ _ _ _ _ S hk h
theorem o_neg (h : ∀ t tk, Q (.int (-a) t) (sh s h0 tk)) : wpAny (model prog w) A (unaryOp .USub (.int a t)) Q E (sh s h0 tk0) := PyProof.Rows.neg_int (h _ _)
theorem k_max (hA : Room A 0) (S : St g L h0 l led) (h : ∀ t h' tk, St g L h' l led → Sub h0 h' → Q (.int (if a < b then b else a) t) (sh s h' tk)) : wpAny (model prog w) A (call (.builtin "max") [.int a t, .int b u]) Q E (sh s h0 tk0) :=
  max_two_ints hA.h fun h' tk hk => by
    by_cases c : b > a
    · have := h u h' tk (S.ch0 hk) hk; rw [if_pos c] at this ⊢; exact this
    · have := h t h' tk (S.ch0 hk) hk; rw [if_neg c] at this ⊢; exact this
theorem k_min (hA : Room A 0) (S : St g L h0 l led) (h : ∀ t h' tk, St g L h' l led → Sub h0 h' → Q (.int (if b < a then b else a) t) (sh s h' tk)) : wpAny (model prog w) A (call (.builtin "min") [.int a t, .int b u]) Q E (sh s h0 tk0) :=
  min_two_ints hA.h fun h' tk hk => by
    by_cases c : b < a
    · have := h u h' tk (S.ch0 hk) hk; rw [if_pos c] at this ⊢; exact this
    · have := h t h' tk (S.ch0 hk) hk; rw [if_neg c] at this ⊢; exact this
theorem k_abs (h : ∀ t tk, Q (.int (if a < 0 then -a else a) t) (sh s h0 tk)) : wpAny (model prog w) A (call (.builtin "abs") [.int a t]) Q E (sh s h0 tk0) := call_abs_int fun u tk => h u tk
theorem k_int (h : ∀ t tk, Q (.int a t) (sh s h0 tk)) : wpAny (model prog w) A (call (.type "int") [.int a t]) Q E (sh s h0 tk0) := PySem.call_int_int (h _ _)
theorem k_intb {b : Bool} (h : ∀ t tk, Q (.int (if b then 1 else 0) t) (sh s h0 tk)) : wpAny (model prog w) A (call (.type "int") [.bool b]) Q E (sh s h0 tk0) := PySem.call_int_bool (h _ _)
theorem k_len_ints {ll : Addr} {ns : List Int} (hl : IL h0 ll ns) (hf : (ns.length : Int) < 2 ^ 63) (h : ∀ t tk, Q (.int ns.length t) (sh s h0 tk)) : wpAny (model prog w) A (call (.builtin "len") [.ref ll]) Q E (sh s h0 tk0) := by
  obtain ⟨vs, hl', hi⟩ := hl.list
  have e : vs.toArray.size = ns.length := by simp [hi.length]
  exact call_len_list (s := sh s h0 tk0) hl' (by rw [e]; exact hf) (by rw [e]; exact h _ _)
theorem k_len_refs {ll : Addr} {as : List Addr} (hl : RL h0 ll as) (hf : (as.length : Int) < 2 ^ 63) (h : ∀ t tk, Q (.int as.length t) (sh s h0 tk)) : wpAny (model prog w) A (call (.builtin "len") [.ref ll]) Q E (sh s h0 tk0) := by
  have e : (as.map Value.ref).toArray.size = as.length := by simp
  exact call_len_list (s := sh s h0 tk0) hl.list (by rw [e]; exact hf) (by rw [e]; exact h _ _)
/-- xs[k] of ints -/
theorem sub_ints {value slice : Expr} {ll : Addr} {ns : List Int} {k : Int} {x : Int} (hl : IL h0 ll ns) (h0' : 0 ≤ k) (hhi : k < 2 ^ 63) (hx : ns[k.toNat]? = some x) (h : ∀ t, Q (.int x t) (sh s h0 tk0))
    (hs : subscripted slice false (.ref ll) (.int k u) = operate [.ref ll, .int k u] (getItem (.ref ll) (.int k u))) :
    wpAny (model prog w) A (subscriptTail value slice (.ref ll) (.int k u)) Q E (sh s h0 tk0) := by
  obtain ⟨vs, hl', hi⟩ := hl.list
  obtain ⟨t, ht⟩ := hi.get k.toNat x hx
  exact tail_any (s := sh s h0 tk0) hl'.typeIs slot_list_getitem.lookup (wpAny_getItem_list (s := sh s h0 tk0) hl' h0' hhi (by simpa using ht) (h t)) hs
theorem sub_refs {value slice : Expr} {ll : Addr} {as : List Addr} {k : Int} {x : Addr} (hl : RL h0 ll as) (h0' : 0 ≤ k) (hhi : k < 2 ^ 63) (hx : as[k.toNat]? = some x) (h : Q (.ref x) (sh s h0 tk0))
    (hs : subscripted slice false (.ref ll) (.int k u) = operate [.ref ll, .int k u] (getItem (.ref ll) (.int k u))) :
    wpAny (model prog w) A (subscriptTail value slice (.ref ll) (.int k u)) Q E (sh s h0 tk0) :=
  tail_any (s := sh s h0 tk0) hl.list.typeIs slot_list_getitem.lookup (wpAny_getItem_list (s := sh s h0 tk0) hl.list h0' hhi (by simp [hx]) h) hs
theorem ints_set : ∀ {vs : List Value} {ns : List Int} (i : Nat) (x : Int) (t : Tok), IntsAre vs ns → IntsAre (vs.set i (.int x t)) (ns.set i x)
  | _, _, _, _, _, .nil => by simp; exact .nil
  | _, _, 0, x, t, .cons _ _ r => .cons x t r
  | _, _, i + 1, x, t, .cons k u r => by simp only [List.set_cons_succ]; exact .cons k u (ints_set i x t r)
theorem set_ints {Q : Unit → Shared → Prop} {ll : Addr} {ns : List Int} {k x : Int} {led' : Led} (S : St g L h0 l led) (hm : (ll, IsInts ns) ∈ led) (h0' : 0 ≤ k) (hk : k < ns.length) (hf : k < 2 ^ 63)
    (hp : Put ll (IsInts (ns.set k.toNat x)) led led') (h : ∀ h', St g L h' l led' → Q () (sh s h' tk0)) : wpAny (model prog w) A (setItem (.ref ll) (.int k u) (.int x t)) Q E (sh s h0 tk0) := by
  obtain ⟨vs, hl, hi⟩ := IL.list (S.get hm)
  refine wpAny_setItem_list (s := sh s h0 tk0) hl h0' hf (by simp [hi.length]; omega) fun h' hl' hs => h h' (S.ch1 (Ch.of_same hs) hp (IL.of_list (vs := vs.set k.toNat (.int x t)) (by simpa using hl') (ints_set _ _ _ hi)))
theorem sub_led {Q : Value → Shared → Prop} {value slice : Expr} {ll : Addr} {ns : List Int} {k : Int} {x : Int} (S : St g L h0 l led) (hm : (ll, IsInts ns) ∈ led) (h0' : 0 ≤ k) (hhi : k < 2 ^ 63) (hx : ns[k.toNat]? = some x) (h : ∀ t, Q (.int x t) (sh s h0 tk0))
    (hs : subscripted slice false (.ref ll) (.int k u) = operate [.ref ll, .int k u] (getItem (.ref ll) (.int k u))) :
    wpAny (model prog w) A (subscriptTail value slice (.ref ll) (.int k u)) Q E (sh s h0 tk0) := sub_ints (S.get hm) h0' hhi hx h hs
/-- calls by a name -/
theorem cw_fn {Q : Value → Shared → Prop} {M : Model} {f : Addr} {pos : Pos} {e : Expr} {rest : List Expr} (B : Base w g) (hk : keepIn (KK w) (.ref f) = true)
    (h : wpAny M A (spliced (backTo pos (starEach (e :: rest) env))) (fun vs s₁ => Sub g s₁.heap ∧ wpAny M A (call (.ref f) vs) Q E s₁) E s)
    (he : starEach (e :: rest) env = (false, eval e env) :: starEach rest env := by rfl) (hplain : (backTo pos (starEach rest env)).any (·.1) = false := by rfl) :
    wpAny M A (callWith pos (.ref f) [] (backTo pos (starEach (e :: rest) env)) []) Q E s :=
  callWith_K B.k hk (wpAny_mono h (fun _ _ q => ⟨B.k.keeps q.1, q.2⟩) fun _ _ q => q) he hplain
theorem cw_fn1 {Q : Value → Shared → Prop} {M : Model} {f : Addr} {x : Value} {pos : Pos} {e : Expr} {rest : List Expr} (B : Base w g) (hk : keepIn (KK w) (.ref f) = true)
    (h : wpAny M A (spliced (backTo pos (starEach (e :: rest) env))) (fun vs s₁ => Sub g s₁.heap ∧ wpAny M A (call (.ref f) (x :: vs)) Q E s₁) E s)
    (he : starEach (e :: rest) env = (false, eval e env) :: starEach rest env := by rfl) (hplain : (backTo pos (starEach rest env)).any (·.1) = false := by rfl) :
    wpAny M A (callWith pos (.ref f) [x] (backTo pos (starEach (e :: rest) env)) []) Q E s :=
  callWith_K B.k hk (wpAny_mono h (fun _ _ q => ⟨B.k.keeps q.1, q.2⟩) fun _ _ q => q) he hplain
theorem cw_b {Q : Value → Shared → Prop} {M : Model} {f : String} {pos : Pos} {e : Expr} {rest : List Expr}
    (h : wpAny M A (spliced (backTo pos (starEach (e :: rest) env))) (fun vs s₁ => wpAny M A (call (.builtin f) vs) Q E s₁) E s)
    (he : starEach (e :: rest) env = (false, eval e env) :: starEach rest env := by rfl) (hplain : (backTo pos (starEach rest env)).any (·.1) = false := by rfl) :
    wpAny M A (callWith pos (.builtin f) [] (backTo pos (starEach (e :: rest) env)) []) Q E s := by
  rw [he] at h ⊢
  exact callWith_builtin (by show (false || (backTo pos (starEach rest env)).any (·.1)) = false; rw [hplain]; rfl) (evalArgs_plain h)
theorem cw_b1 {Q : Value → Shared → Prop} {M : Model} {f : String} {x : Value} {pos : Pos} {e : Expr} {rest : List Expr}
    (h : wpAny M A (spliced (backTo pos (starEach (e :: rest) env))) (fun vs s₁ => wpAny M A (call (.builtin f) (x :: vs)) Q E s₁) E s)
    (he : starEach (e :: rest) env = (false, eval e env) :: starEach rest env := by rfl) (hplain : (backTo pos (starEach rest env)).any (·.1) = false := by rfl) :
    wpAny M A (callWith pos (.builtin f) [x] (backTo pos (starEach (e :: rest) env)) []) Q E s := by
  rw [he] at h ⊢
  exact callWith_builtin (by show (false || (backTo pos (starEach rest env)).any (·.1)) = false; rw [hplain]; rfl) (evalArgs_plain h)
theorem cw_t {Q : Value → Shared → Prop} {M : Model} {f : String} {pos : Pos} {e : Expr} {rest : List Expr}
    (h : wpAny M A (spliced (backTo pos (starEach (e :: rest) env))) (fun vs s₁ => wpAny M A (call (.type f) vs) Q E s₁) E s)
    (he : starEach (e :: rest) env = (false, eval e env) :: starEach rest env := by rfl) (hplain : (backTo pos (starEach rest env)).any (·.1) = false := by rfl) :
    wpAny M A (callWith pos (.type f) [] (backTo pos (starEach (e :: rest) env)) []) Q E s := by
  rw [he] at h ⊢
  exact PyProof.Rows.callWith_type (by show (false || (backTo pos (starEach rest env)).any (·.1)) = false; rw [hplain]; rfl) (evalArgs_plain h)
end
end
end Mine
end

-- layer, part 4
section
open PySem PySem.Calls PySem.W PyProof.Rows
namespace Mine
section
variable {prog : Program} {w : World} {A : Around} {E : Value → Shared → Prop} {s : Shared} {h0 h1 : Heap} {tk0 : Nat} {g : Heap} {L : Addr} {l : Loc} {led : Led} {env : Env} {a b : Int} {t u : Tok}

/-- a step that turns only what stands apart from all that is known -/
theorem St.off (S : St g L h0 l led) {ds : List Addr} (hc : Ch ds h0 h1) (hd : ∀ d ∈ ds, g.get? d = none ∧ d ≠ L ∧ d ∉ led.map (·.1)) : St g L h1 l led := by
  refine ⟨let ⟨m, n, e⟩ := S.ns; ⟨m, n.at' fun o q => hc _ o q fun hm => (hd _ hm).2.1 rfl, e⟩, fun b o q => hc b o (S.keep b o q) fun hm => ?_, S.gl, fun p hp => ?_, S.ne, S.fresh, S.nd⟩
  · rw [(hd _ hm).1] at q; cases q
  · obtain ⟨o, ho, q⟩ := S.at' p hp
    exact ⟨o, hc _ o ho fun hm => (hd _ hm).2.2 (List.mem_map_of_mem hp), q⟩

def IsVals (ys : List Value) (o : Obj) : Prop := ∃ n, o = { cls := .type "list", data := .seq ys.toArray n }
def IsRangeO (a b : Int) (o : Obj) : Prop := ∃ t u v, o = { cls := .type "range", dict := none, data := .fields #[.int a t, .int b u, .int 1 v], slots := #[] }

theorem St.ne_of {g h : Heap} {L : Addr} {l : Loc} {led : Led} (S : St g L h l led) {b : Addr} {o : Obj} (hb : g.get? b = some o) : b ≠ L ∧ b ∉ led.map (·.1) := by
  refine ⟨?_, fun q => ?_⟩
  · rintro rfl; rw [S.gl] at hb; cases hb
  · obtain ⟨p, hp, e⟩ := List.mem_map.mp q
    have := S.fresh p hp
    rw [e, hb] at this; cases this

/-- what a source of a loop keeps of the ground: it turns wr alone and leans on fp -/
structure Src (g : Heap) (L : Addr) (led : Led) (fp wr : List Addr) (Sti : Nat → Heap → Prop) : Prop where
  f : ∀ b ∈ fp, b ∈ wr ∨ ∃ o, g.get? b = some o
  r : ∀ b ∈ wr, g.get? b = none ∧ b ≠ L ∧ b ∉ led.map (·.1)
  ex : ∀ i h, Sti i h → ∀ b ∈ wr, ∃ o, h.get? b = some o

theorem for_walks {I : Addr} {fp wr : List Addr} {n : Nat} {P : Nat → Value → Prop} {Sti : Nat → Heap → Prop} (W : Walks prog w A I fp wr n P Sti) {x : Str} {px : Pos} {body : List Stmt} {R : Result → Shared → Prop}
    (Inv : Nat → Loc → Led → Prop) (S : St g env.locals h0 l led) (B : Base w g) (hst : Sti 0 h0) (hI : Inv 0 l led) (X : Src g env.locals led fp wr Sti)
    (hk : env.scope.kind = .function) (hx : env.kindOf x = some .local)
    (turn : ∀ i v gb h tk l' led', i < n → P i v → Base w gb → Sub g gb → Inv i l' led' → St gb env.locals h ((x, toVs v) :: l') led' →
      wpAny (model prog w) A (execs body env) (fun f s' => f = .next ∧ ∃ h' tk' l'' led'', s' = sh s h' tk' ∧ St gb env.locals h' l'' led'' ∧ Inv (i + 1) l'' led'') NoE (sh s h tk))
    (done : ∀ h' tk l' led', St g env.locals h' l' led' → Inv n l' led' → R (.ok .next) (sh s h' tk)) :
    codeAny (model prog w) A (.forLoop (.Name x px) (.ref I) body [] env) R (sh s h0 tk0) := by
  refine codeAny_forLoop (fun k s' => ∃ i h' tk l' led', s' = sh s h' tk ∧ Sti i h' ∧ St g env.locals h' l' led' ∧ Inv i l' led' ∧ i ≤ n ∧ k = n + 1 - i ∧ ∀ b ∈ wr, b ∉ led'.map (·.1)) ?_ (n + 1)
    ⟨0, h0, tk0, l, led, rfl, hst, S, hI, Nat.zero_le _, rfl, fun b hb => (X.r b hb).2.2⟩
  rintro k s' ⟨i, h', tk, l', led', rfl, hst', S', hI', hi, rfl, hap⟩
  by_cases hlt : i < n
  · refine W.item i (sh s h' tk) _ _ hlt hst' fun v h₁ tk₁ hP hst₁ hk₁ => ?_
    have S₁ : St g env.locals h₁ l' led' := S'.off (ds := wr) (fun b o e q => hk₁ b o q e) fun d hd => ⟨(X.r d hd).1, (X.r d hd).2.1, hap d hd⟩
    obtain ⟨gb, hgg, hgh, Sb, hall⟩ := S₁.freeze
    have hfp : ∀ b ∈ fp, ∀ o, h₁.get? b = some o → gb.get? b = some o := fun b hb o e => by
      rcases X.f b hb with hw | ⟨o', ho'⟩
      · exact hall b o e (X.r b hw).2.1 (hap b hw)
      · have := S₁.ne_of ho'
        exact hall b o e this.1 this.2
    refine wpAny_assign_Name (st_l (s := s) (tk0 := tk₁) Sb (toVs_is v) (fun h₂ tk₂ S₂ => ?_) rfl hk hx)
    refine wpAny_mono (turn i v gb h₂ tk₂ l' led' hlt hP (B.keeps hgg) hgg hI' S₂) (fun f s₃ q => ?_) fun _ _ q => q.elim
    obtain ⟨rfl, h₃, tk₃, l₃, led₃, rfl, S₃, hI₃⟩ := q
    refine ⟨n + 1 - (i + 1), by omega, i + 1, h₃, tk₃, l₃, led₃, rfl, W.frame _ _ _ hst₁ fun b hb o e => S₃.keep _ _ (hfp b hb o e), S₃.weak hgg, hI₃, hlt, rfl, fun b hb => ?_⟩
    obtain ⟨o, ho⟩ := X.ex _ _ hst₁ b hb
    exact (S₃.ne_of (hall b o ho (X.r b hb).2.1 (hap b hb))).2
  · have hin : i = n := by omega
    subst hin
    refine W.done (sh s h' tk) _ _ hst' fun h₁ tk₁ hk₁ => wpAny_execs_nil ?_
    exact done h₁ tk₁ l' led' (S'.off (ds := wr) (fun b o e q => hk₁ b o q e) fun d hd => ⟨(X.r d hd).1, (X.r d hd).2.1, hap d hd⟩) hI'

theorem for_walks_c {c : Addr} {I : Addr} {fp wr : List Addr} {n : Nat} {P : Nat → Value → Prop} {Sti : Nat → Heap → Prop} (W : Walks prog w A I fp wr n P Sti) {x : Str} {px : Pos} {body : List Stmt} {R : Result → Shared → Prop}
    (Inv : Nat → Loc → Led → Prop) (S : St g env.locals h0 l ((c, IsCellA) :: led)) (B : Base w g) (hst : Sti 0 h0) (hI : Inv 0 l led) (X : Src g env.locals ((c, IsCellA) :: led) fp wr Sti)
    (hk : env.scope.kind = .function) (hx : env.kindOf x = some .cell) (hc : env.cells.lookup x = some c)
    (turn : ∀ i v gb h tk l' led', i < n → P i v → Base w gb → Sub g gb → Inv i l' led' → St gb env.locals h l' ((c, IsCellV (toVs v)) :: led') →
      wpAny (model prog w) A (execs body env) (fun f s' => f = .next ∧ ∃ h' tk' l'' led'', s' = sh s h' tk' ∧ St gb env.locals h' l'' ((c, IsCellA) :: led'') ∧ Inv (i + 1) l'' led'') NoE (sh s h tk))
    (done : ∀ h' tk l' led', St g env.locals h' l' ((c, IsCellA) :: led') → Inv n l' led' → R (.ok .next) (sh s h' tk)) :
    codeAny (model prog w) A (.forLoop (.Name x px) (.ref I) body [] env) R (sh s h0 tk0) := by
  refine codeAny_forLoop (fun k s' => ∃ i h' tk l' led', s' = sh s h' tk ∧ Sti i h' ∧ St g env.locals h' l' ((c, IsCellA) :: led') ∧ Inv i l' led' ∧ i ≤ n ∧ k = n + 1 - i ∧ ∀ b ∈ wr, b ∉ ((c, IsCellA) :: led').map (·.1)) ?_ (n + 1)
    ⟨0, h0, tk0, l, led, rfl, hst, S, hI, Nat.zero_le _, rfl, fun b hb => (X.r b hb).2.2⟩
  rintro k s' ⟨i, h', tk, l', led', rfl, hst', S', hI', hi, rfl, hap⟩
  by_cases hlt : i < n
  · refine W.item i (sh s h' tk) _ _ hlt hst' fun v h₁ tk₁ hP hst₁ hk₁ => ?_
    have S₁ : St g env.locals h₁ l' ((c, IsCellA) :: led') := S'.off (ds := wr) (fun b o e q => hk₁ b o q e) fun d hd => ⟨(X.r d hd).1, (X.r d hd).2.1, hap d hd⟩
    obtain ⟨gb, hgg, hgh, Sb, hall⟩ := S₁.freeze
    have hfp : ∀ b ∈ fp, ∀ o, h₁.get? b = some o → gb.get? b = some o := fun b hb o e => by
      rcases X.f b hb with hw | ⟨o', ho'⟩
      · exact hall b o e (X.r b hw).2.1 (hap b hw)
      · have := S₁.ne_of ho'
        exact hall b o e this.1 this.2
    refine wpAny_assign_Name (st_c (s := s) (tk0 := tk₁) Sb (toVs_is v) hc .head ⟨_, .head _, fun _ z => z⟩ (fun h₂ S₂ => ?_) hk hx)
    refine wpAny_mono (turn i v gb h₂ tk₁ l' led' hlt hP (B.keeps hgg) hgg hI' S₂) (fun f s₃ q => ?_) fun _ _ q => q.elim
    obtain ⟨rfl, h₃, tk₃, l₃, led₃, rfl, S₃, hI₃⟩ := q
    refine ⟨n + 1 - (i + 1), by omega, i + 1, h₃, tk₃, l₃, led₃, rfl, W.frame _ _ _ hst₁ fun b hb o e => S₃.keep _ _ (hfp b hb o e), S₃.weak hgg, hI₃, hlt, rfl, fun b hb => ?_⟩
    obtain ⟨o, ho⟩ := X.ex _ _ hst₁ b hb
    exact (S₃.ne_of (hall b o ho (X.r b hb).2.1 (hap b hb))).2
  · have hin : i = n := by omega
    subst hin
    refine W.done (sh s h' tk) _ _ hst' fun h₁ tk₁ hk₁ => wpAny_execs_nil ?_
    exact done h₁ tk₁ l' led' (S'.off (ds := wr) (fun b o e q => hk₁ b o q e) fun d hd => ⟨(X.r d hd).1, (X.r d hd).2.1, hap d hd⟩) hI'

theorem St.hd_ne {d : Addr} {Φ : Obj → Prop} (S : St g L h0 l ((d, Φ) :: led)) : d ∉ led.map (·.1) := by
  have := S.nd
  simp only [List.map_cons, List.nodup_cons] at this
  exact this.1
theorem St.drop {p : Addr × (Obj → Prop)} (S : St g L h0 l (p :: led)) : St g L h0 l led := S.sub_led (List.sublist_cons_self _ _)

theorem srcRange (S : St g L h0 l led) {hh : Heap} (hf : g.get? hh.objs.size = none) (hL : hh.objs.size ≠ L) (hl : hh.objs.size ∉ led.map (·.1)) (a c : Int) (n : Nat) :
    Src g L led [hh.objs.size] [hh.objs.size] (fun i h => IsRangeIter h hh.objs.size (a + (i : Nat) * c) ((n : Int) - (i : Nat)) c) where
  f := fun b hb => .inl hb
  r := fun b hb => by rw [List.mem_singleton.mp hb]; exact ⟨hf, hL, hl⟩
  ex := fun i h e b hb => by rw [List.mem_singleton.mp hb]; exact ⟨_, e⟩

theorem St.size_new (S : St g L h0 l led) : g.get? h0.objs.size = none ∧ h0.objs.size ≠ L ∧ h0.objs.size ∉ led.map (·.1) := by
  have hf := fresh_size h0 (Nat.le_refl _)
  refine ⟨S.keep.none hf, ?_, fun q => ?_⟩
  · intro e
    obtain ⟨m, n, _⟩ := S.ns
    obtain ⟨o, ho⟩ := Ns.some n
    rw [← e, hf] at ho; cases ho
  · obtain ⟨p, hp, e⟩ := List.mem_map.mp q
    obtain ⟨o, ho, _⟩ := S.at' p hp
    rw [e, hf] at ho; cases ho

theorem for_range {r : Addr} {x : Str} {px : Pos} {body : List Stmt} {Q : Flow → Shared → Prop} (Inv : Nat → Loc → Led → Prop) (hA : Room A 0) (S : St g env.locals h0 l ((r, IsRangeO a b) :: led)) (B : Base w g)
    (ha : -(2 ^ 62) ≤ a) (ha' : a < 2 ^ 62) (hb : -(2 ^ 62) ≤ b) (hb' : b < 2 ^ 62) (hI : Inv 0 l led) (hk : env.scope.kind = .function) (hx : env.kindOf x = some .local)
    (turn : ∀ (i : Nat) gb h tk l' led', i < (b - a).toNat → Base w gb → Sub g gb → Inv i l' led' → St gb env.locals h ((x, .int (a + i)) :: l') led' →
      wpAny (model prog w) A (execs body env) (fun f s' => f = .next ∧ ∃ h' tk' l'' led'', s' = sh s h' tk' ∧ St gb env.locals h' l'' led'' ∧ Inv (i + 1) l'' led'') NoE (sh s h tk))
    (done : ∀ h' tk l' led', St g env.locals h' l' led' → Inv (b - a).toNat l' led' → Q .next (sh s h' tk)) :
    wpAny (model prog w) A (pyIter (.ref r)) (fun it s₂ => codeAny (model prog w) A (.forLoop (.Name x px) it body [] env) (fun r s' => match r with | .ok f => Q f s' | .error e => cameBackBy (model prog w) A env E e s') s₂) E (sh s h0 tk0) := by
  obtain ⟨o, ho, t, u, v, rfl⟩ := S.get (.head _)
  refine wpAny_pyIter_range (s := sh s h0 tk0) ho (small_one ha ha' hb hb') ?_
  have S0 := S.drop
  have nw := S0.size_new
  refine for_walks (s := s) (tk0 := tk0) (h0 := h0.push _) (Walks.range hA.h h0.objs.size a 1 (b - a).toNat) Inv (S0.ch0 (Sub.push _ _)) B ?_ hI (srcRange S0 nw.1 nw.2.1 nw.2.2 a 1 _) hk hx ?_ done
  · show IsRangeIter _ _ _ _ _
    rw [rangeSize_nat]
    simpa using Heap.get?_push_size h0 rfl
  · rintro i v gb h tk l' led' hi ⟨t, rfl⟩ Bg hg hI' S'
    have e : a + (i : Int) * 1 = a + i := by omega
    rw [e] at S'
    exact turn i gb h tk l' led' hi Bg hg hI' S'

/-- the same from nought on, with what comes behind a turn as one letter -/
theorem for_range1 {r : Addr} {x : Str} {px : Pos} {body : List Stmt} {Q : Flow → Shared → Prop} (Inv : Nat → Loc → Led → Prop) (hA : Room A 0) (S : St g env.locals h0 l ((r, IsRangeO 0 b) :: led)) (B : Base w g)
    (hb : -(2 ^ 62) ≤ b) (hb' : b < 2 ^ 62) (hI : Inv 0 l led) (hk : env.scope.kind = .function) (hx : env.kindOf x = some .local)
    (turn : ∀ (i : Nat) gb h tk l' led' K, (i : Int) < b → Base w gb → Sub g gb → Inv i l' led' → St gb env.locals h ((x, .int i) :: l') led' → (∀ h' tk' l'' led'', St gb env.locals h' l'' led'' → Inv (i + 1) l'' led'' → K .next (sh s h' tk')) →
      wpAny (model prog w) A (execs body env) K NoE (sh s h tk))
    (done : ∀ h' tk l' led', St g env.locals h' l' led' → Inv b.toNat l' led' → Q .next (sh s h' tk)) :
    wpAny (model prog w) A (pyIter (.ref r)) (fun it s₂ => codeAny (model prog w) A (.forLoop (.Name x px) it body [] env) (fun r s' => match r with | .ok f => Q f s' | .error e => cameBackBy (model prog w) A env E e s') s₂) E (sh s h0 tk0) := by
  refine for_range Inv hA S B (by decide) (by decide) hb hb' hI hk hx (fun i gb h tk l' led' hi Bb hg hI' S' => ?_) (fun h' tk l' led' S' hI' => done h' tk l' led' S' (Int.sub_zero b ▸ hI'))
  rw [Int.zero_add] at S'
  exact turn i gb h tk l' led' _ (by omega) Bb hg hI' S' fun h' tk' l'' led'' S'' I'' => ⟨rfl, _, _, _, _, rfl, S'', I''⟩
theorem for_range0 {r : Addr} {x : Str} {px : Pos} {body : List Stmt} {Q : Flow → Shared → Prop} (fl : Nat → Loc) (fd : Nat → Led) (hA : Room A 0) (S : St g env.locals h0 l ((r, IsRangeO 0 b) :: led)) (B : Base w g)
    (hb : -(2 ^ 62) ≤ b) (hb' : b < 2 ^ 62) (hl : l = fl 0) (hd : led = fd 0) (hk : env.scope.kind = .function) (hx : env.kindOf x = some .local)
    (turn : ∀ (i : Nat) gb h tk K, (i : Int) < b → Base w gb → Sub g gb → St gb env.locals h ((x, .int i) :: fl i) (fd i) → (∀ h' tk', St gb env.locals h' (fl (i + 1)) (fd (i + 1)) → K .next (sh s h' tk')) →
      wpAny (model prog w) A (execs body env) K NoE (sh s h tk))
    (done : ∀ h' tk, St g env.locals h' (fl b.toNat) (fd b.toNat) → Q .next (sh s h' tk)) :
    wpAny (model prog w) A (pyIter (.ref r)) (fun it s₂ => codeAny (model prog w) A (.forLoop (.Name x px) it body [] env) (fun r s' => match r with | .ok f => Q f s' | .error e => cameBackBy (model prog w) A env E e s') s₂) E (sh s h0 tk0) :=
  for_range1 (fun i l led => l = fl i ∧ led = fd i) hA S B hb hb' ⟨hl, hd⟩ hk hx (fun i gb h tk l' led' K hi Bb hg hI S' hK => turn i gb h tk K hi Bb hg (hI.1 ▸ hI.2 ▸ S') fun h' tk' S'' => hK h' tk' _ _ S'' ⟨rfl, rfl⟩)
    fun h' tk l' led' S' hI => done h' tk (hI.1 ▸ hI.2 ▸ S')

theorem for_range_c {c : Addr} {r : Addr} {x : Str} {px : Pos} {body : List Stmt} {Q : Flow → Shared → Prop} (Inv : Nat → Loc → Led → Prop) (hA : Room A 0) (S : St g env.locals h0 l ((r, IsRangeO a b) :: (c, IsCellA) :: led)) (B : Base w g)
    (ha : -(2 ^ 62) ≤ a) (ha' : a < 2 ^ 62) (hb : -(2 ^ 62) ≤ b) (hb' : b < 2 ^ 62) (hI : Inv 0 l led) (hk : env.scope.kind = .function) (hx : env.kindOf x = some .cell) (hc : env.cells.lookup x = some c)
    (turn : ∀ (i : Nat) gb h tk l' led', i < (b - a).toNat → Base w gb → Sub g gb → Inv i l' led' → St gb env.locals h l' ((c, IsCellV (.int (a + i))) :: led') →
      wpAny (model prog w) A (execs body env) (fun f s' => f = .next ∧ ∃ h' tk' l'' led'', s' = sh s h' tk' ∧ St gb env.locals h' l'' ((c, IsCellA) :: led'') ∧ Inv (i + 1) l'' led'') NoE (sh s h tk))
    (done : ∀ h' tk l' led', St g env.locals h' l' ((c, IsCellA) :: led') → Inv (b - a).toNat l' led' → Q .next (sh s h' tk)) :
    wpAny (model prog w) A (pyIter (.ref r)) (fun it s₂ => codeAny (model prog w) A (.forLoop (.Name x px) it body [] env) (fun r s' => match r with | .ok f => Q f s' | .error e => cameBackBy (model prog w) A env E e s') s₂) E (sh s h0 tk0) := by
  obtain ⟨o, ho, t, u, v, rfl⟩ := S.get (.head _)
  refine wpAny_pyIter_range (s := sh s h0 tk0) ho (small_one ha ha' hb hb') ?_
  have S0 := S.drop
  have nw := S0.size_new
  refine for_walks_c (s := s) (tk0 := tk0) (h0 := h0.push _) (Walks.range hA.h h0.objs.size a 1 (b - a).toNat) Inv (S0.ch0 (Sub.push _ _)) B ?_ hI (srcRange S0 nw.1 nw.2.1 nw.2.2 a 1 _) hk hx hc ?_ done
  · show IsRangeIter _ _ _ _ _
    rw [rangeSize_nat]
    simpa using Heap.get?_push_size h0 rfl
  · rintro i v gb h tk l' led' hi ⟨t, rfl⟩ Bg hg hI' S'
    have e : a + (i : Int) * 1 = a + i := by omega
    rw [e] at S'
    exact turn i gb h tk l' led' hi Bg hg hI' S'

section
variable {Q : Value → Shared → Prop}
theorem k_range2 (S : St g L h0 l led) (h : ∀ r h' tk, St g L h' l ((r, IsRangeO a b) :: led) → Sub h0 h' → Q (.ref r) (sh s h' tk)) : wpAny (model prog w) A (call (.type "range") [.int a t, .int b u]) Q E (sh s h0 tk0) :=
  call_range_2 (s := sh s h0 tk0) (h _ _ _ (S.push rfl ⟨_, _, _, rfl⟩) (Sub.push _ _))
theorem k_range1 (S : St g L h0 l led) (h : ∀ r h' tk, St g L h' l ((r, IsRangeO 0 b) :: led) → Sub h0 h' → Q (.ref r) (sh s h' tk)) : wpAny (model prog w) A (call (.type "range") [.int b u]) Q E (sh s h0 tk0) :=
  call_range_1 (s := sh s h0 tk0) (h _ _ _ (S.push rfl ⟨_, _, _, rfl⟩) (Sub.push _ _))

/-- a written list -/
def DispK (Q : Value → Shared → Prop) (vs : List Value) (s₁ : Shared) : Prop := vs.length ≤ sizeLine ∧ Q (.ref s₁.heap.objs.size) { s₁ with heap := s₁.heap.push { cls := .type "list", data := .seq vs.toArray } }
theorem l_disp {M : Model} {elts : List Expr} {pos : Pos} (h : wpAny M A (spliced (backTo pos (starEach elts env))) (DispK Q) E (sh s h0 tk0)) : wpAny M A (eval (.List elts pos) env) Q E (sh s h0 tk0) := wpAny_List h
theorem disp_ints {vs : List Value} {ns : List Int} (S : St g L h0 l led) (hi : IntsAre vs ns) (hn : ns.length ≤ 1000) (h : ∀ D h' tk, h0.get? D = none → St g L h' l ((D, IsIntsP ns) :: led) → Sub h0 h' → Q (.ref D) (sh s h' tk)) : DispK Q vs (sh s h0 tk0) :=
  ⟨by rw [hi.length]; exact Nat.le_trans hn (by rw [sizeLine_eq]; decide), h _ _ _ (fresh_size h0 (Nat.le_refl _)) (S.push rfl ⟨_, _, rfl, hi⟩) (Sub.push _ _)⟩
theorem disp_refs {as : List Addr} (S : St g L h0 l led) (hn : as.length ≤ 1000) (h : ∀ D h' tk, h0.get? D = none → St g L h' l ((D, IsRefs as) :: led) → Sub h0 h' → Q (.ref D) (sh s h' tk)) : DispK Q (as.map .ref) (sh s h0 tk0) :=
  ⟨by rw [List.length_map]; exact Nat.le_trans hn (by rw [sizeLine_eq]; decide), h _ _ _ (fresh_size h0 (Nat.le_refl _)) (S.push rfl ⟨_, rfl⟩) (Sub.push _ _)⟩
end
end
end Mine
end

-- layer, part 5
section
open PySem PySem.Calls PySem.W PyProof.Rows
namespace Mine
section
variable {prog : Program} {w : World} {A : Around} {E : Value → Shared → Prop} {s : Shared} {h0 h1 : Heap} {tk0 : Nat} {g : Heap} {L : Addr} {l : Loc} {led : Led} {env : Env} {a b : Int} {t u : Tok}

/-- the block of a comprehension of one clause, behind its source's iterator -/
def CompK (prog : Program) (w : World) (A : Around) (E : Value → Shared → Prop) (env : Env) (elt iter : Expr) (x : Str) (px : Pos) (scope : Scope) (cl : List (Str × Addr)) (pos : Pos) (use : Option (Value → Sem Unit)) (Q : Value → Shared → Prop) (it : Value) (s₂ : Shared) : Prop :=
  wpAny (model prog w) A (newList []) (fun acc s₃ => wpAny (model prog w) A (newFunctionEnv scope env.globals cl [] env.qual none .none (some env)) (fun cenv s₄ =>
    codeAny (model prog w) A (.compStart (.ListComp elt [⟨.Name x px, iter, [], 0⟩] scope pos) 0 it acc { cenv with scope := relabel scope env }) (compPost (model prog w) A E use Q acc cenv.locals) s₄) E s₃) E s₂

theorem lc_eval {elt iter : Expr} {x : Str} {px pos : Pos} {scope : Scope} {cl : List (Str × Addr)} {Q : Value → Shared → Prop}
    (h : wpAny (model prog w) A (eval iter env) (fun xv s₁ => wpAny (model prog w) A (pyIter xv) (CompK prog w A E env elt iter x px scope cl pos none Q) E s₁) E s)
    (hclos : closureFor scope env = pure cl) (hkind : scope.kind = .function) (hnames : ∀ y ∈ scope.names, y.2 = .local → scope.names.lookup y.1 = some .local)
    (hs : ∀ x, foldedSetIterable iter env x = pure x := by intro _; rfl) :
    wpAny (model prog w) A (eval (.ListComp elt [⟨.Name x px, iter, [], 0⟩] scope pos) env) Q E s := by
  rw [eval_ListComp]
  exact wpAny_comprehension_free (use := none) rfl hs hclos hkind hnames h
theorem lc_assign {elt iter : Expr} {x y : Str} {px py pos spos : Pos} {scope : Scope} {cl : List (Str × Addr)} {Q : Flow → Shared → Prop}
    (h : wpAny (model prog w) A (eval iter env) (fun xv s₁ => wpAny (model prog w) A (pyIter xv) (CompK prog w A E env elt iter x px scope cl pos (some (assign (.Name y py) env)) (fun _ s' => Q .next s')) E s₁) E s)
    (hsw : swapsWith (.ListComp elt [⟨.Name x px, iter, [], 0⟩] scope pos) (some (.Name y py)) spos.line env = pure true)
    (hclos : closureFor scope env = pure cl) (hkind : scope.kind = .function) (hnames : ∀ y ∈ scope.names, y.2 = .local → scope.names.lookup y.1 = some .local)
    (hs : ∀ x, foldedSetIterable iter env x = pure x := by intro _; rfl) :
    wpAny (model prog w) A (exec (.Assign [.Name y py] (.ListComp elt [⟨.Name x px, iter, [], 0⟩] scope pos) spos) env) Q E s := by
  rw [exec_Assign_Name_used _ _ _ _ hsw]
  refine wpAny_bind (wpAny_standAt (wpAny_bind ?_))
  show wpAny _ A (do let _ ← comprehension (.ListComp elt [⟨.Name x px, iter, [], 0⟩] scope pos) scope env _ (newList []) false (eval iter env) (some (assign (.Name y py) env))) _ _ s
  exact wpAny_bind (wpAny_mono (wpAny_comprehension_free (use := some (assign (.Name y py) env)) (Q := fun _ s' => Q .next s') rfl hs hclos hkind hnames h) (fun _ s' hq => wpAny_pure (wpAny_pure hq)) fun _ _ e => e)

theorem comp_walks {I : Addr} {fp wr : List Addr} {n : Nat} {P : Nat → Value → Prop} {Sti : Nat → Heap → Prop} (W : Walks prog w A I fp wr n P Sti)
    {elt iter : Expr} {x : Str} {px pos : Pos} {scope : Scope} {cl : List (Str × Addr)} {use : Option (Value → Sem Unit)} {Q : Value → Shared → Prop}
    (Inv : Nat → List Value → Led → Prop) (S : St g L h0 l led) (B : Base w g) (hst : Sti 0 h0) (hI : Inv 0 [] led) (X : Src g L led fp wr Sti) (hsz : n ≤ sizeLine)
    (hcell : ∀ y ∈ scope.names, y.2 ≠ .cell) (hkind : scope.kind = .function) (hx : scope.names.lookup x = some .local)
    (turn : ∀ i v ys gb C h tk led', i < n → P i v → ys.length = i → Base w gb → Sub g gb → Inv i ys led' → St gb C h [(x, toVs v)] led' →
      wpAny (model prog w) A (eval elt (compEnvC scope cl C env)) (fun y s' => ∃ h' tk' led'', s' = sh s h' tk' ∧ St gb C h' [] led'' ∧ Inv (i + 1) (ys ++ [y]) led'') NoE (sh s h tk))
    (done : ∀ D C h' tk ys led', h0.get? D = none → C ≠ L → St g L h' l ((D, IsVals ys) :: led') → Inv n ys led' → ys.length = n → (∃ m, h'.Ns C m) → g.get? C = none → C ∉ ((D, IsVals ys) :: led').map (·.1) →
      compPost (model prog w) A E use Q (.ref D) C (.ok .next) (sh s h' tk)) :
    CompK prog w A E env elt iter x px scope cl pos use Q (.ref I) (sh s h0 tk0) := by
  unfold CompK
  refine wpAny_newObj_type (wpAny_newFunctionEnv hcell (by intro y hy; simp at hy) (fun h₁ hns₁ hsb₁ => ?_) hkind)
  dsimp only [sh] at hns₁ hsb₁ ⊢
  generalize hH2 : h0.push { cls := .type "list", dict := none, data := .seq ([] : List Value).toArray } = H2 at hns₁ hsb₁ ⊢
  have hC : H2.objs.size = h0.objs.size + 1 := by rw [← hH2, Heap.size_push]
  have hDC : h0.objs.size ≠ H2.objs.size := by rw [hC]; exact Nat.ne_of_lt (Nat.lt_succ_self _)
  have old : Sub h0 h₁ := fun b o e => hsb₁.extBut b o (by rw [hC]; exact Nat.ne_of_lt (Nat.lt_succ_of_lt (Heap.lt_size e))) (Heap.get?_push_of_some _ (hH2 ▸ Heap.get?_push_of_some _ e))
  have hacc : h₁.PlainList h0.objs.size #[] := ⟨_, hsb₁.extBut _ _ hDC (Heap.get?_push_of_some _ (hH2 ▸ Heap.get?_push_size _ rfl))⟩
  have nD := S.size_new
  have lt0 : ∀ b o, h0.get? b = some o → b ≠ H2.objs.size ∧ b ≠ h0.objs.size := fun b o e => by
    have := Heap.lt_size e
    exact ⟨by rw [hC]; exact Nat.ne_of_lt (Nat.lt_succ_of_lt this), Nat.ne_of_lt this⟩
  -- the ground of the block
  have hwC : ∀ b ∈ wr, b ≠ H2.objs.size ∧ b ≠ h0.objs.size := fun b hb => let ⟨o, e⟩ := X.ex _ _ hst b hb; lt0 b o e
  have ledC : ∀ p ∈ led, p.1 ≠ H2.objs.size ∧ p.1 ≠ h0.objs.size := fun p hp => let ⟨o, e, _⟩ := S.at' p hp; lt0 _ o e
  have S1 : St g L h₁ l led := S.ch0 old
  have gcC : g.get? H2.objs.size = none := S.keep.none (fresh_size h0 (by rw [hC]; exact Nat.le_succ _))
  -- gc: all of h₁ but C, D, wr, the ledger
  have hgc : ∀ b o, h₁.get? b = some o → b ≠ H2.objs.size → b ≠ h0.objs.size → b ∉ wr → b ∉ led.map (·.1) → (hideAll h₁ (H2.objs.size :: h0.objs.size :: (wr ++ led.map (·.1)))).get? b = some o := fun b o e n1 n2 n3 n4 =>
    hideAll_get _ e (by simp only [List.mem_cons, List.mem_append, not_or]; exact ⟨n1, n2, n3, n4⟩)
  generalize hgce : hideAll h₁ (H2.objs.size :: h0.objs.size :: (wr ++ led.map (·.1))) = gc at hgc
  have gcn : ∀ b, b = H2.objs.size ∨ b = h0.objs.size ∨ b ∈ wr ∨ b ∈ led.map (·.1) → gc.get? b = none := fun b hb => by
    rw [← hgce]
    exact hideAll_none _ (by
      rcases hb with rfl | rfl | h | h
      · exact .head _
      · exact .tail _ (.head _)
      · exact .tail _ (.tail _ (List.mem_append_left _ h))
      · exact .tail _ (.tail _ (List.mem_append_right _ h)))
  have gcs : Sub gc h₁ := fun b o e => by rw [← hgce] at e; exact of_hideAll _ e
  have ggc : Sub g gc := fun b o e => by
    have h2 := S.ne_of e
    have h3 := lt0 b o (S.keep b o e)
    exact hgc b o (old _ _ (S.keep b o e)) h3.1 h3.2 (fun hw => by rw [(X.r b hw).1] at e; cases e) h2.2
  have Sc : St gc H2.objs.size h₁ [] led :=
    ⟨⟨_, hns₁, fun x v e => by cases e⟩, gcs, gcn _ (.inl rfl), S1.at', fun p hp => (ledC p hp).1, fun p hp => gcn _ (.inr (.inr (.inr (List.mem_map_of_mem hp)))), S1.nd⟩
  have Bc : Base w gc := B.keeps ggc
  -- L's own object stands in gc
  obtain ⟨mL, nL, eL⟩ := S1.ns
  have nLc : gc.Ns L mL := nL.at' fun o e => by
    have hL0 : L ≠ H2.objs.size ∧ L ≠ h0.objs.size := by
      obtain ⟨m', n', _⟩ := S.ns
      obtain ⟨o', e'⟩ := Ns.some n'
      exact lt0 L o' e'
    refine hgc L o e hL0.1 hL0.2 (fun hw => (X.r L hw).2.1 rfl) fun hm => ?_
    obtain ⟨p, hp, ep⟩ := List.mem_map.mp hm
    exact S.ne p hp ep
  have hst₁ : Sti 0 h₁ := W.frame _ _ _ hst fun b _ o e => old b o e
  have loop : codeAny (model prog w) A (.compLoop (.ListComp elt [⟨.Name x px, iter, [], 0⟩] scope pos) 0 (.ref I) (.ref h0.objs.size) (compEnvC scope cl H2.objs.size env))
        (compPost (model prog w) A E use Q (.ref h0.objs.size) H2.objs.size) (sh s h₁ (tk0 + ([] : List (Str × Value)).length)) := by
    refine codeAny_compLoop_list (fun k s' => ∃ i h' tk l' led' ys, s' = sh s h' tk ∧ Sti i h' ∧ St gc H2.objs.size h' l' led' ∧ h'.PlainList h0.objs.size (List.toArray ys) ∧ ys.length = i ∧ Inv i ys led' ∧ i ≤ n ∧ k = n + 1 - i ∧
      (∀ b ∈ wr, b ∉ led'.map (·.1)) ∧ h0.objs.size ∉ led'.map (·.1)) ?_ (n + 1)
      ⟨0, h₁, _, [], led, [], rfl, hst₁, Sc, by simpa using hacc, rfl, hI, Nat.zero_le _, rfl, fun b hb => (X.r b hb).2.2, nD.2.2⟩
    rintro k s' ⟨i, h', tk, l', led', ys, rfl, hst', S', hD', hys, hI', hi, rfl, hap, hDl⟩
    have offw : ∀ d ∈ wr, gc.get? d = none ∧ d ≠ H2.objs.size ∧ d ∉ led'.map (·.1) := fun d hd => ⟨gcn _ (.inr (.inr (.inl hd))), (hwC d hd).1, hap d hd⟩
    have hDw : h0.objs.size ∉ wr := fun hm => (hwC _ hm).2 rfl
    by_cases hlt : i < n
    · refine W.item i (sh s h' tk) _ _ hlt hst' fun v h₂ tk₂ hP hst₂ hk₂ => ?_
      have S₂ : St gc H2.objs.size h₂ l' led' := S'.off (ds := wr) (fun b o e q => hk₂ b o q e) offw
      have hD₂ := hD'.at fun o e => hk₂ _ o hDw e
      obtain ⟨gb, hgg, hgh, Sb, hall⟩ := S₂.freeze
      have hfp : ∀ b ∈ fp, ∀ o, h₂.get? b = some o → gb.get? b = some o := fun b hb o e => by
        rcases X.f b hb with hw | ⟨o', ho'⟩
        · exact hall b o e (hwC b hw).1 (hap b hw)
        · have := S₂.ne_of (ggc _ _ ho')
          exact hall b o e this.1 this.2
      refine wpAny_assign_Name (st_l (s := s) (tk0 := tk₂) (env := compEnvC scope cl H2.objs.size env) Sb (toVs_is v) (fun h₃ tk₃ S₃ => ?_) rfl hkind (lookup_relabel_local hx))
      refine wpAny_mono (turn i v ys gb H2.objs.size h₃ tk₃ led' hlt hP hys (Bc.keeps hgg) (ggc.trans hgg) hI' (S₃.locs fun y z e => by
        rw [List.lookup_cons] at e ⊢
        cases q : y == x with
        | true => rw [q] at e; exact e
        | false => rw [q] at e; cases e)) (fun y s₄ q => ?_) fun _ _ q => q.elim
      obtain ⟨h₄, tk₄, led₄, rfl, S₄, hI₄⟩ := q
      have hDgb : gb.PlainList h0.objs.size (List.toArray ys) := let ⟨m, e⟩ := hD₂; ⟨m, hall _ _ e hDC hDl⟩
      have hD₄ : h₄.PlainList h0.objs.size (List.toArray ys) := let ⟨m, e⟩ := hDgb; ⟨m, S₄.keep _ _ e⟩
      have hDl₄ : h0.objs.size ∉ led₄.map (·.1) := let ⟨m, e⟩ := hDgb; (S₄.ne_of e).2
      refine wpAny_list_append_plain (s := sh s h₄ tk₄) hD₄ (hsz := by simp only [List.size_toArray]; omega) fun h₅ hD₅ hs₅ => ?_
      refine ⟨n + 1 - (i + 1), by omega, i + 1, h₅, tk₄, [], led₄, ys ++ [y], rfl, W.frame _ _ _ hst₂ fun b hb o e => hs₅.extBut b o (fun q => ?_) (S₄.keep _ _ (hfp b hb o e)), ?_, by simpa using hD₅, by simp [hys], hI₄, hlt, rfl, fun b hb => ?_, hDl₄⟩
      · subst q
        rcases X.f _ hb with hw | ⟨o', ho'⟩
        · exact hDw hw
        · rw [nD.1] at ho'; cases ho'
      · exact (S₄.weak hgg).off (ds := [h0.objs.size]) (Ch.of_same hs₅) fun d hd => by
          rw [List.mem_singleton.mp hd]
          exact ⟨gcn _ (.inr (.inl rfl)), hDC, hDl₄⟩
      · obtain ⟨o, ho⟩ := X.ex _ _ hst₂ b hb
        exact (S₄.ne_of (hall b o ho (hwC b hb).1 (hap b hb))).2
    · have hin : i = n := by omega
      subst hin
      refine W.done (sh s h' tk) _ _ hst' fun h₂ tk₂ hk₂ => ?_
      have S₂ : St gc H2.objs.size h₂ l' led' := S'.off (ds := wr) (fun b o e q => hk₂ b o q e) offw
      have hD₂ := hD'.at fun o e => hk₂ _ o hDw e
      obtain ⟨oL, hoL⟩ := Ns.some nLc
      have SL : St g L h₂ l led' := ⟨⟨mL, nLc.keeps S₂.keep, eL⟩, ggc.trans S₂.keep, S.gl, S₂.at', (fun p hp e => by
          have := S₂.fresh p hp
          rw [e, hoL] at this; cases this), fun p hp => ggc.none (S₂.fresh p hp), S₂.nd⟩
      have SD : St g L h₂ l ((h0.objs.size, IsVals ys) :: led') := SL.add nD.1 nD.2.1 hDl (let ⟨m, e⟩ := hD₂; ⟨_, e, m, rfl⟩)
      have hCL : H2.objs.size ≠ L := by
        rintro e
        rw [← e, gcn _ (.inl rfl)] at hoL; cases hoL
      refine done _ _ h₂ tk₂ ys led' (fresh_size h0 (Nat.le_refl _)) hCL SD hI' hys (let ⟨m, n, _⟩ := S₂.ns; ⟨m, n⟩) gcC ?_
      simp only [List.map_cons, List.mem_cons, not_or]
      exact ⟨fun e => hDC e.symm, fun hm => by
        obtain ⟨p, hp, e⟩ := List.mem_map.mp hm
        exact S₂.ne p hp e⟩
  exact codeAny_compStart_list loop (W.self 0 _ _ _ hst₁ loop)
end
end Mine
end

-- layer, part 6
section
open PySem PySem.Calls PySem.W PyProof.Rows
namespace Mine
section
variable {prog : Program} {w : World} {A : Around} {E : Value → Shared → Prop} {s : Shared} {h0 h1 : Heap} {tk0 : Nat} {g : Heap} {L : Addr} {l : Loc} {led : Led} {env : Env} {a b : Int} {t u : Tok}

theorem post_none {C D : Addr} {Q : Value → Shared → Prop} (S : St g L h0 l led) (hc : ∃ m, h0.Ns C m) (hg : g.get? C = none) (hL : C ≠ L) (hl : C ∉ led.map (·.1)) (h : ∀ h', St g L h' l led → Q (.ref D) (sh s h' tk0)) :
    compPost (model prog w) A E none Q (.ref D) C (.ok .next) (sh s h0 tk0) := by
  obtain ⟨m, n⟩ := hc
  exact ⟨m, n, fun h' hs => h h' (S.off (ds := [C]) (Ch.of_same hs) fun d hd => by rw [List.mem_singleton.mp hd]; exact ⟨hg, hL, hl⟩)⟩
theorem post_assign {C D : Addr} {y : Str} {py : Pos} {Q : Value → Shared → Prop} (S : St g env.locals h0 l led) (hc : ∃ m, h0.Ns C m) (hg : g.get? C = none) (hL : C ≠ env.locals) (hl : C ∉ led.map (·.1)) (hk : env.scope.kind = .function) (hx : env.kindOf y = some .local)
    (h : ∀ h' tk, St g env.locals h' ((y, .val (.ref D)) :: l) led → Q .none (sh s h' tk)) :
    compPost (model prog w) A E (some (assign (.Name y py) env)) Q (.ref D) C (.ok .next) (sh s h0 tk0) := by
  obtain ⟨m, n⟩ := hc
  obtain ⟨gb, hgg, hgh, Sb, hall⟩ := S.freeze
  have nb : gb.Ns C m := n.at' fun o e => hall C o e hL hl
  show wpAny _ A (assign (.Name y py) env (.ref D)) _ _ _
  refine wpAny_assign_Name (st_l (s := s) Sb (val_is _) (fun h' tk S' => ⟨m, nb.keeps S'.keep, fun h2 hs => ?_⟩) rfl hk hx)
  exact h h2 tk ((S'.weak hgg).off (ds := [C]) (Ch.of_same hs) fun d hd => by rw [List.mem_singleton.mp hd]; exact ⟨hg, hL, hl⟩)

variable {elt iter : Expr} {x : Str} {px pos : Pos} {scope : Scope} {cl : List (Str × Addr)} {use : Option (Value → Sem Unit)} {Q : Value → Shared → Prop}

/-- what is to be shown behind a comprehension -/
def DoneK (prog : Program) (w : World) (A : Around) (E : Value → Shared → Prop) (s : Shared) (h0 : Heap) (g : Heap) (L : Addr) (l : Loc) (n : Nat) (Inv : Nat → List Value → Led → Prop) (use : Option (Value → Sem Unit)) (Q : Value → Shared → Prop) : Prop :=
  ∀ D C h' tk ys led', h0.get? D = none → C ≠ L → St g L h' l ((D, IsVals ys) :: led') → Inv n ys led' → ys.length = n → (∃ m, h'.Ns C m) → g.get? C = none → C ∉ ((D, IsVals ys) :: led').map (·.1) →
      compPost (model prog w) A E use Q (.ref D) C (.ok .next) (sh s h' tk)
theorem done_none {n : Nat} {Inv : Nat → List Value → Led → Prop} (h : ∀ D h' tk ys led', h0.get? D = none → St g L h' l ((D, IsVals ys) :: led') → Inv n ys led' → ys.length = n → Q (.ref D) (sh s h' tk)) :
    DoneK prog w A E s h0 g L l n Inv none Q := fun D C h' tk ys led' a1 a2 a3 a4 a5 a6 a7 a8 =>
  post_none a3 a6 a7 a2 a8 fun h2 S2 => h D h2 tk ys led' a1 S2 a4 a5
theorem done_assign {n : Nat} {Inv : Nat → List Value → Led → Prop} {y : Str} {py : Pos} (hk : env.scope.kind = .function) (hx : env.kindOf y = some .local)
    (h : ∀ D h' tk ys led', h0.get? D = none → St g env.locals h' ((y, .val (.ref D)) :: l) ((D, IsVals ys) :: led') → Inv n ys led' → ys.length = n → Q .none (sh s h' tk)) :
    DoneK prog w A E s h0 g env.locals l n Inv (some (assign (.Name y py) env)) Q := fun D C h' tk ys led' a1 a2 a3 a4 a5 a6 a7 a8 =>
  post_assign a3 a6 a7 a2 a8 hk hx fun h2 tk2 S2 => h D h2 tk2 ys led' a1 S2 a4 a5

theorem DoneK.old {n : Nat} {Inv : Nat → List Value → Led → Prop} {h00 : Heap} (k : Sub h00 h0) (d : DoneK prog w A E s h00 g L l n Inv use Q) : DoneK prog w A E s h0 g L l n Inv use Q :=
  fun D C h' tk ys led' a1 => d D C h' tk ys led' (k.none a1)

theorem comp_range {r : Addr} (Inv : Nat → List Value → Led → Prop) (hA : Room A 0) (S : St g L h0 l ((r, IsRangeO a b) :: led)) (B : Base w g)
    (ha : -(2 ^ 62) ≤ a) (ha' : a < 2 ^ 62) (hb : -(2 ^ 62) ≤ b) (hb' : b < 2 ^ 62) (hn : b - a ≤ 100000) (hI : Inv 0 [] led) (hcell : ∀ y ∈ scope.names, y.2 ≠ .cell) (hkind : scope.kind = .function) (hx : scope.names.lookup x = some .local)
    (turn : ∀ (i : Nat) ys gb C h tk led', i < (b - a).toNat → ys.length = i → Base w gb → Sub g gb → Inv i ys led' → St gb C h [(x, .int (a + i))] led' →
      wpAny (model prog w) A (eval elt (compEnvC scope cl C env)) (fun y s' => ∃ h' tk' led'', s' = sh s h' tk' ∧ St gb C h' [] led'' ∧ Inv (i + 1) (ys ++ [y]) led'') NoE (sh s h tk))
    (done : DoneK prog w A E s h0 g L l (b - a).toNat Inv use Q) :
    wpAny (model prog w) A (pyIter (.ref r)) (CompK prog w A E env elt iter x px scope cl pos use Q) E (sh s h0 tk0) := by
  obtain ⟨o, ho, t, u, v, rfl⟩ := S.get (.head _)
  refine wpAny_pyIter_range (s := sh s h0 tk0) ho (small_one ha ha' hb hb') ?_
  have S0 := S.drop
  have nw := S0.size_new
  refine comp_walks (s := s) (tk0 := tk0) (h0 := h0.push _) (Walks.range hA.h h0.objs.size a 1 (b - a).toNat) Inv (S0.ch0 (Sub.push _ _)) B ?_ hI (srcRange S0 nw.1 nw.2.1 nw.2.2 a 1 _) (by rw [sizeLine_eq]; omega) hcell hkind hx ?_ (done.old (Sub.push _ _))
  · show IsRangeIter _ _ _ _ _
    rw [rangeSize_nat]
    simpa using Heap.get?_push_size h0 rfl
  · rintro i v ys gb C h tk led' hi ⟨t, rfl⟩ hys Bg hg hI' S'
    have e : a + (i : Int) * 1 = a + i := by omega
    rw [e] at S'
    exact turn i ys gb C h tk led' hi hys Bg hg hI' S'

theorem srcList (S : St g L h0 l led) {hh : Heap} (hf : g.get? hh.objs.size = none) (hL : hh.objs.size ≠ L) (hl : hh.objs.size ∉ led.map (·.1)) {ax : Addr} {items : Array Value} (ha : g.IsList ax items) :
    Src g L led [hh.objs.size, ax] [hh.objs.size] (fun i h => h.IsListIter hh.objs.size ax i ∧ h.IsList ax items) where
  f := fun b hb => by
    rcases List.mem_cons.mp hb with rfl | hb
    · exact .inl (.head _)
    · rw [List.mem_singleton.mp hb]; obtain ⟨o, e, _⟩ := ha; exact .inr ⟨o, e⟩
  r := fun b hb => by rw [List.mem_singleton.mp hb]; exact ⟨hf, hL, hl⟩
  ex := fun i h e b hb => by rw [List.mem_singleton.mp hb]; obtain ⟨o, q, _⟩ := e.1; exact ⟨o, q⟩

theorem comp_list {ax : Addr} {items : Array Value} (Inv : Nat → List Value → Led → Prop) (hA : Room A 0) (S : St g L h0 l led) (B : Base w g) (hl : g.IsList ax items)
    (hn : items.size ≤ 100000) (hI : Inv 0 [] led) (hcell : ∀ y ∈ scope.names, y.2 ≠ .cell) (hkind : scope.kind = .function) (hx : scope.names.lookup x = some .local)
    (turn : ∀ (i : Nat) v ys gb C h tk led', i < items.size → items[i]? = some v → ys.length = i → Base w gb → Sub g gb → Inv i ys led' → St gb C h [(x, toVs v)] led' →
      wpAny (model prog w) A (eval elt (compEnvC scope cl C env)) (fun y s' => ∃ h' tk' led'', s' = sh s h' tk' ∧ St gb C h' [] led'' ∧ Inv (i + 1) (ys ++ [y]) led'') NoE (sh s h tk))
    (done : DoneK prog w A E s h0 g L l items.size Inv use Q) :
    wpAny (model prog w) A (pyIter (.ref ax)) (CompK prog w A E env elt iter x px scope cl pos use Q) E (sh s h0 tk0) := by
  have hl0 : h0.IsList ax items := hl.at fun o e => S.keep _ o e
  refine wpAny_pyIter_list (s := sh s h0 tk0) hl0 ?_
  have nw := S.size_new
  have hne : ax ≠ h0.objs.size := by obtain ⟨o, e, _⟩ := hl0; exact Nat.ne_of_lt (Heap.lt_size e)
  refine comp_walks (s := s) (tk0 := tk0) (h0 := h0.push _) (Walks.list hA.h h0.objs.size ax hne items) Inv (S.ch0 (Sub.push _ _)) B ?_ hI (srcList S nw.1 nw.2.1 nw.2.2 hl) (by rw [sizeLine_eq]; omega) hcell hkind hx ?_ (done.old (Sub.push _ _))
  · exact ⟨⟨_, Heap.get?_push_size _ rfl, rfl, rfl⟩, hl0.at fun o e => Heap.get?_push_of_some _ e⟩
  · exact fun i v ys gb C h tk led' hi hP hys Bg hg hI' S' => turn i v ys gb C h tk led' hi hP hys Bg hg hI' S'

theorem for_list {ax : Addr} {items : Array Value} {x : Str} {px : Pos} {body : List Stmt} {Q : Flow → Shared → Prop} (Inv : Nat → Loc → Led → Prop) (hA : Room A 0) (S : St g env.locals h0 l led) (B : Base w g)
    (hl : g.IsList ax items) (hI : Inv 0 l led) (hk : env.scope.kind = .function) (hx : env.kindOf x = some .local)
    (turn : ∀ (i : Nat) v gb h tk l' led', i < items.size → items[i]? = some v → Base w gb → Sub g gb → Inv i l' led' → St gb env.locals h ((x, toVs v) :: l') led' →
      wpAny (model prog w) A (execs body env) (fun f s' => f = .next ∧ ∃ h' tk' l'' led'', s' = sh s h' tk' ∧ St gb env.locals h' l'' led'' ∧ Inv (i + 1) l'' led'') NoE (sh s h tk))
    (done : ∀ h' tk l' led', St g env.locals h' l' led' → Inv items.size l' led' → Q .next (sh s h' tk)) :
    wpAny (model prog w) A (pyIter (.ref ax)) (fun it s₂ => codeAny (model prog w) A (.forLoop (.Name x px) it body [] env) (fun r s' => match r with | .ok f => Q f s' | .error e => cameBackBy (model prog w) A env E e s') s₂) E (sh s h0 tk0) := by
  have hl0 : h0.IsList ax items := hl.at fun o e => S.keep _ o e
  refine wpAny_pyIter_list (s := sh s h0 tk0) hl0 ?_
  have nw := S.size_new
  have hne : ax ≠ h0.objs.size := by obtain ⟨o, e, _⟩ := hl0; exact Nat.ne_of_lt (Heap.lt_size e)
  refine for_walks (s := s) (tk0 := tk0) (h0 := h0.push _) (Walks.list hA.h h0.objs.size ax hne items) Inv (S.ch0 (Sub.push _ _)) B ?_ hI (srcList S nw.1 nw.2.1 nw.2.2 hl) hk hx ?_ done
  · exact ⟨⟨_, Heap.get?_push_size _ rfl, rfl, rfl⟩, hl0.at fun o e => Heap.get?_push_of_some _ e⟩
  · exact fun i v gb h tk l' led' hi hP Bg hg hI' S' => turn i v gb h tk l' led' hi hP Bg hg hI' S'
end
end Mine
end

-- layer, part 7
section
open PySem PySem.Calls PySem.W PyProof.Rows
namespace Mine
section
variable {prog : Program} {w : World} {A : Around} {E : Value → Shared → Prop} {s : Shared} {h0 h1 : Heap} {tk0 : Nat} {g : Heap} {L : Addr} {l : Loc} {led led' : Led} {env : Env} {a b : Int} {t u : Tok}

section lists
variable {Q : Value → Shared → Prop}
theorem isVals_ints {ys : List Value} {ns : List Int} (hi : IntsAre ys ns) : ∀ o, IsVals ys o → IsIntsP ns o := fun _ ⟨n, e⟩ => ⟨ys, n, e, hi⟩
theorem isVals_refs {as : List Addr} : ∀ o, IsVals (as.map Value.ref) o → IsRefs as o := fun _ ⟨n, e⟩ => ⟨n, e⟩
/-- an entry is said in another way -/
theorem St.say {d : Addr} {Φ Ψ : Obj → Prop} (S : St g L h0 l led) (hm : (d, Φ) ∈ led) (hp : Put d Ψ led led') (h : ∀ o, Φ o → Ψ o) : St g L h0 l led' := by
  obtain ⟨o, ho, q⟩ := S.get hm
  exact S.ch1 (fun b o e _ => e) hp ⟨o, ho, h o q⟩
theorem St.say0 {d : Addr} {Φ Ψ : Obj → Prop} (S : St g L h0 l ((d, Φ) :: led)) (h : ∀ o, Φ o → Ψ o) : St g L h0 l ((d, Ψ) :: led) := S.say (.head _) .head h

theorem gm_list {D : Addr} {Φ : Obj → Prop} {name : Str} {id : String} {pl : Sem Bool} {Q : Value × List Value → Shared → Prop} (S : St g L h0 l led) (hm : (D, Φ) ∈ led) (hΦ : ∀ o, Φ o → o.cls = .type "list" ∧ o.dict = none) (slot : Slot "list" name id) (hty : typeOf (.builtin id) = pure (.type "method_descriptor"))
    (h : Q (.builtin id, [.ref D]) (sh s h0 tk0)) : wpAny (model prog w) A (getMethod (.ref D) name pl) Q E (sh s h0 tk0) := by
  obtain ⟨o, ho, q⟩ := S.get hm
  exact getMethod_builtin (s := sh s h0 tk0) ⟨_, ho, (hΦ o q).1⟩ PySem.F.plainAttrs_list slot hty (fun a e => by cases e; exact ⟨_, ho, (hΦ o q).2⟩) h
theorem intsP_list {ns : List Int} : ∀ o, IsIntsP ns o → o.cls = .type "list" ∧ o.dict = none := fun _ ⟨_, _, e, _⟩ => by subst e; exact ⟨rfl, rfl⟩
theorem refs_list {as : List Addr} : ∀ o, IsRefs as o → o.cls = .type "list" ∧ o.dict = none := fun _ ⟨_, e⟩ => by subst e; exact ⟨rfl, rfl⟩

theorem k_append_int {D : Addr} {ns : List Int} {x : Int} (S : St g L h0 l led) (hm : (D, IsIntsP ns) ∈ led) (hp : Put D (IsIntsP (ns ++ [x])) led led') (hz : ns.length ≤ 100000) (h : ∀ h', St g L h' l led' → Q .none (sh s h' tk0)) :
    wpAny (model prog w) A (call (.builtin "list.append") [.ref D, .int x t]) Q E (sh s h0 tk0) := by
  obtain ⟨vs, hl, hi⟩ := ILP.plain (S.get hm)
  refine wpAny_list_append_plain (s := sh s h0 tk0) hl (hsz := by rw [List.size_toArray, hi.length, sizeLine_eq]; omega) fun h' hl' hs => h h' (S.ch1 (Ch.of_same hs) hp (ILP.of_plain (vs := vs ++ [.int x t]) (by simpa using hl') (hi.append (.cons _ _ .nil))))
theorem k_append_ref {D y : Addr} {as : List Addr} (S : St g L h0 l led) (hm : (D, IsRefs as) ∈ led) (hp : Put D (IsRefs (as ++ [y])) led led') (hz : as.length ≤ 100000) (h : ∀ h', St g L h' l led' → Q .none (sh s h' tk0)) :
    wpAny (model prog w) A (call (.builtin "list.append") [.ref D, .ref y]) Q E (sh s h0 tk0) := by
  have hl := RL.plain (S.get hm)
  refine wpAny_list_append_plain (s := sh s h0 tk0) hl (hsz := by rw [List.size_toArray, List.length_map, sizeLine_eq]; omega) fun h' hl' hs => h h' (S.ch1 (Ch.of_same hs) hp ?_)
  obtain ⟨n, e⟩ := hl'
  exact ⟨_, e, n, by simp⟩
theorem k_extend {D b : Addr} {ns ms : List Int} (S : St g L h0 l led) (hm : (D, IsIntsP ns) ∈ led) (hb : ILP h0 b ms) (hp : Put D (IsIntsP (ns ++ ms)) led led') (hz : ns.length ≤ 100000) (hz2 : ms.length ≤ 100000) (h : ∀ h', St g L h' l led' → Q .none (sh s h' tk0)) :
    wpAny (model prog w) A (call (.builtin "list.extend") [.ref D, .ref b]) Q E (sh s h0 tk0) := by
  obtain ⟨vs, ⟨n, hl⟩, hi⟩ := ILP.plain (S.get hm)
  obtain ⟨us, ⟨m, hl2⟩, hi2⟩ := hb.plain
  have hsz : vs.toArray.size + us.toArray.size ≤ sizeLine := by rw [List.size_toArray, List.size_toArray, hi.length, hi2.length, sizeLine_eq]; omega
  refine call_meets (s := sh s h0 tk0) PySem.F.slot_list_extend ⟨_, hl, rfl⟩ PySem.F.entry_list_extend (PySem.F.args_list_extend_2 _ _) (PySem.AutoSeq1.list_extend_list_list_0 D vs.toArray n b us.toArray m (extend_door hsz) (Nat.le_trans (Nat.le_add_right _ _) hsz) (Nat.le_trans hsz (Nat.le_succ _))) ⟨hl, hl2, h _ (S.ch1 (Ch.of_same (Heap.SameBut.update ..)) hp ?_)⟩
  have q := Heap.get?_update_self (Obj.mapSeq fun x => x ++ us.toArray) hl (by simp [Obj.mapSeq]; rfl)
  have e : ∃ k, Obj.mapSeq (fun x => x ++ us.toArray) { cls := .type "list", data := .seq vs.toArray n } = { cls := .type "list", data := .seq (vs ++ us).toArray k } := by
    simp only [Obj.mapSeq]
    exact ⟨_, by simp; rfl⟩
  obtain ⟨k, e⟩ := e
  rw [e] at q
  exact ⟨_, q, _, k, rfl, hi.append hi2⟩
theorem k_list {y : Addr} {ns : List Int} (S : St g L h0 l led) (hy : IL h0 y ns) (hz : ns.length ≤ 100000) (h : ∀ D h' tk, h0.get? D = none → St g L h' l ((D, IsIntsP ns) :: led) → Sub h0 h' → Q (.ref D) (sh s h' tk)) :
    wpAny (model prog w) A (call (.type "list") [.ref y]) Q E (sh s h0 tk0) := by
  obtain ⟨o, ho, hc, vs, n, hd, hi⟩ := hy
  refine call_list_seq (s := sh s h0 tk0) y (.inl rfl) ho hc hd (fun h' c' hk hS => h _ h' tk0 (fresh_size h0 (Nat.le_refl _)) (S.add_new (S.ch0 hk) rfl (fresh_size h0 (Nat.le_refl _)) ⟨_, hS, vs, c', rfl, hi⟩) hk) (by rw [List.size_toArray, hi.length, sizeLine_eq]; omega)
end lists
end
end Mine
end

-- layer, part 8
section
open PySem PySem.Calls PySem.W PyProof.Rows
namespace Mine

theorem isStr_str (x y : Str) (t : Tok) : (Value.str x t).isStr y = (x == y) := rfl
theorem getL_put_self (x : Str) (hsh : Int) (t : Tok) (v : Value) : ∀ es : List DictEntry, getL x (putL x hsh (.str x t) v es) = some (some v)
  | [] => by simp [putL, getL, isStr_str]
  | e :: r => by
    have ih := getL_put_self x hsh t v r
    unfold putL
    cases h : e.key.isStr x with
    | true => simp [getL, h]
    | false =>
      simp only [Bool.false_eq_true, if_false]
      unfold getL at ih ⊢
      rw [List.find?_cons, h]
      cases q : List.find? (fun z => z.key.isStr x) (putL x hsh (.str x t) v r) with
      | some e' => rw [q] at ih; exact ih
      | none =>
        rw [q] at ih
        dsimp only at ih
        split at ih <;> cases ih
theorem isStr_both {k : Value} {x y : Str} (h1 : k.isStr x = true) (h2 : k.isStr y = true) : x = y := by
  cases k <;> simp [Value.isStr] at h1 h2
  rw [← h1, ← h2]
theorem putL_find_ne {x y : Str} (hne : x ≠ y) (hsh : Int) (t : Tok) (v : Value) : ∀ es : List DictEntry, (List.find? (fun z => z.key.isStr y) (putL x hsh (.str x t) v es)).map (·.val) = (List.find? (fun z => z.key.isStr y) es).map (·.val)
  | [] => by
    have : (x == y) = false := beq_eq_false_iff_ne.mpr hne
    simp [putL, isStr_str, this]
  | e :: r => by
    have ih := putL_find_ne hne hsh t v r
    unfold putL
    cases h : e.key.isStr x with
    | true =>
      have : e.key.isStr y = false := by
        cases q : e.key.isStr y with
        | false => rfl
        | true => exact absurd (isStr_both h q) hne
      simp [this]
    | false =>
      simp only [Bool.false_eq_true, if_false, List.find?_cons]
      cases e.key.isStr y with
      | true => rfl
      | false => exact ih
theorem putL_any {x : Str} (hsh : Int) (t : Tok) (v : Value) : ∀ es : List DictEntry, (putL x hsh (.str x t) v es).any (·.refKey) = es.any (·.refKey)
  | [] => by simp [putL, DictEntry.refKey]
  | e :: r => by
    unfold putL
    cases h : e.key.isStr x with
    | true => simp [DictEntry.refKey]
    | false => simp only [Bool.false_eq_true, if_false, List.any_cons, putL_any hsh t v r]
theorem getL_put_ne {x y : Str} (hne : x ≠ y) (hsh : Int) (t : Tok) (v : Value) (es : List DictEntry) : getL y (putL x hsh (.str x t) v es) = getL y es := by
  have h1 := putL_find_ne hne hsh t v es
  have h2 := putL_any (x := x) hsh t v es
  unfold getL
  cases q : List.find? (fun z => z.key.isStr y) es with
  | some e =>
    rw [q] at h1
    cases q' : List.find? (fun z => z.key.isStr y) (putL x hsh (.str x t) v es) with
    | some e' => rw [q'] at h1; simp at h1; simp [h1]
    | none => rw [q'] at h1; simp at h1
  | none =>
    rw [q] at h1
    cases q' : List.find? (fun z => z.key.isStr y) (putL x hsh (.str x t) v es) with
    | some e' => rw [q'] at h1; simp at h1
    | none => simp only [h2]
theorem putL_len {x : Str} (hsh : Int) (k v : Value) : ∀ es : List DictEntry, (putL x hsh k v es).length ≤ es.length + 1
  | [] => by simp [putL]
  | e :: r => by
    unfold putL
    split
    · simp
    · simp only [List.length_cons]; have := putL_len (x := x) hsh k v r; omega

/-- the dict behind an object: what it holds under some names, and which names it lacks -/
def IsDictO (kvs : List (Str × Value)) (no : List Str) (o : Obj) : Prop := ∃ es n, o = dictOf es n ∧ es.length ≤ kvs.length ∧ (∀ x v, kvs.lookup x = some v → getL x es = some (some v)) ∧ ∀ x ∈ no, getL x es = some none

structure PlaneAt (h : Heap) (p : Addr) (wd ht : Int) (r : Addr) : Prop where
  ex : ∃ dx od t u, h.get? p = some (instObj 103 dx) ∧ h.get? dx = some od ∧ IsDictO [("rows", .ref r), ("height", .int ht u), ("width", .int wd t)] ["at"] od
theorem PlaneAt.sub {h h' : Heap} {p r : Addr} {wd ht : Int} (P : PlaneAt h p wd ht r) (k : Sub h h') : PlaneAt h' p wd ht r := by
  obtain ⟨dx, od, t, u, a, b, c⟩ := P.ex
  exact ⟨dx, od, t, u, k _ _ a, k _ _ b, c⟩

section
variable {prog : Program} {w : World} {A : Around} {E : Value → Shared → Prop} {s : Shared} {h0 h1 : Heap} {tk0 : Nat} {g : Heap} {L : Addr} {l : Loc} {led led' : Led} {env : Env} {a b : Int} {t u : Tok} {p r : Addr} {wd ht : Int}

section
variable {Q : Value → Shared → Prop} {expr : Bool}
theorem attr_rows (P : PlaneAt h0 p wd ht r) (B : Base w g) (hg : Sub g h0) (h : ∀ tk, Q (.ref r) (sh s h0 tk)) : wpAny (model prog w) A (getAttr (.ref p) "rows" expr) Q E (sh s h0 tk0) := by
  obtain ⟨dx, od, t, u, hp, hd, es, n, rfl, _, hl, _⟩ := P.ex
  have I : InstAt (sh s h0 tk0).heap p (instObj 103 dx) 103 (some (dictOf es n)) := ⟨hp, rfl, rfl, hd⟩
  exact get_value (K := KK w) (B.k.keeps hg) I rfl (findObj_own (attr := none) rfl rfl rfl (hl "rows" _ rfl)) rfl (h _)
theorem attr_height (P : PlaneAt h0 p wd ht r) (B : Base w g) (hg : Sub g h0) (h : ∀ t tk, Q (.int ht t) (sh s h0 tk)) : wpAny (model prog w) A (getAttr (.ref p) "height" expr) Q E (sh s h0 tk0) := by
  obtain ⟨dx, od, t, u, hp, hd, es, n, rfl, _, hl, _⟩ := P.ex
  have I : InstAt (sh s h0 tk0).heap p (instObj 103 dx) 103 (some (dictOf es n)) := ⟨hp, rfl, rfl, hd⟩
  exact get_value (K := KK w) (B.k.keeps hg) I rfl (findObj_own (attr := none) rfl rfl rfl (hl "height" _ rfl)) rfl (h _ _)
theorem attr_width (P : PlaneAt h0 p wd ht r) (B : Base w g) (hg : Sub g h0) (h : ∀ t tk, Q (.int wd t) (sh s h0 tk)) : wpAny (model prog w) A (getAttr (.ref p) "width" expr) Q E (sh s h0 tk0) := by
  obtain ⟨dx, od, t, u, hp, hd, es, n, rfl, _, hl, _⟩ := P.ex
  have I : InstAt (sh s h0 tk0).heap p (instObj 103 dx) 103 (some (dictOf es n)) := ⟨hp, rfl, rfl, hd⟩
  exact get_value (K := KK w) (B.k.keeps hg) I rfl (findObj_own (attr := none) rfl rfl rfl (hl "width" _ rfl)) rfl (h _ _)
theorem gm_at {Q : Value × List Value → Shared → Prop} {pl : Sem Bool} (P : PlaneAt h0 p wd ht r) (B : Base w g) (hg : Sub g h0) (h : Q (.ref 93, [.ref p]) (sh s h0 tk0)) : wpAny (model prog w) A (getMethod (.ref p) "at" pl) Q E (sh s h0 tk0) := by
  obtain ⟨dx, od, t, u, hp, hd, es, n, rfl, _, _, hno⟩ := P.ex
  have I : InstAt (sh s h0 tk0).heap p (instObj 103 dx) 103 (some (dictOf es n)) := ⟨hp, rfl, rfl, hd⟩
  exact method_fn (K := KK w) (B.k.keeps hg) I rfl rfl rfl rfl (by show (lookIn "at" (dictOf es n)).map _ = _; rw [lookIn_dict, hno "at" (.head _)]; rfl) h
end

/-- as ch1, where the frame's own object may be laid anew with the same names -/
theorem St.chG' {d : Addr} {Φ : Obj → Prop} (S : St g L h0 l led) (hc : ∀ b o, h0.get? b = some o → b ≠ d ∧ b ≠ L → h1.get? b = some o) (hn : ∃ m, h0.Ns L m ∧ h1.Ns L m) (hp : Put d Φ led led') (hd : ∃ o, h1.get? d = some o ∧ Φ o) : St g L h1 l led' := by
  have hm : ∀ q ∈ led', q = (d, Φ) ∨ (q ∈ led ∧ q.1 ≠ d) := hp.split S.nd
  obtain ⟨Ψ, hΨ⟩ := hp.mem
  refine ⟨?_, fun b o q => hc b o (S.keep b o q) ⟨?_, ?_⟩, S.gl, fun q hq => ?_, fun q hq => ?_, fun q hq => ?_, hp.keys ▸ S.nd⟩
  · obtain ⟨m, n, n'⟩ := hn
    obtain ⟨m2, n2, e⟩ := S.ns
    have : m2 = m := by rw [n2.eq_nsMap, n.eq_nsMap]
    subst this
    exact ⟨_, n', e⟩
  · rintro rfl
    have := S.fresh _ hΨ
    rw [q] at this; cases this
  · rintro rfl; rw [S.gl] at q; cases q
  · rcases hm q hq with rfl | ⟨a, b⟩
    · exact hd
    · obtain ⟨o, ho, z⟩ := S.at' q a
      exact ⟨o, hc _ _ ho ⟨b, S.ne q a⟩, z⟩
  · rcases hm q hq with rfl | ⟨a, b⟩
    · exact S.ne (d, Ψ) hΨ
    · exact S.ne q a
  · rcases hm q hq with rfl | ⟨a, b⟩
    · exact S.fresh (d, Ψ) hΨ
    · exact S.fresh q a
/-- the objects of a heap, one by one, their places told apart -/
theorem keys_sublist (f : Nat → Option (Addr × Obj)) (hf : ∀ a p, f a = some p → p.1 = a) : ∀ l : List Nat, ((l.filterMap f).map (·.1)).Sublist l
  | [] => .slnil
  | a :: r => by
    rw [List.filterMap_cons]
    cases e : f a with
    | none => exact (keys_sublist f hf r).cons a
    | some p =>
      simp only [List.map_cons]
      rw [hf a p e]
      exact (keys_sublist f hf r).cons_cons a

theorem set_attr {Q : Unit → Shared → Prop} {dx : Addr} {x : Str} {v : Value} {kvs : List (Str × Value)} {no : List Str} (S : St g L h0 l led) (B : Base w g) (hp : (p, fun o => o = instObj 103 dx) ∈ led) (hd : (dx, IsDictO kvs no) ∈ led)
    (hput : Put dx (IsDictO ((x, v) :: kvs) (no.filter (· != x))) led led') (hl : kvs.lookup x = none) (hx : x ∈ no) (hk : kvs.length ≤ 100) (ht : takerIn (KK w) 103 x = some none)
    (h : ∀ h' tk, St g L h' l led' → Q () (sh s h' tk)) : wpAny (model prog w) A (setAttr (.ref p) x v) Q E (sh s h0 tk0) := by
  obtain ⟨o, hpo, rfl⟩ := S.get hp
  obtain ⟨od, hdo, es, n, rfl, hle, hin, hno⟩ := S.get hd
  obtain ⟨m, F, N, _⟩ := S.toFr
  have hdL := S.ne _ hd
  have mem : (dx, dictOf es n) ∈ (List.range h0.objs.size).filterMap fun a => if a = L then none else (h0.get? a).map (a, ·) :=
    List.mem_filterMap.mpr ⟨dx, List.mem_range.mpr (Heap.lt_size hdo), by rw [if_neg hdL, hdo]; rfl⟩
  have nd : (((List.range h0.objs.size).filterMap fun a => if a = L then none else (h0.get? a).map (a, ·)).map (·.1)).Nodup :=
    (keys_sublist _ (fun a p e => by
      by_cases ha : a = L
      · rw [if_pos ha] at e; cases e
      · rw [if_neg ha] at e
        cases q : h0.get? a with
        | none => rw [q] at e; cases e
        | some o => rw [q] at e; cases e; rfl) _).nodup List.nodup_range
  obtain ⟨pre, post, hpp⟩ := List.append_of_mem mem
  have ha : ∀ b o, b ≠ L → h0.get? b = some o → (b, o) ∈ pre ++ (dx, dictOf es n) :: post := fun b o hb q => by
    rw [← hpp]
    exact List.mem_filterMap.mpr ⟨b, List.mem_range.mpr (Heap.lt_size q), by rw [if_neg hb, q]; rfl⟩
  rw [hpp] at N nd
  simp only [List.map_append, List.map_cons] at nd
  have nd' := List.nodup_append.mp nd
  have h1 : ∀ q ∈ pre, q.1 ≠ dx := fun q hq => nd'.2.2 _ (List.mem_map_of_mem hq) _ (.head _)
  have h2 : ∀ q ∈ post, q.1 ≠ dx := fun q hq e => (List.nodup_cons.mp nd'.2.1).1 (e ▸ List.mem_map_of_mem hq)
  have I : ∀ tk, InstAt (sh s h0 tk).heap p (instObj 103 dx) 103 (some (dictOf es n)) := fun tk => ⟨hpo, rfl, rfl, hdo⟩
  have X : (KK w).In h0 := B.k.keeps S.keep
  refine set_plain (K := KK w) (s := sh s h0 tk0) X (I tk0) rfl ?_
  refine osa_dict (K := KK w) (s := sh s h0 (tk0 + 1)) F N X (I _) rfl rfl ht rfl (by rw [lookIn_dict, hno x hx]; rfl) h1 h2 (putName_dict _ _ _ _ _ _) rfl (by have := putL_len (x := x) (PyData.keyHash w.params x) (.str x (sh s h0 (tk0 + 1)).toks) v es; omega) fun h' F' N' => ?_
  have hN := (N' _ (List.mem_append_right pre (List.Mem.head _))).1
  show Q () (sh s h' (tk0 + 1 + 1))
  refine h h' _ (S.chG' (fun b o e hb => ?_) ?_ hput ⟨_, hN, _, _, rfl, ?_, fun y z q => ?_, fun y hy => ?_⟩)
  · rcases List.mem_append.mp (ha b o hb.2 e) with q | q
    · exact (N' _ (List.mem_append_left _ q)).1
    · rcases List.mem_cons.mp q with q | q
      · cases q; exact absurd rfl hb.1
      · exact (N' _ (List.mem_append_right _ (.tail _ q))).1
  · exact ⟨m, F.ns, F'.ns⟩
  · have := putL_len (x := x) (PyData.keyHash w.params x) (.str x (sh s h0 (tk0 + 1)).toks) v es
    simp only [List.length_cons]; omega
  · rw [List.lookup_cons] at q
    by_cases hyx : y = x
    · subst hyx
      simp only [beq_self_eq_true] at q
      cases q
      exact getL_put_self _ _ _ _ _
    · rw [beq_eq_false_iff_ne.mpr hyx] at q
      rw [getL_put_ne (Ne.symm hyx)]
      exact hin y z q
  · obtain ⟨h3, h4⟩ := List.mem_filter.mp hy
    rw [getL_put_ne (Ne.symm (by simpa using h4))]
    exact hno y h3
end
end Mine
end

-- layer, part 9
section
open PySem PySem.Calls PySem.W PyProof.Rows
namespace Mine

theorem bindL_eq (kf : Str → Option NameKind) : ∀ (b : List (Str × Value)) (m : Str → Option Value) (x : Str), bindL kf b m x = ((b.filter fun p => kf p.1 == some .local).reverse.lookup x).or (m x)
  | [], m, x => by simp [bindL]
  | (n, v) :: r, m, x => by
    unfold bindL
    rw [bindL_eq kf r]
    by_cases h : kf n = some .local
    · have hb : (kf n == some NameKind.local) = true := by rw [h]; rfl
      simp only [List.filter_cons, hb, if_true, if_pos h, List.reverse_cons, List.lookup_append]
      by_cases hx : x = n
      · subst hx
        cases (List.filter (fun p => kf p.1 == some NameKind.local) r).reverse.lookup x <;> simp
      · have : (x == n) = false := beq_eq_false_iff_ne.mpr hx
        cases (List.filter (fun p => kf p.1 == some NameKind.local) r).reverse.lookup x <;> simp [hx, this, List.lookup_cons]
    · have hb : (kf n == some NameKind.local) = false := by
        cases q : kf n == some NameKind.local with
        | false => rfl
        | true => exact absurd (beq_iff_eq.mp q) h
      simp only [List.filter_cons, hb, if_neg h, Bool.false_eq_true, if_false]
theorem bindC_eq (kf : Str → Option NameKind) : ∀ (b : List (Str × Value)) (m : Str → Option Value) (x : Str), bindC kf b m x = ((b.filter fun p => !(kf p.1 == some .local)).reverse.lookup x).or (m x)
  | [], m, x => by simp [bindC]
  | (n, v) :: r, m, x => by
    unfold bindC
    rw [bindC_eq kf r]
    by_cases h : kf n = some .local
    · have hb : (kf n == some NameKind.local) = true := by rw [h]; rfl
      simp only [List.filter_cons, hb, if_pos h, Bool.not_true, Bool.false_eq_true, if_false]
    · have hb : (kf n == some NameKind.local) = false := by
        cases q : kf n == some NameKind.local with
        | false => rfl
        | true => exact absurd (beq_iff_eq.mp q) h
      simp only [List.filter_cons, hb, if_neg h, Bool.not_false, if_true, List.reverse_cons, List.lookup_append]
      by_cases hx : x = n
      · subst hx
        cases (List.filter (fun p => !(kf p.1 == some NameKind.local)) r).reverse.lookup x <;> simp
      · have : (x == n) = false := beq_eq_false_iff_ne.mpr hx
        cases (List.filter (fun p => !(kf p.1 == some NameKind.local)) r).reverse.lookup x <;> simp [hx, this, List.lookup_cons]

def cellSpec (b : List (Str × Value)) (n : Str) : Obj → Prop := match b.lookup n with
  | some v => IsCellV (toVs v)
  | none => IsCellA
def cellLed (cs : List (Str × Addr)) (b : List (Str × Value)) : Led := cs.map fun p => (p.2, cellSpec b p.1)

section
variable {prog : Program} {w : World} {A : Around} {s : Shared} {h0 : Heap} {tk0 : Nat} {Q : Value → Shared → Prop} {g : Heap}
theorem enterX {f : Addr} {args : List Value} {binds : List (Str × Value)} {name qual : Str} {params : Arguments} {body : List Stmt} {scope : Scope} {dV kV doc pm cdv ct oc : Value} {an od : Option Addr} {osl : Array (Option Value)} {k : Nat}
    (led : Led) (l : Loc) (cl : Addr → Led) (hroom : Room A (k + 1)) (B : Base w g) (hg : Sub g h0) (hled : ∀ p ∈ led, ∃ o, h0.get? p.1 = some o ∧ p.2 o) (hfr : ∀ p ∈ led, g.get? p.1 = none) (hnd : (led.map (·.1)).Nodup)
    (ho : (KK w).lookup f = some ⟨oc, od, .func (fnOf name qual params body scope dV kV doc pm an cdv ct), osl⟩) (hcd : codeIn (KK w) cdv qual = true)
    (hbind : bindArgs (fnOf name qual params body scope dV kV doc pm an cdv ct) ⟨args, []⟩ = pure binds) (hkind : (binds.all fun y => scope.names.lookup y.1 == some .local || scope.names.lookup y.1 == some .cell) = true)
    (hl : l = (binds.filter fun p => scope.names.lookup p.1 == some .local).reverse.map fun p => (p.1, toVs p.2))
    (hcl : ∀ L, cl L = cellLed (cellsFrom (L + 1) scope.names []) (binds.filter fun p => !(scope.names.lookup p.1 == some .local)).reverse)
    (hnames : ((cellsFrom 0 scope.names []).map (·.1)).Nodup)
    (hco : scope.isCoroutine = false) (hgen : scope.isGenerator = false) (hk : scope.kind = .function)
    (h : ∀ g' L h₁ tk, Base w g' → Sub g g' → (∀ b o, h0.get? b = some o → b ∉ led.map (·.1) → g'.get? b = some o) → Sub h0 h₁ → St g' L h₁ l (cl L ++ led) → Room (A.deeper (envX qual scope L f cdv (cellsFrom (L + 1) scope.names []))) k →
      wpAny (model prog w) (A.deeper (envX qual scope L f cdv (cellsFrom (L + 1) scope.names []))) (execs body (envX qual scope L f cdv (cellsFrom (L + 1) scope.names [])))
        (fun fl s' => Q (match fl with | .ret v => v | _ => .none) s') NoE (sh s h₁ tk)) :
    wpAny (model prog w) A (call (.ref f) args) Q NoE (sh s h0 tk0) := by
  have Bs := B.keeps hg
  refine wpAny_call (codeAny_call_cells (fd := fnOf name qual params body scope dV kV doc pm an cdv ct) (body := body) (binds := binds) hroom.lt (Bs.k _ _ ho) rfl Bs.nolimit (codeRec_of Bs.k hcd) rfl hbind rfl (kindsX hkind _) (fun s₁ x => ?_) hco hgen hk)
  obtain ⟨h₁, tk, rfl, hk₁⟩ := x.done
  have hk₁' : Sub h0 h₁ := hk₁
  have hk' : ∀ b o, h0.get? b = some o → b ∉ led.map (·.1) → (hideAll h0 (led.map (·.1))).get? b = some o := fun b o e n => hideAll_get _ e n
  have hgg : Sub g (hideAll h0 (led.map (·.1))) := fun b o e => hk' b o (hg b o e) fun q => by
    obtain ⟨p, hp, e'⟩ := List.mem_map.mp q
    have := hfr p hp
    rw [e', e] at this; cases this
  have lkup : ∀ n c, (n, c) ∈ cellsFrom (h0.objs.size + 1) scope.names [] → (cellsFrom (h0.objs.size + 1) scope.names []).lookup n = some c := fun n c hm =>
    lookup_of_mem_nodup (by rw [cellsFrom_names scope.names (h0.objs.size + 1) 0 [] [] rfl]; exact hnames) hm
  have hcells : ∀ p ∈ cl h0.objs.size, (∃ o, h₁.get? p.1 = some o ∧ p.2 o) ∧ h0.objs.size < p.1 := fun p hp => by
    rw [hcl] at hp
    obtain ⟨⟨n, c⟩, hm, rfl⟩ := List.mem_map.mp hp
    refine ⟨?_, x.above n c hm⟩
    obtain ⟨o, ho', hd⟩ := x.cell n c (lkup n c hm)
    refine ⟨o, ho', ?_⟩
    have e : bindC (callEnvC (fnOf name qual params body scope dV kV doc pm an cdv ct) h0.objs.size f).kindOf binds (fun _ => none) n = (binds.filter fun p => !(scope.names.lookup p.1 == some .local)).reverse.lookup n := by
      rw [bindC_eq]; exact Option.or_none
    show cellSpec _ n o
    unfold cellSpec
    have hd' : o.data = .cell ((binds.filter fun p => !(scope.names.lookup p.1 == some .local)).reverse.lookup n) := by rw [← e]; exact hd
    cases q : (binds.filter fun p => !(scope.names.lookup p.1 == some .local)).reverse.lookup n with
    | some v => rw [q] at hd'; exact ⟨v, hd', toVs_is v⟩
    | none => rw [q] at hd'; exact ⟨_, hd'⟩
  refine wpAny_mono (h _ h0.objs.size h₁ tk (B.keeps hgg) hgg hk' hk₁' ⟨⟨_, x.toInCall.ns, fun y v e => ?_⟩, fun b o e => hk₁ b o (of_hideAll _ e), fresh_size _ (Nat.le_of_eq (hideAll_size _ _)), fun p hp => ?_, fun p hp => ?_, fun p hp => ?_, ?_⟩ hroom.deeper)
    (fun fl s' q => q) fun _ _ q => q.elim
  · subst hl
    obtain ⟨u, hu, hv⟩ := lookup_toVs _ e
    refine ⟨u, ?_, hv⟩
    rw [bindL_eq]
    exact (congrArg (fun z => Option.or z none) hu)
  · rcases List.mem_append.mp hp with q | q
    · exact (hcells p q).1
    · obtain ⟨o, ho', z⟩ := hled p q
      exact ⟨o, hk₁ _ _ ho', z⟩
  · rcases List.mem_append.mp hp with q | q
    · exact Nat.ne_of_gt (hcells p q).2
    · obtain ⟨o, ho', _⟩ := hled p q
      exact Nat.ne_of_lt (Heap.lt_size ho')
  · rcases List.mem_append.mp hp with q | q
    · exact fresh_size _ (by rw [hideAll_size]; exact Nat.le_of_lt (hcells p q).2)
    · exact hideAll_none _ (List.mem_map_of_mem q)
  · rw [List.map_append]
    refine List.nodup_append.mpr ⟨?_, hnd, fun a ha b hb e => ?_⟩
    · rw [hcl]
      unfold cellLed
      rw [List.map_map]
      exact List.pairwise_map.mpr (x.apart.imp fun q => q)
    · obtain ⟨p, hp, rfl⟩ := List.mem_map.mp ha
      obtain ⟨q, hq, rfl⟩ := List.mem_map.mp hb
      obtain ⟨o, ho', _⟩ := hled q hq
      have h1 := (hcells p hp).2
      have h2 := Heap.lt_size ho'
      rw [e] at h1
      exact absurd (Nat.lt_trans h1 h2) (Nat.lt_irrefl _)
end
end Mine
end

open PySem PySem.Calls PySem.W PyProof.Rows
namespace Mine
local macro_rules | `(tactic| walk_at "as") => `(tactic| with_reducible assumption)
local macro_rules | `(tactic| walk_at "ou") => `(tactic| first
  | walk_at "as"
  | decide
  | exact Int.le_trans (by walk_at "as") (by decide)
  | exact le_up (by walk_at "as") (by decide)
  | exact Int.lt_of_le_of_lt (by walk_at "as") (by decide)
  | exact lt_up (by walk_at "as") (by decide)
  | exact Nat.le_trans (by walk_at "as") (by decide))
local macro_rules | `(tactic| walk_at "om") => `(tactic| first | walk_at "ou" | omega)
local macro_rules | `(tactic| walk_at "ol") => `(tactic| first | walk_at "ou" | lia | omega)
local macro_rules | `(tactic| walk_at "mul") => `(tactic| first | exact PySem.IntMulOk.of_left (PySem.intBits_le_64 (by walk_at "om") (by walk_at "om")) | exact PySem.IntMulOk.of_right (PySem.intBits_le_64 (by walk_at "om") (by walk_at "om")))
local macro_rules | `(tactic| walk_at "mem") => `(tactic| first | exact List.Mem.head _ | (refine List.Mem.tail _ ?_; walk_at "mem") | assumption)
local macro_rules | `(tactic| walk_at "put") => `(tactic| first | exact Put.head | (refine' Put.tail ?p9; (case p9 => walk_at "put")))
local macro_rules | `(tactic| walk_at "name") => `(tactic| first
  | (refine ld_i (by assumption) (by exact rfl) ?_; intro _)
  | refine ld_v (by assumption) (by exact rfl) ?_
  | (refine ldc_i (by assumption) (by exact rfl) (by walk_at "mem") ?_; intro _)
  | refine ldc_v (by assumption) (by exact rfl) (by walk_at "mem") ?_
  | refine ldG (by assumption) (by assumption) (by exact rfl) ?_
  | refine ldB (by assumption) (by assumption) (by exact rfl) (by exact rfl) ?_)
local macro_rules | `(tactic| walk_at "op") => `(tactic| first
  | exact OpIs.add
  | exact OpIs.sub
  | (refine OpIs.mul ?_; walk_at "mul")
  | (refine OpIs.mod ?_; walk_at "om")
  | (refine OpIs.div ?_ ?_ <;> walk_at "om"))
local macro_rules | `(tactic| walk_at "pu") => `(tactic| first
  | exact Pu.num
  | exact Pu.loc (by exact rfl) (by exact rfl) (by decide)
  | exact Pu.cell (by exact rfl) (by walk_at "mem") (by exact rfl) (by decide)
  | ((with_reducible refine' Pu.bin ?x ?y ?z); (case x => walk_at "pu"); (case y => walk_at "pu"); (case z => walk_at "op")))
local macro_rules | `(tactic| walk_at "store") => `(tactic| first
  | (refine st_l (by assumption) (int_is _ _) ?_; intro _ _ _)
  | (refine st_l (by assumption) (val_is _) ?_; intro _ _ _)
  | (refine st_c (by assumption) (int_is _ _) (by exact rfl) (by walk_at "put") ⟨_, by walk_at "mem", by first | exact cellA_any | exact cellV_any⟩ ?_; intro _ _)
  | (refine st_c (by assumption) (val_is _) (by exact rfl) (by walk_at "put") ⟨_, by walk_at "mem", by first | exact cellA_any | exact cellV_any⟩ ?_; intro _ _))
local macro_rules | `(tactic| walk_at "hb") => `(tactic| (intro hb9; (try simp only [decide_eq_true_eq, decide_eq_false_iff_not, Bool.not_eq_true', Bool.not_eq_false', bne_iff_ne, beq_iff_eq, bne_eq_false_iff_eq, beq_eq_false_iff_ne, ne_eq, Bool.not_eq_true, Bool.not_eq_false, Decidable.not_not, Bool.false_eq_true, Bool.true_eq_false, reduceCtorEq] at hb9)))
local macro_rules | `(tactic| walk_at "ite") => `(tactic| (refine if_any ?_ ?_ <;> walk_at "hb"))
local macro_rules | `(tactic| walk_at "m") => `(tactic| first
  | with_reducible first
    | refine wpAny_items_nil ?_
    | refine wpAny_Call_NameR ?_
    | refine Subscript_ ?_
    | refine Attribute_name ?_
    | refine wpAny_UnaryOp ?_
    | refine wpAny_IfExp ?_
    | refine wpAny_Constant_bool ?_
    | refine wpAny_If ?_
    | refine wpAny_Return_some ?_
    | refine wpAny_isTrue_BoolOp ?_
    | refine wpAny_isTrue_Not ?_
    | refine wpAny_allTrue_And_cons ?_
    | refine wpAny_allTrue_Or_cons ?_
    | refine wpAny_allTrue_And_nil ?_
    | refine wpAny_allTrue_Or_nil ?_
    | refine wpAny_truthy_bool ?_
    | refine wpAny_execs_nil ?_
    | refine PyProof.Rows.lt_int ?_
    | refine PyProof.Rows.gt_int ?_
    | refine PyProof.Rows.eq_int ?_
    | refine PyProof.Rows.ne_int ?_
    | refine PyProof.Rows.le_int ?_
    | refine PyProof.Rows.ge_int ?_
  | ((with_reducible first | refine c_int ?_ | refine ex_cons ?_ | refine k_int ?_ | refine k_intb ?_ | refine o_neg ?_); intro _ _)
  | ((with_reducible show wpAny _ _ (eval (Expr.Name ..) _) ..); walk_at "name")
  | ((with_reducible refine' o_bin ?z ?_); (case z => walk_at "op"); intro _ _)
  | ((with_reducible show wpAny _ _ (eval (Expr.BinOp ..) _) ..); first
    | ((with_reducible refine' pu_go ?S ?P ?_ ?k); (case k => exact rfl); (case S => assumption); (case P => walk_at "pu"); intro _ _)
    | refine wpAny_BinOp ?_)
  | ((with_reducible show wpAny _ _ (spliced (backTo _ (starEach (_ :: _) _))) ..); refine wpAny_items_cons ?_)
  | ((with_reducible show wpAny _ _ (storeName ..) ..); walk_at "store")
  | ((with_reducible show wpAny _ _ (callWith _ (Value.ref _) ..) ..); first | refine cw_fn (by assumption) rfl ?_ | refine cw_fn1 (by assumption) rfl ?_)
  | ((with_reducible show wpAny _ _ (callWith _ (Value.builtin _) ..) ..); first | refine cw_b ?_ | refine cw_b1 ?_)
  | ((with_reducible show wpAny _ _ (callWith _ (Value.type _) ..) ..); refine cw_t ?_)
  | with_reducible first
    | refine Nx.n (by assumption) ?_
    | refine Nx.r (by assumption) ?_
  | ((with_reducible show wpAny _ _ (exec (Stmt.Assign [Expr.Name ..] _ _) _) ..); refine wpAny_Assign_Name ?_)
  | ((with_reducible show wpAny _ _ (exec (Stmt.Assign [Expr.Subscript ..] _ _) _) ..); refine wpAny_Assign_Subscript ?_)
  | ((with_reducible show wpAny _ _ (exec (Stmt.Assign [Expr.Attribute ..] _ _) _) ..); refine plainObj_wpAny_Assign_Attribute ?_)
  | ((with_reducible show wpAny _ _ (exec (Stmt.Expr ..) _) ..); refine wpAny_Expr_any ?_)
  | ((with_reducible show wpAny _ _ (eval (Expr.Compare _ [_] _ _) _) ..); refine wpAny_Compare1 ?_)
  | ((with_reducible show wpAny _ _ (isTrue (Expr.Compare _ [_] _ _) ..) ..); refine wpAny_isTrue_Compare1 ?_)
  | ((with_reducible show wpAny _ _ (isTrue ..) ..); refine wpAny_isTrue_value ?_)
  | ((with_reducible show (if _ then wpAny .. else wpAny ..)); (refine if_t ?_ ?_ <;> walk_at "hb"))
  | ((with_reducible show Sub _ (Shared.heap _) ∧ _); refine ⟨St.keep (by assumption), ?_⟩)
  | ((with_reducible show wpAny _ _ (subscriptTail ..) ..); refine sub_led (by assumption) (by walk_at "mem") (by decide) (by decide) (by exact rfl) ?_ (by with_unfolding_all rfl); intro _)
  | ((with_reducible show wpAny _ _ (setItem ..) ..); refine set_ints (by assumption) (by walk_at "mem") (by decide) (by walk_at "len") (by decide) (by walk_at "put") ?_; intro _ _)
  | fail)
local macro_rules | `(tactic| walk_at "len") => `(tactic| first | decide | (simp only [List.length_cons, List.length_nil, List.length_set]; omega))

-- part 1
section
variable {prog : Program} {w : World} {A : Around} {s : Shared} {h0 : Heap} {tk0 : Nat} {Q : Value → Shared → Prop} {g : Heap} {L : Addr} {l : Loc} {led : Led}
def keptI (p n : Int) : Int := if p < 0 then 0 else if p < n then p else n - 1
theorem kept_ok {p n : Int} {tp tn : Tok} (hA : Room A 1) (B : Base w g) (hg : Sub g h0)
  (h : ∀ r t h' tk, r = keptI p n → Sub h0 h' → Q (.int r t) (sh s h' tk)) :
  wpAny (model prog w) A (call (.ref 114) [.int p tp, .int n tn]) Q NoE (sh s h0 tk0) := by
  refine enter [] [("size", .int n), ("place", .int p)] hA B hg (by simp) (by simp) (by simp) rfl rfl rfl (locs rfl) rfl (by decide) rfl rfl rfl ?_
  intro g' L h₁ tk B' hg' hk hs S R
  repeat' walk_at "m"
  all_goals exact h _ _ _ _ (by unfold keptI; (repeat' split) <;> walk_at "om") hs

def clampI (v m : Int) : Int := if v < 0 then 0 else if v > m then m else v
theorem clamp_ok {p n : Int} {tp tn : Tok} (hA : Room A 1) (B : Base w g) (hg : Sub g h0)
  (h : ∀ r t h' tk, r = clampI p n → Sub h0 h' → Q (.int r t) (sh s h' tk)) :
  wpAny (model prog w) A (call (.ref 33) [.int p tp, .int n tn]) Q NoE (sh s h0 tk0) := by
  refine enter [] [("most", .int n), ("number", .int p)] hA B hg (by simp) (by simp) (by simp) rfl rfl rfl (locs rfl) rfl (by decide) rfl rfl rfl ?_
  intro g' L h₁ tk B' hg' hk hs S R
  repeat' walk_at "m"
  all_goals exact h _ _ _ _ (by unfold clampI; (repeat' split) <;> walk_at "om") hs

theorem great_ok {p : Int} {tp : Tok} (hA : Room A 1) (B : Base w g) (hg : Sub g h0) (h0' : 0 ≤ p) (h1 : p ≤ 1000)
  (h : ∀ r t h' tk, r = 2 ^ p.toNat - 1 → Sub h0 h' → Q (.int r t) (sh s h' tk)) :
  wpAny (model prog w) A (call (.ref 121) [.int p tp]) Q NoE (sh s h0 tk0) := by
  refine enter [] [("precision", .int p)] hA B hg (by simp) (by simp) (by simp) rfl rfl rfl (locs rfl) rfl (by decide) rfl rfl rfl ?_
  intro g' L h₁ tk B' hg' hk hs S R
  repeat' walk_at "m"
  refine o_shl h0' h1 (by decide) ?_
  intro _ _
  repeat' walk_at "m"
  all_goals exact h _ _ _ _ (by walk_at "om") hs

theorem src_open (S : St g L h0 l ((a, IsSrc) :: led)) : ∃ x y, St g L h0 l ((a, IsInts [x, y]) :: led) := by
  obtain ⟨o, ho, x, y, hi⟩ := S.get (.head _)
  exact ⟨x, y, S.chG (ds := []) (fun _ _ e _ => e) (by simp) rfl fun p hp => by
    rcases List.mem_cons.mp hp with rfl | hp
    · exact ⟨o, ho, hi⟩
    · exact S.at' p (.tail _ hp)⟩

theorem src_close {x y : Int} {a : Addr} (S : St g L h0 l ((a, IsInts [x, y]) :: led)) : ∃ o, h0.get? a = some o ∧ IsSrc o :=
  let ⟨o, ho, q⟩ := S.get (.head _)
  ⟨o, ho, _, _, q⟩
theorem take_ok {src : Addr} {top : Int} {tt : Tok} (hA : Room A 1) (B : Base w g) (hg : Sub g h0) (hs : ∃ o, h0.get? src = some o ∧ IsSrc o) (hf : g.get? src = none) (h1 : 1 ≤ top) (h2 : top < 2 ^ 30)
  (h : ∀ r t h' tk, 0 ≤ r → r < top → Ch [src] h0 h' → (∃ o, h'.get? src = some o ∧ IsSrc o) → Q (.int r t) (sh s h' tk)) :
  wpAny (model prog w) A (call (.ref 166) [.ref src, .int top tt]) Q NoE (sh s h0 tk0) := by
  refine enter [(src, IsSrc)] [("top_one", .int top), ("source_one", .val (.ref src))] hA B hg (by simpa using hs) (by simpa using hf) (by simp) rfl rfl rfl (locs rfl) rfl (by decide) rfl rfl rfl ?_
  intro g' L h₁ tk B' hg' hk hs S R
  obtain ⟨x, y, S⟩ := src_open S
  have fin : ∀ {h'}, Sub g' h' → Ch [src] h0 h' := fun kk b o e n => kk b o (hk b o e (by simpa using n))
  repeat' walk_at "m"
  all_goals exact h _ _ _ _ (Int.emod_nonneg _ (by walk_at "om")) (Int.emod_lt_of_pos _ (by walk_at "om")) (fin (St.keep (by assumption))) (src_close (by assumption))

theorem kept_at {E : Value → Shared → Prop} {p n : Int} {tp tn : Tok} (hA : Room A 1) (S : St g L h0 l led) (B : Base w g) (h : ∀ t h' tk, St g L h' l led → Sub h0 h' → Q (.int (keptI p n) t) (sh s h' tk)) :
  wpAny (model prog w) A (call (.ref 114) [.int p tp, .int n tn]) Q E (sh s h0 tk0) :=
  wpAny_mono (kept_ok (Q := Q) hA B S.keep fun r t h' tk e k => by subst e; exact h t h' tk (S.ch0 k) k) (fun _ _ q => q) fun _ _ q => q.elim
theorem clamp_at {p n : Int} {tp tn : Tok} (hA : Room A 1) (S : St g L h0 l led) (B : Base w g) (h : ∀ t h' tk, St g L h' l led → Sub h0 h' → Q (.int (clampI p n) t) (sh s h' tk)) :
  wpAny (model prog w) A (call (.ref 33) [.int p tp, .int n tn]) Q NoE (sh s h0 tk0) :=
  clamp_ok hA B S.keep fun r t h' tk e k => by subst e; exact h t h' tk (S.ch0 k) k
theorem great_at {p : Int} {tp : Tok} (hA : Room A 1) (S : St g L h0 l led) (B : Base w g) (h0' : 0 ≤ p) (h1 : p ≤ 1000) (h : ∀ t h' tk, St g L h' l led → Sub h0 h' → Q (.int (2 ^ p.toNat - 1) t) (sh s h' tk)) :
  wpAny (model prog w) A (call (.ref 121) [.int p tp]) Q NoE (sh s h0 tk0) :=
  great_ok hA B S.keep h0' h1 fun r t h' tk e k => by subst e; exact h t h' tk (S.ch0 k) k
theorem take_at {src : Addr} {top : Int} {tt : Tok} (hA : Room A 1) (S : St g L h0 l led) (B : Base w g) (hm : (src, IsSrc) ∈ led) (h1 : 1 ≤ top) (h2 : top < 2 ^ 30)
  (h : ∀ r t h' tk, 0 ≤ r → r < top → St g L h' l led → Q (.int r t) (sh s h' tk)) :
  wpAny (model prog w) A (call (.ref 166) [.ref src, .int top tt]) Q NoE (sh s h0 tk0) :=
  take_ok hA B S.keep (S.get hm) (S.fresh _ hm) h1 h2 fun r t h' tk a b c d => h r t h' tk a b (S.ch1 c (Put.same hm) d)

theorem IL.apart {a b : Addr} {ns : List Int} (x : IL h0 a ns) (y : h0.get? b = none) : a ≠ b := by
  rintro rfl
  obtain ⟨o, e, _⟩ := x
  rw [y] at e; cases e

theorem one_ok {src th : Addr} {ns : List Int} (hA : Room A 2) (B : Base w g) (hg : Sub g h0) (hs : ∃ o, h0.get? src = some o ∧ IsSrc o) (hf : g.get? src = none) (ht : IL h0 th ns) (hne : th ≠ src) (h1 : 1 ≤ ns.length) (h2 : ns.length < 2 ^ 30)
  (h : ∀ r t h' tk, r ∈ ns → Ch [src] h0 h' → (∃ o, h'.get? src = some o ∧ IsSrc o) → Q (.int r t) (sh s h' tk)) :
  wpAny (model prog w) A (call (.ref 173) [.ref src, .ref th]) Q NoE (sh s h0 tk0) := by
  refine enter [(src, IsSrc)] [("things_one", .val (.ref th)), ("source_one", .val (.ref src))] hA B hg (by simpa using hs) (by simpa using hf) (by simp) rfl rfl rfl (locs rfl) rfl (by decide) rfl rfl rfl ?_
  intro g' L h₁ tk B' hg' hk hs S R
  have I : IL g' th ns := let ⟨o, e, q⟩ := ht; ⟨o, hk _ _ e (by simpa using hne), q⟩
  have fin : ∀ {h'}, Sub g' h' → Ch [src] h0 h' := fun kk b o e n => kk b o (hk b o e (by simpa using n))
  repeat' walk_at "m"
  refine k_len_ints (I.sub S.keep) (by walk_at "om") ?_
  intro _ _
  repeat' walk_at "m"
  refine take_at R S B' (.head _) (by walk_at "om") (by walk_at "om") ?_
  intro r t h' tk r0 r1 S
  have hlt : r.toNat < ns.length := by walk_at "om"
  refine sub_ints (x := ns[r.toNat]) (I.sub S.keep) r0 (by walk_at "om") (by simp [hlt]) ?_ (by with_unfolding_all rfl)
  intro _
  repeat' walk_at "m"
  exact h _ _ _ _ (by simp) (fin S.keep) (S.get (.head _))
end

-- part 2
section
variable {prog : Program} {w : World} {A : Around} {s : Shared} {h0 : Heap} {tk0 : Nat} {Q : Value → Shared → Prop} {g : Heap} {L : Addr} {l : Loc} {led : Led} {p r : Addr} {wd ht : Int}

def Rows (h : Heap) : List Addr → List (List Int) → Prop
  | [], [] => True
  | a :: as, n :: ns => IL h a n ∧ Rows h as ns
  | _, _ => False
theorem Rows.sub {h h' : Heap} (k : Sub h h') : ∀ {as : List Addr} {ns : List (List Int)}, Rows h as ns → Rows h' as ns
  | [], [], _ => trivial
  | _ :: _, _ :: _, ⟨a, b⟩ => ⟨a.sub k, b.sub k⟩
theorem Rows.len {h : Heap} : ∀ {as : List Addr} {ns : List (List Int)}, Rows h as ns → as.length = ns.length
  | [], [], _ => rfl
  | _ :: _, _ :: _, ⟨_, b⟩ => by simp [b.len]
theorem Rows.get {h : Heap} : ∀ {as : List Addr} {ns : List (List Int)} (_ : Rows h as ns) (i : Nat) (hi : i < ns.length), ∃ a, as[i]? = some a ∧ IL h a ns[i]
  | [], [], _, i, hi => absurd hi (Nat.not_lt_zero _)
  | _ :: _, _ :: _, ⟨a, _⟩, 0, _ => ⟨_, rfl, a⟩
  | _ :: _, _ :: _, ⟨_, b⟩, i + 1, hi => b.get i (by simpa using hi)
theorem Rows.snoc {h : Heap} {a : Addr} {n : List Int} : ∀ {as : List Addr} {ns : List (List Int)}, Rows h as ns → IL h a n → Rows h (as ++ [a]) (ns ++ [n])
  | [], [], _, x => ⟨x, trivial⟩
  | _ :: _, _ :: _, ⟨c, b⟩, x => ⟨c, b.snoc x⟩

/-- wd by ht samples -/
structure Dim (nss : List (List Int)) (wd ht : Int) : Prop where
  h : (nss.length : Int) = ht
  w : ∀ ns ∈ nss, (ns.length : Int) = wd
  h1 : 1 ≤ ht
  w1 : 1 ≤ wd
  h2 : ht ≤ 1000
  w2 : wd ≤ 1000
def cell (nss : List (List Int)) (y x : Int) : Int := (nss.getD y.toNat []).getD x.toNat 0

/-- a plane with its rows, each at its place -/
structure Pl (h : Heap) (p : Addr) (wd ht : Int) (r : Addr) (as : List Addr) (nss : List (List Int)) : Prop where
  pl : PlaneAt h p wd ht r
  rl : RL h r as
  rows : Rows h as nss
theorem Pl.sub {h h' : Heap} {as : List Addr} {nss : List (List Int)} (P : Pl h p wd ht r as nss) (k : Sub h h') : Pl h' p wd ht r as nss := ⟨P.pl.sub k, P.rl.sub k, P.rows.sub k⟩

section
variable {h1 : Heap}
/-- what stands in h1 and stood not in h0 -/
def newOf (h0 h1 : Heap) : Heap := hideAll h1 ((List.range h0.objs.size).filter fun a => (h0.get? a).isSome)
theorem newOf_get {b : Addr} {o : Obj} (e : h1.get? b = some o) (n : h0.get? b = none) : (newOf h0 h1).get? b = some o :=
  hideAll_get _ e fun hm => by
    have := (List.mem_filter.mp hm).2
    rw [n] at this; cases this
theorem newOf_sub : Sub (newOf h0 h1) h1 := fun _ _ e => of_hideAll _ e
theorem newOf_new {b : Addr} {o : Obj} (e : (newOf h0 h1).get? b = some o) : h0.get? b = none := by
  cases q : h0.get? b with
  | none => rfl
  | some o' =>
    have := hideAll_none (h := h1) (l := (List.range h0.objs.size).filter fun a => (h0.get? a).isSome) (b := b) (List.mem_filter.mpr ⟨List.mem_range.mpr (Heap.lt_size q), by rw [q]; rfl⟩)
    rw [newOf, this] at e; cases e
theorem newOf_mono {h0' h1' : Heap} (k0 : Sub h0' h0) (k1 : Sub h1 h1') : Sub (newOf h0 h1) (newOf h0' h1') := fun _ _ e =>
  newOf_get (k1 _ _ (newOf_sub _ _ e)) (k0.none (newOf_new e))
theorem St.newOf_get {g' h' : Heap} {a : Addr} {Φ : Obj → Prop} (S : St g' L h' l led) (k : Sub h0 g') (hm : (a, Φ) ∈ led) : ∃ o, (newOf h0 h').get? a = some o ∧ Φ o :=
  let ⟨o, ho, q⟩ := S.get hm
  ⟨o, Mine.newOf_get ho (k.none (S.fresh _ hm)), q⟩
end
theorem plane_ok {t u : Tok} (hA : Room A 3) (B : Base w g) (hg : Sub g h0) (h : ∀ p h' tk, Sub h0 h' → PlaneAt (newOf h0 h') p wd ht r → Q (.ref p) (sh s h' tk)) :
  wpAny (model prog w) A (call (.ref 103) [.int wd t, .int ht u, .ref r]) Q NoE (sh s h0 tk0) := by
  have X : (KK w).In h0 := B.k.keeps hg
  refine wpAny_call (make_core (h := h0) (makes_of (K := KK w) X rfl) (looks_findIn (K := KK w) X rfl) (fun self => bind_fn (K := KK w) (f := 86) X self rfl) (.inl rfl) ?_)
  have hA' : Room (A.under (.builtin "type.__call__" ⟨.ref 103 :: [.int wd t, .int ht u, .ref r], []⟩)) 2 :=
    ⟨hA.h, by rw [depth_under_make]; have := hA.d; walk_at "om", by rw [units_under_make]; have := hA.u; walk_at "om"⟩
  have k2 : Sub h0 ((h0.push emptyDict).push (instObj 103 h0.objs.size)) := (Sub.push _ _).trans (Sub.push _ _)
  have hd : ((h0.push emptyDict).push (instObj 103 h0.objs.size)).get? h0.objs.size = some emptyDict := Heap.get?_push_of_some _ (Heap.get?_push_size _ rfl)
  have hx : ((h0.push emptyDict).push (instObj 103 h0.objs.size)).get? (h0.objs.size + 1) = some (instObj 103 h0.objs.size) := by
    have := Heap.get?_push_size (h0.push emptyDict) (o := instObj 103 h0.objs.size) rfl
    rwa [Heap.size_push] at this
  refine enterC (s := s) (tk0 := tk0) [(h0.objs.size + 1, fun o => o = instObj 103 h0.objs.size), (h0.objs.size, IsDictO [] ["width", "height", "rows", "at"])] [("rows", .val (.ref r)), ("height", .int ht), ("width", .int wd), ("self", .val (.ref (h0.objs.size + 1)))]
    hA' B (hg.trans k2) ?_ ?_ ?_ rfl rfl rfl (locs rfl) rfl (by decide) rfl rfl rfl ?_
  · intro q hq
    simp only [List.mem_cons, List.not_mem_nil, or_false] at hq
    rcases hq with rfl | rfl
    · exact ⟨_, hx, rfl⟩
    · exact ⟨_, hd, [], 0, rfl, Nat.le_refl _, (fun x v e => by cases e), fun x _ => rfl⟩
  · intro q hq
    simp only [List.mem_cons, List.not_mem_nil, or_false] at hq
    rcases hq with rfl | rfl
    · exact hg.none (fresh_size _ (Nat.le_succ _))
    · exact hg.none (fresh_size _ (Nat.le_refl _))
  · simp
  · intro g' L h₁ tk B' hg' hk hs S R
    repeat' walk_at "m"
    refine set_attr S B' (.head _) (.tail _ (.head _)) (.tail .head) rfl (by decide) (by simp) rfl ?_
    intro _ _ S
    repeat' walk_at "m"
    refine set_attr S B' (.head _) (.tail _ (.head _)) (.tail .head) rfl (by decide) (by simp) rfl ?_
    intro _ _ S
    repeat' walk_at "m"
    refine set_attr S B' (.head _) (.tail _ (.head _)) (.tail .head) rfl (by decide) (by simp) rfl ?_
    intro h' tk' S
    repeat' walk_at "m"
    refine ⟨rfl, ?_⟩
    obtain ⟨o, ho, rfl⟩ := S.get (.head _)
    obtain ⟨od, hod, hdo⟩ := S.get (.tail _ (.head _))
    refine h _ h' tk' (fun b o e => S.keep b o (hk b o (k2 b o e) ?_)) ⟨h0.objs.size, od, _, _, newOf_get ho (fresh_size _ (Nat.le_succ _)), newOf_get hod (fresh_size _ (Nat.le_refl _)), hdo⟩
    have := Heap.lt_size e
    simp only [List.map_cons, List.map_nil, List.mem_cons, List.not_mem_nil, or_false, not_or]
    exact ⟨Nat.ne_of_lt (Nat.lt_succ_of_lt this), Nat.ne_of_lt this⟩
end

-- part 3
section
variable {prog : Program} {w : World} {A : Around} {s : Shared} {h0 : Heap} {tk0 : Nat} {Q : Value → Shared → Prop} {g : Heap} {L : Addr} {l : Loc} {led : Led} {p r : Addr} {wd ht : Int} {as : List Addr} {nss : List (List Int)}

theorem plane_at {t u : Tok} (hA : Room A 3) (S : St g L h0 l led) (B : Base w g) (h : ∀ p h' tk, St g L h' l led → Sub h0 h' → PlaneAt (newOf h0 h') p wd ht r → Q (.ref p) (sh s h' tk)) :
  wpAny (model prog w) A (call (.ref 103) [.int wd t, .int ht u, .ref r]) Q NoE (sh s h0 tk0) :=
  plane_ok hA B S.keep fun p h' tk a b => h p h' tk (S.ch0 a) a b

theorem keptI_lo {x n : Int} (h : 1 ≤ n) : 0 ≤ keptI x n := by unfold keptI; (repeat' split) <;> walk_at "om"
theorem keptI_hi {x n : Int} (h : 1 ≤ n) : keptI x n < n := by unfold keptI; (repeat' split) <;> walk_at "om"

theorem at_ok {x y : Int} {tx ty : Tok} (hA : Room A 2) (B : Base w g) (hg : Sub g h0) (P : Pl h0 p wd ht r as nss) (D : Dim nss wd ht)
  (h : ∀ t h' tk, Sub h0 h' → Q (.int (cell nss (keptI y ht) (keptI x wd)) t) (sh s h' tk)) :
  wpAny (model prog w) A (call (.ref 93) [.ref p, .int x tx, .int y ty]) Q NoE (sh s h0 tk0) := by
  refine enter [] [("y", .int y), ("x", .int x), ("self", .val (.ref p))] hA B hg (by simp) (by simp) (by simp) rfl rfl rfl (locs rfl) rfl (by decide) rfl rfl rfl ?_
  intro g' L h₁ tk B' hg' hk hs S R
  have P' : Pl g' p wd ht r as nss := P.sub fun b o e => hk b o e (by simp)
  have d1 := D.h1
  have d2 := D.w1
  have d3 := D.h2
  have d4 := D.w2
  have dh := D.h
  repeat' walk_at "m"
  refine attr_rows (P'.pl.sub S.keep) B' S.keep fun _ => ?_
  repeat' walk_at "m"
  refine attr_height (P'.pl.sub S.keep) B' S.keep fun _ _ => ?_
  repeat' walk_at "m"
  refine kept_at R S B' fun _ h₂ tk₂ S k₂ => ?_
  have y0 := keptI_lo (x := y) d1
  have y1 := keptI_hi (x := y) d1
  have hyn : (keptI y ht).toNat < nss.length := by walk_at "om"
  obtain ⟨a, ha, ia⟩ := P'.rows.get _ hyn
  refine sub_refs (P'.rl.sub S.keep) y0 (by walk_at "om") ha ?_ (by with_unfolding_all rfl)
  repeat' walk_at "m"
  refine attr_width (P'.pl.sub S.keep) B' S.keep fun _ _ => ?_
  repeat' walk_at "m"
  refine kept_at R S B' fun _ h₃ tk₃ S k₃ => ?_
  have x0 := keptI_lo (x := x) d2
  have x1 := keptI_hi (x := x) d2
  have hw := D.w _ (List.getElem_mem hyn)
  have hxn : (keptI x wd).toNat < nss[(keptI y ht).toNat].length := by walk_at "om"
  refine sub_ints (x := nss[(keptI y ht).toNat][(keptI x wd).toNat]) (ia.sub S.keep) x0 (by walk_at "om") (by simp [hxn]) ?_ (by with_unfolding_all rfl)
  intro t
  have e : cell nss (keptI y ht) (keptI x wd) = nss[(keptI y ht).toNat][(keptI x wd).toNat] := by
    unfold cell
    simp [List.getD, hyn, hxn]
  rw [e] at h
  repeat' walk_at "m"
  exact h _ _ _ (hs.trans (k₂.trans k₃))
theorem at_at {x y : Int} {tx ty : Tok} (hA : Room A 2) (S : St g L h0 l led) (B : Base w g) (P : Pl g p wd ht r as nss) (D : Dim nss wd ht)
  (h : ∀ t h' tk, St g L h' l led → Sub h0 h' → Q (.int (cell nss (keptI y ht) (keptI x wd)) t) (sh s h' tk)) :
  wpAny (model prog w) A (call (.ref 93) [.ref p, .int x tx, .int y ty]) Q NoE (sh s h0 tk0) :=
  at_ok hA B S.keep (P.sub S.keep) D fun t h' tk a => h t h' tk (S.ch0 a) a
end

-- part 4
section
variable {prog : Program} {w : World} {A : Around} {s : Shared} {h0 : Heap} {tk0 : Nat} {Q : Value → Shared → Prop} {g : Heap} {L : Addr} {l : Loc} {led : Led} {p r : Addr} {wd ht : Int} {as : List Addr} {nss : List (List Int)}

def blkRow (nss : List (List Int)) (wd ht x n ce row : Int) (k : Nat) : List Int := (List.range k).map fun j => cell nss (keptI row ht) (keptI (x * n + (j : Nat)) wd) - ce
def blkTo (nss : List (List Int)) (wd ht x y n ce : Int) (k : Nat) : List Int := (List.range k).flatMap fun i => blkRow nss wd ht x n ce (y * n + (i : Nat)) n.toNat
theorem blkRow_succ {nss : List (List Int)} {wd ht x n ce row : Int} (k : Nat) : blkRow nss wd ht x n ce row (k + 1) = blkRow nss wd ht x n ce row k ++ [cell nss (keptI row ht) (keptI (x * n + (k : Nat)) wd) - ce] := by
  simp [blkRow, List.range_succ]
theorem blkTo_succ {nss : List (List Int)} {wd ht x y n ce : Int} (k : Nat) : blkTo nss wd ht x y n ce (k + 1) = blkTo nss wd ht x y n ce k ++ blkRow nss wd ht x n ce (y * n + (k : Nat)) n.toNat := by
  simp [blkTo, List.range_succ]
theorem blkRow_len {nss : List (List Int)} {wd ht x n ce row : Int} (k : Nat) : (blkRow nss wd ht x n ce row k).length = k := by simp [blkRow]
theorem blkTo_len {nss : List (List Int)} {wd ht x y n ce : Int} (k : Nat) : (blkTo nss wd ht x y n ce k).length = k * n.toNat := by
  induction k with
  | zero => simp [blkTo]
  | succ k ih => rw [blkTo_succ, List.length_append, ih, blkRow_len, Nat.succ_mul]
theorem mul_bd {x n a b : Int} (h0 : 0 ≤ x) (h1 : x ≤ a) (h2 : 0 ≤ n) (h3 : n ≤ b) : 0 ≤ x * n ∧ x * n ≤ a * b :=
  ⟨Int.mul_nonneg h0 h2, Int.mul_le_mul h1 h3 h2 (by walk_at "ol")⟩

theorem block_ok {x y n ce : Int} {t1 t2 t3 t4 : Tok} (hA : Room A 3) (B : Base w g) (hg : Sub g h0) (P : Pl h0 p wd ht r as nss) (D : Dim nss wd ht)
  (hx : 0 ≤ x) (hx' : x ≤ 100) (hy : 0 ≤ y) (hy' : y ≤ 100) (hn : 1 ≤ n) (hn' : n ≤ 100)
  (h : ∀ D h' tk, Sub h0 h' → h0.get? D = none → ILP h' D (blkTo nss wd ht x y n ce n.toNat) → Q (.ref D) (sh s h' tk)) :
  wpAny (model prog w) A (call (.ref 26) [.ref p, .int x t1, .int y t2, .int n t3, .int ce t4]) Q NoE (sh s h0 tk0) := by
  refine enterX [] [("n", .int n), ("y", .int y), ("x", .int x)] (fun L => [(L + 1 + 1 + 1, IsCellA), (L + 1 + 1, IsCellV (.int ce)), (L + 1, IsCellV (.val (.ref p)))]) hA B hg (by simp) (by simp) (by simp) rfl rfl rfl rfl rfl (fun _ => rfl) (by decide) rfl rfl rfl ?_
  intro g' L h₁ tk B' hg' hk hs S R
  have hk' : Sub h0 g' := fun b o e => hk b o e (by simp)
  have P' : Pl g' p wd ht r as nss := P.sub hk'
  have bx := mul_bd hx hx' (by walk_at "ol") hn'
  have by' := mul_bd hy hy' (by walk_at "ol") hn'
  simp only [List.append_nil] at S
  refine ex_cons fun _ _ => ?_
  refine wpAny_Assign_Name ?_
  refine l_disp ?_
  repeat' walk_at "m"
  refine disp_ints S .nil (by simp) fun D₀ h₂ tk₂ n₀ S k₂ => ?_
  repeat' walk_at "m"
  refine wpAny_For ?_
  repeat' walk_at "m"
  refine k_range2 (by assumption) fun rr h₃ tk₃ S k₃ => ?_
  have S := S.perm (led' := [(rr, IsRangeO (y * n) (y * n + n)), (L + 1 + 1 + 1, IsCellA), (D₀, IsIntsP []), (L + 1 + 1, IsCellV (.int ce)), (L + 1, IsCellV (.val (.ref p)))]) (.cons _ (.swap _ _ _))
  refine for_range_c (fun i l led => l = ([("found", .val (.ref D₀)), ("n", .int n), ("y", .int y), ("x", .int x)] : Loc) ∧ led = ([(D₀, IsIntsP (blkTo nss wd ht x y n ce i)), (L + 1 + 1, IsCellV (.int ce)), (L + 1, IsCellV (.val (.ref p)))] : Led)) (R.mono (by walk_at "om")) S B' (by walk_at "ol") (by walk_at "ol") (by walk_at "ol") (by walk_at "ol") ⟨rfl, rfl⟩ rfl rfl rfl ?_ ?_
  · rintro i gb h tk l' led' hi Bb hgb ⟨rfl, rfl⟩ S
    have P'' := P'.sub hgb
    refine ex_cons fun _ _ => ?_
    refine wpAny_Expr_any ?_
    refine MethodCall_ ?_
    repeat' walk_at "m"
    refine gm_list (by assumption) (.tail _ (.head _)) intsP_list PySem.F.slot_list_extend PySem.F.type_list_extend ?_
    repeat' walk_at "m"
    refine lc_eval ?_ (by with_unfolding_all rfl) rfl (by decide)
    repeat' walk_at "m"
    refine k_range2 (by assumption) fun rr h₃ tk₃ S k₃ => ?_
    refine comp_range (fun j ys led => IntsAre ys (blkRow nss wd ht x n ce (y * n + (i : Nat)) j) ∧ led = ([(L + 1 + 1 + 1, IsCellV (.int (y * n + (i : Nat)))), (D₀, IsIntsP (blkTo nss wd ht x y n ce i)), (L + 1 + 1, IsCellV (.int ce)), (L + 1, IsCellV (.val (.ref p)))] : Led)) (R.mono (by walk_at "om")) S Bb (by walk_at "ol") (by walk_at "ol") (by walk_at "ol") (by walk_at "ol") (by walk_at "ol") ⟨by simpa [blkRow] using IntsAre.nil, rfl⟩ (by decide) rfl rfl ?_ ?_
    · rintro j ys gc C h tk led' hj hys Bc hgc ⟨hI, rfl⟩ S
      have P₃ := P''.sub hgc
      refine wpAny_BinOp ?_
      refine MethodCall_ ?_
      repeat' walk_at "m"
      refine gm_at (P₃.pl.sub S.keep) Bc S.keep ?_
      repeat' walk_at "m"
      refine at_at R S Bc P₃ D fun _ h₄ tk₄ S k₄ => ?_
      repeat' walk_at "m"
      exact ⟨_, _, _, rfl, S.locs (by simp), by rw [blkRow_succ]; exact hI.append (.cons _ _ .nil), rfl⟩
    · refine done_none fun D h' tk ys led' hD S ⟨hI, hl⟩ hlen => ?_
      subst hl
      have S := S.say0 (isVals_ints hI)
      have S := S.perm (led' := [(D₀, IsIntsP (blkTo nss wd ht x y n ce i)), (D, IsIntsP (blkRow nss wd ht x n ce (y * n + (i : Nat)) (x * n + n - x * n).toNat)), (L + 1 + 1 + 1, IsCellV (.int (y * n + (i : Nat)))), (L + 1 + 1, IsCellV (.int ce)), (L + 1, IsCellV (.val (.ref p)))]) (by
        refine (List.Perm.trans ?_ (.cons _ (.swap _ _ _)))
        exact .swap _ _ _)
      have hii : i < n.toNat := by walk_at "ol"
      have hnn : n.toNat ≤ 100 := by walk_at "ol"
      repeat' walk_at "m"
      refine k_extend S (.head _) (S.get (.tail _ (.head _))) .head ?_ ?_ fun h₅ S => ?_
      · rw [blkTo_len]
        have := Nat.mul_le_mul (Nat.le_of_lt hii) hnn
        walk_at "ol"
      · rw [blkRow_len]; walk_at "ol"
      have e : (x * n + n - x * n).toNat = n.toNat := by congr 1; walk_at "ol"
      rw [e, ← blkTo_succ] at S
      repeat' walk_at "m"
      refine ⟨rfl, _, _, _, _, rfl, ?_, rfl, rfl⟩
      have S := S.sub_led (led' := [(D₀, IsIntsP (blkTo nss wd ht x y n ce (i + 1))), (L + 1 + 1 + 1, IsCellV (.int (y * n + (i : Nat)))), (L + 1 + 1, IsCellV (.int ce)), (L + 1, IsCellV (.val (.ref p)))]) (.cons_cons _ (.cons _ (.refl _)))
      exact (S.perm (.swap _ _ _)).say0 fun _ q => q.any
  · rintro h' tk l' led' S ⟨rfl, rfl⟩
    repeat' walk_at "m"
    have e : (y * n + n - y * n).toNat = n.toNat := by congr 1; walk_at "ol"
    rw [e] at S
    exact h _ _ _ (fun b o e => S.keep b o (hk' b o e)) (hs.none (by assumption)) (S.get (.tail _ (.head _)))
end

-- part 5
section
variable {prog : Program} {w : World} {A : Around} {s : Shared} {h0 : Heap} {tk0 : Nat} {Q : Value → Shared → Prop} {g : Heap} {L : Addr} {l : Loc} {led : Led} {p r : Addr} {wd ht : Int} {as : List Addr} {nss : List (List Int)}

theorem block_at {x y n ce : Int} {t1 t2 t3 t4 : Tok} (hA : Room A 3) (S : St g L h0 l led) (B : Base w g) (P : Pl h0 p wd ht r as nss) (D : Dim nss wd ht)
  (hx : 0 ≤ x) (hx' : x ≤ 100) (hy : 0 ≤ y) (hy' : y ≤ 100) (hn : 1 ≤ n) (hn' : n ≤ 100)
  (h : ∀ D h' tk, h0.get? D = none → St g L h' l ((D, IsIntsP (blkTo nss wd ht x y n ce n.toNat)) :: led) → Sub h0 h' → Q (.ref D) (sh s h' tk)) :
  wpAny (model prog w) A (call (.ref 26) [.ref p, .int x t1, .int y t2, .int n t3, .int ce t4]) Q NoE (sh s h0 tk0) :=
  block_ok hA B S.keep P D hx hx' hy hy' hn hn' fun D h' tk k f i => h D h' tk f (S.add_new (S.ch0 k) rfl f i) k

theorem St.forget {x : Str} {v : Vs} (S : St g L h0 ((x, v) :: l) led) (hx : l.lookup x = none) : St g L h0 l led :=
  S.locs fun y u e => by
    rw [List.lookup_cons]
    cases q : y == x with
    | true => rw [beq_iff_eq.mp q, hx] at e; cases e
    | false => exact e

def row (W : Nat) (f : Nat → Int) : List Int := (List.range W).map f
def tab (H W : Nat) (f : Nat → Nat → Int) : List (List Int) := (List.range H).map fun y => row W (f y)
theorem row_len {W : Nat} {f : Nat → Int} : (row W f).length = W := by simp [row]
theorem tab_len {H W : Nat} {f : Nat → Nat → Int} : (tab H W f).length = H := by simp [tab]
theorem row_get {W : Nat} {f : Nat → Int} {i : Nat} (h : i < W) : (row W f)[i]? = some (f i) := by simp [row, h]
theorem tab_get {H W : Nat} {f : Nat → Nat → Int} {i : Nat} (h : i < H) : (tab H W f)[i]? = some (row W (f i)) := by simp [tab, h]
theorem row_congr {W : Nat} {f g : Nat → Int} (h : ∀ i, i < W → f i = g i) : row W f = row W g :=
  List.map_congr_left fun i hi => h i (List.mem_range.mp hi)
theorem tab_congr {H W : Nat} {f g : Nat → Nat → Int} (h : ∀ y x, y < H → x < W → f y x = g y x) : tab H W f = tab H W g :=
  List.map_congr_left fun i hi => row_congr fun x hx => h i x (List.mem_range.mp hi) hx
theorem row_set {W : Nat} {f : Nat → Int} {i : Nat} {v : Int} : (row W f).set i v = row W fun j => if j = i then v else f j := by
  refine List.ext_getElem (by simp [row]) fun j h1 h2 => ?_
  simp only [row, List.getElem_set, List.getElem_map, List.getElem_range]
  by_cases e : j = i
  · simp [e]
  · simp [e, Ne.symm e]
theorem tab_set {H W : Nat} {f : Nat → Nat → Int} {i : Nat} {k : Nat → Int} : (tab H W f).set i (row W k) = tab H W fun y x => if y = i then k x else f y x := by
  refine List.ext_getElem (by simp [tab]) fun j h1 h2 => ?_
  simp only [tab, List.getElem_set, List.getElem_map, List.getElem_range]
  by_cases e : j = i
  · simp [e]
  · simp [e, Ne.symm e]
theorem row_of (ns : List Int) : ns = row ns.length fun x => ns.getD x 0 := by
  refine List.ext_getElem (by simp [row]) fun j h1 h2 => ?_
  simp [row, List.getD, h1]
theorem tab_of {nss : List (List Int)} {W : Nat} (hw : ∀ ns ∈ nss, ns.length = W) : nss = tab nss.length W fun y x => (nss.getD y []).getD x 0 := by
  refine List.ext_getElem (by simp [tab]) fun j h1 h2 => ?_
  have e := hw _ (List.getElem_mem h1)
  simp only [tab, List.getElem_map, List.getElem_range]
  have := row_of nss[j]
  rw [e] at this
  simpa [List.getD, h1] using this
theorem tab_mem {H W : Nat} {f : Nat → Nat → Int} {ns : List Int} (h : ns ∈ tab H W f) : ns.length = W := by
  obtain ⟨y, _, rfl⟩ := List.mem_map.mp h
  exact row_len
theorem tab_cell {H W : Nat} {f : Nat → Nat → Int} {y x : Int} (hy : y.toNat < H) (hx : x.toNat < W) : cell (tab H W f) y x = f y.toNat x.toNat := by
  simp [cell, List.getD, tab_get hy, row_get hx]
theorem tab_dim {H W : Nat} {f : Nat → Nat → Int} (h1 : 1 ≤ H) (h2 : H ≤ 1000) (w1 : 1 ≤ W) (w2 : W ≤ 1000) : Dim (tab H W f) W H :=
  ⟨by rw [tab_len], fun ns h => by rw [tab_mem h], by walk_at "ol", by walk_at "ol", by walk_at "ol", by walk_at "ol"⟩

/-- the rows of a plane as a ledger -/
def rowsLed : List Addr → List (List Int) → Led
  | a :: as, ns :: nss => (a, IsInts ns) :: rowsLed as nss
  | _, _ => []
theorem rowsLed_keys : ∀ {as : List Addr} {nss : List (List Int)}, as.length = nss.length → (rowsLed as nss).map (·.1) = as
  | [], [], _ => rfl
  | _ :: _, _ :: _, h => by simp [rowsLed, rowsLed_keys (by simpa using h)]
theorem rowsLed_rows {h : Heap} : ∀ {as : List Addr} {nss : List (List Int)}, Rows h as nss → ∀ p ∈ rowsLed as nss, ∃ o, h.get? p.1 = some o ∧ p.2 o
  | [], [], _, p, hp => by cases hp
  | _ :: _, _ :: _, ⟨a, b⟩, p, hp => by
    rcases List.mem_cons.mp hp with rfl | hp
    · exact a
    · exact rowsLed_rows b p hp
theorem rows_of_led {h : Heap} : ∀ {as : List Addr} {nss : List (List Int)}, as.length = nss.length → (∀ p ∈ rowsLed as nss, ∃ o, h.get? p.1 = some o ∧ p.2 o) → Rows h as nss
  | [], [], _, _ => trivial
  | _ :: _, _ :: _, e, H => ⟨H _ (.head _), rows_of_led (by simpa using e) fun p hp => H p (.tail _ hp)⟩
theorem rowsLed_mem : ∀ {as : List Addr} {nss : List (List Int)} {i : Nat} {a : Addr} {ns : List Int}, as[i]? = some a → nss[i]? = some ns → (a, IsInts ns) ∈ rowsLed as nss
  | _ :: _, _ :: _, 0, _, _, h1, h2 => by
    simp only [List.getElem?_cons_zero, Option.some.injEq] at h1 h2
    subst h1; subst h2; exact .head _
  | _ :: _, _ :: _, i + 1, _, _, h1, h2 => .tail _ (rowsLed_mem (by simpa using h1) (by simpa using h2))
theorem rowsLed_put : ∀ {as : List Addr} {nss : List (List Int)} {i : Nat} {a : Addr} {ns : List Int}, as.length = nss.length → as[i]? = some a → Put a (IsInts ns) (rowsLed as nss) (rowsLed as (nss.set i ns))
  | _ :: _, _ :: _, 0, _, _, _, h1 => by
    simp only [List.getElem?_cons_zero, Option.some.injEq] at h1
    subst h1; exact .head
  | _ :: _, _ :: _, i + 1, _, _, h, h1 => .tail (rowsLed_put (by simpa using h) (by simpa using h1))

def putF (f : Nat → Nat → Int) (x y n ce mo : Int) (bs : List Int) (i j : Nat) : Int :=
  if (i : Int) / n = y ∧ (j : Int) / n = x then clampI (bs.getD (((i : Int) % n) * n + (j : Int) % n).toNat 0 + ce) mo else f i j

theorem div_iff {u n y : Int} (hn : 1 ≤ n) : u / n = y ↔ y * n ≤ u ∧ u < y * n + n := by
  have h1 := Int.le_ediv_iff_mul_le (a := y) (b := u) (c := n) (by walk_at "ol")
  have h2 := Int.ediv_lt_iff_lt_mul (a := u) (b := y + 1) (c := n) (by walk_at "ol")
  rw [Int.add_mul, Int.one_mul] at h2
  constructor
  · intro e; exact ⟨h1.mp (by walk_at "ol"), h2.mp (by walk_at "ol")⟩
  · rintro ⟨a, b⟩
    have := h1.mpr a
    have := h2.mpr b
    walk_at "ol"
theorem mod_of {u n y : Int} (h : u / n = y) : u % n = u - y * n := by
  rw [Int.emod_def, h, Int.mul_comm]
theorem putF_off {f : Nat → Nat → Int} {x y n ce mo : Int} {bs : List Int} {u v : Nat} (hn : 1 ≤ n) (h : ¬ (y * n ≤ (u : Int) ∧ (u : Int) < y * n + n ∧ x * n ≤ (v : Int) ∧ (v : Int) < x * n + n)) : putF f x y n ce mo bs u v = f u v := by
  unfold putF
  rw [if_neg]
  rw [div_iff hn, div_iff hn]
  walk_at "ol"
theorem putF_on {f : Nat → Nat → Int} {x y n ce mo : Int} {bs : List Int} {u v : Nat} (hn : 1 ≤ n) (h1 : y * n ≤ (u : Int)) (h2 : (u : Int) < y * n + n) (h3 : x * n ≤ (v : Int)) (h4 : (v : Int) < x * n + n) : putF f x y n ce mo bs u v = clampI (bs.getD (((u : Int) - y * n) * n + ((v : Int) - x * n)).toNat 0 + ce) mo := by
  unfold putF
  have e1 := (div_iff (u := u) hn).mpr ⟨h1, h2⟩
  have e2 := (div_iff (u := v) hn).mpr ⟨h3, h4⟩
  rw [if_pos ⟨e1, e2⟩, mod_of e1, mod_of e2]

/-- the plane while a block is put: the rows below i, and of row i the places below j -/
def inF (f : Nat → Nat → Int) (x y n ce mo : Int) (bs : List Int) (i j : Int) (u v : Nat) : Int := if (u : Int) < y * n + i ∨ ((u : Int) = y * n + i ∧ (v : Int) < x * n + j) then putF f x y n ce mo bs u v else f u v
section
variable {f : Nat → Nat → Int} {x y n ce mo i j c : Int} {bs : List Int} {H W u v : Nat}
theorem min_fact {a : Int} (h : (if a < n then a else n) = c) (ha : -10000 ≤ a) (hn : 1 ≤ n) : c ≤ a ∧ c ≤ n ∧ (a ≤ c ∨ n ≤ c) ∧ -10000 ≤ c := by split at h <;> walk_at "ol"
theorem inF_start (hn : 1 ≤ n) : tab H W f = tab H W (inF f x y n ce mo bs 0 0) := tab_congr fun u v _ _ => by
  unfold inF
  split
  · rw [putF_off hn (by walk_at "ol")]
  · rfl
theorem inF_row (hn : 1 ≤ n) (hw : (W : Int) - x * n ≤ c ∨ n ≤ c) : tab H W (inF f x y n ce mo bs i c) = tab H W (inF f x y n ce mo bs (i + 1) 0) := tab_congr fun u v _ hv => by
  unfold inF
  by_cases e : y * n ≤ (u : Int) ∧ (u : Int) < y * n + n ∧ x * n ≤ (v : Int) ∧ (v : Int) < x * n + n
  · by_cases d : (u : Int) < y * n + (i + 1)
    · rw [if_pos (show _ ∨ _ by walk_at "ol"), if_pos (.inl d)]
    · rw [if_neg (by walk_at "ol"), if_neg (by walk_at "ol")]
  · rw [putF_off hn e, ite_self, ite_self]
theorem inF_end (hn : 1 ≤ n) (hw : (H : Int) - y * n ≤ c ∨ n ≤ c) : tab H W (inF f x y n ce mo bs c 0) = tab H W (putF f x y n ce mo bs) := tab_congr fun u v hu _ => by
  unfold inF
  by_cases e : y * n ≤ (u : Int) ∧ (u : Int) < y * n + n ∧ x * n ≤ (v : Int) ∧ (v : Int) < x * n + n
  · rw [if_pos (.inl (by walk_at "ol"))]
  · rw [putF_off hn e, ite_self]
theorem inF_on (hn : 1 ≤ n) (hu : y * n + i = (u : Int)) (hv : x * n + j = (v : Int)) (hi : 0 ≤ i) (hi' : i < n) (hj : 0 ≤ j) (hj' : j < n) : inF f x y n ce mo bs i (j + 1) u v = clampI (bs.getD (i * n + j).toNat 0 + ce) mo := by
  unfold inF
  rw [if_pos (.inr ⟨hu.symm, by walk_at "ol"⟩), putF_on hn (by walk_at "ol") (by walk_at "ol") (by walk_at "ol") (by walk_at "ol"), ← hu, ← hv, Int.add_comm (y * n), Int.add_comm (x * n), Int.add_sub_cancel, Int.add_sub_cancel]
theorem inF_off (hu : y * n + i = (u : Int)) (hv : x * n + j ≠ (v : Int)) : inF f x y n ce mo bs i (j + 1) u v = inF f x y n ce mo bs i j u v := by
  unfold inF
  by_cases d : (v : Int) < x * n + j
  · rw [if_pos (.inr ⟨hu.symm, by walk_at "ol"⟩), if_pos (.inr ⟨hu.symm, d⟩)]
  · rw [if_neg, if_neg] <;> walk_at "ol"
theorem inF_line (hu : y * n + i ≠ (u : Int)) : inF f x y n ce mo bs i (j + 1) u v = inF f x y n ce mo bs i j u v := by
  unfold inF
  by_cases d : (u : Int) < y * n + i
  · rw [if_pos (.inl d), if_pos (.inl d)]
  · rw [if_neg, if_neg] <;> walk_at "ol"
theorem inF_step (hn : 1 ≤ n) (hu : y * n + i = (u : Int)) (hv : x * n + j = (v : Int)) (hi : 0 ≤ i) (hi' : i < n) (hj : 0 ≤ j) (hj' : j < n) :
    (tab H W (inF f x y n ce mo bs i j)).set u ((row W (inF f x y n ce mo bs i j u)).set v (clampI (bs.getD (i * n + j).toNat 0 + ce) mo)) = tab H W (inF f x y n ce mo bs i (j + 1)) := by
  rw [row_set, tab_set]
  refine tab_congr fun a b _ _ => ?_
  by_cases ea : a = u
  · subst ea
    rw [if_pos rfl]
    by_cases eb : b = v
    · subst eb
      rw [if_pos rfl, inF_on hn hu hv hi hi' hj hj']
    · rw [if_neg eb, inF_off hu (by walk_at "ol")]
  · rw [if_neg ea, inF_line (by walk_at "ol")]
end

theorem put_ok {x y n ce mo : Int} {b : Addr} {bs : List Int} {H W : Nat} {f : Nat → Nat → Int} {t1 t2 t3 t4 t5 : Tok} (hA : Room A 2) (B : Base w g) (hg : Sub g h0) (P : PlaneAt g p W H r) (hr : RL g r as) (R0 : Rows h0 as (tab H W f)) (hfr : ∀ a ∈ as, g.get? a = none) (hnd : as.Nodup)
  (hb : IL h0 b bs) (hba : b ∉ as) (hH : H ≤ 1000) (hW : W ≤ 1000) (hx : 0 ≤ x) (hx' : x ≤ 100) (hy : 0 ≤ y) (hy' : y ≤ 100) (hn : 1 ≤ n) (hn' : n ≤ 100) (hl : (bs.length : Int) = n * n)
  (h : ∀ h' tk, Ch as h0 h' → Rows h' as (tab H W (putF f x y n ce mo bs)) → Q .none (sh s h' tk)) :
  wpAny (model prog w) A (call (.ref 40) [.ref p, .int x t1, .int y t2, .ref b, .int n t3, .int ce t4, .int mo t5]) Q NoE (sh s h0 tk0) := by
  have hlen : as.length = (tab H W f).length := R0.len
  have hk0 := rowsLed_keys hlen
  refine enter (rowsLed as (tab H W f)) [("most", .int mo), ("centre", .int ce), ("n", .int n), ("block", .val (.ref b)), ("y", .int y), ("x", .int x), ("plane", .val (.ref p))] hA B hg (rowsLed_rows R0) (fun q hq => hfr _ (hk0 ▸ List.mem_map_of_mem hq)) (by rw [hk0]; exact hnd) rfl rfl rfl (locs rfl) rfl (by decide) rfl rfl rfl ?_
  intro g' L h₁ tk B' hg' hk hs S R
  have hk' : Ch as h0 g' := fun b o e q => hk b o e (by rw [hk0]; exact q)
  rw [tab_len] at hlen
  have P' := P.sub hg'
  have hr' := hr.sub hg'
  have hb' : IL g' b bs := let ⟨o, e, q⟩ := hb; ⟨o, hk' _ _ e hba, q⟩
  obtain ⟨bx, bx'⟩ := mul_bd hx hx' (by walk_at "ol") hn'
  obtain ⟨by0, by1⟩ := mul_bd hy hy' (by walk_at "ol") hn'
  clear hk0 hnd R0 hfr hba hb P hr hg hk
  repeat' walk_at "m"
  refine attr_width (P'.sub S.keep) B' S.keep fun _ _ => ?_
  repeat' walk_at "m"
  refine k_min (R.mono (by walk_at "om")) (by assumption) fun _ h₂ tk₂ S k₂ => ?_
  repeat' walk_at "m"
  generalize hwi : (if (W : Int) - x * n < n then (W : Int) - x * n else n) = wi at *
  obtain ⟨w1, w2, w3, w4⟩ := min_fact hwi (by walk_at "ol") hn
  refine wpAny_For ?_
  repeat' walk_at "m"
  refine attr_height (P'.sub (St.keep (by assumption))) B' (St.keep (by assumption)) fun _ _ => ?_
  repeat' walk_at "m"
  refine k_min (R.mono (by walk_at "om")) (by assumption) fun _ h₃ tk₃ S k₃ => ?_
  repeat' walk_at "m"
  generalize hhi : (if (H : Int) - y * n < n then (H : Int) - y * n else n) = hi at *
  obtain ⟨h1, h2, h3, h4⟩ := min_fact hhi (by walk_at "ol") hn
  clear hwi hhi
  have w5 := Int.le_trans w2 hn'
  have h5 := Int.le_trans h2 hn'
  refine k_range1 (by assumption) fun rr h₃ tk₃ S k₃ => ?_
  refine for_range0 (fun _ => [("wide", .int wi), ("most", .int mo), ("centre", .int ce), ("n", .int n), ("block", .val (.ref b)), ("y", .int y), ("x", .int x), ("plane", .val (.ref p))]) (fun i => rowsLed as (tab H W (inF f x y n ce mo bs (i : Nat) 0))) (R.mono (by walk_at "om")) S B' (by walk_at "ol") (by walk_at "ol") rfl (congrArg _ (inF_start hn)) rfl rfl ?_ ?_
  · intro i gb h tk K hi' Bb hgb S hK
    have P₂ := P'.sub hgb
    have i0 := Int.natCast_nonneg i
    obtain ⟨u, hu⟩ := Int.eq_ofNat_of_zero_le (Int.add_nonneg by0 i0)
    have huH : u < H := by walk_at "ol"
    obtain ⟨a, ha⟩ : ∃ a, as[u]? = some a := ⟨_, List.getElem?_eq_getElem (by rw [hlen]; exact huH)⟩
    repeat' walk_at "m"
    refine attr_rows (P₂.sub S.keep) Bb S.keep fun _ => ?_
    repeat' walk_at "m"
    rw [hu]
    refine sub_refs ((hr'.sub hgb).sub S.keep) (Int.natCast_nonneg u) (by walk_at "ol") ha ?_ (by with_unfolding_all rfl)
    repeat' walk_at "m"
    refine wpAny_For ?_
    repeat' walk_at "m"
    refine k_range1 (by assumption) fun rr h₃ tk₃ S k₃ => ?_
    refine for_range0 (fun _ => [("told", .val (.ref a)), ("row", .int (i : Nat)), ("wide", .int wi), ("most", .int mo), ("centre", .int ce), ("n", .int n), ("block", .val (.ref b)), ("y", .int y), ("x", .int x), ("plane", .val (.ref p))]) (fun j => rowsLed as (tab H W (inF f x y n ce mo bs (i : Nat) (j : Nat)))) (R.mono (by walk_at "om")) S Bb (by walk_at "ol") (by walk_at "ol") rfl rfl rfl rfl ?_ ?_
    · intro j gc h tk K' hj Bc hgc S hK'
      have j0 := Int.natCast_nonneg j
      obtain ⟨v, hv⟩ := Int.eq_ofNat_of_zero_le (Int.add_nonneg bx j0)
      have hvW : v < W := by walk_at "ol"
      have hin := Int.lt_of_lt_of_le hi' h2
      have hjn := Int.lt_of_lt_of_le hj w2
      have b1 := mul_bd (x := (i : Int)) (n := n) (a := n - 1) (b := n) i0 (by walk_at "ol") (by walk_at "ol") (Int.le_refl _)
      rw [Int.sub_mul, Int.one_mul] at b1
      have b2 := mul_bd (x := n) (n := n) (a := 100) (b := 100) (by walk_at "ol") hn' (by walk_at "ol") hn'
      obtain ⟨b10, b11⟩ := b1
      obtain ⟨_, b21⟩ := b2
      have kk0 := Int.add_nonneg b10 j0
      have hkk : ((i : Int) * n + (j : Int)).toNat < bs.length := by walk_at "ol"
      have hk1 : (i : Int) * n + (j : Int) ≤ 100 * 100 := by walk_at "ol"
      have hi1 : (i : Int) ≤ 100 := by walk_at "ol"
      repeat' walk_at "m"
      refine sub_ints (x := bs[((i : Int) * n + (j : Int)).toNat]) (((hb'.sub hgb).sub hgc).sub S.keep) kk0 (by walk_at "ol") (by simp [hkk]) ?_ (by with_unfolding_all rfl)
      intro _
      repeat' walk_at "m"
      refine clamp_at (R.mono (by walk_at "om")) S Bc fun _ h₄ tk₄ S k₄ => ?_
      repeat' walk_at "m"
      rw [hv]
      refine set_ints S (rowsLed_mem ha (tab_get huH)) (Int.natCast_nonneg v) (by rw [row_len]; walk_at "ol") (by walk_at "ol") (rowsLed_put (by rw [hlen, tab_len]) ha) fun h₅ S => ?_
      repeat' walk_at "m"
      have e := inF_step (f := f) (ce := ce) (mo := mo) (bs := bs) (H := H) (W := W) hn hu hv i0 hin j0 hjn
      rw [List.getD, List.getElem?_eq_getElem hkk] at e
      have S := S.forget rfl
      rw [show (tab H W (inF f x y n ce mo bs i j)).set u ((row W (inF f x y n ce mo bs i j u)).set (v : Int).toNat (clampI (bs[((i : Int) * n + (j : Int)).toNat] + ce) mo)) = _ from e] at S
      exact hK' _ _ S
    · intro h' tk S
      repeat' walk_at "m"
      refine hK _ _ ?_
      have S := (S.forget rfl).forget rfl
      rw [inF_row hn (by walk_at "ol")] at S
      exact S
  · intro h' tk S
    repeat' walk_at "m"
    refine h h' _ (fun b o e q => S.keep b o (hk' b o e q)) ?_
    rw [inF_end hn (by walk_at "ol")] at S
    exact rows_of_led (by rw [hlen, tab_len]) S.at'

theorem put_at {x y n ce mo : Int} {b : Addr} {bs : List Int} {H W : Nat} {f : Nat → Nat → Int} {t1 t2 t3 t4 t5 : Tok} (hA : Room A 2) (S : St g L h0 l (led ++ rowsLed as (tab H W f))) (hlen : as.length = H) (B : Base w g) (P : PlaneAt g p W H r) (hr : RL g r as)
  (hb : IL h0 b bs) (hba : b ∉ as) (hH : H ≤ 1000) (hW : W ≤ 1000) (hx : 0 ≤ x) (hx' : x ≤ 100) (hy : 0 ≤ y) (hy' : y ≤ 100) (hn : 1 ≤ n) (hn' : n ≤ 100) (hl : (bs.length : Int) = n * n)
  (h : ∀ h' tk, St g L h' l (led ++ rowsLed as (tab H W (putF f x y n ce mo bs))) → Ch as h0 h' → Q .none (sh s h' tk)) :
  wpAny (model prog w) A (call (.ref 40) [.ref p, .int x t1, .int y t2, .ref b, .int n t3, .int ce t4, .int mo t5]) Q NoE (sh s h0 tk0) := by
  have e1 : ∀ f, (rowsLed as (tab H W f)).map (·.1) = as := fun f => rowsLed_keys (by rw [hlen, tab_len])
  have nd := S.nd
  rw [List.map_append, e1] at nd
  have nd' := List.nodup_append.mp nd
  refine put_ok (f := f) hA B S.keep P hr (rows_of_led (by rw [hlen, tab_len]) fun q hq => S.at' q (List.mem_append_right _ hq)) (fun a ha => ?_) nd'.2.1 hb hba hH hW hx hx' hy hy' hn hn' hl fun h' tk hc hR => h h' tk (S.chG hc (fun d hd => ?_) ?_ fun q hq => ?_) hc
  · rw [← e1 f] at ha
    obtain ⟨q, hq, rfl⟩ := List.mem_map.mp ha
    exact S.fresh q (List.mem_append_right _ hq)
  · rw [List.map_append, e1]; exact List.mem_append_right _ hd
  · rw [List.map_append, List.map_append, e1, e1]
  · rcases List.mem_append.mp hq with q1 | q1
    · obtain ⟨o, ho, z⟩ := S.at' q (List.mem_append_left _ q1)
      exact ⟨o, hc _ _ ho fun hm => nd'.2.2 _ (List.mem_map_of_mem q1) _ hm rfl, z⟩
    · exact rowsLed_rows hR q q1
end

-- part 6
section
variable {prog : Program} {w : World} {A : Around} {s : Shared} {h0 h1 : Heap} {tk0 : Nat} {Q : Value → Shared → Prop} {g : Heap} {L : Addr} {l : Loc} {led : Led} {p r : Addr} {wd ht : Int} {as : List Addr} {nss : List (List Int)}

theorem rowsLed_snoc {D : Addr} {ns : List Int} : ∀ {as : List Addr} {nss : List (List Int)}, as.length = nss.length → rowsLed (as ++ [D]) (nss ++ [ns]) = rowsLed as nss ++ [(D, IsInts ns)]
  | [], [], _ => rfl
  | _ :: _, _ :: _, h => by simp [rowsLed, rowsLed_snoc (by simpa using h)]
theorem tab_succ {H W : Nat} {f : Nat → Nat → Int} : tab (H + 1) W f = tab H W f ++ [row W (f H)] := by simp [tab, List.range_succ]
theorem row_succ {W : Nat} {f : Nat → Int} : row (W + 1) f = row W f ++ [f W] := by simp [row, List.range_succ]

theorem St.rot {q : Addr × (Obj → Prop)} (S : St g L h0 l (q :: led)) : St g L h0 l (led ++ [q]) := S.perm (List.perm_append_singleton _ _)

theorem cut_ok {x y : Int} {wc hc : Nat} {t1 t2 t3 t4 : Tok} (hA : Room A 4) (B : Base w g) (hg : Sub g h0) (P : Pl h0 p wd ht r as nss) (D : Dim nss wd ht)
  (hx : 0 ≤ x) (hx' : x ≤ 10000) (hy : 0 ≤ y) (hy' : y ≤ 10000) (hw : 1 ≤ wc) (hw' : wc ≤ 100) (hh : 1 ≤ hc) (hh' : hc ≤ 100)
  (h : ∀ q r' as' h' tk, Sub h0 h' → Pl (newOf h0 h') q wc hc r' as' (tab hc wc fun i j => cell nss (keptI (y + i) ht) (keptI (x + j) wd)) → Q (.ref q) (sh s h' tk)) :
  wpAny (model prog w) A (call (.ref 126) [.ref p, .int x t1, .int y t2, .int wc t3, .int hc t4]) Q NoE (sh s h0 tk0) := by
  refine enterX [] [("height", .int hc), ("width", .int wc)] (fun L => [(L + 1 + 1 + 1 + 1, IsCellA), (L + 1 + 1 + 1, IsCellV (.int y)), (L + 1 + 1, IsCellV (.int x)), (L + 1, IsCellV (.val (.ref p)))]) hA B hg (by simp) (by simp) (by simp) rfl rfl rfl rfl rfl (fun _ => rfl) (by decide) rfl rfl rfl ?_
  intro g' L h₁ tk B' hg' hk hs S R
  have hk' : Sub h0 g' := fun b o e => hk b o e (by simp)
  have P' : Pl g' p wd ht r as nss := P.sub hk'
  simp only [List.append_nil] at S
  refine ex_cons fun _ _ => ?_
  refine wpAny_Assign_Name ?_
  refine l_disp ?_
  repeat' walk_at "m"
  refine disp_refs (as := []) S (by simp) fun D₀ h₂ tk₂ n₀ S k₂ => ?_
  repeat' walk_at "m"
  refine wpAny_For ?_
  repeat' walk_at "m"
  refine k_range1 (by assumption) fun rr h₃ tk₃ S k₃ => ?_
  have S := S.perm (led' := [(rr, IsRangeO 0 (hc : Int)), (L + 1 + 1 + 1 + 1, IsCellA), (D₀, IsRefs []), (L + 1 + 1 + 1, IsCellV (.int y)), (L + 1 + 1, IsCellV (.int x)), (L + 1, IsCellV (.val (.ref p)))]) (.cons _ (.swap _ _ _))
  refine for_range_c (fun i l led => ∃ as', as'.length = i ∧ l = ([("rows", .val (.ref D₀)), ("height", .int hc), ("width", .int wc)] : Loc) ∧ led = ((D₀, IsRefs as') :: (L + 1 + 1 + 1, IsCellV (.int y)) :: (L + 1 + 1, IsCellV (.int x)) :: (L + 1, IsCellV (.val (.ref p))) :: rowsLed as' (tab i wc fun i j => cell nss (keptI (y + i) ht) (keptI (x + j) wd)) : Led)) (R.mono (by walk_at "om")) S B' (by walk_at "ol") (by walk_at "ol") (by walk_at "ol") (by walk_at "ol") ⟨[], rfl, rfl, rfl⟩ rfl rfl rfl ?_ ?_
  · rintro i gb h tk l' led' hi Bb hgb ⟨as', hal, rfl, rfl⟩ S
    have P'' := P'.sub hgb
    refine ex_cons fun _ _ => ?_
    refine wpAny_Expr_any ?_
    refine MethodCall_ ?_
    repeat' walk_at "m"
    refine gm_list (by assumption) (.tail _ (.head _)) refs_list PySem.F.slot_list_append PySem.F.type_list_append ?_
    repeat' walk_at "m"
    refine lc_eval ?_ (by with_unfolding_all rfl) rfl (by decide)
    repeat' walk_at "m"
    refine k_range1 (by assumption) fun rr h₃ tk₃ S k₃ => ?_
    refine comp_range (fun j ys led => IntsAre ys (row j fun j => cell nss (keptI (y + i) ht) (keptI (x + j) wd)) ∧ led = ((L + 1 + 1 + 1 + 1, IsCellV (.int (0 + (i : Nat)))) :: (D₀, IsRefs as') :: (L + 1 + 1 + 1, IsCellV (.int y)) :: (L + 1 + 1, IsCellV (.int x)) :: (L + 1, IsCellV (.val (.ref p))) :: rowsLed as' (tab i wc fun i j => cell nss (keptI (y + i) ht) (keptI (x + j) wd)) : Led)) (R.mono (by walk_at "om")) S Bb (by walk_at "ol") (by walk_at "ol") (by walk_at "ol") (by walk_at "ol") (by walk_at "ol") ⟨by simpa [row] using IntsAre.nil, rfl⟩ (by decide) rfl rfl ?_ ?_
    · rintro j ys gc C h tk led' hj hys Bc hgc ⟨hI, rfl⟩ S
      have P₃ := P''.sub hgc
      refine MethodCall_ ?_
      repeat' walk_at "m"
      refine gm_at (P₃.pl.sub S.keep) Bc S.keep ?_
      repeat' walk_at "m"
      refine at_at (R.mono (by walk_at "om")) S Bc P₃ D fun _ h₄ tk₄ S k₄ => ?_
      repeat' walk_at "m"
      exact ⟨_, _, _, rfl, S.locs (by simp), by rw [row_succ]; exact hI.append (by rw [Int.zero_add, Int.zero_add]; exact .cons _ _ .nil), rfl⟩
    · refine done_none fun D h' tk ys led' hD S ⟨hI, hl⟩ hlen => ?_
      subst hl
      have S := S.say0 (isVals_ints hI)
      have hii : i < hc := by walk_at "ol"
      repeat' walk_at "m"
      refine k_append_ref S (.tail _ (.tail _ (.head _))) (.tail (.tail .head)) (by walk_at "ol") fun h₅ S => ?_
      have S := S.say0 fun _ q => q.r
      repeat' walk_at "m"
      refine ⟨rfl, _, _, _, _, rfl, ?_, as' ++ [D], by simp [hal], rfl, rfl⟩
      have e : ((wc : Int) - 0).toNat = wc := by walk_at "ol"
      rw [e] at S
      rw [tab_succ, rowsLed_snoc (by rw [tab_len, hal])]
      have S := S.rot.say0 fun _ q => q.any
      exact S
  · rintro h' tk l' led' S ⟨as', hal, rfl, rfl⟩
    repeat' walk_at "m"
    refine plane_at (R.mono (by walk_at "om")) S B' fun q h₆ tk₆ S₆ k₆ hp => ?_
    have e : ((hc : Int) - 0).toNat = hc := by walk_at "ol"
    rw [e] at hal S₆
    have h06 : Sub h0 h' := fun b o e => S.keep b o (hk' b o e)
    repeat' walk_at "m"
    refine h _ _ _ _ _ (h06.trans k₆) ⟨hp.sub (newOf_mono h06 (Sub.refl _)), S₆.newOf_get hk' (.tail _ (.head _)), ?_⟩
    refine rows_of_led (by rw [hal, tab_len]) fun q hq => ?_
    exact S₆.newOf_get hk' (.tail _ (.tail _ (.tail _ (.tail _ (.tail _ hq)))))
end

-- part 7
section
variable {prog : Program} {w : World} {A : Around} {s : Shared} {h0 h1 : Heap} {tk0 : Nat} {Q : Value → Shared → Prop} {g : Heap} {L : Addr} {l : Loc} {led : Led} {p r : Addr} {wd ht : Int} {as : List Addr} {nss : List (List Int)}

theorem copied_ok (hA : Room A 4) (B : Base w g) (hg : Sub g h0) (P : Pl h0 p wd ht r as nss) (D : Dim nss wd ht)
  (h : ∀ q r' as' h' tk, Sub h0 h' → Pl (newOf h0 h') q wd ht r' as' nss → Q (.ref q) (sh s h' tk)) :
  wpAny (model prog w) A (call (.ref 131) [.ref p]) Q NoE (sh s h0 tk0) := by
  refine enter [] [("plane", .val (.ref p))] hA B hg (by simp) (by simp) (by simp) rfl rfl rfl (locs rfl) rfl (by decide) rfl rfl rfl ?_
  intro g' L h₁ tk B' hg' hk hs S R
  have hk' : Sub h0 g' := fun b o e => hk b o e (by simp)
  have P' : Pl g' p wd ht r as nss := P.sub hk'
  have hlen := P.rows.len
  have d1 := D.h
  have d2 := D.h2
  repeat' walk_at "m"
  refine attr_width (P'.pl.sub S.keep) B' S.keep fun _ _ => ?_
  repeat' walk_at "m"
  refine attr_height (P'.pl.sub S.keep) B' S.keep fun _ _ => ?_
  repeat' walk_at "m"
  refine lc_eval ?_ (by with_unfolding_all rfl) rfl (by decide)
  repeat' walk_at "m"
  refine attr_rows (P'.pl.sub S.keep) B' S.keep fun _ => ?_
  refine comp_list (fun j ys led => ∃ as', as'.length = j ∧ ys = as'.map .ref ∧ led = rowsLed as' (nss.take j)) (R.mono (by walk_at "om")) S B' P'.rl.list (by simp; walk_at "om") ⟨[], rfl, rfl, rfl⟩ (by decide) rfl rfl ?_ ?_
  · rintro j v ys gc C h tk led' hj hv hys Bc hgc ⟨as', hal, rfl, rfl⟩ S
    have hj' : j < nss.length := by simpa [hlen] using hj
    obtain ⟨a, ha, ia⟩ := P'.rows.get j hj'
    have hv' : v = .ref a := by simpa [ha] using hv.symm
    subst hv'
    have hw := D.w _ (List.getElem_mem hj')
    have hw2 := D.w2
    repeat' walk_at "m"
    refine k_list S ((ia.sub hgc).sub S.keep) (by walk_at "om") fun D₀ h₂ tk₂ n₀ S k₂ => ?_
    refine ⟨_, _, _, rfl, (S.say0 fun _ q => q.r).rot.locs (by simp), as' ++ [D₀], by simp [hal], by simp, ?_⟩
    rw [List.take_succ_eq_append_getElem hj', rowsLed_snoc (by rw [hal, List.length_take]; walk_at "om")]
  · refine done_none fun D h' tk ys led' hD S ⟨as', hal, hy, hl⟩ hlen' => ?_
    subst hy; subst hl
    have S := S.say0 isVals_refs
    repeat' walk_at "m"
    refine plane_at (R.mono (by walk_at "om")) S B' fun q h₆ tk₆ S₆ k₆ hp => ?_
    have e : nss.take (as.map Value.ref).toArray.size = nss := by
      rw [List.take_of_length_le]; simp [hlen]
    rw [e] at S₆
    have h06 : Sub h0 h' := fun b o e => S.keep b o (hk' b o e)
    repeat' walk_at "m"
    refine h _ _ _ _ _ (h06.trans k₆) ⟨hp.sub (newOf_mono h06 (Sub.refl _)), S₆.newOf_get hk' (.head _), ?_⟩
    refine rows_of_led (by rw [hal]; simp [hlen]) fun q hq => ?_
    exact S₆.newOf_get hk' (.tail _ hq)
end

-- part 8
def dat (nss : List (List Int)) : List PyData := nss.map fun ns => .list (ns.map .int)
theorem noMix_lists : ∀ a b : List (List Int), PySem.SeqAt.noMixAll (dat a) (dat b) = true
  | [], [] => by simp [dat, PySem.SeqAt.noMixAll]
  | [], _ :: _ => by simp [dat, PySem.SeqAt.noMixAll]
  | _ :: _, [] => by simp [dat, PySem.SeqAt.noMixAll]
  | x :: r, y :: q => by
    have := noMix_lists r q
    simp only [dat] at this ⊢
    simp [PySem.SeqAt.noMixAll, PySem.SeqAt.noMix, this, noMix_ints]
theorem same_lists : ∀ a b : List (List Int), PySem.Spec.sameAll (dat a) (dat b) = decide (a = b)
  | [], [] => by simp [dat, PySem.Spec.sameAll]
  | [], _ :: _ => by simp [dat, PySem.Spec.sameAll]
  | _ :: _, [] => by simp [dat, PySem.Spec.sameAll]
  | x :: r, y :: q => by
    have := same_lists r q
    simp only [dat] at this ⊢
    simp only [List.map_cons, PySem.Spec.sameAll, PySem.Spec.same, this, same_ints]
    by_cases h : x = y <;> simp [h]
theorem canLay_lists : ∀ a : List (List Int), PyData.canLayAll0 (dat a) = true
  | [] => by simp [dat, PyData.canLayAll0]
  | x :: r => by
    have := canLay_lists r
    simp only [dat] at this ⊢
    simp [PyData.canLayAll0, PyData.canLay0, canLayAll0_ints, this]
theorem depth_lists : ∀ a : List (List Int), PyData.depthAll (dat a) ≤ 3
  | [] => by simp [dat, PyData.depthAll]
  | x :: r => by
    have h1 := depth_lists r
    have h2 := W.depthAll_ints x
    simp only [dat] at h1 ⊢
    simp only [List.map_cons, PyData.depthAll, PyData.depth]
    walk_at "ol"
theorem shaped_lists (a : List (List Int)) : PySem.SeqAt.shaped (.list (dat a)) = true := by
  have h1 := depth_lists a
  have h2 : PyData.depth (.list (dat a)) ≤ 64 := by simp only [PyData.depth]; walk_at "ol"
  show (PyData.canLay0 (.list (dat a)) && decide (PyData.depth (.list (dat a)) ≤ 64)) = true
  rw [Bool.and_eq_true]
  exact ⟨by simp only [PyData.canLay0]; exact canLay_lists a, decide_eq_true h2⟩
theorem readsAll_rows {h : Heap} : ∀ {as : List Addr} {nss : List (List Int)}, Rows h as nss → ReadsAll h (as.map .ref) (dat nss) as
  | [], [], _ => .nil
  | a :: as, n :: nss, ⟨x, y⟩ => by
    obtain ⟨vs, hl, hi⟩ := x.list
    exact ReadsAll.cons (reads_of_ints hl hi) (readsAll_rows y)
theorem reads_rows {h : Heap} {r : Addr} {as : List Addr} {nss : List (List Int)} (R : RL h r as) (x : Rows h as nss) : Reads h (.ref r) (.list (dat nss)) (r :: as) := by
  obtain ⟨o, ho, n, rfl⟩ := R
  exact Reads.list ho rfl rfl (by simpa using readsAll_rows x)
section
variable {prog : Program} {w : World} {A : Around} {E : Value → Shared → Prop} {s : Shared} {h0 h1 : Heap} {tk0 : Nat} {Q : Value → Shared → Prop} {g : Heap} {L : Addr} {l : Loc} {led : Led} {p q r r' : Addr} {wd ht : Int} {as bs : List Addr} {nss mss : List (List Int)} {k : Nat}

theorem eq_rows (hA : Room A k) (R : RL h0 r as) (x : Rows h0 as nss) (R' : RL h0 r' bs) (x' : Rows h0 bs mss) (h : Q (.bool (decide (nss = mss))) (sh s h0 tk0)) :
    wpAny (model prog w) A (compareOp .Eq (.ref r) (.ref r')) Q E (sh s h0 tk0) :=
  PyProof.Rows.eq_dataH_same (s := sh s h0 tk0) (reads_rows R x) (reads_rows R' x') (shaped_lists nss) (shaped_lists mss) (by have := hA.u; walk_at "ol") (by simp only [PySem.SeqAt.noMix]; exact noMix_lists _ _) (by simp only [PySem.Spec.same]; rw [same_lists]; exact h)
theorem ne_rows (hA : Room A k) (R : RL h0 r as) (x : Rows h0 as nss) (R' : RL h0 r' bs) (x' : Rows h0 bs mss) (h : Q (.bool (!decide (nss = mss))) (sh s h0 tk0)) :
    wpAny (model prog w) A (compareOp .NotEq (.ref r) (.ref r')) Q E (sh s h0 tk0) :=
  PyProof.Rows.ne_dataH_same (s := sh s h0 tk0) (reads_rows R x) (reads_rows R' x') (shaped_lists nss) (shaped_lists mss) (by have := hA.u; walk_at "ol") (by simp only [PySem.SeqAt.noMix]; exact noMix_lists _ _) (by simp only [PySem.Spec.same]; rw [same_lists]; exact h)
theorem ne_ints {a b : Addr} {ns ms : List Int} (hA : Room A k) (x : IL h0 a ns) (y : IL h0 b ms) (h : Q (.bool (!decide (ns = ms))) (sh s h0 tk0)) :
    wpAny (model prog w) A (compareOp .NotEq (.ref a) (.ref b)) Q E (sh s h0 tk0) := by
  obtain ⟨vs, hl, hi⟩ := x.list
  obtain ⟨us, hl', hi'⟩ := y.list
  exact ne_intsK (s := sh s h0 tk0) hl hi hl' hi' (by have := hA.u; walk_at "ol") h
theorem k_isi {n : Int} {u : Tok} (h : Q (.bool true) (sh s h0 tk0)) : wpAny (model prog w) A (call (.builtin "isinstance") [.int n u, .type "int"]) Q E (sh s h0 tk0) := PySem.IsiPair.int_int h
theorem k_sorted {y : Addr} {ns : List Int} (S : St g L h0 l led) (hy : IL h0 y ns) (hz : ns.length < 64)
    (h : ∀ D ns' h' tk, h0.get? D = none → St g L h' l ((D, IsIntsP ns') :: led) → ns'.Perm ns → ns'.Pairwise (· ≤ ·) → Q (.ref D) (sh s h' tk)) :
    wpAny (model prog w) A (call (.builtin "sorted") [.ref y]) Q E (sh s h0 tk0) := by
  obtain ⟨vs, hl, hi⟩ := hy.list
  refine PyProof.Rows.sorted_ints (s := sh s h0 tk0) hl hi (by rw [hi.length]; exact hz) fun out ns' a1 a2 a3 => ?_
  obtain ⟨e, he⟩ := PyProof.Rows.sortedAll_at h0 vs out
  exact h _ ns' _ tk0 (fresh_size h0 (Nat.le_succ _)) (S.add_new (S.ch0 fun _ _ => PyProof.Rows.sortedAll_old) rfl (fresh_size h0 (Nat.le_succ _)) ⟨_, he, out.toList, e, by simp [PyProof.Rows.seqObj], a1⟩) a2 a3
theorem k_max_list {y : Addr} {ns : List Int} (hA : Room A k) (S : St g L h0 l led) (hy : IL h0 y ns) (hz : 0 < ns.length)
    (h : ∀ M t h' tk, St g L h' l led → Ch [L] h0 h' → M ∈ ns → (∀ a ∈ ns, a ≤ M) → Q (.int M t) (sh s h' tk)) :
    wpAny (model prog w) A (call (.builtin "max") [.ref y]) Q E (sh s h0 tk0) := by
  obtain ⟨vs, hl, hi⟩ := hy.list
  obtain ⟨m, F, N, back⟩ := S.toFr
  exact PyProof.Rows.max_list_N (s := sh s h0 tk0) hA.h F N hl hi hz fun h' M t tk F' N' a b => h M t h' tk (back h' F' N').1 (back h' F' N').2 a b
theorem ints_zeros : ∀ {vs : List Value} {z : Int} {t : Tok} (n : Nat), IntsAre (List.replicate n [Value.int z t]).flatten (List.replicate n z)
  | _, _, _, 0 => .nil
  | vs, z, t, n + 1 => by
    rw [List.replicate_succ, List.replicate_succ]
    exact .cons z t (ints_zeros (vs := vs) n)
theorem o_mul_list {D : Addr} {z x : Int} {u : Tok} (S : St g L h0 l led) (hD : ILP h0 D [z]) (h0' : 0 ≤ x) (hx : x ≤ 100000) (h : ∀ C h' tk, h0.get? C = none → St g L h' l ((C, IsIntsP (List.replicate x.toNat z)) :: led) → Q (.ref C) (sh s h' tk)) :
    wpAny (model prog w) A (binaryOp .Mult (.ref D) (.int x u)) Q E (sh s h0 tk0) := by
  obtain ⟨o, ho, vs, n, rfl, hi⟩ := hD
  obtain ⟨m, F, N, back⟩ := S.toFr
  cases hi with
  | cons _ t hi =>
    cases hi
    refine PyProof.Rows.mul_list (s := sh s h0 tk0) F N ho (by walk_at "ol") (by walk_at "ol") (by simp; walk_at "ol") fun h' F' N' => ?_
    have hN := (N' _ (.head _)).1
    rw [PyProof.Rows.listMul_foldl_if] at hN
    have S' := (back h' F' fun q hq => N' q (.tail _ hq)).1
    have f := fresh_size h0 (Nat.le_refl _)
    refine h _ h' tk0 f (S.add_new S' rfl f ⟨_, hN, _, 0, rfl, ?_⟩)
    simpa using ints_zeros (vs := []) x.toNat

theorem add_ints {a b : Addr} {ns ms : List Int} (x : IL h0 a ns) (y : IL h0 b ms) (hz : ns.length ≤ 100000) (hz' : ms.length ≤ 100000)
    (h : ∀ h', Sub h0 h' → ILP h' h0.objs.size (ns ++ ms) → Q (.ref h0.objs.size) (sh s h' tk0)) : wpAny (model prog w) A (binaryOp .Add (.ref a) (.ref b)) Q E (sh s h0 tk0) := by
  obtain ⟨⟨cls, dd, data, sl⟩, ho, hc, vs, n, hd, hi⟩ := x
  obtain ⟨⟨cls2, dd2, data2, sl2⟩, ho2, hc2, us, n2, hd2, hi2⟩ := y
  simp only at hc hd hc2 hd2
  subst hc hd hc2 hd2
  refine concat_meets (s := sh s h0 tk0) ⟨_, ho, rfl⟩ ⟨_, ho2, rfl⟩ noFill_list_add seq_list_add PySem.F.slot_list_add PySem.F.entry_list_add (PySem.F.args_list_add_2 _ _) (PyProof.Rows.list_addW a b vs.toArray us.toArray n n2 dd dd2 sl sl2 (by rw [List.size_toArray, List.size_toArray, hi.length, hi2.length, sizeLine_eq]; walk_at "ol")) ⟨ho, ho2, ?_⟩
  exact h _ (Sub.push _ _) ⟨_, Heap.get?_push_size _ rfl, vs ++ us, 0, by simp, hi.append hi2⟩

theorem sum_loop {I ax SS : Addr} {R : Result → Shared → Prop} (hh : A.handled = none) (hne : ax ≠ I) (hI : h0.get? I = none) (hS : h0.get? SS = none) (hSI : SS ≠ I) (hl : h0.IsList ax (as.map Value.ref).toArray) (x : Rows h0 as nss) (hz : ∀ i, (nss.take i).flatten.length ≤ 100000) (hz' : ∀ ns ∈ nss, ns.length ≤ 100000)
    (hR : ∀ c h' tk, Sub h0 h' → ILP h' c nss.flatten → (1 ≤ nss.length → h0.get? c = none) → R (.ok (.ret (.ref c))) (sh s h' tk)) :
    ∀ (k i : Nat) (h : Heap) (tk : Nat) (c : Addr) (n : Nat), nss.length - i = k → i ≤ nss.length → Sub h0 h → h.IsListIter I ax i → h.get? SS = some { cls := .type "list", dict := none, data := .seq #[.ref c] n, slots := #[] } →
      ILP h c (nss.take i).flatten → c ≠ SS → c ≠ I → (1 ≤ i → h0.get? c = none) → codeAny (model prog w) A (.builtin "sum.loop" ⟨[.ref I, .ref SS, rawInt 2, rawInt 0], []⟩) R (sh s h tk) := by
  have hlen := x.len
  have W := Walks.list (prog := prog) (w := w) (A := A.in1) hh I ax hne (as.map Value.ref).toArray
  intro k
  induction k with
  | zero =>
    intro i h tk c n hk hi hs hit hSS hc hcS hcI hcn
    have hin : i = nss.length := by walk_at "ol"
    subst hin
    refine codeAny_builtin PySem.F.entry_sum_loop ?_
    rw [Around.under_plainId PySem.F.plain_sum_loop _]
    show wpAny _ A.in1 (seqItems? (.ref SS) >>= _) _ _ _
    refine wpAny_bind (wpAny_seqItems (s := sh s h tk) hSS rfl ?_)
    show wpAny _ A.in1 (tryCatch (pyNext (.ref I)) _ >>= _) _ _ _
    refine wpAny_bind (wpAny_tryCatch (W.done (sh s h tk) _ _ ⟨by rw [List.size_toArray, List.length_map, hlen]; exact hit, hl.at fun o e => hs _ o e⟩ fun h' tk' hm => ?_))
    have k1 : ∀ b o, b ≠ I → h.get? b = some o → h'.get? b = some o := fun b o e q => hm b o (by simpa using e) q
    refine wpAny_pure (hR c h' tk' (fun b o e => k1 b o (fun q => by rw [q, hI] at e; cases e) (hs b o e)) ?_ hcn)
    obtain ⟨o, ho, q⟩ := hc
    rw [List.take_length] at q
    exact ⟨o, k1 _ _ hcI ho, q⟩
  | succ k ih =>
    intro i h tk c n hk hi hs hit hSS hc hcS hcI hcn
    have hlt : i < nss.length := by walk_at "ol"
    refine codeAny_builtin PySem.F.entry_sum_loop ?_
    rw [Around.under_plainId PySem.F.plain_sum_loop _]
    show wpAny _ A.in1 (seqItems? (.ref SS) >>= _) _ _ _
    refine wpAny_bind (wpAny_seqItems (s := sh s h tk) hSS rfl ?_)
    show wpAny _ A.in1 (tryCatch (pyNext (.ref I)) _ >>= _) _ _ _
    refine wpAny_bind (wpAny_tryCatch (W.item i (sh s h tk) _ _ (by simpa [hlen] using hlt) ⟨hit, hl.at fun o e => hs _ o e⟩ fun v h₁ tk₁ hP hst hm => ?_))
    have k1 : ∀ b o, b ≠ I → h.get? b = some o → h₁.get? b = some o := fun b o e q => hm b o (by simpa using e) q
    have hs1 : Sub h0 h₁ := fun b o e => k1 b o (fun q => by rw [q, hI] at e; cases e) (hs b o e)
    obtain ⟨a, ha, ia⟩ := x.get i hlt
    have hv : v = .ref a := by simpa [ha] using hP.symm
    subst hv
    have hc1 : ILP h₁ c (nss.take i).flatten := let ⟨o, ho, q⟩ := hc; ⟨o, k1 _ _ hcI ho, q⟩
    have hS1 := k1 _ _ hSI hSS
    show wpAny _ A.in1 ((holding [Value.ref a] (binaryOp .Add (.ref c) (.ref a))).attempt >>= _) _ _ _
    refine wpAny_bind (wpAny_attempt (wpAny_holding (add_ints (s := s) (tk0 := tk₁) hc1.r (ia.sub hs1) (hz i) (hz' _ (List.getElem_mem hlt)) fun h₂ k2 hc2 => ?_)))
    have hS2 := k2 _ _ hS1
    show wpAny _ A.in1 (updateSeq SS (fun _ => #[.ref h₁.objs.size]) >>= _) _ _ _
    refine wpAny_bind (wpAny_updateSeq (s := sh s h₂ tk₁) hS2 rfl ?_)
    have hne2 : h₁.objs.size ≠ SS := Nat.ne_of_gt (Heap.lt_size hS1)
    have hneI : h₁.objs.size ≠ I := by obtain ⟨o, ho, _⟩ := hst.1; exact Nat.ne_of_gt (Heap.lt_size ho)
    have hS3 := Heap.get?_update_self (Obj.mapSeq fun _ => #[Value.ref h₁.objs.size]) hS2 rfl
    have off1 : ∀ b o, b ≠ SS → h₂.get? b = some o → (h₂.update SS (Obj.mapSeq fun _ => #[Value.ref h₁.objs.size])).get? b = some o := fun b o e q => (Heap.get?_update_other _ _ (Ne.symm e)).trans q
    have off : ∀ b o, b ≠ SS → h₂.get? b = some o → ((h₂.update SS (Obj.mapSeq fun _ => #[Value.ref h₁.objs.size])).update SS (Obj.mapSeq fun _ => #[Value.ref h₁.objs.size])).get? b = some o := fun b o e q => (Heap.get?_update_other _ _ (Ne.symm e)).trans (off1 b o e q)
    refine wpAny_bind (wpAny_letGo ?_)
    refine wpAny_bind (wpAny_updateSeq (s := sh s (h₂.update SS (Obj.mapSeq fun _ => #[Value.ref h₁.objs.size])) tk₁) hS3 rfl (wpAny_pure ⟨plainId_quiet PySem.F.plain_sum_loop _, ih (i + 1) _ tk₁ h₁.objs.size _ (by walk_at "ol") hlt ?_ ?_ (Heap.get?_update_self _ hS3 rfl) ?_ hne2 hneI fun _ => ?_⟩))
    · exact fun b o e => off b o (fun q => by rw [q, hS] at e; cases e) (k2 _ _ (hs1 b o e))
    · exact hst.1.at fun o e => off I o (Ne.symm hSI) (k2 _ _ e)
    · obtain ⟨o, ho, q⟩ := hc2
      refine ⟨o, off _ _ hne2 ho, ?_⟩
      rw [List.take_succ_eq_append_getElem hlt, List.flatten_append]
      simpa using q
    · exact hs1.none (fresh_size h₁ (Nat.le_refl _))

theorem args_sum2 (a b : Value) : argsOk "sum" ⟨[a, b], []⟩ := by unfold argsOk; kernel_rfl
theorem k_sum {D : Addr} (hA : Room A k) (S : St g L h0 l led) (R : RL h0 r as) (x : Rows h0 as nss) (hD : ILP h0 D []) (hz : ∀ i, (nss.take i).flatten.length ≤ 100000) (hz' : ∀ ns ∈ nss, ns.length ≤ 100000) (h1 : 1 ≤ nss.length)
    (h : ∀ c h' tk, h0.get? c = none → St g L h' l ((c, IsIntsP nss.flatten) :: led) → Sub h0 h' → Q (.ref c) (sh s h' tk)) :
    wpAny (model prog w) A (call (.builtin "sum") [.ref r, .ref D]) Q E (sh s h0 tk0) := by
  obtain ⟨oD, hoD, qD⟩ := hD
  refine call_function_tree PySem.F.kind_sum PySem.F.plain_sum PySem.F.entry_sum (args_sum2 _ _) ?_
  unfold Builtin.«sum»
  simp only [List.length_cons, List.length_nil]
  rw [if_neg (by decide)]
  refine wpAny_bind (wpAny_of_eq (show Builtin.Builtins.bindParams "sum" ["start"] 0 ⟨[.ref D], []⟩ = pure [some (.ref D)] from rfl) ?_)
  refine wpAny_bind (wpAny_pyIter_list (s := sh s h0 tk0) R.list ?_)
  refine wpAny_bind (wpAny_pure ?_)
  simp only [List.forIn_cons, List.forIn_nil]
  have ty : ∀ s' : Shared, (∃ o, s'.heap.get? D = some o ∧ IsIntsP [] o) → s'.TypeIs (.ref D) "list" := fun s' ⟨o, e, q⟩ => ⟨o, e, (intsP_list o q).1⟩
  have hD1 : ∃ o, (h0.push { cls := .type "list_iterator", data := .fields #[.ref r, .int 0 0] }).get? D = some o ∧ IsIntsP [] o := ⟨oD, Heap.get?_push_of_some _ hoD, qD⟩
  refine wpAny_bind (wpAny_bind (wpAny_bind (wpAny_isInstance (T := "list") (b := false) (ty _ hD1) PySem.F.sub_list_str ?_)))
  simp only [Bool.false_eq_true, if_false]
  refine wpAny_pure (wpAny_bind (wpAny_bind (wpAny_isInstance (T := "list") (b := false) (ty _ hD1) PySem.F.sub_list_bytes ?_)))
  simp only [Bool.false_eq_true, if_false]
  refine wpAny_pure (wpAny_bind (wpAny_bind (wpAny_isInstance (T := "list") (b := false) (ty _ hD1) PySem.F.sub_list_bytearray ?_)))
  simp only [Bool.false_eq_true, if_false]
  refine wpAny_pure (wpAny_pure ?_)
  refine wpAny_bind (wpAny_newObj_type ?_)
  have k1 : Sub h0 (h0.push { cls := .type "list_iterator", data := .fields #[.ref r, .int 0 0] }) := Sub.push _ _
  have k2 := k1.trans (Sub.push _ { cls := .type "list", dict := none, data := .seq #[.ref D] })
  have sz := Heap.size_push h0 { cls := .type "list_iterator", data := .fields #[.ref r, .int 0 0] }
  refine wpAny_pure ⟨plainId_quiet PySem.F.plain_sum_loop _, ?_⟩
  have ltr : r < h0.objs.size := let ⟨o, e, _⟩ := R; Heap.lt_size e
  have ltD : D < h0.objs.size := Heap.lt_size hoD
  refine sum_loop (s := s) (h0 := h0) (I := h0.objs.size) (ax := r) hA.h (Nat.ne_of_lt ltr) (fresh_size _ (Nat.le_refl _)) (fresh_size _ ?_) ?_ R.list x hz hz' (fun c h' tk a b e => ?_) nss.length 0 _ tk0 D 0 rfl (Nat.zero_le _) k2 ?_ (Heap.get?_push_size _ rfl) ⟨oD, k2 _ _ hoD, by simpa using qD⟩ ?_ ?_ (by walk_at "ol")
  · exact Nat.le_trans (Nat.le_succ _) (Nat.le_of_eq sz.symm)
  · exact fun e => Nat.ne_of_gt (Nat.lt_succ_self h0.objs.size) (sz.symm.trans e)
  · exact h c h' tk (e h1) (S.add_new (S.ch0 a) rfl (e h1) b) a
  · exact ⟨_, Heap.get?_push_of_some _ (Heap.get?_push_size _ rfl), rfl, rfl⟩
  · exact fun e => Nat.ne_of_lt (Nat.lt_succ_of_lt ltD) (e.trans sz)
  · exact Nat.ne_of_lt ltD
end

-- part 9
theorem wpE {M : Model} {A : Around} {α : Type} {t : Sem α} {Q : α → Shared → Prop} {E : Value → Shared → Prop} {s : Shared} (h : wpAny M A t Q NoE s) : wpAny M A t Q E s := wpAny_mono h (fun _ _ q => q) fun _ _ q => q.elim
theorem if_any {b : Bool} {P Q : Prop} (h1 : b = true → P) (h2 : b = false → Q) : (if b then P else Q) := by
  cases b
  · exact h2 rfl
  · exact h1 rfl
local macro_rules | `(tactic| walk_at "ite") => `(tactic| (refine if_any ?_ ?_ <;> walk_at "hb"))
section
variable {prog : Program} {w : World} {A : Around} {s : Shared} {h0 h1 : Heap} {tk0 : Nat} {Q : Value → Shared → Prop} {g : Heap} {L : Addr} {l : Loc} {led : Led} {p q r r' : Addr} {wd ht : Int} {as bs : List Addr} {nss mss : List (List Int)}

theorem same_ok (hA : Room A 2) (B : Base w g) (hg : Sub g h0) (P : Pl h0 p wd ht r as nss) (P₂ : Pl h0 q wd ht r' bs mss)
  (h : ∀ h' tk, Sub h0 h' → Q (.bool (decide (nss = mss))) (sh s h' tk)) :
  wpAny (model prog w) A (call (.ref 138) [.ref p, .ref q]) Q NoE (sh s h0 tk0) := by
  refine enter [] [("other", .val (.ref q)), ("one", .val (.ref p))] hA B hg (by simp) (by simp) (by simp) rfl rfl rfl (locs rfl) rfl (by decide) rfl rfl rfl ?_
  intro g' L h₁ tk B' hg' hk hs S R
  have hk' : Sub h0 g' := fun b o e => hk b o e (by simp)
  have P' := P.sub hk'
  have P₂' := P₂.sub hk'
  repeat' walk_at "m"
  refine BoolOp_and ?_
  repeat' walk_at "m"
  refine attr_width (P'.pl.sub S.keep) B' S.keep fun _ _ => ?_
  repeat' walk_at "m"
  refine attr_width (P₂'.pl.sub S.keep) B' S.keep fun _ _ => ?_
  repeat' walk_at "m"
  rw [if_pos (by simp)]
  refine BoolOp_and ?_
  repeat' walk_at "m"
  refine attr_height (P'.pl.sub S.keep) B' S.keep fun _ _ => ?_
  repeat' walk_at "m"
  refine attr_height (P₂'.pl.sub S.keep) B' S.keep fun _ _ => ?_
  repeat' walk_at "m"
  rw [if_pos (by simp)]
  refine BoolOp_one ?_
  repeat' walk_at "m"
  refine attr_rows (P'.pl.sub S.keep) B' S.keep fun _ => ?_
  repeat' walk_at "m"
  refine attr_rows (P₂'.pl.sub S.keep) B' S.keep fun _ => ?_
  repeat' walk_at "m"
  refine eq_rows R (P'.rl.sub S.keep) (P'.rows.sub S.keep) (P₂'.rl.sub S.keep) (P₂'.rows.sub S.keep) ?_
  repeat' walk_at "m"
  exact h _ _ hs

theorem check_ok {n : Int} {t : Tok} (hA : Room A 3) (B : Base w g) (hg : Sub g h0) (P : Pl h0 p wd ht r as nss) (D : Dim nss wd ht) (hn : 0 ≤ n) (hn' : n ≤ 1000) (hv : ∀ ns ∈ nss, ∀ v ∈ ns, 0 ≤ v ∧ v ≤ 2 ^ n.toNat - 1)
  (h : ∀ h' tk, Sub h0 h' → Q .none (sh s h' tk)) :
  wpAny (model prog w) A (call (.ref 152) [.ref p, .int n t]) Q NoE (sh s h0 tk0) := by
  refine enter [] [("precision", .int n), ("plane", .val (.ref p))] hA B hg (by simp) (by simp) (by simp) rfl rfl rfl (locs rfl) rfl (by decide) rfl rfl rfl ?_
  intro g' L h₁ tk B' hg' hk hs S R
  have hk' : Sub h0 g' := fun b o e => hk b o e (by simp)
  have P' := P.sub hk'
  have d1 := D.h1
  have d2 := D.w1
  have d3 := D.h2
  have d4 := D.w2
  have dh := D.h
  have hlen := P.rows.len
  refine ex_cons fun _ _ => ?_
  repeat' walk_at "m"
  refine attr_width (P'.pl.sub S.keep) B' S.keep fun _ _ => ?_
  repeat' walk_at "m"
  walk_at "ite"
  · walk_at "om"
  repeat' walk_at "m"
  refine attr_height (P'.pl.sub S.keep) B' S.keep fun _ _ => ?_
  repeat' walk_at "m"
  walk_at "ite"
  · walk_at "om"
  repeat' walk_at "m"
  refine attr_rows (P'.pl.sub S.keep) B' S.keep fun _ => ?_
  repeat' walk_at "m"
  refine k_len_refs (P'.rl.sub S.keep) (by walk_at "om") fun _ _ => ?_
  repeat' walk_at "m"
  refine attr_height (P'.pl.sub S.keep) B' S.keep fun _ _ => ?_
  repeat' walk_at "m"
  walk_at "ite"
  · walk_at "om"
  repeat' walk_at "m"

  refine wpE (great_at (R.mono (by walk_at "om")) S B' hn hn' fun _ h₂ tk₂ S k₂ => ?_)
  repeat' walk_at "m"
  refine wpAny_For ?_
  repeat' walk_at "m"
  refine attr_rows (P'.pl.sub (St.keep (by assumption))) B' (St.keep (by assumption)) fun _ => ?_
  refine for_list (fun i l led => l = ([("most", .int (2 ^ n.toNat - 1)), ("precision", .int n), ("plane", .val (.ref p))] : Loc) ∧ led = ([] : Led)) (R.mono (by walk_at "om")) (by assumption) B' P'.rl.list ⟨rfl, rfl⟩ rfl rfl ?_ ?_
  · rintro i v gb h tk l' led' hi hv' Bb hgb ⟨rfl, rfl⟩ S
    have hi' : i < nss.length := by simpa [hlen] using hi
    obtain ⟨a, ha, ia⟩ := P'.rows.get i hi'
    have hv2 : v = .ref a := by simpa [ha] using hv'.symm
    subst hv2
    have hw := D.w _ (List.getElem_mem hi')
    have hall := hv _ (List.getElem_mem hi')
    have ia' := ia.sub hgb
    repeat' walk_at "m"
    refine k_len_ints (ia'.sub S.keep) (by walk_at "om") fun _ _ => ?_
    repeat' walk_at "m"
    refine attr_width ((P'.pl.sub hgb).sub S.keep) Bb S.keep fun _ _ => ?_
    repeat' walk_at "m"
    · walk_at "om"
    refine wpAny_For ?_
    repeat' walk_at "m"
    obtain ⟨vs, hvl, hvi⟩ := ia'.list
    refine for_list (fun i l led => l = ([("row", .val (.ref a)), ("most", .int (2 ^ n.toNat - 1)), ("precision", .int n), ("plane", .val (.ref p))] : Loc) ∧ led = ([] : Led)) (R.mono (by walk_at "om")) (by assumption) Bb hvl ⟨rfl, rfl⟩ rfl rfl ?_ ?_
    · rintro j v gc h tk l' led' hj hv' Bc hgc ⟨rfl, rfl⟩ S
      have hj' : j < nss[i].length := by rw [← hvi.length]; simpa using hj
      obtain ⟨t, ht⟩ := hvi.get j nss[i][j] (by simp [hj'])
      have hv2 : v = .int nss[i][j] t := by simpa [ht] using hv'.symm
      subst hv2
      have hb := hall _ (List.getElem_mem hj')
      repeat' walk_at "m"
      refine k_isi ?_
      repeat' walk_at "m"
      · walk_at "ite"
        repeat' walk_at "m"
        walk_at "ite"
        · walk_at "om"
        repeat' walk_at "m"
        walk_at "ite"
        · walk_at "om"
        repeat' walk_at "m"
        exact ⟨rfl, _, _, _, _, rfl, S.forget rfl, rfl, rfl⟩
    · rintro h' tk l' led' S ⟨rfl, rfl⟩
      repeat' walk_at "m"
      exact ⟨rfl, _, _, _, _, rfl, S.forget rfl, rfl, rfl⟩
  · rintro h' tk l' led' S ⟨rfl, rfl⟩
    repeat' walk_at "m"
    exact h _ _ fun b o e => S.keep b o (hk' b o e)
end

-- part 10
section
variable {prog : Program} {w : World} {A : Around} {s : Shared} {h0 h1 : Heap} {tk0 : Nat} {Q : Value → Shared → Prop} {g : Heap} {L : Addr} {l : Loc} {led : Led} {p q r r' : Addr} {wd ht : Int} {as bs : List Addr} {nss mss : List (List Int)}

theorem pool_ok {scr : Addr} {ns : List Int} {k : Int} {t : Tok} (hA : Room A 1) (B : Base w g) (hg : Sub g h0) (hsc : IL h0 scr ns) (hn : ns.length ≤ 1000) (hk0 : 0 ≤ k) (hk1 : k ≤ 1)
  (h : ∀ D h' tk, Sub h0 h' → h0.get? D = none → (∃ o, h'.get? D = some o ∧ IsSrc o) → Q (.ref D) (sh s h' tk)) :
  wpAny (model prog w) A (call (.ref 159) [.ref scr, .int k t]) Q NoE (sh s h0 tk0) := by
  refine enter [] [("k", .int k), ("script", .val (.ref scr))] hA B hg (by simp) (by simp) (by simp) rfl rfl rfl (locs rfl) rfl (by decide) rfl rfl rfl ?_
  intro g' L h₁ tk B' hg' hk hs S R
  have hk' : Sub h0 g' := fun b o e => hk b o e (by simp)
  have I' := hsc.sub hk'
  repeat' walk_at "m"
  refine k_len_ints (I'.sub (St.keep (by assumption))) (by walk_at "om") fun _ _ => ?_
  repeat' walk_at "m"
  all_goals try
    have hkk : k.toNat < ns.length := by walk_at "om"
    refine sub_ints (x := ns[k.toNat]) (I'.sub (St.keep (by assumption))) (by walk_at "om") (by walk_at "om") (by simp [hkk]) ?_ (by with_unfolding_all rfl)
    intro _
    repeat' walk_at "m"
  all_goals
    refine k_max (R.mono (by walk_at "om")) (by assumption) fun _ h₄ tk₄ S₄ k₄ => ?_
    repeat' walk_at "m"
    refine l_disp ?_
    repeat' walk_at "m"
    refine o_pow (by decide) (by decide) fun _ _ => ?_
    repeat' walk_at "m"
    refine disp_ints (by assumption) (.cons _ _ (.cons _ _ .nil)) (by simp) fun D h₅ tk₅ n₅ S₅ k₅ => ?_
    repeat' walk_at "m"
    refine h _ _ _ (fun b o e => S₅.keep b o (hk' b o e)) (hk'.none (S₅.fresh _ (.head _))) ?_
    obtain ⟨o, ho, q⟩ := S₅.get (.head _)
    exact ⟨o, ho, _, _, q.r⟩

theorem one_at {src th : Addr} {ns : List Int} (hA : Room A 2) (S : St g L h0 l led) (B : Base w g) (hm : (src, IsSrc) ∈ led) (ht : IL h0 th ns) (hne : th ≠ src) (h1 : 1 ≤ ns.length) (h2 : ns.length < 2 ^ 30)
  (h : ∀ r t h' tk, r ∈ ns → St g L h' l led → Ch [src] h0 h' → Q (.int r t) (sh s h' tk)) :
  wpAny (model prog w) A (call (.ref 173) [.ref src, .ref th]) Q NoE (sh s h0 tk0) :=
  one_ok hA B S.keep (S.get hm) (S.fresh _ hm) ht hne h1 h2 fun r t h' tk a b c => h r t h' tk a (S.ch1 b (Put.same hm) c) b

theorem number_ok {src : Addr} {ce mo : Int} {t u : Tok} (hA : Room A 3) (B : Base w g) (hg : Sub g h0) (hs : ∃ o, h0.get? src = some o ∧ IsSrc o) (hf : g.get? src = none) (hm : 0 ≤ mo) (hm' : mo < 2 ^ 20)
  (h : ∀ r t h' tk, Ch [src] h0 h' → (∃ o, h'.get? src = some o ∧ IsSrc o) → Q (.int r t) (sh s h' tk)) :
  wpAny (model prog w) A (call (.ref 185) [.ref src, .int ce t, .int mo u]) Q NoE (sh s h0 tk0) := by
  refine enter [(src, IsSrc)] [("most_one", .int mo), ("centre_one", .int ce), ("source_one", .val (.ref src))] hA B hg (by simpa using hs) (by simpa using hf) (by simp) rfl rfl rfl (locs rfl) rfl (by decide) rfl rfl rfl ?_
  intro g' L h₁ tk B' hg' hk hs S R
  have fin : ∀ {h'}, Sub g' h' → Ch [src] h0 h' := fun kk b o e n => kk b o (hk b o e (by simpa using n))
  refine ex_cons fun _ _ => ?_
  refine wpAny_Assign_Name ?_
  refine l_disp ?_
  repeat' walk_at "m"
  refine disp_ints (by assumption) (.cons _ _ (.cons _ _ (.cons _ _ (.cons _ _ (.cons _ _ (.cons _ _ .nil)))))) (by simp) fun D h₅ tk₅ n₅ S₅ k₅ => ?_
  repeat' walk_at "m"
  refine take_at (R.mono (by walk_at "om")) (by assumption) B' (.tail _ (.head _)) (by walk_at "om") (by walk_at "om") fun _ _ _ _ _ _ S => ?_
  repeat' walk_at "m"
  · refine one_at (R.mono (by walk_at "om")) S B' (.tail _ (.head _)) (let ⟨o, e, q⟩ := S.get (.head _); ⟨o, e, q.r⟩) (fun e => S.hd_ne (by rw [e]; exact .head _)) (by simp) (by simp) fun _ _ _ _ _ S _ => ?_
    repeat' walk_at "m"
    exact h _ _ _ _ (fin S.keep) (S.get (.tail _ (.head _)))
  · refine take_at (R.mono (by walk_at "om")) S B' (.tail _ (.head _)) (by walk_at "om") (by walk_at "om") fun _ _ _ _ _ _ S => ?_
    repeat' walk_at "m"
    exact h _ _ _ _ (fin S.keep) (S.get (.tail _ (.head _)))
theorem number_at {src : Addr} {ce mo : Int} {t u : Tok} (hA : Room A 3) (S : St g L h0 l led) (B : Base w g) (hm : (src, IsSrc) ∈ led) (h1 : 0 ≤ mo) (h2 : mo < 2 ^ 20)
  (h : ∀ r t h' tk, St g L h' l led → Ch [src] h0 h' → Q (.int r t) (sh s h' tk)) :
  wpAny (model prog w) A (call (.ref 185) [.ref src, .int ce t, .int mo u]) Q NoE (sh s h0 tk0) :=
  number_ok hA B S.keep (S.get hm) (S.fresh _ hm) h1 h2 fun r t h' tk b c => h r t h' tk (S.ch1 b (Put.same hm) c) b
end

-- part 11
section
variable {prog : Program} {w : World} {A : Around} {s : Shared} {h0 h1 : Heap} {tk0 : Nat} {Q : Value → Shared → Prop} {g : Heap} {L : Addr} {l : Loc} {led : Led} {p q r r' : Addr} {wd ht : Int} {as bs : List Addr} {nss mss : List (List Int)}

theorem done_to {A : Around} {E : Value → Shared → Prop} {env : Env} {n : Nat} {Inv : Nat → List Value → Led → Prop} {y : Str} {py : Pos} (hL : env.locals = L) (hk : env.scope.kind = .function) (hx : env.kindOf y = some .local)
    (h : ∀ D h' tk ys led', h0.get? D = none → St g L h' ((y, .val (.ref D)) :: l) ((D, IsVals ys) :: led') → Inv n ys led' → ys.length = n → Q .none (sh s h' tk)) :
    DoneK prog w A E s h0 g L l n Inv (some (assign (.Name y py) env)) Q := by
  subst hL
  exact done_assign hk hx h

/-- n numbers from 0 to mo -/
def Kept (n : Nat) (mo : Int) (ns : List Int) : Prop := ns.length = n ∧ ∀ v ∈ ns, 0 ≤ v ∧ v ≤ mo
theorem Kept.snoc {n : Nat} {mo v : Int} {ns : List Int} (h : Kept n mo ns) (h0 : 0 ≤ v) (h1 : v ≤ mo) : Kept (n + 1) mo (ns ++ [v]) :=
  ⟨by simp [h.1], fun u hu => by
    rcases List.mem_append.mp hu with q | q
    · exact h.2 u q
    · rw [List.mem_singleton.mp q]; exact ⟨h0, h1⟩⟩

theorem lawplane_ok {src : Addr} {W H : Nat} {mo : Int} {t1 t2 t3 : Tok} (hA : Room A 4) (B : Base w g) (hg : Sub g h0) (hs : ∃ o, h0.get? src = some o ∧ IsSrc o) (hf : g.get? src = none)
  (hH : 1 ≤ H) (hH' : H ≤ 100) (hW : 1 ≤ W) (hW' : W ≤ 100) (hm : 0 ≤ mo) (hm' : mo < 2 ^ 20)
  (h : ∀ q r' as' nss h' tk, Ch [src] h0 h' → (∃ o, h'.get? src = some o ∧ IsSrc o) → Pl (newOf h0 h') q W H r' as' nss → as'.Nodup → nss.length = H → (∀ ns ∈ nss, Kept W mo ns) → Q (.ref q) (sh s h' tk)) :
  wpAny (model prog w) A (call (.ref 178) [.ref src, .int W t1, .int H t2, .int mo t3]) Q NoE (sh s h0 tk0) := by
  refine enterX [(src, IsSrc)] [("high_one", .int H)] (fun L => [(L + 1 + 1 + 1, IsCellV (.int mo)), (L + 1 + 1, IsCellV (.int W)), (L + 1, IsCellV (.val (.ref src)))]) hA B hg (by simpa using hs) (by simpa using hf) (by simp) rfl rfl rfl rfl rfl (fun _ => rfl) (by decide) rfl rfl rfl ?_
  intro g' L h₁ tk B' hg' hk hs S R
  have fin : ∀ {h'}, Sub g' h' → Ch [src] h0 h' := fun kk b o e n => kk b o (hk b o e (by simpa using n))
  have S : St g' L h₁ [("high_one", .int H)] ([(L + 1 + 1 + 1, IsCellV (.int mo)), (L + 1 + 1, IsCellV (.int W)), (L + 1, IsCellV (.val (.ref src))), (src, IsSrc)] : Led) := S
  refine ex_cons fun _ _ => ?_
  refine lc_assign ?_ rfl (by with_unfolding_all rfl) rfl (by decide)
  repeat' walk_at "m"
  refine k_range1 (by assumption) fun rr h₃ tk₃ S k₃ => ?_
  refine comp_range (fun i ys led => ∃ as' nss, ys = as'.map .ref ∧ as'.length = i ∧ nss.length = i ∧ (∀ ns ∈ nss, Kept W mo ns) ∧ led = ((L + 1 + 1 + 1, IsCellV (.int mo)) :: (L + 1 + 1, IsCellV (.int W)) :: (L + 1, IsCellV (.val (.ref src))) :: (src, IsSrc) :: rowsLed as' nss : Led)) (R.mono (by walk_at "om")) S B' (by walk_at "ol") (by walk_at "ol") (by walk_at "ol") (by walk_at "ol") (by walk_at "ol") ⟨[], [], rfl, rfl, rfl, by simp, rfl⟩ (by decide) rfl rfl ?_ ?_
  · rintro i ys gc C h tk led' hi hys Bc hgc ⟨as', nss, rfl, ha, hn, hkp, rfl⟩ S
    refine lc_eval ?_ (by with_unfolding_all rfl) rfl (by decide)
    repeat' walk_at "m"
    refine k_range1 (by assumption) fun rr h₃ tk₃ S k₃ => ?_
    refine comp_range (fun j ys led => ∃ ns, IntsAre ys ns ∧ Kept j mo ns ∧ led = ((L + 1 + 1 + 1, IsCellV (.int mo)) :: (L + 1 + 1, IsCellV (.int W)) :: (L + 1, IsCellV (.val (.ref src))) :: (src, IsSrc) :: rowsLed as' nss : Led)) (R.mono (by walk_at "om")) S Bc (by walk_at "ol") (by walk_at "ol") (by walk_at "ol") (by walk_at "ol") (by walk_at "ol") ⟨[], .nil, ⟨rfl, by simp⟩, rfl⟩ (by decide) rfl rfl ?_ ?_
    · rintro j ys gd C' h tk led' hj hys' Bd hgd ⟨ns, hI, hK, rfl⟩ S
      repeat' walk_at "m"
      refine l_disp ?_
      repeat' walk_at "m"
      refine take_at (R.mono (by walk_at "om")) S Bd (.tail _ (.tail _ (.tail _ (.head _)))) (by walk_at "ol") (by walk_at "ol") fun r t h' tk r0 r1 S => ?_
      repeat' walk_at "m"
      refine disp_ints S (.cons _ _ (.cons _ _ (.cons _ _ .nil))) (by simp) fun D h₅ tk₅ n₅ S k₅ => ?_
      repeat' walk_at "m"
      refine one_at (R.mono (by walk_at "om")) S Bd (.tail _ (.tail _ (.tail _ (.tail _ (.head _))))) (let ⟨o, e, q⟩ := S.get (.head _); ⟨o, e, q.r⟩) (fun e => S.hd_ne (by rw [e]; exact .tail _ (.tail _ (.tail _ (.head _))))) (by simp) (by simp) fun v _ _ _ hv S _ => ?_
      have hv' : 0 ≤ v ∧ v ≤ mo := by
        simp only [List.mem_cons, List.not_mem_nil, or_false] at hv
        walk_at "ol"
      exact ⟨_, _, _, rfl, S.drop.locs (by simp), ns ++ [v], hI.append (.cons _ _ .nil), hK.snoc hv'.1 hv'.2, rfl⟩
    · refine done_none fun D h' tk ys led' hD S ⟨ns, hI, hK, hl⟩ hlen => ?_
      subst hl
      have S := (S.say0 (isVals_ints hI)).say0 fun _ q => q.r
      refine ⟨_, _, _, rfl, S.rot.locs (by simp), as' ++ [D], nss ++ [ns], by simp, by simp [ha], by simp [hn], fun ms hms => ?_, by rw [rowsLed_snoc (by rw [ha, hn])]; rfl⟩
      rcases List.mem_append.mp hms with q | q
      · exact hkp _ q
      · rw [List.mem_singleton.mp q]
        have e : ((W : Int) - 0).toNat = W := by walk_at "ol"
        rwa [e] at hK
  · refine' done_to ?a ?b ?c ?d
    case a => rfl
    case b => rfl
    case c => rfl
    rintro D h' tk ys led' hD S ⟨as', nss, hy, ha, hn, hkp, hl⟩ hlen
    subst hy; subst hl
    have S := S.say0 isVals_refs
    have e : ((H : Int) - 0).toNat = H := by walk_at "ol"
    rw [e] at ha hn
    repeat' walk_at "m"
    refine plane_at (R.mono (by walk_at "om")) S B' fun q h₆ tk₆ S₆ k₆ hp => ?_
    repeat' walk_at "m"
    have old : ∀ b, h'.get? b = none → h0.get? b = none := fun b e => by
      cases q : h0.get? b with
      | none => rfl
      | some o =>
        by_cases hb : b = src
        · obtain ⟨o', e', _⟩ := S.get (.tail _ (.tail _ (.tail _ (.tail _ (.head _)))))
          rw [← hb, e] at e'; cases e'
        · have := S.keep _ _ (hk b o q (by simpa using hb))
          rw [e] at this; cases this
    have new : ∀ a Φ, (a, Φ) ∈ ((D, IsRefs as') :: rowsLed as' nss : Led) → ∃ o, (newOf h0 h₆).get? a = some o ∧ Φ o := fun a Φ hm => by
      have hm' : (a, Φ) ∈ ((D, IsRefs as') :: (L + 1 + 1 + 1, IsCellV (.int mo)) :: (L + 1 + 1, IsCellV (.int W)) :: (L + 1, IsCellV (.val (.ref src))) :: (src, IsSrc) :: rowsLed as' nss : Led) := by
        rcases List.mem_cons.mp hm with q | q
        · rw [q]; exact .head _
        · exact .tail _ (.tail _ (.tail _ (.tail _ (.tail _ q))))
      obtain ⟨o, ho, q⟩ := S₆.get hm'
      refine ⟨o, newOf_get ho ?_, q⟩
      cases z : h0.get? a with
      | none => rfl
      | some o' =>
        have hne : a ≠ src := by
          rintro rfl
          have nd := S₆.nd
          simp only [List.map_cons, List.nodup_cons, List.mem_cons, not_or] at nd
          rcases List.mem_cons.mp hm with q | q
          · cases q; exact nd.1.2.2.2.1 rfl
          · exact nd.2.2.2.2.1 (List.mem_map_of_mem (f := (·.1)) q)
        have := S₆.fresh _ hm'
        rw [hk a o' z (by simpa using hne)] at this; cases this
    have nd : as'.Nodup := by
      have nd := S₆.nd
      simp only [List.map_cons, List.nodup_cons] at nd
      rw [rowsLed_keys (by rw [ha, hn])] at nd
      exact nd.2.2.2.2.2
    refine h _ _ _ _ _ _ (fin S₆.keep) (S₆.get (.tail _ (.tail _ (.tail _ (.tail _ (.head _)))))) ⟨hp.sub fun b o e => newOf_get (newOf_sub _ _ e) (old _ (newOf_new e)), new _ _ (.head _), rows_of_led (by rw [ha, hn]) fun q hq => new _ _ (.tail _ hq)⟩ nd hn hkp
end

-- part 12
section
variable {prog : Program} {w : World} {A : Around} {s : Shared} {h0 h1 : Heap} {tk0 : Nat} {Q : Value → Shared → Prop} {g : Heap} {L : Addr} {l : Loc} {led : Led} {p q r r' : Addr} {wd ht : Int} {as bs : List Addr} {nss mss : List (List Int)}

theorem med {k m : Int} {ns : List Int} (hm : 0 ≤ m) (hp : ns.Perm [0, k, m]) (hs : ns.Pairwise (· ≤ ·)) : ns[1]? = some (clampI k m) := by
  have key : ∀ ms : List Int, ms.Perm [0, k, m] → ms.Pairwise (· ≤ ·) → ns = ms := fun ms h1 h2 =>
    List.Perm.eq_of_pairwise (fun a b _ _ h1 h2 => Int.le_antisymm h1 h2) hs h2 (hp.trans h1.symm)
  unfold clampI
  by_cases c1 : k < 0
  · rw [if_pos c1, key [k, 0, m] (.swap _ _ _) (by simp; walk_at "om")]; rfl
  · rw [if_neg c1]
    by_cases c2 : k > m
    · rw [if_pos c2, key [0, m, k] (.cons _ (.swap _ _ _)) (by simp; walk_at "om")]; rfl
    · rw [if_neg c2, key [0, k, m] (.refl _) (by simp; walk_at "om")]; rfl

/-- a row of which the places below j are done -/
def dueR (F G : Nat → Int) (j v : Nat) : Int := if v < j then F v else G v
section
variable {F G : Nat → Int} {j v W : Nat}
theorem dueR_succ : dueR F G (j + 1) v = if v = j then F j else dueR F G j v := by
  unfold dueR
  by_cases c : v = j
  · subst c; rw [if_pos (Nat.lt_succ_self _), if_pos rfl]
  · rw [if_neg c]
    by_cases d : v < j
    · rw [if_pos (Nat.lt_succ_of_lt d), if_pos d]
    · rw [if_neg d, if_neg fun e => (Nat.lt_succ_iff_lt_or_eq.mp e).elim d c]
theorem dueR_0 : row W (dueR F G 0) = row W G := row_congr fun v _ => if_neg (Nat.not_lt_zero v)
theorem dueR_end : row W (dueR F G W) = row W F := row_congr fun _ hv => if_pos hv
theorem dueR_skip (h : F j = G j) : row W (dueR F G (j + 1)) = row W (dueR F G j) := row_congr fun v _ => by
  rw [dueR_succ]
  by_cases c : v = j
  · subst c; rw [if_pos rfl, h, dueR, if_neg (Nat.lt_irrefl _)]
  · rw [if_neg c]
theorem dueR_set : (row W (dueR F G j)).set j (F j) = row W (dueR F G (j + 1)) := row_set.trans (row_congr fun v _ => dueR_succ.symm)
theorem blk_ix {i j n : Int} {ns : List Int} (hn : 1 ≤ n) (hn' : n ≤ 100) (hl : (ns.length : Int) = n * n) : 0 ≤ i % n * n + j % n ∧ (i % n * n + j % n).toNat < ns.length ∧ i % n * n + j % n < 10000 := by
  have n0 : 0 < n := by walk_at "om"
  have b1 := Int.emod_nonneg i (Int.ne_of_gt n0)
  have b2 := Int.emod_lt_of_pos i n0
  have b3 := Int.emod_nonneg j (Int.ne_of_gt n0)
  have b4 := Int.emod_lt_of_pos j n0
  have b5 := mul_bd (x := i % n) (n := n) (a := n - 1) (b := n) b1 (Int.le_sub_one_of_lt b2) (Int.le_of_lt n0) (Int.le_refl _)
  rw [Int.sub_mul, Int.one_mul] at b5
  have b6 := mul_bd (x := n) (n := n) (a := 100) (b := 100) (Int.le_of_lt n0) hn' (Int.le_of_lt n0) hn'
  generalize i % n = a at *
  generalize j % n = c at *
  generalize n * n = m at *
  generalize a * n = d at *
  walk_at "om"
end

theorem due_ok {ro b : Addr} {x y n ce mo : Int} {ns : List Int} {H W : Nat} {f : Nat → Nat → Int} {t1 t2 t3 t4 t5 : Tok} (hA : Room A 2) (B : Base w g) (hg : Sub g h0) (hr : RL h0 ro as) (hrs : Rows h0 as (tab H W f)) (hb : IL h0 b ns)
  (hH : H ≤ 1000) (hW : W ≤ 1000) (hn : 1 ≤ n) (hn' : n ≤ 100) (hl : (ns.length : Int) = n * n) (hm : 0 ≤ mo)
  (h : ∀ D as' h' tk, Sub h0 h' → RL (newOf h0 h') D as' → Rows (newOf h0 h') as' (tab H W (putF f x y n ce mo ns)) → Q (.ref D) (sh s h' tk)) :
  wpAny (model prog w) A (call (.ref 192) [.ref ro, .int x t1, .int y t2, .ref b, .int n t3, .int ce t4, .int mo t5]) Q NoE (sh s h0 tk0) := by
  refine enter [] [("most_one", .int mo), ("centre_one", .int ce), ("n", .int n), ("block_one", .val (.ref b)), ("y", .int y), ("x", .int x), ("rows_one", .val (.ref ro))] hA B hg (by simp) (by simp) (by simp) rfl rfl rfl (locs rfl) rfl (by decide) rfl rfl rfl ?_
  intro g' L h₁ tk B' hg' hk hs S R
  have hk' : Sub h0 g' := fun b o e => hk b o e (by simp)
  have hr' := hr.sub hk'
  have hrs' := hrs.sub hk'
  have hb' := hb.sub hk'
  have hlen : as.length = H := by rw [hrs.len, tab_len]
  refine ex_cons fun _ _ => ?_
  refine wpAny_Assign_Name ?_
  refine l_disp ?_
  repeat' walk_at "m"
  refine disp_refs (as := []) S (by simp) fun D₀ h₂ tk₂ n₀ S k₂ => ?_
  repeat' walk_at "m"
  refine wpAny_For ?_
  repeat' walk_at "m"
  refine k_len_refs (hr'.sub (St.keep (by assumption))) (by walk_at "om") fun _ _ => ?_
  repeat' walk_at "m"
  refine k_range1 (by assumption) fun rr h₃ tk₃ S k₃ => ?_
  refine for_range1 (fun i l led => ∃ as', as'.length = i ∧ l = ([("found_one", .val (.ref D₀)), ("most_one", .int mo), ("centre_one", .int ce), ("n", .int n), ("block_one", .val (.ref b)), ("y", .int y), ("x", .int x), ("rows_one", .val (.ref ro))] : Loc) ∧ led = ((D₀, IsRefs as') :: rowsLed as' (tab i W (putF f x y n ce mo ns)) : Led)) (R.mono (by walk_at "om")) S B' (by walk_at "om") (by walk_at "om") ⟨[], rfl, rfl, rfl⟩ rfl rfl ?_ ?_
  · rintro i gb h tk l' led' K hi Bb hgb ⟨as', ha, rfl, rfl⟩ S hK
    have hiH : i < H := by walk_at "om"
    have i0 := Int.natCast_nonneg i
    have i1 : (i : Int) ≤ 1000 := by walk_at "om"
    clear hi
    have hi1 : i < (tab H W f).length := by rw [tab_len]; exact hiH
    obtain ⟨a, ha1, ia⟩ := (hrs'.sub hgb).get i hi1
    rw [show (tab H W f)[i] = row W (f i) by simp [tab]] at ia
    repeat' walk_at "m"
    refine sub_refs ((hr'.sub hgb).sub S.keep) (by walk_at "om") (by walk_at "om") (by simpa using ha1) ?_ (by with_unfolding_all rfl)
    repeat' walk_at "m"
    refine k_list (by assumption) (ia.sub (St.keep (by assumption))) (by rw [row_len]; walk_at "om") fun D₁ h₄ tk₄ n₄ S k₄ => ?_
    have S := S.say0 fun _ q => q.r
    repeat' walk_at "m"
    refine wpAny_For ?_
    repeat' walk_at "m"
    refine k_len_ints (ns := row W (f i)) (St.get (Φ := IsInts _) (by assumption) (.head _)) (by rw [row_len]; walk_at "om") fun _ _ => ?_
    rw [row_len]
    repeat' walk_at "m"
    refine k_range1 (by assumption) fun rr h₃ tk₃ S k₃ => ?_
    refine for_range0 (fun _ => [("told_one", .val (.ref D₁)), ("line_one", .int (i : Nat)), ("found_one", .val (.ref D₀)), ("most_one", .int mo), ("centre_one", .int ce), ("n", .int n), ("block_one", .val (.ref b)), ("y", .int y), ("x", .int x), ("rows_one", .val (.ref ro))]) (fun j => (D₁, IsInts (row W (dueR (putF f x y n ce mo ns i) (f i) j))) :: (D₀, IsRefs as') :: rowsLed as' (tab i W (putF f x y n ce mo ns))) (R.mono (by walk_at "om")) S Bb (by walk_at "om") (by walk_at "om") rfl (by rw [dueR_0]) rfl rfl ?_ ?_
    · intro j gc h tk K' hj Bc hgc S hK'
      have hjW := Int.ofNat_lt.mp hj
      have j0 := Int.natCast_nonneg j
      have j1 : (j : Int) ≤ 1000 := by walk_at "om"
      clear hj
      repeat' walk_at "m"
      walk_at "ite"
      · repeat' walk_at "m"
        walk_at "ite"
        · have c1 : (i : Int) / n = y := by assumption
          have c2 : (j : Int) / n = x := by assumption
          repeat' walk_at "m"
          have kk := blk_ix (i := i) (j := j) hn hn' hl
          have hkk := kk.2.1
          have k0 := kk.1
          have k1 := kk.2.2
          refine sub_ints (x := ns[((i : Int) % n * n + (j : Int) % n).toNat]) (((hb'.sub hgb).sub hgc).sub S.keep) k0 (Int.lt_trans k1 (by decide)) (List.getElem?_eq_getElem hkk) ?_ (by with_unfolding_all rfl)
          intro _
          repeat' walk_at "m"
          refine l_disp ?_
          repeat' walk_at "m"
          refine disp_ints (by assumption) (.cons _ _ (.cons _ _ (.cons _ _ .nil))) (by simp) fun D₂ h₅ tk₅ n₅ S₅ k₅ => ?_
          repeat' walk_at "m"
          refine k_sorted S₅ (ILP.r (S₅.get (.head _))) (by simp) fun D₃ ns' h₆ tk₆ n₆ S₆ hp hs => ?_
          repeat' walk_at "m"
          refine sub_ints (ILP.r (S₆.get (.head _))) (by decide) (by decide) (med hm hp hs) ?_ (by with_unfolding_all rfl)
          intro _
          have S₆ := S₆.drop.drop
          repeat' walk_at "m"
          refine set_ints S₆ (.head _) j0 (by rw [row_len]; exact Int.ofNat_lt.mpr hjW) (by walk_at "om") .head fun h₇ S₇ => ?_
          repeat' walk_at "m"
          have ep : putF f x y n ce mo ns i j = clampI (ns[((i : Int) % n * n + (j : Int) % n).toNat] + ce) mo := by
            unfold putF
            rw [if_pos ⟨c1, c2⟩, List.getD, List.getElem?_eq_getElem hkk]
            rfl
          rw [← ep, Int.toNat_natCast, dueR_set] at S₇
          exact hK' _ _ ((S₇.forget (x := "number_one") rfl).forget rfl)
        · repeat' walk_at "m"
          refine hK' _ _ ?_
          rw [dueR_skip (if_neg fun e => absurd e.2 (by assumption))]
          exact S.forget rfl
      · repeat' walk_at "m"
        refine hK' _ _ ?_
        rw [dueR_skip (if_neg fun e => absurd e.1 (by assumption))]
        exact S.forget rfl
    · intro h' tk S
      rw [Int.toNat_natCast, dueR_end] at S
      repeat' walk_at "m"
      refine MethodCall_ ?_
      repeat' walk_at "m"
      refine gm_list (by assumption) (.tail _ (.head _)) refs_list PySem.F.slot_list_append PySem.F.type_list_append ?_
      repeat' walk_at "m"
      refine k_append_ref S (.tail _ (.head _)) (.tail .head) (by walk_at "om") fun h₈ S₈ => ?_
      repeat' walk_at "m"
      refine hK _ _ _ _ ((S₈.rot.forget (x := "told_one") rfl).forget rfl) ⟨as' ++ [D₁], by simp [ha], rfl, ?_⟩
      rw [tab_succ, rowsLed_snoc (by rw [ha, tab_len])]
      rfl
  · rintro h' tk l' led' S ⟨as', ha, rfl, rfl⟩
    repeat' walk_at "m"
    have e : (as.length : Int).toNat = H := hlen
    rw [e] at ha S
    refine h _ as' _ _ (fun b o e => S.keep b o (hk' b o e)) (S.newOf_get hk' (.head _)) ?_
    refine rows_of_led (by rw [ha, tab_len]) fun q hq => S.newOf_get hk' (.tail _ hq)
end

-- part 13
section
variable {prog : Program} {w : World} {A : Around} {E : Value → Shared → Prop} {s : Shared} {h0 h1 : Heap} {tk0 : Nat} {g : Heap} {L : Addr} {l : Loc} {led : Led} {env : Env} {p q r r' : Addr} {wd ht : Int} {as bs : List Addr} {nss mss : List (List Int)}

structure SrcT (g : Heap) (L : Addr) (led : Led) (fp wr ow : List Addr) (Sti : Nat → Heap → Prop) : Prop where
  f : ∀ b ∈ fp, b ∈ ow ∨ ∃ o, g.get? b = some o
  s : ∀ b ∈ wr, b ∈ ow
  r : ∀ b ∈ ow, g.get? b = none ∧ b ≠ L ∧ b ∉ led.map (·.1)
  ex : ∀ i h, Sti i h → ∀ b ∈ ow, ∃ o, h.get? b = some o

def LoopI (s : Shared) (g : Heap) (L : Addr) (ow : List Addr) (n : Nat) (Sti : Nat → Heap → Prop) (Inv : Nat → Loc → Led → Prop) (k : Nat) (s' : Shared) : Prop :=
  ∃ i h' tk l' led', s' = sh s h' tk ∧ Sti i h' ∧ St g L h' l' led' ∧ Inv i l' led' ∧ i ≤ n ∧ k = n + 1 - i ∧ ∀ b ∈ ow, b ∉ led'.map (·.1)
theorem LoopI.start {ow fp wr : List Addr} {n : Nat} {Sti : Nat → Heap → Prop} {Inv : Nat → Loc → Led → Prop} (X : SrcT g L led fp wr ow Sti) (S : St g L h0 l led) (hst : Sti 0 h0) (hI : Inv 0 l led) : LoopI s g L ow n Sti Inv (n + 1) (sh s h0 tk0) :=
  ⟨0, h0, tk0, l, led, rfl, hst, S, hI, Nat.zero_le _, rfl, fun b hb => (X.r b hb).2.2⟩

theorem turnT {I : Addr} {fp wr ow : List Addr} {n : Nat} {Pt : Nat → Array Value → Prop} {Sti : Nat → Heap → Prop} {Mid : Nat → Addr → Heap → Prop} {P2 : Nat → Value → Value → Prop} {Inv : Nat → Loc → Led → Prop}
    (W : WalksT prog w A I fp wr n Pt Sti Mid) (hh : A.handled = none) (h2 : ∀ i vals, Pt i vals → ∃ v0 v1, vals = #[v0, v1] ∧ P2 i v0 v1)
    {x1 x2 : Str} {p1 p2 pt : Pos} {kt : Nat} (B : Base w g) (X : SrcT g L led fp wr ow Sti) (hL : env.locals = L) (hk : env.scope.kind = .function) (hx1 : env.kindOf x1 = some .local) (hx2 : env.kindOf x2 = some .local)
    {Body : (Shared → Prop) → Shared → Prop} {Done : Shared → Prop}
    (body : ∀ i v0 v1 gb h tk l' led' (K : Shared → Prop), i < n → P2 i v0 v1 → Base w gb → Sub g gb → Inv i l' led' → St gb L h ((x2, toVs v1) :: (x1, toVs v0) :: l') led' →
      (∀ h' tk' l'' led'', St gb L h' l'' led'' → Inv (i + 1) l'' led'' → K (sh s h' tk')) → Body K (sh s h tk))
    (done : ∀ h' tk l' led', St g L h' l' led' → Inv n l' led' → Done (sh s h' tk)) {k : Nat} {s' : Shared} (hi : LoopI s g L ow n Sti Inv k s') :
    wpAny (model prog w) A (pyNext (.ref I)) (fun r s₁ => match r with
      | none => Done s₁
      | some v => wpAny (model prog w) A (letOwnedTupleGo (.Tuple [.Name x1 p1, .Name x2 p2] kt pt) (.ref I) v) (fun _ s₁' => wpAny (model prog w) A (assign (.Tuple [.Name x1 p1, .Name x2 p2] kt pt) env v) (fun _ s₂ => Body (fun s₃ => ∃ m, m < k ∧ LoopI s g L ow n Sti Inv m s₃) s₂) E s₁') E s₁) E s' := by
  obtain ⟨i, h', tk, l', led', rfl, hst', S', hI', hi, rfl, hap⟩ := hi
  have offw : ∀ d ∈ wr, g.get? d = none ∧ d ≠ L ∧ d ∉ led'.map (·.1) := fun d hd => ⟨(X.r d (X.s d hd)).1, (X.r d (X.s d hd)).2.1, hap d (X.s d hd)⟩
  by_cases hlt : i < n
  · refine W.item i (sh s h' tk) _ _ hlt hst' fun T vals h₁ tk₁ hPt _ hT hMid hk₁ => ?_
    obtain ⟨v0, v1, rfl, hP2⟩ := h2 i vals hPt
    refine W.go _ kt pt i T (sh s h₁ tk₁) _ _ hMid fun h₂ hst₂ hk₂ => ?_
    have ht₂ : h₂.IsTuple T #[v0, v1] := hT.at fun o e => hk₂ T o (W.apart i T h₁ hMid) e
    refine wpAny_assign_Tuple (s := sh s h₂ tk₁) hh ht₂ rfl rfl fun h₃ hx₃ => ?_
    have up₃ : Sub h₂ h₃ := fun b o x => hx₃ b o (Nat.ne_of_lt (Heap.lt_size x)) x
    have S₃ : St g L h₃ l' led' := (S'.off (ds := wr) (fun b o e q => hk₂ b o q (hk₁ b o q e)) offw).ch0 up₃
    have hst₃ : Sti (i + 1) h₃ := W.frame _ _ _ hst₂ fun b _ o e => up₃ b o e
    obtain ⟨gb, hgg, hgh, Sb, hall⟩ := S₃.freeze
    have hfp : ∀ b ∈ fp, ∀ o, h₃.get? b = some o → gb.get? b = some o := fun b hb o e => by
      rcases X.f b hb with hw | ⟨o', ho'⟩
      · exact hall b o e (X.r b hw).2.1 (hap b hw)
      · have := S₃.ne_of ho'
        exact hall b o e this.1 this.2
    subst hL
    show wpAny _ A (do holding [v1] (assign (.Name x1 p1) env v0); do holding [] (assign (.Name x2 p2) env v1); pure ()) _ _ _
    refine wpAny_bind (wpAny_holding (wpAny_assign_Name (st_l (s := s) (tk0 := tk₁) Sb (toVs_is v0) (fun h₄ tk₄ S₄ => ?_) rfl hk hx1)))
    refine wpAny_bind (wpAny_holding (wpAny_assign_Name (st_l (s := s) (tk0 := tk₄) S₄ (toVs_is v1) (fun h₅ tk₅ S₅ => wpAny_pure ?_) rfl hk hx2)))
    refine body i v0 v1 gb h₅ tk₅ l' led' _ hlt hP2 (B.keeps hgg) hgg hI' S₅ fun h₆ tk₆ l'' led'' S₆ hI₆ => ?_
    refine ⟨n + 1 - (i + 1), by walk_at "om", i + 1, h₆, tk₆, l'', led'', rfl, W.frame _ _ _ hst₃ fun b hb o e => S₆.keep _ _ (hfp b hb o e), S₆.weak hgg, hI₆, hlt, rfl, fun b hb => ?_⟩
    obtain ⟨o, ho⟩ := X.ex _ _ hst₃ b hb
    exact (S₆.ne_of (hall b o ho (X.r b hb).2.1 (hap b hb))).2
  · have hin : i = n := by walk_at "om"
    subst hin
    refine W.done (sh s h' tk) _ _ hst' fun h₁ tk₁ hk₁ => ?_
    exact done h₁ tk₁ l' led' (S'.off (ds := wr) (fun b o e q => hk₁ b o q e) offw) hI'

theorem for_T {I : Addr} {fp wr ow : List Addr} {n : Nat} {Pt : Nat → Array Value → Prop} {Sti : Nat → Heap → Prop} {Mid : Nat → Addr → Heap → Prop} {P2 : Nat → Value → Value → Prop}
    (W : WalksT prog w A I fp wr n Pt Sti Mid) (hh : A.handled = none) (h2 : ∀ i vals, Pt i vals → ∃ v0 v1, vals = #[v0, v1] ∧ P2 i v0 v1)
    {x1 x2 : Str} {p1 p2 pt : Pos} {kt : Nat} {body : List Stmt} {R : Result → Shared → Prop} (Inv : Nat → Loc → Led → Prop) (S : St g env.locals h0 l led) (B : Base w g) (hst : Sti 0 h0) (hI : Inv 0 l led) (X : SrcT g env.locals led fp wr ow Sti)
    (hk : env.scope.kind = .function) (hx1 : env.kindOf x1 = some .local) (hx2 : env.kindOf x2 = some .local)
    (turn : ∀ i v0 v1 gb h tk l' led', i < n → P2 i v0 v1 → Base w gb → Sub g gb → Inv i l' led' → St gb env.locals h ((x2, toVs v1) :: (x1, toVs v0) :: l') led' →
      wpAny (model prog w) A (execs body env) (fun f s' => f = .next ∧ ∃ h' tk' l'' led'', s' = sh s h' tk' ∧ St gb env.locals h' l'' led'' ∧ Inv (i + 1) l'' led'') NoE (sh s h tk))
    (done : ∀ h' tk l' led', St g env.locals h' l' led' → Inv n l' led' → R (.ok .next) (sh s h' tk)) :
    codeAny (model prog w) A (.forLoop (.Tuple [.Name x1 p1, .Name x2 p2] kt pt) (.ref I) body [] env) R (sh s h0 tk0) := by
  refine codeAny_forLoop_any (LoopI s g env.locals ow n Sti Inv) (fun k s' hi => ?_) (n + 1) (LoopI.start X S hst hI)
  refine turnT (Done := fun s₁ => wpAny (model prog w) A (execs [] env) (fun f s₃ => R (.ok f) s₃) (notedBy (model prog w) A env fun e s' => R (.error e) s') s₁)
    (Body := fun K s₂ => wpAny (model prog w) A (execs body env) (fun f s₃ => match f with
            | .next | .cont => K s₃
            | .brk => R (.ok .next) s₃
            | .ret v => R (.ok (.ret v)) s₃) (notedBy (model prog w) A env fun e s' => R (.error e) s') s₂) W hh h2 B X rfl hk hx1 hx2 (fun i v0 v1 gb h tk l' led' K hi hP Bb hgb hI' Sb hK => ?_) (fun h' tk l' led' S' hI' => wpAny_execs_nil (done h' tk l' led' S' hI')) hi
  refine wpAny_mono (turn i v0 v1 gb h tk l' led' hi hP Bb hgb hI' Sb) (fun f s₃ q => ?_) fun _ _ q => q.elim
  obtain ⟨rfl, h₃, tk₃, l₃, led₃, rfl, S₃, hI₃⟩ := q
  exact hK h₃ tk₃ l₃ led₃ S₃ hI₃

def ZSt (z TI TO i1 i2 l1 l2 : Addr) (xs ys : Array Value) (i : Nat) (h : Heap) : Prop :=
  IsZip h z TI TO .none ∧ IsPair h TI (.ref i1) (.ref i2) ∧ (∃ a b, IsPair h TO a b) ∧ h.IsListIter i1 l1 i ∧ h.IsListIter i2 l2 i ∧ h.IsList l1 xs ∧ h.IsList l2 ys
def ZipAt (g : Heap) (L : Addr) (led : Led) (z l1 l2 : Addr) (xs ys : Array Value) (h : Heap) : Prop :=
  ∃ TI TO i1 i2, ZipApart z TI TO i1 i2 l1 l2 ∧ ZSt z TI TO i1 i2 l1 l2 xs ys 0 h ∧ SrcT g L led [z, TI, TO, i1, i2, l1, l2] [z, TO, i1, i2] [z, TI, TO, i1, i2] (ZSt z TI TO i1 i2 l1 l2 xs ys)

theorem k_zip {l1 l2 : Addr} {xs ys : Array Value} {Q : Value → Shared → Prop} (S : St g L h0 l led) (x1 : g.IsList l1 xs) (x2 : g.IsList l2 ys)
    (h : ∀ z h' tk, St g L h' l led → Sub h0 h' → ZipAt g L led z l1 l2 xs ys h' → Q (.ref z) (sh s h' tk)) :
    wpAny (model prog w) A (call (.type "zip") [.ref l1, .ref l2]) Q E (sh s h0 tk0) := by
  have y1 : h0.IsList l1 xs := x1.at fun o e => S.keep _ o e
  have y2 : h0.IsList l2 ys := x2.at fun o e => S.keep _ o e
  have a1 : l1 < h0.objs.size := by obtain ⟨_, e, _⟩ := y1; exact Heap.lt_size e
  have a2 : l2 < h0.objs.size := by obtain ⟨_, e, _⟩ := y2; exact Heap.lt_size e
  refine call_zip_2 (s := sh s h0 tk0) y1 y2 fun h' hz hTI hTO hi1 hi2 _ hk => h _ h' tk0 (S.ch0 hk) hk ⟨_, _, _, _, PyProof.Rows.zipApart_new a1 a2, ⟨hz, hTI, ⟨_, _, hTO⟩, hi1, hi2, y1.at fun o e => hk _ o e, y2.at fun o e => hk _ o e⟩, ?_⟩
  have nw : ∀ b, h0.objs.size ≤ b → g.get? b = none ∧ b ≠ L ∧ b ∉ led.map (·.1) := fun b hb => by
    have hf := fresh_size h0 hb
    refine ⟨S.keep.none hf, ?_, fun q => ?_⟩
    · rintro rfl
      obtain ⟨m, n, _⟩ := S.ns
      obtain ⟨o, ho⟩ := Ns.some n
      rw [hf] at ho; cases ho
    · obtain ⟨p, hp, e⟩ := List.mem_map.mp q
      obtain ⟨o, ho, _⟩ := S.at' p hp
      rw [e, hf] at ho; cases ho
  refine ⟨fun b hb => ?_, fun b hb => ?_, fun b hb => nw b ?_, fun i h hst b hb => ?_⟩
  · simp only [List.mem_cons, List.not_mem_nil, or_false] at hb ⊢
    rcases hb with e | e | e | e | e | e | e
    · exact .inl (.inl e)
    · exact .inl (.inr (.inl e))
    · exact .inl (.inr (.inr (.inl e)))
    · exact .inl (.inr (.inr (.inr (.inl e))))
    · exact .inl (.inr (.inr (.inr (.inr e))))
    · obtain ⟨o, ho, _⟩ := x1; rw [e]; exact .inr ⟨o, ho⟩
    · obtain ⟨o, ho, _⟩ := x2; rw [e]; exact .inr ⟨o, ho⟩
  · simp only [List.mem_cons, List.not_mem_nil, or_false] at hb ⊢
    rcases hb with e | e | e | e <;> simp [e]
  · simp only [List.mem_cons, List.not_mem_nil, or_false] at hb
    show h0.objs.size ≤ b
    have e0 : (sh s h0 tk0).heap.objs.size = h0.objs.size := rfl
    rw [e0] at hb
    rcases hb with e | e | e | e | e <;> rw [e] <;> first | exact Nat.le_refl _ | exact Nat.le_add_right _ _
  · obtain ⟨z1, z2, ⟨a, b', z3⟩, ⟨o4, z4, _⟩, ⟨o5, z5, _⟩, _, _⟩ := hst
    simp only [List.mem_cons, List.not_mem_nil, or_false] at hb
    rcases hb with e | e | e | e | e <;> rw [e]
    · exact ⟨_, z1⟩
    · exact ⟨_, z2⟩
    · exact ⟨_, z3⟩
    · exact ⟨_, z4⟩
    · exact ⟨_, z5⟩

theorem for_zip {z l1 l2 : Addr} {xs ys : Array Value} {x1 x2 : Str} {p1 p2 pt : Pos} {kt : Nat} {body : List Stmt} {Q : Flow → Shared → Prop} (Inv : Nat → Loc → Led → Prop) (hA : Room A 0) (S : St g env.locals h0 l led) (B : Base w g) (Z : ZipAt g env.locals led z l1 l2 xs ys h0)
    (hI : Inv 0 l led) (hk : env.scope.kind = .function) (hx1 : env.kindOf x1 = some .local) (hx2 : env.kindOf x2 = some .local)
    (turn : ∀ i v0 v1 gb h tk l' led', i < min xs.size ys.size → xs[i]? = some v0 → ys[i]? = some v1 → Base w gb → Sub g gb → Inv i l' led' → St gb env.locals h ((x2, toVs v1) :: (x1, toVs v0) :: l') led' →
      wpAny (model prog w) A (execs body env) (fun f s' => f = .next ∧ ∃ h' tk' l'' led'', s' = sh s h' tk' ∧ St gb env.locals h' l'' led'' ∧ Inv (i + 1) l'' led'') NoE (sh s h tk))
    (done : ∀ h' tk l' led', St g env.locals h' l' led' → Inv (min xs.size ys.size) l' led' → Q .next (sh s h' tk)) :
    wpAny (model prog w) A (pyIter (.ref z)) (fun it s₂ => codeAny (model prog w) A (.forLoop (.Tuple [.Name x1 p1, .Name x2 p2] kt pt) it body [] env) (fun r s' => match r with | .ok f => Q f s' | .error e => cameBackBy (model prog w) A env E e s') s₂) E (sh s h0 tk0) := by
  obtain ⟨TI, TO, i1, i2, D, hst, X⟩ := Z
  refine wpAny_pyIter_zip (s := sh s h0 tk0) hst.1 ?_
  exact for_T (P2 := fun i v0 v1 => xs[i]? = some v0 ∧ ys[i]? = some v1) (WalksT.zip2 hA.h z TI TO i1 i2 l1 l2 D xs ys) hA.h (fun i vals ⟨a, b, c, d, e⟩ => ⟨a, b, e, c, d⟩) Inv S B hst hI X hk hx1 hx2 (fun i v0 v1 gb h tk l' led' a b => turn i v0 v1 gb h tk l' led' a b.1 b.2) done

theorem compTurn2_0 (elt t1 i1 t2 i2 : Expr) (scope : Scope) (pos : Pos) (it acc : Value) (env : Env) :
    compTurn (.ListComp elt [⟨t1, i1, [], 0⟩, ⟨t2, i2, [], 0⟩] scope pos) 0 it acc env = (standAt i1.pos >>= fun _ => pyNext it >>= fun r => match r with
      | none => pure (.done .next)
      | some v => letOwnedTupleGo t1 it v >>= fun _ => assign t1 env v >>= fun _ =>
        (eval i2 env >>= fun x => standAt i2.pos >>= fun _ => foldedSetIterable i2 env x >>= fun x => holding [x] (pyIter x) >>= fun it2 => runOwn (.compStart (.ListComp elt [⟨t1, i1, [], 0⟩, ⟨t2, i2, [], 0⟩] scope pos) 1 it2 acc env) env >>= fun _ =>
          again (.compLoop (.ListComp elt [⟨t1, i1, [], 0⟩, ⟨t2, i2, [], 0⟩] scope pos) 0 it acc env))) := by rfl
theorem compTurn2_1 (elt t1 i1 t2 i2 : Expr) (scope : Scope) (pos : Pos) (it acc : Value) (env : Env) :
    compTurn (.ListComp elt [⟨t1, i1, [], 0⟩, ⟨t2, i2, [], 0⟩] scope pos) 1 it acc env = (standAt i2.pos >>= fun _ => pyNext it >>= fun r => match r with
      | none => pure (.done .next)
      | some v => letOwnedTupleGo t2 it v >>= fun _ => assign t2 env v >>= fun _ =>
        (eval elt env >>= fun x => call (.builtin "list.append") [acc, x] >>= fun _ => pure ()) >>= fun _ =>
          again (.compLoop (.ListComp elt [⟨t1, i1, [], 0⟩, ⟨t2, i2, [], 0⟩] scope pos) 1 it acc env)) := by rfl
end

-- part 14
section
variable {prog : Program} {w : World} {A : Around} {E : Value → Shared → Prop} {R : Result → Shared → Prop} {s : Shared}
theorem compLoop2_1 {elt t1 i1 t2 i2 : Expr} {scope : Scope} {pos : Pos} {it acc : Value} {env : Env} (I : Nat → Shared → Prop)
    (turn : ∀ n s, I n s → wpAny (model prog w) A (pyNext it) (fun r s₁ => match r with
      | none => R (.ok .next) s₁
      | some v => wpAny (model prog w) A (letOwnedTupleGo t2 it v) (fun _ s₁' => wpAny (model prog w) A (assign t2 env v) (fun _ s₂ => wpAny (model prog w) A (eval elt env) (fun x s₃ =>
          wpAny (model prog w) A (call (.builtin "list.append") [acc, x]) (fun _ s₄ => ∃ m, m < n ∧ I m s₄) (notedBy (model prog w) A env fun e s' => R (.error e) s') s₃)
          (notedBy (model prog w) A env fun e s' => R (.error e) s') s₂) (notedBy (model prog w) A env fun e s' => R (.error e) s') s₁') (notedBy (model prog w) A env fun e s' => R (.error e) s') s₁) (notedBy (model prog w) A env fun e s' => R (.error e) s') s)
    (n : Nat) (h : I n s) :
    codeAny (model prog w) A (.compLoop (.ListComp elt [⟨t1, i1, [], 0⟩, ⟨t2, i2, [], 0⟩] scope pos) 1 it acc env) R s := by
  refine codeAny_loop rfl I (fun n s hI => ?_) n h
  show wpAny _ _ ((compTurn (.ListComp elt [⟨t1, i1, [], 0⟩, ⟨t2, i2, [], 0⟩] scope pos) 1 it acc env).onRaise (fun x => do noteFrame x env; theTreesLotGoes x)) _ _ s
  refine wpAny_noted ?_
  rw [compTurn2_1]
  refine wpAny_bind (wpAny_standAt (wpAny_bind (wpAny_mono (turn n s hI) (fun r s₁ h₁ => ?_) fun _ _ h' => h')))
  cases r with
  | none => exact wpAny_pure h₁
  | some v =>
    refine wpAny_bind (wpAny_mono h₁ (fun _ s₁' h₁' => ?_) fun _ _ h' => h')
    exact wpAny_bind (wpAny_mono h₁' (fun _ s₂ h₂ => wpAny_bind (wpAny_bind (wpAny_mono h₂ (fun x s₃ h₃ => wpAny_bind (wpAny_mono h₃
      (fun _ s₄ h₄ => wpAny_pure (wpAny_pure ⟨rfl, h₄⟩)) fun _ _ h' => h')) fun _ _ h' => h'))) fun _ _ h' => h')
theorem compStart2_1 {elt t1 i1 t2 i2 scope pos it acc env}
    (h0 : codeAny (model prog w) A (.compLoop (.ListComp elt [⟨t1, i1, [], 0⟩, ⟨t2, i2, [], 0⟩] scope pos) 1 it acc env) R s)
    (h : wpAny (model prog w) A (pyIter it) (fun it' s' => codeAny (model prog w) A (.compLoop (.ListComp elt [⟨t1, i1, [], 0⟩, ⟨t2, i2, [], 0⟩] scope pos) 1 it' acc env) R s')
      (notedBy (model prog w) A env fun x s' => R (.error x) s') s) :
    codeAny (model prog w) A (.compStart (.ListComp elt [⟨t1, i1, [], 0⟩, ⟨t2, i2, [], 0⟩] scope pos) 1 it acc env) R s := by
  refine codeAny_of_tree ?_
  show wpAny _ _ ((compStart (.ListComp elt [⟨t1, i1, [], 0⟩, ⟨t2, i2, [], 0⟩] scope pos) 1 it acc env).onRaise (fun x => do noteFrame x env; standAt theWindowsPlace)) _ _ s
  refine wpAny_notedAt ?_
  unfold compStart
  show wpAny _ _ (ask >>= _) _ _ s
  refine wpAny_bind (wpAny_askSetting (wpAny_ite ?_))
  split
  · first
      | exact wpAny_bind (wpAny_pure (wpAny_pure (And.intro rfl h0)))
      | exact wpAny_pure (And.intro rfl h0)
  · first
      | exact wpAny_bind (wpAny_rule (wpAny_bind (wpAny_standAt (wpAny_bind (wpAny_mono h (fun it' s' h' => wpAny_pure (And.intro rfl h')) fun _ _ x => x)))))
      | (refine wpAny_bind (wpAny_rule ?_); show wpAny _ _ (standAt i2.pos >>= _) _ _ s; exact wpAny_bind (wpAny_standAt (wpAny_bind (wpAny_mono h (fun it' s' h' => wpAny_pure (And.intro rfl h')) fun _ _ x => x))))
theorem compLoop2_0 {elt t1 i1 t2 i2 : Expr} {scope : Scope} {pos : Pos} {it acc : Value} {env : Env} (I : Nat → Shared → Prop)
    (turn : ∀ n s, I n s → wpAny (model prog w) A (pyNext it) (fun r s₁ => match r with
      | none => R (.ok .next) s₁
      | some v => wpAny (model prog w) A (letOwnedTupleGo t1 it v) (fun _ s₁' => wpAny (model prog w) A (assign t1 env v) (fun _ s₂ => wpAny (model prog w) A (eval i2 env) (fun x s₃ =>
          wpAny (model prog w) A (pyIter x) (fun it2 s₄ => codeAny (model prog w) A (.compStart (.ListComp elt [⟨t1, i1, [], 0⟩, ⟨t2, i2, [], 0⟩] scope pos) 1 it2 acc env)
            (fun r s' => match r with | .ok _ => ∃ m, m < n ∧ I m s' | .error e => cameBackBy (model prog w) A env (notedBy (model prog w) A env fun e s' => R (.error e) s') e s') s₄) (notedBy (model prog w) A env fun e s' => R (.error e) s') s₃)
          (notedBy (model prog w) A env fun e s' => R (.error e) s') s₂) (notedBy (model prog w) A env fun e s' => R (.error e) s') s₁') (notedBy (model prog w) A env fun e s' => R (.error e) s') s₁) (notedBy (model prog w) A env fun e s' => R (.error e) s') s)
    (n : Nat) (h : I n s) (hs : ∀ x, foldedSetIterable i2 env x = pure x := by intro _; rfl) :
    codeAny (model prog w) A (.compLoop (.ListComp elt [⟨t1, i1, [], 0⟩, ⟨t2, i2, [], 0⟩] scope pos) 0 it acc env) R s := by
  refine codeAny_loop rfl I (fun n s hI => ?_) n h
  show wpAny _ _ ((compTurn (.ListComp elt [⟨t1, i1, [], 0⟩, ⟨t2, i2, [], 0⟩] scope pos) 0 it acc env).onRaise (fun x => do noteFrame x env; theTreesLotGoes x)) _ _ s
  refine wpAny_noted ?_
  rw [compTurn2_0]
  refine wpAny_bind (wpAny_standAt (wpAny_bind (wpAny_mono (turn n s hI) (fun r s₁ h₁ => ?_) fun _ _ h' => h')))
  cases r with
  | none => exact wpAny_pure h₁
  | some v =>
    refine wpAny_bind (wpAny_mono h₁ (fun _ s₁' h₁' => ?_) fun _ _ h' => h')
    refine wpAny_bind (wpAny_mono h₁' (fun _ s₂ h₂ => ?_) fun _ _ h' => h')
    refine wpAny_bind (wpAny_mono h₂ (fun x s₃ h₃ => ?_) fun _ _ h' => h')
    refine wpAny_bind (wpAny_standAt (wpAny_bind (wpAny_of_eq (hs x) ?_)))
    refine wpAny_bind (wpAny_holding (wpAny_mono h₃ (fun it2 s₄ h₄ => ?_) fun _ _ h' => h'))
    refine wpAny_bind (wpAny_runOwn (codeAny_mono h₄ fun r s' q => ?_))
    cases r with
    | ok f => exact wpAny_pure ⟨rfl, q⟩
    | error e => exact q

def CompK2 (prog : Program) (w : World) (A : Around) (E : Value → Shared → Prop) (env : Env) (elt t1 i1 t2 i2 : Expr) (scope : Scope) (cl : List (Str × Addr)) (pos : Pos) (use : Option (Value → Sem Unit)) (Q : Value → Shared → Prop) (it : Value) (s₂ : Shared) : Prop :=
  wpAny (model prog w) A (newList []) (fun acc s₃ => wpAny (model prog w) A (newFunctionEnv scope env.globals cl [] env.qual none .none (some env)) (fun cenv s₄ =>
    codeAny (model prog w) A (.compStart (.ListComp elt [⟨t1, i1, [], 0⟩, ⟨t2, i2, [], 0⟩] scope pos) 0 it acc { cenv with scope := relabel scope env }) (compPost (model prog w) A E use Q acc cenv.locals) s₄) E s₃) E s₂

theorem lc2_assign {env : Env} {elt t1 i1 t2 i2 : Expr} {y : Str} {py pos spos : Pos} {scope : Scope} {cl : List (Str × Addr)} {Q : Flow → Shared → Prop}
    (h : wpAny (model prog w) A (eval i1 env) (fun xv s₁ => wpAny (model prog w) A (pyIter xv) (CompK2 prog w A E env elt t1 i1 t2 i2 scope cl pos (some (assign (.Name y py) env)) (fun _ s' => Q .next s')) E s₁) E s)
    (hsw : swapsWith (.ListComp elt [⟨t1, i1, [], 0⟩, ⟨t2, i2, [], 0⟩] scope pos) (some (.Name y py)) spos.line env = pure true)
    (hclos : closureFor scope env = pure cl) (hkind : scope.kind = .function) (hnames : ∀ y ∈ scope.names, y.2 = .local → scope.names.lookup y.1 = some .local)
    (hs : ∀ x, foldedSetIterable i1 env x = pure x := by intro _; rfl) :
    wpAny (model prog w) A (exec (.Assign [.Name y py] (.ListComp elt [⟨t1, i1, [], 0⟩, ⟨t2, i2, [], 0⟩] scope pos) spos) env) Q E s := by
  rw [exec_Assign_Name_used _ _ _ _ hsw]
  refine wpAny_bind (wpAny_standAt (wpAny_bind ?_))
  show wpAny _ A (do let _ ← comprehension (.ListComp elt [⟨t1, i1, [], 0⟩, ⟨t2, i2, [], 0⟩] scope pos) scope env _ (newList []) false (eval i1 env) (some (assign (.Name y py) env))) _ _ s
  exact wpAny_bind (wpAny_mono (wpAny_comprehension_free (use := some (assign (.Name y py) env)) (Q := fun _ s' => Q .next s') rfl hs hclos hkind hnames h) (fun _ s' hq => wpAny_pure (wpAny_pure hq)) fun _ _ e => e)
end

-- part 15
section
variable {prog : Program} {w : World} {A : Around} {E : Value → Shared → Prop} {s : Shared} {h0 h1 : Heap} {tk0 : Nat} {g : Heap} {L : Addr} {l : Loc} {led : Led} {env : Env} {p q r r' : Addr} {wd ht : Int} {as bs : List Addr} {nss mss : List (List Int)}

def gapsTo (F : Int → Int → Int) (nss mss : List (List Int)) (i : Nat) : List Int := (List.range i).flatMap fun k => List.zipWith F (nss.getD k []) (mss.getD k [])
theorem gapsTo_succ {F : Int → Int → Int} (i : Nat) : gapsTo F nss mss (i + 1) = gapsTo F nss mss i ++ List.zipWith F (nss.getD i []) (mss.getD i []) := by simp [gapsTo, List.range_succ]

theorem dup {P Z : Prop} (f : P → Z) (h : P) : Z := f h
theorem comp2_gaps {F : Int → Int → Int} {x1 x2 x3 x4 : Str} {p1 p2 p3 p4 pt1 pt2 : Pos} {k1 k2 : Nat} {elt i1 i2 : Expr} {scope : Scope} {cl : List (Str × Addr)} {pos py : Pos} {y : Str} {Q : Value → Shared → Prop} {z : Addr}
    (hA : Room A 0) (S : St g L h0 l led) (B : Base w g) (Z : ZipAt g L led z r r' (as.map Value.ref).toArray (bs.map Value.ref).toArray h0) (R1 : Rows g as nss) (R2 : Rows g bs mss) (hlen : nss.length = mss.length)
    (hz : ∀ i, i ≤ nss.length → (gapsTo F nss mss i).length ≤ 50000) (hz' : ∀ ns ∈ nss, ns.length ≤ 50000)
    (hcell : ∀ y ∈ scope.names, y.2 ≠ .cell) (hkind : scope.kind = .function) (hx1 : scope.names.lookup x1 = some .local) (hx2 : scope.names.lookup x2 = some .local) (hx3 : scope.names.lookup x3 = some .local) (hx4 : scope.names.lookup x4 = some .local)
    (hi2 : ∀ gb C h tk l' led' (a b : Addr) (Q' : Value → Shared → Prop) (E' : Value → Shared → Prop) xs ys, Base w gb → St gb C h ((x2, .val (.ref b)) :: (x1, .val (.ref a)) :: l') led' → gb.IsList a xs → gb.IsList b ys →
      (∀ z h' tk', St gb C h' ((x2, .val (.ref b)) :: (x1, .val (.ref a)) :: l') led' → ZipAt gb C led' z a b xs ys h' → Q' (.ref z) (sh s h' tk')) → wpAny (model prog w) A (eval i2 (compEnvC scope cl C env)) Q' E' (sh s h tk))
    (helt : ∀ gb C h tk l' led' (a b : Int) (Q' : Value → Shared → Prop) (E' : Value → Shared → Prop), Base w gb → St gb C h ((x4, .int b) :: (x3, .int a) :: l') led' →
      (∀ t h' tk', St gb C h' ((x4, .int b) :: (x3, .int a) :: l') led' → Q' (.int (F a b) t) (sh s h' tk')) → wpAny (model prog w) A (eval elt (compEnvC scope cl C env)) Q' E' (sh s h tk))
    (hs : ∀ C x, foldedSetIterable i2 (compEnvC scope cl C env) x = pure x) (hL : env.locals = L) (hk : env.scope.kind = .function) (hy : env.kindOf y = some .local)
    (done : ∀ D h' tk, h0.get? D = none → St g L h' ((y, .val (.ref D)) :: l) ((D, IsIntsP (gapsTo F nss mss nss.length)) :: led) → Q .none (sh s h' tk)) :
    wpAny (model prog w) A (pyIter (.ref z)) (CompK2 prog w A E env elt (.Tuple [.Name x1 p1, .Name x2 p2] k1 pt1) i1 (.Tuple [.Name x3 p3, .Name x4 p4] k2 pt2) i2 scope cl pos (some (assign (.Name y py) env)) Q) E (sh s h0 tk0) := by
  obtain ⟨TI, TO, ia, ib, DD, hst, X⟩ := Z
  refine wpAny_pyIter_zip (s := sh s h0 tk0) hst.1 ?_
  generalize how : [z, TI, TO, ia, ib] = ow at X
  have W := WalksT.zip2 (prog := prog) (w := w) (A := A) hA.h z TI TO ia ib r r' DD (as.map Value.ref).toArray (bs.map Value.ref).toArray
  unfold CompK2
  refine wpAny_newObj_type (wpAny_newFunctionEnv hcell (by intro y hy; simp at hy) (fun h₁ hns₁ hsb₁ => ?_) hkind)
  dsimp only [sh] at hns₁ hsb₁ ⊢
  generalize hH2 : h0.push { cls := .type "list", dict := none, data := .seq ([] : List Value).toArray } = H2 at hns₁ hsb₁ ⊢
  have hC : H2.objs.size = h0.objs.size + 1 := by rw [← hH2, Heap.size_push]
  have hDC : h0.objs.size ≠ H2.objs.size := by rw [hC]; exact Nat.ne_of_lt (Nat.lt_succ_self _)
  have old : Sub h0 h₁ := fun b o e => hsb₁.extBut b o (by rw [hC]; exact Nat.ne_of_lt (Nat.lt_succ_of_lt (Heap.lt_size e))) (Heap.get?_push_of_some _ (hH2 ▸ Heap.get?_push_of_some _ e))
  have hacc : ∃ o, h₁.get? h0.objs.size = some o ∧ IsIntsP [] o := ⟨_, hsb₁.extBut _ _ hDC (Heap.get?_push_of_some _ (hH2 ▸ Heap.get?_push_size _ rfl)), [], 0, rfl, .nil⟩
  have nD := S.size_new
  have lt0 : ∀ b o, h0.get? b = some o → b ≠ H2.objs.size ∧ b ≠ h0.objs.size := fun b o e => by
    have := Heap.lt_size e
    exact ⟨by rw [hC]; exact Nat.ne_of_lt (Nat.lt_succ_of_lt this), Nat.ne_of_lt this⟩
  have hwC : ∀ b ∈ ow, b ≠ H2.objs.size ∧ b ≠ h0.objs.size := fun b hb => let ⟨o, e⟩ := X.ex _ _ hst b hb; lt0 b o e
  have ledC : ∀ p ∈ led, p.1 ≠ H2.objs.size ∧ p.1 ≠ h0.objs.size := fun p hp => let ⟨o, e, _⟩ := S.at' p hp; lt0 _ o e
  have S1 : St g L h₁ l led := S.ch0 old
  have gcC : g.get? H2.objs.size = none := S.keep.none (fresh_size h0 (by rw [hC]; exact Nat.le_succ _))
  have hgc : ∀ b o, h₁.get? b = some o → b ≠ H2.objs.size → b ≠ h0.objs.size → b ∉ ow → b ∉ led.map (·.1) → (hideAll h₁ (H2.objs.size :: h0.objs.size :: (ow ++ led.map (·.1)))).get? b = some o := fun b o e n1 n2 n3 n4 =>
    hideAll_get _ e (by simp only [List.mem_cons, List.mem_append, not_or]; exact ⟨n1, n2, n3, n4⟩)
  generalize hgce : hideAll h₁ (H2.objs.size :: h0.objs.size :: (ow ++ led.map (·.1))) = gc at hgc
  have gcn : ∀ b, b = H2.objs.size ∨ b = h0.objs.size ∨ b ∈ ow ∨ b ∈ led.map (·.1) → gc.get? b = none := fun b hb => by
    rw [← hgce]
    exact hideAll_none _ (by
      rcases hb with rfl | rfl | h | h
      · exact .head _
      · exact .tail _ (.head _)
      · exact .tail _ (.tail _ (List.mem_append_left _ h))
      · exact .tail _ (.tail _ (List.mem_append_right _ h)))
  have gcs : Sub gc h₁ := fun b o e => by rw [← hgce] at e; exact of_hideAll _ e
  have ggc : Sub g gc := fun b o e => by
    have h2 := S.ne_of e
    have h3 := lt0 b o (S.keep b o e)
    exact hgc b o (old _ _ (S.keep b o e)) h3.1 h3.2 (fun hw => by rw [(X.r b hw).1] at e; cases e) h2.2
  have Sc : St gc H2.objs.size h₁ [] ((h0.objs.size, IsIntsP []) :: led) :=
    ⟨⟨_, hns₁, fun x v e => by cases e⟩, gcs, gcn _ (.inl rfl), fun p hp => by
      rcases List.mem_cons.mp hp with rfl | hp
      · exact hacc
      · exact S1.at' p hp, fun p hp => by
      rcases List.mem_cons.mp hp with rfl | hp
      · exact hDC
      · exact (ledC p hp).1, fun p hp => by
      rcases List.mem_cons.mp hp with rfl | hp
      · exact gcn _ (.inr (.inl rfl))
      · exact gcn _ (.inr (.inr (.inr (List.mem_map_of_mem hp)))), by
      simp only [List.map_cons, List.nodup_cons]
      exact ⟨nD.2.2, S1.nd⟩⟩
  have Bc : Base w gc := B.keeps ggc
  obtain ⟨mL, nL, eL⟩ := S1.ns
  have nLc : gc.Ns L mL := nL.at' fun o e => by
    have hL0 : L ≠ H2.objs.size ∧ L ≠ h0.objs.size := by
      obtain ⟨m', n', _⟩ := S.ns
      obtain ⟨o', e'⟩ := Ns.some n'
      exact lt0 L o' e'
    refine hgc L o e hL0.1 hL0.2 (fun hw => (X.r L hw).2.1 rfl) fun hm => ?_
    obtain ⟨p, hp, ep⟩ := List.mem_map.mp hm
    exact S.ne p hp ep
  have hst₁ : ZSt z TI TO ia ib r r' (as.map Value.ref).toArray (bs.map Value.ref).toArray 0 h₁ := W.frame _ _ _ hst fun b _ o e => old b o e
  have X' : SrcT gc H2.objs.size ((h0.objs.size, IsIntsP []) :: led) [z, TI, TO, ia, ib, r, r'] [z, TO, ia, ib] ow (ZSt z TI TO ia ib r r' (as.map Value.ref).toArray (bs.map Value.ref).toArray) :=
    ⟨fun b hb => (X.f b hb).imp id fun ⟨o, e⟩ => ⟨o, ggc _ _ e⟩, X.s, fun b hb => ⟨gcn _ (.inr (.inr (.inl hb))), (hwC b hb).1, by
      simp only [List.map_cons, List.mem_cons, not_or]
      exact ⟨(hwC b hb).2, (X.r b hb).2.2⟩⟩, X.ex⟩
  have la := R1.len
  have lb := R2.len
  have hn : min (as.map Value.ref).toArray.size (bs.map Value.ref).toArray.size = nss.length := by simp; walk_at "om"
  have loop : codeAny (model prog w) A (.compLoop (.ListComp elt [⟨.Tuple [.Name x1 p1, .Name x2 p2] k1 pt1, i1, [], 0⟩, ⟨.Tuple [.Name x3 p3, .Name x4 p4] k2 pt2, i2, [], 0⟩] scope pos) 0 (.ref z) (.ref h0.objs.size) (compEnvC scope cl H2.objs.size env))
        (compPost (model prog w) A E (some (assign (.Name y py) env)) Q (.ref h0.objs.size) H2.objs.size) (sh s h₁ (tk0 + ([] : List (Str × Value)).length)) := by
    refine compLoop2_0 (LoopI s gc H2.objs.size ow (min (as.map Value.ref).toArray.size (bs.map Value.ref).toArray.size) (ZSt z TI TO ia ib r r' (as.map Value.ref).toArray (bs.map Value.ref).toArray) fun i _ led' => led' = (h0.objs.size, IsIntsP (gapsTo F nss mss i)) :: led) (fun k s' hi => ?_) _ (LoopI.start X' Sc hst₁ rfl) (hs _)
    refine turnT (P2 := fun i v0 v1 => (as.map Value.ref).toArray[i]? = some v0 ∧ (bs.map Value.ref).toArray[i]? = some v1) (env := compEnvC scope cl H2.objs.size env) (Done := fun s₁ => compPost (model prog w) A E (some (assign (.Name y py) env)) Q (.ref h0.objs.size) H2.objs.size (.ok .next) s₁)
      (Body := fun K s₂ => wpAny (model prog w) A (eval i2 (compEnvC scope cl H2.objs.size env)) (fun x s₃ => wpAny (model prog w) A (pyIter x) (fun it2 s₄ => codeAny (model prog w) A (.compStart (.ListComp elt [⟨.Tuple [.Name x1 p1, .Name x2 p2] k1 pt1, i1, [], 0⟩, ⟨.Tuple [.Name x3 p3, .Name x4 p4] k2 pt2, i2, [], 0⟩] scope pos) 1 it2 (.ref h0.objs.size) (compEnvC scope cl H2.objs.size env))
            (fun r s' => match r with | .ok _ => K s' | .error e => cameBackBy (model prog w) A (compEnvC scope cl H2.objs.size env) (notedBy (model prog w) A (compEnvC scope cl H2.objs.size env) fun e s' => compPost (model prog w) A E (some (assign (.Name y py) env)) Q (.ref h0.objs.size) H2.objs.size (.error e) s') e s') s₄) (notedBy (model prog w) A (compEnvC scope cl H2.objs.size env) fun e s' => compPost (model prog w) A E (some (assign (.Name y py) env)) Q (.ref h0.objs.size) H2.objs.size (.error e) s') s₃)
          (notedBy (model prog w) A (compEnvC scope cl H2.objs.size env) fun e s' => compPost (model prog w) A E (some (assign (.Name y py) env)) Q (.ref h0.objs.size) H2.objs.size (.error e) s') s₂)
      W hA.h (fun i vals ⟨a, b, c, d, e⟩ => ⟨a, b, e, c, d⟩) Bc X' rfl hkind (lookup_relabel_local hx1) (lookup_relabel_local hx2) (fun i v0 v1 gb h tk l' led' K hi hv Bb hgb hI' Sb hK => ?_) (fun h' tk l' led' S' hI' => ?_) hi
    · subst hI'
      rw [hn] at hi
      obtain ⟨a, ha, iax⟩ := R1.get i hi
      obtain ⟨b, hb, ibx⟩ := R2.get i (by walk_at "om")
      have e0 : v0 = .ref a := by simpa [ha] using hv.1.symm
      have e1 : v1 = .ref b := by simpa [hb] using hv.2.symm
      subst e0; subst e1
      obtain ⟨vs, hvl, hvi⟩ := (iax.sub (ggc.trans hgb)).list
      obtain ⟨us, hul, hui⟩ := (ibx.sub (ggc.trans hgb)).list
      refine hi2 gb _ h tk l' _ a b _ _ _ _ Bb Sb hvl hul fun z2 h₂ tk₂ S₂ Z₂ => ?_
      obtain ⟨TI2, TO2, ia2, ib2, DD2, hst2, X2⟩ := Z₂
      refine wpAny_pyIter_zip (s := sh s h₂ tk₂) hst2.1 ?_
      have W2 := WalksT.zip2 (prog := prog) (w := w) (A := A) hA.h z2 TI2 TO2 ia2 ib2 a b DD2 vs.toArray us.toArray
      have hn2 : min vs.toArray.size us.toArray.size = (List.zipWith F nss[i] mss[i]).length := by simp [hvi.length, hui.length]
      refine dup (fun key => compStart2_1 key (wpAny_pyIter_zip (s := sh s h₂ tk₂) hst2.1 key)) ?_
      · refine compLoop2_1 (LoopI s gb H2.objs.size [z2, TI2, TO2, ia2, ib2] (min vs.toArray.size us.toArray.size) (ZSt z2 TI2 TO2 ia2 ib2 a b vs.toArray us.toArray) fun j _ led' => led' = (h0.objs.size, IsIntsP (gapsTo F nss mss i ++ (List.zipWith F nss[i] mss[i]).take j)) :: led) (fun k s' hi9 => ?_) _ (LoopI.start X2 S₂ hst2 (by simp))
        refine turnT (P2 := fun i v0 v1 => vs.toArray[i]? = some v0 ∧ us.toArray[i]? = some v1) (env := compEnvC scope cl H2.objs.size env) (Done := fun s₁ => K s₁)
          (Body := fun K s₂ => wpAny (model prog w) A (eval elt (compEnvC scope cl H2.objs.size env)) (fun x s₃ =>
              wpAny (model prog w) A (call (.builtin "list.append") [.ref h0.objs.size, x]) (fun _ s₄ => K s₄) _ s₃) _ s₂)
          W2 hA.h (fun i vals ⟨a, b, c, d, e⟩ => ⟨a, b, e, c, d⟩) Bb X2 rfl hkind (lookup_relabel_local hx3) (lookup_relabel_local hx4) (fun j v0 v1 gd h tk l' led' K2 hj hv Bd hgd hI' Sd hK2 => ?_) (fun h' tk l' led' S' hI' => ?_) hi9
        · subst hI'
          rw [hn2] at hj
          have hj1 : j < nss[i].length := by simp at hj; walk_at "om"
          have hj2 : j < mss[i].length := by simp at hj; walk_at "om"
          obtain ⟨t, ht⟩ := hvi.get j nss[i][j] (by simp [hj1])
          obtain ⟨u, hu⟩ := hui.get j mss[i][j] (by simp [hj2])
          have e0 : v0 = .int nss[i][j] t := by simpa [ht] using hv.1.symm
          have e1 : v1 = .int mss[i][j] u := by simpa [hu] using hv.2.symm
          subst e0; subst e1
          refine helt gd _ h tk l' _ _ _ _ _ Bd Sd fun t' h₃ tk₃ S₃ => ?_
          have z1 := hz i (by walk_at "om")
          have z2 := hz' _ (List.getElem_mem hi)
          refine k_append_int S₃ (.head _) .head (by rw [List.length_append, List.length_take]; walk_at "om") fun h₄ S₄ => ?_
          refine hK2 h₄ tk₃ _ _ S₄ ?_
          rw [List.take_succ_eq_append_getElem hj, List.append_assoc]
          simp
        · subst hI'
          refine hK h' tk l' _ S' ?_
          rw [hn2, List.take_length, gapsTo_succ]
          simp [List.getD, hi, (by walk_at "om" : i < mss.length)]
    · subst hI'
      rw [hn] at S'
      obtain ⟨oL, hoL⟩ := Ns.some nLc
      have hDl : h0.objs.size ∉ led.map (·.1) := nD.2.2
      have SL : St g L h' l ((h0.objs.size, IsIntsP (gapsTo F nss mss nss.length)) :: led) := ⟨⟨mL, nLc.keeps S'.keep, eL⟩, ggc.trans S'.keep, S.gl, S'.at', (fun p hp e => by
          have := S'.fresh p hp
          rw [e, hoL] at this; cases this), fun p hp => ggc.none (S'.fresh p hp), S'.nd⟩
      have hCL : H2.objs.size ≠ L := by
        rintro e
        rw [← e, gcn _ (.inl rfl)] at hoL; cases hoL
      subst hL
      refine post_assign SL (let ⟨m, n, _⟩ := S'.ns; ⟨m, n⟩) gcC hCL ?_ hk hy fun h2 tk2 S2 => done _ h2 tk2 (fresh_size h0 (Nat.le_refl _)) S2
      simp only [List.map_cons, List.mem_cons, not_or]
      exact ⟨fun e => hDC e.symm, fun hm => by
        obtain ⟨p, hp, e⟩ := List.mem_map.mp hm
        exact S'.ne p (.tail _ hp) e⟩
  exact codeAny_compStart_list loop (W.self 0 _ _ _ hst₁ loop)
end

-- part 16
section
variable {prog : Program} {w : World} {A : Around} {s : Shared} {h0 h1 : Heap} {tk0 : Nat} {Q : Value → Shared → Prop} {g : Heap} {L : Addr} {l : Loc} {led : Led} {env : Env} {p q r r' : Addr} {wd ht : Int} {as bs : List Addr} {nss mss : List (List Int)}

def Picks (l : Loc) : Loc → Prop
  | [] => True
  | (x, v) :: r => l.lookup x = some v ∧ Picks l r
theorem Picks.get {l : Loc} : ∀ {l' : Loc}, Picks l l' → ∀ x v, l'.lookup x = some v → l.lookup x = some v
  | [], _, x, v, e => by cases e
  | (y, u) :: r, ⟨a, b⟩, x, v, e => by
    rw [List.lookup_cons] at e
    cases q : x == y with
    | true => rw [q] at e; cases e; rw [beq_iff_eq.mp q]; exact a
    | false => rw [q] at e; exact b.get x v e
theorem St.pick (l' : Loc) (S : St g L h0 l led) (h : Picks l l') : St g L h0 l' led := S.locs h.get

def absd (a b : Int) : Int := if a - b < 0 then -(a - b) else a - b
def mx (l : List Int) : Int := l.foldl (fun m v => if m < v then v else m) 0
theorem mx_snoc (l : List Int) (v : Int) : mx (l ++ [v]) = if mx l < v then v else mx l := by unfold mx; rw [List.foldl_append]; rfl

theorem great_diff_ok (hA : Room A 2) (B : Base w g) (hg : Sub g h0) (P : Pl h0 p wd ht r as nss) (P₂ : Pl h0 q wd ht r' bs mss) (hlen : nss.length = mss.length)
  (h : ∀ t h' tk, Sub h0 h' → Q (.int (mx (gapsTo absd nss mss nss.length)) t) (sh s h' tk)) :
  wpAny (model prog w) A (call (.ref 145) [.ref p, .ref q]) Q NoE (sh s h0 tk0) := by
  refine enter [] [("other", .val (.ref q)), ("one", .val (.ref p))] hA B hg (by simp) (by simp) (by simp) rfl rfl rfl (locs rfl) rfl (by decide) rfl rfl rfl ?_
  intro g' L h₁ tk B' hg' hk hs S R
  have hk' : Sub h0 g' := fun b o e => hk b o e (by simp)
  have P' := P.sub hk'
  have P₂' := P₂.sub hk'
  have la := P.rows.len
  have lb := P₂.rows.len
  refine ex_cons fun _ _ => ?_
  repeat' walk_at "m"
  refine attr_width (P'.pl.sub S.keep) B' S.keep fun _ _ => ?_
  repeat' walk_at "m"
  refine attr_width (P₂'.pl.sub S.keep) B' S.keep fun _ _ => ?_
  repeat' walk_at "m"
  walk_at "ite"
  · exact absurd trivial (by assumption)
  repeat' walk_at "m"
  refine attr_height (P'.pl.sub S.keep) B' S.keep fun _ _ => ?_
  repeat' walk_at "m"
  refine attr_height (P₂'.pl.sub S.keep) B' S.keep fun _ _ => ?_
  repeat' walk_at "m"
  walk_at "ite"
  · exact absurd trivial (by assumption)
  repeat' walk_at "m"
  refine wpAny_For ?_
  repeat' walk_at "m"
  refine attr_rows (P'.pl.sub (St.keep (by assumption))) B' (St.keep (by assumption)) fun _ => ?_
  repeat' walk_at "m"
  refine attr_rows (P₂'.pl.sub (St.keep (by assumption))) B' (St.keep (by assumption)) fun _ => ?_
  repeat' walk_at "m"
  refine k_zip (by assumption) P'.rl.list P₂'.rl.list fun z h₂ tk₂ S k₂ Z => ?_
  refine for_zip (fun i l led => l = ([("most", .int (mx (gapsTo absd nss mss i))), ("other", .val (.ref q)), ("one", .val (.ref p))] : Loc) ∧ led = ([] : Led)) (R.mono (by walk_at "om")) S B' Z ⟨rfl, rfl⟩ rfl rfl rfl ?_ ?_
  · rintro i v0 v1 gb h tk l' led' hi hv0 hv1 Bb hgb ⟨rfl, rfl⟩ S
    have hi1 : i < nss.length := by simp at hi; walk_at "ol"
    have hi2 : i < mss.length := by walk_at "ol"
    obtain ⟨a, ha, ia⟩ := P'.rows.get i hi1
    obtain ⟨b, hb, ib⟩ := P₂'.rows.get i hi2
    have e0 : v0 = .ref a := by simpa [ha] using hv0.symm
    have e1 : v1 = .ref b := by simpa [hb] using hv1.symm
    subst e0; subst e1
    obtain ⟨vs, hvl, hvi⟩ := (ia.sub hgb).list
    obtain ⟨us, hul, hui⟩ := (ib.sub hgb).list
    refine ex_cons fun _ _ => ?_
    refine wpAny_For ?_
    repeat' walk_at "m"
    refine k_zip S hvl hul fun z h₂ tk₂ S k₂ Z => ?_
    refine for_zip (fun j l led => l = ([("second", .val (.ref b)), ("first", .val (.ref a)), ("most", .int (mx (gapsTo absd nss mss i ++ (List.zipWith absd nss[i] mss[i]).take j))), ("other", .val (.ref q)), ("one", .val (.ref p))] : Loc) ∧ led = ([] : Led)) (R.mono (by walk_at "om")) S Bb Z ⟨by simp [toVs], rfl⟩ rfl rfl rfl ?_ ?_
    · rintro j v0 v1 gc h tk l' led' hj hv0 hv1 Bc hgc ⟨rfl, rfl⟩ S
      have hj1 : j < nss[i].length := by rw [← hvi.length]; simp at hj; walk_at "ol"
      have hj2 : j < mss[i].length := by rw [← hui.length]; simp at hj; walk_at "ol"
      obtain ⟨t, ht⟩ := hvi.get j nss[i][j] (by simp [hj1])
      obtain ⟨u, hu⟩ := hui.get j mss[i][j] (by simp [hj2])
      have e0 : v0 = .int nss[i][j] t := by simpa [ht] using hv0.symm
      have e1 : v1 = .int mss[i][j] u := by simpa [hu] using hv1.symm
      subst e0; subst e1
      repeat' walk_at "m"
      refine k_abs fun _ _ => ?_
      repeat' walk_at "m"
      refine k_max (R.mono (by walk_at "om")) (by assumption) fun _ h₄ tk₄ S₄ k₄ => ?_
      repeat' walk_at "m"
      rename_i S9
      refine ⟨rfl, _, _, _, _, rfl, S9.pick [("second", .val (.ref b)), ("first", .val (.ref a)), ("most", _), ("other", .val (.ref q)), ("one", .val (.ref p))] ⟨rfl, rfl, rfl, rfl, rfl, trivial⟩, ?_, rfl⟩
      have e : (List.zipWith absd nss[i] mss[i]).take (j + 1) = (List.zipWith absd nss[i] mss[i]).take j ++ [absd nss[i][j] mss[i][j]] := by
        rw [List.take_succ_eq_append_getElem (by simp; walk_at "ol")]
        simp
      rw [e, ← List.append_assoc, mx_snoc]
      rfl
    · rintro h' tk l' led' S ⟨rfl, rfl⟩
      repeat' walk_at "m"
      refine ⟨rfl, _, _, _, _, rfl, (S.forget rfl).forget rfl, ?_, rfl⟩
      have e : List.take (min vs.toArray.size us.toArray.size) (List.zipWith absd nss[i] mss[i]) = List.zipWith absd nss[i] mss[i] := by
        rw [List.take_of_length_le]; simp [hvi.length, hui.length]
      rw [e, gapsTo_succ]
      simp [List.getD, hi1, hi2]
  · rintro h' tk l' led' S ⟨rfl, rfl⟩
    repeat' walk_at "m"
    have e : min (as.map Value.ref).toArray.size (bs.map Value.ref).toArray.size = nss.length := by simp; walk_at "ol"
    rw [e]
    exact h _ _ _ fun b o e => S.keep b o (hk' b o e)
end

-- part 17
section
variable {g h0 : Heap} {L : Addr} {cs : List (Addr × Obj)} {m : Str → Option Value}
theorem st_of_fr (F : Fr g L h0 m) {led : Led} (l : Loc) (hl : ∀ x v, l.lookup x = some v → ∃ u, m x = some u ∧ v.is u) (hL : L = g.objs.size) (N : News g L h0 cs) (hled : ∀ p ∈ led, ∃ o, (p.1, o) ∈ cs ∧ p.2 o) (hnd : (led.map (·.1)).Nodup) : St g L h0 l led where
  ns := ⟨m, F.ns, hl⟩
  keep := fun b o e => F.keep b o e
  gl := fresh_size g (Nat.le_of_eq hL.symm)
  at' := fun p hp => let ⟨o, ho, q⟩ := hled p hp; ⟨o, (N _ ho).1, q⟩
  ne := fun p hp => let ⟨o, ho, q⟩ := hled p hp; (N _ ho).2.1
  fresh := fun p hp => let ⟨o, ho, q⟩ := hled p hp; (N _ ho).2.2
  nd := hnd
end
theorem nodup4 (n : Nat) : [n + 1 + 1 + 1 + 1, n + 1 + 1 + 1, n + 1 + 1, n + 1].Nodup := by simp; try walk_at "ol"
theorem room_law (env : Env) : Room (callerA.deeper env) 8 := ⟨rfl, by show 1 + claimMargin + 1 + 8 < recursionLimit; decide, by show 4 + 3 + 3 * 8 + 100 < cLine; decide⟩
section
variable {prog : Program} {w : World} {A : Around} {E : Value → Shared → Prop} {s : Shared} {h0 : Heap} {tk0 : Nat} {g : Heap} {L : Addr} {l : Loc} {led : Led} {env : Env}
def TupP (prog : Program) (w : World) (A : Around) (E : Value → Shared → Prop) (env : Env) (elts : List Expr) (k : Nat) (tpos : Pos) (Q : Flow → Shared → Prop) (vs : List Value) (s₁ : Shared) : Prop :=
  vs.length ≤ sizeLine ∧ wpAny (model prog w) A (assign (.Tuple elts k tpos) env (.ref s₁.heap.objs.size)) (fun _ => Q .next) E { s₁ with heap := s₁.heap.push { cls := .type "tuple", data := .seq vs.toArray } }
theorem tup_plain {elts vals : List Expr} {k k' : Nat} {tpos vpos pos : Pos} {Q : Flow → Shared → Prop} (hs : swapsWithSole [.Tuple elts k tpos] (.Tuple vals k' vpos) pos.line env = pure false) (hw : swappedStores [.Tuple elts k tpos] (.Tuple vals k' vpos) env = pure none)
    (h : wpAny (model prog w) A (spliced (backTo vpos (starEach vals env))) (TupP prog w A E env elts k tpos Q) E s) :
    wpAny (model prog w) A (exec (.Assign [.Tuple elts k tpos] (.Tuple vals k' vpos) pos) env) Q E s :=
  PyProof.Rows.Assign_Tuple (wpAny_Tuple h) hs hw
theorem tup_go2 {x1 x2 : Str} {p1 p2 tpos : Pos} {k : Nat} {v1 v2 : Value} {Q : Flow → Shared → Prop} (hh : A.handled = none) (S : St g L h0 l led)
    (h : ∀ h', St g L h' l led → Sub h0 h' → wpAny (model prog w) A (storeName env x1 v1) (fun _ s₁ => wpAny (model prog w) A (storeName env x2 v2) (fun _ s₂ => Q .next s₂) E s₁) E (sh s h' tk0)) :
    TupP prog w A E env [.Name x1 p1, .Name x2 p2] k tpos Q [v1, v2] (sh s h0 tk0) := by
  refine ⟨by rw [sizeLine_eq]; simp, ?_⟩
  have ht : (h0.push { cls := .type "tuple", data := .seq [v1, v2].toArray }).IsTuple h0.objs.size #[v1, v2] := ⟨_, Heap.get?_push_size _ rfl, rfl, _, rfl⟩
  refine wpAny_assign_Tuple (s := sh s (h0.push { cls := .type "tuple", data := .seq [v1, v2].toArray }) tk0) hh ht rfl rfl fun h' hx => ?_
  have up : Sub (h0.push { cls := .type "tuple", data := .seq [v1, v2].toArray }) h' := fun b o x => hx b o (Nat.ne_of_lt (Heap.lt_size x)) x
  have k := (Sub.push h0 _).trans up
  show wpAny _ A (do holding [v2] (assign (.Name x1 p1) env v1); do holding [] (assign (.Name x2 p2) env v2); pure ()) _ _ _
  exact wpAny_bind (wpAny_holding (wpAny_assign_Name (wpAny_mono (h h' (S.ch0 k) k) (fun _ _ q => wpAny_bind (wpAny_holding (wpAny_assign_Name (wpAny_mono q (fun _ _ q => wpAny_pure q) fun _ _ e => e)))) fun _ _ e => e)))
theorem tup_go3 {x1 x2 x3 : Str} {p1 p2 p3 tpos : Pos} {k : Nat} {v1 v2 v3 : Value} {Q : Flow → Shared → Prop} (hh : A.handled = none) (S : St g L h0 l led)
    (h : ∀ h', St g L h' l led → Sub h0 h' → wpAny (model prog w) A (storeName env x1 v1) (fun _ s₁ => wpAny (model prog w) A (storeName env x2 v2) (fun _ s₂ => wpAny (model prog w) A (storeName env x3 v3) (fun _ s₃ => Q .next s₃) E s₂) E s₁) E (sh s h' tk0)) :
    TupP prog w A E env [.Name x1 p1, .Name x2 p2, .Name x3 p3] k tpos Q [v1, v2, v3] (sh s h0 tk0) := by
  refine ⟨by rw [sizeLine_eq]; simp, ?_⟩
  have ht : (h0.push { cls := .type "tuple", data := .seq [v1, v2, v3].toArray }).IsTuple h0.objs.size #[v1, v2, v3] := ⟨_, Heap.get?_push_size _ rfl, rfl, _, rfl⟩
  refine wpAny_assign_Tuple (s := sh s (h0.push { cls := .type "tuple", data := .seq [v1, v2, v3].toArray }) tk0) hh ht rfl rfl fun h' hx => ?_
  have up : Sub (h0.push { cls := .type "tuple", data := .seq [v1, v2, v3].toArray }) h' := fun b o x => hx b o (Nat.ne_of_lt (Heap.lt_size x)) x
  have k := (Sub.push h0 _).trans up
  show wpAny _ A (do holding [v2, v3] (assign (.Name x1 p1) env v1); do holding [v3] (assign (.Name x2 p2) env v2); do holding [] (assign (.Name x3 p3) env v3); pure ()) _ _ _
  exact wpAny_bind (wpAny_holding (wpAny_assign_Name (wpAny_mono (h h' (S.ch0 k) k) (fun _ _ q => wpAny_bind (wpAny_holding (wpAny_assign_Name (wpAny_mono q (fun _ _ q => wpAny_bind (wpAny_holding (wpAny_assign_Name (wpAny_mono q (fun _ _ q => wpAny_pure q) fun _ _ e => e)))) fun _ _ e => e)))) fun _ _ e => e)))

def TupS (prog : Program) (w : World) (A : Around) (E : Value → Shared → Prop) (env : Env) (names : List Str) (Q : Flow → Shared → Prop) (vs : List Value) (s₁ : Shared) : Prop :=
  vs.length ≤ sizeLine ∧ wpAny (model prog w) A (unpackItems (.ref s₁.heap.objs.size) names.length none) (fun items s₂ =>
      wpAny (model prog w) A (assignInOrder (names.reverse.map fun n => bindName env n) items.reverse) (fun _ => Q .next) E s₂) E { s₁ with heap := s₁.heap.push { cls := .type "tuple", data := .seq vs.toArray } }
theorem tup_swap {elts vals : List Expr} {k k' : Nat} {tpos vpos pos : Pos} {names : List Str} {Q : Flow → Shared → Prop} (hs : swapsWithSole [.Tuple elts k tpos] (.Tuple vals k' vpos) pos.line env = pure false) (hw : swappedStores [.Tuple elts k tpos] (.Tuple vals k' vpos) env = pure (some names))
    (h : wpAny (model prog w) A (spliced (backTo vpos (starEach vals env))) (TupS prog w A E env names Q) E s) :
    wpAny (model prog w) A (exec (.Assign [.Tuple elts k tpos] (.Tuple vals k' vpos) pos) env) Q E s :=
  PyProof.Rows.Assign_Tuple_swapped (wpAny_Tuple h) hs hw
theorem swap_go2 {x1 x2 : Str} {v1 v2 : Value} {Q : Flow → Shared → Prop} (hh : A.handled = none) (S : St g L h0 l led)
    (h : ∀ h', St g L h' l led → Sub h0 h' → wpAny (model prog w) A (storeName env x2 v2) (fun _ s₁ => wpAny (model prog w) A (storeName env x1 v1) (fun _ s₂ => Q .next s₂) E s₁) E (sh s h' tk0)) :
    TupS prog w A E env [x1, x2] Q [v1, v2] (sh s h0 tk0) := by
  unfold TupS
  constructor
  · rw [sizeLine_eq]; simp
  have ht : (h0.push { cls := .type "tuple", data := .seq [v1, v2].toArray }).IsTuple h0.objs.size #[v1, v2] := ⟨_, Heap.get?_push_size _ rfl, rfl, _, rfl⟩
  have u := wpAny_unpackItems_tuple (prog := prog) (w := w) (E := E) (s := sh s (h0.push { cls := .type "tuple", data := .seq [v1, v2].toArray }) tk0) (Q := fun items s₂ => wpAny (model prog w) A (assignInOrder ([x1, x2].reverse.map fun n => bindName env n) items.reverse) (fun _ => Q .next) E s₂) hh ht fun h' hx => ?_
  · exact u
  have up : Sub (h0.push { cls := .type "tuple", data := .seq [v1, v2].toArray }) h' := fun b o x => hx b o (Nat.ne_of_lt (Heap.lt_size x)) x
  have k := (Sub.push h0 _).trans up
  show wpAny _ A (assignInOrder [bindName env x2, bindName env x1] [v2, v1]) _ _ _
  show wpAny _ A (do holding [v1] (bindName env x2 v2); do holding [] (bindName env x1 v1); pure ()) _ _ _
  exact wpAny_bind (wpAny_holding (wpAny_bindName (wpAny_mono (h h' (S.ch0 k) k) (fun _ _ q => wpAny_bind (wpAny_holding (wpAny_bindName (wpAny_mono q (fun _ _ q => wpAny_pure q) fun _ _ e => e)))) fun _ _ e => e)))
end
section
variable {g h0 h : Heap} {L : Addr} {l l0 : Loc} {led led0 : Led} {q r : Addr} {wd ht : Int} {as : List Addr} {nss : List (List Int)}
theorem St.grow (S0 : St g L h0 l0 led0) (S : St g L h l led) (hk : led.map (·.1) = led0.map (·.1)) : ∃ g', Sub g g' ∧ Sub g' h ∧ St g' L h l led ∧ Sub (newOf h0 h) g' := by
  obtain ⟨g', a, b, c, d⟩ := S.freeze
  refine ⟨g', a, b, c, fun x o e => d x o (newOf_sub _ _ e) ?_ ?_⟩
  · rintro rfl
    obtain ⟨m, n, _⟩ := S0.ns
    obtain ⟨o', e'⟩ := Ns.some n
    rw [newOf_new e] at e'; cases e'
  · rw [hk]
    intro hm
    obtain ⟨p, hp, ep⟩ := List.mem_map.mp hm
    obtain ⟨o', e', _⟩ := S0.at' p hp
    rw [ep, newOf_new e] at e'; cases e'
theorem Rows.of_mem {h : Heap} : ∀ {as : List Addr} {nss : List (List Int)}, Rows h as nss → ∀ a ∈ as, ∃ ns, IL h a ns
  | [], [], _, a, ha => by cases ha
  | _ :: _, _ :: _, ⟨x, y⟩, a, ha => by
    rcases List.mem_cons.mp ha with rfl | ha
    · exact ⟨_, x⟩
    · exact Rows.of_mem y a ha
theorem plane_in (S0 : St g L h0 l0 led0) (S : St g L h l led) (hk : led.map (·.1) = led0.map (·.1)) (P : Pl (newOf h0 h) q wd ht r as nss) (nd : as.Nodup) (hne : as ≠ []) :
    ∃ g', Sub g g' ∧ Sub g' h ∧ St g' L h l (led ++ rowsLed as nss) ∧ PlaneAt g' q wd ht r ∧ RL g' r as := by
  have hlen := P.rows.len
  have ks := rowsLed_keys hlen
  have nL : ∀ x o, (newOf h0 h).get? x = some o → x ≠ L := fun x o e => by
    rintro rfl
    obtain ⟨m, n, _⟩ := S0.ns
    obtain ⟨o', e'⟩ := Ns.some n
    rw [newOf_new e] at e'; cases e'
  have nled : ∀ x o, (newOf h0 h).get? x = some o → x ∉ led.map (·.1) := fun x o e => by
    rw [hk]
    intro hm
    obtain ⟨p, hp, ep⟩ := List.mem_map.mp hm
    obtain ⟨o', e', _⟩ := S0.at' p hp
    rw [ep, newOf_new e] at e'; cases e'
  have rowAt : ∀ a ∈ as, ∃ ns o, (newOf h0 h).get? a = some o ∧ IsInts ns o := fun a ha => let ⟨ns, o, e, q⟩ := P.rows.of_mem a ha; ⟨ns, o, e, q⟩
  have rowKey : ∀ p ∈ rowsLed as nss, p.1 ∈ as := fun p hp => ks ▸ List.mem_map_of_mem hp
  have S' : St g L h l (led ++ rowsLed as nss) := by
    refine ⟨S.ns, S.keep, S.gl, fun p hp => ?_, fun p hp => ?_, fun p hp => ?_, ?_⟩
    · rcases List.mem_append.mp hp with z | z
      · exact S.at' p z
      · obtain ⟨o, e, q⟩ := rowsLed_rows P.rows p z
        exact ⟨o, newOf_sub _ _ e, q⟩
    · rcases List.mem_append.mp hp with z | z
      · exact S.ne p z
      · obtain ⟨ns, o, e, _⟩ := rowAt _ (rowKey p z); exact nL _ _ e
    · rcases List.mem_append.mp hp with z | z
      · exact S.fresh p z
      · obtain ⟨ns, o, e, _⟩ := rowAt _ (rowKey p z); exact S0.keep.none (newOf_new e)
    · rw [List.map_append, ks]
      refine List.nodup_append.mpr ⟨S.nd, nd, fun a ha b hb e => ?_⟩
      obtain ⟨ns, o, e', _⟩ := rowAt b hb
      exact nled b o e' (e ▸ ha)
  obtain ⟨g', a, b, c, d⟩ := S'.freeze
  have put : ∀ x o, (newOf h0 h).get? x = some o → x ∉ as → g'.get? x = some o := fun x o e hx => d x o (newOf_sub _ _ e) (nL x o e) (by
    rw [List.map_append, ks]
    exact fun hm => (List.mem_append.mp hm).elim (nled x o e) hx)
  refine ⟨g', a, b, c, ?_, ?_⟩
  · obtain ⟨dx, od, t, u, e1, e2, e3⟩ := P.pl.ex
    refine ⟨dx, od, t, u, put _ _ e1 fun hm => ?_, put _ _ e2 fun hm => ?_, e3⟩
    · obtain ⟨ns, o, e, hi, _⟩ := rowAt _ hm
      rw [e1] at e; cases e; cases hi
    · obtain ⟨ns, o, e, hi, _⟩ := rowAt _ hm
      obtain ⟨es, n, rfl, _⟩ := e3
      rw [e2] at e; cases e
      have hi' : Value.type "dict" = Value.type "list" := hi
      injection hi' with hi'
      exact absurd hi' (by decide)
  · obtain ⟨o, e, n, rfl⟩ := P.rl
    refine ⟨_, put _ _ e fun hm => ?_, n, rfl⟩
    obtain ⟨ns, o, e', hi, vs, n', hd, hvi⟩ := rowAt _ hm
    rw [e] at e'; cases e'
    have : vs = as.map Value.ref := by
      have := hd
      simp only [Data.seq.injEq] at this
      simpa using (congrArg Array.toList this.1).symm
    subst this
    cases as with
    | nil => exact hne rfl
    | cons a as => cases hvi
theorem kept_tab {H W : Nat} {mo : Int} {nss : List (List Int)} (hH : nss.length = H) (hk : ∀ ns ∈ nss, Kept W mo ns) : ∃ f : Nat → Nat → Int, nss = tab H W f ∧ ∀ y x, y < H → x < W → 0 ≤ f y x ∧ f y x ≤ mo := by
  subst hH
  refine ⟨_, tab_of fun ns h => (hk ns h).1, fun y x hy hx => ?_⟩
  have h1 := hk _ (List.getElem_mem hy)
  have hx' : x < nss[y].length := by rw [h1.1]; exact hx
  simpa [List.getD, hy, hx'] using h1.2 _ (List.getElem_mem hx')
end
section
variable {g h0 h : Heap} {L : Addr} {l l0 : Loc} {led led0 : Led} {q r : Addr} {wd ht : Int} {as : List Addr} {nss : List (List Int)}
theorem freeze_off {A1 : Led} (S : St g L h l (A1 ++ led)) : ∃ g', Sub g g' ∧ Sub g' h ∧ St g' L h l led ∧ ∀ p ∈ A1, ∃ o, g'.get? p.1 = some o ∧ p.2 o := by
  have S' := S.sub_led (led' := led) (List.sublist_append_right _ _)
  obtain ⟨g', a, b, c, d⟩ := S'.freeze
  refine ⟨g', a, b, c, fun p hp => ?_⟩
  obtain ⟨o, e, z⟩ := S.at' p (List.mem_append_left _ hp)
  refine ⟨o, d _ _ e (S.ne p (List.mem_append_left _ hp)) fun hm => ?_, z⟩
  have nd := S.nd
  rw [List.map_append] at nd
  exact (List.nodup_append.mp nd).2.2 _ (List.mem_map_of_mem hp) _ hm rfl
end
abbrev LB (src L : Addr) (W mo ce : Int) (R : Led) : Led := (src, IsSrc) :: (L + 1 + 1 + 1 + 1, IsCellV (.int ce)) :: (L + 1 + 1 + 1, IsCellV (.int W)) :: (L + 1 + 1, IsCellV (.int mo)) :: (L + 1, IsCellV (.val (.ref src))) :: R
theorem flat_get (m : Nat) (r : Nat → Nat → Int) : ∀ (k i j : Nat), i < k → j < m → ((List.range k).flatMap fun i => (List.range m).map (r i))[i * m + j]? = some (r i j) := by
  intro k
  induction k with
  | zero => intro i j hi; exact absurd hi (Nat.not_lt_zero _)
  | succ k ih =>
    intro i j hi hj
    have hlen : ((List.range k).flatMap fun i => (List.range m).map (r i)).length = k * m := by
      clear ih hi
      induction k with
      | zero => simp
      | succ k ih => rw [List.range_succ, List.flatMap_append, List.length_append, ih]; simp [Nat.succ_mul]
    rw [List.range_succ, List.flatMap_append]
    by_cases c : i < k
    · have h1 : i * m + j < k * m := by
        have := Nat.mul_le_mul_right m (Nat.succ_le_of_lt c)
        rw [Nat.succ_mul] at this; walk_at "ol"
      rw [List.getElem?_append_left (by rw [hlen]; exact h1)]
      exact ih i j c hj
    · have e : i = k := by walk_at "ol"
      subst e
      rw [List.getElem?_append_right (by rw [hlen]; walk_at "ol"), hlen]
      simp [hj]
theorem blkTo_at {nss : List (List Int)} {wd ht x y n ce : Int} {i : Nat} (hn : 1 ≤ n) (hi : (i : Int) < n * n) :
    (blkTo nss wd ht x y n ce n.toNat)[i]? = some (cell nss (keptI (y * n + (i : Int) / n) ht) (keptI (x * n + (i : Int) % n) wd) - ce) := by
  have h1 := Int.mul_ediv_add_emod (i : Int) n
  have h2 := Int.emod_nonneg (i : Int) (by walk_at "ol" : n ≠ 0)
  have h3 := Int.emod_lt_of_pos (i : Int) (by walk_at "ol" : 0 < n)
  have h4 : 0 ≤ (i : Int) / n := Int.ediv_nonneg (by walk_at "ol") (by walk_at "ol")
  have h5 : (i : Int) / n < n := Int.ediv_lt_of_lt_mul (by walk_at "ol") hi
  generalize (i : Int) / n = a at *
  generalize (i : Int) % n = b at *
  obtain ⟨a', rfl⟩ := Int.eq_ofNat_of_zero_le h4
  obtain ⟨b', rfl⟩ := Int.eq_ofNat_of_zero_le h2
  obtain ⟨n', rfl⟩ := Int.eq_ofNat_of_zero_le (by walk_at "ol" : 0 ≤ n)
  have e : i = a' * n' + b' := by
    have : (i : Int) = (a' * n' + b' : Nat) := by rw [← h1, Int.mul_comm]; simp
    walk_at "ol"
  rw [e]
  have := flat_get n' (fun i j => cell nss (keptI (y * (n' : Int) + (i : Nat)) ht) (keptI (x * (n' : Int) + (j : Nat)) wd) - ce) n' a' b' (by walk_at "ol") (by walk_at "ol")
  simpa [blkTo, blkRow] using this
theorem kept_min {p n : Int} (h0 : 0 ≤ p) (hn : 1 ≤ n) : keptI p n = if n - 1 < p then n - 1 else p := by unfold keptI; (repeat' split) <;> walk_at "ol"
theorem rows_tab {h : Heap} {as : List Addr} {H W : Nat} {f : Nat → Nat → Int} (R : Rows h as (tab H W f)) {i : Nat} (hi : i < H) : ∃ a, as[i]? = some a ∧ IL h a (row W (f i)) := by
  obtain ⟨a, ha, ia⟩ := R.get i (by rw [tab_len]; exact hi)
  have e : (tab H W f)[i]'(by rw [tab_len]; exact hi) = row W (f i) := by simp [tab]
  rw [e] at ia
  exact ⟨a, ha, ia⟩
section
variable {prog : Program} {w : World} {A : Around} {E : Value → Shared → Prop} {s : Shared} {h0 : Heap} {tk0 : Nat} {Q : Value → Shared → Prop} {r r' : Addr} {as bs : List Addr} {nss : List (List Int)} {k : Nat}
theorem ne_ints_same {a b : Addr} {ns : List Int} (hA : Room A k) (x : IL h0 a ns) (y : IL h0 b ns) (h : Q (.bool false) (sh s h0 tk0)) :
    wpAny (model prog w) A (compareOp .NotEq (.ref a) (.ref b)) Q E (sh s h0 tk0) := ne_ints hA x y (by simpa using h)
theorem ne_rows_same (hA : Room A k) (R : RL h0 r as) (x : Rows h0 as nss) (R' : RL h0 r' bs) (x' : Rows h0 bs nss) (h : Q (.bool false) (sh s h0 tk0)) :
    wpAny (model prog w) A (compareOp .NotEq (.ref r) (.ref r')) Q E (sh s h0 tk0) := ne_rows hA R x R' x' (by simpa using h)
end
theorem flat_len {w : Nat} : ∀ {nss : List (List Int)}, (∀ ns ∈ nss, ns.length ≤ w) → nss.flatten.length ≤ nss.length * w
  | [], _ => by simp
  | a :: r, h => by
    have h1 := h a (.head _)
    have h2 := flat_len (nss := r) fun ns hn => h ns (.tail _ hn)
    rw [List.flatten_cons, List.length_append, List.length_cons, Nat.succ_mul]; walk_at "ol"
theorem tab_flat_len {H W : Nat} {f : Nat → Nat → Int} (hH : H ≤ 100) (hW : W ≤ 100) (i : Nat) : ((tab H W f).take i).flatten.length ≤ 100000 := by
  have h1 := flat_len (nss := (tab H W f).take i) (w := W) fun ns h => Nat.le_of_eq (tab_mem (List.mem_of_mem_take h))
  have h2 : ((tab H W f).take i).length ≤ 100 := by rw [List.length_take, tab_len]; walk_at "ol"
  have h3 := Nat.mul_le_mul h2 hW
  walk_at "ol"
theorem cut_flat {nss : List (List Int)} {wd ht x y n ce : Int} (hn : 0 ≤ n) : (tab n.toNat n.toNat fun i j => cell nss (keptI (y * n + (i : Nat)) ht) (keptI (x * n + (j : Nat)) wd)).flatten = (blkTo nss wd ht x y n ce n.toNat).map (· + ce) := by
  unfold blkTo tab
  rw [List.map_flatMap, List.flatMap_def]
  congr 1
  refine List.map_congr_left fun i _ => ?_
  unfold blkRow row
  rw [List.map_map]
  refine List.map_congr_left fun j _ => ?_
  simp only [Function.comp]
  walk_at "ol"
section
variable {prog : Program} {w : World} {A : Around} {s : Shared} {h0 : Heap} {tk0 : Nat} {Q : Value → Shared → Prop} {g : Heap} {L : Addr} {l : Loc} {led : Led} {p r : Addr} {wd ht : Int} {as : List Addr} {nss : List (List Int)}
theorem cut_at {x y n : Int} {t1 t2 t3 t4 : Tok} (hA : Room A 4) (S : St g L h0 l led) (B : Base w g) (P : Pl h0 p wd ht r as nss) (D : Dim nss wd ht)
  (hx : 0 ≤ x) (hx' : x ≤ 10000) (hy : 0 ≤ y) (hy' : y ≤ 10000) (hn : 1 ≤ n) (hn' : n ≤ 100)
  (h : ∀ q r' as' g' h' tk, Sub g g' → Sub g' h' → Sub h0 h' → St g' L h' l led → Pl g' q n n r' as' (tab n.toNat n.toNat fun i j => cell nss (keptI (y + i) ht) (keptI (x + j) wd)) → Q (.ref q) (sh s h' tk)) :
  wpAny (model prog w) A (call (.ref 126) [.ref p, .int x t1, .int y t2, .int n t3, .int n t4]) Q NoE (sh s h0 tk0) := by
  obtain ⟨N, rfl⟩ := Int.eq_ofNat_of_zero_le (by walk_at "ol" : 0 ≤ n)
  refine cut_ok hA B S.keep P D hx hx' hy hy' (by walk_at "ol") (by walk_at "ol") (by walk_at "ol") (by walk_at "ol") fun q r' as' h' tk k P' => ?_
  obtain ⟨g', a, b, c, d⟩ := St.grow S (S.ch0 k) rfl
  exact h q r' as' g' h' tk a b k c (P'.sub d)
theorem copied_at (hA : Room A 4) (S : St g L h0 l led) (B : Base w g) (P : Pl h0 p wd ht r as nss) (D : Dim nss wd ht)
  (h : ∀ q r' as' g' h' tk, Sub g g' → Sub g' h' → Sub h0 h' → St g' L h' l led → Pl g' q wd ht r' as' nss → Q (.ref q) (sh s h' tk)) :
  wpAny (model prog w) A (call (.ref 131) [.ref p]) Q NoE (sh s h0 tk0) :=
  copied_ok hA B S.keep P D fun q r' as' h' tk k P' => by
    obtain ⟨g', a, b, c, d⟩ := St.grow S (S.ch0 k) rfl
    exact h q r' as' g' h' tk a b k c (P'.sub d)
end
def bareF (n : Int) (f : Nat → Nat → Int) (i j : Int) (y x : Nat) : Int := if (y : Int) / n < i ∨ ((y : Int) / n = i ∧ (x : Int) / n < j) then f y x else 0
theorem blk_getD {nss : List (List Int)} {wd ht x y n ce a b : Int} (hn : 1 ≤ n) (ha : 0 ≤ a) (ha' : a < n) (hb : 0 ≤ b) (hb' : b < n) :
    (blkTo nss wd ht x y n ce n.toNat).getD (a * n + b).toNat 0 = cell nss (keptI (y * n + a) ht) (keptI (x * n + b) wd) - ce := by
  have h1 := mul_bd (x := a) (n := n) (a := n - 1) (b := n) (by walk_at "ol") (by walk_at "ol") (by walk_at "ol") (by walk_at "ol")
  rw [Int.sub_mul, Int.one_mul] at h1
  have e : ((a * n + b).toNat : Int) = a * n + b := by walk_at "ol"
  have hd : (a * n + b) / n = a := (div_iff hn).mpr ⟨by walk_at "ol", by walk_at "ol"⟩
  have hm : (a * n + b) % n = b := by rw [mod_of hd]; walk_at "ol"
  rw [List.getD, blkTo_at hn (by walk_at "ol"), e, hd, hm]
  rfl
theorem bare_none {H W : Nat} {f : Nat → Nat → Int} {n : Int} (hn : 1 ≤ n) : (tab H W fun _ _ => 0) = tab H W (bareF n f 0 0) := by
  refine tab_congr fun y x _ _ => ?_
  unfold bareF
  have h1 : 0 ≤ (y : Int) / n := Int.ediv_nonneg (by walk_at "ol") (by walk_at "ol")
  have h2 : 0 ≤ (x : Int) / n := Int.ediv_nonneg (by walk_at "ol") (by walk_at "ol")
  rw [if_neg (by walk_at "ol")]
theorem ceil_lt {W : Nat} {n : Int} (hn : 1 ≤ n) {x : Nat} (hx : x < W) : (x : Int) / n < ((W : Int) + n - 1) / n := by
  have h1 := (div_iff (u := (W : Int) + n - 1) (y := ((W : Int) + n - 1) / n) hn).mp rfl
  exact (Int.ediv_lt_iff_lt_mul (by walk_at "ol")).mpr (by walk_at "ol")
theorem bare_row {H W : Nat} {f : Nat → Nat → Int} {n i : Int} (hn : 1 ≤ n) : tab H W (bareF n f i (((W : Int) + n - 1) / n)) = tab H W (bareF n f (i + 1) 0) := by
  refine tab_congr fun y x _ hx => ?_
  unfold bareF
  have h1 := ceil_lt hn hx
  have h2 : 0 ≤ (x : Int) / n := Int.ediv_nonneg (by walk_at "ol") (by walk_at "ol")
  congr 1
  apply propext
  walk_at "ol"
theorem bare_all {H W : Nat} {f : Nat → Nat → Int} {n : Int} (hn : 1 ≤ n) : tab H W (bareF n f (((H : Int) + n - 1) / n) 0) = tab H W f := by
  refine tab_congr fun y x hy _ => ?_
  unfold bareF
  rw [if_pos (.inl (ceil_lt hn hy))]
theorem bare_step {H W : Nat} {f : Nat → Nat → Int} {n ce mo i j : Int} (hn : 1 ≤ n) (hf : ∀ y x, y < H → x < W → 0 ≤ f y x ∧ f y x ≤ mo) :
    tab H W (putF (bareF n f i j) j i n ce mo (blkTo (tab H W f) W H j i n ce n.toNat)) = tab H W (bareF n f i (j + 1)) := by
  refine tab_congr fun y x hy hx => ?_
  unfold putF
  by_cases c : (y : Int) / n = i ∧ (x : Int) / n = j
  · rw [if_pos c]
    have b1 := Int.emod_nonneg (y : Int) (by walk_at "ol" : n ≠ 0)
    have b2 := Int.emod_lt_of_pos (y : Int) (by walk_at "ol" : 0 < n)
    have b3 := Int.emod_nonneg (x : Int) (by walk_at "ol" : n ≠ 0)
    have b4 := Int.emod_lt_of_pos (x : Int) (by walk_at "ol" : 0 < n)
    rw [blk_getD hn b1 b2 b3 b4, mod_of c.1, mod_of c.2]
    have e1 : keptI (i * n + ((y : Int) - i * n)) H = y := by unfold keptI; (repeat' split) <;> walk_at "ol"
    have e2 : keptI (j * n + ((x : Int) - j * n)) W = x := by unfold keptI; (repeat' split) <;> walk_at "ol"
    rw [e1, e2, tab_cell (by walk_at "ol") (by walk_at "ol")]
    have := hf y x hy hx

    have e4 : f y x - ce + ce = f y x := by walk_at "ol"
    have e5 : clampI (f y x) mo = f y x := by unfold clampI; (repeat' split) <;> walk_at "ol"
    rw [Int.toNat_natCast, Int.toNat_natCast, e4, e5]
    unfold bareF
    rw [if_pos (.inr ⟨c.1, by walk_at "ol"⟩)]
  · rw [if_neg c]
    unfold bareF
    congr 1
    apply propext
    walk_at "ol"
theorem zeros_row {W : Nat} : List.replicate W (0 : Int) = row W fun _ => 0 := by
  refine List.ext_getElem (by simp [row]) fun i h1 h2 => ?_
  simp [row]
section
variable {prog : Program} {w : World} {A : Around} {s : Shared} {h0 : Heap} {tk0 : Nat} {Q : Value → Shared → Prop} {g : Heap} {L : Addr} {l : Loc} {led : Led} {p q r r' : Addr} {wd ht : Int} {as bs : List Addr} {nss mss : List (List Int)}
theorem same_at (hA : Room A 2) (S : St g L h0 l led) (B : Base w g) (P : Pl h0 p wd ht r as nss) (P₂ : Pl h0 q wd ht r' bs mss)
  (h : ∀ h' tk, St g L h' l led → Sub h0 h' → Q (.bool (decide (nss = mss))) (sh s h' tk)) :
  wpAny (model prog w) A (call (.ref 138) [.ref p, .ref q]) Q NoE (sh s h0 tk0) := same_ok hA B S.keep P P₂ fun h' tk k => h h' tk (S.ch0 k) k
theorem due_at {ro b : Addr} {x y n ce mo : Int} {ns : List Int} {H W : Nat} {f : Nat → Nat → Int} {t1 t2 t3 t4 t5 : Tok} (hA : Room A 2) (S : St g L h0 l led) (B : Base w g) (hr : RL h0 ro as) (hrs : Rows h0 as (tab H W f)) (hb : IL h0 b ns)
  (hH : H ≤ 1000) (hW : W ≤ 1000) (hn : 1 ≤ n) (hn' : n ≤ 100) (hl : (ns.length : Int) = n * n) (hm : 0 ≤ mo)
  (h : ∀ D as' g' h' tk, Sub g g' → Sub g' h' → Sub h0 h' → St g' L h' l led → RL g' D as' → Rows g' as' (tab H W (putF f x y n ce mo ns)) → Q (.ref D) (sh s h' tk)) :
  wpAny (model prog w) A (call (.ref 192) [.ref ro, .int x t1, .int y t2, .ref b, .int n t3, .int ce t4, .int mo t5]) Q NoE (sh s h0 tk0) :=
  due_ok hA B S.keep hr hrs hb hH hW hn hn' hl hm fun D as' h' tk k a b => by
    obtain ⟨g', k1, k2, k3, d⟩ := St.grow S (S.ch0 k) rfl
    exact h D as' g' h' tk k1 k2 k k3 (a.sub d) (b.sub d)
theorem check_at {n : Int} {t : Tok} (hA : Room A 3) (S : St g L h0 l led) (B : Base w g) (P : Pl h0 p wd ht r as nss) (D : Dim nss wd ht) (hn : 0 ≤ n) (hn' : n ≤ 1000) (hv : ∀ ns ∈ nss, ∀ v ∈ ns, 0 ≤ v ∧ v ≤ 2 ^ n.toNat - 1)
  (h : ∀ h' tk, St g L h' l led → Sub h0 h' → Q .none (sh s h' tk)) :
  wpAny (model prog w) A (call (.ref 152) [.ref p, .int n t]) Q NoE (sh s h0 tk0) := check_ok hA B S.keep P D hn hn' hv fun h' tk k => h h' tk (S.ch0 k) k
theorem great_diff_at (hA : Room A 2) (S : St g L h0 l led) (B : Base w g) (P : Pl h0 p wd ht r as nss) (P₂ : Pl h0 q wd ht r' bs mss) (hlen : nss.length = mss.length)
  (h : ∀ t h' tk, St g L h' l led → Sub h0 h' → Q (.int (mx (gapsTo absd nss mss nss.length)) t) (sh s h' tk)) :
  wpAny (model prog w) A (call (.ref 145) [.ref p, .ref q]) Q NoE (sh s h0 tk0) := great_diff_ok hA B S.keep P P₂ hlen fun t h' tk k => h t h' tk (S.ch0 k) k
end
theorem putF_kept {f : Nat → Nat → Int} {x y n ce mo : Int} {bs : List Int} {i j : Nat} (hm : 0 ≤ mo) (hf : 0 ≤ f i j ∧ f i j ≤ mo) : 0 ≤ putF f x y n ce mo bs i j ∧ putF f x y n ce mo bs i j ≤ mo := by
  unfold putF
  split
  · unfold clampI; (repeat' split) <;> walk_at "ol"
  · exact hf
theorem tab_all {H W : Nat} {f : Nat → Nat → Int} {P : Int → Prop} (h : ∀ y x, y < H → x < W → P (f y x)) : ∀ ns ∈ tab H W f, ∀ v ∈ ns, P v := by
  intro ns hn v hv
  obtain ⟨y, hy, rfl⟩ := List.mem_map.mp hn
  obtain ⟨x, hx, rfl⟩ := List.mem_map.mp hv
  exact h y x (List.mem_range.mp hy) (List.mem_range.mp hx)
theorem gaps_tab {H W : Nat} {f k : Nat → Nat → Int} (F : Int → Int → Int) : ∀ i, i ≤ H → gapsTo F (tab H W f) (tab H W k) i = (List.range i).flatMap fun y => row W fun x => F (f y x) (k y x) := by
  intro i hi
  unfold gapsTo
  rw [List.flatMap_def, List.flatMap_def]
  congr 1
  refine List.map_congr_left fun y hy => ?_
  have hy' : y < H := Nat.lt_of_lt_of_le (List.mem_range.mp hy) hi
  rw [List.getD, List.getD, tab_get hy', tab_get hy']
  simp only [Option.getD_some, row]
  rw [List.zipWith_map, List.zipWith_self]
theorem gaps_mem {H W : Nat} {f k : Nat → Nat → Int} {v : Int} : v ∈ gapsTo absd (tab H W f) (tab H W k) H ↔ ∃ y x, y < H ∧ x < W ∧ v = absd (f y x) (k y x) := by
  rw [gaps_tab absd H (Nat.le_refl _)]
  simp only [List.mem_flatMap, List.mem_range, row, List.mem_map]
  constructor
  · rintro ⟨y, hy, x, hx, rfl⟩; exact ⟨y, x, hy, hx, rfl⟩
  · rintro ⟨y, x, hy, hx, rfl⟩; exact ⟨y, hy, x, hx, rfl⟩
theorem absd_nn (a b : Int) : 0 ≤ absd a b := by unfold absd; split <;> walk_at "ol"
theorem absd_zero {a b : Int} : absd a b = 0 ↔ a = b := by unfold absd; split <;> walk_at "ol"
theorem mx_ge : ∀ (l : List Int) (m : Int), m ≤ l.foldl (fun m v => if m < v then v else m) m ∧ ∀ a ∈ l, a ≤ l.foldl (fun m v => if m < v then v else m) m
  | [], m => ⟨Int.le_refl _, fun a h => by cases h⟩
  | b :: r, m => by
    have := mx_ge r (if m < b then b else m)
    simp only [List.foldl_cons]
    refine ⟨?_, fun a ha => ?_⟩
    · have h1 := this.1
      split at h1 <;> walk_at "ol"
    · rcases List.mem_cons.mp ha with rfl | ha
      · have h1 := this.1
        split at h1 <;> walk_at "ol"
      · exact this.2 a ha
theorem mx_le : ∀ (l : List Int) (m M : Int), m ≤ M → (∀ a ∈ l, a ≤ M) → l.foldl (fun m v => if m < v then v else m) m ≤ M
  | [], m, M, h, _ => h
  | b :: r, m, M, h, h2 => by
    simp only [List.foldl_cons]
    refine mx_le r _ M ?_ fun a ha => h2 a (.tail _ ha)
    have := h2 b (.head _)
    split <;> walk_at "ol"
theorem mx_eq {l : List Int} {M : Int} (h1 : M ∈ l) (h2 : ∀ a ∈ l, a ≤ M) (h0 : ∀ a ∈ l, 0 ≤ a) : mx l = M :=
  Int.le_antisymm (mx_le l 0 M (h0 _ h1) h2) ((mx_ge l 0).2 M h1)
theorem gaps_zero {H W : Nat} {f k : Nat → Nat → Int} {M : Int} (h1 : M ∈ gapsTo absd (tab H W f) (tab H W k) H) (h2 : ∀ a ∈ gapsTo absd (tab H W f) (tab H W k) H, a ≤ M) : tab H W f = tab H W k ↔ M = 0 := by
  obtain ⟨y0, x0, hy0, hx0, rfl⟩ := gaps_mem.mp h1
  have nn := absd_nn (f y0 x0) (k y0 x0)
  constructor
  · intro e
    have c := congrArg (fun t => cell t y0 x0) e
    rw [tab_cell (by simpa using hy0) (by simpa using hx0), tab_cell (by simpa using hy0) (by simpa using hx0)] at c
    exact absd_zero.mpr (by simpa using c)
  · intro e
    refine tab_congr fun y x hy hx => ?_
    have := h2 _ (gaps_mem.mpr ⟨y, x, hy, hx, rfl⟩)
    have n2 := absd_nn (f y x) (k y x)
    exact absd_zero.mp (by walk_at "ol")
theorem gaps_len {H W : Nat} {f k : Nat → Nat → Int} {F : Int → Int → Int} (hH : H ≤ 100) (hW : W ≤ 100) {i : Nat} (hi : i ≤ (tab H W f).length) : (gapsTo F (tab H W f) (tab H W k) i).length ≤ 50000 := by
  rw [tab_len] at hi
  rw [gaps_tab F i hi, List.flatMap_def]
  have h := flat_len (nss := (List.range i).map fun y => row W fun x => F (f y x) (k y x)) (w := W) fun ns hn => by
    obtain ⟨y, _, rfl⟩ := List.mem_map.mp hn
    rw [row_len]; exact Nat.le_refl _
  have h2 : ((List.range i).map fun y => row W fun x => F (f y x) (k y x)).length ≤ 100 := by rw [List.length_map, List.length_range]; walk_at "ol"
  have h3 := Nat.mul_le_mul h2 hW
  walk_at "ol"
theorem law_close {gb gx h : Heap} {L Lx : Addr} {l l' : Loc} {src : Addr} {W mo ce : Int} {A1 R1 : Led} (S : St gx Lx h l (A1 ++ (LB src L W mo ce [] ++ R1))) (k : Sub gb gx) (hp : Picks l l') :
    St gb Lx h l' [(L + 1 + 1 + 1 + 1, IsCellA), (L + 1 + 1 + 1, IsCellA), (L + 1 + 1, IsCellA), (L + 1, IsCellA)] := by
  have S1 := S.sub_led (led' := [(L + 1 + 1 + 1 + 1, IsCellV (.int ce)), (L + 1 + 1 + 1, IsCellV (.int W)), (L + 1 + 1, IsCellV (.int mo)), (L + 1, IsCellV (.val (.ref src)))])
    ((List.Sublist.trans (List.sublist_append_left _ R1) (List.Sublist.refl _) |> fun x => (List.Sublist.trans (List.sublist_cons_self _ _) x)).trans (List.sublist_append_right A1 _))
  have S2 := S1.chG (ds := []) (led' := [(L + 1 + 1 + 1 + 1, IsCellA), (L + 1 + 1 + 1, IsCellA), (L + 1 + 1, IsCellA), (L + 1, IsCellA)]) (fun _ _ e _ => e) (by simp) rfl fun p hp => by
    simp only [List.mem_cons, List.not_mem_nil, or_false] at hp
    rcases hp with rfl | rfl | rfl | rfl
    · obtain ⟨o, e, q⟩ := S1.get (.head _); exact ⟨o, e, q.any⟩
    · obtain ⟨o, e, q⟩ := S1.get (.tail _ (.head _)); exact ⟨o, e, q.any⟩
    · obtain ⟨o, e, q⟩ := S1.get (.tail _ (.tail _ (.head _))); exact ⟨o, e, q.any⟩
    · obtain ⟨o, e, q⟩ := S1.get (.tail _ (.tail _ (.tail _ (.head _)))); exact ⟨o, e, q.any⟩
  exact (S2.weak k).pick l' hp
abbrev LA (L : Addr) : Led := [(L + 1 + 1 + 1 + 1, IsCellA), (L + 1 + 1 + 1, IsCellA), (L + 1 + 1, IsCellA), (L + 1, IsCellA)]
theorem nat_of {r : Int} (h : 0 ≤ r) : ∃ W : Nat, (W : Int) = 1 + r := ⟨(1 + r).toNat, by walk_at "ol"⟩
/-- the sizes of a case -/
structure Dm (W H : Nat) (n : Int) : Prop where
  W1 : 1 ≤ W
  W5 : W ≤ 5
  H1 : 1 ≤ H
  H4 : H ≤ 4
  w0 : (0 : Int) ≤ W
  w1 : (1 : Int) ≤ W
  w5 : (W : Int) ≤ 5
  h0 : (0 : Int) ≤ H
  h1 : (1 : Int) ≤ H
  h4 : (H : Int) ≤ 4
  n1 : 1 ≤ n
  n4 : n ≤ 4
  t1 : 1 ≤ n.toNat
  t4 : n.toNat ≤ 4
  nn0 : 0 ≤ n * n
  nn1 : n * n ≤ 16
  tt : n.toNat * n.toNat = (n * n).toNat
  ttc : ((n.toNat * n.toNat : Nat) : Int) = n * n
  bw0 : 0 ≤ ((W : Int) + n - 1) / n
  bw1 : ((W : Int) + n - 1) / n ≤ 8
  bw2 : 1 ≤ ((W : Int) + n - 1) / n + 1
  bw3 : ((W : Int) + n - 1) / n + 1 ≤ 9
  bh0 : 0 ≤ ((H : Int) + n - 1) / n
  bh1 : ((H : Int) + n - 1) / n ≤ 8
  bh2 : 1 ≤ ((H : Int) + n - 1) / n + 1
  bh3 : ((H : Int) + n - 1) / n + 1 ≤ 9
theorem dm_up {W : Nat} {n : Int} (h : (W : Int) ≤ 5) (n1 : 1 ≤ n) (n4 : n ≤ 4) : 0 ≤ ((W : Int) + n - 1) / n ∧ ((W : Int) + n - 1) / n ≤ 8 :=
  ⟨Int.ediv_nonneg (by walk_at "ol") (by walk_at "ol"), Int.le_trans (Int.ediv_le_self _ (by walk_at "ol")) (by walk_at "ol")⟩
theorem dm_of {W H : Nat} {n r1 r2 r3 : Int} (hW : (W : Int) = 1 + r1) (hH : (H : Int) = 1 + r2) (hn : n = 1 + r3) (a0 : 0 ≤ r1) (a1 : r1 < 5) (b0 : 0 ≤ r2) (b1 : r2 < 4) (c0 : 0 ≤ r3) (c1 : r3 < 4) : Dm W H n := by
  have n1 : 1 ≤ n := by walk_at "ol"
  have n4 : n ≤ 4 := by walk_at "ol"
  have w5 : (W : Int) ≤ 5 := by walk_at "ol"
  have h4 : (H : Int) ≤ 4 := by walk_at "ol"
  have w1 : (1 : Int) ≤ W := by walk_at "ol"
  have h1 : (1 : Int) ≤ H := by walk_at "ol"
  clear hW hH hn a0 a1 b0 b1 c0 c1
  have m := mul_bd (x := n) (n := n) (a := 4) (b := 4) (by walk_at "ol") n4 (by walk_at "ol") n4
  have n0 : 0 ≤ n := by walk_at "ol"
  have t' : ((n.toNat * n.toNat : Nat) : Int) = n * n := by rw [Int.natCast_mul, Int.toNat_of_nonneg n0]
  have t : n.toNat * n.toNat = (n * n).toNat := by rw [← t']; rfl
  have p := dm_up w5 n1 n4
  have q := dm_up (W := H) (by walk_at "ol") n1 n4
  exact ⟨Int.ofNat_le.mp w1, Int.ofNat_le.mp w5, Int.ofNat_le.mp h1, Int.ofNat_le.mp h4, Int.natCast_nonneg _, w1, w5, Int.natCast_nonneg _, h1, h4, n1, n4, by walk_at "ol", by walk_at "ol", m.1, m.2, t, t', p.1, p.2, Int.add_le_add_right p.1 1, Int.add_le_add_right p.2 1, q.1, q.2, Int.add_le_add_right q.1 1, Int.add_le_add_right q.2 1⟩
theorem gen_k {α : Sort _} (a : α) {P : Prop} (k : ∀ b, a = b → P) : P := k a rfl
theorem kept_lt {k : Int} {H : Nat} (h0 : 0 ≤ k) (h : k < H) : k.toNat < H := by walk_at "ol"
section
variable {g h0 h : Heap} {L : Addr} {l l0 : Loc} {led led0 : Led} {q r : Addr} {wd ht : Int} {as : List Addr} {nss : List (List Int)}
theorem freeze_k {A1 : Led} (S : St g L h l (A1 ++ led)) {P : Prop} (k : ∀ g', Sub g g' → St g' L h l led → (∀ p ∈ A1, ∃ o, g'.get? p.1 = some o ∧ p.2 o) → P) : P :=
  let ⟨g', a, _, c, d⟩ := freeze_off S; k g' a c d
theorem grow_k (S0 : St g L h0 l0 led0) (S : St g L h l led) (hk : led.map (·.1) = led0.map (·.1)) {P : Prop} (k : ∀ g', Sub g g' → St g' L h l led → Sub (newOf h0 h) g' → P) : P :=
  let ⟨g', a, _, c, d⟩ := St.grow S0 S hk; k g' a c d
theorem plane_k (S0 : St g L h0 l0 led0) (S : St g L h l led) (hk : led.map (·.1) = led0.map (·.1)) (P : Pl (newOf h0 h) q wd ht r as nss) (nd : as.Nodup) (hne : as ≠ []) {Z : Prop}
    (k : ∀ g', Sub g g' → St g' L h l (led ++ rowsLed as nss) → PlaneAt g' q wd ht r → RL g' r as → Z) : Z :=
  let ⟨g', a, _, c, d, e⟩ := plane_in S0 S hk P nd hne; k g' a c d e
theorem kept_k {H W : Nat} {mo : Int} {nss : List (List Int)} (hH : nss.length = H) (hk : ∀ ns ∈ nss, Kept W mo ns) {P : List (List Int) → Prop} (k : ∀ f : Nat → Nat → Int, (∀ y x, y < H → x < W → 0 ≤ f y x ∧ f y x ≤ mo) → P (tab H W f)) : P nss := by
  obtain ⟨f, rfl, hf⟩ := kept_tab hH hk
  exact k f hf
end

-- part 18
-- the quick twins of the heap and of the program are these themselves (the names are the library's stem behind the claim's own)
noncomputable def claim.tw357486453476387696 : Params → Frag := hd.heap_1
theorem claim.te357486453476387696 : hd.heap_1 = claim.tw357486453476387696 := rfl
noncomputable def claim.tw3206649608306703309 : Program := PySem.Challenge.pw_ok0129_01
theorem claim.te3206649608306703309 : PySem.Challenge.pw_ok0129_01 = claim.tw3206649608306703309 := rfl
set_option maxHeartbeats 8000000
set_option Elab.async true in
theorem claim : PySem.Challenge.rw_ok0129_01.Holds := by
  w_on
  o_law
  o_head (kHook hd.heap_1 [2, 3, 15, 17, 18, 20, 21, 22, 25, 26, 27, 29, 30, 32, 33, 34, 36, 37, 39, 40, 41, 48, 50, 51, 53, 54, 55, 56, 57, 58, 61, 68, 69, 70, 80, 82, 83, 85, 86, 87, 89, 90, 92, 93, 94, 96, 97, 99, 100, 101, 102, 103, 104, 105, 108, 110, 111, 113, 114, 115, 117, 118, 120, 121, 122, 125, 126, 127, 130, 131, 132, 134, 135, 137, 138, 139, 141, 142, 144, 145, 146, 148, 149, 151, 152, 153, 155, 156, 158, 159, 160, 162, 163, 165, 166, 167, 169, 170, 172, 173, 174, 177, 178, 179, 181, 182, 184, 185, 186, 188, 189, 191, 192, 193, 196, 197] (fun _ => by kernel_rfl))
  case hw => w_witness2
  k_go0
  rename_i w s₀ s₁ mg mb G Y fa o pm doc ho hg KX X V GL T B TE TW w1 w2 M w3 w4 hcd ns hs hlay0 hL hr hl2 w5 w6 scr vs w7 hL2 ra wl r0 hI hr2 hcond hcond2 K0 hD h₁ tk₁ F o1 o2 o3 o4 c1 c2 c3 c4 N0 X0
  have Bs : Base w s₁.heap := ⟨KX, ⟨mg, T.g⟩, ⟨mb, T.b, T.builtins⟩, T.nolimit⟩
  generalize hLL : s₁.heap.objs.size = L at F N0 ⊢
  have S : St s₁.heap L h₁ [("script", .val (.ref scr))] (LA L) := by
    refine st_of_fr F _ (fun x v e => ?_) hLL.symm N0 (fun p hp => ?_) ?_
    · rw [List.lookup_cons] at e
      cases q : x == ("script" : Str) with
      | true => rw [q] at e; cases e; rw [beq_iff_eq.mp q]; exact ⟨_, rfl, rfl⟩
      | false => rw [q] at e; cases e
    · simp only [List.mem_cons, List.not_mem_nil, or_false] at hp
      rcases hp with rfl | rfl | rfl | rfl
      · exact ⟨o1, .head _, _, c1⟩
      · exact ⟨o2, .tail _ (.head _), _, c2⟩
      · exact ⟨o3, .tail _ (.tail _ (.head _)), _, c3⟩
      · exact ⟨o4, .tail _ (.tail _ (.tail _ (.head _))), _, c4⟩
    · exact nodup4 L
  have I : IL s₁.heap scr ns := IL.of_list hL2 hI
  have hlen : ns.length ≤ 63 := by walk_at "om"
  clear F N0 X0 c1 c2 c3 c4 hcd hD K0 G Y T B TE TW GL V X M wl r0 ra KX hs hL hr hr2 hL2 hI
  refine wpAny_mono (Q := fun fl s' => fl = .ret (.bool true) ∧ ∃ h' tk, s' = sh s₁ h' tk ∧ Sub s₁.heap h') (E := NoE) ?walk ?post ?err
  case err => exact fun _ _ q => q.elim
  case post =>
    rintro fl s' ⟨rfl, h', tk, rfl, k⟩
    refine' ⟨.inl ⟨_, .bool true, [], rfl, fun _ => rfl, .bool true, ?pt, fun _ => ⟨.nil, by simp⟩⟩, k, rfl, hg⟩
    case pt => (refine' postW_of ?ss ?vv ?ee; (case ss => o_shape); (case vv => wtm_val); (case ee => w_fin))
  case walk =>
    change wpAny _ _ _ _ _ (sh s₁ h₁ tk₁)
    have R := room_law
    refine ex_cons fun _ _ => ?_
    refine wpAny_For ?_
    repeat' walk_at "m"
    refine k_len_ints (I.sub S.keep) (by walk_at "om") fun _ _ => ?_
    repeat' walk_at "m"
    refine k_min ((R _).mono (by walk_at "om")) S fun _ _ _ S k => ?_
    repeat' walk_at "m"
    refine k_max ((R _).mono (by walk_at "om")) S fun _ _ _ S k => ?_
    repeat' walk_at "m"
    refine k_range1 S fun rr h₃ tk₃ S k₃ => ?_
    generalize hn : (if 1 < (if (2 : Int) < ns.length then (2 : Int) else ns.length) then (if (2 : Int) < ns.length then (2 : Int) else ns.length) else (1 : Int)) = nk at S ⊢
    obtain ⟨nk1, nk2⟩ : 1 ≤ nk ∧ nk ≤ 2 := by walk_at "om"
    clear hn
    refine for_range0 (fun _ => [("script", .val (.ref scr))]) (fun _ => LA L) ((R _).mono (by walk_at "om")) S Bs (by walk_at "om") (by walk_at "om") rfl rfl rfl rfl ?_ ?_
    · intro i gb h tk K hi Bb hgb S hK
      have i0 := Int.natCast_nonneg i
      have i1 : (i : Int) ≤ 1 := by walk_at "om"
      clear hi nk1 nk2
      repeat' walk_at "m"
      refine pool_ok ((R _).mono (by walk_at "om")) Bb S.keep ((I.sub hgb).sub S.keep) (by walk_at "om") (by walk_at "om") (by walk_at "om") fun src h₄ tk₄ k₄ f₄ q₄ => ?_
      have S := S.add_new (S.ch0 k₄) rfl f₄ q₄
      clear f₄ q₄ k₄
      repeat' walk_at "m"
      refine l_disp ?_
      repeat' walk_at "m"
      refine disp_ints (by assumption) (.cons _ _ (.cons _ _ (.cons _ _ .nil))) (by simp) fun D h₅ tk₅ n₅ S k₅ => ?_
      repeat' walk_at "m"
      refine one_at ((R _).mono (by walk_at "om")) S Bb (.tail _ (.head _)) (let ⟨o, e, q⟩ := S.get (.head _); ⟨o, e, q.r⟩) (fun e => S.hd_ne (by rw [e]; exact .head _)) (by simp) (by simp) fun sz t h₆ tk₆ hsz S _ => ?_
      have S := S.drop
      have hsz : sz = 8 ∨ sz = 2 ∨ sz = 12 := by simpa using hsz
      obtain ⟨sz0, sz1⟩ : 0 ≤ sz ∧ sz ≤ 12 := by walk_at "om"
      repeat' walk_at "m"
      have i2 : Builtin.Int.intBits 2 = 2 := by decide
      refine o_pow (by walk_at "om") (by rw [i2]; walk_at "om") fun _ _ => ?_
      repeat' walk_at "m"
      refine gen_k (2 ^ sz.toNat - 1 : Int) fun mo hmo => ?_
      have hm34 : 3 ≤ mo ∧ mo ≤ 4095 := by
        rw [← hmo]; rcases hsz with e | e | e <;> rw [e] <;> decide
      have mo3 := hm34.1
      have mo4 := hm34.2
      have mo0 := Int.le_trans (by decide : (0 : Int) ≤ 3) mo3
      clear hm34
      clear hsz i2 i0 i1
      rename St gb _ _ _ _ => S9
      rw [hmo] at S9
      refine tup_plain (by with_unfolding_all rfl) (by with_unfolding_all rfl) ?_
      repeat' walk_at "m"
      refine take_at ((R _).mono (by walk_at "om")) S9 Bb (.head _) (by walk_at "om") (by walk_at "om") fun r1 _ _ _ r1a r1b S => ?_
      repeat' walk_at "m"
      refine take_at ((R _).mono (by walk_at "om")) S Bb (.head _) (by walk_at "om") (by walk_at "om") fun r2 _ _ _ r2a r2b S => ?_
      repeat' walk_at "m"
      refine take_at ((R _).mono (by walk_at "om")) S Bb (.head _) (by walk_at "om") (by walk_at "om") fun r3 _ _ _ r3a r3b S => ?_
      repeat' walk_at "m"
      refine tup_go3 (R default).h S fun h₇ S k₇ => ?_
      obtain ⟨W, hW⟩ := nat_of r1a
      obtain ⟨H, hH⟩ := nat_of r2a
      refine gen_k (1 + r3) fun n hn => ?_
      rw [← hW, ← hH, hn]
      repeat' walk_at "m"
      refine tup_plain (by with_unfolding_all rfl) (by with_unfolding_all rfl) ?_
      repeat' walk_at "m"
      have dm := dm_of hW hH hn.symm r1a r1b r2a r2b r3a r3b
      clear hW hH hn r1a r1b r2a r2b r3a r3b
      have W1 := dm.W1
      have W5 := dm.W5
      have H1 := dm.H1
      have H4 := dm.H4
      have w0 := dm.w0
      have w1 := dm.w1
      have w5 := dm.w5
      have h0 := dm.h0
      have h1 := dm.h1
      have h4 := dm.h4
      have n1 := dm.n1
      have n4 := dm.n4
      have t1 := dm.t1
      have t4 := dm.t4
      have nn0 := dm.nn0
      have nn1 := dm.nn1
      have bw0 := dm.bw0
      have bw1 := dm.bw1
      have bw2 := dm.bw2
      have bw3 := dm.bw3
      have bh2 := dm.bh2
      have bh3 := dm.bh3
      have bh0 := dm.bh0
      have bh1 := dm.bh1
      rename St gb _ _ _ _ => S9
      refine lawplane_ok ((R _).mono (by walk_at "om")) Bb S9.keep (S9.get (.head _)) (S9.fresh _ (.head _)) (by walk_at "om") (by walk_at "om") (by walk_at "om") (by walk_at "om") (by walk_at "om") (by walk_at "om") fun tp tr tas nss h₈ tk₈ c₈ q₈ P₈ nd₈ len₈ kp₈ => ?_
      have hf : ∃ f : Nat → Nat → Int, nss = tab H W f ∧ ∀ y x, y < H → x < W → 0 ≤ f y x ∧ f y x ≤ mo := kept_tab len₈ kp₈
      obtain ⟨f, rfl, hf⟩ := hf
      have S8 := S9.ch1 c₈ (Put.same (.head _)) q₈
      have tlen : tas.length = H := P₈.rows.len.trans tab_len
      refine plane_k S9 S8 rfl P₈ nd₈ (fun e => Nat.ne_of_gt H1 (by rw [← tlen, e]; rfl)) fun g₁ k₁ S tpl trl => ?_
      have B₁ := Bb.keeps k₁
      clear S8 P₈ kp₈ c₈ q₈
      repeat' walk_at "m"
      simp only [List.cons_append, List.nil_append] at S
      refine l_disp ?_
      repeat' walk_at "m"
      refine disp_ints S (.cons _ _ (.cons _ _ (.cons _ _ .nil))) (by simp) fun D₁ h₉ tk₉ n₉ S k₉ => ?_
      repeat' walk_at "m"
      refine one_at ((R _).mono (by walk_at "om")) S B₁ (.tail _ (.head _)) (let ⟨o, e, q⟩ := S.get (.head _); ⟨o, e, q.r⟩) (fun e => S.hd_ne (by rw [e]; exact .head _)) (by simp) (by simp) fun ce t _ _ hce S _ => ?_
      have S := S.drop
      obtain ⟨ce0, ce1⟩ : 0 ≤ ce ∧ ce ≤ mo := by simp only [List.mem_cons, List.not_mem_nil, or_false] at hce; walk_at "om"
      repeat' walk_at "m"
      refine tup_go2 (R default).h S fun h₁₀ S k₁₀ => ?_
      repeat' walk_at "m"
      refine lc_assign ?_ rfl (by with_unfolding_all rfl) rfl (by decide)
      rename St g₁ _ _ _ _ => S9
      repeat' walk_at "m"
      refine attr_rows (tpl.sub S9.keep) B₁ S9.keep fun _ => ?_
      refine comp_list (fun j ys led => ∃ as', as'.length = j ∧ ys = as'.map .ref ∧ led = ((src, IsSrc) :: (L + 1 + 1 + 1 + 1, IsCellV (.int ce)) :: (L + 1 + 1 + 1, IsCellV (.int W)) :: (L + 1 + 1, IsCellV (.int mo)) :: (L + 1, IsCellV (.val (.ref src))) :: (rowsLed tas (tab H W f) ++ rowsLed as' ((tab H W f).take j)) : Led)) ((R _).mono (by walk_at "om")) S9 B₁ trl.list (by rw [List.size_toArray, List.length_map, tlen]; walk_at "om") ⟨[], rfl, rfl, by simp [rowsLed]⟩ (by decide) rfl rfl ?_ ?_
      · rintro j v ys gc C h tk led' hj hv hys Bc hgc ⟨as', hal, rfl, rfl⟩ S
        have hj' : j < H := by simpa [tlen] using hj
        obtain ⟨a, ha⟩ : ∃ a, tas[j]? = some a := ⟨_, List.getElem?_eq_getElem (by rw [tlen]; exact hj')⟩
        have hv' : v = .ref a := by simpa [ha] using hv.symm
        subst hv'
        have hm := S.get (.tail _ (.tail _ (.tail _ (.tail _ (.tail _ (List.mem_append_left _ (rowsLed_mem ha (tab_get hj'))))))))
        repeat' walk_at "m"
        refine k_list S hm (by rw [row_len]; walk_at "om") fun D₀ h₂ tk₂ n₀ S k₂ => ?_
        refine ⟨_, _, _, rfl, (S.say0 fun _ q => q.r).rot.locs (by simp), as' ++ [D₀], by simp [hal], by simp, ?_⟩
        rw [List.take_succ_eq_append_getElem (by rw [tab_len]; exact hj'), rowsLed_snoc (by rw [hal, List.length_take, tab_len]; exact (Nat.min_eq_left (Nat.le_of_lt hj')).symm)]
        simp [tab]
      · refine' done_to ?da ?db ?dc ?dd
        case da => rfl
        case db => rfl
        case dc => rfl
        rintro ro h' tk ys led' hD S ⟨ras, hal, hy, hl⟩ hlen'
        subst hy; subst hl
        have S := S.say0 isVals_refs
        have e : (tab H W f).take (tas.map Value.ref).toArray.size = tab H W f := by
          rw [List.take_of_length_le]; simp [tlen, tab_len]
        have rlen : ras.length = H := by rw [hal]; simp [tlen]
        rw [e] at S
        have S := S.perm (led' := ((ro, IsRefs ras) :: rowsLed ras (tab H W f)) ++ LB src L W mo ce (rowsLed tas (tab H W f))) (List.Perm.cons _ (List.perm_append_comm (l₁ := rowsLed ras (tab H W f)) (l₂ := LB src L W mo ce (rowsLed tas (tab H W f)))))
        refine freeze_k S fun g₂ k₂ S hro => ?_
        have rrl : RL g₂ ro ras := hro _ (.head _)
        have rrs : Rows g₂ ras (tab H W f) := rows_of_led (by rw [rlen, tab_len]) fun p hp => hro p (.tail _ hp)
        have B₂ := B₁.keeps k₂
        have tpl := tpl.sub k₂
        have trl := trl.sub k₂
        clear hro
        repeat' walk_at "m"
        refine tup_swap (by with_unfolding_all rfl) (by with_unfolding_all rfl) ?_
        repeat' walk_at "m"
        rename St g₂ _ _ _ _ => S9
        refine take_at ((R _).mono (by walk_at "om")) S9 B₂ (.head _) (by walk_at "om") (by walk_at "om") fun x _ _ _ x0 x1 S => ?_
        repeat' walk_at "m"
        refine take_at ((R _).mono (by walk_at "om")) S B₂ (.head _) (by walk_at "om") (by walk_at "om") fun y _ _ _ y0 y1 S => ?_
        repeat' walk_at "m"
        refine swap_go2 (R default).h S fun h₁₁ S k₁₁ => ?_
        repeat' walk_at "m"
        refine l_disp ?_
        repeat' walk_at "m"
        rename St g₂ _ _ _ _ => S9
        refine disp_ints S9 .nil (by simp) fun du h₁₂ tk₁₂ n₁₂ S k₁₂ => ?_
        repeat' walk_at "m"
        refine wpAny_For ?_
        repeat' walk_at "m"
        rename St g₂ _ _ _ _ => S9
        have x8 := Int.le_trans (Int.lt_add_one_iff.mp x1) bw1
        have y8 := Int.le_trans (Int.lt_add_one_iff.mp y1) bh1
        clear x1 y1
        refine gen_k (Vs.int (i : Nat)) fun k0 hk0 => ?_
        have S9 := S9.pick [("due_one", .val (.ref du)), ("x", .int x), ("y", .int y), ("rows_one", .val (.ref ro)), ("told_plane", .val (.ref tp)), ("n", .int n), ("high_one", .int H), ("size_one", .int sz), ("k", k0), ("script", .val (.ref scr))] ⟨rfl, rfl, rfl, rfl, rfl, rfl, rfl, rfl, by rw [← hk0]; rfl, rfl, trivial⟩
        have xn := mul_bd (x := x) (n := n) (a := 8) (b := 4) x0 x8 (by walk_at "om") n4
        have yn := mul_bd (x := y) (n := n) (a := 8) (b := 4) y0 y8 (by walk_at "om") n4
        have xn0 := xn.1
        have xn1 := xn.2
        have yn0 := yn.1
        have yn1 := yn.2
        clear xn yn
        refine k_range1 S9 fun rr h₃ tk₃ S k₃ => ?_
        refine for_range0 (fun _ => [("due_one", .val (.ref du)), ("x", .int x), ("y", .int y), ("rows_one", .val (.ref ro)), ("told_plane", .val (.ref tp)), ("n", .int n), ("high_one", .int H), ("size_one", .int sz), ("k", k0), ("script", .val (.ref scr))]) (fun i => (du, IsIntsP ((blkTo (tab H W f) W H x y n ce n.toNat).take i)) :: LB src L W mo ce (rowsLed tas (tab H W f))) ((R _).mono (by walk_at "om")) S B₂ (by walk_at "om") (by walk_at "om") rfl rfl rfl rfl ?_ ?_
        · intro j gc h tk K1 hj Bc hgc S hK1
          have j0 := Int.natCast_nonneg j
          refine ex_cons fun _ _ => ?_
          refine tup_swap (by with_unfolding_all rfl) (by with_unfolding_all rfl) ?_
          repeat' walk_at "m"
          refine swap_go2 (R default).h S fun h₁₁ S k₁₁ => ?_
          repeat' walk_at "m"
          refine MethodCall_ ?_
          repeat' walk_at "m"
          refine gm_list (by assumption) (.head _) intsP_list PySem.F.slot_list_append PySem.F.type_list_append ?_
          repeat' walk_at "m"
          have q0 := Int.add_nonneg yn0 (Int.ediv_nonneg j0 (Int.le_trans (by decide) n1) : 0 ≤ (j : Int) / n)
          have q1 := Int.add_nonneg xn0 (Int.emod_nonneg (j : Int) (Int.ne_of_gt (Int.lt_of_lt_of_le (by decide) n1)))
          refine k_min ((R _).mono (by walk_at "om")) (by assumption) fun _ _ _ S k => ?_
          rw [← kept_min (p := y * n + (j : Int) / n) (n := (H : Int)) (by walk_at "om") (by walk_at "om")]
          repeat' walk_at "m"
          have ky0 := keptI_lo (x := y * n + (j : Int) / n) (n := (H : Int)) (by walk_at "om")
          have ky1 := keptI_hi (x := y * n + (j : Int) / n) (n := (H : Int)) (by walk_at "om")
          have kx0 := keptI_lo (x := x * n + (j : Int) % n) (n := (W : Int)) (by walk_at "om")
          have kx1 := keptI_hi (x := x * n + (j : Int) % n) (n := (W : Int)) (by walk_at "om")
          obtain ⟨a, ha, ia⟩ := rows_tab rrs (i := (keptI (y * n + (j : Int) / n) H).toNat) (kept_lt ky0 ky1)
          refine sub_refs ((rrl.sub ‹Sub g₂ gc›).sub S.keep) ky0 (Int.lt_trans ky1 (Int.lt_of_le_of_lt h4 (by decide))) ha ?_ (by with_unfolding_all rfl)
          repeat' walk_at "m"
          refine k_min ((R _).mono (by walk_at "om")) (by assumption) fun _ _ _ S k => ?_
          rw [← kept_min (p := x * n + (j : Int) % n) (n := (W : Int)) (by walk_at "om") (by walk_at "om")]
          repeat' walk_at "m"
          refine sub_ints ((ia.sub ‹Sub g₂ gc›).sub S.keep) kx0 (Int.lt_trans kx1 (Int.lt_of_le_of_lt w5 (by decide))) (row_get (kept_lt kx0 kx1)) ?_ (by with_unfolding_all rfl)
          intro _
          repeat' walk_at "m"
          refine k_append_int S (.head _) .head (by rw [List.length_take]; exact Nat.le_trans (Nat.min_le_left _ _) (Nat.le_trans (Int.ofNat_le.mp (Int.le_trans (Int.le_of_lt hj) nn1)) (by decide))) fun h₁₃ S => ?_
          repeat' walk_at "m"
          refine hK1 _ _ ?_
          have S := S.pick [("due_one", .val (.ref du)), ("x", .int x), ("y", .int y), ("rows_one", .val (.ref ro)), ("told_plane", .val (.ref tp)), ("n", .int n), ("high_one", .int H), ("size_one", .int sz), ("k", k0), ("script", .val (.ref scr))] ⟨rfl, rfl, rfl, rfl, rfl, rfl, rfl, rfl, rfl, rfl, trivial⟩
          rw [List.take_add_one, blkTo_at n1 hj, tab_cell (kept_lt ky0 ky1) (kept_lt kx0 kx1)]
          exact S
        · intro h' tk S
          have eL : (blkTo (tab H W f) W H x y n ce n.toNat).take (n * n).toNat = blkTo (tab H W f) W H x y n ce n.toNat := by
            exact List.take_of_length_le (by rw [blkTo_len, dm.tt]; exact Nat.le_refl _)
          rw [eL] at S
          clear eL
          have TD := tab_dim (f := f) (H := H) (W := W) (by walk_at "om") (by walk_at "om") (by walk_at "om") (by walk_at "om")
          refine freeze_k (A1 := [(du, IsIntsP (blkTo (tab H W f) W H x y n ce n.toNat))]) S fun g₃ k₃ S hdu => ?_
          have dul : ILP g₃ du (blkTo (tab H W f) W H x y n ce n.toNat) := hdu _ (.head _)
          have B₃ := B₂.keeps k₃
          have tpl := tpl.sub k₃
          have trl := trl.sub k₃
          have rrl := rrl.sub k₃
          have rrs := rrs.sub k₃
          clear hdu
          have PT : ∀ {g' h' l'}, Sub g₃ g' → St g' L h' l' (LB src L W mo ce (rowsLed tas (tab H W f))) → Pl h' tp W H tr tas (tab H W f) := fun k S => ⟨(tpl.sub k).sub S.keep, (trl.sub k).sub S.keep, rows_of_led (by rw [tlen, tab_len]) fun p hp => S.at' p (.tail _ (.tail _ (.tail _ (.tail _ (.tail _ hp)))))⟩
          repeat' walk_at "m"
          refine block_at (as := tas) (nss := tab H W f) ((R _).mono (by walk_at "om")) S B₃ (PT (Sub.refl _) S) TD (by walk_at "om") (by walk_at "om") (by walk_at "om") (by walk_at "om") (by walk_at "om") (by walk_at "om") fun D₂ h₁₄ tk₁₄ n₁₄ S k₁₄ => ?_
          repeat' walk_at "m"
          refine ne_ints_same (R _) (ILP.r (S.get (.head _))) (ILP.r (dul.sub S.keep)) ?_
          have S := S.drop
          repeat' walk_at "m"
          walk_at "ite"
          repeat' walk_at "m"
          refine attr_rows (tpl.sub S.keep) B₃ S.keep fun _ => ?_
          repeat' walk_at "m"
          refine ne_rows_same (R _) (trl.sub S.keep) (PT (Sub.refl _) S).rows (rrl.sub S.keep) (rrs.sub S.keep) ?_
          repeat' walk_at "m"
          walk_at "ite"
          repeat' walk_at "m"
          refine tup_swap (by with_unfolding_all rfl) (by with_unfolding_all rfl) ?_
          repeat' walk_at "m"
          refine cut_at ((R _).mono (by walk_at "om")) S B₃ (PT (Sub.refl _) S) TD (by walk_at "om") (by walk_at "om") (by walk_at "om") (by walk_at "om") (by walk_at "om") (by walk_at "om") fun cp cr cas g₄ h₁₅ tk₁₅ k₄ _ _ S cpl => ?_
          have B₄ := B₃.keeps k₄
          repeat' walk_at "m"
          refine copied_at ((R _).mono (by walk_at "om")) S B₄ (PT k₄ S) TD fun fp fr fas g₅ h₁₆ tk₁₆ k₅ _ _ S fpl => ?_
          have B₅ := B₄.keeps k₅
          have cpl := cpl.sub k₅
          repeat' walk_at "m"
          refine swap_go2 (R default).h S fun h₁₇ S k₁₇ => ?_
          repeat' walk_at "m"
          rename St g₅ _ _ _ _ => S9
          refine attr_rows (cpl.pl.sub S9.keep) B₅ S9.keep fun _ => ?_
          repeat' walk_at "m"
          refine l_disp ?_
          repeat' walk_at "m"
          refine disp_ints S9 .nil (by simp) fun D₃ h₁₈ tk₁₈ n₁₈ S k₁₈ => ?_
          repeat' walk_at "m"
          refine k_sum (R _) S (cpl.rl.sub S.keep) (cpl.rows.sub S.keep) (S.get (.head _)) (fun i => tab_flat_len (by walk_at "om") (by walk_at "om") i) (fun ns h => by rw [tab_mem h]; walk_at "om") (by rw [tab_len]; walk_at "om") fun cc h₁₉ tk₁₉ n₁₉ S k₁₉ => ?_
          rw [cut_flat (ce := ce) (by walk_at "om")] at S
          have S := S.sub_led (led' := (cc, IsIntsP ((blkTo (tab H W f) W H x y n ce n.toNat).map (· + ce))) :: LB src L W mo ce (rowsLed tas (tab H W f))) (.cons_cons _ (.cons _ (.refl _)))
          refine lc_eval ?_ (by with_unfolding_all rfl) rfl (by decide)
          repeat' walk_at "m"
          obtain ⟨dvs, dvl, dvi⟩ := ((dul.sub k₄).sub k₅).r.list
          have blen : (blkTo (tab H W f) W H x y n ce n.toNat).length ≤ 16 := by
            rw [blkTo_len]
            exact Nat.mul_le_mul t4 t4
          refine comp_list (fun j ys led => IntsAre ys (((blkTo (tab H W f) W H x y n ce n.toNat).map (· + ce)).take j) ∧ led = ((cc, IsIntsP ((blkTo (tab H W f) W H x y n ce n.toNat).map (· + ce))) :: LB src L W mo ce (rowsLed tas (tab H W f)) : Led)) ((R _).mono (by walk_at "om")) S B₅ dvl (by rw [List.size_toArray, dvi.length]; walk_at "om") ⟨by simpa using IntsAre.nil, rfl⟩ (by decide) rfl rfl ?_ ?_
          · rintro j v ys gc C h tk led' hj hv hys Bc hgc ⟨hIy, rfl⟩ S
            have hj' : j < (blkTo (tab H W f) W H x y n ce n.toNat).length := by rw [← dvi.length]; simpa using hj
            obtain ⟨t, ht⟩ := dvi.get j _ (List.getElem?_eq_getElem hj')
            have hv' : v = .int (blkTo (tab H W f) W H x y n ce n.toNat)[j] t := by simpa [ht] using hv.symm
            subst hv'
            repeat' walk_at "m"
            refine ⟨_, _, _, rfl, S.locs (by simp), ?_, rfl⟩
            rw [List.take_succ_eq_append_getElem (by rw [List.length_map]; exact hj'), List.getElem_map]
            exact hIy.append (.cons _ _ .nil)
          · refine done_none ?_
            rintro D₄ h' tk ys led' hD S ⟨hIy, hl⟩ hlen'
            clear hlen'
            subst hl
            rw [List.take_of_length_le (by rw [List.length_map, List.size_toArray, dvi.length]; exact Nat.le_refl _)] at hIy
            have S := S.say0 (isVals_ints hIy)
            repeat' walk_at "m"
            refine ne_ints_same (R _) (ILP.r (S.get (.tail _ (.head _)))) (ILP.r (S.get (.head _))) ?_
            have S := S.drop.drop
            repeat' walk_at "m"
            refine lc_eval ?_ (by with_unfolding_all rfl) rfl (by decide)
            repeat' walk_at "m"
            refine k_range1 S fun rr h₃ tk₃ S k₃ => ?_
            refine comp_range (fun j ys led => ∃ as', as'.length = j ∧ ys = as'.map .ref ∧ led = (LB src L W mo ce (rowsLed tas (tab H W f) ++ rowsLed as' (tab j W fun _ _ => 0)) : Led)) ((R _).mono (by walk_at "om")) S B₅ (by walk_at "om") (by walk_at "om") (by walk_at "om") (by walk_at "om") (by rw [Int.sub_zero]; walk_at "om") ⟨[], rfl, rfl, by simp [rowsLed]⟩ (by decide) rfl rfl ?_ ?_
            · rintro j ys gc C h tk led' hj hys Bc hgc ⟨as', hal, rfl, rfl⟩ S
              refine wpAny_BinOp ?_
              refine l_disp ?_
              repeat' walk_at "m"
              refine disp_ints S (.cons _ _ .nil) (by simp) fun D₅ h₂₀ tk₂₀ n₂₀ S k₂₀ => ?_
              repeat' walk_at "m"
              refine o_mul_list S (S.get (.head _)) (by walk_at "om") (by walk_at "om") fun D₆ h₂₁ tk₂₁ n₂₁ S => ?_
              rw [Int.toNat_natCast, zeros_row] at S
              have S := (S.say0 fun _ q => q.r).sub_led (led' := (D₆, IsInts (row W fun _ => 0)) :: LB src L W mo ce (rowsLed tas (tab H W f) ++ rowsLed as' (tab j W fun _ _ => 0))) (.cons_cons _ (.cons _ (.refl _)))
              refine ⟨_, _, _, rfl, S.rot.locs (by simp), as' ++ [D₆], by simp [hal], by simp, ?_⟩
              rw [tab_succ, rowsLed_snoc (by rw [hal, tab_len])]
              simp
            · refine done_none ?_
              rintro D₇ h' tk ys led' hD S ⟨bas, hal, hy, hl⟩ hlen'
              clear hlen'
              subst hy; subst hl
              have eH : ((H : Int) - 0).toNat = H := by rw [Int.sub_zero]; rfl
              rw [eH] at S hal
              rw [bare_none (f := f) (n := n) (by walk_at "om")] at S
              have S := S.say0 isVals_refs
              repeat' walk_at "m"
              refine plane_at ((R _).mono (by walk_at "om")) S B₅ fun bp h₂₂ tk₂₂ S₂₂ k₂₂ hbp => ?_
              refine grow_k S S₂₂ rfl fun g₆ k₆ S d₆ => ?_
              have hbp := hbp.sub d₆
              clear S₂₂ d₆
              refine freeze_k (A1 := [(D₇, IsRefs bas)]) S fun g₇ k₇ S hbr => ?_
              have brl : RL g₇ D₇ bas := hbr _ (.head _)
              have hbp := hbp.sub k₇
              have k57 := k₆.trans k₇
              have B₇ := B₅.keeps k57
              have fpl := fpl.sub k57
              have k37 := (k₄.trans k₅).trans k57
              clear hbr k₆ k₇
              repeat' walk_at "m"
              refine wpAny_For ?_
              repeat' walk_at "m"
              rename St g₇ _ _ _ _ => S9
              have S9 := S9.pick [("bare", .val (.ref bp)), ("first_one", .val (.ref fp)), ("x", .int x), ("y", .int y), ("rows_one", .val (.ref ro)), ("told_plane", .val (.ref tp)), ("n", .int n), ("high_one", .int H), ("size_one", .int sz), ("script", .val (.ref scr))] ⟨rfl, rfl, rfl, rfl, rfl, rfl, rfl, rfl, rfl, rfl, trivial⟩
              have PT2 : ∀ {g' h' l'} {b : Nat → Nat → Int}, Sub g₇ g' → St g' L h' l' (LB src L W mo ce (rowsLed tas (tab H W f) ++ rowsLed bas (tab H W b))) → Pl h' tp W H tr tas (tab H W f) := fun k S => ⟨(tpl.sub (k37.trans k)).sub S.keep, (trl.sub (k37.trans k)).sub S.keep, rows_of_led (by rw [tlen, tab_len]) fun p hp => S.at' p (.tail _ (.tail _ (.tail _ (.tail _ (.tail _ (List.mem_append_left _ hp))))))⟩
              refine k_range1 S9 fun rr h₃ tk₃ S k₃ => ?_
              refine for_range0 (fun _ => [("bare", .val (.ref bp)), ("first_one", .val (.ref fp)), ("x", .int x), ("y", .int y), ("rows_one", .val (.ref ro)), ("told_plane", .val (.ref tp)), ("n", .int n), ("high_one", .int H), ("size_one", .int sz), ("script", .val (.ref scr))]) (fun i => LB src L W mo ce (rowsLed tas (tab H W f) ++ rowsLed bas (tab H W (bareF n f (i : Nat) 0)))) ((R _).mono (by walk_at "om")) S B₇ (by walk_at "om") (by walk_at "om") rfl rfl rfl rfl ?_ ?_
              · intro i gc h tk K1 hi Bc hgc S hK1
                have i0 := Int.natCast_nonneg i
                have i8 := Int.le_trans (Int.le_of_lt hi) bh1
                refine ex_cons fun _ _ => ?_
                refine wpAny_For ?_
                repeat' walk_at "m"
                refine k_range1 S fun rr h₃ tk₃ S k₃ => ?_
                refine for_range0 (fun _ => [("line_one", .int (i : Nat)), ("bare", .val (.ref bp)), ("first_one", .val (.ref fp)), ("x", .int x), ("y", .int y), ("rows_one", .val (.ref ro)), ("told_plane", .val (.ref tp)), ("n", .int n), ("high_one", .int H), ("size_one", .int sz), ("script", .val (.ref scr))]) (fun j => LB src L W mo ce (rowsLed tas (tab H W f) ++ rowsLed bas (tab H W (bareF n f (i : Nat) (j : Nat))))) ((R _).mono (by walk_at "om")) S Bc (by walk_at "om") (by walk_at "om") rfl rfl rfl rfl ?_ ?_
                · intro j gd h tk K2 hj Bd hgd S hK2
                  have j0 := Int.natCast_nonneg j
                  have j8 := Int.le_trans (Int.le_of_lt hj) bw1
                  repeat' walk_at "m"
                  refine block_at (as := tas) (nss := tab H W f) ((R _).mono (by walk_at "om")) S Bd (PT2 (hgc.trans hgd) S) TD (by walk_at "om") (by walk_at "om") (by walk_at "om") (by walk_at "om") (by walk_at "om") (by walk_at "om") fun D₈ h₂₃ tk₂₃ n₂₃ S k₂₃ => ?_
                  repeat' walk_at "m"
                  rename St gd _ _ _ _ => S9
                  have hDn : D₈ ∉ bas := fun hm => S9.hd_ne (.tail _ (.tail _ (.tail _ (.tail _ (.tail _ (by
                    rw [List.map_append]
                    exact List.mem_append_right _ (by rw [rowsLed_keys (by rw [hal, tab_len])]; exact hm)))))))
                  refine put_at (led := (D₈, IsIntsP (blkTo (tab H W f) W H (j : Int) (i : Int) n ce n.toNat)) :: LB src L W mo ce (rowsLed tas (tab H W f))) (as := bas) (f := bareF n f i j) ((R _).mono (by walk_at "om")) S9 hal Bd ((hbp.sub hgc).sub hgd) ((brl.sub hgc).sub hgd) (ILP.r (S9.get (.head _))) hDn (by walk_at "om") (by walk_at "om") (by walk_at "om") (by walk_at "om") (by walk_at "om") (by walk_at "om") (by walk_at "om") (by walk_at "om") (by rw [blkTo_len, Int.natCast_mul, Int.toNat_of_nonneg (by walk_at "om")]) fun h₂₄ tk₂₄ S _ => ?_
                  rw [List.cons_append] at S
                  have S := S.drop
                  have eS : tab H W (putF (bareF n f i j) (j : Int) (i : Int) n ce mo (blkTo (tab H W f) W H (j : Int) (i : Int) n ce n.toNat)) = tab H W (bareF n f i (j + 1)) := by
                    exact bare_step n1 hf
                  rw [eS] at S
                  repeat' walk_at "m"
                  exact hK2 _ _ ((S.forget (x := "cut_one") rfl).forget rfl)
                · intro h' tk S
                  rw [Int.toNat_of_nonneg bw0, bare_row n1] at S
                  repeat' walk_at "m"
                  exact hK1 _ _ (S.forget rfl)
              · intro h' tk S
                rw [Int.toNat_of_nonneg bh0, bare_all n1] at S
                repeat' walk_at "m"
                refine attr_rows (hbp.sub S.keep) B₇ S.keep fun _ => ?_
                repeat' walk_at "m"
                have brs : ∀ {h' l'}, St g₇ L h' l' (LB src L W mo ce (rowsLed tas (tab H W f) ++ rowsLed bas (tab H W f))) → Pl h' bp W H D₇ bas (tab H W f) := fun S => ⟨hbp.sub S.keep, brl.sub S.keep, rows_of_led (by rw [hal, tab_len]) fun p hp => S.at' p (.tail _ (.tail _ (.tail _ (.tail _ (.tail _ (List.mem_append_right _ hp))))))⟩
                have rrl7 := rrl.sub k37
                have rrs7 := rrs.sub k37
                refine ne_rows_same (R _) (brl.sub S.keep) (brs S).rows (rrl7.sub S.keep) (rrs7.sub S.keep) ?_
                repeat' walk_at "m"
                walk_at "ite"
                repeat' walk_at "m"
                refine same_at ((R _).mono (by walk_at "om")) S B₇ (brs S) (PT2 (Sub.refl _) S) fun h₂₅ tk₂₅ S _ => ?_
                rw [decide_eq_true rfl]
                have S := S.sub_led (led' := LB src L W mo ce (rowsLed tas (tab H W f))) (.cons_cons _ (.cons_cons _ (.cons_cons _ (.cons_cons _ (.cons_cons _ (List.sublist_append_left _ _))))))
                repeat' walk_at "m"
                walk_at "ite"
                repeat' walk_at "m"
                refine lc_assign ?_ rfl (by with_unfolding_all rfl) rfl (by decide)
                repeat' walk_at "m"
                refine k_range1 S fun rr h₃ tk₃ S k₃ => ?_
                refine comp_range (fun j ys led => ∃ bs, IntsAre ys bs ∧ bs.length = j ∧ led = (LB src L W mo ce (rowsLed tas (tab H W f)) : Led)) ((R _).mono (by walk_at "om")) S B₇ (by walk_at "om") (by walk_at "om") (by walk_at "om") (by walk_at "om") (by rw [Int.sub_zero]; walk_at "om") ⟨[], .nil, rfl, rfl⟩ (by decide) rfl rfl ?_ ?_
                · rintro j ys gc C h tk led' hj hys Bc hgc ⟨bs, hIy, hbl, rfl⟩ S
                  repeat' walk_at "m"
                  refine number_at ((R _).mono (by walk_at "om")) S Bc (.head _) (by walk_at "om") (by walk_at "om") fun v _ _ _ S _ => ?_
                  exact ⟨_, _, _, rfl, S.locs (by simp), bs ++ [v], hIy.append (.cons _ _ .nil), by simp [hbl], rfl⟩
                · refine' done_to ?da2 ?db2 ?dc2 ?dd2
                  case da2 => rfl
                  case db2 => rfl
                  case dc2 => rfl
                  rintro bk h' tk ys led' hD S ⟨nb, hIy, hbl, hl⟩ hlen'
                  subst hl
                  have S := S.say0 (isVals_ints hIy)
                  have hbl : (nb.length : Int) = n * n := by rw [hbl, Int.sub_zero, Int.toNat_of_nonneg nn0]
                  have nb16 : nb.length ≤ 16 := Int.ofNat_le.mp (by rw [hbl]; exact nn1)
                  clear hlen'
                  repeat' walk_at "m"
                  rename St g₇ _ _ _ _ => S9
                  refine k_list S9 (ILP.r (S9.get (.head _))) (by walk_at "om") fun kp h₂₆ tk₂₆ n₂₆ S k₂₆ => ?_
                  repeat' walk_at "m"
                  rename St g₇ _ _ _ _ => S9
                  have hbk : bk ∉ tas := fun hm => S9.drop.hd_ne (.tail _ (.tail _ (.tail _ (.tail _ (.tail _ (by
                    rw [rowsLed_keys (by rw [tlen, tab_len])]; exact hm))))))
                  refine put_at (led := (kp, IsIntsP nb) :: (bk, IsIntsP nb) :: LB src L W mo ce []) (as := tas) (f := f) ((R _).mono (by walk_at "om")) S9 tlen B₇ (tpl.sub k37) (trl.sub k37) (ILP.r (S9.get (.tail _ (.head _)))) hbk (by walk_at "om") (by walk_at "om") (by walk_at "om") (by walk_at "om") (by walk_at "om") (by walk_at "om") (by walk_at "om") (by walk_at "om") hbl fun h₂₇ tk₂₇ S _ => ?_
                  refine gen_k (putF f x y n ce mo nb) fun f2 hf2 => ?_
                  rw [hf2] at S
                  repeat' walk_at "m"
                  refine due_at ((R _).mono (by walk_at "om")) S B₇ (rrl7.sub S.keep) (rrs7.sub S.keep) (ILP.r (S.get (.head _))) (by walk_at "om") (by walk_at "om") (by walk_at "om") (by walk_at "om") hbl (by walk_at "om") fun dr das g₈ h₂₈ tk₂₈ k₈ _ _ S drl drs => ?_
                  rw [hf2] at drs
                  have B₈ := B₇.keeps k₈
                  repeat' walk_at "m"
                  rename St g₈ _ _ _ _ => S9
                  have PT3 : ∀ {h' l'}, St g₈ L h' l' (((kp, IsIntsP nb) :: (bk, IsIntsP nb) :: LB src L W mo ce []) ++ rowsLed tas (tab H W f2)) → Pl h' tp W H tr tas (tab H W f2) := fun S => ⟨((tpl.sub k37).sub k₈).sub S.keep, ((trl.sub k37).sub k₈).sub S.keep, rows_of_led (by rw [tlen, tab_len]) fun p hp => S.at' p (List.mem_append_right _ hp)⟩
                  have rrl8 := rrl7.sub k₈
                  have rrs8 := rrs7.sub k₈
                  have fpl := fpl.sub k₈
                  have hf3 : ∀ y x, y < H → x < W → 0 ≤ f2 y x ∧ f2 y x ≤ mo := fun y x hy hx => by rw [← hf2]; exact putF_kept (by walk_at "om") (hf y x hy hx)
                  refine attr_rows (PT3 S9).pl B₈ S9.keep fun _ => ?_
                  repeat' walk_at "m"
                  refine ne_rows_same (R _) (PT3 S9).rl (PT3 S9).rows (drl.sub S9.keep) (drs.sub S9.keep) ?_
                  repeat' walk_at "m"
                  walk_at "ite"
                  repeat' walk_at "m"
                  refine ne_ints_same (R _) (ILP.r (S9.get (.tail _ (.head _)))) (ILP.r (S9.get (.head _))) ?_
                  repeat' walk_at "m"
                  walk_at "ite"
                  repeat' walk_at "m"
                  refine attr_rows (fpl.pl.sub S9.keep) B₈ S9.keep fun _ => ?_
                  repeat' walk_at "m"
                  refine ne_rows_same (R _) (fpl.rl.sub S9.keep) (fpl.rows.sub S9.keep) (rrl8.sub S9.keep) (rrs8.sub S9.keep) ?_
                  repeat' walk_at "m"
                  walk_at "ite"
                  repeat' walk_at "m"
                  refine check_at ((R _).mono (by walk_at "om")) S9 B₈ (PT3 S9) (tab_dim (by walk_at "om") (by walk_at "om") (by walk_at "om") (by walk_at "om")) (by walk_at "om") (by walk_at "om") (tab_all fun y x hy hx => by rw [hmo]; exact hf3 y x hy hx) fun h₂₉ tk₂₉ S _ => ?_
                  repeat' walk_at "m"
                  refine lc2_assign ?_ rfl (by with_unfolding_all rfl) rfl (by decide)
                  repeat' walk_at "m"
                  refine k_zip S rrl8.list drl.list fun z h₃₀ tk₃₀ S _ Z => ?_
                  refine' comp2_gaps (F := absd) ((R _).mono (by walk_at "om")) S B₈ Z rrs8 drs (by rw [tab_len, tab_len]) ?hz9 ?hz8 (by decide) rfl rfl rfl rfl rfl ?hi9 ?he9 (fun _ _ => rfl) rfl rfl rfl ?hd9
                  case hz9 => exact fun i hi => gaps_len (by walk_at "om") (by walk_at "om") hi
                  case hz8 => exact fun ns h => by rw [tab_mem h]; walk_at "om"
                  case hi9 =>
                    intro gb C h tk l' led' a b Q' E' xs ys Bb S ha hb hK
                    repeat' walk_at "m"
                    exact k_zip S ha hb fun z h' tk' S _ Z => hK z h' tk' S Z
                  case he9 =>
                    intro gb C h tk l' led' a b Q' E' Bb S hK
                    repeat' walk_at "m"
                    refine k_abs fun _ _ => ?_
                    exact hK _ _ _ S
                  case hd9 =>
                    intro gp h₃₁ tk₃₁ n₃₁ S
                    rw [tab_len] at S
                    have gne : absd (f 0 0) (f2 0 0) ∈ gapsTo absd (tab H W f) (tab H W f2) H := gaps_mem.mpr ⟨0, 0, H1, W1, rfl⟩
                    have gnn : ∀ a ∈ gapsTo absd (tab H W f) (tab H W f2) H, 0 ≤ a := fun a ha => by obtain ⟨y, x, _, _, rfl⟩ := gaps_mem.mp ha; exact absd_nn _ _
                    repeat' walk_at "m"
                    refine great_diff_at ((R _).mono (by walk_at "om")) S B₈ (fpl.sub S.keep) (PT3 S.drop) (by rw [tab_len, tab_len]) fun _ _ _ S _ => ?_
                    rw [tab_len]
                    repeat' walk_at "m"
                    refine k_max_list (R _) S (ILP.r (S.get (.head _))) (List.length_pos_of_mem gne) fun M _ _ _ S _ hM1 hM2 => ?_
                    rw [mx_eq hM1 hM2 gnn]
                    repeat' walk_at "m"
                    walk_at "ite"
                    · exact absurd trivial (by assumption)
                    repeat' walk_at "m"
                    refine same_at ((R _).mono (by walk_at "om")) S B₈ (fpl.sub S.keep) (PT3 S.drop) fun _ _ S _ => ?_
                    repeat' walk_at "m"
                    refine k_max_list (R _) S (ILP.r (S.get (.head _))) (List.length_pos_of_mem gne) fun M2 _ _ _ S _ hN1 hN2 => ?_
                    repeat' walk_at "m"
                    refine PyProof.Rows.ne_bool ?_
                    have eB : (decide (tab H W f = tab H W f2) != (M2 == 0)) = false := by
                      have := gaps_zero hN1 hN2
                      by_cases c : M2 = 0
                      · rw [decide_eq_true (this.mpr c), beq_iff_eq.mpr c]; rfl
                      · rw [decide_eq_false fun e => c (this.mp e), beq_eq_false_iff_ne.mpr c]; rfl
                    rw [eB]
                    repeat' walk_at "m"
                    walk_at "ite"
                    repeat' walk_at "m"
                    exact hK _ _ (law_close (A1 := [(gp, IsIntsP (gapsTo absd (tab H W f) (tab H W f2) H)), (kp, IsIntsP nb), (bk, IsIntsP nb)]) (R1 := rowsLed tas (tab H W f2)) (l' := [("script", .val (.ref scr))]) S ((((‹Sub gb g₁›.trans ‹Sub g₁ g₂›).trans ‹Sub g₂ g₃›).trans k37).trans k₈) ⟨rfl, trivial⟩)
    · intro h' tk S
      repeat' walk_at "m"
      exact ⟨rfl, _, _, rfl, S.keep⟩

end Mine

theorem PySem.Challenge.cw_ok0129_01_holds : PySem.Challenge.rw_ok0129_01.Holds := by
  exact Mine.claim
