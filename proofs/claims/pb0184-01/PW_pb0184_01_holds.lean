import PyProof.Rows.All
import Wide.All
import OpenK.AllK
import Wide.FinOn
import Lean
import PySem.Challenge.RW_pb0184_01
set_option Elab.async false
set_option maxRecDepth 100000
set_option maxHeartbeats 8000000
set_option linter.all false
section
open PySem PySem.W PySem.Calls PyProof.Rows PySem.Spec PyProof.V
namespace Mine
noncomputable abbrev Led := List (Addr × Obj)
noncomputable def NsO (o : Obj) (m : Str → Option Value) : Prop := ∀ (h : Heap) (a : Addr), h.get? a = some o → h.Ns a m
theorem NsO.of {h : Heap} {a : Addr} {m : Str → Option Value} (hn : h.Ns a m) : ∃ o, h.get? a = some o ∧ NsO o m :=
  let ⟨o, es, ep, e, r⟩ := hn; ⟨o, e, fun _ _ e' => ⟨o, es, ep, e', r⟩⟩

/-- all of a walk's own objects lie off the ledger `nw`, but for those of its source -/
noncomputable def Apart (own nw : Led) (src : List Addr) : Prop := ∀ p ∈ own, p.1 ∈ src ∨ ∀ q ∈ nw, p.1 ≠ q.1



theorem Apart.same {own nw nw' : Led} {src : List Addr} (h : Apart own nw src) (e : nw'.map (·.1) = nw.map (·.1)) : Apart own nw' src := fun p hp => (h p hp).imp id fun k q hq => by
  have : q.1 ∈ nw.map (·.1) := by rw [← e]; exact List.mem_map_of_mem hq
  obtain ⟨r, hr, er⟩ := List.mem_map.mp this
  rw [← er]; exact k r hr
theorem Apart.cons {own nw : Led} {src : List Addr} {x : Addr × Obj} (h : Apart own nw src) (hx : ∀ p ∈ own, p.1 ≠ x.1) : Apart own (x :: nw) src := fun p hp => (h p hp).imp id fun k q hq => by
  rcases List.mem_cons.mp hq with rfl | hq
  · exact hx p hp
  · exact k q hq
theorem Apart.sub {own nw nw' : Led} {src : List Addr} (h : Apart own nw src) (hs : ∀ q ∈ nw', q ∈ nw) : Apart own nw' src := fun p hp => (h p hp).imp id fun k q hq => k q (hs q hq)
/-- an address of the ledger that is no source is off the walk's own objects -/
theorem Apart.off {own nw : Led} {src : List Addr} {d : Addr} {o : Obj} (h : Apart own nw src) (hd : (d, o) ∈ nw) (hs : d ∉ src) : ∀ p ∈ own, p.1 ≠ d := fun p hp e => by
  rcases h p hp with a | a
  · exact hs (e ▸ a)
  · exact a _ hd e

theorem sub_cons {x : Addr × Obj} {l s : Led} (h : x ∈ s) (t : ∀ p ∈ l, p ∈ s) : ∀ p ∈ x :: l, p ∈ s
  | _, .head _ => h
  | _, .tail _ e => t _ e
theorem sub_append {a b s : Led} (h : ∀ p ∈ a, p ∈ s) (t : ∀ p ∈ b, p ∈ s) : ∀ p ∈ a ++ b, p ∈ s := fun p hp => (List.mem_append.mp hp).elim (h p) (t p)
/-- The iterator `it` of the ledger's `led`: n turns, at each a value that P tells. -/
structure Iters (prog : Program) (w : World) (A : Around) (h₀ : Heap) (L : Addr) (m : Str → Option Value) (led : Led) (src : List Addr) (n : Nat) (P : Nat → Value → Prop) (I : Addr) (fp wr : List Addr) (St : Nat → Heap → Prop) (s₂ : Shared) : Prop where
  W : Walks prog w A I fp wr n P St
  st : St 0 s₂.heap
  fpb : ∀ b ∈ fp, b < s₂.heap.objs.size
  fps : ∀ b ∈ fp, b ∈ wr ∨ b ∈ src
  ws : ∀ b ∈ wr, b ∉ src
  hL : L ∉ fp
  wr0 : ∀ b ∈ wr, h₀.get? b = none
  F : Fr h₀ L s₂.heap m
  N : News h₀ L s₂.heap led
  off : ∀ q ∈ led, q.1 ∉ wr
  live : ∀ i h, St i h → ∀ b ∈ wr, ∃ o, h.get? b = some o

section
variable {prog : Program} {w : World} {A : Around} {s : Shared} {E : Value → Shared → Prop} {h₀ : Heap} {L : Addr} {m : Str → Option Value} {led : Led}

theorem iters_new {src : List Addr} {n : Nat} {P : Nat → Value → Prop} {fp : List Addr} {St : Nat → Heap → Prop} (o : Obj) (F : Fr h₀ L s.heap m) (N : News h₀ L s.heap led)
    (W : Walks prog w A s.heap.objs.size fp [s.heap.objs.size] n P St) (hst : St 0 (s.heap.push o)) (hfp : ∀ b ∈ fp, b = s.heap.objs.size ∨ b ∈ src) (hsrc : ∀ b ∈ src, b < s.heap.objs.size ∧ b ≠ L) (hlive : ∀ i h, St i h → ∃ o, h.get? s.heap.objs.size = some o) :
    Iters prog w A h₀ L m led src n P s.heap.objs.size fp [s.heap.objs.size] St { s with heap := s.heap.push o } where
  W := W
  st := hst
  fpb := fun b hb => by
    show b < (s.heap.push o).objs.size
    rw [Heap.size_push]
    rcases hfp b hb with rfl | h
    · exact Nat.lt_succ_self _
    · exact Nat.lt_succ_of_lt (hsrc b h).1
  fps := fun b hb => (hfp b hb).imp (fun e => by simp [e]) id
  ws := fun b hb h => by rw [List.mem_singleton.mp hb] at h; exact absurd (hsrc _ h).1 (Nat.lt_irrefl _)
  hL := fun h => by
    rcases hfp L h with e | h
    · exact absurd F.ns.lt (e ▸ Nat.lt_irrefl _)
    · exact (hsrc L h).2 rfl
  wr0 := fun b hb => by rw [List.mem_singleton.mp hb]; exact next_is_new F
  F := F.push _
  N := fun p hp => ⟨Heap.get?_push_of_some _ (N p hp).1, (N p hp).2⟩
  off := fun q hq h => by
    have := Heap.lt_size (N q hq).1
    rw [List.mem_singleton.mp h] at this
    exact Nat.lt_irrefl _ this
  live := fun i h st b hb => by rw [List.mem_singleton.mp hb]; exact hlive i h st

theorem iters_list {l : Addr} {items : Array Value} {Q : Value → Shared → Prop} (hh : A.handled = none) (F : Fr h₀ L s.heap m) (N : News h₀ L s.heap led) (hl : s.heap.IsList l items) (hlL : l ≠ L)
    (h : ∀ fp wr St h tk, Iters prog w A h₀ L m led [l] items.size (fun i v => items[i]? = some v) s.heap.objs.size fp wr St { s with heap := h, toks := tk } → Q (.ref s.heap.objs.size) { s with heap := h, toks := tk }) :
    wpAny (model prog w) A (pyIter (.ref l)) Q E s := by
  have hlt : l < s.heap.objs.size := by obtain ⟨o, ho, _⟩ := hl; exact Heap.lt_size ho
  refine wpAny_pyIter_list hl (h _ _ _ _ _ (iters_new _ F N (Walks.list hh _ l (Nat.ne_of_lt hlt) items) ⟨⟨_, Heap.get?_push_size _ rfl, rfl, rfl⟩, hl.push _⟩ (fun b hb => by simpa using hb) (fun b hb => by rw [List.mem_singleton.mp hb]; exact ⟨hlt, hlL⟩) fun i h st => let ⟨⟨o, ho, _⟩, _⟩ := st; ⟨o, ho⟩))
theorem iters_tuple {l : Addr} {items : Array Value} {Q : Value → Shared → Prop} (hh : A.handled = none) (F : Fr h₀ L s.heap m) (N : News h₀ L s.heap led) (hl : s.heap.IsTuple l items) (hlL : l ≠ L)
    (h : ∀ fp wr St h tk, Iters prog w A h₀ L m led [l] items.size (fun i v => items[i]? = some v) s.heap.objs.size fp wr St { s with heap := h, toks := tk } → Q (.ref s.heap.objs.size) { s with heap := h, toks := tk }) :
    wpAny (model prog w) A (pyIter (.ref l)) Q E s := by
  have hlt : l < s.heap.objs.size := by obtain ⟨o, ho, _⟩ := hl; exact Heap.lt_size ho
  refine wpAny_pyIter_tuple hl (h _ _ _ _ _ (iters_new _ F N (Walks.tuple hh _ l (Nat.ne_of_lt hlt) items) ⟨⟨_, Heap.get?_push_size _ rfl, rfl, rfl⟩, hl.push _⟩ (fun b hb => by simpa using hb) (fun b hb => by rw [List.mem_singleton.mp hb]; exact ⟨hlt, hlL⟩) fun i h st => let ⟨⟨o, ho, _⟩, _⟩ := st; ⟨o, ho⟩))
theorem iters_range {l : Addr} {a b c : Int} {n : Nat} {t u v : Tok} {Q : Value → Shared → Prop} (hh : A.handled = none) (F : Fr h₀ L s.heap m) (N : News h₀ L s.heap led) (hl : IsRange s.heap l a b c t u v) (hs : Builtin.Range.small a b c = true) (hn : Builtin.Range.rangeSize a b c = n)
    (h : ∀ fp wr St h tk, Iters prog w A h₀ L m led [] n (fun i v => ∃ t, v = .int (a + i * c) t) s.heap.objs.size fp wr St { s with heap := h, toks := tk } → Q (.ref s.heap.objs.size) { s with heap := h, toks := tk }) :
    wpAny (model prog w) A (pyIter (.ref l)) Q E s := by
  refine wpAny_pyIter_range hl hs (h _ _ _ _ _ (iters_new _ F N (Walks.range hh _ a c n) ?_ (fun b hb => by simpa using hb) (fun b hb => nomatch hb) fun i h st => ⟨_, st⟩))
  have e1 : a + ((0 : Nat) : Int) * c = a := by simp
  have e2 : (n : Int) - ((0 : Nat) : Int) = n := by simp
  rw [e1, e2, hn]
  exact Heap.get?_push_size (h := s.heap) (o := ({ cls := .type "range_iterator", data := .fields #[rawInt a, rawInt (n : Int), rawInt c] } : Obj)) rfl
theorem iters_bytes {b : Array UInt8} {t : Tok} {Q : Value → Shared → Prop} (hh : A.handled = none) (F : Fr h₀ L s.heap m) (N : News h₀ L s.heap led)
    (h : ∀ fp wr St h tk, Iters prog w A h₀ L m led [] b.size (fun i v => ∃ c u, b[i]? = some c ∧ v = .int (c.toNat : Int) u) s.heap.objs.size fp wr St { s with heap := h, toks := tk } → Q (.ref s.heap.objs.size) { s with heap := h, toks := tk }) :
    wpAny (model prog w) A (pyIter (.bytes b t)) Q E s :=
  KBw.pyIter_bytes (h _ _ _ _ _ (iters_new _ F N (KBw.walks hh _ b t) ⟨_, Heap.get?_push_size _ rfl, rfl, rfl⟩ (fun b hb => by simpa using hb) (fun b hb => nomatch hb) fun i h st => let ⟨o, ho, _⟩ := st; ⟨o, ho⟩))
theorem iters_str {x : Str} {t : Tok} {Q : Value → Shared → Prop} (hh : A.handled = none) (F : Fr h₀ L s.heap m) (N : News h₀ L s.heap led)
    (h : ∀ fp wr St h tk, Iters prog w A h₀ L m led [] x.cps.size (SignAt x) s.heap.objs.size fp wr St { s with heap := h, toks := tk } → Q (.ref s.heap.objs.size) { s with heap := h, toks := tk }) :
    wpAny (model prog w) A (pyIter (.str x t)) Q E s := by
  cases ha : x.cps.all (· < 128)
  · exact wpAny_pyIter_wide ha (h _ _ _ _ _ (iters_new _ F N (Walks.strWide hh _ x t) ⟨_, Heap.get?_push_size _ rfl, rfl, rfl⟩ (fun b hb => by simpa using hb) (fun b hb => nomatch hb) fun i h st => let ⟨o, ho, _⟩ := st; ⟨o, ho⟩))
  · exact wpAny_pyIter_ascii ha (h _ _ _ _ _ (iters_new _ F N (Walks.strAscii hh _ x t) ⟨_, Heap.get?_push_size _ rfl, rfl, rfl⟩ (fun b hb => by simpa using hb) (fun b hb => nomatch hb) fun i h st => let ⟨o, ho, _⟩ := st; ⟨o, ho⟩))
theorem iters_dict {K : Type} [DecidableEq K] {knd : KeyKind prog w K} {d : Addr} {kvs : List (K × Value)} {ep : Nat} {Q : Value → Shared → Prop} (hh : A.handled = none) (F : Fr h₀ L s.heap m) (N : News h₀ L s.heap led) (lo : (d == sysModules) = false) (hd : s.heap.DictAt knd d kvs ep) (hlL : d ≠ L)
    (h : ∀ fp wr St h tk, Iters prog w A h₀ L m led [d] kvs.length (fun i v => ∃ k x, kvs[i]? = some (k, x) ∧ knd.is k v = true) s.heap.objs.size fp wr St { s with heap := h, toks := tk } → Q (.ref s.heap.objs.size) { s with heap := h, toks := tk }) :
    wpAny (model prog w) A (pyIter (.ref d)) Q E s := by
  have hlt : d < s.heap.objs.size := by obtain ⟨o, es, ho, _⟩ := hd; exact Heap.lt_size ho
  refine wpAny_pyIter_dict lo hd (h _ _ _ _ _ (iters_new _ F N (Walks.dictKeys hh _ d (Nat.ne_of_lt hlt) kvs ep) ⟨⟨_, Heap.get?_push_size _ rfl, rfl, rfl⟩, hd.at' fun o e => Heap.get?_push_of_some _ e⟩ (fun b hb => by simpa using hb) (fun b hb => by rw [List.mem_singleton.mp hb]; exact ⟨hlt, hlL⟩) fun i h st => let ⟨⟨o, ho, _⟩, _⟩ := st; ⟨o, ho⟩))
end

section
variable {prog : Program} {w : World} {A : Around} {s : Shared}

/-- the end of a turn -/
inductive Turn (h₀ : Heap) (L : Addr) (src : List Addr) (own : Led) (J : (Str → Option Value) → Led → Prop) (s₁ : Shared) : Shared → Prop
  | mk (h' : Heap) (tk : Nat) (m' : Str → Option Value) (nw' : Led) (F : Fr h₀ L h' m') (N : News h₀ L h' (nw' ++ own)) (hap : Apart own nw' src) (hJ : J m' nw') : Turn h₀ L src own J s₁ { s₁ with heap := h', toks := tk }
noncomputable def ForPost (h₀ : Heap) (L : Addr) (src : List Addr) (own : Led) (J : (Str → Option Value) → Led → Prop) (s₁ : Shared) (Q : Flow → Shared → Prop) (f : Flow) (s₂ : Shared) : Prop :=
  match f with
  | .ret v => Q (.ret v) s₂
  | .brk => Q .next s₂
  | _ => Turn h₀ L src own J s₁ s₂
section
variable {h₀ : Heap} {L : Addr} {m m' : Str → Option Value} {led nw : Led} {src : List Addr} {n : Nat} {P : Nat → Value → Prop} {I : Addr} {fp wr : List Addr} {St : Nat → Heap → Prop} {H h₁ : Heap}
/-- what the iterator's own step leaves -/
theorem step_keeps (W : Walks prog w A I fp wr n P St) (hLf : L ∉ fp) (hwr : ∀ b ∈ wr, h₀.get? b = none) (F' : Fr h₀ L H m') (N' : News h₀ L H nw) (hoff' : ∀ p ∈ nw, p.1 ∉ wr)
    (hk : ∀ b o, b ∉ wr → H.get? b = some o → h₁.get? b = some o) : Fr h₀ L h₁ m' ∧ News h₀ L h₁ nw :=
  ⟨⟨F'.ns.at' fun o e => hk _ o (fun h => hLf (W.sub _ h)) e, fun b o e => hk b o (fun hb => by rw [hwr b hb] at e; cases e) (F'.keep b o e), F'.above⟩, fun p hp => ⟨hk _ _ (hoff' p hp) (N' p hp).1, (N' p hp).2⟩⟩
/-- what a turn is told of its own objects: pre, and the iterator's -/
theorem own_told {pre own : Led} (ho : own = pre ++ ownOf h₀ fp h₁) (hLf : L ∉ fp) (hfs : ∀ b ∈ fp, b ∈ wr ∨ b ∈ src) (hpre : News h₀ L h₁ pre) (N' : News h₀ L h₁ nw) (hoff' : ∀ q ∈ nw, (∀ p ∈ pre, p.1 ≠ q.1) ∧ q.1 ∉ wr) :
    News h₀ L h₁ (nw ++ own) ∧ Apart own nw src := by
  subst ho
  exact ⟨fun p hp => (List.mem_append.mp hp).elim (N' p) fun hp => (List.mem_append.mp hp).elim (hpre p) (news_ownOf hLf p),
   fun p hp => (List.mem_append.mp hp).elim (fun h => .inr fun q hq => (hoff' q hq).1 p h) fun h => (hfs _ (ownOf_sub p h)).elim (fun hw => .inr fun q hq e => (hoff' q hq).2 (e ▸ hw)) .inl⟩
/-- what a turn leaves -/
inductive Left (h₀ : Heap) (L : Addr) (wr : List Addr) (St : Heap → Prop) (pre : Led) (J : (Str → Option Value) → Led → Prop) (s₂ : Shared) : Shared → Prop
  | mk (h' : Heap) (tk : Nat) (m' : Str → Option Value) (nw : Led) (hst : St h') (hpre : ∀ p ∈ pre, h'.get? p.1 = some p.2) (F : Fr h₀ L h' m') (N : News h₀ L h' nw) (hoff : ∀ q ∈ nw, (∀ p ∈ pre, p.1 ≠ q.1) ∧ q.1 ∉ wr) (hJ : J m' nw) :
    Left h₀ L wr St pre J s₂ { s₂ with heap := h', toks := tk }
theorem turn_left {pre own : Led} {J : (Str → Option Value) → Led → Prop} {i : Nat} {s₁ s₃ : Shared} {tk₁ : Nat} (ho : own = pre ++ ownOf h₀ fp h₁) (W : Walks prog w A I fp wr n P St) (hwr : ∀ b ∈ wr, h₀.get? b = none) (hws : ∀ b ∈ wr, b ∉ src) (hlive : ∀ i h, St i h → ∀ b ∈ wr, ∃ o, h.get? b = some o)
    (hps : ∀ p ∈ pre, p.1 ∉ src) (F : Fr h₀ L h₁ m') (hst : St i h₁) (h : Turn h₀ L src own J { s₁ with heap := h₁, toks := tk₁ } s₃) : Left h₀ L wr (St i) pre J s₁ s₃ := by
  subst ho
  obtain ⟨h₃, tk₃, m₃, nw₃, F₃, N₃, hap₃, hJ₃⟩ := h
  refine .mk h₃ tk₃ m₃ nw₃ (W.frame _ _ _ hst fun b hb o e => ?_) (fun p hp => (N₃ p (List.mem_append_right _ (List.mem_append_left _ hp))).1) F₃ (fun p hp => N₃ p (List.mem_append_left _ hp))
    (fun q hq => ⟨fun p hp e => (hap₃ p (List.mem_append_left _ hp)).elim (hps p hp) fun k => k q hq e, fun hw => ?_⟩) hJ₃
  · cases hn : h₀.get? b with
    | some o₀ =>
      have : o₀ = o := by have := F.keep b o₀ hn; rw [e] at this; exact (Option.some.inj this).symm
      exact this ▸ F₃.keep b o₀ hn
    | none => exact (N₃ _ (List.mem_append_right _ (List.mem_append_right _ (mem_ownOf hb hn e)))).1
  · obtain ⟨o, e⟩ := hlive _ _ hst _ hw
    exact (hap₃ _ (List.mem_append_right _ (mem_ownOf (W.sub _ hw) (hwr _ hw) e))).elim (hws _ hw) fun k => k q hq rfl
/-- where a for's loop stands -/
inductive LoopI (h₀ : Heap) (L : Addr) (wr : List Addr) (St : Nat → Heap → Prop) (J : Nat → (Str → Option Value) → Led → Prop) (n : Nat) (s₂ : Shared) : Nat → Shared → Prop
  | mk (h' : Heap) (tk : Nat) (m' : Str → Option Value) (nw : Led) (i : Nat) (hst : St i h') (F : Fr h₀ L h' m') (N : News h₀ L h' nw) (hoff : ∀ p ∈ nw, p.1 ∉ wr) (hJ : J i m' nw) (hi : i ≤ n) :
    LoopI h₀ L wr St J n s₂ (n + 1 - i) { s₂ with heap := h', toks := tk }
/-- one turn of a for's loop -/
theorem loop_step {s₂ : Shared} (T : Iters prog w A h₀ L m led src n P I fp wr St s₂) (F' : Fr h₀ L H m') (N' : News h₀ L H nw) (hoff' : ∀ p ∈ nw, p.1 ∉ wr)
    (hk : ∀ b o, b ∉ wr → H.get? b = some o → h₁.get? b = some o) : Fr h₀ L h₁ m' ∧ News h₀ L h₁ (nw ++ ownOf h₀ fp h₁) ∧ Apart (ownOf h₀ fp h₁) nw src :=
  let ⟨F₁, N₁⟩ := step_keeps T.W T.hL T.wr0 F' N' hoff' hk
  ⟨F₁, own_told (pre := []) (List.nil_append _).symm T.hL T.fps (fun p h => nomatch h) N₁ fun q hq => ⟨(fun p h => nomatch h), hoff' q hq⟩⟩
theorem loop_after {J : Nat → (Str → Option Value) → Led → Prop} {i tk₁ : Nat} {s₂ s₄ : Shared} (T : Iters prog w A h₀ L m led src n P I fp wr St s₂) (hlt : i < n) (F : Fr h₀ L h₁ m') (hst : St (i + 1) h₁)
    (h : Turn h₀ L src (ownOf h₀ fp h₁) (J (i + 1)) { s₂ with heap := h₁, toks := tk₁ } s₄) : ∃ m₁, m₁ < n + 1 - i ∧ LoopI h₀ L wr St J n s₂ m₁ s₄ := by
  obtain ⟨h₃, tk₃, m₃, nw₃, hst₃, _, F₃, N₃, hoff₃, hJ₃⟩ := turn_left (pre := []) (List.nil_append _).symm T.W T.wr0 T.ws T.live (fun p h => nomatch h) F hst h
  exact ⟨_, by omega, .mk h₃ tk₃ m₃ nw₃ (i + 1) hst₃ F₃ N₃ (fun q hq => (hoff₃ q hq).2) hJ₃ hlt⟩
end
theorem all_two {α : Type} {C : α → Prop} {p q : α} (hp : C p) (hq : C q) : ∀ x ∈ [p, q], C x
  | _, .head _ => hp
  | _, .tail _ (.head _) => hq
theorem news_two {h₀ h : Heap} {L : Addr} {p q : Addr × Obj} (hp : h.get? p.1 = some p.2 ∧ p.1 ≠ L ∧ h₀.get? p.1 = none) (hq : h.get? q.1 = some q.2 ∧ q.1 ≠ L ∧ h₀.get? q.1 = none) : News h₀ L h [p, q] := all_two hp hq
theorem all_cons {α : Type} {C : α → Prop} {p : α} {l : List α} (hp : C p) (hl : ∀ x ∈ l, C x) : ∀ x ∈ p :: l, C x
  | _, .head _ => hp
  | _, .tail _ h => hl _ h
/-- where a comprehension's loop stands -/
inductive CompI (h₀ : Heap) (C D L : Addr) (wr : List Addr) (x : Str) (m : Str → Option Value) (cell : Heap → Prop) (St : Nat → Heap → Prop) (J : Nat → List Value → Led → Prop) (n : Nat) (s : Shared) : Nat → Shared → Prop
  | mk (h' : Heap) (tk : Nat) (m' : Str → Option Value) (nw : Led) (acc : List Value) (i : Nat) (hst : St i h') (hacc : h'.PlainList D acc.toArray) (hn : h'.Ns C m') (hm : ∀ y, y ≠ x → m' y = none) (hc : cell h') (F : Fr h₀ L h' m) (N : News h₀ L h' nw)
    (hoff : ∀ q ∈ nw, q.1 ≠ C ∧ q.1 ≠ D ∧ q.1 ∉ wr) (hlen : acc.length ≤ i) (hJ : J i acc nw) (hi : i ≤ n) : CompI h₀ C D L wr x m cell St J n s (n + 1 - i) { s with heap := h', toks := tk }
theorem compLoop_J {R : Result → Shared → Prop} {elt iter : Expr} {x : Str} {px : Pos} {ifs : List Expr} {scope : Scope} {pos : Pos} {I D C : Addr} {fp wr src : List Addr} {n : Nat} {P : Nat → Value → Prop} {St : Nat → Heap → Prop}
    {cenv : Env} {h₀ : Heap} {L : Addr} {m : Str → Option Value} {led : Led} (W : Walks prog w A I fp wr n P St)
    (hC : cenv.locals = C) (hx : cenv.kindOf x = some .local) (hp : (cenv.scope.kind == .class || (cenv.scope.kind == .module && cenv.locals != cenv.globals)) = false)
    (hC0 : h₀.get? C = none) (hCL : C ≠ L) (hD0 : h₀.get? D = none) (hDL : D ≠ L) (hDC : D ≠ C) (hDf : D ∉ fp) (hCf : C ∉ fp) (hLf : L ∉ fp) (hwr : ∀ b ∈ wr, h₀.get? b = none)
    (hfs : ∀ b ∈ fp, b ∈ wr ∨ b ∈ src) (hws : ∀ b ∈ wr, b ∉ src) (hCs : C ∉ src) (hDs : D ∉ src) (hlive : ∀ i h, St i h → ∀ b ∈ wr, ∃ o, h.get? b = some o)
    (hst : St 0 s.heap) (hacc : s.heap.PlainList D #[]) (hn : s.heap.Ns C (fun _ => none)) (F : Fr h₀ L s.heap m) (N : News h₀ L s.heap led)
    (J : Nat → List Value → Led → Prop) (h0 : J 0 [] led) (hoff : ∀ q ∈ led, q.1 ≠ C ∧ q.1 ≠ D ∧ q.1 ∉ wr)
    (turn : ∀ i v acc nw oC own h tk, i < n → P i v → J i acc nw → acc.length ≤ i → NsO oC (fun y => if y = x then some v else none) → (C, oC) ∈ own →
      Fr h₀ L h m → News h₀ L h (nw ++ own) → Apart own nw src →
      wpAny (model prog w) A (forIn ifs true fun c r => if r = true then do let ok ← isTrue c cenv (eval c cenv); pure (ForInStep.yield ok) else pure (ForInStep.yield r))
        (fun ok s₂ => if ok = true then wpAny (model prog w) A (eval elt cenv) (fun y s₃ => Turn h₀ L src own (fun m' nw' => m' = m ∧ J (i + 1) (acc ++ [y]) nw') { s with heap := h, toks := tk } s₃) (notedBy (model prog w) A cenv fun e s' => R (.error e) s') s₂
          else Turn h₀ L src own (fun m' nw' => m' = m ∧ J (i + 1) acc nw') { s with heap := h, toks := tk } s₂) (notedBy (model prog w) A cenv fun e s' => R (.error e) s') { s with heap := h, toks := tk })
    (hR : ∀ h' tk m' acc nw, h'.Ns C m' → h'.PlainList D acc.toArray → Fr h₀ L h' m → News h₀ L h' nw → (∀ q ∈ nw, q.1 ≠ C ∧ q.1 ≠ D) → acc.length ≤ n → J n acc nw → R (.ok .next) { s with heap := h', toks := tk })
    (hsz : n ≤ sizeLine) :
    codeAny (model prog w) A (.compLoop (.ListComp elt [⟨.Name x px, iter, ifs, 0⟩] scope pos) 0 (.ref I) (.ref D) cenv) R s := by
  subst hC
  refine codeAny_compLoop_tests (CompI h₀ cenv.locals D L wr x m (fun _ => True) St J n s) ?_ (n + 1) (.mk s.heap s.toks _ led [] 0 hst hacc hn (fun _ _ => rfl) trivial F N hoff (Nat.le_refl _) h0 (Nat.zero_le _))
  rintro k s' ⟨H, tk, m', nw, acc, i, hst', hacc', hn', hm', _, F', N', hoff', hlen, hJ, hi⟩
  have hCw : cenv.locals ∉ wr := fun h => hCf (W.sub _ h)
  have hDw : D ∉ wr := fun h => hDf (W.sub _ h)
  by_cases hlt : i < n
  · refine W.item i _ _ _ hlt hst' fun v h₁ tk₁ hPv hst₁ hk₁ => ?_
    obtain ⟨F₁, N₁⟩ := step_keeps W hLf hwr F' N' (fun q hq => (hoff' q hq).2.2) hk₁
    refine wpAny_assign_Name (wpAny_storeName_local hx (hn'.at' fun o e => hk₁ _ o hCw e) (fun h₂ hn₂ hs₂ => ?_) hp)
    have hmx : (fun y => if y = x then some v else m' y) = fun y => if y = x then some v else none := by
      funext y; by_cases e : y = x
      · rw [if_pos e, if_pos e]
      · rw [if_neg e, if_neg e, hm' y e]
    rw [hmx] at hn₂
    have F₂ : Fr h₀ L h₂ m := F₁.change hs₂ hCL hC0
    have N₂ : News h₀ L h₂ nw := fun p hp => ⟨(hs₂.2 _ (hoff' p hp).1).trans (N₁ p hp).1, (N₁ p hp).2⟩
    have hst₂ : St (i + 1) h₂ := W.frame _ _ _ hst₁ fun b hb o e => hs₂.extBut b o (fun h => hCf (h ▸ hb)) e
    obtain ⟨oC, hoC, hNC⟩ := NsO.of hn₂
    obtain ⟨nD, hoD⟩ : h₂.PlainList D acc.toArray := hacc'.at fun o e => hs₂.extBut _ o hDC (hk₁ _ o hDw e)
    have NC : News h₀ L h₂ [(cenv.locals, oC), (D, listOf acc.toArray nD)] := news_two ⟨hoC, hCL, hC0⟩ ⟨hoD, hDL, hD0⟩
    obtain ⟨NN, hap⟩ := own_told (src := src) (pre := [(cenv.locals, oC), (D, listOf acc.toArray nD)]) rfl hLf hfs NC N₂ fun q hq => ⟨all_two (Ne.symm (hoff' q hq).1) (Ne.symm (hoff' q hq).2.1), (hoff' q hq).2.2⟩
    have after : ∀ (J' : Led → Prop) (s₃ : Shared), Turn h₀ L src _ (fun m' nw' => m' = m ∧ J' nw') { s with heap := h₂, toks := tk₁ + 1 } s₃ → _ := fun J' s₃ h => turn_left rfl W hwr hws hlive (all_two (C := fun p : Addr × Obj => p.1 ∉ src) (p := (cenv.locals, oC)) (q := (D, listOf acc.toArray nD)) hCs hDs) F₂ hst₂ h
    refine wpAny_mono (turn i v acc nw oC _ _ _ hlt hPv hJ hlen hNC (.head _) F₂ NN hap) (fun ok s₃ h₃ => ?_) fun _ _ e => e
    cases ok with
    | false =>
      rw [if_neg Bool.false_ne_true] at h₃ ⊢
      obtain ⟨g₃, tk₃, m₃, nw₃, hst₃, hp₃, F₃, N₃, hoff₃, e₃, hJ₃⟩ := after _ _ h₃
      exact ⟨_, by omega, .mk g₃ tk₃ _ nw₃ acc (i + 1) hst₃ ⟨nD, hp₃ _ (.tail _ (.head _))⟩ (hNC _ _ (hp₃ _ (.head _))) (fun y hy => if_neg hy) trivial (e₃ ▸ F₃) N₃ (fun q hq => ⟨Ne.symm ((hoff₃ q hq).1 _ (.head _)), Ne.symm ((hoff₃ q hq).1 _ (.tail _ (.head _))), (hoff₃ q hq).2⟩) (Nat.le_succ_of_le hlen) hJ₃ hlt⟩
    | true =>
      rw [if_pos rfl] at h₃ ⊢
      refine wpAny_mono h₃ (fun y s₄ h₄ => ?_) fun _ _ e => e
      obtain ⟨h₃, tk₃, m₃, nw₃, hst₃, hp₃, F₃, N₃, hoff₃, e₃, hJ₃⟩ := after _ _ h₄
      refine wpAny_list_append_plain (hsz := by rw [List.size_toArray]; omega) ⟨nD, hp₃ _ (.tail _ (.head _))⟩ fun h₅ hl₅ hs₅ => ?_
      exact ⟨_, by omega, .mk h₅ tk₃ _ nw₃ (acc ++ [y]) (i + 1) (W.frame _ _ h₅ hst₃ fun b hb o e => hs₅.extBut b o (fun h => hDf (h ▸ hb)) e) (by rw [← List.push_toArray]; exact hl₅) ((hNC _ _ (hp₃ _ (.head _))).sameBut hs₅ (Ne.symm hDC)) (fun y hy => if_neg hy) trivial ((e₃ ▸ F₃ : Fr h₀ L h₃ m).change hs₅ hDL hD0)
        (fun p hp => ⟨(hs₅.2 _ (Ne.symm ((hoff₃ p hp).1 _ (.tail _ (.head _))))).trans (N₃ p hp).1, (N₃ p hp).2⟩) (fun q hq => ⟨Ne.symm ((hoff₃ q hq).1 _ (.head _)), Ne.symm ((hoff₃ q hq).1 _ (.tail _ (.head _))), (hoff₃ q hq).2⟩) (by rw [List.length_append]; exact Nat.succ_le_succ hlen) hJ₃ hlt⟩
  · have hin : i = n := by omega
    subst hin
    refine W.done _ _ _ hst' fun h₁ tk₁ hk₁ => ?_
    obtain ⟨F₁, N₁⟩ := step_keeps W hLf hwr F' N' (fun q hq => (hoff' q hq).2.2) hk₁
    exact hR h₁ tk₁ m' acc nw (hn'.at' fun o e => hk₁ _ o hCw e) (hacc'.at fun o e => hk₁ _ o hDw e) F₁ N₁ (fun q hq => ⟨(hoff' q hq).1, (hoff' q hq).2.1⟩) hlen hJ
end

section
variable {prog : Program} {w : World} {A : Around} {s : Shared} {E : Value → Shared → Prop} {env : Env} {h₀ : Heap}

/-- what a list comprehension's loop shows -/
noncomputable def CompTurns (prog : Program) (w : World) (A : Around) (env : Env) (scope : Scope) (cl : List (Str × Addr)) (x : Str) (ifs : List Expr) (elt : Expr) (h₀ : Heap) (L : Addr) (m : Str → Option Value) (src : List Addr) (n : Nat) (P : Nat → Value → Prop) (J : Nat → List Value → Led → Prop) (s₂ : Shared) : Prop :=
  ∀ C i v acc nw oC own h tk E', i < n → P i v → J i acc nw → acc.length ≤ i → NsO oC (fun y => if y = x then some v else none) → (C, oC) ∈ own →
      Fr h₀ L h m → News h₀ L h (nw ++ own) → Apart own nw src →
      wpAny (model prog w) A (forIn ifs true fun c r => if r = true then do let ok ← isTrue c (compEnvC scope cl C env) (eval c (compEnvC scope cl C env)); pure (ForInStep.yield ok) else pure (ForInStep.yield r))
        (fun ok s₃ => if ok = true then wpAny (model prog w) A (eval elt (compEnvC scope cl C env)) (fun y s₄ => Turn h₀ L src own (fun m' nw' => m' = m ∧ J (i + 1) (acc ++ [y]) nw') { s₂ with heap := h, toks := tk } s₄) E' s₃
          else Turn h₀ L src own (fun m' nw' => m' = m ∧ J (i + 1) acc nw') { s₂ with heap := h, toks := tk } s₃) E' { s₂ with heap := h, toks := tk }
inductive CompAt (prog : Program) (w : World) (A : Around) (env : Env) (scope : Scope) (cl : List (Str × Addr)) (x : Str) (ifs : List Expr) (elt : Expr) (h₀ : Heap) (Q : Value → Shared → Prop) : Value → Shared → Prop
  | mk (L : Addr) (m : Str → Option Value) (led : Led) (src : List Addr) (n : Nat) (P : Nat → Value → Prop) (I : Addr) (fp wr : List Addr) (St : Nat → Heap → Prop) (s₂ : Shared)
    (T : Iters prog w A h₀ L m led src n P I fp wr St s₂) (hsz : n ≤ sizeLine) (hsrc : ∀ b ∈ src, b < s₂.heap.objs.size) (J : Nat → List Value → Led → Prop) (h0 : J 0 [] led)
    (turn : CompTurns prog w A env scope cl x ifs elt h₀ L m src n P J s₂)
    (hQ : ∀ D nD h' tk acc nw, Fr h₀ L h' m → News h₀ L h' ((D, listOf acc.toArray nD) :: nw) → (∀ q ∈ nw, q.1 ≠ D) → acc.length ≤ n → J n acc nw → Q (.ref D) { s₂ with heap := h', toks := tk }) :
    CompAt prog w A env scope cl x ifs elt h₀ Q (.ref I) s₂
inductive CompAs (prog : Program) (w : World) (A : Around) (env : Env) (scope : Scope) (cl : List (Str × Addr)) (x y : Str) (ifs : List Expr) (elt : Expr) (h₀ : Heap) (Q : Flow → Shared → Prop) : Value → Shared → Prop
  | mk (m : Str → Option Value) (led : Led) (src : List Addr) (n : Nat) (P : Nat → Value → Prop) (I : Addr) (fp wr : List Addr) (St : Nat → Heap → Prop) (s₂ : Shared)
    (T : Iters prog w A h₀ env.locals m led src n P I fp wr St s₂) (hsz : n ≤ sizeLine) (hsrc : ∀ b ∈ src, b < s₂.heap.objs.size) (J : Nat → List Value → Led → Prop) (h0 : J 0 [] led)
    (turn : CompTurns prog w A env scope cl x ifs elt h₀ env.locals m src n P J s₂)
    (hQ : ∀ D nD h' tk acc nw, Fr h₀ env.locals h' (fun z => if z = y then some (.ref D) else m z) → News h₀ env.locals h' ((D, listOf acc.toArray nD) :: nw) → (∀ q ∈ nw, q.1 ≠ D) → acc.length ≤ n → J n acc nw → Q .next { s₂ with heap := h', toks := tk }) :
    CompAs prog w A env scope cl x y ifs elt h₀ Q (.ref I) s₂

theorem comp_block {elt iter : Expr} {x : Str} {px : Pos} {ifs : List Expr} {scope : Scope} {cl : List (Str × Addr)} {pos : Pos} {RR : Value → Addr → Result → Shared → Prop} {s₂ : Shared} {L : Addr} {m : Str → Option Value} {led : Led} {src : List Addr} {n : Nat} {P : Nat → Value → Prop} {I : Addr} {fp wr : List Addr} {St : Nat → Heap → Prop} (J : Nat → List Value → Led → Prop)
    (hcell : ∀ y ∈ scope.names, y.2 ≠ .cell) (hkind : scope.kind = .function) (hx : scope.names.lookup x = some .local)
    (T : Iters prog w A h₀ L m led src n P I fp wr St s₂) (hsz : n ≤ sizeLine) (hsrc : ∀ b ∈ src, b < s₂.heap.objs.size) (h0 : J 0 [] led)
    (turn : CompTurns prog w A env scope cl x ifs elt h₀ L m src n P J s₂)
    (hRR : ∀ D C nD h' tk m' acc nw, h₀.get? C = none → C ≠ L → h₀.get? D = none → D ≠ L → D ≠ C → h'.Ns C m' → h'.get? D = some (listOf acc.toArray nD) → Fr h₀ L h' m → News h₀ L h' nw → (∀ q ∈ nw, q.1 ≠ C ∧ q.1 ≠ D) → acc.length ≤ n → J n acc nw → RR (.ref D) C (.ok .next) { s₂ with heap := h', toks := tk }) :
    wpAny (model prog w) A (newList []) (fun acc s₃ => wpAny (model prog w) A (newFunctionEnv scope env.globals cl [] env.qual none .none (some env)) (fun cenv s₄ =>
      codeAny (model prog w) A (.compStart (.ListComp elt [⟨.Name x px, iter, ifs, 0⟩] scope pos) 0 (.ref I) acc { cenv with scope := relabel scope env }) (RR acc cenv.locals) s₄) E s₃) E s₂ := by
  obtain ⟨W, hst, hfp, hfs, hws, hLf, hwr, F, N, hoff, hlive⟩ := T
  refine wpAny_newObj_type (wpAny_newFunctionEnv hcell (by intro y hy; simp at hy) (fun h₁ hns₁ hsb₁ => ?_) hkind)
  dsimp only at hns₁ hsb₁ ⊢
  generalize hH2 : s₂.heap.push { cls := .type "list", dict := none, data := .seq ([] : List Value).toArray } = H2 at hns₁ hsb₁ ⊢
  have hC : H2.objs.size = s₂.heap.objs.size + 1 := by rw [← hH2, Heap.size_push]
  have hDC : s₂.heap.objs.size ≠ H2.objs.size := by rw [hC]; exact Nat.ne_of_lt (Nat.lt_succ_self _)
  have below : ∀ b, b < s₂.heap.objs.size → b ≠ H2.objs.size ∧ b ≠ s₂.heap.objs.size := fun b hb => ⟨by rw [hC]; exact Nat.ne_of_lt (Nat.lt_succ_of_lt hb), Nat.ne_of_lt hb⟩
  have old : ∀ b o, s₂.heap.get? b = some o → h₁.get? b = some o := fun b o e => hsb₁.extBut b o (below b (Heap.lt_size e)).1 (Heap.get?_push_of_some _ (hH2 ▸ Heap.get?_push_of_some _ e))
  have hacc : h₁.PlainList s₂.heap.objs.size #[] := ⟨_, hsb₁.extBut _ _ hDC (Heap.get?_push_of_some _ (hH2 ▸ Heap.get?_push_size _ rfl))⟩
  have hst₁ : St 0 h₁ := W.frame _ _ _ hst fun b _ o e => old b o e
  have fresh : ∀ a, s₂.heap.objs.size ≤ a → h₀.get? a = none := fun a ha => Heap.get?_none_of_le (Nat.le_trans (Nat.le_of_lt (Nat.lt_of_le_of_lt F.above F.ns.lt)) ha)
  have F₁ : Fr h₀ L h₁ m := ⟨F.ns.at' fun o e => old _ o e, fun b o e => old b o (F.keep b o e), F.above⟩
  have N₁ : News h₀ L h₁ led := fun p hp => ⟨old _ _ (N p hp).1, (N p hp).2⟩
  have hLs : L < s₂.heap.objs.size := F.ns.lt
  have loop : ∀ s₃ : Shared, s₃ = { s₂ with heap := h₁, toks := s₂.toks + ([] : List (Str × Value)).length } →
      codeAny (model prog w) A (.compLoop (.ListComp elt [⟨.Name x px, iter, ifs, 0⟩] scope pos) 0 (.ref I) (.ref s₂.heap.objs.size) (compEnvC scope cl H2.objs.size env))
        (RR (.ref s₂.heap.objs.size) H2.objs.size) s₃ := by
    rintro s₃ rfl
    refine compLoop_J (hsz := hsz) (cenv := compEnvC scope cl H2.objs.size env) (C := H2.objs.size) W rfl (lookup_relabel_local hx) (by simp [compEnvC, relabel, hkind]) (fresh _ (by rw [hC]; exact Nat.le_succ _)) (below _ hLs).1.symm (fresh _ (Nat.le_refl _)) (below _ hLs).2.symm hDC
      (fun hm => Nat.lt_irrefl _ (hfp _ hm)) (fun hm => by have := hfp _ hm; rw [hC] at this; exact Nat.lt_irrefl _ (Nat.lt_of_succ_lt this)) hLf hwr hfs hws (fun hm => by have := hsrc _ hm; rw [hC] at this; exact Nat.lt_irrefl _ (Nat.lt_of_succ_lt this)) (fun hm => Nat.lt_irrefl _ (hsrc _ hm)) hlive
      hst₁ hacc hns₁ F₁ N₁ J h0 (fun q hq => ⟨(below _ (Heap.lt_size (N q hq).1)).1, (below _ (Heap.lt_size (N q hq).1)).2, hoff q hq⟩)
      (fun i v acc nw oC own hh tk hi hP hJ hl hN hm F' N' hap => turn _ i v acc nw oC own hh tk _ hi hP hJ hl hN hm F' N' hap)
      (fun h' tk m' acc nw hn ha F' N' hoff' hl hJ => ?_)
    obtain ⟨nD, hD⟩ := ha
    exact hRR s₂.heap.objs.size H2.objs.size nD h' tk m' acc nw (fresh _ (by rw [hC]; exact Nat.le_succ _)) (below _ hLs).1.symm (fresh _ (Nat.le_refl _)) (below _ hLs).2.symm hDC hn hD F' N' hoff' hl hJ
  exact codeAny_compStart_list (loop _ rfl) (W.self 0 _ _ _ hst₁ (loop _ rfl))

theorem comp_J {elt iter : Expr} {x : Str} {px : Pos} {ifs : List Expr} {scope : Scope} {cl : List (Str × Addr)} {pos : Pos} {Q : Value → Shared → Prop} (h₀ : Heap)
    (hclos : closureFor scope env = pure cl) (hcell : ∀ y ∈ scope.names, y.2 ≠ .cell) (hkind : scope.kind = .function)
    (hnames : ∀ y ∈ scope.names, y.2 = .local → scope.names.lookup y.1 = some .local) (hx : scope.names.lookup x = some .local)
    (h : wpAny (model prog w) A (eval iter env) (fun xv s₁ => wpAny (model prog w) A (pyIter xv) (fun it s₂ => CompAt prog w A env scope cl x ifs elt h₀ Q it s₂) E s₁) E s)
    (hs : ∀ x, foldedSetIterable iter env x = pure x) :
    wpAny (model prog w) A (eval (.ListComp elt [⟨.Name x px, iter, ifs, 0⟩] scope pos) env) Q E s := by
  rw [eval_ListComp]
  refine wpAny_comprehension_free (use := none) rfl hs hclos hkind hnames (wpAny_mono h (fun xv s₁ h₁ => wpAny_mono h₁ (fun it s₂ h₂ => ?_) fun _ _ e => e) fun _ _ e => e)
  obtain ⟨L, m, led, src, n, P, I, fp, wr, St, _, T, hsz, hsrc, J, h0, turn, hQ⟩ := h₂
  refine comp_block (RR := fun acc C => compPost (model prog w) A E none Q acc C) J hcell hkind hx T hsz hsrc h0 turn ?_
  intro D C nD h' tk m' acc nw hC0 hCL hD0 hDL hDC hn hD F' N' hoff' hl hJ
  refine ⟨m', hn, fun h'' hs'' => ?_⟩
  refine hQ D nD h'' tk acc nw (F'.change hs'' hCL hC0) ?_ (fun q hq => (hoff' q hq).2) hl hJ
  intro p hp
  rcases List.mem_cons.mp hp with rfl | hp
  · exact ⟨hs''.extBut _ _ hDC hD, hDL, hD0⟩
  · exact ⟨(hs''.2 _ (hoff' p hp).1).trans (N' p hp).1, (N' p hp).2⟩

theorem comp_Ja {elt iter : Expr} {x y : Str} {px py : Pos} {ifs : List Expr} {scope : Scope} {cl : List (Str × Addr)} {pos spos : Pos} {Q : Flow → Shared → Prop} (h₀ : Heap)
    (hsw : swapsWith (.ListComp elt [⟨.Name x px, iter, ifs, 0⟩] scope pos) (some (.Name y py)) spos.line env = pure true)
    (hclos : closureFor scope env = pure cl) (hcell : ∀ y ∈ scope.names, y.2 ≠ .cell) (hkind : scope.kind = .function)
    (hnames : ∀ y ∈ scope.names, y.2 = .local → scope.names.lookup y.1 = some .local) (hx : scope.names.lookup x = some .local)
    (hy : env.kindOf y = some .local) (hp : (env.scope.kind == .class || (env.scope.kind == .module && env.locals != env.globals)) = false)
    (h : wpAny (model prog w) A (eval iter env) (fun xv s₁ => wpAny (model prog w) A (pyIter xv) (fun it s₂ => CompAs prog w A env scope cl x y ifs elt h₀ Q it s₂) E s₁) E s)
    (hs : ∀ x, foldedSetIterable iter env x = pure x) :
    wpAny (model prog w) A (exec (.Assign [.Name y py] (.ListComp elt [⟨.Name x px, iter, ifs, 0⟩] scope pos) spos) env) Q E s := by
  rw [exec_Assign_Name_used _ _ _ _ hsw]
  refine wpAny_bind (wpAny_standAt (wpAny_bind ?_))
  show wpAny _ A (do let _ ← comprehension (.ListComp elt [⟨.Name x px, iter, ifs, 0⟩] scope pos) scope env _ (newList []) false (eval iter env) (some (assign (.Name y py) env))) _ _ s
  refine wpAny_bind (wpAny_mono (wpAny_comprehension_free (use := some (assign (.Name y py) env)) (Q := fun _ s' => Q .next s') rfl hs hclos hkind hnames
    (wpAny_mono h (fun xv s₁ h₁ => wpAny_mono h₁ (fun it s₂ h₂ => ?_) fun _ _ e => e) fun _ _ e => e)) (fun _ s' hq => wpAny_pure (wpAny_pure hq)) fun _ _ e => e)
  obtain ⟨m, led, src, n, P, I, fp, wr, St, _, T, hsz, hsrc, J, h0, turn, hQ⟩ := h₂
  refine comp_block (RR := fun acc C => compPost (model prog w) A E (some (assign (.Name y py) env)) (fun _ s' => Q .next s') acc C) J hcell hkind hx T hsz hsrc h0 turn ?_
  intro D C nD h' tk m' acc nw hC0 hCL hD0 hDL hDC hnC hD F' N' hoff' hl hJ
  show wpAny _ A (assign (.Name y py) env (.ref D)) _ _ _
  refine wpAny_assign_Name (wpAny_storeName_local hy F'.ns (fun h₂ hn₂ hs₂ => ?_) hp)
  refine ⟨m', hnC.sameBut hs₂ hCL, fun h₃ hs₃ => ?_⟩
  refine hQ D nD h₃ _ acc nw ((F'.set hn₂ hs₂).change hs₃ hCL hC0) ?_ (fun q hq => (hoff' q hq).2) hl hJ
  intro p hp
  rcases List.mem_cons.mp hp with rfl | hp
  · exact ⟨hs₃.extBut _ _ hDC (hs₂.extBut _ _ hDL hD), hDL, hD0⟩
  · exact ⟨(hs₃.2 _ (hoff' p hp).1).trans ((hs₂.2 _ (N' p hp).2.1).trans (N' p hp).1), (N' p hp).2⟩

/-- what a for's loop shows -/
inductive ForAt (prog : Program) (w : World) (A : Around) (env : Env) (target : Expr) (body : List Stmt) (h₀ : Heap) (Q : Flow → Shared → Prop) : Value → Shared → Prop
  | mk (m : Str → Option Value) (led : Led) (src : List Addr) (n : Nat) (P : Nat → Value → Prop) (I : Addr) (fp wr : List Addr) (St : Nat → Heap → Prop) (s₂ : Shared)
    (T : Iters prog w A h₀ env.locals m led src n P I fp wr St s₂) (J : Nat → (Str → Option Value) → Led → Prop) (h0 : J 0 m led)
    (turn : ∀ (Qx : Flow → Shared → Prop) i v m₁ nw own h tk E', i < n → P i v → J i m₁ nw → Fr h₀ env.locals h m₁ → News h₀ env.locals h (nw ++ own) → Apart own nw src →
      wpAny (model prog w) A (assign target env v) (fun _ s₃ => wpAny (model prog w) A (execs body env) (ForPost h₀ env.locals src own (J (i + 1)) { s₂ with heap := h, toks := tk } Qx) E' s₃) E' { s₂ with heap := h, toks := tk })
    (hQ : ∀ h' tk m' nw, Fr h₀ env.locals h' m' → News h₀ env.locals h' nw → J n m' nw → Q .next { s₂ with heap := h', toks := tk }) :
    ForAt prog w A env target body h₀ Q (.ref I) s₂

theorem for_J {target iter : Expr} {body : List Stmt} {pos : Pos} {Q : Flow → Shared → Prop} (h₀ : Heap)
    (h : wpAny (model prog w) A (eval iter env) (fun xv s₁ => wpAny (model prog w) A (pyIter xv) (fun it s₂ => ForAt prog w A env target body h₀ Q it s₂) E s₁) E s)
    (hs : ∀ x, foldedSetIterable iter env x = pure x)
    (ht : ∀ I v, letOwnedTupleGo target (.ref I) v = pure ()) :
    wpAny (model prog w) A (exec (.For target iter body [] pos) env) Q E s := by
  refine wpAny_For (wpAny_mono h (fun xv s₁ h₁ => wpAny_mono h₁ (fun it s₂ h₂ => ?_) fun _ _ e => e) fun _ _ e => e) hs
  obtain ⟨m, led, src, n, P, I, fp, wr, St, _, T, J, h0, turn, hQ⟩ := h₂
  refine codeAny_forLoop (R := fun r s' => match r with | .ok f => Q f s' | .error e => cameBackBy (model prog w) A env E e s')
    (LoopI h₀ env.locals wr St J n _) ?_ (n + 1) (.mk _ _ m led 0 T.st T.F T.N T.off h0 (Nat.zero_le _)) (ht I)
  rintro k s' ⟨H, tk, m', nw, i, hst', F', N', hoff', hJ, hi⟩
  by_cases hlt : i < n
  · refine T.W.item i _ _ _ hlt hst' fun v h₁ tk₁ hP hst₁ hk₁ => ?_
    obtain ⟨F₁, NN, hap⟩ := loop_step T F' N' hoff' hk₁
    refine wpAny_mono (turn Q i v m' nw _ _ _ _ hlt hP hJ F₁ NN hap) (fun _ s₃ h₃ => wpAny_mono h₃ (fun f s₄ h₄ => ?_) fun _ _ e => e) fun _ _ e => e
    cases f with
    | ret v => exact h₄
    | brk => exact h₄
    | cont => exact loop_after T hlt F₁ hst₁ h₄
    | next => exact loop_after T hlt F₁ hst₁ h₄
  · have hin : i = n := by omega
    subst hin
    refine T.W.done _ _ _ hst' fun h₁ tk₁ hk₁ => wpAny_execs_nil ?_
    obtain ⟨F₁, N₁⟩ := step_keeps T.W T.hL T.wr0 F' N' hoff' hk₁
    exact hQ h₁ tk₁ m' nw F₁ N₁ hJ
end

section
variable {M : Model} {A : Around} {s : Shared} {E : Value → Shared → Prop} {env : Env} {h₀ : Heap} {L : Addr} {led : Led}
theorem tests_nil {f : Expr → Bool → Sem (ForInStep Bool)} {Q : Bool → Shared → Prop} (h : Q true s) : wpAny M A (forIn ([] : List Expr) true f) Q E s := by
  rw [List.forIn_nil]; exact wpAny_pure h
theorem tests_one {c : Expr} {cenv : Env} {Q : Bool → Shared → Prop} (h : wpAny M A (isTrue c cenv (eval c cenv)) Q E s) :
    wpAny M A (forIn [c] true fun c r => if r = true then do let ok ← isTrue c cenv (eval c cenv); pure (ForInStep.yield ok) else pure (ForInStep.yield r)) Q E s := by
  rw [List.forIn_cons]
  simp only [if_true, bind_assoc, pure_bind, List.forIn_nil]
  exact wpAny_bind (wpAny_mono h (fun ok s₁ h₁ => wpAny_pure h₁) fun _ _ e => e)
theorem turn_nil {f : Expr → Bool → Sem (ForInStep Bool)} {X Y : Shared → Prop} (h : X s) : wpAny M A (forIn ([] : List Expr) true f) (fun ok s' => if ok = true then X s' else Y s') E s :=
  tests_nil (by rw [if_pos rfl]; exact h)
theorem name_comp {x : Str} {pos : Pos} {scope : Scope} {cl : List (Str × Addr)} {C : Addr} {oC : Obj} {mC : Str → Option Value} {v : Value} {Q : Value → Shared → Prop} (N : News h₀ L s.heap led) (hm : (C, oC) ∈ led) (hn : NsO oC mC) (hv : mC x = some v) (h : Q v s)
    (hk : (compEnvC scope cl C env).scope.kind = .function) (hx : (compEnvC scope cl C env).kindOf x = some .local) (hd : (x == ("__debug__" : Str)) = false) :
    wpAny M A (eval (.Name x pos) (compEnvC scope cl C env)) Q E s := wpAny_Name (wpAny_loadName_local hk hx (hn _ _ (N _ hm).1) hv h) hd
theorem name_compC {x : Str} {pos : Pos} {scope : Scope} {cl : List (Str × Addr)} {C c : Addr} {o : Obj} {v : Value} {Q : Value → Shared → Prop} (N : News h₀ L s.heap led) (hc : cl.lookup x = some c) (hm : (c, o) ∈ led) (hd : o.data = .cell (some v)) (h : Q v s)
    (hk : (compEnvC scope cl C env).scope.kind = .function) (hx : (compEnvC scope cl C env).kindOf x = some .cell) (hb : (x == ("__debug__" : Str)) = false) :
    wpAny M A (eval (.Name x pos) (compEnvC scope cl C env)) Q E s := wpAny_Name (wpAny_loadName_cell hk hx hc ⟨o, N.get hm, hd⟩ h) hb
theorem name_compF {x : Str} {pos : Pos} {scope : Scope} {cl : List (Str × Addr)} {C c : Addr} {o : Obj} {v : Value} {Q : Value → Shared → Prop} (N : News h₀ L s.heap led) (hc : cl.lookup x = some c) (hm : (c, o) ∈ led) (hd : o.data = .cell (some v)) (h : Q v s)
    (hk : (compEnvC scope cl C env).scope.kind = .function) (hx : (compEnvC scope cl C env).kindOf x = some .free) (hb : (x == ("__debug__" : Str)) = false) (hn : (x == ("__classdict__" : Str)) = false) :
    wpAny M A (eval (.Name x pos) (compEnvC scope cl C env)) Q E s := wpAny_Name (wpAny_loadName_free hk hx hc ⟨o, N.get hm, hd⟩ h hn) hb
end
section
variable {prog : Program} {w : World} {A : Around} {s : Shared} {E : Value → Shared → Prop} {env : Env} {h₀ : Heap}
theorem comp_Jf {elt iter : Expr} {x : Str} {px : Pos} {ifs : List Expr} {scope : Scope} {cl : List (Str × Addr)} {pos : Pos} {L : Addr} {m : Str → Option Value} {Q : Value → Shared → Prop} (F : Fr h₀ L s.heap m)
    (hclos : closureFor scope env = pure cl) (hcell : ∀ y ∈ scope.names, y.2 ≠ .cell) (hkind : scope.kind = .function)
    (hnames : ∀ y ∈ scope.names, y.2 = .local → scope.names.lookup y.1 = some .local) (hx : scope.names.lookup x = some .local) (hs : ∀ x, foldedSetIterable iter env x = pure x)
    (h : wpAny (model prog w) A (eval iter env) (fun xv s₁ => wpAny (model prog w) A (pyIter xv) (fun it s₂ => CompAt prog w A env scope cl x ifs elt h₀ Q it s₂) E s₁) E s) :
    wpAny (model prog w) A (eval (.ListComp elt [⟨.Name x px, iter, ifs, 0⟩] scope pos) env) Q E s := comp_J h₀ hclos hcell hkind hnames hx h hs
theorem comp_Jaf {elt iter : Expr} {x y : Str} {px py : Pos} {ifs : List Expr} {scope : Scope} {cl : List (Str × Addr)} {pos spos : Pos} {L : Addr} {m : Str → Option Value} {Q : Flow → Shared → Prop} (F : Fr h₀ L s.heap m)
    (hsw : swapsWith (.ListComp elt [⟨.Name x px, iter, ifs, 0⟩] scope pos) (some (.Name y py)) spos.line env = pure true)
    (hclos : closureFor scope env = pure cl) (hcell : ∀ y ∈ scope.names, y.2 ≠ .cell) (hkind : scope.kind = .function)
    (hnames : ∀ y ∈ scope.names, y.2 = .local → scope.names.lookup y.1 = some .local) (hx : scope.names.lookup x = some .local)
    (hy : env.kindOf y = some .local) (hp : (env.scope.kind == .class || (env.scope.kind == .module && env.locals != env.globals)) = false) (hs : ∀ x, foldedSetIterable iter env x = pure x)
    (h : wpAny (model prog w) A (eval iter env) (fun xv s₁ => wpAny (model prog w) A (pyIter xv) (fun it s₂ => CompAs prog w A env scope cl x y ifs elt h₀ Q it s₂) E s₁) E s) :
    wpAny (model prog w) A (exec (.Assign [.Name y py] (.ListComp elt [⟨.Name x px, iter, ifs, 0⟩] scope pos) spos) env) Q E s := comp_Ja h₀ hsw hclos hcell hkind hnames hx hy hp h hs
theorem for_Jf {target iter : Expr} {body : List Stmt} {pos : Pos} {L : Addr} {m : Str → Option Value} {Q : Flow → Shared → Prop} (F : Fr h₀ L s.heap m) (hs : ∀ x, foldedSetIterable iter env x = pure x) (ht : ∀ I v, letOwnedTupleGo target (.ref I) v = pure ())
    (h : wpAny (model prog w) A (eval iter env) (fun xv s₁ => wpAny (model prog w) A (pyIter xv) (fun it s₂ => ForAt prog w A env target body h₀ Q it s₂) E s₁) E s) :
    wpAny (model prog w) A (exec (.For target iter body [] pos) env) Q E s := for_J h₀ h hs ht
end

theorem rsize_down (c : Nat) : Builtin.Range.rangeSize ((c : Int) - 1) (-1) (-1) = ((c : Nat) : Int) := by
  unfold Builtin.Range.rangeSize
  rw [if_neg (by decide)]
  by_cases h : c = 0
  · subst h; decide
  · rw [if_pos (by omega)]
    have : ((c : Int) - 1 - -1 - 1) / -(-1) = (c : Int) - 1 := by
      have e : (-(-1) : Int) = 1 := by decide
      rw [e, Int.ediv_one]; omega
    rw [this]; omega
theorem rsize_up (c : Nat) : Builtin.Range.rangeSize 0 (c : Int) 1 = ((c : Nat) : Int) := by
  unfold Builtin.Range.rangeSize
  rw [if_pos (by decide)]
  by_cases h : c = 0
  · subst h; decide
  · rw [if_pos (by omega)]
    have : ((c : Int) - 0 - 1) / 1 = (c : Int) - 1 := by rw [Int.ediv_one]; omega
    rw [this]; omega

theorem band_nn {x y : Int} (hx : 0 ≤ x) (hy : 0 ≤ y) : 0 ≤ Builtin.bitAnd x y ∧ Builtin.bitAnd x y ≤ y := by
  rw [bitAnd_pp hx hy]
  have := Nat.and_le_right (n := x.toNat) (m := y.toNat)
  omega
theorem fdiv_pow_nn {x : Int} (hx : 0 ≤ x) (k : Nat) : 0 ≤ x.fdiv (2 ^ k) := Int.fdiv_nonneg hx (Int.pow_nonneg (by decide))
theorem In.snoc {ns : List Int} {k : Int} (h : KBa.In ns) (h0 : 0 ≤ k) (h1 : k < 256) : KBa.In (ns ++ [k]) := fun x hx => by
  rcases List.mem_append.mp hx with h' | h'
  · exact h x h'
  · rw [List.mem_singleton.mp h']; exact ⟨h0, h1⟩
theorem Ints.snoc {vs : List Value} {ns : List Int} {k : Int} {t : Tok} (h : IntsAre vs ns) : IntsAre (vs ++ [.int k t]) (ns ++ [k]) := h.append (.cons k t .nil)
theorem byteArr_le {ns : List Int} {k : Nat} (h : ns.length ≤ k) : (byteArr ns).size ≤ k := by rw [byteArr_size]; exact h

theorem News.sub {h₀ h : Heap} {L : Addr} {a b : Led} (N : News h₀ L h a) (hs : ∀ p ∈ b, p ∈ a) : News h₀ L h b := fun p hp => N p (hs p hp)

theorem foldA {α : Type} {M : Model} {A : Around} {t : Sem α} {Q : α → Shared → Prop} {E : Value → Shared → Prop} {s : Shared} (h : let Ak := A; wpAny M Ak t Q E s) : wpAny M A t Q E s := h
theorem foldE {M : Model} {A : Around} {b : List Stmt} {e : Env} {Q : Flow → Shared → Prop} {E : Value → Shared → Prop} {s : Shared} (h : let ev := e; wpAny M A (execs b ev) Q E s) : wpAny M A (execs b e) Q E s := h

theorem clip_le {n : Nat} {i : Int} (h : 0 ≤ i) : clipAt n i = min i.toNat n := by
  unfold clipAt; split <;> omega
theorem picked4 {b : Array UInt8} {i : Int} (h : 0 ≤ i) : (KBy.picked b (some i) (some (i + 4))).size ≤ 4 := by
  have e := congrArg List.length (KBc.ints_picked (b := b) rfl (some i) (some (i + 4)))
  rw [KBw.ints_length] at e
  rw [e]
  simp only [Option.elim, List.length_take, clip_le h, clip_le (show 0 ≤ i + 4 by omega)]
  omega
theorem p256 {j : Nat} (h : j < 4) : (256 : Int) ^ j ≤ 16777216 := by
  have : j = 0 ∨ j = 1 ∨ j = 2 ∨ j = 3 := by omega
  rcases this with rfl | rfl | rfl | rfl <;> decide
theorem or_step {tot c : Int} (h0 : 0 ≤ tot) (hc : 0 ≤ c) : 0 ≤ Builtin.bitOr (tot * 2 ^ 8) c ∧ Builtin.bitOr (tot * 2 ^ 8) c ≤ tot * 256 + c := by
  have h1 : (0 : Int) ≤ tot * 2 ^ 8 := Int.mul_nonneg h0 (by decide)
  have h2 := band_nn h1 hc
  have h3 := band_nn hc h1
  rw [bitAnd_comm] at h3
  rw [bitOr_and]
  omega
theorem or_stepJ {tot c : Int} {j : Nat} (h0 : 0 ≤ tot) (ht : tot < 256 ^ j) (hc : 0 ≤ c) (hc' : c < 256) : 0 ≤ Builtin.bitOr (tot * 2 ^ 8) c ∧ Builtin.bitOr (tot * 2 ^ 8) c < 256 ^ (j + 1) := by
  have h := or_step h0 hc
  have e : (256 : Int) ^ (j + 1) = 256 ^ j * 256 := Int.pow_succ ..
  refine ⟨h.1, ?_⟩
  have h2 := h.2
  omega
end Mine
end
section
open PySem PySem.W PySem.Calls PyProof.Rows PySem.Spec PyProof.V
namespace Mine
section
variable {prog : Program} {w : World} {A : Around} {E : Value → Shared → Prop} {s : Shared}
theorem no_bytes_int : typeLookup (.type "int") "__bytes__" = pure none := by rw [typeLookup_type, builtinLookup_eq_fast]; kernel_rfl
theorem index_int : typeLookup (.type "int") "__index__" = pure (some (.builtin "int.__index__")) := by rw [typeLookup_type, builtinLookup_eq_fast]; kernel_rfl
theorem bytes_n {n : Int} {t : Tok} {Q : Value → Shared → Prop} (h0 : 0 ≤ n) (h1 : n ≤ 1000)
    (hQ : ∀ t' k, Q (.bytes (Array.replicate n.toNat 0) t') { s with toks := k }) :
    codeAny (model prog w) A (.call (.builtin "bytes.__new__") ⟨[.type "bytes", .int n t], []⟩) (wants Q E) s := by
  refine codeAny_of_tree ?_
  show wpAny _ A.in1 (do checkBuiltinCall "bytes.__new__" ⟨[.type "bytes", .int n t], []⟩; again (.builtin "bytes.__new__" ⟨[.type "bytes", .int n t], []⟩)) _ _ s
  refine wpAny_bind (wpAny_of_eq (F.bm_newCall _) (wpAny_pure ⟨plainId_quiet F.bm_plain _, codeAny_builtin F.bm_entry ?_⟩))
  rw [Around.under_plainId F.bm_plain _]
  unfold Builtin.«bytes.__new__»
  refine wpAny_bind (wpAny_of_eq (a := true) rfl ?_)
  refine bm_if_false rfl ?_
  refine wpAny_bind (wpAny_of_eq F.bm_sub ?_)
  refine bm_if_false rfl ?_
  refine wpAny_bind (wpAny_of_eq (F.bm_bind _) ?_)
  refine wpAny_bind (wpAny_of_eq (a := ()) rfl ?_)
  refine wpAny_bind (wpAny_of_eq (a := ()) rfl ?_)
  refine bm_if_false rfl ?_
  have hT : s.TypeIs (.int n t) "int" := typeIs_int s n t
  refine wpAny_bind (wpAny_specialOf hT no_bytes_int ?_)
  refine wpAny_bind (wpAny_bind (wpAny_pure (wpAny_pure ?_)))
  refine bm_if_false rfl ?_
  refine wpAny_bind (wpAny_specialOf hT index_int ?_)
  refine bm_if_false rfl ?_
  refine wpAny_bind (wpAny_attempt ?_)
  unfold asIndex
  refine wpAny_bind (wpAny_of_eq (a := some n) rfl ?_)
  refine wpAny_pure ?_
  dsimp only
  have hfit : Builtin.Bytes.fitsIndex n = true := by simp [Builtin.Bytes.fitsIndex]; omega
  refine bm_if_false (by simp [hfit]) ?_
  rw [if_neg (by omega), if_neg (by omega)]
  have hl : Builtin.Bytes.tooLong n.toNat = false := by simp [Builtin.Bytes.tooLong, sizeLine_eq]; omega
  refine bm_if_false hl ?_
  refine wpAny_bind (wpAny_rule ?_)
  unfold mkBytes
  rw [if_neg (by rw [Array.size_replicate, sizeLine_eq]; omega)]
  refine wpAny_bind (wpAny_bind (wpAny_fresh ?_))
  exact wpAny_pure (wpAny_pure (hQ _ _))
theorem call_bytes_n {n : Int} {t : Tok} {Q : Value → Shared → Prop} (h0 : 0 ≤ n) (h1 : n ≤ 1000) (hQ : ∀ t' k, Q (.bytes (Array.replicate n.toNat 0) t') { s with toks := k }) :
    wpAny (model prog w) A (call (.type "bytes") [.int n t]) Q E s := by
  refine callType_codes (Q₁ := fun obj s₁ => s₁.TypeIs obj "bytes" ∧ Q obj s₁) F.bm_called (F.bm_typeCall _) F.entry_object_init
    (bytes_n h0 h1 fun t' k => ⟨PySem.W.typeIs_bytes _ _ _, hQ t' k⟩) fun obj s₁ h₁ => ?_
  exact ⟨h₁.1, F.args_object_init_2 obj _, object_init_meets F.bm_called.init.lookup F.bm_called.made (by decide) prog w A.in1 _ s₁ ⟨h₁.1, rfl, h₁.2⟩⟩
end

theorem rsize_four {N : Nat} (h : N % 4 = 0) : Builtin.Range.rangeSize 0 (N : Int) 4 = ((N / 4 : Nat) : Int) := by
  unfold Builtin.Range.rangeSize
  rw [if_pos (by decide)]
  by_cases e : N = 0
  · subst e; decide
  · rw [if_pos (by omega)]; omega
theorem small_four {N : Nat} (h : N % 4 = 0) (h' : N ≤ 1000) : Builtin.Range.small 0 (N : Int) 4 = true := by
  unfold Builtin.Range.small
  rw [rsize_four h]
  have e : (0 : Int) ≤ ((N / 4 : Nat) : Int) := by omega
  have e2 : ((N / 4 : Nat) : Int) ≤ 1000 := by omega
  generalize ((N / 4 : Nat) : Int) = k at *
  have h3 : (N : Int) ≤ 1000 := by omega
  have h4 : (0 : Int) ≤ (N : Int) := by omega
  generalize (N : Int) = M at *
  simp [Builtin.Range.rangeFitsLong]
  omega

theorem News.drop2 {h₀ h : Heap} {L : Addr} {x y : Addr × Obj} {l : Led} (N : News h₀ L h (x :: y :: l)) : News h₀ L h (x :: l) := fun p hp => by
  rcases List.mem_cons.mp hp with rfl | hp
  · exact N _ (.head _)
  · exact N _ (.tail _ (.tail _ hp))
end Mine
end
section
open PySem PySem.W PySem.Calls PyProof.Rows PySem.Spec PyProof.V
namespace Mine
/-- a codec's frame, which might hold a bytearray -/
noncomputable def dec : Code → Bool
  | .builtin id _ => Builtin.Bytes.decodersThatHold.contains id
  | _ => false
noncomputable def CleanB (Γ : PySem.Ctx) : Prop := ∀ x ∈ Γ.below, dec x.1 = false
noncomputable def Clean (Γ : PySem.Ctx) : Prop := dec Γ.code = false ∧ CleanB Γ
/-- as wpAny, of stacks without a codec's frame; and nothing is raised -/
noncomputable def wpN {α : Type} (M : Model) (A : Around) (t : Sem α) (Q : α → Shared → Prop) (s : Shared) : Prop :=
  ∀ Γ p, Γ.In A → Clean Γ → Sem.wp M Γ t (fun a _ s' => Q a s') (fun _ _ _ => False) p s
noncomputable def codeN (M : Model) (A : Around) (c : Code) (R : Flow → Shared → Prop) (s : Shared) : Prop :=
  ∀ Γ p, Γ.code = c → Γ.Below A → CleanB Γ → wpCode M Γ (fun r s' => match r with | .ok f => R f s' | .error _ => False) p s
/-- no error -/
noncomputable abbrev NoE : Value → Shared → Prop := fun _ _ => False
section
variable {α β : Type} {M : Model} {A : Around} {s : Shared}
theorem N_any {t : Sem α} {Q : α → Shared → Prop} (h : wpAny M A t Q NoE s) : wpN M A t Q s := fun Γ p hΓ _ => h Γ p hΓ
theorem N_mono {t : Sem α} {Q Q' : α → Shared → Prop} (h : wpN M A t Q s) (hQ : ∀ a s, Q a s → Q' a s) : wpN M A t Q' s :=
  fun Γ p hΓ hc => Sem.wp_mono M Γ t (fun a _ s => hQ a s) (fun _ _ _ h => h) p s (h Γ p hΓ hc)
theorem N_pure {a : α} {Q : α → Shared → Prop} (h : Q a s) : wpN M A (pure a) Q s := fun _ _ _ _ => h
theorem N_bind {m : Sem α} {f : α → Sem β} {Q : β → Shared → Prop} (h : wpN M A m (fun a s' => wpN M A (f a) Q s') s) : wpN M A (m >>= f) Q s := fun Γ p hΓ hc => by
  rw [Sem.wp_bind']
  exact Sem.wp_mono M Γ m (fun a p' s' h' => h' Γ p' hΓ hc) (fun _ _ _ h' => h') p s (h Γ p hΓ hc)
theorem N_bindA {m : Sem α} {f : α → Sem β} {Q : β → Shared → Prop} (h : wpAny M A m (fun a s' => wpN M A (f a) Q s') NoE s) : wpN M A (m >>= f) Q s := N_bind (N_any h)
theorem N_holding {vs : List Value} {m : Sem α} {Q : α → Shared → Prop} (h : wpN M A m Q s) : wpN M A (holding vs m) Q s :=
  fun Γ p hΓ hc => by rw [Sem.wp_holding]; exact h Γ p hΓ hc
theorem N_onRaise {m : Sem α} {k : Value → Sem Unit} {Q : α → Shared → Prop} (h : wpN M A m Q s) : wpN M A (m.onRaise k) Q s := fun Γ p hΓ hc => by
  rw [Sem.wp_onRaise]
  exact Sem.wp_mono M Γ m (fun _ _ _ h' => h') (fun _ _ _ h' => h'.elim) p s (h Γ p hΓ hc)
theorem N_standAt {pos : Pos} {Q : Unit → Shared → Prop} (h : Q () s) : wpN M A (standAt pos) Q s := fun _ _ _ _ => h
theorem N_eq {t t' : Sem α} {Q : α → Shared → Prop} (e : t = t') (h : wpN M A t' Q s) : wpN M A t Q s := e ▸ h
theorem Clean.enter {Γ : PySem.Ctx} {c : Code} {h : Option Value} {p : Pos} (hc : Clean Γ) : CleanB (Γ.enter c h p) := fun x hx => by
  rcases List.mem_cons.mp hx with rfl | hx
  · exact hc.1
  · exact hc.2 x hx
theorem N_run {c : Code} {h : Option Value} {Q : Flow → Shared → Prop} (hc : codeN M (A.mark h) c Q s) (hnb : h ≠ some byPass) : wpN M A (run c h) Q s :=
  fun Γ p hΓ hcl => by
    rw [Sem.wp_run]
    refine wpCode_mono (fun r s' hr => ?_) (hc _ p rfl (hΓ.enter c h p hnb) hcl.enter)
    cases r with
    | ok f => exact hr
    | error e => exact hr.elim
theorem N_runValue {c : Code} {Q : Value → Shared → Prop} (hc : codeN M A c (fun f s' => match f with | .ret v => Q v s' | _ => False) s) : wpN M A (runValue c) Q s := fun Γ p hΓ hcl => by
  rw [Sem.wp_runValue]
  refine wpCode_mono (fun r s' hr => ?_) (hc _ p rfl (hΓ.enter c none p (by intro x; cases x)) hcl.enter)
  cases r with
  | ok f => cases f <;> exact hr
  | error e => exact hr.elim
theorem N_call {f : Value} {pos : List Value} {kw : List (Str × Value)} {Q : Value → Shared → Prop}
    (hc : codeN M A (.call f ⟨pos, kw⟩) (fun f s' => match f with | .ret v => Q v s' | _ => False) s) : wpN M A (call f pos kw) Q s := N_runValue hc
theorem codeN_any {c : Code} {R : Flow → Shared → Prop} (h : codeAny M A c (fun r s' => match r with | .ok f => R f s' | .error _ => False) s) : codeN M A c R s := fun Γ p hc hΓ _ => h Γ p hc hΓ
theorem codeN_of_tree {c : Code} {R : Flow → Shared → Prop} (hd : dec c = false)
    (h : wpN M (A.under c) (M.den c) (fun fin s' => match fin with | .done f => R f s' | .again c' => c'.quiet = true ∧ codeN M A c' R s') s) : codeN M A c R s := fun Γ p hc hΓ hcl => by
  rw [wpCode_iff_wp, hc]
  refine Sem.wp_mono M Γ _ (fun fin p' s' h' => ?_) (fun _ _ _ h' => h'.elim) p s (h Γ p (hc ▸ hΓ.in) ⟨hc ▸ hd, hcl⟩)
  cases fin with
  | done f => exact h'
  | again c' => exact ⟨h'.1, h'.2 (Γ.goto c') p' rfl (hΓ.goto c') hcl⟩
theorem codeN_loop {c : Code} {R : Flow → Shared → Prop} (hd : dec c = false) (hq : c.quiet = true) (I : Nat → Shared → Prop)
    (turn : ∀ n s, I n s → wpN M (A.under c) (M.den c)
      (fun fin s' => match fin with
        | .done f => R f s'
        | .again c' => (c' = c ∧ ∃ m, m < n ∧ I m s') ∨ (c'.quiet = true ∧ codeN M A c' R s')) s)
    (n : Nat) (h : I n s) : codeN M A c R s := by
  induction n using Nat.strongRecOn generalizing s with
  | ind n ih =>
    refine codeN_of_tree hd (N_mono (turn n s h) (fun fin s' hf => ?_))
    cases fin with
    | done f => exact hf
    | again c' =>
      rcases hf with ⟨rfl, m, hm, hI⟩ | hf
      · exact ⟨hq, ih m hm hI⟩
      · exact hf
end
section
variable {prog : Program} {w : World} {A : Around} {s : Shared}
theorem codeN_func {body : List Stmt} {env : Env} {R : Flow → Shared → Prop} (h : wpN (model prog w) (A.deeper env) (execs body env) (fun f s' => R (.ret (match f with | .ret v => v | _ => .none)) s') s) :
    codeN (model prog w) A (.func body env) R s := by
  refine codeN_of_tree rfl ?_
  show wpN _ (A.deeper env) (do point; match ← (execs body env).onRaise (leaving env) with | .ret v => ret v | _ => ret .none) _ s
  refine N_bindA (wpAny_point (N_bind (N_onRaise (N_mono h (fun f s' h' => ?_)))))
  cases f <;> exact N_pure h'
theorem codeN_block {stmts : List Stmt} {env : Env} {R : Flow → Shared → Prop} (h : wpN (model prog w) A (execs stmts env) (fun f s' => R f s') s) : codeN (model prog w) A (.block stmts env) R s := by
  refine codeN_of_tree rfl ?_
  show wpN _ _ (do return Fin.done (← (execs stmts env).onRaise (fun x => do noteFrame x env; theTreesLotGoes x))) _ s
  exact N_bind (N_onRaise (N_mono h (fun f s' h' => N_pure h')))
theorem codeN_call_function {a : Addr} {args : Args} {o : Obj} {fd : FuncData} {body : List Stmt} {R : Flow → Shared → Prop} (hroom : A.depth < recursionLimit)
    (ho : s.heap.get? a = some o) (hd' : o.data = .func fd) (hco : fd.scope.isCoroutine = false) (hgen : fd.scope.isGenerator = false) (hbody : fd.body = .stmts body) (hcd : s.heap.CodeRec fd.code fd.qualname)
    (h : wpAny (model prog w) A.in1 (bindArgs fd args) (fun binds s₁ =>
      wpAny (model prog w) A.in1 (newFunctionEnv fd.scope fd.globals fd.closure binds (fd.qualname ++ ".<locals>.") (some a) fd.code none fd.builtins)
        (fun env s₂ => s₂.heap.NoLimit ∧ codeN (model prog w) A (.func body env) R s₂) NoE s₁) NoE s) :
    codeN (model prog w) A (.call (.ref a) args) R s := by
  refine codeN_of_tree rfl ?_
  show wpN _ A.in1 (callAny (.ref a) args) _ s
  simp only [callAny]
  refine N_bindA (wpAny_load ho ?_)
  obtain ⟨c, oc, vs, tq, hc, hoc, hdc, hq⟩ := hcd
  simp only [hd', callFunction, hco, hgen, hbody, hc]
  rw [hc] at h
  refine N_bindA (m := field (.ref c) 1) (wpAny_field hoc hdc hq (N_bindA (wpAny_pure ?_)))
  exact N_bindA (wpAny_mono h (fun binds s₁ h₁ => N_bindA (wpAny_mono h₁ (fun env s₂ h₂ => N_bindA (wpAny_enterFrame h₂.1 hroom
    (N_pure (And.intro rfl h₂.2)))) fun _ _ h' => h')) fun _ _ h' => h')
theorem codeN_builtin {id : String} {args : Args} {b : Builtin} {R : Flow → Shared → Prop} (hd : dec (.builtin id args) = false) (hb : entryFor table id = some b)
    (h : wpN (model prog w) (A.under (.builtin id args)) (b args) (fun fin s' => match fin with | .done f => R f s' | .again c' => c'.quiet = true ∧ codeN (model prog w) A c' R s') s) :
    codeN (model prog w) A (.builtin id args) R s := by
  refine codeN_of_tree hd ?_
  show wpN _ _ (match entryFor table id with | some b => b args | none => unsupported ((withoutEnding? id "#data").getD id)) _ s
  rw [hb]; exact h
theorem codeN_call_builtin {id : String} {args : Args} {b : Builtin} {R : Flow → Shared → Prop} (hd : dec (.builtin id args) = false) (hq : (Code.builtin id args).quiet = true) (hb : entryFor table id = some b)
    (h : wpAny (model prog w) A.in1 (checkBuiltinCall id args) (fun _ s₁ => wpN (model prog w) (A.under (.builtin id args)) (b args)
      (fun fin s' => match fin with | .done f => R f s' | .again c' => c'.quiet = true ∧ codeN (model prog w) A c' R s') s₁) NoE s) : codeN (model prog w) A (.call (.builtin id) args) R s := by
  refine codeN_of_tree rfl ?_
  show wpN _ A.in1 (do checkBuiltinCall id args; again (.builtin id args)) _ s
  exact N_bindA (wpAny_mono h (fun _ s₁ h₁ => N_pure (And.intro hq (codeN_builtin hd hb h₁))) fun _ _ h' => h')
theorem codeN_forLoop {R : Flow → Shared → Prop} {target : Expr} {it : Value} {body orelse : List Stmt} {env : Env} (I : Nat → Shared → Prop)
    (turn : ∀ n s, I n s → wpAny (model prog w) A (pyNext it) (fun r s₁ => match r with
      | none => wpN (model prog w) A (execs orelse env) (fun f s₃ => R f s₃) s₁
      | some v => wpAny (model prog w) A (assign target env v) (fun _ s₂ => wpN (model prog w) A (execs body env) (fun f s₃ => match f with
          | .next | .cont => ∃ m, m < n ∧ I m s₃
          | .brk => R .next s₃
          | .ret v => R (.ret v) s₃) s₂) NoE s₁) NoE s)
    (n : Nat) (h : I n s) (ht : ∀ v, letOwnedTupleGo target it v = pure ()) : codeN (model prog w) A (.forLoop target it body orelse env) R s := by
  refine codeN_loop rfl rfl I (fun n s hI => ?_) n h
  show wpN _ _ ((forTurn target it body orelse env).onRaise (fun x => do noteFrame x env; theTreesLotGoes x)) _ s
  refine N_onRaise ?_
  simp only [forTurn]
  refine N_bindA (wpAny_standAt (N_bindA (wpAny_onRaise (wpAny_mono (turn n s hI) (fun r s₁ h₁ => ?_) fun _ _ h' => h'.elim))))
  cases r with
  | none => exact N_pure (.inr ⟨rfl, codeN_block h₁⟩)
  | some v =>
    refine N_bindA (wpAny_of_eq (ht v) ?_)
    refine N_bindA (wpAny_mono h₁ (fun _ s₂ h₂ => N_bind (N_mono h₂ (fun f s₃ h₃ => ?_))) fun _ _ h' => h')
    cases f with
    | next => exact N_pure (.inl ⟨rfl, h₃⟩)
    | cont => exact N_pure (.inl ⟨rfl, h₃⟩)
    | brk => exact N_pure h₃
    | ret v => exact N_pure h₃
end
end Mine
end
section
open PySem PySem.W PySem.Calls PyProof.Rows PySem.Spec PyProof.V
namespace Mine
section
variable {α : Type} {M : Model} {A : Around} {s : Shared} {env : Env}
theorem N_keep {vs : List Value} {m : Sem α} {Q : α → Shared → Prop} (h : wpN M A m Q s) : wpN M A (m.keep vs) Q s := fun Γ p hΓ hc => by rw [Sem.wp_keep]; exact h Γ p hΓ hc
theorem N_execs_cons {st : Stmt} {rest : List Stmt} {Q : Flow → Shared → Prop} (h : wpN M A (exec st env) (fun f s' => match f with | .next => wpN M A (execs rest env) Q s' | f => Q f s') s) : wpN M A (execs (st :: rest) env) Q s := by
  rw [execs_cons]
  refine N_bind (N_mono h fun f s' h' => ?_)
  cases f with
  | next => exact h'
  | cont => exact N_pure h'
  | brk => exact N_pure h'
  | ret v => exact N_pure h'
theorem N_execs_any {st : Stmt} {rest : List Stmt} {Q : Flow → Shared → Prop} (h : wpAny M A (exec st env) (fun f s' => match f with | .next => wpN M A (execs rest env) Q s' | f => Q f s') NoE s) : wpN M A (execs (st :: rest) env) Q s := N_execs_cons (N_any h)
theorem N_execs_nil {Q : Flow → Shared → Prop} (h : Q .next s) : wpN M A (execs [] env) Q s := N_any (wpAny_execs_nil h)
theorem N_Expr {value : Expr} {pos : Pos} {Q : Flow → Shared → Prop} (hi : interactive env = false) (hs : swapsWith value none pos.line env = pure false)
    (h : wpN M A (eval value env) (fun v s' => v = .none ∧ Q .next s') s) : wpN M A (exec (.Expr value pos) env) Q s := by
  have e : exec (.Expr value pos) env = (do standAt pos; dropValue value pos (← eval value env)) := by
    rw [arm_exec_Expr, hi, hs]; rfl
  rw [e]
  refine N_bindA (wpAny_standAt (N_bind (N_mono h fun v s' h' => ?_)))
  obtain ⟨rfl, hq⟩ := h'
  have e2 : dropValue value pos .none = pure .next := by cases value <;> rfl
  rw [e2]; exact N_pure hq
theorem N_Assign_Name {x : Str} {pos' pos : Pos} {value : Expr} {Q : Flow → Shared → Prop} (hs : swapsWith value (some (.Name x pos')) pos.line env = pure false)
    (h : wpN M A (eval value env) (fun v s' => wpAny M A (storeName env x v) (fun _ => Q .next) NoE s') s) : wpN M A (exec (.Assign [.Name x pos'] value pos) env) Q s := by
  rw [exec_Assign_Name env x pos' value pos hs]
  refine N_bindA (wpAny_standAt (N_bind (N_mono h fun v s' h' => N_bindA (wpAny_standAt ?_))))
  refine N_any (fun Γ p hΓ => ?_)
  simp only [Sem.wp_bind', Sem.wp_bindName, Sem.wp_pure']
  exact h' Γ _ hΓ
theorem N_Return {e : Expr} {pos : Pos} {Q : Flow → Shared → Prop} (h : wpN M A (eval e env) (fun v => Q (.ret v)) s) : wpN M A (exec (.Return (some e) pos) env) Q s := by
  rw [exec_Return_some]
  exact N_bindA (wpAny_standAt (N_bind (N_mono h fun v s' h' => N_pure h')))
theorem N_methodCall {o : Expr} {name : Str} {apos pos : Pos} {args : List Expr} {kws : List Keyword} {pl : Sem Bool} {Q : Value → Shared → Prop}
    (h : wpAny M A (eval o env) (fun ov s₁ => wpAny M A (getMethod ov name pl) (fun fx s₂ => wpN M A (callWith pos fx.1 fx.2 (backTo pos (starEach args env)) (backToKw pos (keywordEach kws env))) Q s₂) NoE s₁) NoE s)
    (he : eval (.Call (.Attribute o name apos) args kws pos) env = (do
      let ov ← eval o env
      standAt apos.atName
      let (f, first) ← holding [ov] (getMethod ov name pl)
      callWith pos f first (backTo pos (starEach args env)) (backToKw pos (keywordEach kws env)))) :
    wpN M A (eval (.Call (.Attribute o name apos) args kws pos) env) Q s := by
  rw [he]
  exact N_bindA (wpAny_mono h (fun ov s₁ h₁ => N_bindA (wpAny_standAt (N_bindA (wpAny_holding (wpAny_mono h₁ (fun fx s₂ h₂ => h₂) fun _ _ x => x))))) fun _ _ x => x)
theorem N_Call_Name {id : Str} {p pos : Pos} {args : List Expr} {kws : List Keyword} {Q : Value → Shared → Prop}
    (h : wpAny M A (eval (.Name id p) env) (fun f s₁ => wpN M A (callWith pos f [] (backTo pos (starEach args env)) (backToKw pos (keywordEach kws env))) Q s₁) NoE s) :
    wpN M A (eval (.Call (.Name id p) args kws pos) env) Q s := by
  rw [arm_eval_Call_Name']
  exact N_bindA h
theorem tailN {t : Sem Value} {Q : Value → Shared → Prop} (ht : wpN M A t Q s) : wpN M A (t >>= fun r => holding [r] point >>= fun _ => pure r) Q s :=
  N_bind (N_mono ht fun r s₂ hr => N_bindA (wpAny_holding (wpAny_point (N_pure hr))))
/-- a call's arguments, whose reading may itself be of clean stacks alone -/
theorem N_callWith_function {pos : Pos} {a : Addr} {o : Obj} {fd : FuncData} {first : List Value} {args : List (Bool × Sem Value)} {Q : Value → Shared → Prop}
    (h : wpN M A (evalArgs (.ref a) true args []) (fun x s₁ => (s₁.heap.get? a = some o ∧ o.data = .func fd) ∧ wpN M A (call (.ref a) (first ++ x.pos) x.kw) Q s₁) s) :
    wpN M A (callWith pos (.ref a) first args []) Q s := by
  unfold callWith
  refine N_bind (N_holding (N_mono h fun x s₁ h₁ => N_bindA (wpAny_standAt ?_)))
  refine N_bindA (m := keeperOf (.ref a)) ?_
  unfold keeperOf
  refine wpAny_bind (wpAny_load h₁.1.1 ?_)
  rw [h₁.1.2]
  refine wpAny_pure ?_
  cases args.any (·.1) <;> simp only [List.any_nil, Bool.or_false, Bool.or_self]
  · split
    · exact tailN h₁.2
    · exact tailN (N_keep h₁.2)
  · exact tailN (N_keep h₁.2)
theorem N_callWith_builtin {pos : Pos} {id : String} {first : List Value} {args : List (Bool × Sem Value)} {Q : Value → Shared → Prop} (hplain : args.any (·.1) = false)
    (h : wpAny M A (evalArgs (.builtin id) true args []) (fun x s₁ => wpN M A (call (.builtin id) (first ++ x.pos) x.kw) Q s₁) NoE s) :
    wpN M A (callWith pos (.builtin id) first args []) Q s := by
  unfold callWith
  refine N_bindA (wpAny_holding (wpAny_mono h (fun x s₁ h₁ => N_bindA (wpAny_standAt ?_)) fun _ _ e => e))
  simp only [hplain, List.any_nil, Bool.or_false]
  exact N_bindA (m := keeperOf (.builtin id)) (wpAny_pure (tailN h₁))
/-- one argument, read of clean stacks -/
theorem N_evalArgs_one {f : Value} {t : Sem Value} {Q : Args → Shared → Prop} (h : wpN M A t (fun v s₁ => Q ⟨[v], []⟩ s₁) s) : wpN M A (evalArgs f true [(false, t)] []) Q s := by
  unfold evalArgs
  show wpN M A (spliced [(false, t)] >>= _) Q s
  refine N_bind ?_
  rw [spliced]
  refine N_bind (N_mono h (fun v s₁ h₁ => ?_))
  simp only [Bool.false_eq_true, if_false]
  refine N_bindA (wpAny_pure (N_bindA (wpAny_holding (wpAny_pure (N_pure ?_)))))
  refine N_holding ?_
  exact N_bindA (wpAny_pure (N_bindA (wpAny_pure (N_pure h₁))))
end
section
variable {prog : Program} {w : World} {A₀ A : Around} {s : Shared} {base h₀ : Heap} {outer : List Env} {L : Addr} {m : Str → Option Value} {env : Env} {news : List (Addr × Obj)}
theorem N_For {target iter : Expr} {body orelse : List Stmt} {pos : Pos} {Q : Flow → Shared → Prop}
    (h : wpAny (model prog w) A (eval iter env) (fun x s₁ => wpAny (model prog w) A (pyIter x) (fun it s₂ => codeN (model prog w) A (.forLoop target it body orelse env) (fun f s' => Q f s') s₂) NoE s₁) NoE s)
    (hs : ∀ x, foldedSetIterable iter env x = pure x) : wpN (model prog w) A (exec (.For target iter body orelse pos) env) Q s := by
  rw [exec_For]
  refine N_bindA (wpAny_standAt (N_bindA (wpAny_mono h (fun x s₁ h₁ => N_bindA (wpAny_of_eq (hs x) (N_bindA (wpAny_standAt (N_bindA (wpAny_holding (wpAny_mono h₁ (fun it s₂ h₂ => ?_) fun _ _ h' => h'))))))) fun _ _ h' => h')))
  unfold runOwn
  exact N_onRaise (N_run h₂ (by intro x; cases x))
theorem codeN_defC {R : Flow → Shared → Prop} {K : Frag} {p : Program} {loose : List Str} {mean : ExcName → Option Value} {mg mb : Str → Option Value} {name qual : Str} {params : Arguments} {body : List Stmt} {scope : Scope} {dV kV doc pm cdv ct oc : Value} {an od : Option Addr} {osl : Array (Option Value)} {f : Addr} {args : Args} {binds : List (Str × Value)}
    (B : Below A₀ base outer h₀) (F : Fr h₀ L s.heap m) (X₀ : K.In h₀) (N : News h₀ L s.heap news) (T : Top p loose mean mg mb h₀) (hA : A.frames = some (env :: outer)) (hf : env.frame = some L) (hke : env.scope.kind = .function)
    (ho : K.lookup f = some ⟨oc, od, .func (fnOf name qual params body scope dV kV doc pm an cdv ct), osl⟩) (hcd : codeIn K cdv qual = true) (hroom : A.depth < recursionLimit)
    (hbind : BindsTo s (fnOf name qual params body scope dV kV doc pm an cdv ct) args binds) (hkind : (binds.all fun y => scope.names.lookup y.1 == some .local || scope.names.lookup y.1 == some .cell) = true)
    (hnd : ((cellsFrom 0 scope.names []).map (·.1)).Nodup)
    (h : ∀ g L' h₁ tk cells, Fr h₀ L g m → Fr g L' h₁ (bindL (envOfC qual scope L' f cdv).kindOf binds fun _ => none) → News g L' h₁ (cells ++ news) →
      CellsAre (bindC (envOfC qual scope L' f cdv).kindOf binds fun _ => none) (cellsFrom (L' + 1) scope.names []) cells → Below A base (env :: outer) g → K.In g → Top p loose mean mg mb g → (∀ p ∈ news, p.1 < L') →
      wpN (model prog w) (A.deeper (envOfC qual scope L' f cdv)) (execs body (envOfC qual scope L' f cdv))
        (fun fl s' => LeaveK h₀ L m g (fun r s' => match r with | .ok f => R f s' | .error _ => False) (match fl with | .ret v => v | _ => .none) s')
        { s with heap := h₁, toks := tk })
    (hco : scope.isCoroutine = false) (hgen : scope.isGenerator = false) (hk : scope.kind = .function) : codeN (model prog w) A (.call (.ref f) args) R s := by
  obtain ⟨FG, BG, st, lv⟩ := groundX (R := fun r s' => match r with | .ok f => R f s' | .error _ => False) B F N hA hf hke
  refine codeN_call_function hroom ((X₀.keeps F.keep) _ _ ho) rfl hco hgen rfl (codeRec_of (X₀.keeps F.keep) hcd) (hbind _ _ _ _ ?_)
  refine wpAny_newFunctionEnv_cells hk (kindsX hkind _) fun env' he s' x => ?_
  subst he
  refine ⟨(T.nolimit.keeps F.keep).keeps x.toInCall.keep, codeN_func ?_⟩
  obtain ⟨h₁, tk, rfl, _⟩ := x.done
  have hk₁ := x.toInCall.keep
  obtain ⟨cells, NC, Y⟩ := Cl.news (h₀ := s.heap) (Nat.le_refl _) fun n c hm => ⟨x.cell n c (lookup_of_mem_nodup (cellsFrom_names scope.names 0 (s.heap.objs.size + 1) [] [] rfl ▸ hnd) hm), x.above n c hm⟩
  refine N_mono (h _ s.heap.objs.size h₁ tk cells FG ⟨x.toInCall.ns, fun b o e => hk₁ b o (of_hideAll _ e), Nat.le_of_eq (hideAll_size _ _)⟩ (fun p hp => ?_) Y BG (X₀.keeps st) (T.keeps st) (fun p hp => Heap.lt_size (N p hp).1)) (fun fl s' hl => lv _ _ hl)
  rcases List.mem_append.mp hp with hp | hp
  · refine ⟨(NC p hp).1, (NC p hp).2.1, ?_⟩
    cases q : (hideAll s.heap (news.map (·.1))).get? p.1 with
    | none => rfl
    | some o => have := of_hideAll _ q; rw [(NC p hp).2.2] at this; cases this
  · exact ⟨hk₁ _ _ (N p hp).1, Nat.ne_of_lt (Heap.lt_size (N p hp).1), hideAll_none _ (List.mem_map_of_mem hp)⟩
end
end Mine
end
section
open PySem PySem.W PySem.Calls PyProof.Rows PySem.Spec PyProof.V
namespace Mine
noncomputable abbrev baOf (b : Array UInt8) : Obj := { cls := .type "bytearray", data := .bytearray b 0 }
theorem clean_code {A : Around} {Γ : PySem.Ctx} (hΓ : Γ.In A) (hg : A.guards = some []) (hc : Clean Γ) (p : Pos) : ∀ x ∈ (Γ.code, p) :: Γ.below, x.1.isGuard = false ∧ dec x.1 = false := by
  have h := hΓ.2.2.2.1 [] hg
  have h1 : guardsOf ((Γ.code, p) :: Γ.below) = [] := by rw [guardsOf_cons]; exact h
  intro x hx
  refine ⟨?_, ?_⟩
  · cases hq : x.1.isGuard with
    | false => rfl
    | true =>
      have : x.1 ∈ guardsOf ((Γ.code, p) :: Γ.below) := List.mem_filter.mpr ⟨List.mem_map_of_mem hx, hq⟩
      rw [h1] at this; cases this
  · rcases List.mem_cons.mp hx with rfl | hx
    · exact hc.1
    · exact hc.2 x hx
theorem id_ne {id s : String} (hg : guardIds.contains id = false) (hs : guardIds.contains s = true) : id ≠ s := fun e => by
  rw [e, hs] at hg; cases hg
theorem N_exported {M : Model} {A : Around} {s : Shared} {self : Value} {Q : Bool → Shared → Prop} (hg : A.guards = some []) (h : Q false s) : wpN M A (Builtin.Bytes.exported self) Q s := fun Γ p hΓ hc => by
  unfold Builtin.Bytes.exported
  show Q (List.any ((Γ.code, p) :: Γ.below) _) s
  rw [show List.any ((Γ.code, p) :: Γ.below) _ = false from List.any_eq_false.mpr fun x hx => ?_]
  · exact h
  · obtain ⟨h1, h2⟩ := clean_code hΓ hg hc p x hx
    obtain ⟨c, q⟩ := x
    cases c with
    | builtin id args =>
      intro e
      refine Bool.false_ne_true (Eq.trans (Eq.symm ?_) e)
      obtain ⟨pos, kw⟩ := args
      have h2' : Builtin.Bytes.decodersThatHold.contains id = false := h2
      delta Builtin.Bytes.exported.match_1
      dsimp only [Builtin.Bytes.exported._sparseCasesOn_1]
      rw [dif_neg (id_ne h1 (by decide)), dif_neg (id_ne h1 (by decide)), dif_neg (id_ne h1 (by decide)), dif_neg (id_ne h1 (by decide)), dif_neg (id_ne h1 (by decide))]
      cases pos with
      | nil => rfl
      | cons v r => show (Builtin.Bytes.sameRef v self && Builtin.Bytes.decodersThatHold.contains id) = false; rw [h2', Bool.and_false]
    | _ => exact Bool.false_ne_true

theorem ba_slot_extend : Slot "bytearray" "extend" "bytearray.extend" :=
  .of (owner := "bytearray") (n := "extend") (by rw [typeLookup_type, builtinLookup_eq_fast]; kernel_rfl) (by decide +kernel) (by decide +kernel) (by decide +kernel)
    (by first | exact .inl (by decide +kernel) | exact .inr (by decide +kernel)) (by rw [isSubtype_type]; kernel_rfl)
theorem ba_entry_extend : entryFor table "bytearray.extend" = some Builtin.«bytearray.extend» := entryFor_of_tree (by kernel_rfl)
theorem ba_args_extend (a v : Value) : argsOk "bytearray.extend" ⟨[a, v], []⟩ := by unfold argsOk; kernel_rfl
theorem ba_dec {id : String} (args : Args) (h : Builtin.Bytes.decodersThatHold.contains id = false) : dec (.builtin id args) = false := h
section
variable {prog : Program} {w : World} {A : Around} {s : Shared}
theorem codeN_entry {T : String} {name : Str} {id : String} {b : Builtin} {self : Value} {rest : List Value} {R : Flow → Shared → Prop} (hd : Builtin.Bytes.decodersThatHold.contains id = false) (h : Slot T name id) (hT : s.TypeIs self T)
    (hb : entryFor table id = some b) (ha : argsOk id ⟨self :: rest, []⟩)
    (hc : wpN (model prog w) A.in1 (b ⟨self :: rest, []⟩) (fun fin s' => ∃ v, fin = .done (.ret v) ∧ R (.ret v) s') s) : codeN (model prog w) A (.call (.builtin id) ⟨self :: rest, []⟩) R s := by
  refine codeN_call_builtin hd (plainId_quiet h.plain _) hb (h.check _ _ _ _ _ _ _ _ hT ha ?_)
  rw [Around.under_plainId h.plain _]
  refine N_mono hc fun fin s' h' => ?_
  obtain ⟨v, rfl, hv⟩ := h'; exact hv
theorem N_checkResize {a : Addr} {b : Array UInt8} {Q : Unit → Shared → Prop} (hg : A.guards = some []) (ho : s.heap.get? a = some (baOf b)) (h : Q () s) : wpN (model prog w) A (Builtin.Bytes.checkResize (.ref a)) Q s := by
  unfold Builtin.Bytes.checkResize
  refine N_bind (m := (Builtin.Bytes.exported (.ref a) <||> (do return (← Builtin.Bytes.exportsOf (.ref a)) > 0))) ?_
  refine N_bind (m := Builtin.Bytes.exported (.ref a)) (N_exported hg ?_)
  refine N_any ?_
  show wpAny _ _ ((load a >>= _) >>= _) _ _ _
  refine wpAny_bind (wpAny_bind (wpAny_load ho (wpAny_pure (wpAny_pure ?_))))
  exact N_pure h
theorem N_if_true {α : Type} {c : Bool} {x y : Sem α} {Q : α → Shared → Prop} (hc : c = true) (h : wpN (model prog w) A x Q s) : wpN (model prog w) A (if c = true then x else y) Q s := by rw [if_pos hc]; exact h
theorem N_if_false {α : Type} {c : Bool} {x y : Sem α} {Q : α → Shared → Prop} (hc : c = false) (h : wpN (model prog w) A y Q s) : wpN (model prog w) A (if c = true then x else y) Q s := by rw [if_neg (by simp [hc])]; exact h
theorem payload_ba {a : Addr} {b : Array UInt8} {Q : Array UInt8 → Shared → Prop} {E : Value → Shared → Prop} (ho : s.heap.get? a = some (baOf b)) (h : Q b s) : wpAny (model prog w) A (Builtin.Bytes.payload (.ref a)) Q E s := by
  show wpAny _ _ ((load a >>= _) >>= _) _ _ _
  exact wpAny_bind (wpAny_bind (wpAny_load ho (wpAny_pure (wpAny_pure h))))
theorem take_eq {id : String} {c : Array UInt8} {t : Tok} : Builtin.Bytes.takeBufferQuiet? id (.bytes c t) 0 = pure (some (c, none)) := by
  have e : Builtin.Bytes.takeBuffer? id (.bytes c t) 0 = pure (some (c, none)) := by
    unfold Builtin.Bytes.takeBuffer?
    rw [KBy.special_eq KBy.look_buffer, KBy.own_buffer]
    simp only [pure_bind]
    show (Builtin.Bytes.buffer? id (.bytes c t) (full := false) >>= _) = _
    rw [KBy.buffer_eq]
    rfl
  unfold Builtin.Bytes.takeBufferQuiet?
  rw [e]; rfl
theorem N_write {a : Addr} {b : Array UInt8} {f : Array UInt8 → Array UInt8} {Q : Unit → Shared → Prop} (ho : s.heap.get? a = some (baOf b)) (hz : (f b).size ≤ sizeLine)
    (h : ∀ h', Heap.SameBut a s.heap h' → h'.get? a = some (baOf (f b)) → Q () { s with heap := h' }) : wpAny (model prog w) A (Builtin.Bytes.write (.ref a) f) Q NoE s := by
  show wpAny _ _ (updateBytearray a f) _ _ _
  unfold updateBytearray
  refine wpAny_bind (wpAny_load ho ?_)
  dsimp only
  have ho' : (s.heap.update a (Obj.mapBytearray f)).get? a = some (baOf (f b)) := Heap.get?_update_self _ ho rfl
  refine wpAny_bind (wpAny_update ho (wpAny_lookBehind ho' ?_ (h _ (Heap.SameBut.update ..) ho')))
  show (if (f b).size > sizeLine then some "bytearray:memory" else none) = none
  rw [if_neg (by omega)]
theorem N_extend {a : Addr} {b c : Array UInt8} {t : Tok} {R : Flow → Shared → Prop} (hg : A.guards = some []) (ho : s.heap.get? a = some (baOf b)) (hz : b.size + c.size ≤ 16777216)
    (h : ∀ h', Heap.SameBut a s.heap h' → h'.get? a = some (baOf (b ++ c)) → R (.ret .none) { s with heap := h' }) :
    codeN (model prog w) A (.call (.builtin "bytearray.extend") ⟨[.ref a, .bytes c t], []⟩) R s := by
  refine codeN_entry (by decide +kernel) ba_slot_extend ⟨_, ho, rfl⟩ ba_entry_extend (ba_args_extend _ _) ?_
  unfold Builtin.«bytearray.extend»
  refine N_bindA (wpAny_of_eq (a := (Value.ref a, Value.bytes c t)) rfl ?_)
  dsimp only
  refine N_bindA (wpAny_of_eq (KBy.special_eq KBy.look_buffer) ?_)
  refine N_if_true rfl ?_
  refine N_bindA (wpAny_rule ?_)
  refine N_bindA (payload_ba ho ?_)
  refine N_bindA (wpAny_of_eq take_eq ?_)
  dsimp only
  refine N_if_true rfl ?_
  show wpN _ _ (do
    if !c.isEmpty then
      Builtin.Bytes.checkResize (.ref a)
    Builtin.Bytes.write (.ref a) (· ++ c)
    ret .none) _ s
  have fin : wpN (model prog w) A.in1 (do Builtin.Bytes.write (.ref a) (· ++ c); ret .none) (fun fin s' => ∃ v, fin = .done (.ret v) ∧ R (.ret v) s') s :=
    N_bindA (N_write ho (by rw [Array.size_append, sizeLine_eq]; exact hz) fun h' hs ho' => N_pure ⟨_, rfl, h h' hs ho'⟩)
  cases hc : (!c.isEmpty) with
  | true => first | exact N_if_true rfl (N_bind (N_checkResize hg ho fin)) | exact N_bind (N_if_true rfl (N_checkResize hg ho fin))
  | false => first | exact N_if_false rfl fin | exact N_bind (N_if_false rfl (N_any (wpAny_pure fin)))
end
end Mine
end
section
open PySem PySem.W PySem.Calls PyProof.Rows PySem.Spec PyProof.V
namespace Mine
theorem ba_lookup_new : typeLookup (.type "bytearray") "__new__" = pure (some (.builtin "bytearray.__new__")) := by rw [typeLookup_type, builtinLookup_eq_fast]; kernel_rfl
theorem ba_slot_init : Slot "bytearray" "__init__" "bytearray.__init__" :=
  .of (owner := "bytearray") (n := "__init__") (by rw [typeLookup_type, builtinLookup_eq_fast]; kernel_rfl) (by decide +kernel) (by decide +kernel) (by decide +kernel)
    (by first | exact .inl (by decide +kernel) | exact .inr (by decide +kernel)) (by rw [isSubtype_type]; kernel_rfl)
theorem ba_mro : mroOf (.type "bytearray") = pure [.type "bytearray", .type "object"] := by rw [mroOf_type]; kernel_rfl
theorem ba_called : TypeCalled "bytearray" "bytearray.__new__" "bytearray.__init__" :=
  ⟨by decide +kernel, by decide +kernel, ⟨_, _, ba_mro⟩, madeBy_type ba_mro ba_lookup_new (by decide +kernel), by decide +kernel, by rw [isSubtype_type]; kernel_rfl, ba_slot_init⟩
theorem ba_newCall : checkBuiltinCall "bytearray.__new__" ⟨[.type "bytearray"], []⟩ = pure () := by kernel_rfl
theorem ba_typeCall : checkTypeCall "bytearray" ⟨[], []⟩ = pure () := by kernel_rfl
theorem ba_entry_new : entryFor table "bytearray.__new__" = some Builtin.«list.__new__» := entryFor_alias (id' := "list.__new__") (by rw [fastTable_eq_tree]; kernel_rfl) rfl (by decide +kernel) (by rw [fastTable_eq_tree]; kernel_rfl)
theorem ba_entry_init : entryFor table "bytearray.__init__" = some Builtin.«bytearray.__init__» := entryFor_of_tree (by kernel_rfl)
theorem ba_args_init (a : Value) : argsOk "bytearray.__init__" ⟨[a], []⟩ := by unfold argsOk; kernel_rfl

theorem ba_owner : ("bytearray.__new__".splitOn ".__new__").headD "" = "bytearray" := by simp +decide [String.splitOn, String.splitOnAux]
theorem ba_sub : isSubtype (.type "bytearray") (.type "bytearray") = pure true := by rw [isSubtype_type]; kernel_rfl
section
variable {prog : Program} {w : World} {A : Around} {E : Value → Shared → Prop} {s : Shared}
theorem ba_new {Q₁ : Value → Shared → Prop} (h : Q₁ (.ref s.heap.objs.size) { s with heap := s.heap.push (baOf #[]) }) :
    codeAny (model prog w) A (.call (.builtin "bytearray.__new__") ⟨[.type "bytearray"], []⟩) (wants Q₁ E) s := by
  refine codeAny_of_tree ?_
  show wpAny _ A.in1 (do checkBuiltinCall "bytearray.__new__" ⟨[.type "bytearray"], []⟩; again (.builtin "bytearray.__new__" ⟨[.type "bytearray"], []⟩)) _ _ s
  refine wpAny_bind (wpAny_of_eq ba_newCall (wpAny_pure ⟨plainId_quiet ba_called.plain _, codeAny_builtin_stack ba_entry_new rfl fun p st => ?_⟩))
  rw [Around.under_plainId ba_called.plain _]
  have hsub := ba_sub
  have hown := ba_owner
  obtain ⟨hp, g, d, tk, os⟩ := s
  simp only [hown]
  wp_walk
  exact h

theorem ba_release : typeLookup (.type "bytearray") "__release_buffer__" = pure (some (.builtin "bytearray.__release_buffer__")) := by rw [typeLookup_type, builtinLookup_eq_fast]; kernel_rfl
theorem ba_ownRelease {a : Addr} {b : Array UInt8} {Q : Bool → Shared → Prop} (ho : s.heap.get? a = some (baOf b)) (h : Q false s) : wpAny (model prog w) A (Builtin.Bytes.ownRelease (.ref a)) Q E s := by
  have hT : s.TypeIs (.ref a) "bytearray" := ⟨_, ho, rfl⟩
  unfold Builtin.Bytes.ownRelease
  refine wpAny_bind ?_
  unfold Builtin.Bytes.slotIsOwn
  refine wpAny_bind (wpAny_specialOf hT ba_release ?_)
  have key : ∀ x : String, x = "bytearray" → wpAny (model prog w) A (isInstance (.ref a) (.type x)) (fun r s' => wpAny (model prog w) A (pure (!r)) Q E s') E s := fun x hx => by
    rw [hx]; exact wpAny_isInstance hT ba_sub (wpAny_pure h)
  dsimp only
  split
  · rename_i hx
    exact absurd hx (by decide +kernel)
  · exact key _ (by decide +kernel)
theorem ba_bind : Builtin.Bytes.bindOptional "bytearray.__init__" "bytearray" ["source", "encoding", "errors"] [] [] = pure [none, none, none] := by kernel_rfl
theorem N_ba_init {a : Addr} {R : Flow → Shared → Prop} (hg : A.guards = some []) (ho : s.heap.get? a = some (baOf #[]))
    (h : ∀ h', Heap.SameBut a s.heap h' → h'.get? a = some (baOf #[]) → R (.ret .none) { s with heap := h' }) :
    codeN (model prog w) A (.call (.builtin "bytearray.__init__") ⟨[.ref a], []⟩) R s := by
  refine codeN_entry (by decide +kernel) ba_slot_init ⟨_, ho, rfl⟩ ba_entry_init (ba_args_init _) ?_
  unfold Builtin.«bytearray.__init__»
  dsimp only
  refine N_bindA (ba_ownRelease ho ?_)
  refine N_if_false rfl ?_
  refine N_bindA (wpAny_of_eq ba_bind ?_)
  dsimp only
  refine N_bindA (wpAny_of_eq (a := ()) rfl ?_)
  refine N_bindA (wpAny_of_eq (a := ()) rfl ?_)
  refine N_bind (m := (Builtin.Bytes.exported (.ref a) <||> (do return (← Builtin.Bytes.exportsOf (.ref a)) > 0))) ?_
  refine N_bind (m := Builtin.Bytes.exported (.ref a)) (N_exported hg ?_)
  refine N_any ?_
  show wpAny _ _ ((load a >>= _) >>= _) _ _ _
  refine wpAny_bind (wpAny_bind (wpAny_load ho (wpAny_pure (wpAny_pure ?_))))
  refine N_if_false rfl ?_
  refine N_bindA (N_write ho (Nat.zero_le _) fun h' hs ho' => ?_)
  refine N_bindA (m := (pure () : Sem Unit)) (wpAny_pure ?_)
  exact N_pure ⟨_, rfl, h h' hs ho'⟩
end
end Mine
end
section
open PySem PySem.W PySem.Calls PyProof.Rows PySem.Spec PyProof.V
namespace Mine
section
variable {prog : Program} {w : World} {A : Around} {s : Shared}
theorem N_callSpecial {self : Value} {T : String} {name : Str} {id : String} {args : List Value} {Q : Option Value → Shared → Prop} (hT : s.TypeIs self T) (h : Slot T name id)
    (hc : wpN (model prog w) A (call (.builtin id) (self :: args) []) (fun v => Q (some v)) s) : wpN (model prog w) A (callSpecial? self name args []) Q s := by
  simp only [callSpecial?]
  refine N_bindA (wpAny_specialOf hT h.lookup ?_)
  simp only [h.bind]
  exact N_holding (N_bindA (wpAny_pure (N_bind (N_mono hc (fun v s' h' => N_pure h')))))
theorem N_bytearray {Q : Value → Shared → Prop} (hg : A.guards = some [])
    (h : ∀ h', (∀ b o, s.heap.get? b = some o → h'.get? b = some o) → h'.get? s.heap.objs.size = some (baOf #[]) → Q (.ref s.heap.objs.size) { s with heap := h' }) :
    wpN (model prog w) A (call (.type "bytearray") []) Q s := by
  have ft := ba_called
  refine N_call (codeN_of_tree rfl ?_)
  show wpN _ _ (callAny (.type "bytearray") _) _ _
  refine N_pure ⟨Code.quiet_builtin _ (by decide +kernel), codeN_builtin (by decide +kernel) F.entry_type_call ?_⟩
  rw [Around.under_plain (weight_type_call_type "bytearray" [] []) rfl]
  unfold Builtin.«type.__call__»
  dsimp only
  refine N_if_false ft.notType ?_
  refine N_if_false ft.canCreate ?_
  refine N_bindA (wpAny_of_eq ba_typeCall ?_)
  refine N_bindA (wpAny_of_eq ba_mro ?_)
  refine N_if_false rfl ?_
  refine N_bindA (wpAny_of_eq ft.made ?_)
  refine N_bindA (wpAny_pure ?_)
  refine N_bindA (wpAny_holding (wpAny_call ?_))
  have ho : (s.heap.push (baOf #[])).get? s.heap.objs.size = some (baOf #[]) := Heap.get?_push_size _ rfl
  refine codeAny_mono (ba_new (Q₁ := fun v s' => v = .ref s.heap.objs.size ∧ s' = { s with heap := s.heap.push (baOf #[]) }) (E := NoE) ⟨rfl, rfl⟩) fun r s₁ hr => ?_
  cases r with
  | error e => exact hr
  | ok fl =>
    cases fl with
    | ret obj =>
      obtain ⟨rfl, rfl⟩ := hr
      refine N_bindA (wpAny_isInstance (T := "bytearray") ⟨_, ho, rfl⟩ ba_sub ?_)
      refine N_if_false rfl ?_
      refine N_bind (N_holding (N_callSpecial (T := "bytearray") ⟨_, ho, rfl⟩ ba_slot_init (N_call (N_ba_init (s := { s with heap := s.heap.push (baOf #[]) }) hg ho fun h' hs ho' => ?_))))
      dsimp only
      refine N_if_false rfl ?_
      refine N_pure (h h' (fun b o e => ?_) ho')
      exact hs.extBut b o (fun q => by rw [q] at e; exact absurd (Heap.lt_size e) (Nat.lt_irrefl _)) (Heap.get?_push_of_some _ e)
    | _ => exact hr.elim
end
end Mine
end
section
open PySem PySem.W PySem.Calls PyProof.Rows PySem.Spec PyProof.V
namespace Mine
section
variable {prog : Program} {w : World} {A : Around} {K : Frag} {C : Addr} {s : Shared} {h₀ : Heap} {L : Addr} {m : Str → Option Value} {news : Led} {R : Flow → Shared → Prop}
theorem codeN_mono {M : Model} {c : Code} {R R' : Flow → Shared → Prop} (h : codeN M A c R s) (hR : ∀ f s, R f s → R' f s) : codeN M A c R' s := fun Γ p hc hΓ hcl =>
  wpCode_mono (fun r s' hr => by cases r with | ok f => exact hR _ _ hr | error e => exact hr.elim) (h Γ p hc hΓ hcl)
theorem N_load {α : Type} {M : Model} {Q : α → Shared → Prop} {a : Addr} {p : Option Value} {k : Obj → Sem α} {o : Obj} (ho : s.heap.get? a = some o) (h : wpN M A (k o) Q s) : wpN M A (.load a p k) Q s := fun Γ q hΓ hc => ⟨o, ho, h Γ q hΓ hc⟩
theorem N_make {fI : Addr} (F : Fr h₀ L s.heap m) (N : News h₀ L s.heap news) (X : K.In s.heap) (hm : makesIn K C = true)
    (hi : findIn K (.ref C) "__init__" = some (some (.ref fI))) (hf : typeIn K (.ref fI) = some (.type "function"))
    (hq : ∀ x dx h', Fr h₀ L h' m → News h₀ L h' ((x, instObj C dx) :: (dx, emptyDict) :: news) → (∀ p ∈ news, p.1 < dx) → dx < x →
      codeN (model prog w) (A.under (.builtin "type.__call__" ⟨[.ref C], []⟩)) (.call (.ref fI) ⟨[.ref x], []⟩) (fun f s' => match f with | .ret v => v = .none ∧ R (.ret (.ref x)) s' | _ => False) { s with heap := h' }) :
    codeN (model prog w) A (.call (.ref C) ⟨[], []⟩) R s := by
  obtain ⟨h, g, d, t, os⟩ := s
  have Y := makes_of (M := model prog w) X hm
  have hil := looks_findIn (M := model prog w) X hi
  have hbl := fun self => bind_fn (M := model prog w) X self hf
  have Y' := Y
  obtain ⟨⟨oc, od, cd, sl, hC, e1, e2, e4⟩, made, base, self, top, call, typ⟩ := Y
  refine codeN_of_tree rfl ?_
  show wpN _ _ (callAny (.ref C) _) _ _
  refine N_load hC ?_
  show wpN _ _ (callAny.viaDunder (.ref C) _) _ _
  unfold callAny.viaDunder
  refine N_bindA (call.here ?_)
  dsimp only
  rw [tc_bind]
  refine N_bindA (wpAny_pure (N_bindA (wpAny_pure ?_)))
  refine N_pure (a := Fin.again (.call (.builtin "type.__call__") ⟨[.ref C], []⟩)) (And.intro rfl ?_)
  refine codeN_call_builtin (ba_dec _ (by decide +kernel)) (Code.quiet_builtin _ (by decide +kernel)) entry_typeCall (check_slot tc_kind tc_split typ (tc_args _ _ _) ?_)
  unfold Builtin.«type.__call__»
  have hmro : Looks (model prog w) h (mroOf (.ref C)) cd.mro := ((Looks.ld (part := none) hC).andThen .now).andThen .now
  dsimp only
  refine N_if_false rfl ?_
  refine N_bindA (hmro.here ?_)
  refine N_if_false e4 ?_
  refine N_bindA (made.here ?_)
  refine N_bindA (wpAny_pure ?_)
  refine N_bindA (wpAny_holding (wpAny_call (new_K Y' hil (.inl rfl) ?_)))
  have k : ∀ b o, h.get? b = some o → ((h.push emptyDict).push (instObj C h.objs.size)).get? b = some o := fun b o e => Heap.get?_push_of_some _ (Heap.get?_push_of_some _ e)
  have hx : ((h.push emptyDict).push (instObj C h.objs.size)).get? (h.objs.size + 1) = some (instObj C h.objs.size) := by heap_get
  have t1 : Looks (model prog w) ((h.push emptyDict).push (instObj C h.objs.size)) (typeOf (.ref (h.objs.size + 1))) (.ref C) := (Looks.ld hx).andThen .now
  have s1 := self.keeps k
  have i1 := hil.keeps k
  have b1 := (hbl (.ref (h.objs.size + 1))).keeps k
  have N' := (N.push F emptyDict).push (F.push _) (instObj C h.objs.size)
  have hz : (h.push emptyDict).objs.size = h.objs.size + 1 := Heap.size_push _ _
  rw [hz] at N'
  unfold isInstance callSpecial? specialOf
  refine N_bindA (wpAny_bind (t1.at (s1.at ?_)))
  refine N_if_false rfl ?_
  refine N_bind (N_holding ?_)
  refine N_bindA (wpAny_bind (t1.at (i1.at ?_)))
  dsimp only
  refine N_holding (N_bindA (b1.at ?_))
  refine N_bind (N_call ?_)
  refine codeN_mono (hq (h.objs.size + 1) h.objs.size _ ((F.push _).push _) N' (fun p hp => Heap.lt_size (N p hp).1) (Nat.lt_succ_self _)) fun f s' hf => ?_
  cases f with
  | ret v =>
    obtain ⟨rfl, hr⟩ := hf
    exact N_pure (N_if_false rfl (N_pure hr))
  | _ => exact hf.elim
end
end Mine
end
section
open PySem PySem.W PySem.Calls PyProof.Rows PySem.Spec PyProof.V
namespace Mine
theorem caller_clean : Clean (⟨.builtin "claim.caller" {}, none, none, [], none⟩ : PySem.Ctx) := ⟨by show Builtin.Bytes.decodersThatHold.contains "claim.caller" = false; decide +kernel, fun _ h => nomatch h⟩
/-- a thread that starts on the caller's stack alone, which is clean -/
theorem thread_N {prog : Program} {w : World} {t : Sem Fin} {s : Shared} {R : Result → Shared → Prop} (hreg : s.asleep) (hG : leftWithCleanup s.gens = false)
    (h : wpN (model prog w) callerA t (fun fin s' => ∃ f, fin = .done f ∧ R (.ok f) s' ∧ s'.gens = #[]) { s with gens := #[] }) :
    ∃ n r s', schedN (denote table) prog w n (.single s ⟨t, .builtin "claim.caller" {}, default, []⟩) = .halted (outcomeOf r) { s' with gens := s.gens } ∧ s'.heap.life = s.heap.life ∧ R r s' := by
  have hw : Sem.wp (model prog w) ⟨.builtin "claim.caller" {}, none, none, [], none⟩ t (Sem.finPost (model prog w) ⟨.builtin "claim.caller" {}, none, none, [], none⟩ fun r s' => (R r s' ∧ s'.gens = #[]) ∧ leftWithCleanup s'.gens = false)
      (fun e _ s' => (R (.error e) s' ∧ s'.gens = #[]) ∧ leftWithCleanup s'.gens = false) default { s with gens := #[] } := by
    refine Sem.wp_mono _ _ t (fun fin p' s' h' => ?_) (fun _ _ _ h' => h'.elim) default _ (h _ default caller_in caller_clean)
    obtain ⟨f, rfl, hf, hg⟩ := h'
    exact ⟨⟨hf, hg⟩, by rw [hg]; simp [leftWithCleanup]⟩
  obtain ⟨n, r, s₁, hn, hR, hg⟩ := (wp_iff_halts (M := model prog w) (R := fun r s' => R r s' ∧ s'.gens = #[]) ..).mp hw
  obtain ⟨s₂, hr, hf, hc⟩ := runNI_real _ _ _ hn (outcomeOf_ends r)
  obtain rfl : s₂ = s₁ := Shared.eq_of_forget_eq hf hg
  exact ⟨n, r, s₂, sched_gens (s := { s with gens := #[] }) hG hr (outcomeOf_ends r) hg rfl hc hreg, runN_life (s := { s with gens := #[] }) _ _ _ hr, hR⟩

noncomputable abbrev WalkM (q : Program) (loose : List Str) (XP : (Str → Option Value) → Heap → Prop) (YP : World → Heap → Prop) (r : RowW) (d : DefRec) (kwd : List (Str × Expr)) : Prop :=
  ∀ (w : World) (s₀ s₁ : Shared) (mg mb : Str → Option Value), Ground q loose r.records XP w s₀ mg mb s₁.heap → YP w s₁.heap → ∀ (a : Addr) (o : Obj) (pm cd doc dV kV : Value), s₁.heap.get? a = some o →
    o.data = .func { docDef d.name d.params d.body d.scope pm cd doc with defaults := dV, kwdefaults := kV } → s₁.heap.CodeRec cd d.name → Dflts mg s₁.heap d.params kwd dV kV → mg d.name = some (.ref a) → s₁.gens = #[] →
    ∀ (args : List WData) (vals : List Value) (as : List Addr), r.claim.pre args = true → WData.layableAll args = true → ReadsAllW r.records (classAt s₀.heap) s₁.heap vals args as → WellAll w.params s₁.heap vals args → (∀ a ∈ as, (a == sysModules) = false) →
      wpN (model r.prog w) callerA (PySem.call (.ref a) vals) (fun v s' => GoodW r.claim (classAt s₀.heap) (ExcName.means s₀.heap) args s₁ (.ok (.ret v)) s') s₁
theorem N_nsGet {M : Model} {A : Around} {s : Shared} {a : Addr} {m : Str → Option Value} {x : Str} {Q : Option Value → Shared → Prop} (hn : s.heap.Ns a m) (h : Q (m x) s) : wpN M A (nsGet a x) Q s := N_any (wpAny_nsGet hn h)
theorem pin_one {b : Bool} {x n : Str} (h : n ∈ if b = true then [x] else []) : n = x := by
  cases b
  · exact nomatch h
  · exact List.mem_singleton.mp h
theorem thread_K {C : Prop} {prog : Program} {w : World} {t : Sem Fin} {s : Shared} {R : Result → Shared → Prop} (hreg : s.asleep) (hG : leftWithCleanup s.gens = false)
    (h : wpN (model prog w) callerA t (fun fin s' => ∃ f, fin = .done f ∧ R (.ok f) s' ∧ s'.gens = #[]) { s with gens := #[] })
    (k : ∀ n r s', schedN (denote table) prog w n (.single s ⟨t, .builtin "claim.caller" {}, default, []⟩) = .halted (outcomeOf r) { s' with gens := s.gens } → s'.heap.life = s.heap.life → R r s' → C) : C :=
  (thread_N hreg hG h).elim fun n h => h.elim fun r h => h.elim fun s' h => k n r s' h.1 h.2.1 h.2.2
theorem callFrom_N {c : ClaimW} {tree : List Value → Sem Fin} {w : World} {s : Shared} {free : Addr → Prop} {gens : Prop} {kept : Heap → Prop} (hz : s.asleep) (hG : s.gens = #[])
    (hspec : ∀ args, c.pre args = true → WData.layableAll args = true → ∀ ord : List DictEntry → List DictEntry, (∀ l, (ord l).Perm l) → ∃ vs s₁, layAllW c.records (classAt s.heap) w.params ord args s = some (vs, s₁) ∧
        wpN (model c.prog w) callerA (tree vs) (fun fin s' => ∃ f, fin = .done f ∧ (c.Ends s args vs s₁ (.ok f) s' ∧ s'.os = s.os ∧ kept s'.heap) ∧ s'.gens = #[]) { s₁ with gens := #[] }) :
    c.CallFrom (fun vs => ⟨tree vs, .builtin "claim.caller" {}, default, []⟩) w free gens kept s := fun args hpre hlay ord hord => by
  obtain ⟨vs, s₁, hlaid, hcode⟩ := hspec args hpre hlay ord hord
  have hal := layAllW_rest _ _ _ hlaid
  refine thread_K (prog := c.prog) (w := w) (t := tree vs) (s := s₁) (R := fun r s' => c.Ends s args vs s₁ r s' ∧ s'.os = s.os ∧ kept s'.heap)
    (Shared.asleep_of_life hal.2.2.2 hz) (by rw [hal.1, hG]; simp [leftWithCleanup]) hcode fun k r s' hsched hlife hR => ?_
  refine ⟨vs, s₁, hlaid, k, _, _, hsched, ?_, (fun _ i x hx => by rw [hG] at hx; simp at hx), hR.2.2, congrArg Life.seen (hlife.trans hal.2.2.2), Shared.rest_eq hR.2.1⟩
  exact hR.1.imp (Exists.imp fun v h => ⟨congrArg outcomeOf h.1, h.2.1, h.2.2.1, h.2.2.2.1, fun b o y _ => h.2.2.2.2.1 b o y, h.2.2.2.2.2⟩)
    (Exists.imp fun e => Exists.imp fun ob => Exists.imp fun cls h => ⟨congrArg outcomeOf h.1, h.2.1, h.2.2.1, h.2.2.2.1, h.2.2.2.2.1, fun b o y _ => h.2.2.2.2.2 b o y⟩)
/-- the head of an open row whose call is shown of clean stacks alone -/
theorem holds_clean {r : OpenRow} {q : Program} {loose : List Str} {Xt : Shared → Bool} {XP : (Str → Option Value) → Heap → Prop} {α : Type} {Yf : Shared → α} {Ya : World → α} {YP : World → Heap → Prop} {d : DefRec} {kwd : List (Str × Expr)} {N : Nat}
    (left : LeftO r.prog q loose Xt Yf Ya N) (hY : ∀ w s, Yf s = Ya w → YP w s.heap) (hYk : ∀ w h h', YP w h → (∀ b o, h.get? b = some o → h'.get? b = some o) → YP w h')
    (hX : ∀ s, Xt s = true → XP (s.heap.nsMap mainGlobals) s.heap) (hXk : ∀ mg h h', XP mg h → (∀ b o, h.get? b = some o → h'.get? b = some o) → XP mg h')
    (hdef : defOf q r.name = some (d, kwd)) (hp : r.prog.theDef r.name = some (d.params, d.body, d.scope)) (hk : kwWritten? d.params.kwonlyargs d.params.kw_defaults = some kwd) (hRf : ∀ s, Xt s = true → RecFacts r.records s.heap) (hwr : (!r.writes || r.records.isEmpty) = true)
    (k1 : r.wellSaid = true) (ok : (chainsOk q && opensWell r.prog && (frees r.toRowW && r.within.isEmpty)) = true) (hb : r.prog.bare) (hw : r.toRowW.promised)
    (call : WalkM q loose XP YP r.toRowW d kwd) : r.Holds := by
  refine ⟨k1, hw, ?_⟩
  obtain ⟨ok, k5⟩ := Bool.and_eq_true_iff.mp ok
  obtain ⟨hch, o1⟩ := Bool.and_eq_true_iff.mp ok
  obtain ⟨k5, k6⟩ := Bool.and_eq_true_iff.mp k5
  obtain ⟨hsame, hu, ha, hap, hm⟩ := frees_parts k5
  have lb := fun w => left.behind (XP := fun mg h => XP mg h ∧ RecFacts r.records h) (fun s hs => ⟨hX s hs, hRf s hs⟩) hch w
  refine ⟨⟨hb, o1, by show r.makers.map _ = []; rw [hm]; rfl⟩, hw.witness, fun w => ⟨(left.behind hX hch w).1, fun s' hs' => ?_⟩⟩
  obtain ⟨s₀, hf, hg0, s, hT, hz, hgens, hg, G00, y⟩ := (lb w).2 s' hs'
  have G0 : Ground q loose [] XP w s (s.heap.nsMap mainGlobals) (s.heap.nsMap builtinsNs) s.heap := ⟨G00.T, G00.B, G00.D, G00.TE, G00.TD, G00.W, G00.X.1, G00.cls, G00.has, G00.apart, G00.once, G00.K⟩
  have RF := G00.X.2
  have hgens : s.gens = #[] := Array.eq_empty_of_size_eq_zero (beq_iff_eq.mp hgens)
  have G : Ground q loose r.records XP w s _ _ s.heap := RF.ground G0
  refine ⟨s₀, hf, hg0, s, hT, fun n hn => ?_, RF.1, RF.2.1, ?_⟩
  · obtain rfl := pin_one hn
    exact pinned_of_view hg G0 hdef hp hk
  refine callFrom_N (c := r.toRowW.claim) (tree := fun vs => (callStub r.name vs).cur) hz hgens fun args hpre hlay ord hord => ?_
  obtain ⟨⟨vs, s₁⟩, hlaid⟩ := Option.isSome_iff_exists.mp (layAllW_isSome (P := w.params) (ord := ord) G.has args r.args s (pre_splitW hpre).1)
  have keeps := layAllW_keeps _ _ _ hlaid
  have hal := layAllW_rest _ _ _ hlaid
  obtain ⟨as, hrd, hin, hold⟩ := reads_layAllW hord _ _ _ hlaid hlay s₁.heap (fun _ _ e => e)
  have G₁ := G.keeps hXk keeps
  have hs₁ : s₁.gens = #[] := hal.1.trans hgens
  obtain ⟨a, o, pm, cd, doc, dV, kV, h1, h2, h3, h4, h5⟩ := G₁.fn hdef
  have h := call w s { s₁ with gens := #[] } _ _ G₁ (hYk _ _ _ (hY w s y) keeps) a o pm cd doc dV kV h2 h3 h4 h5 (defOf_name hdef ▸ h1) rfl args vs as hpre hlay hrd (well_layAllW hord args s _ hlaid _ fun _ _ e => e)
    (fun a ha => beq_eq_false_iff_ne.mpr fun e => by have := (hin.2.2 a ha).1; subst e; exact absurd G.low (Nat.not_lt.mpr this))
  have hi := ident_freeW hu ha hap
  have hwi : r.toRowW.claim.within = [] := List.isEmpty_iff.mp k6
  have hT' := hT
  refine ⟨vs, s₁, hlaid, N_bind (N_nsGet G₁.T.g ?_)⟩
  rw [h1]
  refine N_bind (N_mono h fun v s' g => N_pure ⟨_, rfl, ?_⟩)
  have z := g.endsN (c := r.toRowW.claim) hsame hwi hi hrd hold hal.2.2.1
  exact ⟨⟨z.1, z.2.1, fun q => ⟨namesKept_of hT' hg r.keeps keeps fun b o e => .inl (g.2.1 b o e), noTable hwr q⟩⟩, z.2.2⟩
end Mine
end
section
open PySem PySem.W PyProof.Rows
namespace Mine
section
local macro_rules | `(tactic| o_head $h) => `(tactic| exact (by assumption : ∀ p : Prop, p) _)
theorem kd (_h : ∀ p : Prop, p) : PySem.Challenge.rw_pb0184_01.Holds := by (w_on; refine holds_law (_h _) fun _ => ?_; k_head)
end
noncomputable def o2 : Params → Obj := by (intro P; refine' (?f : (o : Obj) → List.lookup 2 (kd.heap_1 P) = some o → Obj) _ rfl; exact fun o _ => o)
noncomputable def o3 : Params → Obj := by (intro P; refine' (?f : (o : Obj) → List.lookup 3 (kd.heap_1 P) = some o → Obj) _ rfl; exact fun o _ => o)
noncomputable def o15 : Params → Obj := by (intro P; refine' (?f : (o : Obj) → List.lookup 15 (kd.heap_1 P) = some o → Obj) _ rfl; exact fun o _ => o)
noncomputable def o17 : Params → Obj := by (intro P; refine' (?f : (o : Obj) → List.lookup 17 (kd.heap_1 P) = some o → Obj) _ rfl; exact fun o _ => o)
noncomputable def o18 : Params → Obj := by (intro P; refine' (?f : (o : Obj) → List.lookup 18 (kd.heap_1 P) = some o → Obj) _ rfl; exact fun o _ => o)
noncomputable def o20 : Params → Obj := by (intro P; refine' (?f : (o : Obj) → List.lookup 20 (kd.heap_1 P) = some o → Obj) _ rfl; exact fun o _ => o)
noncomputable def o21 : Params → Obj := by (intro P; refine' (?f : (o : Obj) → List.lookup 21 (kd.heap_1 P) = some o → Obj) _ rfl; exact fun o _ => o)
noncomputable def o22 : Params → Obj := by (intro P; refine' (?f : (o : Obj) → List.lookup 22 (kd.heap_1 P) = some o → Obj) _ rfl; exact fun o _ => o)
noncomputable def o25 : Params → Obj := by (intro P; refine' (?f : (o : Obj) → List.lookup 25 (kd.heap_1 P) = some o → Obj) _ rfl; exact fun o _ => o)
noncomputable def o48 : Params → Obj := by (intro P; refine' (?f : (o : Obj) → List.lookup 48 (kd.heap_1 P) = some o → Obj) _ rfl; exact fun o _ => o)
noncomputable def o47 : Params → Obj := by (intro P; refine' (?f : (o : Obj) → List.lookup 47 (kd.heap_1 P) = some o → Obj) _ rfl; exact fun o _ => o)
noncomputable def o61 : Params → Obj := by (intro P; refine' (?f : (o : Obj) → List.lookup 61 (kd.heap_1 P) = some o → Obj) _ rfl; exact fun o _ => o)
noncomputable def o60 : Params → Obj := by (intro P; refine' (?f : (o : Obj) → List.lookup 60 (kd.heap_1 P) = some o → Obj) _ rfl; exact fun o _ => o)
noncomputable def o73 : Params → Obj := by (intro P; refine' (?f : (o : Obj) → List.lookup 73 (kd.heap_1 P) = some o → Obj) _ rfl; exact fun o _ => o)
noncomputable def o72 : Params → Obj := by (intro P; refine' (?f : (o : Obj) → List.lookup 72 (kd.heap_1 P) = some o → Obj) _ rfl; exact fun o _ => o)
noncomputable def o37 : Params → Obj := by (intro P; refine' (?f : (o : Obj) → List.lookup 37 (kd.heap_1 P) = some o → Obj) _ rfl; exact fun o _ => o)
noncomputable def o38 : Params → Obj := by (intro P; refine' (?f : (o : Obj) → List.lookup 38 (kd.heap_1 P) = some o → Obj) _ rfl; exact fun o _ => o)
noncomputable def o81 : Params → Obj := by (intro P; refine' (?f : (o : Obj) → List.lookup 81 (kd.heap_1 P) = some o → Obj) _ rfl; exact fun o _ => o)
noncomputable def o82 : Params → Obj := by (intro P; refine' (?f : (o : Obj) → List.lookup 82 (kd.heap_1 P) = some o → Obj) _ rfl; exact fun o _ => o)
noncomputable def o88 : Params → Obj := by (intro P; refine' (?f : (o : Obj) → List.lookup 88 (kd.heap_1 P) = some o → Obj) _ rfl; exact fun o _ => o)
noncomputable def o89 : Params → Obj := by (intro P; refine' (?f : (o : Obj) → List.lookup 89 (kd.heap_1 P) = some o → Obj) _ rfl; exact fun o _ => o)
noncomputable def o93 : Params → Obj := by (intro P; refine' (?f : (o : Obj) → List.lookup 93 (kd.heap_1 P) = some o → Obj) _ rfl; exact fun o _ => o)
noncomputable def o94 : Params → Obj := by (intro P; refine' (?f : (o : Obj) → List.lookup 94 (kd.heap_1 P) = some o → Obj) _ rfl; exact fun o _ => o)
noncomputable def o107 : Params → Obj := by (intro P; refine' (?f : (o : Obj) → List.lookup 107 (kd.heap_1 P) = some o → Obj) _ rfl; exact fun o _ => o)
noncomputable def o108 : Params → Obj := by (intro P; refine' (?f : (o : Obj) → List.lookup 108 (kd.heap_1 P) = some o → Obj) _ rfl; exact fun o _ => o)
noncomputable def o121 : Params → Obj := by (intro P; refine' (?f : (o : Obj) → List.lookup 121 (kd.heap_1 P) = some o → Obj) _ rfl; exact fun o _ => o)
noncomputable def o122 : Params → Obj := by (intro P; refine' (?f : (o : Obj) → List.lookup 122 (kd.heap_1 P) = some o → Obj) _ rfl; exact fun o _ => o)
noncomputable def o142 : Params → Obj := by (intro P; refine' (?f : (o : Obj) → List.lookup 142 (kd.heap_1 P) = some o → Obj) _ rfl; exact fun o _ => o)
noncomputable def o143 : Params → Obj := by (intro P; refine' (?f : (o : Obj) → List.lookup 143 (kd.heap_1 P) = some o → Obj) _ rfl; exact fun o _ => o)
noncomputable def o147 : Params → Obj := by (intro P; refine' (?f : (o : Obj) → List.lookup 147 (kd.heap_1 P) = some o → Obj) _ rfl; exact fun o _ => o)
noncomputable def o148 : Params → Obj := by (intro P; refine' (?f : (o : Obj) → List.lookup 148 (kd.heap_1 P) = some o → Obj) _ rfl; exact fun o _ => o)
noncomputable def o152 : Params → Obj := by (intro P; refine' (?f : (o : Obj) → List.lookup 152 (kd.heap_1 P) = some o → Obj) _ rfl; exact fun o _ => o)
noncomputable def o153 : Params → Obj := by (intro P; refine' (?f : (o : Obj) → List.lookup 153 (kd.heap_1 P) = some o → Obj) _ rfl; exact fun o _ => o)
noncomputable def o159 : Params → Obj := by (intro P; refine' (?f : (o : Obj) → List.lookup 159 (kd.heap_1 P) = some o → Obj) _ rfl; exact fun o _ => o)
noncomputable def o160 : Params → Obj := by (intro P; refine' (?f : (o : Obj) → List.lookup 160 (kd.heap_1 P) = some o → Obj) _ rfl; exact fun o _ => o)
noncomputable def o173 : Params → Obj := by (intro P; refine' (?f : (o : Obj) → List.lookup 173 (kd.heap_1 P) = some o → Obj) _ rfl; exact fun o _ => o)
noncomputable def o174 : Params → Obj := by (intro P; refine' (?f : (o : Obj) → List.lookup 174 (kd.heap_1 P) = some o → Obj) _ rfl; exact fun o _ => o)
noncomputable def o176 : Params → Obj := by (intro P; refine' (?f : (o : Obj) → List.lookup 176 (kd.heap_1 P) = some o → Obj) _ rfl; exact fun o _ => o)
noncomputable def o177 : Params → Obj := by (intro P; refine' (?f : (o : Obj) → List.lookup 177 (kd.heap_1 P) = some o → Obj) _ rfl; exact fun o _ => o)
noncomputable def o178 : Params → Obj := by (intro P; refine' (?f : (o : Obj) → List.lookup 178 (kd.heap_1 P) = some o → Obj) _ rfl; exact fun o _ => o)
noncomputable def o179 : Params → Obj := by (intro P; refine' (?f : (o : Obj) → List.lookup 179 (kd.heap_1 P) = some o → Obj) _ rfl; exact fun o _ => o)
noncomputable def o187 : Params → Obj := by (intro P; refine' (?f : (o : Obj) → List.lookup 187 (kd.heap_1 P) = some o → Obj) _ rfl; exact fun o _ => o)
noncomputable def o188 : Params → Obj := by (intro P; refine' (?f : (o : Obj) → List.lookup 188 (kd.heap_1 P) = some o → Obj) _ rfl; exact fun o _ => o)
noncomputable def o189 : Params → Obj := by (intro P; refine' (?f : (o : Obj) → List.lookup 189 (kd.heap_1 P) = some o → Obj) _ rfl; exact fun o _ => o)
noncomputable def o202 : Params → Obj := by (intro P; refine' (?f : (o : Obj) → List.lookup 202 (kd.heap_1 P) = some o → Obj) _ rfl; exact fun o _ => o)
noncomputable def o203 : Params → Obj := by (intro P; refine' (?f : (o : Obj) → List.lookup 203 (kd.heap_1 P) = some o → Obj) _ rfl; exact fun o _ => o)
noncomputable def o212 : Params → Obj := by (intro P; refine' (?f : (o : Obj) → List.lookup 212 (kd.heap_1 P) = some o → Obj) _ rfl; exact fun o _ => o)
noncomputable def o213 : Params → Obj := by (intro P; refine' (?f : (o : Obj) → List.lookup 213 (kd.heap_1 P) = some o → Obj) _ rfl; exact fun o _ => o)
noncomputable def o214 : Params → Obj := by (intro P; refine' (?f : (o : Obj) → List.lookup 214 (kd.heap_1 P) = some o → Obj) _ rfl; exact fun o _ => o)
noncomputable def o215 : Params → Obj := by (intro P; refine' (?f : (o : Obj) → List.lookup 215 (kd.heap_1 P) = some o → Obj) _ rfl; exact fun o _ => o)
noncomputable def o223 : Params → Obj := by (intro P; refine' (?f : (o : Obj) → List.lookup 223 (kd.heap_1 P) = some o → Obj) _ rfl; exact fun o _ => o)
noncomputable def o224 : Params → Obj := by (intro P; refine' (?f : (o : Obj) → List.lookup 224 (kd.heap_1 P) = some o → Obj) _ rfl; exact fun o _ => o)
noncomputable def o230 : Params → Obj := by (intro P; refine' (?f : (o : Obj) → List.lookup 230 (kd.heap_1 P) = some o → Obj) _ rfl; exact fun o _ => o)
noncomputable def o231 : Params → Obj := by (intro P; refine' (?f : (o : Obj) → List.lookup 231 (kd.heap_1 P) = some o → Obj) _ rfl; exact fun o _ => o)
noncomputable def o237 : Params → Obj := by (intro P; refine' (?f : (o : Obj) → List.lookup 237 (kd.heap_1 P) = some o → Obj) _ rfl; exact fun o _ => o)
noncomputable def o238 : Params → Obj := by (intro P; refine' (?f : (o : Obj) → List.lookup 238 (kd.heap_1 P) = some o → Obj) _ rfl; exact fun o _ => o)
noncomputable def o244 : Params → Obj := by (intro P; refine' (?f : (o : Obj) → List.lookup 244 (kd.heap_1 P) = some o → Obj) _ rfl; exact fun o _ => o)
noncomputable def o245 : Params → Obj := by (intro P; refine' (?f : (o : Obj) → List.lookup 245 (kd.heap_1 P) = some o → Obj) _ rfl; exact fun o _ => o)
noncomputable def o251 : Params → Obj := by (intro P; refine' (?f : (o : Obj) → List.lookup 251 (kd.heap_1 P) = some o → Obj) _ rfl; exact fun o _ => o)
noncomputable def o252 : Params → Obj := by (intro P; refine' (?f : (o : Obj) → List.lookup 252 (kd.heap_1 P) = some o → Obj) _ rfl; exact fun o _ => o)
noncomputable def o258 : Params → Obj := by (intro P; refine' (?f : (o : Obj) → List.lookup 258 (kd.heap_1 P) = some o → Obj) _ rfl; exact fun o _ => o)
noncomputable def o259 : Params → Obj := by (intro P; refine' (?f : (o : Obj) → List.lookup 259 (kd.heap_1 P) = some o → Obj) _ rfl; exact fun o _ => o)
noncomputable def o265 : Params → Obj := by (intro P; refine' (?f : (o : Obj) → List.lookup 265 (kd.heap_1 P) = some o → Obj) _ rfl; exact fun o _ => o)
noncomputable def o266 : Params → Obj := by (intro P; refine' (?f : (o : Obj) → List.lookup 266 (kd.heap_1 P) = some o → Obj) _ rfl; exact fun o _ => o)
noncomputable def o272 : Params → Obj := by (intro P; refine' (?f : (o : Obj) → List.lookup 272 (kd.heap_1 P) = some o → Obj) _ rfl; exact fun o _ => o)
noncomputable def o273 : Params → Obj := by (intro P; refine' (?f : (o : Obj) → List.lookup 273 (kd.heap_1 P) = some o → Obj) _ rfl; exact fun o _ => o)
noncomputable def o277 : Params → Obj := by (intro P; refine' (?f : (o : Obj) → List.lookup 277 (kd.heap_1 P) = some o → Obj) _ rfl; exact fun o _ => o)
noncomputable def o278 : Params → Obj := by (intro P; refine' (?f : (o : Obj) → List.lookup 278 (kd.heap_1 P) = some o → Obj) _ rfl; exact fun o _ => o)
noncomputable def o282 : Params → Obj := by (intro P; refine' (?f : (o : Obj) → List.lookup 282 (kd.heap_1 P) = some o → Obj) _ rfl; exact fun o _ => o)
noncomputable def o283 : Params → Obj := by (intro P; refine' (?f : (o : Obj) → List.lookup 283 (kd.heap_1 P) = some o → Obj) _ rfl; exact fun o _ => o)
noncomputable def o284 : Params → Obj := by (intro P; refine' (?f : (o : Obj) → List.lookup 284 (kd.heap_1 P) = some o → Obj) _ rfl; exact fun o _ => o)
noncomputable def o290 : Params → Obj := by (intro P; refine' (?f : (o : Obj) → List.lookup 290 (kd.heap_1 P) = some o → Obj) _ rfl; exact fun o _ => o)
noncomputable def o291 : Params → Obj := by (intro P; refine' (?f : (o : Obj) → List.lookup 291 (kd.heap_1 P) = some o → Obj) _ rfl; exact fun o _ => o)
noncomputable def o297 : Params → Obj := by (intro P; refine' (?f : (o : Obj) → List.lookup 297 (kd.heap_1 P) = some o → Obj) _ rfl; exact fun o _ => o)
noncomputable def o298 : Params → Obj := by (intro P; refine' (?f : (o : Obj) → List.lookup 298 (kd.heap_1 P) = some o → Obj) _ rfl; exact fun o _ => o)
noncomputable def o302 : Params → Obj := by (intro P; refine' (?f : (o : Obj) → List.lookup 302 (kd.heap_1 P) = some o → Obj) _ rfl; exact fun o _ => o)
noncomputable def o303 : Params → Obj := by (intro P; refine' (?f : (o : Obj) → List.lookup 303 (kd.heap_1 P) = some o → Obj) _ rfl; exact fun o _ => o)
noncomputable def K : Params → Frag := fun P => (nat_lit 2, o2 P) :: (nat_lit 3, o3 P) :: (nat_lit 15, o15 P) :: (nat_lit 17, o17 P) :: (nat_lit 18, o18 P) :: (nat_lit 20, o20 P) :: (nat_lit 21, o21 P) :: (nat_lit 22, o22 P) :: (nat_lit 25, o25 P) :: (nat_lit 48, o48 P) :: (nat_lit 47, o47 P) :: (nat_lit 61, o61 P) :: (nat_lit 60, o60 P) :: (nat_lit 73, o73 P) :: (nat_lit 72, o72 P) :: (nat_lit 37, o37 P) :: (nat_lit 38, o38 P) :: (nat_lit 81, o81 P) :: (nat_lit 82, o82 P) :: (nat_lit 88, o88 P) :: (nat_lit 89, o89 P) :: (nat_lit 93, o93 P) :: (nat_lit 94, o94 P) :: (nat_lit 107, o107 P) :: (nat_lit 108, o108 P) :: (nat_lit 121, o121 P) :: (nat_lit 122, o122 P) :: (nat_lit 142, o142 P) :: (nat_lit 143, o143 P) :: (nat_lit 147, o147 P) :: (nat_lit 148, o148 P) :: (nat_lit 152, o152 P) :: (nat_lit 153, o153 P) :: (nat_lit 159, o159 P) :: (nat_lit 160, o160 P) :: (nat_lit 173, o173 P) :: (nat_lit 174, o174 P) :: (nat_lit 176, o176 P) :: (nat_lit 177, o177 P) :: (nat_lit 178, o178 P) :: (nat_lit 179, o179 P) :: (nat_lit 187, o187 P) :: (nat_lit 188, o188 P) :: (nat_lit 189, o189 P) :: (nat_lit 202, o202 P) :: (nat_lit 203, o203 P) :: (nat_lit 212, o212 P) :: (nat_lit 213, o213 P) :: (nat_lit 214, o214 P) :: (nat_lit 215, o215 P) :: (nat_lit 223, o223 P) :: (nat_lit 224, o224 P) :: (nat_lit 230, o230 P) :: (nat_lit 231, o231 P) :: (nat_lit 237, o237 P) :: (nat_lit 238, o238 P) :: (nat_lit 244, o244 P) :: (nat_lit 245, o245 P) :: (nat_lit 251, o251 P) :: (nat_lit 252, o252 P) :: (nat_lit 258, o258 P) :: (nat_lit 259, o259 P) :: (nat_lit 265, o265 P) :: (nat_lit 266, o266 P) :: (nat_lit 272, o272 P) :: (nat_lit 273, o273 P) :: (nat_lit 277, o277 P) :: (nat_lit 278, o278 P) :: (nat_lit 282, o282 P) :: (nat_lit 283, o283 P) :: (nat_lit 284, o284 P) :: (nat_lit 290, o290 P) :: (nat_lit 291, o291 P) :: (nat_lit 297, o297 P) :: (nat_lit 298, o298 P) :: (nat_lit 302, o302 P) :: (nat_lit 303, o303 P) :: []
namespace hd
noncomputable abbrev pr : Program := PySem.Challenge.rw_pb0184_01.row.toRowW.prog
noncomputable def hpk (P : Params) (a : Nat) : Obj := (List.lookup a (kd.heap_1 P)).getD { cls := .none, data := .fields #[] }
noncomputable def tS (i : Nat) : Stmt := (behindTheImports pr).getD i (.Pass ⟨0, 0, 0, 0⟩)
noncomputable def sBB : Stmt → List Stmt
  | .FunctionDef _ _ b .. => b
  | .ClassDef _ _ _ b .. => b
  | _ => []
noncomputable def mS (i k : Nat) : Stmt := (sBB (tS i)).getD k (.Pass ⟨0, 0, 0, 0⟩)
noncomputable def sP : Stmt → Arguments
  | .FunctionDef _ a .. => a
  | _ => ⟨[], [], none, [], [], none, []⟩
noncomputable def sS : Stmt → Scope
  | .FunctionDef _ _ _ _ _ _ s .. => s
  | _ => ⟨.function, [], false, false, []⟩
noncomputable def sB_mS_22_0 : List Stmt := sBB (mS 22 0)
noncomputable def sB_mS_22_1 : List Stmt := sBB (mS 22 1)
noncomputable def sB_mS_2_0 : List Stmt := sBB (mS 2 0)
noncomputable def sB_mS_2_1 : List Stmt := sBB (mS 2 1)
noncomputable def sB_mS_9_0 : List Stmt := sBB (mS 9 0)
noncomputable def sB_mS_9_1 : List Stmt := sBB (mS 9 1)
noncomputable def sB_mS_9_10 : List Stmt := sBB (mS 9 10)
noncomputable def sB_mS_9_2 : List Stmt := sBB (mS 9 2)
noncomputable def sB_mS_9_3 : List Stmt := sBB (mS 9 3)
noncomputable def sB_mS_9_4 : List Stmt := sBB (mS 9 4)
noncomputable def sB_mS_9_5 : List Stmt := sBB (mS 9 5)
noncomputable def sB_mS_9_6 : List Stmt := sBB (mS 9 6)
noncomputable def sB_mS_9_7 : List Stmt := sBB (mS 9 7)
noncomputable def sB_mS_9_8 : List Stmt := sBB (mS 9 8)
noncomputable def sB_mS_9_9 : List Stmt := sBB (mS 9 9)
noncomputable def sB_tS_0 : List Stmt := sBB (tS 0)
noncomputable def sB_tS_10 : List Stmt := sBB (tS 10)
noncomputable def sB_tS_23 : List Stmt := sBB (tS 23)
noncomputable def sB_tS_24 : List Stmt := sBB (tS 24)
noncomputable def sB_tS_25 : List Stmt := sBB (tS 25)
noncomputable def sB_tS_26 : List Stmt := sBB (tS 26)
noncomputable def sB_tS_27 : List Stmt := sBB (tS 27)
noncomputable def sB_tS_28 : List Stmt := sBB (tS 28)
noncomputable def sB_tS_29 : List Stmt := sBB (tS 29)
noncomputable def sB_tS_30 : List Stmt := sBB (tS 30)
noncomputable def sB_tS_31 : List Stmt := sBB (tS 31)
noncomputable def sB_tS_32 : List Stmt := sBB (tS 32)
noncomputable def sB_tS_35 : List Stmt := sBB (tS 35)
noncomputable def sB_tS_36 : List Stmt := sBB (tS 36)
noncomputable def sB_tS_37 : List Stmt := sBB (tS 37)
noncomputable def sB_tS_6 : List Stmt := sBB (tS 6)
noncomputable def sB_tS_7 : List Stmt := sBB (tS 7)
noncomputable def sB_tS_8 : List Stmt := sBB (tS 8)
noncomputable def sP_mS_22_0 : Arguments := sP (mS 22 0)
noncomputable def sP_mS_22_1 : Arguments := sP (mS 22 1)
noncomputable def sP_mS_2_0 : Arguments := sP (mS 2 0)
noncomputable def sP_mS_2_1 : Arguments := sP (mS 2 1)
noncomputable def sP_mS_9_0 : Arguments := sP (mS 9 0)
noncomputable def sP_mS_9_1 : Arguments := sP (mS 9 1)
noncomputable def sP_mS_9_10 : Arguments := sP (mS 9 10)
noncomputable def sP_mS_9_2 : Arguments := sP (mS 9 2)
noncomputable def sP_mS_9_3 : Arguments := sP (mS 9 3)
noncomputable def sP_mS_9_4 : Arguments := sP (mS 9 4)
noncomputable def sP_mS_9_5 : Arguments := sP (mS 9 5)
noncomputable def sP_mS_9_6 : Arguments := sP (mS 9 6)
noncomputable def sP_mS_9_7 : Arguments := sP (mS 9 7)
noncomputable def sP_mS_9_8 : Arguments := sP (mS 9 8)
noncomputable def sP_mS_9_9 : Arguments := sP (mS 9 9)
noncomputable def sP_tS_0 : Arguments := sP (tS 0)
noncomputable def sP_tS_10 : Arguments := sP (tS 10)
noncomputable def sP_tS_23 : Arguments := sP (tS 23)
noncomputable def sP_tS_24 : Arguments := sP (tS 24)
noncomputable def sP_tS_25 : Arguments := sP (tS 25)
noncomputable def sP_tS_26 : Arguments := sP (tS 26)
noncomputable def sP_tS_27 : Arguments := sP (tS 27)
noncomputable def sP_tS_28 : Arguments := sP (tS 28)
noncomputable def sP_tS_29 : Arguments := sP (tS 29)
noncomputable def sP_tS_30 : Arguments := sP (tS 30)
noncomputable def sP_tS_31 : Arguments := sP (tS 31)
noncomputable def sP_tS_32 : Arguments := sP (tS 32)
noncomputable def sP_tS_35 : Arguments := sP (tS 35)
noncomputable def sP_tS_36 : Arguments := sP (tS 36)
noncomputable def sP_tS_37 : Arguments := sP (tS 37)
noncomputable def sP_tS_6 : Arguments := sP (tS 6)
noncomputable def sP_tS_7 : Arguments := sP (tS 7)
noncomputable def sP_tS_8 : Arguments := sP (tS 8)
noncomputable def sS_mS_22_0 : Scope := sS (mS 22 0)
noncomputable def sS_mS_22_1 : Scope := sS (mS 22 1)
noncomputable def sS_mS_2_0 : Scope := sS (mS 2 0)
noncomputable def sS_mS_9_0 : Scope := sS (mS 9 0)
noncomputable def sS_mS_9_10 : Scope := sS (mS 9 10)
noncomputable def sS_mS_9_4 : Scope := sS (mS 9 4)
noncomputable def sS_mS_9_5 : Scope := sS (mS 9 5)
noncomputable def sS_mS_9_6 : Scope := sS (mS 9 6)
noncomputable def sS_mS_9_7 : Scope := sS (mS 9 7)
noncomputable def sS_mS_9_8 : Scope := sS (mS 9 8)
noncomputable def sS_mS_9_9 : Scope := sS (mS 9 9)
noncomputable def sS_tS_0 : Scope := sS (tS 0)
noncomputable def sS_tS_10 : Scope := sS (tS 10)
noncomputable def sS_tS_23 : Scope := sS (tS 23)
noncomputable def sS_tS_24 : Scope := sS (tS 24)
noncomputable def sS_tS_25 : Scope := sS (tS 25)
noncomputable def sS_tS_26 : Scope := sS (tS 26)
noncomputable def sS_tS_27 : Scope := sS (tS 27)
noncomputable def sS_tS_28 : Scope := sS (tS 28)
noncomputable def sS_tS_29 : Scope := sS (tS 29)
noncomputable def sS_tS_30 : Scope := sS (tS 30)
noncomputable def sS_tS_31 : Scope := sS (tS 31)
noncomputable def sS_tS_32 : Scope := sS (tS 32)
noncomputable def sS_tS_35 : Scope := sS (tS 35)
noncomputable def sS_tS_36 : Scope := sS (tS 36)
noncomputable def sS_tS_37 : Scope := sS (tS 37)
noncomputable def sS_tS_6 : Scope := sS (tS 6)
noncomputable def sS_tS_7 : Scope := sS (tS 7)
noncomputable def sS_tS_8 : Scope := sS (tS 8)
noncomputable def o_43 : Params → Obj := fun P => hpk P 299
noncomputable def o_44 : Params → Obj := fun P => { cls := Value.none, data := Data.fields #[] }
noncomputable def o_45 : Params → Obj := fun P => { cls := Value.type "code", data := Data.fields #[Value.str (Str.ofString "<module>") 182, Value.str (Str.ofString "<module>") 183, Value.str (Str.ofString "/claim/cut.py") 184, Value.int 1 0, Value.int 0 0, Value.int 0 0, Value.int 0 0, Value.int 0 0, Value.ref 11, Value.bool false, Value.int 181 0, Value.ref 12, Value.none, Value.none, Value.none, Value.none, Value.int 185 0, Value.int 1 0, Value.str (Str.ofString "/claim/cut.py") 186] }
noncomputable def o_46 : Params → Obj := fun P => { cls := Value.type "frame", slots := #[some (Value.ref 13), some (Value.ref 3), some (Value.ref 3), none, some (Value.str (Str.ofString "__main__") 164), none, some (Value.ref 0)] }
noncomputable def o_49 : Params → Obj := fun P => hpk P 2
noncomputable def o_50 : Params → Obj := fun P => { cls := Value.type "dict", data := Data.dict #[{ hash := PyData.keyHash P (Str.ofString "__name__"), key := Value.str (Str.ofString "__name__") 165, val := Value.str (Str.ofString "joinedhand.errors") 194 }, { hash := PyData.keyHash P (Str.ofString "__doc__"), key := Value.str (Str.ofString "__doc__") 166, val := Value.none }, { hash := PyData.keyHash P (Str.ofString "__package__"), key := Value.str (Str.ofString "__package__") 167, val := Value.none }, { hash := PyData.keyHash P (Str.ofString "__loader__"), key := Value.str (Str.ofString "__loader__") 168, val := Value.builtin "__main__.__loader__#opaque" }, { hash := PyData.keyHash P (Str.ofString "__spec__"), key := Value.str (Str.ofString "__spec__") 169, val := Value.none }, { hash := PyData.keyHash P (Str.ofString "__annotations__"), key := Value.str (Str.ofString "__annotations__") 170, val := Value.ref 6 }, { hash := PyData.keyHash P (Str.ofString "__builtins__"), key := Value.str (Str.ofString "__builtins__") 171, val := Value.ref 4 }, { hash := PyData.keyHash P (Str.ofString "__file__"), key := Value.str (Str.ofString "__file__") 173, val := Value.str (Str.ofString "/claim/cut.py") 172 }, { hash := PyData.keyHash P (Str.ofString "__cached__"), key := Value.str (Str.ofString "__cached__") 174, val := Value.none }, { hash := PyData.keyHash P (Str.ofString "_wall"), key := Value.str (Str.ofString "_wall") 193, val := Value.ref 21 }, { hash := PyData.keyHash P (Str.ofString "ShapeError"), key := Value.str (Str.ofString "ShapeError") 237, val := Value.ref 48 }] 11 }
noncomputable def o_51 : Params → Obj := fun P => { cls := Value.none, data := Data.fields #[Value.int 1 0, Value.int 0 0, Value.ref 20, Value.int 5 0, Value.int 0 0, Value.ref 28] }
noncomputable def o_52 : Params → Obj := fun P => hpk P 299
noncomputable def o_53 : Params → Obj := fun P => { cls := Value.none, data := Data.fields #[] }
noncomputable def o_54 : Params → Obj := fun P => hpk P 17
noncomputable def o_55 : Params → Obj := fun P => hpk P 299
noncomputable def o_56 : Params → Obj := fun P => { cls := Value.none, data := Data.func { name := Str.ofString "_wall", qualname := Str.ofString "_wall", params := sP_tS_0, body := FuncBody.stmts sB_tS_0, scope := sS_tS_0, globals := 0, closure := [], defaults := Value.none, kwdefaults := Value.none } }
noncomputable def o_57 : Params → Obj := fun P => hpk P 20
noncomputable def o_58 : Params → Obj := fun P => hpk P 21
noncomputable def o_59 : Params → Obj := fun P => hpk P 22
noncomputable def o_60 : Params → Obj := fun P => { cls := Value.type "builtin_function_or_method", data := Data.fields #[Value.builtin "type.__prepare__", Value.type "type"] }
noncomputable def o_61 : Params → Obj := fun P => { cls := Value.type "dict", data := Data.dict #[{ hash := PyData.keyHash P (Str.ofString "__module__"), key := Value.str (Str.ofString "__module__") 203, val := Value.str (Str.ofString "joinedhand.errors") 194 }, { hash := PyData.keyHash P (Str.ofString "__qualname__"), key := Value.str (Str.ofString "__qualname__") 205, val := Value.str (Str.ofString "ShapeError") 204 }, { hash := PyData.keyHash P (Str.ofString "__firstlineno__"), key := Value.str (Str.ofString "__firstlineno__") 207, val := Value.int 5 206 }, { hash := PyData.keyHash P (Str.ofString "__init__"), key := Value.str (Str.ofString "__init__") 219, val := Value.ref 38 }, { hash := PyData.keyHash P (Str.ofString "told"), key := Value.str (Str.ofString "told") 226, val := Value.ref 45 }, { hash := PyData.keyHash P (Str.ofString "__static_attributes__"), key := Value.str (Str.ofString "__static_attributes__") 229, val := Value.ref 46 }, { hash := PyData.keyHash P (Str.ofString "__classcell__"), key := Value.str (Str.ofString "__classcell__") 230, val := Value.ref 25 }] 7 }
noncomputable def o_62 : Params → Obj := fun P => hpk P 25
noncomputable def o_63 : Params → Obj := fun P => hpk P 299
noncomputable def o_64 : Params → Obj := fun P => { cls := Value.none, data := Data.fields #[Value.int 7 0, Value.int 4 0, Value.ref 37, Value.int 12 0, Value.int 4 0, Value.ref 44] }
noncomputable def o_65 : Params → Obj := fun P => { cls := Value.type "code", data := Data.fields #[Value.str (Str.ofString "ShapeError") 198, Value.str (Str.ofString "ShapeError") 199, Value.str (Str.ofString "/claim/cut.py") 200, Value.int 5 0, Value.int 0 0, Value.int 0 0, Value.int 0 0, Value.int 0 0, Value.ref 26, Value.bool false, Value.int 181 0, Value.ref 27, Value.none, Value.none, Value.none, Value.none, Value.int 201 0, Value.int 5 0, Value.str (Str.ofString "/claim/cut.py") 202] }
noncomputable def o_66 : Params → Obj := fun P => { cls := Value.type "frame", slots := #[some (Value.ref 28), some (Value.ref 3), some (Value.ref 24), none, some (Value.str (Str.ofString "joinedhand.errors") 194), none, some (Value.ref 0)] }
noncomputable def o_67 : Params → Obj := fun P => hpk P 30
noncomputable def o_68 : Params → Obj := fun P => hpk P 31
noncomputable def o_69 : Params → Obj := fun P => hpk P 32
noncomputable def o_70 : Params → Obj := fun P => { cls := Value.none, data := Data.fields #[] }
noncomputable def o_71 : Params → Obj := fun P => hpk P 34
noncomputable def o_72 : Params → Obj := fun P => hpk P 299
noncomputable def o_73 : Params → Obj := fun P => { cls := Value.none, data := Data.func { name := Str.ofString "__init__", qualname := Str.ofString "ShapeError.__init__", params := sP_mS_2_0, body := FuncBody.stmts sB_mS_2_0, scope := sS_mS_2_0, globals := 0, closure := [], defaults := Value.none, kwdefaults := Value.none } }
noncomputable def o_74 : Params → Obj := fun P => hpk P 37
noncomputable def o_75 : Params → Obj := fun P => hpk P 38
noncomputable def o_76 : Params → Obj := fun P => hpk P 299
noncomputable def o_77 : Params → Obj := fun P => { cls := Value.none, data := Data.fields #[] }
noncomputable def o_78 : Params → Obj := fun P => hpk P 41
noncomputable def o_79 : Params → Obj := fun P => hpk P 299
noncomputable def o_80 : Params → Obj := fun P => { cls := Value.none, data := Data.func { name := Str.ofString "told", qualname := Str.ofString "ShapeError.told", params := sP_mS_2_1, body := FuncBody.stmts sB_mS_2_1, scope := sS_mS_9_9, globals := 0, closure := [], defaults := Value.none, kwdefaults := Value.none } }
noncomputable def o_81 : Params → Obj := fun P => hpk P 44
noncomputable def o_82 : Params → Obj := fun P => hpk P 45
noncomputable def o_83 : Params → Obj := fun P => hpk P 46
noncomputable def o_84 : Params → Obj := fun P => hpk P 47
noncomputable def o_85 : Params → Obj := fun P => { cls := Value.type "type", data := Data.cls { name := Str.ofString "ShapeError", bases := [Value.type "Exception"], mro := [Value.ref 48, Value.type "Exception", Value.type "BaseException", Value.type "object"], ns := 47, qualname := Str.ofString "ShapeError" }, slots := #[some (Value.ref 22), none, some (Value.str (Str.ofString "ShapeError") 196), some (Value.str (Str.ofString "ShapeError") 204), some (Value.builtin "Exception.__new__"), some (Value.bool true)] }
noncomputable def o_86 : Params → Obj := fun P => hpk P 49
noncomputable def o_87 : Params → Obj := fun P => { cls := Value.type "super", data := Data.fields #[Value.ref 48, Value.ref 48, Value.ref 48] }
noncomputable def o_88 : Params → Obj := fun P => { cls := Value.type "builtin_function_or_method", data := Data.fields #[Value.builtin "object.__init_subclass__", Value.ref 48] }
noncomputable def o_89 : Params → Obj := fun P => { cls := Value.type "dict", data := Data.dict #[{ hash := PyData.keyHash P (Str.ofString "__name__"), key := Value.str (Str.ofString "__name__") 165, val := Value.str (Str.ofString "joinedhand.errors") 194 }, { hash := PyData.keyHash P (Str.ofString "__doc__"), key := Value.str (Str.ofString "__doc__") 166, val := Value.none }, { hash := PyData.keyHash P (Str.ofString "__package__"), key := Value.str (Str.ofString "__package__") 167, val := Value.none }, { hash := PyData.keyHash P (Str.ofString "__loader__"), key := Value.str (Str.ofString "__loader__") 168, val := Value.builtin "__main__.__loader__#opaque" }, { hash := PyData.keyHash P (Str.ofString "__spec__"), key := Value.str (Str.ofString "__spec__") 169, val := Value.none }, { hash := PyData.keyHash P (Str.ofString "__annotations__"), key := Value.str (Str.ofString "__annotations__") 170, val := Value.ref 6 }, { hash := PyData.keyHash P (Str.ofString "__builtins__"), key := Value.str (Str.ofString "__builtins__") 171, val := Value.ref 4 }, { hash := PyData.keyHash P (Str.ofString "__file__"), key := Value.str (Str.ofString "__file__") 173, val := Value.str (Str.ofString "/claim/cut.py") 172 }, { hash := PyData.keyHash P (Str.ofString "__cached__"), key := Value.str (Str.ofString "__cached__") 174, val := Value.none }, { hash := PyData.keyHash P (Str.ofString "_wall"), key := Value.str (Str.ofString "_wall") 193, val := Value.ref 21 }, { hash := PyData.keyHash P (Str.ofString "ShapeError"), key := Value.str (Str.ofString "ShapeError") 237, val := Value.ref 48 }, { hash := PyData.keyHash P (Str.ofString "TableFault"), key := Value.str (Str.ofString "TableFault") 253, val := Value.ref 61 }] 12 }
noncomputable def o_90 : Params → Obj := fun P => { cls := Value.none, data := Data.fields #[Value.int 1 0, Value.int 0 0, Value.ref 20, Value.int 5 0, Value.int 0 0, Value.ref 28, Value.int 14 0, Value.int 0 0, Value.ref 57] }
noncomputable def o_91 : Params → Obj := fun P => { cls := Value.type "type", data := Data.cls { name := Str.ofString "ShapeError", bases := [Value.type "Exception"], mro := [Value.ref 48, Value.type "Exception", Value.type "BaseException", Value.type "object"], ns := 47, qualname := Str.ofString "ShapeError", subclasses := [Value.ref 61] }, slots := #[some (Value.ref 22), none, some (Value.str (Str.ofString "ShapeError") 196), some (Value.str (Str.ofString "ShapeError") 204), some (Value.builtin "Exception.__new__"), some (Value.bool true)] }
noncomputable def o_92 : Params → Obj := fun P => hpk P 64
noncomputable def o_93 : Params → Obj := fun P => { cls := Value.type "builtin_function_or_method", data := Data.fields #[Value.builtin "type.__prepare__", Value.type "type"] }
noncomputable def o_94 : Params → Obj := fun P => { cls := Value.type "dict", data := Data.dict #[{ hash := PyData.keyHash P (Str.ofString "__module__"), key := Value.str (Str.ofString "__module__") 245, val := Value.str (Str.ofString "joinedhand.errors") 194 }, { hash := PyData.keyHash P (Str.ofString "__qualname__"), key := Value.str (Str.ofString "__qualname__") 247, val := Value.str (Str.ofString "TableFault") 246 }, { hash := PyData.keyHash P (Str.ofString "__firstlineno__"), key := Value.str (Str.ofString "__firstlineno__") 249, val := Value.int 14 248 }, { hash := PyData.keyHash P (Str.ofString "__static_attributes__"), key := Value.str (Str.ofString "__static_attributes__") 250, val := Value.ref 59 }] 4 }
noncomputable def o_95 : Params → Obj := fun P => hpk P 299
noncomputable def o_96 : Params → Obj := fun P => { cls := Value.none, data := Data.fields #[] }
noncomputable def o_97 : Params → Obj := fun P => { cls := Value.type "code", data := Data.fields #[Value.str (Str.ofString "TableFault") 240, Value.str (Str.ofString "TableFault") 241, Value.str (Str.ofString "/claim/cut.py") 242, Value.int 14 0, Value.int 0 0, Value.int 0 0, Value.int 0 0, Value.int 0 0, Value.ref 55, Value.bool false, Value.int 181 0, Value.ref 56, Value.none, Value.none, Value.none, Value.none, Value.int 243 0, Value.int 14 0, Value.str (Str.ofString "/claim/cut.py") 244] }
noncomputable def o_98 : Params → Obj := fun P => { cls := Value.type "frame", slots := #[some (Value.ref 57), some (Value.ref 3), some (Value.ref 54), none, some (Value.str (Str.ofString "joinedhand.errors") 194), none, some (Value.ref 0)] }
noncomputable def o_99 : Params → Obj := fun P => hpk P 299
noncomputable def o_100 : Params → Obj := fun P => hpk P 60
noncomputable def o_101 : Params → Obj := fun P => hpk P 61
noncomputable def o_102 : Params → Obj := fun P => { cls := Value.type "super", data := Data.fields #[Value.ref 61, Value.ref 61, Value.ref 61] }
noncomputable def o_103 : Params → Obj := fun P => { cls := Value.type "builtin_function_or_method", data := Data.fields #[Value.builtin "object.__init_subclass__", Value.ref 61] }
noncomputable def o_104 : Params → Obj := fun P => { cls := Value.type "dict", data := Data.dict #[{ hash := PyData.keyHash P (Str.ofString "__name__"), key := Value.str (Str.ofString "__name__") 165, val := Value.str (Str.ofString "joinedhand.octets") 270 }, { hash := PyData.keyHash P (Str.ofString "__doc__"), key := Value.str (Str.ofString "__doc__") 166, val := Value.none }, { hash := PyData.keyHash P (Str.ofString "__package__"), key := Value.str (Str.ofString "__package__") 167, val := Value.none }, { hash := PyData.keyHash P (Str.ofString "__loader__"), key := Value.str (Str.ofString "__loader__") 168, val := Value.builtin "__main__.__loader__#opaque" }, { hash := PyData.keyHash P (Str.ofString "__spec__"), key := Value.str (Str.ofString "__spec__") 169, val := Value.none }, { hash := PyData.keyHash P (Str.ofString "__annotations__"), key := Value.str (Str.ofString "__annotations__") 170, val := Value.ref 6 }, { hash := PyData.keyHash P (Str.ofString "__builtins__"), key := Value.str (Str.ofString "__builtins__") 171, val := Value.ref 4 }, { hash := PyData.keyHash P (Str.ofString "__file__"), key := Value.str (Str.ofString "__file__") 173, val := Value.str (Str.ofString "/claim/cut.py") 172 }, { hash := PyData.keyHash P (Str.ofString "__cached__"), key := Value.str (Str.ofString "__cached__") 174, val := Value.none }, { hash := PyData.keyHash P (Str.ofString "_wall"), key := Value.str (Str.ofString "_wall") 193, val := Value.ref 21 }, { hash := PyData.keyHash P (Str.ofString "ShapeError"), key := Value.str (Str.ofString "ShapeError") 237, val := Value.ref 48 }, { hash := PyData.keyHash P (Str.ofString "TableFault"), key := Value.str (Str.ofString "TableFault") 253, val := Value.ref 61 }, { hash := PyData.keyHash P (Str.ofString "FontFault"), key := Value.str (Str.ofString "FontFault") 269, val := Value.ref 73 }, { hash := PyData.keyHash P (Str.ofString "check_room"), key := Value.str (Str.ofString "check_room") 280, val := Value.ref 82 }, { hash := PyData.keyHash P (Str.ofString "number_at"), key := Value.str (Str.ofString "number_at") 291, val := Value.ref 89 }, { hash := PyData.keyHash P (Str.ofString "number_octets"), key := Value.str (Str.ofString "number_octets") 297, val := Value.ref 94 }] 16 }
noncomputable def o_105 : Params → Obj := fun P => { cls := Value.none, data := Data.fields #[Value.int 1 0, Value.int 0 0, Value.ref 20, Value.int 5 0, Value.int 0 0, Value.ref 28, Value.int 14 0, Value.int 0 0, Value.ref 57, Value.int 16 0, Value.int 0 0, Value.ref 69, Value.int 19 0, Value.int 0 0, Value.ref 81, Value.int 22 0, Value.int 0 0, Value.ref 88, Value.int 28 0, Value.int 0 0, Value.ref 93] }
noncomputable def o_106 : Params → Obj := fun P => hpk P 48
noncomputable def o_107 : Params → Obj := fun P => hpk P 64
noncomputable def o_108 : Params → Obj := fun P => { cls := Value.type "builtin_function_or_method", data := Data.fields #[Value.builtin "type.__prepare__", Value.type "type"] }
noncomputable def o_109 : Params → Obj := fun P => { cls := Value.type "dict", data := Data.dict #[{ hash := PyData.keyHash P (Str.ofString "__module__"), key := Value.str (Str.ofString "__module__") 261, val := Value.str (Str.ofString "joinedhand.errors") 194 }, { hash := PyData.keyHash P (Str.ofString "__qualname__"), key := Value.str (Str.ofString "__qualname__") 263, val := Value.str (Str.ofString "FontFault") 262 }, { hash := PyData.keyHash P (Str.ofString "__firstlineno__"), key := Value.str (Str.ofString "__firstlineno__") 265, val := Value.int 16 264 }, { hash := PyData.keyHash P (Str.ofString "__static_attributes__"), key := Value.str (Str.ofString "__static_attributes__") 266, val := Value.ref 71 }] 4 }
noncomputable def o_110 : Params → Obj := fun P => hpk P 299
noncomputable def o_111 : Params → Obj := fun P => { cls := Value.none, data := Data.fields #[] }
noncomputable def o_112 : Params → Obj := fun P => { cls := Value.type "code", data := Data.fields #[Value.str (Str.ofString "FontFault") 256, Value.str (Str.ofString "FontFault") 257, Value.str (Str.ofString "/claim/cut.py") 258, Value.int 16 0, Value.int 0 0, Value.int 0 0, Value.int 0 0, Value.int 0 0, Value.ref 67, Value.bool false, Value.int 181 0, Value.ref 68, Value.none, Value.none, Value.none, Value.none, Value.int 259 0, Value.int 16 0, Value.str (Str.ofString "/claim/cut.py") 260] }
noncomputable def o_113 : Params → Obj := fun P => { cls := Value.type "frame", slots := #[some (Value.ref 69), some (Value.ref 3), some (Value.ref 66), none, some (Value.str (Str.ofString "joinedhand.errors") 194), none, some (Value.ref 0)] }
noncomputable def o_114 : Params → Obj := fun P => hpk P 299
noncomputable def o_115 : Params → Obj := fun P => hpk P 72
noncomputable def o_116 : Params → Obj := fun P => hpk P 73
noncomputable def o_117 : Params → Obj := fun P => { cls := Value.type "super", data := Data.fields #[Value.ref 73, Value.ref 73, Value.ref 73] }
noncomputable def o_118 : Params → Obj := fun P => { cls := Value.type "builtin_function_or_method", data := Data.fields #[Value.builtin "object.__init_subclass__", Value.ref 73] }
noncomputable def o_119 : Params → Obj := fun P => hpk P 299
noncomputable def o_120 : Params → Obj := fun P => { cls := Value.none, data := Data.fields #[] }
noncomputable def o_121 : Params → Obj := fun P => hpk P 78
noncomputable def o_122 : Params → Obj := fun P => hpk P 299
noncomputable def o_123 : Params → Obj := fun P => { cls := Value.none, data := Data.func { name := Str.ofString "check_room", qualname := Str.ofString "check_room", params := sP_tS_6, body := FuncBody.stmts sB_tS_6, scope := sS_tS_6, globals := 0, closure := [], defaults := Value.none, kwdefaults := Value.none } }
noncomputable def o_124 : Params → Obj := fun P => hpk P 81
noncomputable def o_125 : Params → Obj := fun P => hpk P 82
noncomputable def o_126 : Params → Obj := fun P => hpk P 299
noncomputable def o_127 : Params → Obj := fun P => { cls := Value.none, data := Data.fields #[] }
noncomputable def o_128 : Params → Obj := fun P => hpk P 85
noncomputable def o_129 : Params → Obj := fun P => hpk P 299
noncomputable def o_130 : Params → Obj := fun P => { cls := Value.none, data := Data.func { name := Str.ofString "number_at", qualname := Str.ofString "number_at", params := sP_tS_7, body := FuncBody.stmts sB_tS_7, scope := sS_tS_7, globals := 0, closure := [], defaults := Value.none, kwdefaults := Value.none } }
noncomputable def o_131 : Params → Obj := fun P => hpk P 88
noncomputable def o_132 : Params → Obj := fun P => hpk P 89
noncomputable def o_133 : Params → Obj := fun P => hpk P 299
noncomputable def o_134 : Params → Obj := fun P => { cls := Value.none, data := Data.fields #[] }
noncomputable def o_135 : Params → Obj := fun P => { cls := Value.none, data := Data.func { name := Str.ofString "number_octets", qualname := Str.ofString "number_octets", params := sP_tS_8, body := FuncBody.stmts sB_tS_8, scope := sS_tS_8, globals := 0, closure := [], defaults := Value.none, kwdefaults := Value.none } }
noncomputable def o_136 : Params → Obj := fun P => hpk P 93
noncomputable def o_137 : Params → Obj := fun P => hpk P 94
noncomputable def o_138 : Params → Obj := fun P => { cls := Value.type "dict", data := Data.dict #[{ hash := PyData.keyHash P (Str.ofString "__name__"), key := Value.str (Str.ofString "__name__") 165, val := Value.str (Str.ofString "joinedhand.octets") 270 }, { hash := PyData.keyHash P (Str.ofString "__doc__"), key := Value.str (Str.ofString "__doc__") 166, val := Value.none }, { hash := PyData.keyHash P (Str.ofString "__package__"), key := Value.str (Str.ofString "__package__") 167, val := Value.none }, { hash := PyData.keyHash P (Str.ofString "__loader__"), key := Value.str (Str.ofString "__loader__") 168, val := Value.builtin "__main__.__loader__#opaque" }, { hash := PyData.keyHash P (Str.ofString "__spec__"), key := Value.str (Str.ofString "__spec__") 169, val := Value.none }, { hash := PyData.keyHash P (Str.ofString "__annotations__"), key := Value.str (Str.ofString "__annotations__") 170, val := Value.ref 6 }, { hash := PyData.keyHash P (Str.ofString "__builtins__"), key := Value.str (Str.ofString "__builtins__") 171, val := Value.ref 4 }, { hash := PyData.keyHash P (Str.ofString "__file__"), key := Value.str (Str.ofString "__file__") 173, val := Value.str (Str.ofString "/claim/cut.py") 172 }, { hash := PyData.keyHash P (Str.ofString "__cached__"), key := Value.str (Str.ofString "__cached__") 174, val := Value.none }, { hash := PyData.keyHash P (Str.ofString "_wall"), key := Value.str (Str.ofString "_wall") 193, val := Value.ref 21 }, { hash := PyData.keyHash P (Str.ofString "ShapeError"), key := Value.str (Str.ofString "ShapeError") 237, val := Value.ref 48 }, { hash := PyData.keyHash P (Str.ofString "TableFault"), key := Value.str (Str.ofString "TableFault") 253, val := Value.ref 61 }, { hash := PyData.keyHash P (Str.ofString "FontFault"), key := Value.str (Str.ofString "FontFault") 269, val := Value.ref 73 }, { hash := PyData.keyHash P (Str.ofString "check_room"), key := Value.str (Str.ofString "check_room") 280, val := Value.ref 82 }, { hash := PyData.keyHash P (Str.ofString "number_at"), key := Value.str (Str.ofString "number_at") 291, val := Value.ref 89 }, { hash := PyData.keyHash P (Str.ofString "number_octets"), key := Value.str (Str.ofString "number_octets") 297, val := Value.ref 94 }, { hash := PyData.keyHash P (Str.ofString "OctetsOut"), key := Value.str (Str.ofString "OctetsOut") 399, val := Value.ref 177 }] 17 }
noncomputable def o_139 : Params → Obj := fun P => { cls := Value.none, data := Data.fields #[Value.int 1 0, Value.int 0 0, Value.ref 20, Value.int 5 0, Value.int 0 0, Value.ref 28, Value.int 14 0, Value.int 0 0, Value.ref 57, Value.int 16 0, Value.int 0 0, Value.ref 69, Value.int 19 0, Value.int 0 0, Value.ref 81, Value.int 22 0, Value.int 0 0, Value.ref 88, Value.int 28 0, Value.int 0 0, Value.ref 93, Value.int 32 0, Value.int 0 0, Value.ref 100] }
noncomputable def o_140 : Params → Obj := fun P => hpk P 299
noncomputable def o_141 : Params → Obj := fun P => { cls := Value.type "builtin_function_or_method", data := Data.fields #[Value.builtin "type.__prepare__", Value.type "type"] }
noncomputable def o_142 : Params → Obj := fun P => { cls := Value.type "dict", data := Data.dict #[{ hash := PyData.keyHash P (Str.ofString "__module__"), key := Value.str (Str.ofString "__module__") 305, val := Value.str (Str.ofString "joinedhand.octets") 270 }, { hash := PyData.keyHash P (Str.ofString "__qualname__"), key := Value.str (Str.ofString "__qualname__") 307, val := Value.str (Str.ofString "OctetsOut") 306 }, { hash := PyData.keyHash P (Str.ofString "__firstlineno__"), key := Value.str (Str.ofString "__firstlineno__") 309, val := Value.int 32 308 }, { hash := PyData.keyHash P (Str.ofString "__init__"), key := Value.str (Str.ofString "__init__") 316, val := Value.ref 108 }, { hash := PyData.keyHash P (Str.ofString "u8"), key := Value.str (Str.ofString "u8") 324, val := Value.ref 115 }, { hash := PyData.keyHash P (Str.ofString "u16"), key := Value.str (Str.ofString "u16") 332, val := Value.ref 122 }, { hash := PyData.keyHash P (Str.ofString "i16"), key := Value.str (Str.ofString "i16") 340, val := Value.ref 129 }, { hash := PyData.keyHash P (Str.ofString "u24"), key := Value.str (Str.ofString "u24") 348, val := Value.ref 136 }, { hash := PyData.keyHash P (Str.ofString "u32"), key := Value.str (Str.ofString "u32") 356, val := Value.ref 143 }, { hash := PyData.keyHash P (Str.ofString "tag"), key := Value.str (Str.ofString "tag") 362, val := Value.ref 148 }, { hash := PyData.keyHash P (Str.ofString "rows"), key := Value.str (Str.ofString "rows") 368, val := Value.ref 153 }, { hash := PyData.keyHash P (Str.ofString "add"), key := Value.str (Str.ofString "add") 376, val := Value.ref 160 }, { hash := PyData.keyHash P (Str.ofString "size"), key := Value.str (Str.ofString "size") 383, val := Value.ref 167 }, { hash := PyData.keyHash P (Str.ofString "octets"), key := Value.str (Str.ofString "octets") 390, val := Value.ref 174 }, { hash := PyData.keyHash P (Str.ofString "__static_attributes__"), key := Value.str (Str.ofString "__static_attributes__") 392, val := Value.ref 175 }] 15 }
noncomputable def o_143 : Params → Obj := fun P => hpk P 299
noncomputable def o_144 : Params → Obj := fun P => { cls := Value.none, data := Data.fields #[Value.int 34 0, Value.int 4 0, Value.ref 107, Value.int 37 0, Value.int 4 0, Value.ref 114, Value.int 40 0, Value.int 4 0, Value.ref 121, Value.int 43 0, Value.int 4 0, Value.ref 128, Value.int 46 0, Value.int 4 0, Value.ref 135, Value.int 49 0, Value.int 4 0, Value.ref 142, Value.int 52 0, Value.int 4 0, Value.ref 147, Value.int 57 0, Value.int 4 0, Value.ref 152, Value.int 60 0, Value.int 4 0, Value.ref 159, Value.int 63 0, Value.int 4 0, Value.ref 166, Value.int 66 0, Value.int 4 0, Value.ref 173] }
noncomputable def o_145 : Params → Obj := fun P => { cls := Value.type "code", data := Data.fields #[Value.str (Str.ofString "OctetsOut") 300, Value.str (Str.ofString "OctetsOut") 301, Value.str (Str.ofString "/claim/cut.py") 302, Value.int 32 0, Value.int 0 0, Value.int 0 0, Value.int 0 0, Value.int 0 0, Value.ref 98, Value.bool false, Value.int 181 0, Value.ref 99, Value.none, Value.none, Value.none, Value.none, Value.int 303 0, Value.int 32 0, Value.str (Str.ofString "/claim/cut.py") 304] }
noncomputable def o_146 : Params → Obj := fun P => { cls := Value.type "frame", slots := #[some (Value.ref 100), some (Value.ref 3), some (Value.ref 97), none, some (Value.str (Str.ofString "joinedhand.octets") 270), none, some (Value.ref 0)] }
noncomputable def o_147 : Params → Obj := fun P => hpk P 299
noncomputable def o_148 : Params → Obj := fun P => { cls := Value.none, data := Data.fields #[] }
noncomputable def o_149 : Params → Obj := fun P => hpk P 104
noncomputable def o_150 : Params → Obj := fun P => hpk P 299
noncomputable def o_151 : Params → Obj := fun P => { cls := Value.none, data := Data.func { name := Str.ofString "__init__", qualname := Str.ofString "OctetsOut.__init__", params := sP_mS_9_0, body := FuncBody.stmts sB_mS_9_0, scope := sS_mS_9_0, globals := 0, closure := [], defaults := Value.none, kwdefaults := Value.none } }
noncomputable def o_152 : Params → Obj := fun P => hpk P 107
noncomputable def o_153 : Params → Obj := fun P => hpk P 108
noncomputable def o_154 : Params → Obj := fun P => hpk P 299
noncomputable def o_155 : Params → Obj := fun P => { cls := Value.none, data := Data.fields #[] }
noncomputable def o_156 : Params → Obj := fun P => hpk P 111
noncomputable def o_157 : Params → Obj := fun P => hpk P 299
noncomputable def o_158 : Params → Obj := fun P => { cls := Value.none, data := Data.func { name := Str.ofString "u8", qualname := Str.ofString "OctetsOut.u8", params := sP_mS_9_1, body := FuncBody.stmts sB_mS_9_1, scope := sS_mS_9_4, globals := 0, closure := [], defaults := Value.none, kwdefaults := Value.none } }
noncomputable def o_159 : Params → Obj := fun P => hpk P 114
noncomputable def o_160 : Params → Obj := fun P => hpk P 115
noncomputable def o_161 : Params → Obj := fun P => hpk P 299
noncomputable def o_162 : Params → Obj := fun P => { cls := Value.none, data := Data.fields #[] }
noncomputable def o_163 : Params → Obj := fun P => hpk P 118
noncomputable def o_164 : Params → Obj := fun P => hpk P 299
noncomputable def o_165 : Params → Obj := fun P => { cls := Value.none, data := Data.func { name := Str.ofString "u16", qualname := Str.ofString "OctetsOut.u16", params := sP_mS_9_2, body := FuncBody.stmts sB_mS_9_2, scope := sS_mS_9_5, globals := 0, closure := [], defaults := Value.none, kwdefaults := Value.none } }
noncomputable def o_166 : Params → Obj := fun P => hpk P 121
noncomputable def o_167 : Params → Obj := fun P => hpk P 122
noncomputable def o_168 : Params → Obj := fun P => hpk P 299
noncomputable def o_169 : Params → Obj := fun P => { cls := Value.none, data := Data.fields #[] }
noncomputable def o_170 : Params → Obj := fun P => hpk P 125
noncomputable def o_171 : Params → Obj := fun P => hpk P 299
noncomputable def o_172 : Params → Obj := fun P => { cls := Value.none, data := Data.func { name := Str.ofString "i16", qualname := Str.ofString "OctetsOut.i16", params := sP_mS_9_3, body := FuncBody.stmts sB_mS_9_3, scope := sS_mS_9_4, globals := 0, closure := [], defaults := Value.none, kwdefaults := Value.none } }
noncomputable def o_173 : Params → Obj := fun P => hpk P 128
noncomputable def o_174 : Params → Obj := fun P => hpk P 129
noncomputable def o_175 : Params → Obj := fun P => hpk P 299
noncomputable def o_176 : Params → Obj := fun P => { cls := Value.none, data := Data.fields #[] }
noncomputable def o_177 : Params → Obj := fun P => hpk P 132
noncomputable def o_178 : Params → Obj := fun P => hpk P 299
noncomputable def o_179 : Params → Obj := fun P => { cls := Value.none, data := Data.func { name := Str.ofString "u24", qualname := Str.ofString "OctetsOut.u24", params := sP_mS_9_4, body := FuncBody.stmts sB_mS_9_4, scope := sS_mS_9_4, globals := 0, closure := [], defaults := Value.none, kwdefaults := Value.none } }
noncomputable def o_180 : Params → Obj := fun P => hpk P 135
noncomputable def o_181 : Params → Obj := fun P => hpk P 136
noncomputable def o_182 : Params → Obj := fun P => hpk P 299
noncomputable def o_183 : Params → Obj := fun P => { cls := Value.none, data := Data.fields #[] }
noncomputable def o_184 : Params → Obj := fun P => hpk P 139
noncomputable def o_185 : Params → Obj := fun P => hpk P 299
noncomputable def o_186 : Params → Obj := fun P => { cls := Value.none, data := Data.func { name := Str.ofString "u32", qualname := Str.ofString "OctetsOut.u32", params := sP_mS_9_5, body := FuncBody.stmts sB_mS_9_5, scope := sS_mS_9_5, globals := 0, closure := [], defaults := Value.none, kwdefaults := Value.none } }
noncomputable def o_187 : Params → Obj := fun P => hpk P 142
noncomputable def o_188 : Params → Obj := fun P => hpk P 143
noncomputable def o_189 : Params → Obj := fun P => hpk P 299
noncomputable def o_190 : Params → Obj := fun P => { cls := Value.none, data := Data.fields #[] }
noncomputable def o_191 : Params → Obj := fun P => { cls := Value.none, data := Data.func { name := Str.ofString "tag", qualname := Str.ofString "OctetsOut.tag", params := sP_mS_9_6, body := FuncBody.stmts sB_mS_9_6, scope := sS_mS_9_6, globals := 0, closure := [], defaults := Value.none, kwdefaults := Value.none } }
noncomputable def o_192 : Params → Obj := fun P => hpk P 147
noncomputable def o_193 : Params → Obj := fun P => hpk P 148
noncomputable def o_194 : Params → Obj := fun P => hpk P 299
noncomputable def o_195 : Params → Obj := fun P => { cls := Value.none, data := Data.fields #[] }
noncomputable def o_196 : Params → Obj := fun P => { cls := Value.none, data := Data.func { name := Str.ofString "rows", qualname := Str.ofString "OctetsOut.rows", params := sP_mS_9_7, body := FuncBody.stmts sB_mS_9_7, scope := sS_mS_9_7, globals := 0, closure := [], defaults := Value.none, kwdefaults := Value.none } }
noncomputable def o_197 : Params → Obj := fun P => hpk P 152
noncomputable def o_198 : Params → Obj := fun P => hpk P 153
noncomputable def o_199 : Params → Obj := fun P => hpk P 299
noncomputable def o_200 : Params → Obj := fun P => { cls := Value.none, data := Data.fields #[] }
noncomputable def o_201 : Params → Obj := fun P => hpk P 156
noncomputable def o_202 : Params → Obj := fun P => hpk P 299
noncomputable def o_203 : Params → Obj := fun P => { cls := Value.none, data := Data.func { name := Str.ofString "add", qualname := Str.ofString "OctetsOut.add", params := sP_mS_9_8, body := FuncBody.stmts sB_mS_9_8, scope := sS_mS_9_8, globals := 0, closure := [], defaults := Value.none, kwdefaults := Value.none } }
noncomputable def o_204 : Params → Obj := fun P => hpk P 159
noncomputable def o_205 : Params → Obj := fun P => hpk P 160
noncomputable def o_206 : Params → Obj := fun P => hpk P 299
noncomputable def o_207 : Params → Obj := fun P => { cls := Value.none, data := Data.fields #[] }
noncomputable def o_208 : Params → Obj := fun P => hpk P 163
noncomputable def o_209 : Params → Obj := fun P => hpk P 299
noncomputable def o_210 : Params → Obj := fun P => { cls := Value.none, data := Data.func { name := Str.ofString "size", qualname := Str.ofString "OctetsOut.size", params := sP_mS_9_9, body := FuncBody.stmts sB_mS_9_9, scope := sS_mS_9_9, globals := 0, closure := [], defaults := Value.none, kwdefaults := Value.none } }
noncomputable def o_211 : Params → Obj := fun P => hpk P 166
noncomputable def o_212 : Params → Obj := fun P => hpk P 167
noncomputable def o_213 : Params → Obj := fun P => hpk P 299
noncomputable def o_214 : Params → Obj := fun P => { cls := Value.none, data := Data.fields #[] }
noncomputable def o_215 : Params → Obj := fun P => hpk P 170
noncomputable def o_216 : Params → Obj := fun P => hpk P 299
noncomputable def o_217 : Params → Obj := fun P => { cls := Value.none, data := Data.func { name := Str.ofString "octets", qualname := Str.ofString "OctetsOut.octets", params := sP_mS_9_10, body := FuncBody.stmts sB_mS_9_10, scope := sS_mS_9_10, globals := 0, closure := [], defaults := Value.none, kwdefaults := Value.none } }
noncomputable def o_218 : Params → Obj := fun P => hpk P 173
noncomputable def o_219 : Params → Obj := fun P => hpk P 174
noncomputable def o_220 : Params → Obj := fun P => hpk P 175
noncomputable def o_221 : Params → Obj := fun P => hpk P 176
noncomputable def o_222 : Params → Obj := fun P => hpk P 177
noncomputable def o_223 : Params → Obj := fun P => hpk P 178
noncomputable def o_224 : Params → Obj := fun P => hpk P 179
noncomputable def o_225 : Params → Obj := fun P => { cls := Value.type "super", data := Data.fields #[Value.ref 177, Value.ref 177, Value.ref 177] }
noncomputable def o_226 : Params → Obj := fun P => { cls := Value.type "builtin_function_or_method", data := Data.fields #[Value.builtin "object.__init_subclass__", Value.ref 177] }
noncomputable def o_227 : Params → Obj := fun P => { cls := Value.type "dict", data := Data.dict #[{ hash := PyData.keyHash P (Str.ofString "__name__"), key := Value.str (Str.ofString "__name__") 165, val := Value.str (Str.ofString "joinedhand.sfnt") 410 }, { hash := PyData.keyHash P (Str.ofString "__doc__"), key := Value.str (Str.ofString "__doc__") 166, val := Value.none }, { hash := PyData.keyHash P (Str.ofString "__package__"), key := Value.str (Str.ofString "__package__") 167, val := Value.none }, { hash := PyData.keyHash P (Str.ofString "__loader__"), key := Value.str (Str.ofString "__loader__") 168, val := Value.builtin "__main__.__loader__#opaque" }, { hash := PyData.keyHash P (Str.ofString "__spec__"), key := Value.str (Str.ofString "__spec__") 169, val := Value.none }, { hash := PyData.keyHash P (Str.ofString "__annotations__"), key := Value.str (Str.ofString "__annotations__") 170, val := Value.ref 6 }, { hash := PyData.keyHash P (Str.ofString "__builtins__"), key := Value.str (Str.ofString "__builtins__") 171, val := Value.ref 4 }, { hash := PyData.keyHash P (Str.ofString "__file__"), key := Value.str (Str.ofString "__file__") 173, val := Value.str (Str.ofString "/claim/cut.py") 172 }, { hash := PyData.keyHash P (Str.ofString "__cached__"), key := Value.str (Str.ofString "__cached__") 174, val := Value.none }, { hash := PyData.keyHash P (Str.ofString "_wall"), key := Value.str (Str.ofString "_wall") 193, val := Value.ref 21 }, { hash := PyData.keyHash P (Str.ofString "ShapeError"), key := Value.str (Str.ofString "ShapeError") 237, val := Value.ref 48 }, { hash := PyData.keyHash P (Str.ofString "TableFault"), key := Value.str (Str.ofString "TableFault") 253, val := Value.ref 61 }, { hash := PyData.keyHash P (Str.ofString "FontFault"), key := Value.str (Str.ofString "FontFault") 269, val := Value.ref 73 }, { hash := PyData.keyHash P (Str.ofString "check_room"), key := Value.str (Str.ofString "check_room") 280, val := Value.ref 82 }, { hash := PyData.keyHash P (Str.ofString "number_at"), key := Value.str (Str.ofString "number_at") 291, val := Value.ref 89 }, { hash := PyData.keyHash P (Str.ofString "number_octets"), key := Value.str (Str.ofString "number_octets") 297, val := Value.ref 94 }, { hash := PyData.keyHash P (Str.ofString "OctetsOut"), key := Value.str (Str.ofString "OctetsOut") 399, val := Value.ref 177 }, { hash := PyData.keyHash P (Str.ofString "checksum"), key := Value.str (Str.ofString "checksum") 409, val := Value.ref 188 }, { hash := PyData.keyHash P (Str.ofString "PLAIN"), key := Value.str (Str.ofString "PLAIN") 413, val := Value.int 65536 412 }, { hash := PyData.keyHash P (Str.ofString "OTTO"), key := Value.str (Str.ofString "OTTO") 415, val := Value.int 1330926671 414 }, { hash := PyData.keyHash P (Str.ofString "APPLE"), key := Value.str (Str.ofString "APPLE") 417, val := Value.int 1953658213 416 }, { hash := PyData.keyHash P (Str.ofString "VERSIONS"), key := Value.str (Str.ofString "VERSIONS") 418, val := Value.ref 189 }, { hash := PyData.keyHash P (Str.ofString "COLLECTION"), key := Value.str (Str.ofString "COLLECTION") 420, val := Value.int 1953784678 419 }, { hash := PyData.keyHash P (Str.ofString "HEADER_SIZE"), key := Value.str (Str.ofString "HEADER_SIZE") 422, val := Value.int 12 421 }, { hash := PyData.keyHash P (Str.ofString "RECORD_SIZE"), key := Value.str (Str.ofString "RECORD_SIZE") 424, val := Value.int 16 423 }, { hash := PyData.keyHash P (Str.ofString "ADJUSTMENT"), key := Value.str (Str.ofString "ADJUSTMENT") 426, val := Value.int 8 425 }, { hash := PyData.keyHash P (Str.ofString "MOST_FONTS"), key := Value.str (Str.ofString "MOST_FONTS") 428, val := Value.int 64 427 }, { hash := PyData.keyHash P (Str.ofString "MOST_TABLES"), key := Value.str (Str.ofString "MOST_TABLES") 430, val := Value.int 4095 429 }, { hash := PyData.keyHash P (Str.ofString "Record"), key := Value.str (Str.ofString "Record") 474, val := Value.ref 213 }] 29 }
noncomputable def o_228 : Params → Obj := fun P => { cls := Value.none, data := Data.fields #[Value.int 1 0, Value.int 0 0, Value.ref 20, Value.int 5 0, Value.int 0 0, Value.ref 28, Value.int 14 0, Value.int 0 0, Value.ref 57, Value.int 16 0, Value.int 0 0, Value.ref 69, Value.int 19 0, Value.int 0 0, Value.ref 81, Value.int 22 0, Value.int 0 0, Value.ref 88, Value.int 28 0, Value.int 0 0, Value.ref 93, Value.int 32 0, Value.int 0 0, Value.ref 100, Value.int 68 0, Value.int 0 0, Value.ref 187, Value.int 85 0, Value.int 0 0, Value.ref 195] }
noncomputable def o_229 : Params → Obj := fun P => hpk P 299
noncomputable def o_230 : Params → Obj := fun P => { cls := Value.none, data := Data.fields #[] }
noncomputable def o_231 : Params → Obj := fun P => hpk P 184
noncomputable def o_232 : Params → Obj := fun P => hpk P 299
noncomputable def o_233 : Params → Obj := fun P => { cls := Value.none, data := Data.func { name := Str.ofString "checksum", qualname := Str.ofString "checksum", params := sP_tS_10, body := FuncBody.stmts sB_tS_10, scope := sS_tS_10, globals := 0, closure := [], defaults := Value.none, kwdefaults := Value.none } }
noncomputable def o_234 : Params → Obj := fun P => hpk P 187
noncomputable def o_235 : Params → Obj := fun P => hpk P 188
noncomputable def o_236 : Params → Obj := fun P => hpk P 189
noncomputable def o_237 : Params → Obj := fun P => hpk P 299
noncomputable def o_238 : Params → Obj := fun P => { cls := Value.type "builtin_function_or_method", data := Data.fields #[Value.builtin "type.__prepare__", Value.type "type"] }
noncomputable def o_239 : Params → Obj := fun P => { cls := Value.type "dict", data := Data.dict #[{ hash := PyData.keyHash P (Str.ofString "__module__"), key := Value.str (Str.ofString "__module__") 438, val := Value.str (Str.ofString "joinedhand.sfnt") 410 }, { hash := PyData.keyHash P (Str.ofString "__qualname__"), key := Value.str (Str.ofString "__qualname__") 440, val := Value.str (Str.ofString "Record") 439 }, { hash := PyData.keyHash P (Str.ofString "__firstlineno__"), key := Value.str (Str.ofString "__firstlineno__") 442, val := Value.int 85 441 }, { hash := PyData.keyHash P (Str.ofString "__init__"), key := Value.str (Str.ofString "__init__") 454, val := Value.ref 203 }, { hash := PyData.keyHash P (Str.ofString "end"), key := Value.str (Str.ofString "end") 461, val := Value.ref 210 }, { hash := PyData.keyHash P (Str.ofString "__static_attributes__"), key := Value.str (Str.ofString "__static_attributes__") 467, val := Value.ref 211 }] 6 }
noncomputable def o_240 : Params → Obj := fun P => hpk P 299
noncomputable def o_241 : Params → Obj := fun P => { cls := Value.none, data := Data.fields #[Value.int 87 0, Value.int 4 0, Value.ref 202, Value.int 94 0, Value.int 4 0, Value.ref 209] }
noncomputable def o_242 : Params → Obj := fun P => { cls := Value.type "code", data := Data.fields #[Value.str (Str.ofString "Record") 433, Value.str (Str.ofString "Record") 434, Value.str (Str.ofString "/claim/cut.py") 435, Value.int 85 0, Value.int 0 0, Value.int 0 0, Value.int 0 0, Value.int 0 0, Value.ref 193, Value.bool false, Value.int 181 0, Value.ref 194, Value.none, Value.none, Value.none, Value.none, Value.int 436 0, Value.int 85 0, Value.str (Str.ofString "/claim/cut.py") 437] }
noncomputable def o_243 : Params → Obj := fun P => { cls := Value.type "frame", slots := #[some (Value.ref 195), some (Value.ref 3), some (Value.ref 192), none, some (Value.str (Str.ofString "joinedhand.sfnt") 410), none, some (Value.ref 0)] }
noncomputable def o_244 : Params → Obj := fun P => hpk P 299
noncomputable def o_245 : Params → Obj := fun P => { cls := Value.none, data := Data.fields #[] }
noncomputable def o_246 : Params → Obj := fun P => hpk P 199
noncomputable def o_247 : Params → Obj := fun P => hpk P 299
noncomputable def o_248 : Params → Obj := fun P => { cls := Value.none, data := Data.func { name := Str.ofString "__init__", qualname := Str.ofString "Record.__init__", params := sP_mS_22_0, body := FuncBody.stmts sB_mS_22_0, scope := sS_mS_22_0, globals := 0, closure := [], defaults := Value.none, kwdefaults := Value.none } }
noncomputable def o_249 : Params → Obj := fun P => hpk P 202
noncomputable def o_250 : Params → Obj := fun P => hpk P 203
noncomputable def o_251 : Params → Obj := fun P => hpk P 299
noncomputable def o_252 : Params → Obj := fun P => { cls := Value.none, data := Data.fields #[] }
noncomputable def o_253 : Params → Obj := fun P => hpk P 206
noncomputable def o_254 : Params → Obj := fun P => hpk P 299
noncomputable def o_255 : Params → Obj := fun P => { cls := Value.none, data := Data.func { name := Str.ofString "end", qualname := Str.ofString "Record.end", params := sP_mS_22_1, body := FuncBody.stmts sB_mS_22_1, scope := sS_mS_22_1, globals := 0, closure := [], defaults := Value.none, kwdefaults := Value.none } }
noncomputable def o_256 : Params → Obj := fun P => hpk P 209
noncomputable def o_257 : Params → Obj := fun P => hpk P 210
noncomputable def o_258 : Params → Obj := fun P => hpk P 211
noncomputable def o_259 : Params → Obj := fun P => hpk P 212
noncomputable def o_260 : Params → Obj := fun P => hpk P 213
noncomputable def o_261 : Params → Obj := fun P => hpk P 214
noncomputable def o_262 : Params → Obj := fun P => hpk P 215
noncomputable def o_263 : Params → Obj := fun P => { cls := Value.type "super", data := Data.fields #[Value.ref 213, Value.ref 213, Value.ref 213] }
noncomputable def o_264 : Params → Obj := fun P => { cls := Value.type "builtin_function_or_method", data := Data.fields #[Value.builtin "object.__init_subclass__", Value.ref 213] }
noncomputable def o_265 : Params → Obj := fun P => { cls := Value.type "dict", data := Data.dict #[{ hash := PyData.keyHash P (Str.ofString "__name__"), key := Value.str (Str.ofString "__name__") 165, val := Value.str (Str.ofString "law_pb0184_01") 553 }, { hash := PyData.keyHash P (Str.ofString "__doc__"), key := Value.str (Str.ofString "__doc__") 166, val := Value.none }, { hash := PyData.keyHash P (Str.ofString "__package__"), key := Value.str (Str.ofString "__package__") 167, val := Value.none }, { hash := PyData.keyHash P (Str.ofString "__loader__"), key := Value.str (Str.ofString "__loader__") 168, val := Value.builtin "__main__.__loader__#opaque" }, { hash := PyData.keyHash P (Str.ofString "__spec__"), key := Value.str (Str.ofString "__spec__") 169, val := Value.none }, { hash := PyData.keyHash P (Str.ofString "__annotations__"), key := Value.str (Str.ofString "__annotations__") 170, val := Value.ref 6 }, { hash := PyData.keyHash P (Str.ofString "__builtins__"), key := Value.str (Str.ofString "__builtins__") 171, val := Value.ref 4 }, { hash := PyData.keyHash P (Str.ofString "__file__"), key := Value.str (Str.ofString "__file__") 173, val := Value.str (Str.ofString "/claim/cut.py") 172 }, { hash := PyData.keyHash P (Str.ofString "__cached__"), key := Value.str (Str.ofString "__cached__") 174, val := Value.none }, { hash := PyData.keyHash P (Str.ofString "_wall"), key := Value.str (Str.ofString "_wall") 193, val := Value.ref 21 }, { hash := PyData.keyHash P (Str.ofString "ShapeError"), key := Value.str (Str.ofString "ShapeError") 237, val := Value.ref 48 }, { hash := PyData.keyHash P (Str.ofString "TableFault"), key := Value.str (Str.ofString "TableFault") 253, val := Value.ref 61 }, { hash := PyData.keyHash P (Str.ofString "FontFault"), key := Value.str (Str.ofString "FontFault") 269, val := Value.ref 73 }, { hash := PyData.keyHash P (Str.ofString "check_room"), key := Value.str (Str.ofString "check_room") 280, val := Value.ref 82 }, { hash := PyData.keyHash P (Str.ofString "number_at"), key := Value.str (Str.ofString "number_at") 291, val := Value.ref 89 }, { hash := PyData.keyHash P (Str.ofString "number_octets"), key := Value.str (Str.ofString "number_octets") 297, val := Value.ref 94 }, { hash := PyData.keyHash P (Str.ofString "OctetsOut"), key := Value.str (Str.ofString "OctetsOut") 399, val := Value.ref 177 }, { hash := PyData.keyHash P (Str.ofString "checksum"), key := Value.str (Str.ofString "checksum") 409, val := Value.ref 188 }, { hash := PyData.keyHash P (Str.ofString "PLAIN"), key := Value.str (Str.ofString "PLAIN") 413, val := Value.int 65536 412 }, { hash := PyData.keyHash P (Str.ofString "OTTO"), key := Value.str (Str.ofString "OTTO") 415, val := Value.int 1330926671 414 }, { hash := PyData.keyHash P (Str.ofString "APPLE"), key := Value.str (Str.ofString "APPLE") 417, val := Value.int 1953658213 416 }, { hash := PyData.keyHash P (Str.ofString "VERSIONS"), key := Value.str (Str.ofString "VERSIONS") 418, val := Value.ref 189 }, { hash := PyData.keyHash P (Str.ofString "COLLECTION"), key := Value.str (Str.ofString "COLLECTION") 420, val := Value.int 1953784678 419 }, { hash := PyData.keyHash P (Str.ofString "HEADER_SIZE"), key := Value.str (Str.ofString "HEADER_SIZE") 422, val := Value.int 12 421 }, { hash := PyData.keyHash P (Str.ofString "RECORD_SIZE"), key := Value.str (Str.ofString "RECORD_SIZE") 424, val := Value.int 16 423 }, { hash := PyData.keyHash P (Str.ofString "ADJUSTMENT"), key := Value.str (Str.ofString "ADJUSTMENT") 426, val := Value.int 8 425 }, { hash := PyData.keyHash P (Str.ofString "MOST_FONTS"), key := Value.str (Str.ofString "MOST_FONTS") 428, val := Value.int 64 427 }, { hash := PyData.keyHash P (Str.ofString "MOST_TABLES"), key := Value.str (Str.ofString "MOST_TABLES") 430, val := Value.int 4095 429 }, { hash := PyData.keyHash P (Str.ofString "Record"), key := Value.str (Str.ofString "Record") 474, val := Value.ref 213 }, { hash := PyData.keyHash P (Str.ofString "directory_size"), key := Value.str (Str.ofString "directory_size") 481, val := Value.ref 224 }, { hash := PyData.keyHash P (Str.ofString "has_adjustment"), key := Value.str (Str.ofString "has_adjustment") 489, val := Value.ref 231 }, { hash := PyData.keyHash P (Str.ofString "unadjusted"), key := Value.str (Str.ofString "unadjusted") 497, val := Value.ref 238 }, { hash := PyData.keyHash P (Str.ofString "table_sum"), key := Value.str (Str.ofString "table_sum") 505, val := Value.ref 245 }, { hash := PyData.keyHash P (Str.ofString "search_numbers"), key := Value.str (Str.ofString "search_numbers") 514, val := Value.ref 252 }, { hash := PyData.keyHash P (Str.ofString "to_fours"), key := Value.str (Str.ofString "to_fours") 521, val := Value.ref 259 }, { hash := PyData.keyHash P (Str.ofString "need_tables"), key := Value.str (Str.ofString "need_tables") 530, val := Value.ref 266 }, { hash := PyData.keyHash P (Str.ofString "directory_octets"), key := Value.str (Str.ofString "directory_octets") 540, val := Value.ref 273 }, { hash := PyData.keyHash P (Str.ofString "shared_spots"), key := Value.str (Str.ofString "shared_spots") 546, val := Value.ref 278 }, { hash := PyData.keyHash P (Str.ofString "write_collection"), key := Value.str (Str.ofString "write_collection") 552, val := Value.ref 283 }, { hash := PyData.keyHash P (Str.ofString "_law_tags"), key := Value.str (Str.ofString "_law_tags") 559, val := Value.ref 284 }, { hash := PyData.keyHash P (Str.ofString "_law_draw"), key := Value.str (Str.ofString "_law_draw") 569, val := Value.ref 291 }, { hash := PyData.keyHash P (Str.ofString "_law_long"), key := Value.str (Str.ofString "_law_long") 576, val := Value.ref 298 }] 42 }
noncomputable def o_266 : Params → Obj := fun P => { cls := Value.none, data := Data.fields #[Value.int 1 0, Value.int 0 0, Value.ref 20, Value.int 5 0, Value.int 0 0, Value.ref 28, Value.int 14 0, Value.int 0 0, Value.ref 57, Value.int 16 0, Value.int 0 0, Value.ref 69, Value.int 19 0, Value.int 0 0, Value.ref 81, Value.int 22 0, Value.int 0 0, Value.ref 88, Value.int 28 0, Value.int 0 0, Value.ref 93, Value.int 32 0, Value.int 0 0, Value.ref 100, Value.int 68 0, Value.int 0 0, Value.ref 187, Value.int 85 0, Value.int 0 0, Value.ref 195, Value.int 96 0, Value.int 0 0, Value.ref 223, Value.int 98 0, Value.int 0 0, Value.ref 230, Value.int 100 0, Value.int 0 0, Value.ref 237, Value.int 104 0, Value.int 0 0, Value.ref 244, Value.int 106 0, Value.int 0 0, Value.ref 251, Value.int 112 0, Value.int 0 0, Value.ref 258, Value.int 114 0, Value.int 0 0, Value.ref 265, Value.int 122 0, Value.int 0 0, Value.ref 272, Value.int 133 0, Value.int 0 0, Value.ref 277, Value.int 148 0, Value.int 0 0, Value.ref 282, Value.int 169 0, Value.int 0 0, Value.ref 290, Value.int 173 0, Value.int 0 0, Value.ref 297] }
noncomputable def o_267 : Params → Obj := fun P => hpk P 299
noncomputable def o_268 : Params → Obj := fun P => { cls := Value.none, data := Data.fields #[] }
noncomputable def o_269 : Params → Obj := fun P => hpk P 220
noncomputable def o_270 : Params → Obj := fun P => hpk P 299
noncomputable def o_271 : Params → Obj := fun P => { cls := Value.none, data := Data.func { name := Str.ofString "directory_size", qualname := Str.ofString "directory_size", params := sP_tS_23, body := FuncBody.stmts sB_tS_23, scope := sS_tS_23, globals := 0, closure := [], defaults := Value.none, kwdefaults := Value.none } }
noncomputable def o_272 : Params → Obj := fun P => hpk P 223
noncomputable def o_273 : Params → Obj := fun P => hpk P 224
noncomputable def o_274 : Params → Obj := fun P => hpk P 299
noncomputable def o_275 : Params → Obj := fun P => { cls := Value.none, data := Data.fields #[] }
noncomputable def o_276 : Params → Obj := fun P => hpk P 227
noncomputable def o_277 : Params → Obj := fun P => hpk P 299
noncomputable def o_278 : Params → Obj := fun P => { cls := Value.none, data := Data.func { name := Str.ofString "has_adjustment", qualname := Str.ofString "has_adjustment", params := sP_tS_24, body := FuncBody.stmts sB_tS_24, scope := sS_tS_24, globals := 0, closure := [], defaults := Value.none, kwdefaults := Value.none } }
noncomputable def o_279 : Params → Obj := fun P => hpk P 230
noncomputable def o_280 : Params → Obj := fun P => hpk P 231
noncomputable def o_281 : Params → Obj := fun P => hpk P 299
noncomputable def o_282 : Params → Obj := fun P => { cls := Value.none, data := Data.fields #[] }
noncomputable def o_283 : Params → Obj := fun P => hpk P 234
noncomputable def o_284 : Params → Obj := fun P => hpk P 299
noncomputable def o_285 : Params → Obj := fun P => { cls := Value.none, data := Data.func { name := Str.ofString "unadjusted", qualname := Str.ofString "unadjusted", params := sP_tS_25, body := FuncBody.stmts sB_tS_25, scope := sS_tS_25, globals := 0, closure := [], defaults := Value.none, kwdefaults := Value.none } }
noncomputable def o_286 : Params → Obj := fun P => hpk P 237
noncomputable def o_287 : Params → Obj := fun P => hpk P 238
noncomputable def o_288 : Params → Obj := fun P => hpk P 299
noncomputable def o_289 : Params → Obj := fun P => { cls := Value.none, data := Data.fields #[] }
noncomputable def o_290 : Params → Obj := fun P => hpk P 241
noncomputable def o_291 : Params → Obj := fun P => hpk P 299
noncomputable def o_292 : Params → Obj := fun P => { cls := Value.none, data := Data.func { name := Str.ofString "table_sum", qualname := Str.ofString "table_sum", params := sP_tS_26, body := FuncBody.stmts sB_tS_26, scope := sS_tS_26, globals := 0, closure := [], defaults := Value.none, kwdefaults := Value.none } }
noncomputable def o_293 : Params → Obj := fun P => hpk P 244
noncomputable def o_294 : Params → Obj := fun P => hpk P 245
noncomputable def o_295 : Params → Obj := fun P => hpk P 299
noncomputable def o_296 : Params → Obj := fun P => { cls := Value.none, data := Data.fields #[] }
noncomputable def o_297 : Params → Obj := fun P => hpk P 248
noncomputable def o_298 : Params → Obj := fun P => hpk P 299
noncomputable def o_299 : Params → Obj := fun P => { cls := Value.none, data := Data.func { name := Str.ofString "search_numbers", qualname := Str.ofString "search_numbers", params := sP_tS_27, body := FuncBody.stmts sB_tS_27, scope := sS_tS_27, globals := 0, closure := [], defaults := Value.none, kwdefaults := Value.none } }
noncomputable def o_300 : Params → Obj := fun P => hpk P 251
noncomputable def o_301 : Params → Obj := fun P => hpk P 252
noncomputable def o_302 : Params → Obj := fun P => hpk P 299
noncomputable def o_303 : Params → Obj := fun P => { cls := Value.none, data := Data.fields #[] }
noncomputable def o_304 : Params → Obj := fun P => hpk P 255
noncomputable def o_305 : Params → Obj := fun P => hpk P 299
noncomputable def o_306 : Params → Obj := fun P => { cls := Value.none, data := Data.func { name := Str.ofString "to_fours", qualname := Str.ofString "to_fours", params := sP_tS_28, body := FuncBody.stmts sB_tS_28, scope := sS_tS_28, globals := 0, closure := [], defaults := Value.none, kwdefaults := Value.none } }
noncomputable def o_307 : Params → Obj := fun P => hpk P 258
noncomputable def o_308 : Params → Obj := fun P => hpk P 259
noncomputable def o_309 : Params → Obj := fun P => hpk P 299
noncomputable def o_310 : Params → Obj := fun P => { cls := Value.none, data := Data.fields #[] }
noncomputable def o_311 : Params → Obj := fun P => hpk P 262
noncomputable def o_312 : Params → Obj := fun P => hpk P 299
noncomputable def o_313 : Params → Obj := fun P => { cls := Value.none, data := Data.func { name := Str.ofString "need_tables", qualname := Str.ofString "need_tables", params := sP_tS_29, body := FuncBody.stmts sB_tS_29, scope := sS_tS_29, globals := 0, closure := [], defaults := Value.none, kwdefaults := Value.none } }
noncomputable def o_314 : Params → Obj := fun P => hpk P 265
noncomputable def o_315 : Params → Obj := fun P => hpk P 266
noncomputable def o_316 : Params → Obj := fun P => hpk P 299
noncomputable def o_317 : Params → Obj := fun P => { cls := Value.none, data := Data.fields #[] }
noncomputable def o_318 : Params → Obj := fun P => hpk P 269
noncomputable def o_319 : Params → Obj := fun P => hpk P 299
noncomputable def o_320 : Params → Obj := fun P => { cls := Value.none, data := Data.func { name := Str.ofString "directory_octets", qualname := Str.ofString "directory_octets", params := sP_tS_30, body := FuncBody.stmts sB_tS_30, scope := sS_tS_30, globals := 0, closure := [], defaults := Value.none, kwdefaults := Value.none } }
noncomputable def o_321 : Params → Obj := fun P => hpk P 272
noncomputable def o_322 : Params → Obj := fun P => hpk P 273
noncomputable def o_323 : Params → Obj := fun P => hpk P 299
noncomputable def o_324 : Params → Obj := fun P => { cls := Value.none, data := Data.fields #[] }
noncomputable def o_325 : Params → Obj := fun P => { cls := Value.none, data := Data.func { name := Str.ofString "shared_spots", qualname := Str.ofString "shared_spots", params := sP_tS_31, body := FuncBody.stmts sB_tS_31, scope := sS_tS_31, globals := 0, closure := [], defaults := Value.none, kwdefaults := Value.none } }
noncomputable def o_326 : Params → Obj := fun P => hpk P 277
noncomputable def o_327 : Params → Obj := fun P => hpk P 278
noncomputable def o_328 : Params → Obj := fun P => hpk P 299
noncomputable def o_329 : Params → Obj := fun P => { cls := Value.none, data := Data.fields #[] }
noncomputable def o_330 : Params → Obj := fun P => { cls := Value.none, data := Data.func { name := Str.ofString "write_collection", qualname := Str.ofString "write_collection", params := sP_tS_32, body := FuncBody.stmts sB_tS_32, scope := sS_tS_32, globals := 0, closure := [], defaults := Value.none, kwdefaults := Value.none } }
noncomputable def o_331 : Params → Obj := fun P => hpk P 282
noncomputable def o_332 : Params → Obj := fun P => hpk P 283
noncomputable def o_333 : Params → Obj := fun P => hpk P 284
noncomputable def o_334 : Params → Obj := fun P => hpk P 299
noncomputable def o_335 : Params → Obj := fun P => { cls := Value.none, data := Data.fields #[] }
noncomputable def o_336 : Params → Obj := fun P => hpk P 287
noncomputable def o_337 : Params → Obj := fun P => hpk P 299
noncomputable def o_338 : Params → Obj := fun P => { cls := Value.none, data := Data.func { name := Str.ofString "_law_draw", qualname := Str.ofString "_law_draw", params := sP_tS_35, body := FuncBody.stmts sB_tS_35, scope := sS_tS_35, globals := 0, closure := [], defaults := Value.none, kwdefaults := Value.none } }
noncomputable def o_339 : Params → Obj := fun P => hpk P 290
noncomputable def o_340 : Params → Obj := fun P => hpk P 291
noncomputable def o_341 : Params → Obj := fun P => hpk P 299
noncomputable def o_342 : Params → Obj := fun P => { cls := Value.none, data := Data.fields #[] }
noncomputable def o_343 : Params → Obj := fun P => hpk P 294
noncomputable def o_344 : Params → Obj := fun P => hpk P 299
noncomputable def o_345 : Params → Obj := fun P => { cls := Value.none, data := Data.func { name := Str.ofString "_law_long", qualname := Str.ofString "_law_long", params := sP_tS_36, body := FuncBody.stmts sB_tS_36, scope := sS_tS_36, globals := 0, closure := [], defaults := Value.none, kwdefaults := Value.none } }
noncomputable def o_346 : Params → Obj := fun P => hpk P 297
noncomputable def o_347 : Params → Obj := fun P => hpk P 298
noncomputable def o_348 : Params → Obj := fun P => hpk P 3
noncomputable def o_349 : Params → Obj := fun P => { cls := Value.none, data := Data.fields #[Value.int 1 0, Value.int 0 0, Value.ref 20, Value.int 5 0, Value.int 0 0, Value.ref 28, Value.int 14 0, Value.int 0 0, Value.ref 57, Value.int 16 0, Value.int 0 0, Value.ref 69, Value.int 19 0, Value.int 0 0, Value.ref 81, Value.int 22 0, Value.int 0 0, Value.ref 88, Value.int 28 0, Value.int 0 0, Value.ref 93, Value.int 32 0, Value.int 0 0, Value.ref 100, Value.int 68 0, Value.int 0 0, Value.ref 187, Value.int 85 0, Value.int 0 0, Value.ref 195, Value.int 96 0, Value.int 0 0, Value.ref 223, Value.int 98 0, Value.int 0 0, Value.ref 230, Value.int 100 0, Value.int 0 0, Value.ref 237, Value.int 104 0, Value.int 0 0, Value.ref 244, Value.int 106 0, Value.int 0 0, Value.ref 251, Value.int 112 0, Value.int 0 0, Value.ref 258, Value.int 114 0, Value.int 0 0, Value.ref 265, Value.int 122 0, Value.int 0 0, Value.ref 272, Value.int 133 0, Value.int 0 0, Value.ref 277, Value.int 148 0, Value.int 0 0, Value.ref 282, Value.int 169 0, Value.int 0 0, Value.ref 290, Value.int 173 0, Value.int 0 0, Value.ref 297, Value.int 175 0, Value.int 0 0, Value.ref 302] }
noncomputable def o_350 : Params → Obj := fun P => hpk P 299
noncomputable def o_351 : Params → Obj := fun P => { cls := Value.none, data := Data.fields #[] }
noncomputable def o_352 : Params → Obj := fun P => { cls := Value.none, data := Data.func { name := Str.ofString "law", qualname := Str.ofString "law", params := sP_tS_37, body := FuncBody.stmts sB_tS_37, scope := sS_tS_37, globals := 0, closure := [], defaults := Value.none, kwdefaults := Value.none } }
noncomputable def o_353 : Params → Obj := fun P => hpk P 302
noncomputable def o_354 : Params → Obj := fun P => hpk P 303
noncomputable def heap_46 : Params → Heap := fun P => { objs := { toList := [boot_o_0 P, boot_o_1 P, boot_o_2 P, boot_o_3 P, boot_o_4 P, boot_o_5 P, boot_o_6 P, boot_o_7 P, boot_o_8 P, boot_o_9 P, boot_o_10 P, o_43 P, o_44 P, o_45 P, o_46 P] } }
noncomputable def heap_355 : Params → Heap := fun P => { objs := { toList := [boot_o_0 P, boot_o_1 P, o_49 P, o_348 P, boot_o_4 P, boot_o_5 P, boot_o_6 P, boot_o_7 P, boot_o_8 P, boot_o_9 P, boot_o_10 P, o_43 P, o_349 P, o_45 P, o_46 P, o_52 P, o_53 P, o_54 P, o_55 P, o_56 P, o_57 P, o_58 P, o_59 P, o_60 P, o_61 P, o_62 P, o_63 P, o_64 P, o_65 P, o_66 P, o_67 P, o_68 P, o_69 P, o_70 P, o_71 P, o_72 P, o_73 P, o_74 P, o_75 P, o_76 P, o_77 P, o_78 P, o_79 P, o_80 P, o_81 P, o_82 P, o_83 P, o_84 P, o_106 P, o_86 P, o_87 P, o_88 P, o_92 P, o_93 P, o_94 P, o_95 P, o_96 P, o_97 P, o_98 P, o_99 P, o_100 P, o_101 P, o_102 P, o_103 P, o_107 P, o_108 P, o_109 P, o_110 P, o_111 P, o_112 P, o_113 P, o_114 P, o_115 P, o_116 P, o_117 P, o_118 P, o_119 P, o_120 P, o_121 P, o_122 P, o_123 P, o_124 P, o_125 P, o_126 P, o_127 P, o_128 P, o_129 P, o_130 P, o_131 P, o_132 P, o_133 P, o_134 P, o_135 P, o_136 P, o_137 P, o_140 P, o_141 P, o_142 P, o_143 P, o_144 P, o_145 P, o_146 P, o_147 P, o_148 P, o_149 P, o_150 P, o_151 P, o_152 P, o_153 P, o_154 P, o_155 P, o_156 P, o_157 P, o_158 P, o_159 P, o_160 P, o_161 P, o_162 P, o_163 P, o_164 P, o_165 P, o_166 P, o_167 P, o_168 P, o_169 P, o_170 P, o_171 P, o_172 P, o_173 P, o_174 P, o_175 P, o_176 P, o_177 P, o_178 P, o_179 P, o_180 P, o_181 P, o_182 P, o_183 P, o_184 P, o_185 P, o_186 P, o_187 P, o_188 P, o_189 P, o_190 P, o_191 P, o_192 P, o_193 P, o_194 P, o_195 P, o_196 P, o_197 P, o_198 P, o_199 P, o_200 P, o_201 P, o_202 P, o_203 P, o_204 P, o_205 P, o_206 P, o_207 P, o_208 P, o_209 P, o_210 P, o_211 P, o_212 P, o_213 P, o_214 P, o_215 P, o_216 P, o_217 P, o_218 P, o_219 P, o_220 P, o_221 P, o_222 P, o_223 P, o_224 P, o_225 P, o_226 P, o_229 P, o_230 P, o_231 P, o_232 P, o_233 P, o_234 P, o_235 P, o_236 P, o_237 P, o_238 P, o_239 P, o_240 P, o_241 P, o_242 P, o_243 P, o_244 P, o_245 P, o_246 P, o_247 P, o_248 P, o_249 P, o_250 P, o_251 P, o_252 P, o_253 P, o_254 P, o_255 P, o_256 P, o_257 P, o_258 P, o_259 P, o_260 P, o_261 P, o_262 P, o_263 P, o_264 P, o_267 P, o_268 P, o_269 P, o_270 P, o_271 P, o_272 P, o_273 P, o_274 P, o_275 P, o_276 P, o_277 P, o_278 P, o_279 P, o_280 P, o_281 P, o_282 P, o_283 P, o_284 P, o_285 P, o_286 P, o_287 P, o_288 P, o_289 P, o_290 P, o_291 P, o_292 P, o_293 P, o_294 P, o_295 P, o_296 P, o_297 P, o_298 P, o_299 P, o_300 P, o_301 P, o_302 P, o_303 P, o_304 P, o_305 P, o_306 P, o_307 P, o_308 P, o_309 P, o_310 P, o_311 P, o_312 P, o_313 P, o_314 P, o_315 P, o_316 P, o_317 P, o_318 P, o_319 P, o_320 P, o_321 P, o_322 P, o_323 P, o_324 P, o_325 P, o_326 P, o_327 P, o_328 P, o_329 P, o_330 P, o_331 P, o_332 P, o_333 P, o_334 P, o_335 P, o_336 P, o_337 P, o_338 P, o_339 P, o_340 P, o_341 P, o_342 P, o_343 P, o_344 P, o_345 P, o_346 P, o_347 P, o_350 P, o_351 P, o_352 P, o_353 P, o_354 P] } }
noncomputable def tree_47 : Params → BT := fun P => BT.node (boot_o_0 P) (BT.node (boot_o_1 P) (BT.node (boot_o_3 P) (BT.node (boot_o_7 P) BT.nil BT.nil) (BT.node (o_43 P) BT.nil BT.nil)) (BT.node (boot_o_5 P) (BT.node (boot_o_9 P) BT.nil BT.nil) (BT.node (o_45 P) BT.nil BT.nil))) (BT.node (boot_o_2 P) (BT.node (boot_o_4 P) (BT.node (boot_o_8 P) BT.nil BT.nil) (BT.node (o_44 P) BT.nil BT.nil)) (BT.node (boot_o_6 P) (BT.node (boot_o_10 P) BT.nil BT.nil) (BT.node (o_46 P) BT.nil BT.nil)))
noncomputable def tree_88 : Params → BT := fun P => BT.node (boot_o_0 P) (BT.node (boot_o_1 P) (BT.node (o_50 P) (BT.node (boot_o_7 P) (BT.node (o_52 P) (BT.node (o_68 P) BT.nil BT.nil) (BT.node (o_84 P) BT.nil BT.nil)) (BT.node (o_60 P) (BT.node (o_76 P) BT.nil BT.nil) BT.nil)) (BT.node (o_43 P) (BT.node (o_56 P) (BT.node (o_72 P) BT.nil BT.nil) (BT.node (o_88 P) BT.nil BT.nil)) (BT.node (o_64 P) (BT.node (o_80 P) BT.nil BT.nil) BT.nil))) (BT.node (boot_o_5 P) (BT.node (boot_o_9 P) (BT.node (o_54 P) (BT.node (o_70 P) BT.nil BT.nil) (BT.node (o_86 P) BT.nil BT.nil)) (BT.node (o_62 P) (BT.node (o_78 P) BT.nil BT.nil) BT.nil)) (BT.node (o_45 P) (BT.node (o_58 P) (BT.node (o_74 P) BT.nil BT.nil) BT.nil) (BT.node (o_66 P) (BT.node (o_82 P) BT.nil BT.nil) BT.nil)))) (BT.node (o_49 P) (BT.node (boot_o_4 P) (BT.node (boot_o_8 P) (BT.node (o_53 P) (BT.node (o_69 P) BT.nil BT.nil) (BT.node (o_85 P) BT.nil BT.nil)) (BT.node (o_61 P) (BT.node (o_77 P) BT.nil BT.nil) BT.nil)) (BT.node (o_51 P) (BT.node (o_57 P) (BT.node (o_73 P) BT.nil BT.nil) BT.nil) (BT.node (o_65 P) (BT.node (o_81 P) BT.nil BT.nil) BT.nil))) (BT.node (boot_o_6 P) (BT.node (boot_o_10 P) (BT.node (o_55 P) (BT.node (o_71 P) BT.nil BT.nil) (BT.node (o_87 P) BT.nil BT.nil)) (BT.node (o_63 P) (BT.node (o_79 P) BT.nil BT.nil) BT.nil)) (BT.node (o_46 P) (BT.node (o_59 P) (BT.node (o_75 P) BT.nil BT.nil) BT.nil) (BT.node (o_67 P) (BT.node (o_83 P) BT.nil BT.nil) BT.nil))))
noncomputable def tree_103 : Params → BT := fun P => BT.node (boot_o_0 P) (BT.node (boot_o_1 P) (BT.node (o_89 P) (BT.node (boot_o_7 P) (BT.node (o_52 P) (BT.node (o_68 P) (BT.node (o_103 P) BT.nil BT.nil) BT.nil) (BT.node (o_84 P) BT.nil BT.nil)) (BT.node (o_60 P) (BT.node (o_76 P) BT.nil BT.nil) (BT.node (o_95 P) BT.nil BT.nil))) (BT.node (o_43 P) (BT.node (o_56 P) (BT.node (o_72 P) BT.nil BT.nil) (BT.node (o_88 P) BT.nil BT.nil)) (BT.node (o_64 P) (BT.node (o_80 P) BT.nil BT.nil) (BT.node (o_99 P) BT.nil BT.nil)))) (BT.node (boot_o_5 P) (BT.node (boot_o_9 P) (BT.node (o_54 P) (BT.node (o_70 P) BT.nil BT.nil) (BT.node (o_86 P) BT.nil BT.nil)) (BT.node (o_62 P) (BT.node (o_78 P) BT.nil BT.nil) (BT.node (o_97 P) BT.nil BT.nil))) (BT.node (o_45 P) (BT.node (o_58 P) (BT.node (o_74 P) BT.nil BT.nil) (BT.node (o_93 P) BT.nil BT.nil)) (BT.node (o_66 P) (BT.node (o_82 P) BT.nil BT.nil) (BT.node (o_101 P) BT.nil BT.nil))))) (BT.node (o_49 P) (BT.node (boot_o_4 P) (BT.node (boot_o_8 P) (BT.node (o_53 P) (BT.node (o_69 P) BT.nil BT.nil) (BT.node (o_91 P) BT.nil BT.nil)) (BT.node (o_61 P) (BT.node (o_77 P) BT.nil BT.nil) (BT.node (o_96 P) BT.nil BT.nil))) (BT.node (o_90 P) (BT.node (o_57 P) (BT.node (o_73 P) BT.nil BT.nil) (BT.node (o_92 P) BT.nil BT.nil)) (BT.node (o_65 P) (BT.node (o_81 P) BT.nil BT.nil) (BT.node (o_100 P) BT.nil BT.nil)))) (BT.node (boot_o_6 P) (BT.node (boot_o_10 P) (BT.node (o_55 P) (BT.node (o_71 P) BT.nil BT.nil) (BT.node (o_87 P) BT.nil BT.nil)) (BT.node (o_63 P) (BT.node (o_79 P) BT.nil BT.nil) (BT.node (o_98 P) BT.nil BT.nil))) (BT.node (o_46 P) (BT.node (o_59 P) (BT.node (o_75 P) BT.nil BT.nil) (BT.node (o_94 P) BT.nil BT.nil)) (BT.node (o_67 P) (BT.node (o_83 P) BT.nil BT.nil) (BT.node (o_102 P) BT.nil BT.nil)))))
noncomputable def tree_137 : Params → BT := fun P => BT.node (boot_o_0 P) (BT.node (boot_o_1 P) (BT.node (o_104 P) (BT.node (boot_o_7 P) (BT.node (o_52 P) (BT.node (o_68 P) (BT.node (o_103 P) BT.nil BT.nil) BT.nil) (BT.node (o_84 P) (BT.node (o_122 P) BT.nil BT.nil) BT.nil)) (BT.node (o_60 P) (BT.node (o_76 P) (BT.node (o_114 P) BT.nil BT.nil) BT.nil) (BT.node (o_95 P) (BT.node (o_130 P) BT.nil BT.nil) BT.nil))) (BT.node (o_43 P) (BT.node (o_56 P) (BT.node (o_72 P) (BT.node (o_110 P) BT.nil BT.nil) BT.nil) (BT.node (o_88 P) (BT.node (o_126 P) BT.nil BT.nil) BT.nil)) (BT.node (o_64 P) (BT.node (o_80 P) (BT.node (o_118 P) BT.nil BT.nil) BT.nil) (BT.node (o_99 P) (BT.node (o_134 P) BT.nil BT.nil) BT.nil)))) (BT.node (boot_o_5 P) (BT.node (boot_o_9 P) (BT.node (o_54 P) (BT.node (o_70 P) (BT.node (o_108 P) BT.nil BT.nil) BT.nil) (BT.node (o_86 P) (BT.node (o_124 P) BT.nil BT.nil) BT.nil)) (BT.node (o_62 P) (BT.node (o_78 P) (BT.node (o_116 P) BT.nil BT.nil) BT.nil) (BT.node (o_97 P) (BT.node (o_132 P) BT.nil BT.nil) BT.nil))) (BT.node (o_45 P) (BT.node (o_58 P) (BT.node (o_74 P) (BT.node (o_112 P) BT.nil BT.nil) BT.nil) (BT.node (o_93 P) (BT.node (o_128 P) BT.nil BT.nil) BT.nil)) (BT.node (o_66 P) (BT.node (o_82 P) (BT.node (o_120 P) BT.nil BT.nil) BT.nil) (BT.node (o_101 P) (BT.node (o_136 P) BT.nil BT.nil) BT.nil))))) (BT.node (o_49 P) (BT.node (boot_o_4 P) (BT.node (boot_o_8 P) (BT.node (o_53 P) (BT.node (o_69 P) (BT.node (o_107 P) BT.nil BT.nil) BT.nil) (BT.node (o_106 P) (BT.node (o_123 P) BT.nil BT.nil) BT.nil)) (BT.node (o_61 P) (BT.node (o_77 P) (BT.node (o_115 P) BT.nil BT.nil) BT.nil) (BT.node (o_96 P) (BT.node (o_131 P) BT.nil BT.nil) BT.nil))) (BT.node (o_105 P) (BT.node (o_57 P) (BT.node (o_73 P) (BT.node (o_111 P) BT.nil BT.nil) BT.nil) (BT.node (o_92 P) (BT.node (o_127 P) BT.nil BT.nil) BT.nil)) (BT.node (o_65 P) (BT.node (o_81 P) (BT.node (o_119 P) BT.nil BT.nil) BT.nil) (BT.node (o_100 P) (BT.node (o_135 P) BT.nil BT.nil) BT.nil)))) (BT.node (boot_o_6 P) (BT.node (boot_o_10 P) (BT.node (o_55 P) (BT.node (o_71 P) (BT.node (o_109 P) BT.nil BT.nil) BT.nil) (BT.node (o_87 P) (BT.node (o_125 P) BT.nil BT.nil) BT.nil)) (BT.node (o_63 P) (BT.node (o_79 P) (BT.node (o_117 P) BT.nil BT.nil) BT.nil) (BT.node (o_98 P) (BT.node (o_133 P) BT.nil BT.nil) BT.nil))) (BT.node (o_46 P) (BT.node (o_59 P) (BT.node (o_75 P) (BT.node (o_113 P) BT.nil BT.nil) BT.nil) (BT.node (o_94 P) (BT.node (o_129 P) BT.nil BT.nil) BT.nil)) (BT.node (o_67 P) (BT.node (o_83 P) (BT.node (o_121 P) BT.nil BT.nil) BT.nil) (BT.node (o_102 P) (BT.node (o_137 P) BT.nil BT.nil) BT.nil)))))
noncomputable def tree_226 : Params → BT := fun P => BT.node (boot_o_0 P) (BT.node (boot_o_1 P) (BT.node (o_138 P) (BT.node (boot_o_7 P) (BT.node (o_52 P) (BT.node (o_68 P) (BT.node (o_103 P) (BT.node (o_172 P) BT.nil BT.nil) BT.nil) (BT.node (o_140 P) (BT.node (o_204 P) BT.nil BT.nil) BT.nil)) (BT.node (o_84 P) (BT.node (o_122 P) (BT.node (o_188 P) BT.nil BT.nil) BT.nil) (BT.node (o_156 P) (BT.node (o_220 P) BT.nil BT.nil) BT.nil))) (BT.node (o_60 P) (BT.node (o_76 P) (BT.node (o_114 P) (BT.node (o_180 P) BT.nil BT.nil) BT.nil) (BT.node (o_148 P) (BT.node (o_212 P) BT.nil BT.nil) BT.nil)) (BT.node (o_95 P) (BT.node (o_130 P) (BT.node (o_196 P) BT.nil BT.nil) BT.nil) (BT.node (o_164 P) BT.nil BT.nil)))) (BT.node (o_43 P) (BT.node (o_56 P) (BT.node (o_72 P) (BT.node (o_110 P) (BT.node (o_176 P) BT.nil BT.nil) BT.nil) (BT.node (o_144 P) (BT.node (o_208 P) BT.nil BT.nil) BT.nil)) (BT.node (o_88 P) (BT.node (o_126 P) (BT.node (o_192 P) BT.nil BT.nil) BT.nil) (BT.node (o_160 P) (BT.node (o_224 P) BT.nil BT.nil) BT.nil))) (BT.node (o_64 P) (BT.node (o_80 P) (BT.node (o_118 P) (BT.node (o_184 P) BT.nil BT.nil) BT.nil) (BT.node (o_152 P) (BT.node (o_216 P) BT.nil BT.nil) BT.nil)) (BT.node (o_99 P) (BT.node (o_134 P) (BT.node (o_200 P) BT.nil BT.nil) BT.nil) (BT.node (o_168 P) BT.nil BT.nil))))) (BT.node (boot_o_5 P) (BT.node (boot_o_9 P) (BT.node (o_54 P) (BT.node (o_70 P) (BT.node (o_108 P) (BT.node (o_174 P) BT.nil BT.nil) BT.nil) (BT.node (o_142 P) (BT.node (o_206 P) BT.nil BT.nil) BT.nil)) (BT.node (o_86 P) (BT.node (o_124 P) (BT.node (o_190 P) BT.nil BT.nil) BT.nil) (BT.node (o_158 P) (BT.node (o_222 P) BT.nil BT.nil) BT.nil))) (BT.node (o_62 P) (BT.node (o_78 P) (BT.node (o_116 P) (BT.node (o_182 P) BT.nil BT.nil) BT.nil) (BT.node (o_150 P) (BT.node (o_214 P) BT.nil BT.nil) BT.nil)) (BT.node (o_97 P) (BT.node (o_132 P) (BT.node (o_198 P) BT.nil BT.nil) BT.nil) (BT.node (o_166 P) BT.nil BT.nil)))) (BT.node (o_45 P) (BT.node (o_58 P) (BT.node (o_74 P) (BT.node (o_112 P) (BT.node (o_178 P) BT.nil BT.nil) BT.nil) (BT.node (o_146 P) (BT.node (o_210 P) BT.nil BT.nil) BT.nil)) (BT.node (o_93 P) (BT.node (o_128 P) (BT.node (o_194 P) BT.nil BT.nil) BT.nil) (BT.node (o_162 P) (BT.node (o_226 P) BT.nil BT.nil) BT.nil))) (BT.node (o_66 P) (BT.node (o_82 P) (BT.node (o_120 P) (BT.node (o_186 P) BT.nil BT.nil) BT.nil) (BT.node (o_154 P) (BT.node (o_218 P) BT.nil BT.nil) BT.nil)) (BT.node (o_101 P) (BT.node (o_136 P) (BT.node (o_202 P) BT.nil BT.nil) BT.nil) (BT.node (o_170 P) BT.nil BT.nil)))))) (BT.node (o_49 P) (BT.node (boot_o_4 P) (BT.node (boot_o_8 P) (BT.node (o_53 P) (BT.node (o_69 P) (BT.node (o_107 P) (BT.node (o_173 P) BT.nil BT.nil) BT.nil) (BT.node (o_141 P) (BT.node (o_205 P) BT.nil BT.nil) BT.nil)) (BT.node (o_106 P) (BT.node (o_123 P) (BT.node (o_189 P) BT.nil BT.nil) BT.nil) (BT.node (o_157 P) (BT.node (o_221 P) BT.nil BT.nil) BT.nil))) (BT.node (o_61 P) (BT.node (o_77 P) (BT.node (o_115 P) (BT.node (o_181 P) BT.nil BT.nil) BT.nil) (BT.node (o_149 P) (BT.node (o_213 P) BT.nil BT.nil) BT.nil)) (BT.node (o_96 P) (BT.node (o_131 P) (BT.node (o_197 P) BT.nil BT.nil) BT.nil) (BT.node (o_165 P) BT.nil BT.nil)))) (BT.node (o_139 P) (BT.node (o_57 P) (BT.node (o_73 P) (BT.node (o_111 P) (BT.node (o_177 P) BT.nil BT.nil) BT.nil) (BT.node (o_145 P) (BT.node (o_209 P) BT.nil BT.nil) BT.nil)) (BT.node (o_92 P) (BT.node (o_127 P) (BT.node (o_193 P) BT.nil BT.nil) BT.nil) (BT.node (o_161 P) (BT.node (o_225 P) BT.nil BT.nil) BT.nil))) (BT.node (o_65 P) (BT.node (o_81 P) (BT.node (o_119 P) (BT.node (o_185 P) BT.nil BT.nil) BT.nil) (BT.node (o_153 P) (BT.node (o_217 P) BT.nil BT.nil) BT.nil)) (BT.node (o_100 P) (BT.node (o_135 P) (BT.node (o_201 P) BT.nil BT.nil) BT.nil) (BT.node (o_169 P) BT.nil BT.nil))))) (BT.node (boot_o_6 P) (BT.node (boot_o_10 P) (BT.node (o_55 P) (BT.node (o_71 P) (BT.node (o_109 P) (BT.node (o_175 P) BT.nil BT.nil) BT.nil) (BT.node (o_143 P) (BT.node (o_207 P) BT.nil BT.nil) BT.nil)) (BT.node (o_87 P) (BT.node (o_125 P) (BT.node (o_191 P) BT.nil BT.nil) BT.nil) (BT.node (o_159 P) (BT.node (o_223 P) BT.nil BT.nil) BT.nil))) (BT.node (o_63 P) (BT.node (o_79 P) (BT.node (o_117 P) (BT.node (o_183 P) BT.nil BT.nil) BT.nil) (BT.node (o_151 P) (BT.node (o_215 P) BT.nil BT.nil) BT.nil)) (BT.node (o_98 P) (BT.node (o_133 P) (BT.node (o_199 P) BT.nil BT.nil) BT.nil) (BT.node (o_167 P) BT.nil BT.nil)))) (BT.node (o_46 P) (BT.node (o_59 P) (BT.node (o_75 P) (BT.node (o_113 P) (BT.node (o_179 P) BT.nil BT.nil) BT.nil) (BT.node (o_147 P) (BT.node (o_211 P) BT.nil BT.nil) BT.nil)) (BT.node (o_94 P) (BT.node (o_129 P) (BT.node (o_195 P) BT.nil BT.nil) BT.nil) (BT.node (o_163 P) BT.nil BT.nil))) (BT.node (o_67 P) (BT.node (o_83 P) (BT.node (o_121 P) (BT.node (o_187 P) BT.nil BT.nil) BT.nil) (BT.node (o_155 P) (BT.node (o_219 P) BT.nil BT.nil) BT.nil)) (BT.node (o_102 P) (BT.node (o_137 P) (BT.node (o_203 P) BT.nil BT.nil) BT.nil) (BT.node (o_171 P) BT.nil BT.nil))))))
noncomputable def tree_264 : Params → BT := fun P => BT.node (boot_o_0 P) (BT.node (boot_o_1 P) (BT.node (o_227 P) (BT.node (boot_o_7 P) (BT.node (o_52 P) (BT.node (o_68 P) (BT.node (o_103 P) (BT.node (o_172 P) BT.nil BT.nil) (BT.node (o_238 P) BT.nil BT.nil)) (BT.node (o_140 P) (BT.node (o_204 P) BT.nil BT.nil) BT.nil)) (BT.node (o_84 P) (BT.node (o_122 P) (BT.node (o_188 P) BT.nil BT.nil) (BT.node (o_254 P) BT.nil BT.nil)) (BT.node (o_156 P) (BT.node (o_220 P) BT.nil BT.nil) BT.nil))) (BT.node (o_60 P) (BT.node (o_76 P) (BT.node (o_114 P) (BT.node (o_180 P) BT.nil BT.nil) (BT.node (o_246 P) BT.nil BT.nil)) (BT.node (o_148 P) (BT.node (o_212 P) BT.nil BT.nil) BT.nil)) (BT.node (o_95 P) (BT.node (o_130 P) (BT.node (o_196 P) BT.nil BT.nil) (BT.node (o_262 P) BT.nil BT.nil)) (BT.node (o_164 P) (BT.node (o_230 P) BT.nil BT.nil) BT.nil)))) (BT.node (o_43 P) (BT.node (o_56 P) (BT.node (o_72 P) (BT.node (o_110 P) (BT.node (o_176 P) BT.nil BT.nil) (BT.node (o_242 P) BT.nil BT.nil)) (BT.node (o_144 P) (BT.node (o_208 P) BT.nil BT.nil) BT.nil)) (BT.node (o_88 P) (BT.node (o_126 P) (BT.node (o_192 P) BT.nil BT.nil) (BT.node (o_258 P) BT.nil BT.nil)) (BT.node (o_160 P) (BT.node (o_224 P) BT.nil BT.nil) BT.nil))) (BT.node (o_64 P) (BT.node (o_80 P) (BT.node (o_118 P) (BT.node (o_184 P) BT.nil BT.nil) (BT.node (o_250 P) BT.nil BT.nil)) (BT.node (o_152 P) (BT.node (o_216 P) BT.nil BT.nil) BT.nil)) (BT.node (o_99 P) (BT.node (o_134 P) (BT.node (o_200 P) BT.nil BT.nil) BT.nil) (BT.node (o_168 P) (BT.node (o_234 P) BT.nil BT.nil) BT.nil))))) (BT.node (boot_o_5 P) (BT.node (boot_o_9 P) (BT.node (o_54 P) (BT.node (o_70 P) (BT.node (o_108 P) (BT.node (o_174 P) BT.nil BT.nil) (BT.node (o_240 P) BT.nil BT.nil)) (BT.node (o_142 P) (BT.node (o_206 P) BT.nil BT.nil) BT.nil)) (BT.node (o_86 P) (BT.node (o_124 P) (BT.node (o_190 P) BT.nil BT.nil) (BT.node (o_256 P) BT.nil BT.nil)) (BT.node (o_158 P) (BT.node (o_222 P) BT.nil BT.nil) BT.nil))) (BT.node (o_62 P) (BT.node (o_78 P) (BT.node (o_116 P) (BT.node (o_182 P) BT.nil BT.nil) (BT.node (o_248 P) BT.nil BT.nil)) (BT.node (o_150 P) (BT.node (o_214 P) BT.nil BT.nil) BT.nil)) (BT.node (o_97 P) (BT.node (o_132 P) (BT.node (o_198 P) BT.nil BT.nil) (BT.node (o_264 P) BT.nil BT.nil)) (BT.node (o_166 P) (BT.node (o_232 P) BT.nil BT.nil) BT.nil)))) (BT.node (o_45 P) (BT.node (o_58 P) (BT.node (o_74 P) (BT.node (o_112 P) (BT.node (o_178 P) BT.nil BT.nil) (BT.node (o_244 P) BT.nil BT.nil)) (BT.node (o_146 P) (BT.node (o_210 P) BT.nil BT.nil) BT.nil)) (BT.node (o_93 P) (BT.node (o_128 P) (BT.node (o_194 P) BT.nil BT.nil) (BT.node (o_260 P) BT.nil BT.nil)) (BT.node (o_162 P) (BT.node (o_226 P) BT.nil BT.nil) BT.nil))) (BT.node (o_66 P) (BT.node (o_82 P) (BT.node (o_120 P) (BT.node (o_186 P) BT.nil BT.nil) (BT.node (o_252 P) BT.nil BT.nil)) (BT.node (o_154 P) (BT.node (o_218 P) BT.nil BT.nil) BT.nil)) (BT.node (o_101 P) (BT.node (o_136 P) (BT.node (o_202 P) BT.nil BT.nil) BT.nil) (BT.node (o_170 P) (BT.node (o_236 P) BT.nil BT.nil) BT.nil)))))) (BT.node (o_49 P) (BT.node (boot_o_4 P) (BT.node (boot_o_8 P) (BT.node (o_53 P) (BT.node (o_69 P) (BT.node (o_107 P) (BT.node (o_173 P) BT.nil BT.nil) (BT.node (o_239 P) BT.nil BT.nil)) (BT.node (o_141 P) (BT.node (o_205 P) BT.nil BT.nil) BT.nil)) (BT.node (o_106 P) (BT.node (o_123 P) (BT.node (o_189 P) BT.nil BT.nil) (BT.node (o_255 P) BT.nil BT.nil)) (BT.node (o_157 P) (BT.node (o_221 P) BT.nil BT.nil) BT.nil))) (BT.node (o_61 P) (BT.node (o_77 P) (BT.node (o_115 P) (BT.node (o_181 P) BT.nil BT.nil) (BT.node (o_247 P) BT.nil BT.nil)) (BT.node (o_149 P) (BT.node (o_213 P) BT.nil BT.nil) BT.nil)) (BT.node (o_96 P) (BT.node (o_131 P) (BT.node (o_197 P) BT.nil BT.nil) (BT.node (o_263 P) BT.nil BT.nil)) (BT.node (o_165 P) (BT.node (o_231 P) BT.nil BT.nil) BT.nil)))) (BT.node (o_228 P) (BT.node (o_57 P) (BT.node (o_73 P) (BT.node (o_111 P) (BT.node (o_177 P) BT.nil BT.nil) (BT.node (o_243 P) BT.nil BT.nil)) (BT.node (o_145 P) (BT.node (o_209 P) BT.nil BT.nil) BT.nil)) (BT.node (o_92 P) (BT.node (o_127 P) (BT.node (o_193 P) BT.nil BT.nil) (BT.node (o_259 P) BT.nil BT.nil)) (BT.node (o_161 P) (BT.node (o_225 P) BT.nil BT.nil) BT.nil))) (BT.node (o_65 P) (BT.node (o_81 P) (BT.node (o_119 P) (BT.node (o_185 P) BT.nil BT.nil) (BT.node (o_251 P) BT.nil BT.nil)) (BT.node (o_153 P) (BT.node (o_217 P) BT.nil BT.nil) BT.nil)) (BT.node (o_100 P) (BT.node (o_135 P) (BT.node (o_201 P) BT.nil BT.nil) BT.nil) (BT.node (o_169 P) (BT.node (o_235 P) BT.nil BT.nil) BT.nil))))) (BT.node (boot_o_6 P) (BT.node (boot_o_10 P) (BT.node (o_55 P) (BT.node (o_71 P) (BT.node (o_109 P) (BT.node (o_175 P) BT.nil BT.nil) (BT.node (o_241 P) BT.nil BT.nil)) (BT.node (o_143 P) (BT.node (o_207 P) BT.nil BT.nil) BT.nil)) (BT.node (o_87 P) (BT.node (o_125 P) (BT.node (o_191 P) BT.nil BT.nil) (BT.node (o_257 P) BT.nil BT.nil)) (BT.node (o_159 P) (BT.node (o_223 P) BT.nil BT.nil) BT.nil))) (BT.node (o_63 P) (BT.node (o_79 P) (BT.node (o_117 P) (BT.node (o_183 P) BT.nil BT.nil) (BT.node (o_249 P) BT.nil BT.nil)) (BT.node (o_151 P) (BT.node (o_215 P) BT.nil BT.nil) BT.nil)) (BT.node (o_98 P) (BT.node (o_133 P) (BT.node (o_199 P) BT.nil BT.nil) BT.nil) (BT.node (o_167 P) (BT.node (o_233 P) BT.nil BT.nil) BT.nil)))) (BT.node (o_46 P) (BT.node (o_59 P) (BT.node (o_75 P) (BT.node (o_113 P) (BT.node (o_179 P) BT.nil BT.nil) (BT.node (o_245 P) BT.nil BT.nil)) (BT.node (o_147 P) (BT.node (o_211 P) BT.nil BT.nil) BT.nil)) (BT.node (o_94 P) (BT.node (o_129 P) (BT.node (o_195 P) BT.nil BT.nil) (BT.node (o_261 P) BT.nil BT.nil)) (BT.node (o_163 P) (BT.node (o_229 P) BT.nil BT.nil) BT.nil))) (BT.node (o_67 P) (BT.node (o_83 P) (BT.node (o_121 P) (BT.node (o_187 P) BT.nil BT.nil) (BT.node (o_253 P) BT.nil BT.nil)) (BT.node (o_155 P) (BT.node (o_219 P) BT.nil BT.nil) BT.nil)) (BT.node (o_102 P) (BT.node (o_137 P) (BT.node (o_203 P) BT.nil BT.nil) BT.nil) (BT.node (o_171 P) (BT.node (o_237 P) BT.nil BT.nil) BT.nil))))))
noncomputable def tree_347 : Params → BT := fun P => BT.node (boot_o_0 P) (BT.node (boot_o_1 P) (BT.node (o_265 P) (BT.node (boot_o_7 P) (BT.node (o_52 P) (BT.node (o_68 P) (BT.node (o_103 P) (BT.node (o_172 P) (BT.node (o_304 P) BT.nil BT.nil) BT.nil) (BT.node (o_238 P) BT.nil BT.nil)) (BT.node (o_140 P) (BT.node (o_204 P) (BT.node (o_336 P) BT.nil BT.nil) BT.nil) (BT.node (o_272 P) BT.nil BT.nil))) (BT.node (o_84 P) (BT.node (o_122 P) (BT.node (o_188 P) (BT.node (o_320 P) BT.nil BT.nil) BT.nil) (BT.node (o_254 P) BT.nil BT.nil)) (BT.node (o_156 P) (BT.node (o_220 P) BT.nil BT.nil) (BT.node (o_288 P) BT.nil BT.nil)))) (BT.node (o_60 P) (BT.node (o_76 P) (BT.node (o_114 P) (BT.node (o_180 P) (BT.node (o_312 P) BT.nil BT.nil) BT.nil) (BT.node (o_246 P) BT.nil BT.nil)) (BT.node (o_148 P) (BT.node (o_212 P) (BT.node (o_344 P) BT.nil BT.nil) BT.nil) (BT.node (o_280 P) BT.nil BT.nil))) (BT.node (o_95 P) (BT.node (o_130 P) (BT.node (o_196 P) (BT.node (o_328 P) BT.nil BT.nil) BT.nil) (BT.node (o_262 P) BT.nil BT.nil)) (BT.node (o_164 P) (BT.node (o_230 P) BT.nil BT.nil) (BT.node (o_296 P) BT.nil BT.nil))))) (BT.node (o_43 P) (BT.node (o_56 P) (BT.node (o_72 P) (BT.node (o_110 P) (BT.node (o_176 P) (BT.node (o_308 P) BT.nil BT.nil) BT.nil) (BT.node (o_242 P) BT.nil BT.nil)) (BT.node (o_144 P) (BT.node (o_208 P) (BT.node (o_340 P) BT.nil BT.nil) BT.nil) (BT.node (o_276 P) BT.nil BT.nil))) (BT.node (o_88 P) (BT.node (o_126 P) (BT.node (o_192 P) (BT.node (o_324 P) BT.nil BT.nil) BT.nil) (BT.node (o_258 P) BT.nil BT.nil)) (BT.node (o_160 P) (BT.node (o_224 P) BT.nil BT.nil) (BT.node (o_292 P) BT.nil BT.nil)))) (BT.node (o_64 P) (BT.node (o_80 P) (BT.node (o_118 P) (BT.node (o_184 P) (BT.node (o_316 P) BT.nil BT.nil) BT.nil) (BT.node (o_250 P) BT.nil BT.nil)) (BT.node (o_152 P) (BT.node (o_216 P) BT.nil BT.nil) (BT.node (o_284 P) BT.nil BT.nil))) (BT.node (o_99 P) (BT.node (o_134 P) (BT.node (o_200 P) (BT.node (o_332 P) BT.nil BT.nil) BT.nil) (BT.node (o_268 P) BT.nil BT.nil)) (BT.node (o_168 P) (BT.node (o_234 P) BT.nil BT.nil) (BT.node (o_300 P) BT.nil BT.nil)))))) (BT.node (boot_o_5 P) (BT.node (boot_o_9 P) (BT.node (o_54 P) (BT.node (o_70 P) (BT.node (o_108 P) (BT.node (o_174 P) (BT.node (o_306 P) BT.nil BT.nil) BT.nil) (BT.node (o_240 P) BT.nil BT.nil)) (BT.node (o_142 P) (BT.node (o_206 P) (BT.node (o_338 P) BT.nil BT.nil) BT.nil) (BT.node (o_274 P) BT.nil BT.nil))) (BT.node (o_86 P) (BT.node (o_124 P) (BT.node (o_190 P) (BT.node (o_322 P) BT.nil BT.nil) BT.nil) (BT.node (o_256 P) BT.nil BT.nil)) (BT.node (o_158 P) (BT.node (o_222 P) BT.nil BT.nil) (BT.node (o_290 P) BT.nil BT.nil)))) (BT.node (o_62 P) (BT.node (o_78 P) (BT.node (o_116 P) (BT.node (o_182 P) (BT.node (o_314 P) BT.nil BT.nil) BT.nil) (BT.node (o_248 P) BT.nil BT.nil)) (BT.node (o_150 P) (BT.node (o_214 P) (BT.node (o_346 P) BT.nil BT.nil) BT.nil) (BT.node (o_282 P) BT.nil BT.nil))) (BT.node (o_97 P) (BT.node (o_132 P) (BT.node (o_198 P) (BT.node (o_330 P) BT.nil BT.nil) BT.nil) (BT.node (o_264 P) BT.nil BT.nil)) (BT.node (o_166 P) (BT.node (o_232 P) BT.nil BT.nil) (BT.node (o_298 P) BT.nil BT.nil))))) (BT.node (o_45 P) (BT.node (o_58 P) (BT.node (o_74 P) (BT.node (o_112 P) (BT.node (o_178 P) (BT.node (o_310 P) BT.nil BT.nil) BT.nil) (BT.node (o_244 P) BT.nil BT.nil)) (BT.node (o_146 P) (BT.node (o_210 P) (BT.node (o_342 P) BT.nil BT.nil) BT.nil) (BT.node (o_278 P) BT.nil BT.nil))) (BT.node (o_93 P) (BT.node (o_128 P) (BT.node (o_194 P) (BT.node (o_326 P) BT.nil BT.nil) BT.nil) (BT.node (o_260 P) BT.nil BT.nil)) (BT.node (o_162 P) (BT.node (o_226 P) BT.nil BT.nil) (BT.node (o_294 P) BT.nil BT.nil)))) (BT.node (o_66 P) (BT.node (o_82 P) (BT.node (o_120 P) (BT.node (o_186 P) (BT.node (o_318 P) BT.nil BT.nil) BT.nil) (BT.node (o_252 P) BT.nil BT.nil)) (BT.node (o_154 P) (BT.node (o_218 P) BT.nil BT.nil) (BT.node (o_286 P) BT.nil BT.nil))) (BT.node (o_101 P) (BT.node (o_136 P) (BT.node (o_202 P) (BT.node (o_334 P) BT.nil BT.nil) BT.nil) (BT.node (o_270 P) BT.nil BT.nil)) (BT.node (o_170 P) (BT.node (o_236 P) BT.nil BT.nil) (BT.node (o_302 P) BT.nil BT.nil))))))) (BT.node (o_49 P) (BT.node (boot_o_4 P) (BT.node (boot_o_8 P) (BT.node (o_53 P) (BT.node (o_69 P) (BT.node (o_107 P) (BT.node (o_173 P) (BT.node (o_305 P) BT.nil BT.nil) BT.nil) (BT.node (o_239 P) BT.nil BT.nil)) (BT.node (o_141 P) (BT.node (o_205 P) (BT.node (o_337 P) BT.nil BT.nil) BT.nil) (BT.node (o_273 P) BT.nil BT.nil))) (BT.node (o_106 P) (BT.node (o_123 P) (BT.node (o_189 P) (BT.node (o_321 P) BT.nil BT.nil) BT.nil) (BT.node (o_255 P) BT.nil BT.nil)) (BT.node (o_157 P) (BT.node (o_221 P) BT.nil BT.nil) (BT.node (o_289 P) BT.nil BT.nil)))) (BT.node (o_61 P) (BT.node (o_77 P) (BT.node (o_115 P) (BT.node (o_181 P) (BT.node (o_313 P) BT.nil BT.nil) BT.nil) (BT.node (o_247 P) BT.nil BT.nil)) (BT.node (o_149 P) (BT.node (o_213 P) (BT.node (o_345 P) BT.nil BT.nil) BT.nil) (BT.node (o_281 P) BT.nil BT.nil))) (BT.node (o_96 P) (BT.node (o_131 P) (BT.node (o_197 P) (BT.node (o_329 P) BT.nil BT.nil) BT.nil) (BT.node (o_263 P) BT.nil BT.nil)) (BT.node (o_165 P) (BT.node (o_231 P) BT.nil BT.nil) (BT.node (o_297 P) BT.nil BT.nil))))) (BT.node (o_266 P) (BT.node (o_57 P) (BT.node (o_73 P) (BT.node (o_111 P) (BT.node (o_177 P) (BT.node (o_309 P) BT.nil BT.nil) BT.nil) (BT.node (o_243 P) BT.nil BT.nil)) (BT.node (o_145 P) (BT.node (o_209 P) (BT.node (o_341 P) BT.nil BT.nil) BT.nil) (BT.node (o_277 P) BT.nil BT.nil))) (BT.node (o_92 P) (BT.node (o_127 P) (BT.node (o_193 P) (BT.node (o_325 P) BT.nil BT.nil) BT.nil) (BT.node (o_259 P) BT.nil BT.nil)) (BT.node (o_161 P) (BT.node (o_225 P) BT.nil BT.nil) (BT.node (o_293 P) BT.nil BT.nil)))) (BT.node (o_65 P) (BT.node (o_81 P) (BT.node (o_119 P) (BT.node (o_185 P) (BT.node (o_317 P) BT.nil BT.nil) BT.nil) (BT.node (o_251 P) BT.nil BT.nil)) (BT.node (o_153 P) (BT.node (o_217 P) BT.nil BT.nil) (BT.node (o_285 P) BT.nil BT.nil))) (BT.node (o_100 P) (BT.node (o_135 P) (BT.node (o_201 P) (BT.node (o_333 P) BT.nil BT.nil) BT.nil) (BT.node (o_269 P) BT.nil BT.nil)) (BT.node (o_169 P) (BT.node (o_235 P) BT.nil BT.nil) (BT.node (o_301 P) BT.nil BT.nil)))))) (BT.node (boot_o_6 P) (BT.node (boot_o_10 P) (BT.node (o_55 P) (BT.node (o_71 P) (BT.node (o_109 P) (BT.node (o_175 P) (BT.node (o_307 P) BT.nil BT.nil) BT.nil) (BT.node (o_241 P) BT.nil BT.nil)) (BT.node (o_143 P) (BT.node (o_207 P) (BT.node (o_339 P) BT.nil BT.nil) BT.nil) (BT.node (o_275 P) BT.nil BT.nil))) (BT.node (o_87 P) (BT.node (o_125 P) (BT.node (o_191 P) (BT.node (o_323 P) BT.nil BT.nil) BT.nil) (BT.node (o_257 P) BT.nil BT.nil)) (BT.node (o_159 P) (BT.node (o_223 P) BT.nil BT.nil) (BT.node (o_291 P) BT.nil BT.nil)))) (BT.node (o_63 P) (BT.node (o_79 P) (BT.node (o_117 P) (BT.node (o_183 P) (BT.node (o_315 P) BT.nil BT.nil) BT.nil) (BT.node (o_249 P) BT.nil BT.nil)) (BT.node (o_151 P) (BT.node (o_215 P) (BT.node (o_347 P) BT.nil BT.nil) BT.nil) (BT.node (o_283 P) BT.nil BT.nil))) (BT.node (o_98 P) (BT.node (o_133 P) (BT.node (o_199 P) (BT.node (o_331 P) BT.nil BT.nil) BT.nil) (BT.node (o_267 P) BT.nil BT.nil)) (BT.node (o_167 P) (BT.node (o_233 P) BT.nil BT.nil) (BT.node (o_299 P) BT.nil BT.nil))))) (BT.node (o_46 P) (BT.node (o_59 P) (BT.node (o_75 P) (BT.node (o_113 P) (BT.node (o_179 P) (BT.node (o_311 P) BT.nil BT.nil) BT.nil) (BT.node (o_245 P) BT.nil BT.nil)) (BT.node (o_147 P) (BT.node (o_211 P) (BT.node (o_343 P) BT.nil BT.nil) BT.nil) (BT.node (o_279 P) BT.nil BT.nil))) (BT.node (o_94 P) (BT.node (o_129 P) (BT.node (o_195 P) (BT.node (o_327 P) BT.nil BT.nil) BT.nil) (BT.node (o_261 P) BT.nil BT.nil)) (BT.node (o_163 P) (BT.node (o_229 P) BT.nil BT.nil) (BT.node (o_295 P) BT.nil BT.nil)))) (BT.node (o_67 P) (BT.node (o_83 P) (BT.node (o_121 P) (BT.node (o_187 P) (BT.node (o_319 P) BT.nil BT.nil) BT.nil) (BT.node (o_253 P) BT.nil BT.nil)) (BT.node (o_155 P) (BT.node (o_219 P) BT.nil BT.nil) (BT.node (o_287 P) BT.nil BT.nil))) (BT.node (o_102 P) (BT.node (o_137 P) (BT.node (o_203 P) (BT.node (o_335 P) BT.nil BT.nil) BT.nil) (BT.node (o_271 P) BT.nil BT.nil)) (BT.node (o_171 P) (BT.node (o_237 P) BT.nil BT.nil) (BT.node (o_303 P) BT.nil BT.nil)))))))
noncomputable def tree_354 : Params → BT := fun P => BT.node (boot_o_0 P) (BT.node (boot_o_1 P) (BT.node (o_348 P) (BT.node (boot_o_7 P) (BT.node (o_52 P) (BT.node (o_68 P) (BT.node (o_103 P) (BT.node (o_172 P) (BT.node (o_304 P) BT.nil BT.nil) BT.nil) (BT.node (o_238 P) BT.nil BT.nil)) (BT.node (o_140 P) (BT.node (o_204 P) (BT.node (o_336 P) BT.nil BT.nil) BT.nil) (BT.node (o_272 P) BT.nil BT.nil))) (BT.node (o_84 P) (BT.node (o_122 P) (BT.node (o_188 P) (BT.node (o_320 P) BT.nil BT.nil) BT.nil) (BT.node (o_254 P) BT.nil BT.nil)) (BT.node (o_156 P) (BT.node (o_220 P) (BT.node (o_354 P) BT.nil BT.nil) BT.nil) (BT.node (o_288 P) BT.nil BT.nil)))) (BT.node (o_60 P) (BT.node (o_76 P) (BT.node (o_114 P) (BT.node (o_180 P) (BT.node (o_312 P) BT.nil BT.nil) BT.nil) (BT.node (o_246 P) BT.nil BT.nil)) (BT.node (o_148 P) (BT.node (o_212 P) (BT.node (o_344 P) BT.nil BT.nil) BT.nil) (BT.node (o_280 P) BT.nil BT.nil))) (BT.node (o_95 P) (BT.node (o_130 P) (BT.node (o_196 P) (BT.node (o_328 P) BT.nil BT.nil) BT.nil) (BT.node (o_262 P) BT.nil BT.nil)) (BT.node (o_164 P) (BT.node (o_230 P) BT.nil BT.nil) (BT.node (o_296 P) BT.nil BT.nil))))) (BT.node (o_43 P) (BT.node (o_56 P) (BT.node (o_72 P) (BT.node (o_110 P) (BT.node (o_176 P) (BT.node (o_308 P) BT.nil BT.nil) BT.nil) (BT.node (o_242 P) BT.nil BT.nil)) (BT.node (o_144 P) (BT.node (o_208 P) (BT.node (o_340 P) BT.nil BT.nil) BT.nil) (BT.node (o_276 P) BT.nil BT.nil))) (BT.node (o_88 P) (BT.node (o_126 P) (BT.node (o_192 P) (BT.node (o_324 P) BT.nil BT.nil) BT.nil) (BT.node (o_258 P) BT.nil BT.nil)) (BT.node (o_160 P) (BT.node (o_224 P) BT.nil BT.nil) (BT.node (o_292 P) BT.nil BT.nil)))) (BT.node (o_64 P) (BT.node (o_80 P) (BT.node (o_118 P) (BT.node (o_184 P) (BT.node (o_316 P) BT.nil BT.nil) BT.nil) (BT.node (o_250 P) BT.nil BT.nil)) (BT.node (o_152 P) (BT.node (o_216 P) (BT.node (o_350 P) BT.nil BT.nil) BT.nil) (BT.node (o_284 P) BT.nil BT.nil))) (BT.node (o_99 P) (BT.node (o_134 P) (BT.node (o_200 P) (BT.node (o_332 P) BT.nil BT.nil) BT.nil) (BT.node (o_268 P) BT.nil BT.nil)) (BT.node (o_168 P) (BT.node (o_234 P) BT.nil BT.nil) (BT.node (o_300 P) BT.nil BT.nil)))))) (BT.node (boot_o_5 P) (BT.node (boot_o_9 P) (BT.node (o_54 P) (BT.node (o_70 P) (BT.node (o_108 P) (BT.node (o_174 P) (BT.node (o_306 P) BT.nil BT.nil) BT.nil) (BT.node (o_240 P) BT.nil BT.nil)) (BT.node (o_142 P) (BT.node (o_206 P) (BT.node (o_338 P) BT.nil BT.nil) BT.nil) (BT.node (o_274 P) BT.nil BT.nil))) (BT.node (o_86 P) (BT.node (o_124 P) (BT.node (o_190 P) (BT.node (o_322 P) BT.nil BT.nil) BT.nil) (BT.node (o_256 P) BT.nil BT.nil)) (BT.node (o_158 P) (BT.node (o_222 P) BT.nil BT.nil) (BT.node (o_290 P) BT.nil BT.nil)))) (BT.node (o_62 P) (BT.node (o_78 P) (BT.node (o_116 P) (BT.node (o_182 P) (BT.node (o_314 P) BT.nil BT.nil) BT.nil) (BT.node (o_248 P) BT.nil BT.nil)) (BT.node (o_150 P) (BT.node (o_214 P) (BT.node (o_346 P) BT.nil BT.nil) BT.nil) (BT.node (o_282 P) BT.nil BT.nil))) (BT.node (o_97 P) (BT.node (o_132 P) (BT.node (o_198 P) (BT.node (o_330 P) BT.nil BT.nil) BT.nil) (BT.node (o_264 P) BT.nil BT.nil)) (BT.node (o_166 P) (BT.node (o_232 P) BT.nil BT.nil) (BT.node (o_298 P) BT.nil BT.nil))))) (BT.node (o_45 P) (BT.node (o_58 P) (BT.node (o_74 P) (BT.node (o_112 P) (BT.node (o_178 P) (BT.node (o_310 P) BT.nil BT.nil) BT.nil) (BT.node (o_244 P) BT.nil BT.nil)) (BT.node (o_146 P) (BT.node (o_210 P) (BT.node (o_342 P) BT.nil BT.nil) BT.nil) (BT.node (o_278 P) BT.nil BT.nil))) (BT.node (o_93 P) (BT.node (o_128 P) (BT.node (o_194 P) (BT.node (o_326 P) BT.nil BT.nil) BT.nil) (BT.node (o_260 P) BT.nil BT.nil)) (BT.node (o_162 P) (BT.node (o_226 P) BT.nil BT.nil) (BT.node (o_294 P) BT.nil BT.nil)))) (BT.node (o_66 P) (BT.node (o_82 P) (BT.node (o_120 P) (BT.node (o_186 P) (BT.node (o_318 P) BT.nil BT.nil) BT.nil) (BT.node (o_252 P) BT.nil BT.nil)) (BT.node (o_154 P) (BT.node (o_218 P) (BT.node (o_352 P) BT.nil BT.nil) BT.nil) (BT.node (o_286 P) BT.nil BT.nil))) (BT.node (o_101 P) (BT.node (o_136 P) (BT.node (o_202 P) (BT.node (o_334 P) BT.nil BT.nil) BT.nil) (BT.node (o_270 P) BT.nil BT.nil)) (BT.node (o_170 P) (BT.node (o_236 P) BT.nil BT.nil) (BT.node (o_302 P) BT.nil BT.nil))))))) (BT.node (o_49 P) (BT.node (boot_o_4 P) (BT.node (boot_o_8 P) (BT.node (o_53 P) (BT.node (o_69 P) (BT.node (o_107 P) (BT.node (o_173 P) (BT.node (o_305 P) BT.nil BT.nil) BT.nil) (BT.node (o_239 P) BT.nil BT.nil)) (BT.node (o_141 P) (BT.node (o_205 P) (BT.node (o_337 P) BT.nil BT.nil) BT.nil) (BT.node (o_273 P) BT.nil BT.nil))) (BT.node (o_106 P) (BT.node (o_123 P) (BT.node (o_189 P) (BT.node (o_321 P) BT.nil BT.nil) BT.nil) (BT.node (o_255 P) BT.nil BT.nil)) (BT.node (o_157 P) (BT.node (o_221 P) BT.nil BT.nil) (BT.node (o_289 P) BT.nil BT.nil)))) (BT.node (o_61 P) (BT.node (o_77 P) (BT.node (o_115 P) (BT.node (o_181 P) (BT.node (o_313 P) BT.nil BT.nil) BT.nil) (BT.node (o_247 P) BT.nil BT.nil)) (BT.node (o_149 P) (BT.node (o_213 P) (BT.node (o_345 P) BT.nil BT.nil) BT.nil) (BT.node (o_281 P) BT.nil BT.nil))) (BT.node (o_96 P) (BT.node (o_131 P) (BT.node (o_197 P) (BT.node (o_329 P) BT.nil BT.nil) BT.nil) (BT.node (o_263 P) BT.nil BT.nil)) (BT.node (o_165 P) (BT.node (o_231 P) BT.nil BT.nil) (BT.node (o_297 P) BT.nil BT.nil))))) (BT.node (o_349 P) (BT.node (o_57 P) (BT.node (o_73 P) (BT.node (o_111 P) (BT.node (o_177 P) (BT.node (o_309 P) BT.nil BT.nil) BT.nil) (BT.node (o_243 P) BT.nil BT.nil)) (BT.node (o_145 P) (BT.node (o_209 P) (BT.node (o_341 P) BT.nil BT.nil) BT.nil) (BT.node (o_277 P) BT.nil BT.nil))) (BT.node (o_92 P) (BT.node (o_127 P) (BT.node (o_193 P) (BT.node (o_325 P) BT.nil BT.nil) BT.nil) (BT.node (o_259 P) BT.nil BT.nil)) (BT.node (o_161 P) (BT.node (o_225 P) BT.nil BT.nil) (BT.node (o_293 P) BT.nil BT.nil)))) (BT.node (o_65 P) (BT.node (o_81 P) (BT.node (o_119 P) (BT.node (o_185 P) (BT.node (o_317 P) BT.nil BT.nil) BT.nil) (BT.node (o_251 P) BT.nil BT.nil)) (BT.node (o_153 P) (BT.node (o_217 P) (BT.node (o_351 P) BT.nil BT.nil) BT.nil) (BT.node (o_285 P) BT.nil BT.nil))) (BT.node (o_100 P) (BT.node (o_135 P) (BT.node (o_201 P) (BT.node (o_333 P) BT.nil BT.nil) BT.nil) (BT.node (o_269 P) BT.nil BT.nil)) (BT.node (o_169 P) (BT.node (o_235 P) BT.nil BT.nil) (BT.node (o_301 P) BT.nil BT.nil)))))) (BT.node (boot_o_6 P) (BT.node (boot_o_10 P) (BT.node (o_55 P) (BT.node (o_71 P) (BT.node (o_109 P) (BT.node (o_175 P) (BT.node (o_307 P) BT.nil BT.nil) BT.nil) (BT.node (o_241 P) BT.nil BT.nil)) (BT.node (o_143 P) (BT.node (o_207 P) (BT.node (o_339 P) BT.nil BT.nil) BT.nil) (BT.node (o_275 P) BT.nil BT.nil))) (BT.node (o_87 P) (BT.node (o_125 P) (BT.node (o_191 P) (BT.node (o_323 P) BT.nil BT.nil) BT.nil) (BT.node (o_257 P) BT.nil BT.nil)) (BT.node (o_159 P) (BT.node (o_223 P) BT.nil BT.nil) (BT.node (o_291 P) BT.nil BT.nil)))) (BT.node (o_63 P) (BT.node (o_79 P) (BT.node (o_117 P) (BT.node (o_183 P) (BT.node (o_315 P) BT.nil BT.nil) BT.nil) (BT.node (o_249 P) BT.nil BT.nil)) (BT.node (o_151 P) (BT.node (o_215 P) (BT.node (o_347 P) BT.nil BT.nil) BT.nil) (BT.node (o_283 P) BT.nil BT.nil))) (BT.node (o_98 P) (BT.node (o_133 P) (BT.node (o_199 P) (BT.node (o_331 P) BT.nil BT.nil) BT.nil) (BT.node (o_267 P) BT.nil BT.nil)) (BT.node (o_167 P) (BT.node (o_233 P) BT.nil BT.nil) (BT.node (o_299 P) BT.nil BT.nil))))) (BT.node (o_46 P) (BT.node (o_59 P) (BT.node (o_75 P) (BT.node (o_113 P) (BT.node (o_179 P) (BT.node (o_311 P) BT.nil BT.nil) BT.nil) (BT.node (o_245 P) BT.nil BT.nil)) (BT.node (o_147 P) (BT.node (o_211 P) (BT.node (o_343 P) BT.nil BT.nil) BT.nil) (BT.node (o_279 P) BT.nil BT.nil))) (BT.node (o_94 P) (BT.node (o_129 P) (BT.node (o_195 P) (BT.node (o_327 P) BT.nil BT.nil) BT.nil) (BT.node (o_261 P) BT.nil BT.nil)) (BT.node (o_163 P) (BT.node (o_229 P) BT.nil BT.nil) (BT.node (o_295 P) BT.nil BT.nil)))) (BT.node (o_67 P) (BT.node (o_83 P) (BT.node (o_121 P) (BT.node (o_187 P) (BT.node (o_319 P) BT.nil BT.nil) BT.nil) (BT.node (o_253 P) BT.nil BT.nil)) (BT.node (o_155 P) (BT.node (o_219 P) (BT.node (o_353 P) BT.nil BT.nil) BT.nil) (BT.node (o_287 P) BT.nil BT.nil))) (BT.node (o_102 P) (BT.node (o_137 P) (BT.node (o_203 P) (BT.node (o_335 P) BT.nil BT.nil) BT.nil) (BT.node (o_271 P) BT.nil BT.nil)) (BT.node (o_171 P) (BT.node (o_237 P) BT.nil BT.nil) (BT.node (o_303 P) BT.nil BT.nil)))))))
noncomputable def sts_49 : List Stmt := ((behindTheImports pr).drop 0).take 3
noncomputable def sts_89 : List Stmt := ((behindTheImports pr).drop 3).take 1
noncomputable def sts_104 : List Stmt := ((behindTheImports pr).drop 4).take 5
noncomputable def sts_138 : List Stmt := ((behindTheImports pr).drop 9).take 1
noncomputable def sts_227 : List Stmt := ((behindTheImports pr).drop 10).take 13
noncomputable def sts_265 : List Stmt := ((behindTheImports pr).drop 23).take 14
noncomputable def sts_348 : List Stmt := ((behindTheImports pr).drop 37).take 1
noncomputable def env_41 : Env := { scope := pr.main.scope, locals := mainNs, globals := mainNs, cells := [], code := Value.ref 13, frame := some 14 }
noncomputable abbrev cd : Code := .body (behindTheImports pr) env_41
noncomputable abbrev B : List Frame := [topFrame ⟨0, 0, 0, 0⟩]
noncomputable abbrev st (t : Params → BT) (n k : Nat) (w : World) (os : OsState) : SharedT := ⟨t w.params, n, {}, Array.mk [], {}, k, os⟩
theorem seg_quick : segRunT treeTable = PySem.W.Fast.tw10110043849684766642 PySem.W.Fast.tw14364793385576792824 := by rw [← PySem.W.Fast.te10110043849684766642, ← PySem.W.Fast.te14364793385576792824]
theorem g47q (w : World) : (fun os => PySem.W.Fast.tw10110043849684766642 PySem.W.Fast.tw14364793385576792824 pr w 11 (some (.ref 6)) 1 323 (st tree_47 15 187 w os) (piecesOf sts_49 env_41 cd ⟨0,0,0,0⟩ B)) = fun os => some (.next, st tree_88 52 238 w os, cd, ⟨5,0,13,16⟩) := by kernel_rfl
theorem g47 (w : World) : (fun os => segRunT treeTable pr w 11 (some (.ref 6)) 1 323 (st tree_47 15 187 w os) (piecesOf sts_49 env_41 cd ⟨0,0,0,0⟩ B)) = fun os => some (.next, st tree_88 52 238 w os, cd, ⟨5,0,13,16⟩) := by rw [seg_quick]; exact g47q w
theorem g88q (w : World) : (fun os => PySem.W.Fast.tw10110043849684766642 PySem.W.Fast.tw14364793385576792824 pr w 11 (some (.ref 6)) 1 214 (st tree_88 52 238 w os) (piecesOf sts_89 env_41 cd ⟨5,0,13,16⟩ B)) = fun os => some (.next, st tree_103 64 254 w os, cd, ⟨14,0,15,8⟩) := by kernel_rfl
theorem g88 (w : World) : (fun os => segRunT treeTable pr w 11 (some (.ref 6)) 1 214 (st tree_88 52 238 w os) (piecesOf sts_89 env_41 cd ⟨5,0,13,16⟩ B)) = fun os => some (.next, st tree_103 64 254 w os, cd, ⟨14,0,15,8⟩) := by rw [seg_quick]; exact g88q w
theorem g103q (w : World) : (fun os => PySem.W.Fast.tw10110043849684766642 PySem.W.Fast.tw14364793385576792824 pr w 11 (some (.ref 6)) 1 313 (st tree_103 64 254 w os) (piecesOf sts_104 env_41 cd ⟨14,0,15,8⟩ B)) = fun os => some (.next, st tree_137 95 298 w os, cd, ⟨28,0,31,83⟩) := by kernel_rfl
theorem g103 (w : World) : (fun os => segRunT treeTable pr w 11 (some (.ref 6)) 1 313 (st tree_103 64 254 w os) (piecesOf sts_104 env_41 cd ⟨14,0,15,8⟩ B)) = fun os => some (.next, st tree_137 95 298 w os, cd, ⟨28,0,31,83⟩) := by rw [seg_quick]; exact g103q w
theorem g137q (w : World) : (fun os => PySem.W.Fast.tw10110043849684766642 PySem.W.Fast.tw14364793385576792824 pr w 11 (some (.ref 6)) 1 532 (st tree_137 95 298 w os) (piecesOf sts_138 env_41 cd ⟨28,0,31,83⟩ B)) = fun os => some (.next, st tree_226 182 400 w os, cd, ⟨32,0,67,31⟩) := by kernel_rfl
theorem g137 (w : World) : (fun os => segRunT treeTable pr w 11 (some (.ref 6)) 1 532 (st tree_137 95 298 w os) (piecesOf sts_138 env_41 cd ⟨28,0,31,83⟩ B)) = fun os => some (.next, st tree_226 182 400 w os, cd, ⟨32,0,67,31⟩) := by rw [seg_quick]; exact g137q w
theorem g226q (w : World) : (fun os => PySem.W.Fast.tw10110043849684766642 PySem.W.Fast.tw14364793385576792824 pr w 11 (some (.ref 6)) 1 400 (st tree_226 182 400 w os) (piecesOf sts_227 env_41 cd ⟨32,0,67,31⟩ B)) = fun os => some (.next, st tree_264 218 475 w os, cd, ⟨85,0,95,39⟩) := by kernel_rfl
theorem g226 (w : World) : (fun os => segRunT treeTable pr w 11 (some (.ref 6)) 1 400 (st tree_226 182 400 w os) (piecesOf sts_227 env_41 cd ⟨32,0,67,31⟩ B)) = fun os => some (.next, st tree_264 218 475 w os, cd, ⟨85,0,95,39⟩) := by rw [seg_quick]; exact g226q w
theorem g264q (w : World) : (fun os => PySem.W.Fast.tw10110043849684766642 PySem.W.Fast.tw14364793385576792824 pr w 11 (some (.ref 6)) 1 379 (st tree_264 218 475 w os) (piecesOf sts_265 env_41 cd ⟨85,0,95,39⟩ B)) = fun os => some (.next, st tree_347 299 577 w os, cd, ⟨173,0,174,37⟩) := by kernel_rfl
theorem g264 (w : World) : (fun os => segRunT treeTable pr w 11 (some (.ref 6)) 1 379 (st tree_264 218 475 w os) (piecesOf sts_265 env_41 cd ⟨85,0,95,39⟩ B)) = fun os => some (.next, st tree_347 299 577 w os, cd, ⟨173,0,174,37⟩) := by rw [seg_quick]; exact g264q w
theorem g347q (w : World) : (fun os => PySem.W.Fast.tw10110043849684766642 PySem.W.Fast.tw14364793385576792824 pr w 11 (some (.ref 6)) 1 27 (st tree_347 299 577 w os) (piecesOf sts_348 env_41 cd ⟨173,0,174,37⟩ B)) = fun os => some (.next, st tree_354 304 583 w os, cd, ⟨175,0,200,68⟩) := by kernel_rfl
theorem g347 (w : World) : (fun os => segRunT treeTable pr w 11 (some (.ref 6)) 1 27 (st tree_347 299 577 w os) (piecesOf sts_348 env_41 cd ⟨173,0,174,37⟩ B)) = fun os => some (.next, st tree_354 304 583 w os, cd, ⟨175,0,200,68⟩) := by rw [seg_quick]; exact g347q w
end hd
end Mine
end
section
open PySem PySem.W PyProof.Rows
namespace Mine
namespace hd
noncomputable def view_39 : Program := by
  refine' (?f : (s0 : Stmt) → pr.main.body[0]? = some s0 → (s2 : Stmt) → pr.main.body[2]? = some s2 → (s3 : Stmt) → pr.main.body[3]? = some s3 → (s4 : Stmt) → pr.main.body[4]? = some s4 → (s6 : Stmt) → pr.main.body[6]? = some s6 → (s7 : Stmt) → pr.main.body[7]? = some s7 → (s8 : Stmt) → pr.main.body[8]? = some s8 → (s9 : Stmt) → pr.main.body[9]? = some s9 → (s10 : Stmt) → pr.main.body[10]? = some s10 → (s12 : Stmt) → pr.main.body[12]? = some s12 → (s13 : Stmt) → pr.main.body[13]? = some s13 → (s14 : Stmt) → pr.main.body[14]? = some s14 → (s15 : Stmt) → pr.main.body[15]? = some s15 → (s16 : Stmt) → pr.main.body[16]? = some s16 → (s17 : Stmt) → pr.main.body[17]? = some s17 → (s18 : Stmt) → pr.main.body[18]? = some s18 → (s19 : Stmt) → pr.main.body[19]? = some s19 → (s20 : Stmt) → pr.main.body[20]? = some s20 → (s21 : Stmt) → pr.main.body[21]? = some s21 → (s22 : Stmt) → pr.main.body[22]? = some s22 → (s23 : Stmt) → pr.main.body[23]? = some s23 → (s24 : Stmt) → pr.main.body[24]? = some s24 → (s25 : Stmt) → pr.main.body[25]? = some s25 → (s26 : Stmt) → pr.main.body[26]? = some s26 → (s27 : Stmt) → pr.main.body[27]? = some s27 → (s28 : Stmt) → pr.main.body[28]? = some s28 → (s29 : Stmt) → pr.main.body[29]? = some s29 → (s30 : Stmt) → pr.main.body[30]? = some s30 → (s31 : Stmt) → pr.main.body[31]? = some s31 → (s32 : Stmt) → pr.main.body[32]? = some s32 → (s34 : Stmt) → pr.main.body[34]? = some s34 → (s35 : Stmt) → pr.main.body[35]? = some s35 → (s36 : Stmt) → pr.main.body[36]? = some s36 → (s37 : Stmt) → pr.main.body[37]? = some s37 → Program) _ rfl _ rfl _ rfl _ rfl _ rfl _ rfl _ rfl _ rfl _ rfl _ rfl _ rfl _ rfl _ rfl _ rfl _ rfl _ rfl _ rfl _ rfl _ rfl _ rfl _ rfl _ rfl _ rfl _ rfl _ rfl _ rfl _ rfl _ rfl _ rfl _ rfl _ rfl _ rfl _ rfl _ rfl
  exact fun s0 _ s2 _ s3 _ s4 _ s6 _ s7 _ s8 _ s9 _ s10 _ s12 _ s13 _ s14 _ s15 _ s16 _ s17 _ s18 _ s19 _ s20 _ s21 _ s22 _ s23 _ s24 _ s25 _ s26 _ s27 _ s28 _ s29 _ s30 _ s31 _ s32 _ s34 _ s35 _ s36 _ s37 _ => { pr with main := { pr.main with body := [s0, s2, s3, s4, s6, s7, s8, s9, s10, s12, s13, s14, s15, s16, s17, s18, s19, s20, s21, s22, s23, s24, s25, s26, s27, s28, s29, s30, s31, s32, s34, s35, s36, s37] } }
noncomputable abbrev loose : List Str := [Str.ofString "ShapeError", Str.ofString "VERSIONS"]
noncomputable abbrev lv : List (Str × WData) := [(Str.ofString "VERSIONS", WData.tuple [WData.int 65536, WData.int 1330926671, WData.int 1953658213])]
theorem size (w : World) : ((boot_heap w.params).isNs mainGlobals && (Array.mk [] : Array GenState).size == 0, (boot_heap w.params).objs.size, (boot_heap w.params).nsMap mainGlobals "__annotations__") = (true, 11, some (.ref 6)) := by kernel_rfl
theorem looks1 (w : World) : (fun os => (staticsOk (importedModules pr.main.body) (boot_heap w.params) (heap_355 w.params) && namesBound pr (heap_355 w.params) && gensDone ⟨heap_355 w.params, Array.mk [], {}, 583, os⟩ && laidKept (boot_heap w.params) (heap_355 w.params))) = fun _ => true := by kernel_rfl
theorem looks2 (w : World) : (fun os => openSeen view_39 loose (importedModules pr.main.body) (fun s => xlAt view_39 lv s && recOk (RowW.records PySem.Challenge.rw_pb0184_01.row.toRowW) s) true ⟨heap_355 w.params, Array.mk [], {}, 583, os⟩) = fun _ => openGood view_39 loose := by kernel_rfl
end hd
end Mine
end
section
open PySem PySem.W PyProof.Rows
namespace Mine
namespace hd
theorem pre (w : World) : (fun os => topGo treeTable pr w 11 (some (.ref 6)) 12 ⟨boot_heap w.params, Array.mk [], boot_drawn, boot_toks, os⟩ (topStub pr)) = fun os => some ((⟨heap_46 w.params, Array.mk [], {}, 187, os⟩ : Shared), ⟨denote treeTable cd, cd, ⟨0, 0, 0, 0⟩, B⟩) := by kernel_rfl
theorem block (w : World) : (fun os => segRun treeTable pr w 11 (some (.ref 6)) 1 2 ⟨heap_46 w.params, Array.mk [], {}, 187, os⟩ (blockOf (behindTheImports pr) env_41 cd ⟨0, 0, 0, 0⟩ B)) = fun os => some (.next, (st tree_47 15 187 w os).abs, cd, ⟨0, 0, 0, 0⟩) := by kernel_rfl
end hd
end Mine
end
section
open PySem PySem.W PyProof.Rows
namespace Mine
namespace hd
theorem split : behindTheImports pr = sts_49 ++ (sts_89 ++ (sts_104 ++ (sts_138 ++ (sts_227 ++ (sts_265 ++ (sts_348 ++ [])))))) := by kernel_rfl
theorem last (w : World) : (fun os => topRun treeTable pr w 11 (some (.ref 6)) 2 (st tree_354 304 583 w os).abs ⟨doneF .next, cd, ⟨175, 0, 200, 68⟩, B⟩) = fun os => some (⟨heap_355 w.params, Array.mk [], {}, 583, os⟩ : Shared) := by kernel_rfl
theorem run (w : World) (os : OsState) : topRun treeTable pr w 11 (some (.ref 6)) (12 + (2 + (323 + (214 + (313 + (532 + (400 + (379 + (27 + 2))))))))) ⟨boot_heap w.params, Array.mk [], boot_drawn, boot_toks, os⟩ (topStub pr) = some ⟨heap_355 w.params, Array.mk [], {}, 583, os⟩ := by
  refine go_top (congrFun (pre w) os) (piece_block (congrFun (block w) os) ?_)
  rw [split]
  exact piece_app (segRun_of (congrFun (g47 w) os)) (piece_app (segRun_of (congrFun (g88 w) os)) (piece_app (segRun_of (congrFun (g103 w) os)) (piece_app (segRun_of (congrFun (g137 w) os)) (piece_app (segRun_of (congrFun (g226 w) os))
    (piece_app (segRun_of (congrFun (g264 w) os)) (piece_app (segRun_of (congrFun (g347 w) os)) (piece_nil (congrFun (last w) os))))))))
end hd
end Mine
end
section
open PySem PySem.W PyProof.Rows
namespace Mine
namespace hd
noncomputable abbrev H := kHook Mine.K (nat_lit 2 :: nat_lit 3 :: nat_lit 15 :: nat_lit 17 :: nat_lit 18 :: nat_lit 20 :: nat_lit 21 :: nat_lit 22 :: nat_lit 25 :: nat_lit 48 :: nat_lit 47 :: nat_lit 61 :: nat_lit 60 :: nat_lit 73 :: nat_lit 72 :: nat_lit 37 :: nat_lit 38 :: nat_lit 81 :: nat_lit 82 :: nat_lit 88 :: nat_lit 89 :: nat_lit 93 :: nat_lit 94 :: nat_lit 107 :: nat_lit 108 :: nat_lit 121 :: nat_lit 122 :: nat_lit 142 :: nat_lit 143 :: nat_lit 147 :: nat_lit 148 :: nat_lit 152 :: nat_lit 153 :: nat_lit 159 :: nat_lit 160 :: nat_lit 173 :: nat_lit 174 :: nat_lit 176 :: nat_lit 177 :: nat_lit 178 :: nat_lit 179 :: nat_lit 187 :: nat_lit 188 :: nat_lit 189 :: nat_lit 202 :: nat_lit 203 :: nat_lit 212 :: nat_lit 213 :: nat_lit 214 :: nat_lit 215 :: nat_lit 223 :: nat_lit 224 :: nat_lit 230 :: nat_lit 231 :: nat_lit 237 :: nat_lit 238 :: nat_lit 244 :: nat_lit 245 :: nat_lit 251 :: nat_lit 252 :: nat_lit 258 :: nat_lit 259 :: nat_lit 265 :: nat_lit 266 :: nat_lit 272 :: nat_lit 273 :: nat_lit 277 :: nat_lit 278 :: nat_lit 282 :: nat_lit 283 :: nat_lit 284 :: nat_lit 290 :: nat_lit 291 :: nat_lit 297 :: nat_lit 298 :: nat_lit 302 :: nat_lit 303 :: []) (fun _ => by kernel_rfl)
theorem looks3 (w : World) : (fun os => H.obs ⟨heap_355 w.params, Array.mk [], {}, 583, os⟩) = fun _ => H.val w := by kernel_rfl
theorem open_ (w : World) : (fencedOpening treeTable pr w 4488).map (fun s => (s.heap, s.gens, s.drawn, s.toks)) = some (boot_heap w.params, Array.mk [], boot_drawn, boot_toks) := boot_open (by kernel_rfl) (by decide +kernel) (fun s => rfl) w
theorem left : LeftO pr view_39 loose (fun s => xlAt view_39 lv s && recOk (RowW.records PySem.Challenge.rw_pb0184_01.row.toRowW) s) H.obs H.val 4488 true :=
  LeftO.of_pieces open_ size run (by decide +kernel) fun w => by
    have a := looks1 w
    have b := looks2 w
    have c := looks3 w
    funext os
    exact Prod.ext (congrFun a os) (Prod.ext (congrFun b os) (congrFun c os))
end hd
end Mine
end
section
open PySem PySem.W PyProof.Rows
namespace Mine
namespace hd
theorem said_quick : PySem.W.Fast.tw9446332074065402090 PySem.Challenge.rw_pb0184_01 = true := by kernel_rfl
theorem said : PySem.Challenge.rw_pb0184_01.wellSaid = true := (congrFun PySem.W.Fast.te9446332074065402090 _).trans said_quick
theorem promised : PySem.Challenge.rw_pb0184_01.row.toRowW.promised := by w_witness2
theorem top {d : DefRec} {kwd : List (Str × Expr)} (hdef : defOf view_39 PySem.Challenge.rw_pb0184_01.row.name = some (d, kwd)) (hp : PySem.Challenge.rw_pb0184_01.row.prog.theDef PySem.Challenge.rw_pb0184_01.row.name = some (d.params, d.body, d.scope))
    (hk : kwWritten? d.params.kwonlyargs d.params.kw_defaults = some kwd) (call : WalkM view_39 loose (XL view_39 lv) (Hook.says H) PySem.Challenge.rw_pb0184_01.row.toRowW d kwd) : PySem.Challenge.rw_pb0184_01.Holds :=
  holds_law said fun k1 => Mine.holds_clean (r := PySem.Challenge.rw_pb0184_01.row) left (Hook.of H) (Hook.keeps H) (fun s e => xl_of s (Bool.and_eq_true_iff.mp e).1) XL.keeps hdef hp hk (fun s e => recFacts_of (Bool.and_eq_true_iff.mp e).2) (by rfl) k1 (by decide +kernel) ⟨rfl, rfl, rfl, rfl, rfl, by decide +kernel⟩ promised call
end hd
end Mine
end
open PySem PySem.W PySem.Calls PyProof.Rows
local macro_rules | `(tactic| walk_at $s:str) => `(tactic| k_extra $s)
local macro_rules | `(tactic| k_all) => `(tactic| (k_extra "k_all"))
local macro_rules | `(tactic| k_mem) => `(tactic| (k_extra "k_mem"))
local macro_rules | `(tactic| k_ne) => `(tactic| (refine neN ?_; (try dsimp only); k_extra "k_ne"))
local macro_rules | `(tactic| k_lt $h) => `(tactic| (replace $h := allLt_of $h; dsimp only [AllLt] at $h:ident))
section
open Lean Elab Tactic Meta PySem PySem.W PySem.Calls PyProof.Rows
namespace Mine
/-- What a call of a def gives, from any place of the text's own: `dn` frames and `un` units of room at most. -/
noncomputable def Con (w : World) (dn cu : Nat) (news : Led) (fn : Addr) (args : List Value) (post : Value → Led → Prop) : Prop :=
  ∀ {mean : ExcName → Option Value} {mg mb : PySem.Str → Option Value} {dp un : Nat} {gd : Option (List Code)} {cn : PySem.Str} {cs : Scope} {a : Addr} {ccd : Value} {cl : List (PySem.Str × Addr)} {outer : List Env} {A₀ : Around} {base h₀ : Heap} {L : Addr} {m : PySem.Str → Option Value} {s : Shared} {Q E : Value → Shared → Prop},
    Below A₀ base outer h₀ → Fr h₀ L s.heap m → (Mine.K w.params).In h₀ → News h₀ L s.heap news → Top Mine.hd.view_39 (looseW Mine.hd.view_39 [Str.ofString "ShapeError", Str.ofString "VERSIONS"]) mean mg mb h₀ →
    cs.kind = .function → dp + dn < recursionLimit → un + cu < cLine →
    (∀ v h' tk' news', post v news' → Fr h₀ L h' m → News h₀ L h' news' → Q v { s with heap := h', toks := tk' }) →
    wpAny (model PySem.Challenge.rw_pb0184_01.row.prog w) (ktrTop dp un gd cn cs L a ccd cl outer) (call (.ref fn) args) Q E s
theorem Con.use {w : World} {dn cu : Nat} {news : Led} {fn : Addr} {args : List Value} {post : Value → Led → Prop} {mean : ExcName → Option Value} {mg mb : PySem.Str → Option Value} {dp un : Nat} {gd : Option (List Code)} {cn : PySem.Str} {cs : Scope} {a : Addr} {ccd : Value} {cl : List (PySem.Str × Addr)} {outer : List Env} {A₀ : Around} {base h₀ : Heap} {L : Addr} {m : PySem.Str → Option Value} {s : Shared} {Q E : Value → Shared → Prop}
    (C : Con w dn cu news fn args post)
    (B : Below A₀ base outer h₀) (F : Fr h₀ L s.heap m) (X : (Mine.K w.params).In h₀) (N : News h₀ L s.heap news) (T : Top Mine.hd.view_39 (looseW Mine.hd.view_39 [Str.ofString "ShapeError", Str.ofString "VERSIONS"]) mean mg mb h₀)
    (hk : cs.kind = .function) (hd : dp + dn < recursionLimit) (hu : un + cu < cLine)
    (ret : ∀ v h' tk' news', post v news' → Fr h₀ L h' m → News h₀ L h' news' → Q v { s with heap := h', toks := tk' }) :
    wpAny (model PySem.Challenge.rw_pb0184_01.row.prog w) (ktrTop dp un gd cn cs L a ccd cl outer) (call (.ref fn) args) Q E s := C B F X N T hk hd hu ret
/-- what a def gives: the ledger as it was, and an int / octets of which P holds -/
inductive IntPost (news : Led) (P : Int → Prop) (v : Value) (nw : Led) : Prop
  | mk (e1 : nw = news) (n : Int) (t : Tok) (e2 : v = .int n t) (h : P n)
inductive BytesPost (news : Led) (P : Array UInt8 → Prop) (v : Value) (nw : Led) : Prop
  | mk (e1 : nw = news) (b : Array UInt8) (t : Tok) (e2 : v = .bytes b t) (h : P b)
/-- the same, of clean stacks -/
noncomputable def ConN (w : World) (dn cu : Nat) (news : Led) (fn : Addr) (args : List Value) (post : Value → Led → Prop) : Prop :=
  ∀ {mean : ExcName → Option Value} {mg mb : PySem.Str → Option Value} {dp un : Nat} {cn : PySem.Str} {cs : Scope} {a : Addr} {ccd : Value} {cl : List (PySem.Str × Addr)} {outer : List Env} {A₀ : Around} {base h₀ : Heap} {L : Addr} {m : PySem.Str → Option Value} {s : Shared} {Q : Value → Shared → Prop},
    Below A₀ base outer h₀ → Fr h₀ L s.heap m → (Mine.K w.params).In h₀ → News h₀ L s.heap news → Top Mine.hd.view_39 (looseW Mine.hd.view_39 [Str.ofString "ShapeError", Str.ofString "VERSIONS"]) mean mg mb h₀ →
    cs.kind = .function → dp + dn < recursionLimit → un + cu < cLine →
    (∀ v h' tk' news', post v news' → Fr h₀ L h' m → News h₀ L h' news' → Q v { s with heap := h', toks := tk' }) →
    wpN (model PySem.Challenge.rw_pb0184_01.row.prog w) (ktrTop dp un (some []) cn cs L a ccd cl outer) (call (.ref fn) args) Q s
end Mine
end
section
open Lean Elab Tactic Meta PySem PySem.W PySem.Calls PyProof.Rows
namespace Mine
theorem setup : True := by
  k_with_none
  w_top off
  k_with "k_all" => first | assumption | exact Apart.off (by assumption) (by k_mem) (by simp)
  k_with "k_mem" => first | with_reducible assumption | exact List.Mem.head _ | (refine' List.mem_cons_of_mem _ ?_; k_mem)
  k_with "cellc_enter" => (refine' code_defC ?k1 ?k2 ?k3 ?k4 ?k5 ?kA ?kF ?kK ?k6 ?k7 ?k8 ?k9 ?kB ?kD ?_ ?c2 ?c3 ?c4; (case kA => exact rfl); (case kF => exact rfl); (case kK => assumption); (case k1 => k_asm); (case k2 => k_asm); (case k3 => k_asm); (case k4 => k_asm); (case k5 => k_asm); (case k6 => k_is); (case k7 => k_is); (case k8 => ktr_room); (case k9 => exact BindsTo.of_eq rfl); (case kB => exact rfl); (case kD => decide +kernel); (case c2 => exact rfl); (case c3 => exact rfl); (case c4 => exact rfl); k_whole; intro g' L' h' tk' cells' FG' F' N' Y' B' X' T' l1; (try k_lt l1); k_cells Y'; (try simp only [List.cons_append, List.nil_append] at N'); (try dsimp only); (try k_lift B'); (try k_fold))
  k_with "eval ListComp" => (k_here; refine' comp_Jf ?kF ?c1 ?c2 ?c3 ?c4 ?c5 ?c6 ?_; (case kF => k_asm); (case c1 => with_unfolding_all rfl); (case c2 => decide); (case c3 => with_unfolding_all rfl); (case c4 => decide); (case c5 => with_unfolding_all rfl); (case c6 => intro _; with_unfolding_all rfl); k_whole; (try k_fold))
  k_with "exec Assign cons ListComp" => (k_here; refine' comp_Jaf ?kF ?c0 ?c1 ?c2 ?c3 ?c4 ?c5 ?c7 ?c8 ?c6 ?_; (case kF => k_asm); (case c0 => with_unfolding_all rfl); (case c1 => with_unfolding_all rfl); (case c2 => decide); (case c3 => with_unfolding_all rfl); (case c4 => decide); (case c5 => with_unfolding_all rfl); (case c7 => with_unfolding_all rfl); (case c8 => with_unfolding_all rfl); (case c6 => intro _; with_unfolding_all rfl); k_whole; (try k_fold))
  k_with "exec For" => (k_here; refine' for_Jf ?kF ?c1 ?c2 ?_; (case kF => k_asm); (case c1 => intro _; with_unfolding_all rfl); (case c2 => intro _ _; with_unfolding_all rfl); k_whole; (try k_fold))
  k_with "eval Name" => (k_here; k_inBlock; k_dflt (refine' name_compF ?kN ?kc ?km ?kd ?_ ?k1 ?k2 ?k3 ?k4; (case k1 => rfl); (case k2 => rfl); (case k3 => decide); (case k4 => decide); (case kN => k_asm); (case kc => rfl); (case km => k_mem); (case kd => k_asm); k_whole))
  k_with "eval Name" => (k_here; k_inBlock; k_dflt (refine' name_compC ?kN ?kc ?km ?kd ?_ ?k1 ?k2 ?k3; (case k1 => rfl); (case k2 => rfl); (case k3 => decide); (case kN => k_asm); (case kc => rfl); (case km => k_mem); (case kd => k_asm); k_whole))
  k_with "eval Name" => (k_here; k_inBlock; k_dflt (refine' name_comp ?kN ?km ?kn ?kv ?_ ?k1 ?k2 ?k3; (case k1 => rfl); (case k2 => rfl); (case k3 => decide); (case kN => k_asm); (case kn => assumption); (case km => k_mem); (case kv => rfl); k_whole))
  k_with "call type:bytes" => (k_here; k_dflt (refine' KBa.make_K ?kF ?kN ?kh ?kl ?ki ?kr ?kz ?_; (case kF => k_asm); (case kN => k_asm); (case kh => rfl); (case kl => exact News.isList (by k_asm) (by k_mem)); (case ki => assumption); (case kr => assumption); (case kz => omega); k_whole); intro _ _ _ F' N' kbaIn)
  k_with "exec For Name Call cons nil" => (k_here; refine' for_Jf ?kF ?c1 ?c2 ?_; (case kF => k_asm); (case c1 => intro _; with_unfolding_all rfl); (case c2 => intro _ _; with_unfolding_all rfl); k_whole; (try k_fold))
  k_with "exec For Name Name cons nil" => (k_here; refine' for_Jf ?kF ?c1 ?c2 ?_; (case kF => k_asm); (case c1 => intro _; with_unfolding_all rfl); (case c2 => intro _ _; with_unfolding_all rfl); k_whole; (try k_fold))
  k_with "exec For Tuple" => (k_here; refine' for_Jf ?kF ?c1 ?c2 ?_; (case kF => k_asm); (case c1 => intro _; with_unfolding_all rfl); (case c2 => intro _ _; with_unfolding_all rfl); k_whole; (try k_fold))
  k_with "exec For Name" => (k_here; refine' for_Jf ?kF ?c1 ?c2 ?_; (case kF => k_asm); (case c1 => intro _; with_unfolding_all rfl); (case c2 => intro _ _; with_unfolding_all rfl); k_whole; (try k_fold))
  trivial
theorem c_law_long {w : World} {news : Led} {b : Array UInt8} {t : Tok} (hb : b.size ≤ 1000) :
    Con w 1 40 news 298 [.bytes b t] (fun v nw => nw = news ∧ ∃ t, v = .int ((b.size + 3 : Int).fdiv 4 * 4) t) := by
  unfold Con; intro mean mg mb dp un gd cn cs a ccd cl outer A₀ base h₀ L m s Q E B F X₀ N T hk hd hu hret
  revert X₀; k_fill; intro X₀
  refine wpAny_call ?_
  k_dflt cell_enter
  k_steps
  all_goals (refine' hret _ _ _ (news) ?hP ?hF ?hN; (case hF => k_asm); (case hP => exact ⟨rfl, _, rfl⟩); (case hN => first | k_asm | exact News.sub (by k_asm) (by intro _ hp; repeat (first | exact hp | apply List.mem_cons_of_mem))))

theorem c_dirsize {w : World} {news : Led} {n : Int} {t : Tok} (hn : 0 ≤ n) (hn' : n ≤ 4) :
    Con w 1 40 news 224 [.int n t] (fun v nw => nw = news ∧ ∃ t, v = .int (12 + 16 * n) t) := by
  unfold Con; intro mean mg mb dp un gd cn cs a ccd cl outer A₀ base h₀ L m s Q E B F X₀ N T hk hd hu hret
  revert X₀; k_fill; intro X₀
  refine wpAny_call ?_
  k_dflt cell_enter
  k_steps
  all_goals (refine' hret _ _ _ (news) ?hP ?hF ?hN; (case hF => k_asm); (case hP => exact ⟨rfl, _, rfl⟩); (case hN => first | k_asm | exact News.sub (by k_asm) (by intro _ hp; repeat (first | exact hp | apply List.mem_cons_of_mem))))

theorem c_hasadj {w : World} {news : Led} {b : Array UInt8} {t u : Tok} {k : PySem.Str} (hb : b.size < 12) :
    Con w 1 40 news 231 [.str k u, .bytes b t] (fun v nw => nw = news ∧ v = .bool false) := by
  unfold Con; intro mean mg mb dp un gd cn cs a ccd cl outer A₀ base h₀ L m s Q E B F X₀ N T hk hd hu hret
  revert X₀; k_fill; intro X₀
  refine wpAny_call ?_
  k_dflt cell_enter
  k_steps
  all_goals (refine' hret _ _ _ (news) ?hP ?hF ?hN; (case hF => k_asm); (case hP => (first | exact ⟨rfl, rfl⟩ | (refine ⟨rfl, ?_⟩; congr 1; (try simp); omega) | (refine ⟨rfl, ?_⟩; simp_all))); (case hN => first | k_asm | exact News.sub (by k_asm) (by intro _ hp; repeat (first | exact hp | apply List.mem_cons_of_mem))))

theorem c_checkroom {w : World} {news : Led} {b : Array UInt8} {t u v : Tok} {i j : Int} (h0 : 0 ≤ i) (h1 : 0 ≤ j) (hb : i + j ≤ b.size) (hs : b.size ≤ 1000) :
    Con w 1 40 news 82 [.bytes b t, .int i u, .int j v] (fun v nw => nw = news ∧ v = .none) := by
  unfold Con; intro mean mg mb dp un gd cn cs a ccd cl outer A₀ base h₀ L m s Q E B F X₀ N T hk hd hu hret
  revert X₀; k_fill; intro X₀
  refine wpAny_call ?_
  k_dflt cell_enter
  k_steps
  all_goals (refine' hret _ _ _ (news) ?hP ?hF ?hN; (case hF => k_asm); (case hP => exact ⟨rfl, rfl⟩); (case hN => first | k_asm | exact News.sub (by k_asm) (by intro _ hp; repeat (first | exact hp | apply List.mem_cons_of_mem))))

theorem c_number_octets {w : World} {news : Led} {n : Int} {c : Nat} {t u : Tok} (h0 : 0 ≤ n) (hc : 1 ≤ c) (hc' : c ≤ 4) (hz : n.fdiv (2 ^ (8 * (c : Int)).toNat) = 0) :
    Con w 1 40 news 94 [.int n t, .int (c : Int) u] (BytesPost news fun b => b.size ≤ 4) := by
  unfold Con; intro mean mg mb dp un gd cn cs a ccd cl outer A₀ base h₀ L m s Q E B F X₀ N T hk hd hu hret
  revert X₀; k_fill; intro X₀
  refine wpAny_call ?_
  k_dflt (walk_at "cellc_enter")
  k_steps
  k_dflt (refine' iters_range ?hh ?hF ?hN ?hl ?hs ?hn ?_; (case hh => with_unfolding_all rfl); (case hF => k_asm); (case hN => k_asm); (case hl => assumption); (case hs => exact small_down (by omega) (by omega) (by omega) (by omega)); (case hn => exact rsize_down c))
  rintro fp wr St h2 tk2 T2
  dsimp only
  refine ⟨_, _, _, _, _, _, _, _, _, _, _, T2, by size_fits, (fun _ h => nomatch h), fun i acc nw => nw = _ ∧ ∃ ns : List Int, IntsAre acc ns ∧ KBa.In ns ∧ ns.length = acc.length, ⟨rfl, [], .nil, (fun _ h => nomatch h), rfl⟩, ?_, ?_⟩
  · rintro C i v acc nw oC own h3 tk3 E' hi ⟨t, rfl⟩ ⟨rfl, ns, hns, hr, hln⟩ hl hNC hC F3 N3 hap
    refine turn_nil ?_
    have hm := List.mem_append_right news hC
    simp only [List.cons_append] at N3
    (try k_unmd); (try k_fold)
    k_steps
    all_goals (refine' ⟨_, _, _, _, ?hF, ?hN, hap, ?hJ⟩; (case hF => k_asm); (case hN => k_asm); (case hJ => exact ⟨rfl, rfl, _, Ints.snoc hns, In.snoc hr (band_nn (fdiv_pow_nn h0 _) (by decide)).1 (Int.lt_of_le_of_lt (band_nn (fdiv_pow_nn h0 _) (by decide)).2 (by decide)), by simp [hln]⟩))
  · rintro D nD h4 tk4 acc nw F4 N4 hoff hl ⟨rfl, ns, hns, hr, hln⟩
    k_steps
    all_goals (refine' hret _ _ _ (news) ?hP ?hF ?hN; (case hF => k_asm); (case hP => exact ⟨rfl, _, _, rfl, byteArr_le (by omega)⟩); (case hN => first | k_asm | exact News.sub (by k_asm) (by intro _ hp; repeat (first | exact hp | apply List.mem_cons_of_mem))))

theorem r1 : True := by
  k_with "call ref" => (k_here; k_dflt (refine' Con.use (c_checkroom ?p0 ?p1 ?p2 ?p3) ?kB ?kF ?kX ?kN ?kT ?kk ?kd ?ku ?_; (case kB => k_asm); (case kF => k_asm); (case kX => k_in); (case kN => k_asm); (case kT => k_asm); (case kk => first | exact rfl | assumption); (case p0 => omega); (case p1 => omega); (case p2 => omega); (case p3 => omega); (case kd => ktr_room); (case ku => ktr_units); intro v9 h9 tk9 nw9 hp9 F9 N9; obtain ⟨e1, e2⟩ := hp9; subst e1; subst e2; (try dsimp only); (try k_sweep); (try k_fold)))
  trivial
end Mine
end
section
open Lean Elab Tactic Meta PySem PySem.W PySem.Calls PyProof.Rows
namespace Mine
theorem setup3 : True := by
  k_with_none
  w_top off
  k_with "k_all" => first | assumption | exact Apart.off (by assumption) (by k_mem) (by simp)
  k_with "k_mem" => first | with_reducible assumption | exact List.Mem.head _ | (refine' List.mem_cons_of_mem _ ?_; k_mem)
  k_with "cellc_enter" => (refine' code_defC ?k1 ?k2 ?k3 ?k4 ?k5 ?kA ?kF ?kK ?k6 ?k7 ?k8 ?k9 ?kB ?kD ?_ ?c2 ?c3 ?c4; (case kA => exact rfl); (case kF => exact rfl); (case kK => assumption); (case k1 => k_asm); (case k2 => k_asm); (case k3 => k_asm); (case k4 => k_asm); (case k5 => k_asm); (case k6 => k_is); (case k7 => k_is); (case k8 => ktr_room); (case k9 => exact BindsTo.of_eq rfl); (case kB => exact rfl); (case kD => decide +kernel); (case c2 => exact rfl); (case c3 => exact rfl); (case c4 => exact rfl); k_whole; intro g' L' h' tk' cells' FG' F' N' Y' B' X' T' l1; (try k_lt l1); k_cells Y'; (try simp only [List.cons_append, List.nil_append] at N'); (try dsimp only); (try k_lift B'); (try k_fold))
  k_with "eval ListComp" => (k_here; refine' comp_Jf ?kF ?c1 ?c2 ?c3 ?c4 ?c5 ?c6 ?_; (case kF => k_asm); (case c1 => with_unfolding_all rfl); (case c2 => decide); (case c3 => with_unfolding_all rfl); (case c4 => decide); (case c5 => with_unfolding_all rfl); (case c6 => intro _; with_unfolding_all rfl); k_whole; (try k_fold))
  k_with "exec Assign cons ListComp" => (k_here; refine' comp_Jaf ?kF ?c0 ?c1 ?c2 ?c3 ?c4 ?c5 ?c7 ?c8 ?c6 ?_; (case kF => k_asm); (case c0 => with_unfolding_all rfl); (case c1 => with_unfolding_all rfl); (case c2 => decide); (case c3 => with_unfolding_all rfl); (case c4 => decide); (case c5 => with_unfolding_all rfl); (case c7 => with_unfolding_all rfl); (case c8 => with_unfolding_all rfl); (case c6 => intro _; with_unfolding_all rfl); k_whole; (try k_fold))
  k_with "exec For" => (k_here; refine' for_Jf ?kF ?c1 ?c2 ?_; (case kF => k_asm); (case c1 => intro _; with_unfolding_all rfl); (case c2 => intro _ _; with_unfolding_all rfl); k_whole; (try k_fold))
  k_with "eval Name" => (k_here; k_dflt (refine' nameX_L ?F ?v ?_ ?c ?a ?b; (case F => k_asm); (case c => rfl); (case a => rfl); (case b => decide); (case v => assumption); k_whole))
  k_with "eval Name" => (k_here; k_inBlock; k_dflt (refine' name_compF ?kN ?kc ?km ?kd ?_ ?k1 ?k2 ?k3 ?k4; (case k1 => rfl); (case k2 => rfl); (case k3 => decide); (case k4 => decide); (case kN => k_asm); (case kc => rfl); (case km => k_mem); (case kd => k_asm); k_whole))
  k_with "eval Name" => (k_here; k_inBlock; k_dflt (refine' name_compC ?kN ?kc ?km ?kd ?_ ?k1 ?k2 ?k3; (case k1 => rfl); (case k2 => rfl); (case k3 => decide); (case kN => k_asm); (case kc => rfl); (case km => k_mem); (case kd => k_asm); k_whole))
  k_with "eval Name" => (k_here; k_inBlock; k_dflt (refine' name_comp ?kN ?km ?kn ?kv ?_ ?k1 ?k2 ?k3; (case k1 => rfl); (case k2 => rfl); (case k3 => decide); (case kN => k_asm); (case kn => assumption); (case km => k_mem); (case kv => rfl); k_whole))
  k_with "call type:bytes" => (k_here; k_dflt (refine' KBa.make_K ?kF ?kN ?kh ?kl ?ki ?kr ?kz ?_; (case kF => k_asm); (case kN => k_asm); (case kh => rfl); (case kl => exact News.isList (by k_asm) (by k_mem)); (case ki => assumption); (case kr => assumption); (case kz => omega); k_whole); intro _ _ _ F' N' kbaIn)
  k_with "exec For Name Call cons nil" => (k_here; refine' for_Jf ?kF ?c1 ?c2 ?_; (case kF => k_asm); (case c1 => intro _; with_unfolding_all rfl); (case c2 => intro _ _; with_unfolding_all rfl); k_whole; (try k_fold))
  k_with "exec For Name Name cons nil" => (k_here; refine' for_Jf ?kF ?c1 ?c2 ?_; (case kF => k_asm); (case c1 => intro _; with_unfolding_all rfl); (case c2 => intro _ _; with_unfolding_all rfl); k_whole; (try k_fold))
  k_with "exec For Tuple" => (k_here; refine' for_Jf ?kF ?c1 ?c2 ?_; (case kF => k_asm); (case c1 => intro _; with_unfolding_all rfl); (case c2 => intro _ _; with_unfolding_all rfl); k_whole; (try k_fold))
  k_with "exec For Name" => (k_here; refine' for_Jf ?kF ?c1 ?c2 ?_; (case kF => k_asm); (case c1 => intro _; with_unfolding_all rfl); (case c2 => intro _ _; with_unfolding_all rfl); k_whole; (try k_fold))
  trivial
theorem r3 : True := by
  k_with "call ref" => (k_here; k_dflt (refine' Con.use (c_checkroom ?p0 ?p1 ?p2 ?p3) ?kB ?kF ?kX ?kN ?kT ?kk ?kd ?ku ?_; (case kB => k_asm); (case kF => k_asm); (case kX => k_in); (case kN => k_asm); (case kT => k_asm); (case kk => first | exact rfl | assumption); (case p0 => omega); (case p1 => omega); (case p2 => omega); (case p3 => omega); (case kd => ktr_room); (case ku => ktr_units); intro v9 h9 tk9 nw9 hp9 F9 N9; obtain ⟨e1, e2⟩ := hp9; subst nw9; subst v9; (try dsimp only); (try k_sweep); (try k_fold)))
  trivial
theorem c_number_at {w : World} {news : Led} {b : Array UInt8} {t u v : Tok} {i : Int} (h0 : 0 ≤ i) (hb : i + 4 ≤ b.size) (hs : b.size ≤ 1000) :
    Con w 2 80 news 89 [.bytes b t, .int i u, .int 4 v] (IntPost news fun n => 0 ≤ n) := by
  unfold Con; intro mean mg mb dp un gd cn cs a ccd cl outer A₀ base h₀ L m s Q E B F X₀ N T hk hd hu hret
  revert X₀; k_fill; intro X₀
  refine wpAny_call ?_
  obtain ⟨bks, hbi⟩ : ∃ ks, KBw.bInts b = ks := ⟨_, rfl⟩
  have hbl : bks.length = b.size := by rw [← hbi]; exact KBw.ints_length b
  k_dflt cell_enter
  k_steps
  k_dflt (refine' iters_bytes ?hh ?hF ?hN ?_; (case hh => with_unfolding_all rfl); (case hF => k_asm); (case hN => k_asm))
  rintro fp wr St h2 tk2 T2
  dsimp only
  have hsz := picked4 (b := b) h0
  refine ⟨_, _, _, _, _, _, _, _, _, _, T2, fun i m nw => nw = news ∧ ∃ tot t, m (Str.ofString "total") = some (.int tot t) ∧ 0 ≤ tot ∧ tot < 256 ^ i, ⟨rfl, 0, _, rfl, by decide, by decide⟩, ?_, ?_⟩
  · rintro Qx j v m₁ nw own h3 tk3 E' hi ⟨c, uc, hc, rfl⟩ ⟨hnw, tot, tt, hm, ht, ht'⟩ F3 N3 hap
    subst nw
    have hc0 : (0 : Int) ≤ (c.toNat : Int) := by omega
    have hc1 : (c.toNat : Int) < 256 := by have := c.toNat_lt; omega
    generalize (c.toNat : Int) = ci at *
    have hb1 := p256 (Nat.lt_of_lt_of_le hi hsz)
    have hb2 : tot < 16777216 := by omega
    (try k_unmd); (try k_fold)
    k_steps
    all_goals (refine' ⟨_, _, _, _, ?hF, ?hN, hap, ?hJ⟩; (case hF => k_asm); (case hN => k_asm); (case hJ => exact ⟨rfl, _, _, rfl, or_stepJ ht ht' hc0 hc1⟩))
  · rintro h4 tk4 m4 nw F4 N4 ⟨hnw, tot, tt, hm, ht, ht'⟩
    subst nw
    k_steps
    all_goals (refine' hret _ _ _ (news) ?hP ?hF ?hN; (case hF => k_asm); (case hP => exact ⟨rfl, _, _, rfl, ht⟩); (case hN => first | k_asm | exact News.sub (by k_asm) (by intro _ hp; repeat (first | exact hp | apply List.mem_cons_of_mem))))

end Mine
end
section
open Lean Elab Tactic Meta PySem PySem.W PySem.Calls PyProof.Rows
namespace Mine
theorem setup4 : True := by
  k_with_none
  w_top off
  k_with "k_all" => first | assumption | exact Apart.off (by assumption) (by k_mem) (by simp)
  k_with "k_mem" => first | with_reducible assumption | exact List.Mem.head _ | (refine' List.mem_cons_of_mem _ ?_; k_mem)
  k_with "cellc_enter" => (refine' code_defC ?k1 ?k2 ?k3 ?k4 ?k5 ?kA ?kF ?kK ?k6 ?k7 ?k8 ?k9 ?kB ?kD ?_ ?c2 ?c3 ?c4; (case kA => exact rfl); (case kF => exact rfl); (case kK => assumption); (case k1 => k_asm); (case k2 => k_asm); (case k3 => k_asm); (case k4 => k_asm); (case k5 => k_asm); (case k6 => k_is); (case k7 => k_is); (case k8 => ktr_room); (case k9 => exact BindsTo.of_eq rfl); (case kB => exact rfl); (case kD => decide +kernel); (case c2 => exact rfl); (case c3 => exact rfl); (case c4 => exact rfl); k_whole; intro g' L' h' tk' cells' FG' F' N' Y' B' X' T' l1; (try k_lt l1); k_cells Y'; (try simp only [List.cons_append, List.nil_append] at N'); (try dsimp only); (try k_lift B'); (try k_fold))
  k_with "eval ListComp" => (k_here; refine' comp_Jf ?kF ?c1 ?c2 ?c3 ?c4 ?c5 ?c6 ?_; (case kF => k_asm); (case c1 => with_unfolding_all rfl); (case c2 => decide); (case c3 => with_unfolding_all rfl); (case c4 => decide); (case c5 => with_unfolding_all rfl); (case c6 => intro _; with_unfolding_all rfl); k_whole; (try k_fold))
  k_with "exec Assign cons ListComp" => (k_here; refine' comp_Jaf ?kF ?c0 ?c1 ?c2 ?c3 ?c4 ?c5 ?c7 ?c8 ?c6 ?_; (case kF => k_asm); (case c0 => with_unfolding_all rfl); (case c1 => with_unfolding_all rfl); (case c2 => decide); (case c3 => with_unfolding_all rfl); (case c4 => decide); (case c5 => with_unfolding_all rfl); (case c7 => with_unfolding_all rfl); (case c8 => with_unfolding_all rfl); (case c6 => intro _; with_unfolding_all rfl); k_whole; (try k_fold))
  k_with "exec For" => (k_here; refine' for_Jf ?kF ?c1 ?c2 ?_; (case kF => k_asm); (case c1 => intro _; with_unfolding_all rfl); (case c2 => intro _ _; with_unfolding_all rfl); k_whole; (try k_fold))
  k_with "eval Name" => (k_here; k_dflt (refine' nameX_L ?F ?v ?_ ?c ?a ?b; (case F => k_asm); (case c => rfl); (case a => rfl); (case b => decide); (case v => assumption); k_whole))
  k_with "eval Name" => (k_here; k_inBlock; k_dflt (refine' name_compF ?kN ?kc ?km ?kd ?_ ?k1 ?k2 ?k3 ?k4; (case k1 => rfl); (case k2 => rfl); (case k3 => decide); (case k4 => decide); (case kN => k_asm); (case kc => rfl); (case km => k_mem); (case kd => k_asm); k_whole))
  k_with "eval Name" => (k_here; k_inBlock; k_dflt (refine' name_compC ?kN ?kc ?km ?kd ?_ ?k1 ?k2 ?k3; (case k1 => rfl); (case k2 => rfl); (case k3 => decide); (case kN => k_asm); (case kc => rfl); (case km => k_mem); (case kd => k_asm); k_whole))
  k_with "eval Name" => (k_here; k_inBlock; k_dflt (refine' name_comp ?kN ?km ?kn ?kv ?_ ?k1 ?k2 ?k3; (case k1 => rfl); (case k2 => rfl); (case k3 => decide); (case kN => k_asm); (case kn => assumption); (case km => k_mem); (case kv => rfl); k_whole))
  k_with "call type:bytes" => (k_here; k_dflt (refine' call_bytes_n ?h0 ?h1 ?_; (case h0 => first | omega | (refine Int.fmod_nonneg_of_pos _ ?_; omega) | (simp; omega)); (case h1 => omega); k_whole); intro _ _)
  k_with "call type:bytes" => (k_here; k_dflt (refine' KBa.make_K ?kF ?kN ?kh ?kl ?ki ?kr ?kz ?_; (case kF => k_asm); (case kN => k_asm); (case kh => rfl); (case kl => exact News.isList (by k_asm) (by k_mem)); (case ki => assumption); (case kr => assumption); (case kz => omega); k_whole); intro _ _ _ F' N' kbaIn)
  k_with "exec For Name Call cons nil" => (k_here; refine' for_Jf ?kF ?c1 ?c2 ?_; (case kF => k_asm); (case c1 => intro _; with_unfolding_all rfl); (case c2 => intro _ _; with_unfolding_all rfl); k_whole; (try k_fold))
  k_with "exec For Name Name cons nil" => (k_here; refine' for_Jf ?kF ?c1 ?c2 ?_; (case kF => k_asm); (case c1 => intro _; with_unfolding_all rfl); (case c2 => intro _ _; with_unfolding_all rfl); k_whole; (try k_fold))
  k_with "exec For Tuple" => (k_here; refine' for_Jf ?kF ?c1 ?c2 ?_; (case kF => k_asm); (case c1 => intro _; with_unfolding_all rfl); (case c2 => intro _ _; with_unfolding_all rfl); k_whole; (try k_fold))
  k_with "exec For Name" => (k_here; refine' for_Jf ?kF ?c1 ?c2 ?_; (case kF => k_asm); (case c1 => intro _; with_unfolding_all rfl); (case c2 => intro _ _; with_unfolding_all rfl); k_whole; (try k_fold))
  k_with "binaryOp Add bytes bytes" => (k_here; k_dflt (refine' KBy.add_bytes ?hz ?_; (case hz => first | omega | (simp only [Array.size_replicate]; omega)); k_whole); intro _ _)
  k_with "call builtin:len" => (k_here; (with_reducible show wpAny _ _ (call (Value.builtin "len") [Value.bytes _ _]) _ _ _); k_dflt (refine' len_bytes ?z ?_; (case z => first | omega | (simp only [Array.size_append, Array.size_replicate]; omega)); k_whole))
  trivial
noncomputable def fours (b : Array UInt8) : Array UInt8 := b ++ Array.replicate ((-(b.size : Int)).fmod 4).toNat 0
theorem fmod4 (x : Int) : 0 ≤ x.fmod 4 ∧ x.fmod 4 < 4 := ⟨Int.fmod_nonneg_of_pos _ (by decide), Int.fmod_lt_of_pos _ (by decide)⟩
theorem fours_size (b : Array UInt8) : ((fours b).size : Int) = (b.size : Int) + (-(b.size : Int)).fmod 4 := by
  have := fmod4 (-(b.size : Int))
  unfold fours; rw [Array.size_append, Array.size_replicate]; omega
theorem fours_mod (b : Array UInt8) : (fours b).size % 4 = 0 := by
  have h := fours_size b
  rw [Int.fmod_eq_emod_of_nonneg _ (by decide)] at h
  omega
theorem fours_le (b : Array UInt8) : (fours b).size < b.size + 4 := by
  have := fmod4 (-(b.size : Int))
  have h := fours_size b
  omega
theorem c_to_fours {w : World} {news : Led} {b : Array UInt8} {t : Tok} (hb : b.size ≤ 900) :
    Con w 1 40 news 259 [.bytes b t] (fun v nw => nw = news ∧ ∃ t, v = .bytes (fours b) t) := by
  unfold Con; intro mean mg mb dp un gd cn cs a ccd cl outer A₀ base h₀ L m s Q E B F X₀ N T hk hd hu hret
  revert X₀; k_fill; intro X₀
  refine wpAny_call ?_
  obtain ⟨bks, hbi⟩ : ∃ ks, KBw.bInts b = ks := ⟨_, rfl⟩
  have hbl : bks.length = b.size := by rw [← hbi]; exact KBw.ints_length b
  have hf := fmod4 (-(b.size : Int))
  k_dflt cell_enter
  k_steps
  all_goals (refine' hret _ _ _ (news) ?hP ?hF ?hN; (case hF => k_asm); (case hP => exact ⟨rfl, _, rfl⟩); (case hN => first | k_asm | exact News.sub (by k_asm) (by intro _ hp; repeat (first | exact hp | apply List.mem_cons_of_mem))))

theorem c_unadjusted {w : World} {news : Led} {b : Array UInt8} {t u : Tok} {k : PySem.Str} (hb : b.size < 12) :
    Con w 2 80 news 238 [.str k u, .bytes b t] (fun v nw => nw = news ∧ v = .bytes b t) := by
  unfold Con; intro mean mg mb dp un gd cn cs a ccd cl outer A₀ base h₀ L m s Q E B F X₀ N T hk hd hu hret
  revert X₀; k_fill; intro X₀
  refine wpAny_call ?_
  k_with "call ref" => (k_here; k_dflt (refine' Con.use (c_hasadj ?p0) ?kB ?kF ?kX ?kN ?kT ?kk ?kd ?ku ?_; (case kB => k_asm); (case kF => k_asm); (case kX => k_in); (case kN => k_asm); (case kT => k_asm); (case kk => first | exact rfl | assumption); (case p0 => omega); (case kd => ktr_room); (case ku => ktr_units); intro v9 h9 tk9 nw9 hp9 F9 N9; obtain ⟨e1, e2⟩ := hp9; subst nw9; subst v9; (try dsimp only); (try k_sweep); (try k_fold)))
  k_dflt cell_enter
  k_steps
  all_goals (refine' hret _ _ _ (news) ?hP ?hF ?hN; (case hF => k_asm); (case hP => exact ⟨rfl, rfl⟩); (case hN => first | k_asm | exact News.sub (by k_asm) (by intro _ hp; repeat (first | exact hp | apply List.mem_cons_of_mem))))

theorem c_checksum {w : World} {news : Led} {b : Array UInt8} {t : Tok} (hb : b.size ≤ 900) :
    Con w 3 120 news 188 [.bytes b t] (IntPost news fun n => 0 ≤ n ∧ n < 4294967296) := by
  unfold Con; intro mean mg mb dp un gd cn cs a ccd cl outer A₀ base h₀ L m s Q E B F X₀ N T hk hd hu hret
  revert X₀; k_fill; intro X₀
  refine wpAny_call ?_
  k_with "call ref" => (k_here; k_dflt (refine' Con.use (c_number_at ?p0 ?p1 ?p2) ?kB ?kF ?kX ?kN ?kT ?kk ?kd ?ku ?_; (case kB => k_asm); (case kF => k_asm); (case kX => k_in); (case kN => k_asm); (case kT => k_asm); (case kk => first | exact rfl | assumption); (case p0 => omega); (case p1 => omega); (case p2 => omega); (case kd => ktr_room); (case ku => ktr_units); intro v9 h9 tk9 nw9 hp9 F9 N9; obtain ⟨e1, n9, t9, e2, hn9⟩ := hp9; subst nw9; subst v9; (try dsimp only); (try k_sweep); (try k_fold)))
  obtain ⟨bks, hbi⟩ : ∃ ks, KBw.bInts b = ks := ⟨_, rfl⟩
  have hbl : bks.length = b.size := by rw [← hbi]; exact KBw.ints_length b
  have hf := fmod4 (-(b.size : Int))
  k_dflt cell_enter
  k_steps
  have h1 := fours_mod b
  have h2 := fours_le b
  unfold fours at h1 h2
  generalize (b ++ Array.replicate ((-(b.size : Int)).fmod 4).toNat 0) = f at *
  k_dflt (refine' iters_range ?hh ?hF ?hN ?hl ?hs ?hn ?_; (case hh => with_unfolding_all rfl); (case hF => k_asm); (case hN => k_asm); (case hl => assumption); (case hs => exact small_four h1 (by omega)); (case hn => exact rsize_four h1))
  rintro fp wr St h3 tk3 T2
  dsimp only
  refine ⟨_, _, _, _, _, _, _, _, _, _, T2, fun i m nw => nw = news ∧ ∃ tot t tf, m (Str.ofString "total") = some (.int tot t) ∧ m (Str.ofString "filled") = some (.bytes f tf) ∧ 0 ≤ tot, ⟨rfl, 0, _, _, rfl, rfl, by decide⟩, ?_, ?_⟩
  · rintro Qx j v m₁ nw own h4 tk4 E' hi ⟨uc, rfl⟩ ⟨hnw, tot, tt, tf, hm, hf', ht⟩ F3 N3 hap
    subst nw
    have hj : 0 + (j : Int) * 4 + 4 ≤ (f.size : Int) := by omega
    have hj0 : 0 ≤ 0 + (j : Int) * 4 := by omega
    generalize 0 + (j : Int) * 4 = at4 at *
    (try k_unmd); (try k_fold)
    k_steps
    all_goals (refine' ⟨_, _, _, _, ?hF, ?hN, hap, ?hJ⟩; (case hF => k_asm); (case hN => k_asm); (case hJ => exact ⟨rfl, _, _, _, rfl, hf', by omega⟩))
  · rintro h4 tk4 m4 nw F4 N4 ⟨hnw, tot, tt, tf, hm, hf', ht⟩
    subst nw
    k_steps
    all_goals (refine' hret _ _ _ (news) ?hP ?hF ?hN; (case hF => k_asm); (case hP => exact ⟨rfl, _, _, rfl, (band_nn ht (by decide)).1, Int.lt_of_le_of_lt (band_nn ht (by decide)).2 (by decide)⟩); (case hN => first | k_asm | exact News.sub (by k_asm) (by intro _ hp; repeat (first | exact hp | apply List.mem_cons_of_mem))))

end Mine
end
section
open Lean Elab Tactic Meta PySem PySem.W PySem.Calls PyProof.Rows
namespace Mine
theorem setup5 : True := by
  k_with_none
  w_top off
  k_with "k_all" => first | assumption | exact Apart.off (by assumption) (by k_mem) (by simp)
  k_with "k_mem" => first | with_reducible assumption | exact List.Mem.head _ | (refine' List.mem_cons_of_mem _ ?_; k_mem)
  k_with "cellc_enter" => (refine' code_defC ?k1 ?k2 ?k3 ?k4 ?k5 ?kA ?kF ?kK ?k6 ?k7 ?k8 ?k9 ?kB ?kD ?_ ?c2 ?c3 ?c4; (case kA => exact rfl); (case kF => exact rfl); (case kK => assumption); (case k1 => k_asm); (case k2 => k_asm); (case k3 => k_asm); (case k4 => k_asm); (case k5 => k_asm); (case k6 => k_is); (case k7 => k_is); (case k8 => ktr_room); (case k9 => exact BindsTo.of_eq rfl); (case kB => exact rfl); (case kD => decide +kernel); (case c2 => exact rfl); (case c3 => exact rfl); (case c4 => exact rfl); k_whole; intro g' L' h' tk' cells' FG' F' N' Y' B' X' T' l1; (try k_lt l1); k_cells Y'; (try simp only [List.cons_append, List.nil_append] at N'); (try dsimp only); (try k_lift B'); (try k_fold))
  k_with "eval ListComp" => (k_here; refine' comp_Jf ?kF ?c1 ?c2 ?c3 ?c4 ?c5 ?c6 ?_; (case kF => k_asm); (case c1 => with_unfolding_all rfl); (case c2 => decide); (case c3 => with_unfolding_all rfl); (case c4 => decide); (case c5 => with_unfolding_all rfl); (case c6 => intro _; with_unfolding_all rfl); k_whole; (try k_fold))
  k_with "exec Assign cons ListComp" => (k_here; refine' comp_Jaf ?kF ?c0 ?c1 ?c2 ?c3 ?c4 ?c5 ?c7 ?c8 ?c6 ?_; (case kF => k_asm); (case c0 => with_unfolding_all rfl); (case c1 => with_unfolding_all rfl); (case c2 => decide); (case c3 => with_unfolding_all rfl); (case c4 => decide); (case c5 => with_unfolding_all rfl); (case c7 => with_unfolding_all rfl); (case c8 => with_unfolding_all rfl); (case c6 => intro _; with_unfolding_all rfl); k_whole; (try k_fold))
  k_with "exec For" => (k_here; refine' for_Jf ?kF ?c1 ?c2 ?_; (case kF => k_asm); (case c1 => intro _; with_unfolding_all rfl); (case c2 => intro _ _; with_unfolding_all rfl); k_whole; (try k_fold))
  k_with "eval Name" => (k_here; k_dflt (refine' nameX_L ?F ?v ?_ ?c ?a ?b; (case F => k_asm); (case c => rfl); (case a => rfl); (case b => decide); (case v => assumption); k_whole))
  k_with "eval Name" => (k_here; k_inBlock; k_dflt (refine' name_compF ?kN ?kc ?km ?kd ?_ ?k1 ?k2 ?k3 ?k4; (case k1 => rfl); (case k2 => rfl); (case k3 => decide); (case k4 => decide); (case kN => k_asm); (case kc => rfl); (case km => k_mem); (case kd => k_asm); k_whole))
  k_with "eval Name" => (k_here; k_inBlock; k_dflt (refine' name_compC ?kN ?kc ?km ?kd ?_ ?k1 ?k2 ?k3; (case k1 => rfl); (case k2 => rfl); (case k3 => decide); (case kN => k_asm); (case kc => rfl); (case km => k_mem); (case kd => k_asm); k_whole))
  k_with "eval Name" => (k_here; k_inBlock; k_dflt (refine' name_comp ?kN ?km ?kn ?kv ?_ ?k1 ?k2 ?k3; (case k1 => rfl); (case k2 => rfl); (case k3 => decide); (case kN => k_asm); (case kn => assumption); (case km => k_mem); (case kv => rfl); k_whole))
  k_with "call type:bytes" => (k_here; k_dflt (refine' call_bytes_n ?h0 ?h1 ?_; (case h0 => first | omega | (refine Int.fmod_nonneg_of_pos _ ?_; omega) | (simp; omega)); (case h1 => omega); k_whole); intro _ _)
  k_with "call type:bytes" => (k_here; k_dflt (refine' KBa.make_K ?kF ?kN ?kh ?kl ?ki ?kr ?kz ?_; (case kF => k_asm); (case kN => k_asm); (case kh => rfl); (case kl => exact News.isList (by k_asm) (by k_mem)); (case ki => assumption); (case kr => assumption); (case kz => omega); k_whole); intro _ _ _ F' N' kbaIn)
  k_with "exec For Name Call cons nil" => (k_here; refine' for_Jf ?kF ?c1 ?c2 ?_; (case kF => k_asm); (case c1 => intro _; with_unfolding_all rfl); (case c2 => intro _ _; with_unfolding_all rfl); k_whole; (try k_fold))
  k_with "exec For Name Name cons nil" => (k_here; refine' for_Jf ?kF ?c1 ?c2 ?_; (case kF => k_asm); (case c1 => intro _; with_unfolding_all rfl); (case c2 => intro _ _; with_unfolding_all rfl); k_whole; (try k_fold))
  k_with "exec For Tuple" => (k_here; refine' for_Jf ?kF ?c1 ?c2 ?_; (case kF => k_asm); (case c1 => intro _; with_unfolding_all rfl); (case c2 => intro _ _; with_unfolding_all rfl); k_whole; (try k_fold))
  k_with "exec For Name" => (k_here; refine' for_Jf ?kF ?c1 ?c2 ?_; (case kF => k_asm); (case c1 => intro _; with_unfolding_all rfl); (case c2 => intro _ _; with_unfolding_all rfl); k_whole; (try k_fold))
  k_with "binaryOp Add bytes bytes" => (k_here; k_dflt (refine' KBy.add_bytes ?hz ?_; (case hz => first | omega | (simp only [Array.size_replicate]; omega)); k_whole); intro _ _)
  k_with "call builtin:len" => (k_here; (with_reducible show wpAny _ _ (call (Value.builtin "len") [Value.bytes _ _]) _ _ _); k_dflt (refine' len_bytes ?z ?_; (case z => first | omega | (simp only [Array.size_append, Array.size_replicate]; omega)); k_whole))
  trivial
theorem c_table_sum {w : World} {news : Led} {b : Array UInt8} {t u : Tok} {k : PySem.Str} (hb : b.size < 12) :
    Con w 4 200 news 245 [.str k u, .bytes b t] (IntPost news fun n => 0 ≤ n ∧ n < 4294967296) := by
  unfold Con; intro mean mg mb dp un gd cn cs a ccd cl outer A₀ base h₀ L m s Q E B F X₀ N T hk hd hu hret
  revert X₀; k_fill; intro X₀
  refine wpAny_call ?_
  k_with "call ref" => (k_here; k_dflt (refine' Con.use (c_unadjusted ?p0) ?kB ?kF ?kX ?kN ?kT ?kk ?kd ?ku ?_; (case kB => k_asm); (case kF => k_asm); (case kX => k_in); (case kN => k_asm); (case kT => k_asm); (case kk => first | exact rfl | assumption); (case p0 => omega); (case kd => ktr_room); (case ku => ktr_units); intro v9 h9 tk9 nw9 hp9 F9 N9; obtain ⟨e1, e2⟩ := hp9; subst nw9; subst v9; (try dsimp only); (try k_sweep); (try k_fold)))
  k_with "call ref" => (k_here; k_dflt (refine' Con.use (c_checksum ?p0) ?kB ?kF ?kX ?kN ?kT ?kk ?kd ?ku ?_; (case kB => k_asm); (case kF => k_asm); (case kX => k_in); (case kN => k_asm); (case kT => k_asm); (case kk => first | exact rfl | assumption); (case p0 => omega); (case kd => ktr_room); (case ku => ktr_units); intro v9 h9 tk9 nw9 hp9 F9 N9; obtain ⟨e1, n9, t9, e2, hn9, hn9'⟩ := hp9; subst nw9; subst v9; (try dsimp only); (try k_sweep); (try k_fold)))
  k_dflt cell_enter
  k_steps
  all_goals (refine' hret _ _ _ (news) ?hP ?hF ?hN; (case hF => k_asm); (case hP => exact ⟨rfl, _, _, rfl, by assumption, by assumption⟩); (case hN => first | k_asm | exact News.sub (by k_asm) (by intro _ hp; repeat (first | exact hp | apply List.mem_cons_of_mem))))

inductive SearchPost (news : Led) (v : Value) (nw : Led) : Prop
  | mk (T : Addr) (a b d : Int) (ta tb td : Tok) (e1 : v = .ref T) (e2 : nw = (T, { cls := .type "tuple", data := .seq #[.int a ta, .int b tb, .int d td] }) :: news) (h1 : 0 ≤ a ∧ a ≤ 64) (h2 : 0 ≤ b ∧ b ≤ 64) (h3 : 0 ≤ d ∧ d ≤ 64) (h4 : ∀ p ∈ news, p.1 < T)
theorem search_small {c : Nat} {k : Int} (hc : c = 1 ∨ c = 2 ∨ c = 3 ∨ c = 4) (h0 : 0 ≤ k) (hj : ∀ j : Int, 0 ≤ j → j < k → decide (2 * accUp (fun _ => HMul.hMul 2) 0 1 j ≤ (c : Int)) = true) :
    (0 ≤ 16 * accUp (fun _ => HMul.hMul (2 : Int)) 0 1 k ∧ 16 * accUp (fun _ => HMul.hMul (2 : Int)) 0 1 k ≤ 64) ∧ (0 ≤ k ∧ k ≤ 64) ∧ (0 ≤ 16 * ((c : Int) - accUp (fun _ => HMul.hMul 2) 0 1 k) ∧ 16 * ((c : Int) - accUp (fun _ => HMul.hMul 2) 0 1 k) ≤ 64) := by
  have e0 : accUp (fun _ => HMul.hMul (2 : Int)) 0 1 0 = 1 := rfl
  have e1 : accUp (fun _ => HMul.hMul (2 : Int)) 0 1 1 = 2 := rfl
  have e2 : accUp (fun _ => HMul.hMul (2 : Int)) 0 1 2 = 4 := rfl
  have g0 := fun h => of_decide_eq_true (hj 0 (Int.le_refl 0) h)
  have g1 := fun h => of_decide_eq_true (hj 1 (by decide) h)
  have g2 := fun h => of_decide_eq_true (hj 2 (by decide) h)
  rw [e0] at g0; rw [e1] at g1; rw [e2] at g2
  have : k = 0 ∨ k = 1 ∨ k = 2 := by omega
  rcases this with rfl | rfl | rfl
  · rw [e0]; omega
  · rw [e1]; omega
  · rw [e2]; omega
theorem c_search {w : World} {news : Led} {c : Nat} {t : Tok} (hc : c = 1 ∨ c = 2 ∨ c = 3 ∨ c = 4) :
    Con w 1 40 news 252 [.int (c : Int) t] (SearchPost news) := by
  unfold Con; intro mean mg mb dp un gd cn cs a ccd cl outer A₀ base h₀ L m s Q E B F X₀ N T hk hd hu hret
  revert X₀; k_fill; intro X₀
  refine wpAny_call ?_
  k_dflt cell_enter
  k_steps
  have hS := search_small hc (by assumption) (by assumption)
  refine' hret _ _ _ _ ?hP ?hF ?hN; (case hF => k_asm); (case hN => exact News.drop2 (by k_asm)); (case hP => exact ⟨_, _, _, _, _, _, _, rfl, rfl, hS.1, hS.2.1, hS.2.2, fun p hp => Nat.lt_trans ((by assumption : ∀ p ∈ news, p.1 < _) p hp) (by first | assumption | exact And.left (by assumption))⟩)
end Mine
end
section
open PySem PySem.W PySem.Calls PyProof.Rows PySem.Spec PyProof.V
namespace Mine
theorem ba_attrs : PlainAttrs "bytearray" :=
  ⟨⟨"bytearray.__getattribute__", by rw [typeLookup_type, builtinLookup_eq_fast]; kernel_rfl, by decide +kernel⟩, by rw [typeLookup_type, builtinLookup_eq_fast]; kernel_rfl⟩
theorem ba_type_extend : typeOf (.builtin "bytearray.extend") = pure (.type "method_descriptor") := by show builtinType _ = _; rw [builtinType_eq_fast]; kernel_rfl
section
variable {prog : Program} {w : World} {A : Around} {E : Value → Shared → Prop} {s : Shared} {h₀ : Heap} {L : Addr} {m : Str → Option Value} {rest : Led}
theorem ba_method {a : Addr} {b : Array UInt8} {pl : Sem Bool} {Q : Value × List Value → Shared → Prop} (N : News h₀ L s.heap rest) (hm : (a, baOf b) ∈ rest) (h : Q (.builtin "bytearray.extend", [.ref a]) s) :
    wpAny (model prog w) A (getMethod (.ref a) "extend" pl) Q E s :=
  getMethod_builtin ⟨_, (N _ hm).1, rfl⟩ ba_attrs ba_slot_extend ba_type_extend (fun a' e => by cases e; exact ⟨_, (N _ hm).1, rfl⟩) h
/-- the bytearray at the ledger's head grows -/
theorem N_grow {a : Addr} {b c : Array UInt8} {t : Tok} {Q : Value → Shared → Prop} (hg : A.guards = some []) (F : Fr h₀ L s.heap m) (N : News h₀ L s.heap ((a, baOf b) :: rest)) (hr : ∀ p ∈ rest, p.1 ≠ a) (hz : b.size + c.size ≤ 16777216)
    (h : ∀ h', Fr h₀ L h' m → News h₀ L h' ((a, baOf (b ++ c)) :: rest) → Q .none { s with heap := h' }) : wpN (model prog w) A (call (.builtin "bytearray.extend") [.ref a, .bytes c t] []) Q s := by
  have z := N _ (.head _)
  exact N_call (N_extend hg z.1 hz fun h' hs ho => h h' (F.change hs z.2.1 z.2.2) (N.setHead hr hs ho))
end

section
variable {M : Model} {A : Around} {s : Shared} {env : Env}
theorem N_with_builtin {pos : Pos} {id : String} {first : List Value} {e : Expr} {rest : List Expr} {Q : Value → Shared → Prop}
    (h : wpAny M A (spliced (backTo pos (starEach (e :: rest) env))) (fun vs s₁ => wpN M A (call (.builtin id) (first ++ vs) []) Q s₁) NoE s)
    (he : backTo pos (starEach (e :: rest) env) = (false, eval e env) :: backTo pos (starEach rest env))
    (hplain : (backTo pos (starEach rest env)).any (·.1) = false) :
    wpN M A (callWith pos (.builtin id) first (backTo pos (starEach (e :: rest) env)) []) Q s := by
  rw [he] at h ⊢
  exact N_callWith_builtin (by simpa using hplain) (evalArgs_plain h)
theorem N_with_function {pos : Pos} {a : Addr} {o : Obj} {fd : FuncData} {first : List Value} {e : Expr} {rest : List Expr} {Q : Value → Shared → Prop}
    (h : wpAny M A (spliced (backTo pos (starEach (e :: rest) env))) (fun vs s₁ => (s₁.heap.get? a = some o ∧ o.data = .func fd) ∧ wpN M A (call (.ref a) (first ++ vs) []) Q s₁) NoE s)
    (he : backTo pos (starEach (e :: rest) env) = (false, eval e env) :: backTo pos (starEach rest env)) :
    wpN M A (callWith pos (.ref a) first (backTo pos (starEach (e :: rest) env)) []) Q s := by
  rw [he] at h ⊢
  exact N_callWith_function (N_any (evalArgs_plain h))
end
end Mine
end
section
open Lean Elab Tactic Meta PySem PySem.W PySem.Calls PyProof.Rows
namespace Mine
theorem setup6 : True := by
  k_with_none
  w_top off
  k_with "k_all" => first | assumption | exact Apart.off (by assumption) (by k_mem) (by simp)
  k_with "k_mem" => first | with_reducible assumption | exact List.Mem.head _ | (refine' List.mem_cons_of_mem _ ?_; k_mem)
  k_with "cellc_enter" => (refine' code_defC ?k1 ?k2 ?k3 ?k4 ?k5 ?kA ?kF ?kK ?k6 ?k7 ?k8 ?k9 ?kB ?kD ?_ ?c2 ?c3 ?c4; (case kA => exact rfl); (case kF => exact rfl); (case kK => assumption); (case k1 => k_asm); (case k2 => k_asm); (case k3 => k_asm); (case k4 => k_asm); (case k5 => k_asm); (case k6 => k_is); (case k7 => k_is); (case k8 => ktr_room); (case k9 => exact BindsTo.of_eq rfl); (case kB => exact rfl); (case kD => decide +kernel); (case c2 => exact rfl); (case c3 => exact rfl); (case c4 => exact rfl); k_whole; intro g' L' h' tk' cells' FG' F' N' Y' B' X' T' l1; (try k_lt l1); k_cells Y'; (try simp only [List.cons_append, List.nil_append] at N'); (try dsimp only); (try k_lift B'); (try k_fold))
  k_with "eval ListComp" => (k_here; refine' comp_Jf ?kF ?c1 ?c2 ?c3 ?c4 ?c5 ?c6 ?_; (case kF => k_asm); (case c1 => with_unfolding_all rfl); (case c2 => decide); (case c3 => with_unfolding_all rfl); (case c4 => decide); (case c5 => with_unfolding_all rfl); (case c6 => intro _; with_unfolding_all rfl); k_whole; (try k_fold))
  k_with "exec Assign cons ListComp" => (k_here; refine' comp_Jaf ?kF ?c0 ?c1 ?c2 ?c3 ?c4 ?c5 ?c7 ?c8 ?c6 ?_; (case kF => k_asm); (case c0 => with_unfolding_all rfl); (case c1 => with_unfolding_all rfl); (case c2 => decide); (case c3 => with_unfolding_all rfl); (case c4 => decide); (case c5 => with_unfolding_all rfl); (case c7 => with_unfolding_all rfl); (case c8 => with_unfolding_all rfl); (case c6 => intro _; with_unfolding_all rfl); k_whole; (try k_fold))
  k_with "exec For" => (k_here; refine' for_Jf ?kF ?c1 ?c2 ?_; (case kF => k_asm); (case c1 => intro _; with_unfolding_all rfl); (case c2 => intro _ _; with_unfolding_all rfl); k_whole; (try k_fold))
  k_with "eval Name" => (k_here; k_dflt (refine' nameX_L ?F ?v ?_ ?c ?a ?b; (case F => k_asm); (case c => rfl); (case a => rfl); (case b => decide); (case v => assumption); k_whole))
  k_with "eval Name" => (k_here; k_inBlock; k_dflt (refine' name_compF ?kN ?kc ?km ?kd ?_ ?k1 ?k2 ?k3 ?k4; (case k1 => rfl); (case k2 => rfl); (case k3 => decide); (case k4 => decide); (case kN => k_asm); (case kc => rfl); (case km => k_mem); (case kd => k_asm); k_whole))
  k_with "eval Name" => (k_here; k_inBlock; k_dflt (refine' name_compC ?kN ?kc ?km ?kd ?_ ?k1 ?k2 ?k3; (case k1 => rfl); (case k2 => rfl); (case k3 => decide); (case kN => k_asm); (case kc => rfl); (case km => k_mem); (case kd => k_asm); k_whole))
  k_with "eval Name" => (k_here; k_inBlock; k_dflt (refine' name_comp ?kN ?km ?kn ?kv ?_ ?k1 ?k2 ?k3; (case k1 => rfl); (case k2 => rfl); (case k3 => decide); (case kN => k_asm); (case kn => assumption); (case km => k_mem); (case kv => rfl); k_whole))
  k_with "call type:bytes" => (k_here; k_dflt (refine' call_bytes_ba ?ho ?hz ?_; (case ho => exact ((by k_asm : News _ _ _ _) _ (by k_mem)).1); (case hz => omega); k_whole); intro _ _)
  k_with "call type:bytes" => (k_here; k_dflt (refine' call_bytes_n ?h0 ?h1 ?_; (case h0 => first | omega | (refine Int.fmod_nonneg_of_pos _ ?_; omega) | (simp; omega)); (case h1 => omega); k_whole); intro _ _)
  k_with "call type:bytes" => (k_here; k_dflt (refine' KBa.make_K ?kF ?kN ?kh ?kl ?ki ?kr ?kz ?_; (case kF => k_asm); (case kN => k_asm); (case kh => rfl); (case kl => exact News.isList (by k_asm) (by k_mem)); (case ki => assumption); (case kr => assumption); (case kz => omega); k_whole); intro _ _ _ F' N' kbaIn)
  k_with "exec For Name Call cons nil" => (k_here; refine' for_Jf ?kF ?c1 ?c2 ?_; (case kF => k_asm); (case c1 => intro _; with_unfolding_all rfl); (case c2 => intro _ _; with_unfolding_all rfl); k_whole; (try k_fold))
  k_with "exec For Name Name cons nil" => (k_here; refine' for_Jf ?kF ?c1 ?c2 ?_; (case kF => k_asm); (case c1 => intro _; with_unfolding_all rfl); (case c2 => intro _ _; with_unfolding_all rfl); k_whole; (try k_fold))
  k_with "exec For Tuple" => (k_here; refine' for_Jf ?kF ?c1 ?c2 ?_; (case kF => k_asm); (case c1 => intro _; with_unfolding_all rfl); (case c2 => intro _ _; with_unfolding_all rfl); k_whole; (try k_fold))
  k_with "exec For Name" => (k_here; refine' for_Jf ?kF ?c1 ?c2 ?_; (case kF => k_asm); (case c1 => intro _; with_unfolding_all rfl); (case c2 => intro _ _; with_unfolding_all rfl); k_whole; (try k_fold))
  k_with "binaryOp Add bytes bytes" => (k_here; k_dflt (refine' KBy.add_bytes ?hz ?_; (case hz => first | omega | (simp only [Array.size_replicate]; omega)); k_whole); intro _ _)
  k_with "call builtin:len" => (k_here; (with_reducible show wpAny _ _ (call (Value.builtin "len") [Value.ref _]) _ _ _); k_dflt (refine' len_news ?N ?m ?z ?_; (case N => k_asm); (case m => k_mem); (case z => omega); k_whole))
  k_with "call builtin:len" => (k_here; (with_reducible show wpAny _ _ (call (Value.builtin "len") [Value.ref _]) _ _ _); k_dflt (refine' kda_len (knd := PySem.strKind _ _) ?N ?m ?d ?lo ?z ?_; (case N => k_asm); (case m => k_mem); (case d => assumption); (case lo => assumption); (case z => omega); k_whole))
  k_with "call builtin:len" => (k_here; k_dflt (refine' len_str ?z ?_; (case z => omega); k_whole))
  k_with "call builtin:len" => (k_here; (with_reducible show wpAny _ _ (call (Value.builtin "len") [Value.bytes _ _]) _ _ _); k_dflt (refine' len_bytes ?z ?_; (case z => first | omega | (simp only [Array.size_append, Array.size_replicate]; omega)); k_whole))
  k_with "celln_enter" => (refine' codeN_defC ?k1 ?k2 ?k3 ?k4 ?k5 ?kA ?kF ?kK ?k6 ?k7 ?k8 ?k9 ?kB ?kD ?_ ?c2 ?c3 ?c4; (case kA => exact rfl); (case kF => exact rfl); (case kK => assumption); (case k1 => k_asm); (case k2 => k_asm); (case k3 => k_asm); (case k4 => k_asm); (case k5 => k_asm); (case k6 => k_is); (case k7 => k_is); (case k8 => ktr_room); (case k9 => exact BindsTo.of_eq rfl); (case kB => exact rfl); (case kD => decide +kernel); (case c2 => exact rfl); (case c3 => exact rfl); (case c4 => exact rfl); k_whole; intro g' L' h' tk' cells' FG' F' N' Y' B' X' T' l1; (try k_lt l1); (first | k_cells Y' | (cases Y')); (try simp only [List.cons_append, List.nil_append] at N'); (try dsimp only); (try k_lift B'); (try k_fold))
  k_with "getMethod ref" => (k_here; (with_reducible show wpAny _ _ (getMethod (Value.ref _) (PySem.Str.ofString "extend") _) _ _ _); k_dflt (refine' ba_method ?kN ?km ?_; (case kN => k_asm); (case km => k_mem); k_whole))
  k_with "getMethod bytes" => (k_here; k_dflt (refine' by_method ?_; k_whole))
  k_with "call builtin:bytes.join" => (k_here; k_dflt (refine' by_join ?hl ?hv ?hz ?_; (case hl => exact News.isList (by k_asm) (by k_mem)); (case hv => assumption); (case hz => omega); k_whole); intro _ _)
  k_with "call builtin:ord" => (k_here; k_dflt (refine' ord_of_char ?_; k_whole))
  k_with "compareOp NotIn" => (k_here; k_dflt (refine' notin_K ?kF ?kX ?kK ?ki ?_; (case kF => k_asm); (case kX => k_asm); (case kK => k_is); (case ki => exact IntsAre.cons _ _ (IntsAre.cons _ _ (IntsAre.cons _ _ IntsAre.nil))); k_whole))
  k_with "compareOp NotIn int ref" => (k_here; k_dflt (refine' notin_K ?kF ?kX ?kK ?ki ?_; (case kF => k_asm); (case kX => k_asm); (case kK => k_is); (case ki => exact IntsAre.cons _ _ (IntsAre.cons _ _ (IntsAre.cons _ _ IntsAre.nil))); k_whole))
  k_with "call builtin:min" => (k_here; k_dflt (refine' min_letter ?hh ?hF ?hN ?hz ?_; (case hh => with_unfolding_all rfl); (case hF => k_asm); (case hN => k_asm); (case hz => omega); k_whole); intro _ c9 _ _ _ hc9 F9 N9; (try k_sweep); (try k_fold))
  k_with "call builtin:max" => (k_here; k_dflt (refine' max_letter ?hh ?hF ?hN ?hz ?_; (case hh => with_unfolding_all rfl); (case hF => k_asm); (case hN => k_asm); (case hz => omega); k_whole); intro _ d9 _ _ _ hd9 F9 N9; (try k_sweep); (try k_fold))
  trivial
inductive AddPost (a : Addr) (b : Array UInt8) (rest : Led) (k : Nat) (v : Value) (nw : Led) : Prop
  | mk (e1 : v = .none) (c : Array UInt8) (h : c.size ≤ k) (e2 : nw = (a, baOf (b ++ c)) :: rest)
theorem n_u32 {w : World} {rest : Led} {a x dx : Addr} {b : Array UInt8} {n : Int} {t u : Tok} (hr : ∀ p ∈ rest, p.1 ≠ a) (hx : (x, instObj 177 dx) ∈ rest) (hdx : (dx, dictOf [⟨PyData.keyHash w.params (Str.ofString "made"), .str (Str.ofString "made") t, .ref a⟩] 1) ∈ rest) (h0 : 0 ≤ n) (hz : n.fdiv (2 ^ (8 * (((4 : Nat) : Int))).toNat) = 0) (hb : b.size ≤ 10000) :
    ConN w 3 200 ((a, baOf b) :: rest) 143 [.ref x, .int n u] (AddPost a b rest 4) := by
  unfold ConN; intro mean mg mb dp un cn cs xa ccd cl outer A₀ base h₀ L m s Q B F X₀ N T hk hd hu hret
  revert X₀; k_fill; intro X₀
  refine N_call ?_
  k_dflt (walk_at "celln_enter")
  k_with "call ref" => (k_here; k_dflt (refine' Con.use (c_number_octets (c := 4) ?p0 ?p1 ?p2 ?p3) ?kB ?kF ?kX ?kN ?kT ?kk ?kd ?ku ?_; (case kB => k_asm); (case kF => k_asm); (case kX => k_in); (case kN => k_asm); (case kT => k_asm); (case kk => first | exact rfl | assumption); (case p0 => omega); (case p1 => omega); (case p2 => omega); (case p3 => assumption); (case kd => ktr_room); (case ku => ktr_units); intro v9 h9 tk9 nw9 hp9 F9 N9; obtain ⟨e1, b9, t9, e2, hb9⟩ := hp9; subst nw9; subst v9; (try dsimp only); (try k_sweep); (try k_fold)))
  refine N_execs_cons (N_Expr rfl rfl (N_methodCall ?_ rfl))
  k_steps
  refine N_with_builtin ?_ rfl rfl
  k_steps
  refine N_grow rfl (by k_asm) (by k_asm) hr (by omega) fun h9 F9 N9 => ?_
  refine ⟨rfl, N_execs_nil ?_⟩
  refine leaveK_ F9 N9 fun F8 N8 => ?_
  exact hret _ _ _ _ (⟨rfl, _, hb9, rfl⟩) F8 N8

theorem n_u16 {w : World} {rest : Led} {a x dx : Addr} {b : Array UInt8} {n : Int} {t u : Tok} (hr : ∀ p ∈ rest, p.1 ≠ a) (hx : (x, instObj 177 dx) ∈ rest) (hdx : (dx, dictOf [⟨PyData.keyHash w.params (Str.ofString "made"), .str (Str.ofString "made") t, .ref a⟩] 1) ∈ rest) (h0 : 0 ≤ n) (hz : n.fdiv (2 ^ (8 * (((2 : Nat) : Int))).toNat) = 0) (hb : b.size ≤ 10000) :
    ConN w 3 200 ((a, baOf b) :: rest) 122 [.ref x, .int n u] (AddPost a b rest 4) := by
  unfold ConN; intro mean mg mb dp un cn cs xa ccd cl outer A₀ base h₀ L m s Q B F X₀ N T hk hd hu hret
  revert X₀; k_fill; intro X₀
  refine N_call ?_
  k_dflt (walk_at "celln_enter")
  k_with "call ref" => (k_here; k_dflt (refine' Con.use (c_number_octets (c := 2) ?p0 ?p1 ?p2 ?p3) ?kB ?kF ?kX ?kN ?kT ?kk ?kd ?ku ?_; (case kB => k_asm); (case kF => k_asm); (case kX => k_in); (case kN => k_asm); (case kT => k_asm); (case kk => first | exact rfl | assumption); (case p0 => omega); (case p1 => omega); (case p2 => omega); (case p3 => assumption); (case kd => ktr_room); (case ku => ktr_units); intro v9 h9 tk9 nw9 hp9 F9 N9; obtain ⟨e1, b9, t9, e2, hb9⟩ := hp9; subst nw9; subst v9; (try dsimp only); (try k_sweep); (try k_fold)))
  refine N_execs_cons (N_Expr rfl rfl (N_methodCall ?_ rfl))
  k_steps
  refine N_with_builtin ?_ rfl rfl
  k_steps
  refine N_grow rfl (by k_asm) (by k_asm) hr (by omega) fun h9 F9 N9 => ?_
  refine ⟨rfl, N_execs_nil ?_⟩
  refine leaveK_ F9 N9 fun F8 N8 => ?_
  exact hret _ _ _ _ (⟨rfl, _, hb9, rfl⟩) F8 N8

end Mine
end
section
open PySem PySem.W PySem.Calls PyProof.Rows PySem.Spec PyProof.V
namespace Mine
theorem by_slot_join : Slot "bytes" "join" "bytes.join" :=
  .of (owner := "bytes") (n := "join") (by rw [typeLookup_type, builtinLookup_eq_fast]; kernel_rfl) (by decide +kernel) (by decide +kernel) (by decide +kernel)
    (by first | exact .inl (by decide +kernel) | exact .inr (by decide +kernel)) (by rw [isSubtype_type]; kernel_rfl)
theorem by_entry_join : entryFor table "bytes.join" = some Builtin.«bytes.join» := entryFor_of_tree (by kernel_rfl)
theorem by_args_join (a v : Value) : argsOk "bytes.join" ⟨[a, v], []⟩ := by unfold argsOk; kernel_rfl
theorem by_type_join : typeOf (.builtin "bytes.join") = pure (.type "method_descriptor") := by show builtinType _ = _; rw [builtinType_eq_fast]; kernel_rfl
theorem by_attrs : PlainAttrs "bytes" :=
  ⟨⟨"bytes.__getattribute__", by rw [typeLookup_type, builtinLookup_eq_fast]; kernel_rfl, by decide +kernel⟩, by rw [typeLookup_type, builtinLookup_eq_fast]; kernel_rfl⟩
/-- octets as values -/
inductive BytesAre : List Value → List (Array UInt8) → Prop
  | nil : BytesAre [] []
  | cons (b : Array UInt8) (t : Tok) {vs bs} : BytesAre vs bs → BytesAre (.bytes b t :: vs) (b :: bs)
theorem BytesAre.length {vs bs} (h : BytesAre vs bs) : vs.length = bs.length := by induction h with | nil => rfl | cons _ _ _ ih => simp [ih]
theorem BytesAre.get {vs : List Value} {bs : List (Array UInt8)} (h : BytesAre vs bs) : ∀ {i : Nat} {b : Array UInt8}, bs[i]? = some b → ∃ t, vs[i]? = some (.bytes b t) := by
  induction h with
  | nil => intro i b e; simp at e
  | cons b t _ ih =>
    intro i b' e
    cases i with
    | zero => simp at e; subst e; exact ⟨t, rfl⟩
    | succ i => simpa using ih (by simpa using e)
noncomputable def cat (bs : List (Array UInt8)) : Array UInt8 := bs.foldl (· ++ ·) #[]
theorem forRange {β : Type} {M : Model} {A : Around} {E : Value → Shared → Prop} {s : Shared} {n : Nat} {f : Nat → β → Sem (ForInStep β)} (I : Nat → β → Prop) {Q : β → Shared → Prop}
    (step : ∀ i c, i < n → I i c → wpAny M A (f i c) (fun r s' => s' = s ∧ ∃ c', r = .yield c' ∧ I (i + 1) c') E s) (fin : ∀ c, I n c → Q c s) {c : β} (h : I 0 c) : wpAny M A (forIn [:n] c f) Q E s := by
  rw [Std.Legacy.Range.forIn_eq_forIn_range']
  simp only [Std.Legacy.Range.size, Nat.sub_zero, Nat.add_sub_cancel, Nat.div_one]
  refine wpAny_forIn_list _ (fun rest c s' => s' = s ∧ ∃ i, rest = List.range' i (n - i) ∧ i ≤ n ∧ I i c) _ ?_ ?_ _ _ ⟨rfl, 0, by simp, Nat.zero_le _, h⟩
  · rintro x rest c s' ⟨rfl, i, hr, hi, hI⟩
    have hlt : i < n := by
      rcases Nat.lt_or_ge i n with h | h
      · exact h
      · rw [Nat.sub_eq_zero_of_le h] at hr; simp at hr
    rw [show n - i = (n - (i + 1)) + 1 by omega, List.range'_succ] at hr
    injection hr with h1 h2
    subst h1 h2
    refine wpAny_mono (step _ c hlt hI) (fun r s' hr => ?_) fun _ _ e => e
    obtain ⟨rfl, c', rfl, hI'⟩ := hr
    exact ⟨rfl, _, rfl, hlt, hI'⟩
  · rintro c s' ⟨rfl, i, hr, hi, hI⟩
    have : i = n := by
      rcases Nat.lt_or_ge i n with h | h
      · rw [show n - i = (n - (i + 1)) + 1 by omega, List.range'_succ] at hr; cases hr
      · omega
    subst this
    exact fin c hI
theorem joined_cat : ∀ (bs : List (Array UInt8)) (k : Nat) (acc : Array UInt8), ((bs.zipIdx k).foldl (fun out (x : Array UInt8 × Nat) => (if x.2 > 0 then out ++ #[] else out) ++ x.1) acc) = bs.foldl (· ++ ·) acc
  | [], _, _ => rfl
  | b :: bs, k, acc => by
    rw [List.zipIdx_cons, List.foldl_cons, List.foldl_cons, joined_cat bs]
    congr 1
    dsimp only
    split <;> simp
theorem joined_eq (bs : List (Array UInt8)) : Builtin.Bytes.joined #[] bs = cat bs := joined_cat bs 0 #[]
theorem sizes_cat : ∀ (bs : List (Array UInt8)) (acc : Array UInt8) (n : Nat), n = acc.size → bs.foldl (fun k b => k + b.size) n = (bs.foldl (· ++ ·) acc).size
  | [], _, _, h => h
  | b :: bs, acc, n, h => by rw [List.foldl_cons, List.foldl_cons]; exact sizes_cat bs _ _ (by rw [Array.size_append, h])
section
variable {prog : Program} {w : World} {A : Around} {E : Value → Shared → Prop} {s : Shared}
theorem letGo_taken {Q : Unit → Shared → Prop} {keep : List Value} : ∀ {taken : List (Value × Option Value)}, (∀ x ∈ taken, x.2 = none) → Q () s → wpAny (model prog w) A (Builtin.Bytes.joinLetGo taken keep) Q E s
  | [], _, h => wpAny_pure h
  | (x, wv) :: rest, hn, h => by
    have e : wv = none := hn _ (.head _)
    subst e
    unfold Builtin.Bytes.joinLetGo
    dsimp only
    exact wpAny_bind (wpAny_letGo (letGo_taken (fun y hy => hn y (.tail _ hy)) h))
theorem wp_not_one {M : Model} {F : Value → Sem Fin} {G : Sem Fin} {arr : Array Value} {Q : Fin → Shared → Prop} (h : ∀ x, arr ≠ #[x]) (k : wpAny M A G Q E s) : wpAny M A (match arr with | #[x] => F x | _ => G) Q E s := by
  rcases arr with ⟨l⟩
  cases l with
  | nil => exact k
  | cons a r => cases r with
    | nil => exact absurd rfl (h a)
    | cons => exact k
theorem by_join {l : Addr} {vs : List Value} {bs : List (Array UInt8)} {t : Tok} {Q : Value → Shared → Prop} (hl : s.heap.IsList l vs.toArray) (hv : BytesAre vs bs) (hz : (cat bs).size ≤ 16777216)
    (h : ∀ t' tk, Q (.bytes (cat bs) t') { s with toks := tk }) : wpAny (model prog w) A (call (.builtin "bytes.join") [.bytes #[] t, .ref l]) Q E s := by
  refine wpAny_call_entry by_slot_join (PySem.W.typeIs_bytes _ _ _) by_entry_join ?_ (by_args_join _ _)
  show wpAny _ _ (Builtin.Bytes.joinM .bytes _) _ _ _
  unfold Builtin.Bytes.joinM
  refine wpAny_bind (wpAny_of_eq (a := (Value.bytes #[] t, Value.ref l)) rfl ?_)
  dsimp only
  obtain ⟨ol, hol, hoc, nl, hod⟩ := id hl
  refine bm_if_true rfl ?_
  refine wpAny_bind ?_
  unfold Builtin.Bytes.joinItems
  refine wpAny_bind (wpAny_typeOf hl.typeIs ?_)
  refine bm_if_true (by decide +kernel) ?_
  refine wpAny_pure ?_
  refine wpAny_bind (wpAny_seqItems hol hod ?_)
  dsimp only
  refine bm_if_true rfl ?_
  by_cases hx : ∃ x, vs = [x]
  · obtain ⟨x, rfl⟩ := hx
    cases hv with
    | @cons b tb _ _ hr =>
      cases hr
      refine wpAny_bind (wpAny_typeOf (PySem.W.typeIs_bytes _ _ _) ?_)
      refine bm_if_true (by decide +kernel) ?_
      refine wpAny_bind (wpAny_rule (wpAny_pure ⟨_, rfl, ?_⟩))
      have e : cat [b] = b := by simp [cat]
      have := h tb s.toks
      rwa [e] at this
  · refine wp_not_one (fun x hx' => hx ⟨x, by simpa using congrArg Array.toList hx'⟩) ?_
    refine wpAny_bind (forRange (n := _) (fun i (c : Array (Array UInt8) × List (Value × Option Value)) => c.1.toList = bs.take i ∧ (∀ x ∈ c.2, x.2 = none ∧ x.1.onHeap = false)) ?_ ?_ ⟨by simp, fun _ hx => nomatch hx⟩)
    · rintro i ⟨parts, taken⟩ hi ⟨hp, htk⟩
      have hi' : i < bs.length := by rw [← hv.length]; simpa using hi
      obtain ⟨ti, hx⟩ := hv.get (i := i) (b := bs[i]) (by rw [List.getElem?_eq_getElem hi'])
      have hget : vs.toArray.getD i Value.none = .bytes bs[i] ti := by
        rw [Array.getD_eq_getD_getElem?, List.getElem?_toArray, hx]; rfl
      refine wpAny_bind (wpAny_seqItems hol hod ?_)
      dsimp only
      refine bm_if_false (by rw [show (taken.any fun x => x.1.onHeap) = false from List.any_eq_false.mpr fun x hx => by rw [(htk x hx).2]; exact Bool.false_ne_true]; rfl) ?_
      rw [hget]
      refine wpAny_bind (wpAny_holding (wpAny_of_eq take_eq ?_))
      dsimp only
      refine wpAny_bind (wpAny_seqItems hol hod ?_)
      dsimp only
      refine bm_if_false (by simp) ?_
      refine wpAny_pure ⟨rfl, _, rfl, ?_, ?_⟩
      · show (parts.push bs[i]).toList = _
        rw [Array.toList_push, hp, List.take_add_one, List.getElem?_eq_getElem hi']; rfl
      · intro x hx
        rcases List.mem_append.mp hx with hx | hx
        · exact htk x hx
        · rw [List.mem_singleton.mp hx]; exact ⟨rfl, rfl⟩
    · rintro ⟨parts, taken⟩ ⟨hp, htk⟩
      have hp : parts.toList = bs := by rw [hp, List.take_of_length_le]; rw [← hv.length]; simp
      refine wpAny_bind (wpAny_pure ?_)
      have hsz : parts.foldl (fun k b => k + b.size) 0 = (cat bs).size := by
        rw [← Array.foldl_toList, hp]; exact sizes_cat bs #[] 0 rfl
      refine bm_if_false ?_ ?_
      · show Builtin.Bytes.tooLong (parts.foldl (fun k b => k + b.size) (#[].size * (parts.size - 1))) = false
        rw [show (#[] : Array UInt8).size * (parts.size - 1) = 0 by simp, hsz]
        simp [Builtin.Bytes.tooLong, sizeLine_eq]; omega
      rw [hp, joined_eq]
      show wpAny _ _ (mkBytes (cat bs) >>= _) _ _ _
      unfold mkBytes
      rw [if_neg (by rw [sizeLine_eq]; omega)]
      refine wpAny_bind (wpAny_bind (wpAny_fresh (wpAny_pure ?_)))
      refine wpAny_bind (wpAny_holding (wpAny_point ?_))
      refine wpAny_bind (letGo_taken (fun x hx => (htk x hx).1) ?_)
      exact wpAny_pure ⟨_, rfl, h _ _⟩
end
end Mine
end
section
open PySem PySem.W PySem.Calls PyProof.Rows PySem.Spec PyProof.V
namespace Mine
theorem ba_no_bytes : typeLookup (.type "bytearray") "__bytes__" = pure none := by rw [typeLookup_type, builtinLookup_eq_fast]; kernel_rfl
theorem ba_no_index : typeLookup (.type "bytearray") "__index__" = pure none := by rw [typeLookup_type, builtinLookup_eq_fast]; kernel_rfl
theorem ba_buffer : typeLookup (.type "bytearray") "__buffer__" = pure (some (.builtin "bytearray.__buffer__")) := by rw [typeLookup_type, builtinLookup_eq_fast]; kernel_rfl
section
variable {prog : Program} {w : World} {A : Around} {E : Value → Shared → Prop} {s : Shared}
theorem ba_ownBuffer {a : Addr} {b : Array UInt8} {Q : Bool → Shared → Prop} (ho : s.heap.get? a = some (baOf b)) (h : Q true s) : wpAny (model prog w) A (Builtin.Bytes.slotIsOwn (.ref a) "__buffer__") Q E s := by
  have hT : s.TypeIs (.ref a) "bytearray" := ⟨_, ho, rfl⟩
  unfold Builtin.Bytes.slotIsOwn
  refine wpAny_bind (wpAny_specialOf hT ba_buffer ?_)
  have key : ∀ x : String, x = "bytearray" → wpAny (model prog w) A (isInstance (.ref a) (.type x)) Q E s := fun x hx => by
    rw [hx]; exact wpAny_isInstance hT ba_sub h
  dsimp only
  split
  · rename_i hx
    exact absurd hx (by decide +kernel)
  · exact key _ (by decide +kernel)
theorem ba_bufferOf {id : String} {f : Bool} {a : Addr} {b : Array UInt8} {Q : Option (Array UInt8) → Shared → Prop} (ho : s.heap.get? a = some (baOf b)) (h : Q (some b) s) : wpAny (model prog w) A (Builtin.Bytes.buffer? id (.ref a) f) Q E s := by
  have hT : s.TypeIs (.ref a) "bytearray" := ⟨_, ho, rfl⟩
  unfold Builtin.Bytes.buffer?
  refine wpAny_bind (wpAny_specialOf hT ba_buffer ?_)
  (try dsimp only)
  refine wpAny_bind (ba_ownBuffer ho ?_)
  refine bm_if_false rfl ?_
  refine wpAny_bind (wpAny_specialOf hT ba_buffer ?_)
  (try dsimp only)
  refine wpAny_bind (ba_ownRelease ho ?_)
  refine bm_if_false rfl ?_
  exact wpAny_bind (payload_ba ho (wpAny_pure h))
theorem bytes_ba {a : Addr} {b : Array UInt8} {Q : Value → Shared → Prop} (ho : s.heap.get? a = some (baOf b)) (hz : b.size ≤ 16777216)
    (hQ : ∀ t' k, Q (.bytes b t') { s with toks := k }) :
    codeAny (model prog w) A (.call (.builtin "bytes.__new__") ⟨[.type "bytes", .ref a], []⟩) (wants Q E) s := by
  refine codeAny_of_tree ?_
  show wpAny _ A.in1 (do checkBuiltinCall "bytes.__new__" ⟨[.type "bytes", .ref a], []⟩; again (.builtin "bytes.__new__" ⟨[.type "bytes", .ref a], []⟩)) _ _ s
  refine wpAny_bind (wpAny_of_eq (F.bm_newCall _) (wpAny_pure ⟨plainId_quiet F.bm_plain _, codeAny_builtin F.bm_entry ?_⟩))
  rw [Around.under_plainId F.bm_plain _]
  unfold Builtin.«bytes.__new__»
  refine wpAny_bind (wpAny_of_eq (a := true) rfl ?_)
  refine bm_if_false rfl ?_
  refine wpAny_bind (wpAny_of_eq F.bm_sub ?_)
  refine bm_if_false rfl ?_
  refine wpAny_bind (wpAny_of_eq (F.bm_bind _) ?_)
  refine wpAny_bind (wpAny_of_eq (a := ()) rfl ?_)
  refine wpAny_bind (wpAny_of_eq (a := ()) rfl ?_)
  refine bm_if_false rfl ?_
  have hT : s.TypeIs (.ref a) "bytearray" := ⟨_, ho, rfl⟩
  refine wpAny_bind (wpAny_specialOf hT ba_no_bytes ?_)
  refine wpAny_bind (wpAny_bind ?_)
  show wpAny _ _ (load a >>= _) _ _ _
  refine wpAny_bind (wpAny_load ho ?_)
  refine wpAny_pure (wpAny_pure ?_)
  refine bm_if_false rfl ?_
  refine wpAny_bind (wpAny_specialOf hT ba_no_index ?_)
  refine bm_if_true rfl ?_
  first
    | show wpAny _ _ (Builtin.Bytes.buffer? "bytes.__new__" (.ref a) true >>= _) _ _ _
    | (refine wpAny_bind ?_; show wpAny _ _ (Builtin.Bytes.buffer? "bytes.__new__" (.ref a) true >>= _) _ _ _)
  refine wpAny_bind (ba_bufferOf ho ?_)
  dsimp only
  refine wpAny_bind (wpAny_rule ?_)
  unfold mkBytes
  rw [if_neg (by rw [sizeLine_eq]; omega)]
  refine wpAny_bind (wpAny_bind (wpAny_fresh (wpAny_pure ?_)))
  first | exact wpAny_pure (hQ _ _) | exact wpAny_bind (wpAny_pure (wpAny_pure (hQ _ _)))
theorem call_bytes_ba {a : Addr} {b : Array UInt8} {Q : Value → Shared → Prop} (ho : s.heap.get? a = some (baOf b)) (hz : b.size ≤ 16777216) (hQ : ∀ t' k, Q (.bytes b t') { s with toks := k }) :
    wpAny (model prog w) A (call (.type "bytes") [.ref a]) Q E s := by
  refine callType_codes (Q₁ := fun obj s₁ => s₁.TypeIs obj "bytes" ∧ Q obj s₁) F.bm_called (F.bm_typeCall _) F.entry_object_init
    (bytes_ba ho hz fun t' k => ⟨PySem.W.typeIs_bytes _ _ _, hQ t' k⟩) fun obj s₁ h₁ => ?_
  exact ⟨h₁.1, F.args_object_init_2 obj _, object_init_meets F.bm_called.init.lookup F.bm_called.made (by decide) prog w A.in1 _ s₁ ⟨h₁.1, rfl, h₁.2⟩⟩
end
end Mine
end
section
open PySem PySem.W PySem.Calls PyProof.Rows PySem.Spec PyProof.V
namespace Mine
theorem fdiv_small {n m : Int} (h0 : 0 ≤ n) (h1 : n < m) : n.fdiv m = 0 := by
  rw [Int.fdiv_eq_ediv_of_nonneg _ (by omega)]; exact Int.ediv_eq_zero_of_lt h0 h1
theorem BytesAre.snoc {vs : List Value} {bs : List (Array UInt8)} {b : Array UInt8} {t : Tok} (h : BytesAre vs bs) : BytesAre (vs ++ [.bytes b t]) (bs ++ [b]) := by
  induction h with
  | nil => exact .cons b t .nil
  | cons _ _ _ ih => exact .cons _ _ ih
theorem cat_snoc (bs : List (Array UInt8)) (b : Array UInt8) : cat (bs ++ [b]) = cat bs ++ b := by simp [cat]
theorem three {x y z v : Value} {i : Nat} (h : #[x, y, z][i]? = some v) : v = x ∨ v = y ∨ v = z := by
  rcases i with _ | _ | _ | i
  · simp at h; exact .inl h.symm
  · simp at h; exact .inr (.inl h.symm)
  · simp at h; exact .inr (.inr h.symm)
  · simp at h
section
variable {prog : Program} {w : World} {A : Around} {E : Value → Shared → Prop} {s : Shared} {h₀ : Heap} {L : Addr} {m : Str → Option Value} {rest : Led}
theorem News.tuple {a : Addr} {items : Array Value} {n : Nat} (N : News h₀ L s.heap rest) (hm : (a, { cls := .type "tuple", data := .seq items n }) ∈ rest) : s.heap.IsTuple a items := ⟨_, (N _ hm).1, rfl, _, rfl⟩
theorem News.neL {h : Heap} {a : Addr} {o : Obj} (N : News h₀ L h rest) (hm : (a, o) ∈ rest) : a ≠ L := (N _ hm).2.1
theorem by_method {b : Array UInt8} {t : Tok} {pl : Sem Bool} {Q : Value × List Value → Shared → Prop} (h : Q (.builtin "bytes.join", [.bytes b t]) s) :
    wpAny (model prog w) A (getMethod (.bytes b t) "join" pl) Q E s :=
  getMethod_builtin (PySem.W.typeIs_bytes _ _ _) by_attrs by_slot_join by_type_join (fun a' e => nomatch e) h
end
end Mine
end
section
open Lean Elab Tactic Meta PySem PySem.W PySem.Calls PyProof.Rows
namespace Mine
theorem setup7 : True := by
  k_with_none
  w_top off
  k_with "k_all" => first | assumption | exact Apart.off (by assumption) (by k_mem) (by simp)
  k_with "k_mem" => first | with_reducible assumption | exact List.Mem.head _ | (refine' List.mem_cons_of_mem _ ?_; k_mem)
  k_with "cellc_enter" => (refine' code_defC ?k1 ?k2 ?k3 ?k4 ?k5 ?kA ?kF ?kK ?k6 ?k7 ?k8 ?k9 ?kB ?kD ?_ ?c2 ?c3 ?c4; (case kA => exact rfl); (case kF => exact rfl); (case kK => assumption); (case k1 => k_asm); (case k2 => k_asm); (case k3 => k_asm); (case k4 => k_asm); (case k5 => k_asm); (case k6 => k_is); (case k7 => k_is); (case k8 => ktr_room); (case k9 => exact BindsTo.of_eq rfl); (case kB => exact rfl); (case kD => decide +kernel); (case c2 => exact rfl); (case c3 => exact rfl); (case c4 => exact rfl); k_whole; intro g' L' h' tk' cells' FG' F' N' Y' B' X' T' l1; (try k_lt l1); k_cells Y'; (try simp only [List.cons_append, List.nil_append] at N'); (try dsimp only); (try k_lift B'); (try k_fold))
  k_with "eval ListComp" => (k_here; refine' comp_Jf ?kF ?c1 ?c2 ?c3 ?c4 ?c5 ?c6 ?_; (case kF => k_asm); (case c1 => with_unfolding_all rfl); (case c2 => decide); (case c3 => with_unfolding_all rfl); (case c4 => decide); (case c5 => with_unfolding_all rfl); (case c6 => intro _; with_unfolding_all rfl); k_whole; (try k_fold))
  k_with "exec Assign cons ListComp" => (k_here; refine' comp_Jaf ?kF ?c0 ?c1 ?c2 ?c3 ?c4 ?c5 ?c7 ?c8 ?c6 ?_; (case kF => k_asm); (case c0 => with_unfolding_all rfl); (case c1 => with_unfolding_all rfl); (case c2 => decide); (case c3 => with_unfolding_all rfl); (case c4 => decide); (case c5 => with_unfolding_all rfl); (case c7 => with_unfolding_all rfl); (case c8 => with_unfolding_all rfl); (case c6 => intro _; with_unfolding_all rfl); k_whole; (try k_fold))
  k_with "exec For" => (k_here; refine' for_Jf ?kF ?c1 ?c2 ?_; (case kF => k_asm); (case c1 => intro _; with_unfolding_all rfl); (case c2 => intro _ _; with_unfolding_all rfl); k_whole; (try k_fold))
  k_with "eval Name" => (k_here; k_dflt (refine' nameX_L ?F ?v ?_ ?c ?a ?b; (case F => k_asm); (case c => rfl); (case a => rfl); (case b => decide); (case v => assumption); k_whole))
  k_with "eval Name" => (k_here; k_inBlock; k_dflt (refine' name_compF ?kN ?kc ?km ?kd ?_ ?k1 ?k2 ?k3 ?k4; (case k1 => rfl); (case k2 => rfl); (case k3 => decide); (case k4 => decide); (case kN => k_asm); (case kc => rfl); (case km => k_mem); (case kd => k_asm); k_whole))
  k_with "eval Name" => (k_here; k_inBlock; k_dflt (refine' name_compC ?kN ?kc ?km ?kd ?_ ?k1 ?k2 ?k3; (case k1 => rfl); (case k2 => rfl); (case k3 => decide); (case kN => k_asm); (case kc => rfl); (case km => k_mem); (case kd => k_asm); k_whole))
  k_with "eval Name" => (k_here; k_inBlock; k_dflt (refine' name_comp ?kN ?km ?kn ?kv ?_ ?k1 ?k2 ?k3; (case k1 => rfl); (case k2 => rfl); (case k3 => decide); (case kN => k_asm); (case kn => assumption); (case km => k_mem); (case kv => rfl); k_whole))
  k_with "call type:bytes" => (k_here; k_dflt (refine' call_bytes_ba ?ho ?hz ?_; (case ho => exact ((by k_asm : News _ _ _ _) _ (by k_mem)).1); (case hz => omega); k_whole); intro _ _)
  k_with "call type:bytes" => (k_here; k_dflt (refine' call_bytes_n ?h0 ?h1 ?_; (case h0 => first | omega | (refine Int.fmod_nonneg_of_pos _ ?_; omega) | (simp; omega)); (case h1 => omega); k_whole); intro _ _)
  k_with "call type:bytes" => (k_here; k_dflt (refine' KBa.make_K ?kF ?kN ?kh ?kl ?ki ?kr ?kz ?_; (case kF => k_asm); (case kN => k_asm); (case kh => rfl); (case kl => exact News.isList (by k_asm) (by k_mem)); (case ki => assumption); (case kr => assumption); (case kz => omega); k_whole); intro _ _ _ F' N' kbaIn)
  k_with "exec For Name Call cons nil" => (k_here; refine' for_Jf ?kF ?c1 ?c2 ?_; (case kF => k_asm); (case c1 => intro _; with_unfolding_all rfl); (case c2 => intro _ _; with_unfolding_all rfl); k_whole; (try k_fold))
  k_with "exec For Name Name cons nil" => (k_here; refine' for_Jf ?kF ?c1 ?c2 ?_; (case kF => k_asm); (case c1 => intro _; with_unfolding_all rfl); (case c2 => intro _ _; with_unfolding_all rfl); k_whole; (try k_fold))
  k_with "exec For Tuple" => (k_here; refine' for_Jf ?kF ?c1 ?c2 ?_; (case kF => k_asm); (case c1 => intro _; with_unfolding_all rfl); (case c2 => intro _ _; with_unfolding_all rfl); k_whole; (try k_fold))
  k_with "exec For Name" => (k_here; refine' for_Jf ?kF ?c1 ?c2 ?_; (case kF => k_asm); (case c1 => intro _; with_unfolding_all rfl); (case c2 => intro _ _; with_unfolding_all rfl); k_whole; (try k_fold))
  k_with "binaryOp Add bytes bytes" => (k_here; k_dflt (refine' KBy.add_bytes ?hz ?_; (case hz => first | omega | (simp only [Array.size_replicate]; omega)); k_whole); intro _ _)
  k_with "call builtin:len" => (k_here; k_dflt (refine' len_str ?z ?_; (case z => omega); k_whole))
  k_with "call builtin:len" => (k_here; (with_reducible show wpAny _ _ (call (Value.builtin "len") [Value.bytes _ _]) _ _ _); k_dflt (refine' len_bytes ?z ?_; (case z => first | omega | (simp only [Array.size_append, Array.size_replicate]; omega)); k_whole))
  k_with "celln_enter" => (refine' codeN_defC ?k1 ?k2 ?k3 ?k4 ?k5 ?kA ?kF ?kK ?k6 ?k7 ?k8 ?k9 ?kB ?kD ?_ ?c2 ?c3 ?c4; (case kA => exact rfl); (case kF => exact rfl); (case kK => assumption); (case k1 => k_asm); (case k2 => k_asm); (case k3 => k_asm); (case k4 => k_asm); (case k5 => k_asm); (case k6 => k_is); (case k7 => k_is); (case k8 => ktr_room); (case k9 => exact BindsTo.of_eq rfl); (case kB => exact rfl); (case kD => decide +kernel); (case c2 => exact rfl); (case c3 => exact rfl); (case c4 => exact rfl); k_whole; intro g' L' h' tk' cells' FG' F' N' Y' B' X' T' l1; (try k_lt l1); (first | k_cells Y' | (cases Y')); (try simp only [List.cons_append, List.nil_append] at N'); (try dsimp only); (try k_lift B'); (try k_fold))
  k_with "getMethod ref" => (k_here; (with_reducible show wpAny _ _ (getMethod (Value.ref _) (PySem.Str.ofString "extend") _) _ _ _); k_dflt (refine' ba_method ?kN ?km ?_; (case kN => k_asm); (case km => k_mem); k_whole))
  k_with "getMethod bytes" => (k_here; k_dflt (refine' by_method ?_; k_whole))
  k_with "call builtin:bytes.join" => (k_here; k_dflt (refine' by_join ?hl ?hv ?hz ?_; (case hl => exact News.isList (by k_asm) (by k_mem)); (case hv => assumption); (case hz => omega); k_whole); intro _ _)
  k_with "call builtin:ord" => (k_here; k_dflt (refine' ord_of_char ?_; k_whole))
  trivial
theorem n_add {w : World} {rest : Led} {a x dx : Addr} {b : Array UInt8} {t : Tok} {c : Array UInt8} {u : Tok} (hr : ∀ p ∈ rest, p.1 ≠ a) (hx : (x, instObj 177 dx) ∈ rest) (hdx : (dx, dictOf [⟨PyData.keyHash w.params (Str.ofString "made"), .str (Str.ofString "made") t, .ref a⟩] 1) ∈ rest) (hb : b.size ≤ 10000) (hc : c.size ≤ 10000) :
    ConN w 3 200 ((a, baOf b) :: rest) 160 [.ref x, .bytes c u] (fun v nw => v = .none ∧ nw = (a, baOf (b ++ c)) :: rest) := by
  unfold ConN; intro mean mg mb dp un cn cs xa ccd cl outer A₀ base h₀ L m s Q B F X₀ N T hk hd hu hret
  revert X₀; k_fill; intro X₀
  refine N_call ?_
  k_dflt (walk_at "celln_enter")
  refine N_execs_cons (N_Expr rfl rfl (N_methodCall ?_ rfl))
  k_steps
  refine N_with_builtin ?_ rfl rfl
  k_steps
  refine N_grow rfl (by k_asm) (by k_asm) hr (by omega) fun h9 F9 N9 => ?_
  refine ⟨rfl, N_execs_nil ?_⟩
  refine leaveK_ F9 N9 fun F8 N8 => ?_
  exact hret _ _ _ _ (⟨rfl, rfl⟩) F8 N8

theorem n_rows {w : World} {rest : Led} {a x dx : Addr} {b : Array UInt8} {t : Tok} {tp : Addr} {n1 n2 n3 : Int} {t1 t2 t3 : Tok} (hr : ∀ p ∈ rest, p.1 ≠ a) (hx : (x, instObj 177 dx) ∈ rest) (hdx : (dx, dictOf [⟨PyData.keyHash w.params (Str.ofString "made"), .str (Str.ofString "made") t, .ref a⟩] 1) ∈ rest) (hb : b.size ≤ 10000) (hT : (tp, { cls := .type "tuple", data := .seq #[.int n1 t1, .int n2 t2, .int n3 t3] }) ∈ rest) (h1 : 0 ≤ n1 ∧ n1 ≤ 64) (h2 : 0 ≤ n2 ∧ n2 ≤ 64) (h3 : 0 ≤ n3 ∧ n3 ≤ 64) :
    ConN w 3 200 ((a, baOf b) :: rest) 153 [.ref x, .ref tp] (AddPost a b rest 12) := by
  unfold ConN; intro mean mg mb dp un cn cs xa ccd cl outer A₀ base h₀ L m s Q B F X₀ N T hk hd hu hret
  revert X₀; k_fill; intro X₀
  refine N_call ?_
  k_dflt (walk_at "celln_enter")
  k_with "call ref" => (k_here; k_dflt (refine' Con.use (c_number_octets (c := 2) ?p0 ?p1 ?p2 ?p3) ?kB ?kF ?kX ?kN ?kT ?kk ?kd ?ku ?_; (case kB => k_asm); (case kF => k_asm); (case kX => k_in); (case kN => k_asm); (case kT => k_asm); (case kk => first | exact rfl | assumption); (case p0 => omega); (case p1 => omega); (case p2 => omega); (case p3 => assumption); (case kd => ktr_room); (case ku => ktr_units); intro v9 h9 tk9 nw9 hp9 F9 N9; obtain ⟨e1, b9, t9, e2, hb9⟩ := hp9; subst nw9; subst v9; (try dsimp only); (try k_sweep); (try k_fold)))
  refine N_execs_cons (N_Expr rfl rfl (N_methodCall ?_ rfl))
  k_steps
  refine N_with_builtin ?_ rfl rfl
  k_steps
  have hT' := List.mem_cons_of_mem (a, baOf b) hT
  k_dflt (refine' iters_tuple ?hh ?hF ?hN ?hl ?hL ?_; (case hh => with_unfolding_all rfl); (case hF => k_asm); (case hN => k_asm); (case hl => exact News.tuple (by k_asm) hT'); (case hL => exact News.neL (by k_asm) hT'))
  rintro fp wr St h2' tk2 T2
  dsimp only
  refine ⟨_, _, _, _, _, _, _, _, _, _, _, T2, by size_fits, ?_, fun i acc nw => nw = (a, baOf b) :: rest ∧ ∃ bs : List (Array UInt8), BytesAre acc bs ∧ (cat bs).size ≤ 4 * i, ⟨rfl, [], .nil, by decide⟩, ?_, ?_⟩
  · intro q hq
    rw [List.mem_singleton.mp hq]
    exact Heap.lt_size (T2.N _ hT').1
  · rintro C i v acc nw oC own h3' tk3 E' hi hv ⟨hnw, bs, hbs, hsz⟩ hl hNC hC F3 N3 hap
    subst nw
    refine turn_nil ?_
    obtain ⟨n, u, hvn, hn0, hn1⟩ : ∃ n u, v = Value.int n u ∧ 0 ≤ n ∧ n ≤ 64 := by
      rcases three hv with rfl | rfl | rfl
      · exact ⟨_, _, rfl, h1⟩
      · exact ⟨_, _, rfl, h2⟩
      · exact ⟨_, _, rfl, h3⟩
    subst hvn
    have hm := List.mem_append_right rest hC
    have hz2 : n.fdiv (2 ^ (8 * (((2 : Nat) : Int))).toNat) = 0 := fdiv_small hn0 (Int.lt_of_le_of_lt hn1 (by decide))
    simp only [List.cons_append] at N3
    (try k_unmd); (try k_fold)
    k_steps
    all_goals (refine' ⟨_, _, _, _, ?hF, ?hN, hap, ?hJ⟩; (case hF => k_asm); (case hN => k_asm); (case hJ => exact ⟨rfl, rfl, _, BytesAre.snoc hbs, by rw [cat_snoc, Array.size_append]; omega⟩))
  · rintro D nD h4 tk4 acc nw F4 N4 hoff hl ⟨hnw, bs, hbs, hsz⟩
    subst nw
    have hsz' : (cat bs).size ≤ 12 := hsz
    k_steps
    refine N_grow rfl (by k_asm) (News.sub N4 fun p hp => List.mem_cons_of_mem _ hp) hr (by omega) fun h9 F9 N9 => ?_
    refine ⟨rfl, N_execs_nil ?_⟩
    refine leaveK_ F9 N9 fun F8 N8 => ?_
    exact hret _ _ _ _ (⟨rfl, _, hsz', rfl⟩) F8 N8

end Mine
end
section
open Lean Elab Tactic Meta PySem PySem.W PySem.Calls PyProof.Rows
namespace Mine
theorem setup8 : True := by
  k_with_none
  w_top off
  k_with "k_all" => first | assumption | exact Apart.off (by assumption) (by k_mem) (by simp)
  k_with "k_mem" => first | with_reducible assumption | exact List.Mem.head _ | (refine' List.mem_cons_of_mem _ ?_; k_mem)
  k_with "cellc_enter" => (refine' code_defC ?k1 ?k2 ?k3 ?k4 ?k5 ?kA ?kF ?kK ?k6 ?k7 ?k8 ?k9 ?kB ?kD ?_ ?c2 ?c3 ?c4; (case kA => exact rfl); (case kF => exact rfl); (case kK => assumption); (case k1 => k_asm); (case k2 => k_asm); (case k3 => k_asm); (case k4 => k_asm); (case k5 => k_asm); (case k6 => k_is); (case k7 => k_is); (case k8 => ktr_room); (case k9 => exact BindsTo.of_eq rfl); (case kB => exact rfl); (case kD => decide +kernel); (case c2 => exact rfl); (case c3 => exact rfl); (case c4 => exact rfl); k_whole; intro g' L' h' tk' cells' FG' F' N' Y' B' X' T' l1; (try k_lt l1); k_cells Y'; (try simp only [List.cons_append, List.nil_append] at N'); (try dsimp only); (try k_lift B'); (try k_fold))
  k_with "eval ListComp" => (k_here; refine' comp_Jf ?kF ?c1 ?c2 ?c3 ?c4 ?c5 ?c6 ?_; (case kF => k_asm); (case c1 => with_unfolding_all rfl); (case c2 => decide); (case c3 => with_unfolding_all rfl); (case c4 => decide); (case c5 => with_unfolding_all rfl); (case c6 => intro _; with_unfolding_all rfl); k_whole; (try k_fold))
  k_with "exec Assign cons ListComp" => (k_here; refine' comp_Jaf ?kF ?c0 ?c1 ?c2 ?c3 ?c4 ?c5 ?c7 ?c8 ?c6 ?_; (case kF => k_asm); (case c0 => with_unfolding_all rfl); (case c1 => with_unfolding_all rfl); (case c2 => decide); (case c3 => with_unfolding_all rfl); (case c4 => decide); (case c5 => with_unfolding_all rfl); (case c7 => with_unfolding_all rfl); (case c8 => with_unfolding_all rfl); (case c6 => intro _; with_unfolding_all rfl); k_whole; (try k_fold))
  k_with "exec For" => (k_here; refine' for_Jf ?kF ?c1 ?c2 ?_; (case kF => k_asm); (case c1 => intro _; with_unfolding_all rfl); (case c2 => intro _ _; with_unfolding_all rfl); k_whole; (try k_fold))
  k_with "eval Name" => (k_here; k_dflt (refine' nameX_L ?F ?v ?_ ?c ?a ?b; (case F => k_asm); (case c => rfl); (case a => rfl); (case b => decide); (case v => assumption); k_whole))
  k_with "eval Name" => (k_here; k_inBlock; k_dflt (refine' name_compF ?kN ?kc ?km ?kd ?_ ?k1 ?k2 ?k3 ?k4; (case k1 => rfl); (case k2 => rfl); (case k3 => decide); (case k4 => decide); (case kN => k_asm); (case kc => rfl); (case km => k_mem); (case kd => k_asm); k_whole))
  k_with "eval Name" => (k_here; k_inBlock; k_dflt (refine' name_compC ?kN ?kc ?km ?kd ?_ ?k1 ?k2 ?k3; (case k1 => rfl); (case k2 => rfl); (case k3 => decide); (case kN => k_asm); (case kc => rfl); (case km => k_mem); (case kd => k_asm); k_whole))
  k_with "eval Name" => (k_here; k_inBlock; k_dflt (refine' name_comp ?kN ?km ?kn ?kv ?_ ?k1 ?k2 ?k3; (case k1 => rfl); (case k2 => rfl); (case k3 => decide); (case kN => k_asm); (case kn => assumption); (case km => k_mem); (case kv => rfl); k_whole))
  k_with "call type:bytes" => (k_here; k_dflt (refine' call_bytes_ba ?ho ?hz ?_; (case ho => exact ((by k_asm : News _ _ _ _) _ (by k_mem)).1); (case hz => omega); k_whole); intro _ _)
  k_with "call type:bytes" => (k_here; k_dflt (refine' call_bytes_n ?h0 ?h1 ?_; (case h0 => first | omega | (refine Int.fmod_nonneg_of_pos _ ?_; omega) | (simp; omega)); (case h1 => omega); k_whole); intro _ _)
  k_with "call type:bytes" => (k_here; k_dflt (refine' KBa.make_K ?kF ?kN ?kh ?kl ?ki ?kr ?kz ?_; (case kF => k_asm); (case kN => k_asm); (case kh => rfl); (case kl => exact News.isList (by k_asm) (by k_mem)); (case ki => assumption); (case kr => assumption); (case kz => omega); k_whole); intro _ _ _ F' N' kbaIn)
  k_with "exec For Name Call cons nil" => (k_here; refine' for_Jf ?kF ?c1 ?c2 ?_; (case kF => k_asm); (case c1 => intro _; with_unfolding_all rfl); (case c2 => intro _ _; with_unfolding_all rfl); k_whole; (try k_fold))
  k_with "exec For Name Name cons nil" => (k_here; refine' for_Jf ?kF ?c1 ?c2 ?_; (case kF => k_asm); (case c1 => intro _; with_unfolding_all rfl); (case c2 => intro _ _; with_unfolding_all rfl); k_whole; (try k_fold))
  k_with "exec For Tuple" => (k_here; refine' for_Jf ?kF ?c1 ?c2 ?_; (case kF => k_asm); (case c1 => intro _; with_unfolding_all rfl); (case c2 => intro _ _; with_unfolding_all rfl); k_whole; (try k_fold))
  k_with "exec For Name" => (k_here; refine' for_Jf ?kF ?c1 ?c2 ?_; (case kF => k_asm); (case c1 => intro _; with_unfolding_all rfl); (case c2 => intro _ _; with_unfolding_all rfl); k_whole; (try k_fold))
  k_with "binaryOp Add bytes bytes" => (k_here; k_dflt (refine' KBy.add_bytes ?hz ?_; (case hz => first | omega | (simp only [Array.size_replicate]; omega)); k_whole); intro _ _)
  k_with "call builtin:len" => (k_here; k_dflt (refine' len_str ?z ?_; (case z => omega); k_whole))
  k_with "call builtin:len" => (k_here; (with_reducible show wpAny _ _ (call (Value.builtin "len") [Value.bytes _ _]) _ _ _); k_dflt (refine' len_bytes ?z ?_; (case z => first | omega | (simp only [Array.size_append, Array.size_replicate]; omega)); k_whole))
  k_with "celln_enter" => (refine' codeN_defC ?k1 ?k2 ?k3 ?k4 ?k5 ?kA ?kF ?kK ?k6 ?k7 ?k8 ?k9 ?kB ?kD ?_ ?c2 ?c3 ?c4; (case kA => exact rfl); (case kF => exact rfl); (case kK => assumption); (case k1 => k_asm); (case k2 => k_asm); (case k3 => k_asm); (case k4 => k_asm); (case k5 => k_asm); (case k6 => k_is); (case k7 => k_is); (case k8 => ktr_room); (case k9 => exact BindsTo.of_eq rfl); (case kB => exact rfl); (case kD => decide +kernel); (case c2 => exact rfl); (case c3 => exact rfl); (case c4 => exact rfl); k_whole; intro g' L' h' tk' cells' FG' F' N' Y' B' X' T' l1; (try k_lt l1); (first | k_cells Y' | (cases Y')); (try simp only [List.cons_append, List.nil_append] at N'); (try dsimp only); (try k_lift B'); (try k_fold))
  k_with "getMethod ref" => (k_here; (with_reducible show wpAny _ _ (getMethod (Value.ref _) (PySem.Str.ofString "extend") _) _ _ _); k_dflt (refine' ba_method ?kN ?km ?_; (case kN => k_asm); (case km => k_mem); k_whole))
  k_with "getMethod bytes" => (k_here; k_dflt (refine' by_method ?_; k_whole))
  k_with "call builtin:bytes.join" => (k_here; k_dflt (refine' by_join ?hl ?hv ?hz ?_; (case hl => exact News.isList (by k_asm) (by k_mem)); (case hv => assumption); (case hz => omega); k_whole); intro _ _)
  k_with "call builtin:ord" => (k_here; k_dflt (refine' ord_of_char ?_; k_whole))
  trivial
theorem c_octets {w : World} {news : Led} {a x dx : Addr} {b : Array UInt8} {t : Tok} (hr : ∀ p ∈ news, p.1 ≠ a) (hx : (x, instObj 177 dx) ∈ news) (hdx : (dx, dictOf [⟨PyData.keyHash w.params (Str.ofString "made"), .str (Str.ofString "made") t, .ref a⟩] 1) ∈ news) (hb : b.size ≤ 10000) :
    Con w 2 200 ((a, baOf b) :: news) 174 [.ref x] (fun v nw => nw = (a, baOf b) :: news ∧ ∃ t, v = .bytes b t) := by
  unfold Con; intro mean mg mb dp un gd cn cs xa ccd cl outer A₀ base h₀ L m s Q E B F X₀ N T hk hd hu hret
  revert X₀; k_fill; intro X₀
  refine wpAny_call ?_
  k_dflt cell_enter
  k_steps
  all_goals (refine' hret _ _ _ ((a, baOf b) :: news) ?hP ?hF ?hN; (case hF => k_asm); (case hP => exact ⟨rfl, _, rfl⟩); (case hN => first | k_asm | exact News.sub (by k_asm) (by intro _ hp; repeat (first | exact hp | apply List.mem_cons_of_mem))))

theorem n_tag {w : World} {rest : Led} {a x dx : Addr} {b : Array UInt8} {t : Tok} {k : PySem.Str} {u : Tok} (hr : ∀ p ∈ rest, p.1 ≠ a) (hx : (x, instObj 177 dx) ∈ rest) (hdx : (dx, dictOf [⟨PyData.keyHash w.params (Str.ofString "made"), .str (Str.ofString "made") t, .ref a⟩] 1) ∈ rest) (hb : b.size ≤ 10000) (hk4 : k.length = 4) (hcp : ∀ (i c : Nat), k.cps[i]? = some c → c < 128) :
    ConN w 3 200 ((a, baOf b) :: rest) 148 [.ref x, .str k u] (AddPost a b rest 4) := by
  unfold ConN; intro mean mg mb dp un cn cs xa ccd cl outer A₀ base h₀ L m s Q B F X₀ N T hk hd hu hret
  revert X₀; k_fill; intro X₀
  refine N_call ?_
  k_dflt (walk_at "celln_enter")
  refine N_execs_any ?_
  have hk5 : ((k.length : Nat) : Int) = 4 := by omega
  k_steps
  · exfalso; simp_all
  k_dflt (refine' iters_str ?hh ?hF ?hN ?_; (case hh => with_unfolding_all rfl); (case hF => k_asm); (case hN => k_asm))
  rintro fp wr St h2' tk2 T2
  dsimp only
  refine ⟨_, _, _, _, _, _, _, _, _, _, _, T2, by rw [show k.cps.size = 4 from hk4]; size_fits, (fun _ h => nomatch h), fun i acc nw => nw = (a, baOf b) :: rest ∧ acc = [], ⟨rfl, rfl⟩, ?_, ?_⟩
  · rintro C i v acc nw oC own h3' tk3 E' hi ⟨c, uc, hc, rfl⟩ ⟨hnw, hacc⟩ hl hNC hC F3 N3 hap
    subst nw
    refine tests_one ?_
    have hm := List.mem_append_right rest hC
    have hc0 := hcp _ _ hc
    simp only [List.cons_append] at N3
    (try k_unmd); (try k_fold)
    k_steps
    all_goals (refine' ⟨_, _, _, _, ?hF, ?hN, hap, ?hJ⟩; (case hF => k_asm); (case hN => k_asm); (case hJ => exact ⟨rfl, rfl, hacc⟩))
  · rintro D nD h4 tk4 acc nw F4 N4 hoff hl ⟨hnw, hacc⟩
    subst nw
    subst acc
    k_steps
    dsimp only
    refine N_execs_cons (N_Expr rfl rfl (N_methodCall ?_ rfl))
    k_steps
    refine N_with_builtin ?_ rfl rfl
    k_steps
    k_dflt (refine' iters_str ?hh ?hF ?hN ?_; (case hh => with_unfolding_all rfl); (case hF => k_asm); (case hN => k_asm))
    rintro fp wr St h2' tk2 T2
    dsimp only
    refine ⟨_, _, _, _, _, _, _, _, _, _, _, T2, by rw [show k.cps.size = 4 from hk4]; size_fits, (fun _ h => nomatch h), fun i acc nw => nw = _ ∧ ∃ ns : List Int, IntsAre acc ns ∧ KBa.In ns ∧ ns.length = acc.length, ⟨rfl, [], .nil, (fun _ h => nomatch h), rfl⟩, ?_, ?_⟩
    · rintro C i v acc nw oC own h3' tk3 E' hi ⟨c, uc, hc, rfl⟩ ⟨hnw, ns, hns, hrr, hln⟩ hl hNC hC F3 N3 hap
      subst nw
      refine turn_nil ?_
      have hm := List.mem_append_right rest hC
      have hc0 := hcp _ _ hc
      simp only [List.cons_append] at N3
      (try k_unmd); (try k_fold)
      k_steps
      all_goals (refine' ⟨_, _, _, _, ?hF, ?hN, hap, ?hJ⟩; (case hF => k_asm); (case hN => k_asm); (case hJ => exact ⟨rfl, rfl, _, Ints.snoc hns, In.snoc hrr (by omega) (by omega), by simp [hln]⟩))
    · rintro D2 nD2 h4' tk4' acc2 nw F5 N5 hoff2 hl2 ⟨hnw, ns, hns, hrr, hln⟩
      subst nw
      have hl4 : ns.length ≤ 4 := by rw [hln]; exact Nat.le_trans hl2 (Nat.le_of_eq hk4)
      have hb4 := byteArr_le hl4
      k_steps
      refine N_grow (rest := rest) (b := b) rfl (by k_asm) (News.sub (by k_asm) (by intro _ hp; repeat (first | exact hp | apply List.mem_cons_of_mem))) hr (by omega) fun h9 F9 N9 => ?_
      refine ⟨rfl, N_execs_nil ?_⟩
      refine leaveK_ F9 N9 fun F8 N8 => ?_
      exact hret _ _ _ _ (⟨rfl, _, hb4, rfl⟩) F8 N8

end Mine
end
section
open PySem PySem.W PySem.Calls PyProof.Rows PySem.Spec PyProof.V
namespace Mine
section
variable {M : Model} {A : Around} {s : Shared} {env : Env}
theorem N_Assign_Attr {o : Expr} {attr : Str} {pos' pos : Pos} {value : Expr} {Q : Flow → Shared → Prop}
    (hs : swapsWith value (some (.Attribute o attr pos')) pos.line env = pure false)
    (h : wpN M A (eval value env) (fun v s₁ => wpAny M A (eval o env) (fun ov s₂ => wpAny M A (setAttr ov attr v) (fun _ => Q .next) NoE s₂) NoE s₁) s) :
    wpN M A (exec (.Assign [.Attribute o attr pos'] value pos) env) Q s := by
  rw [plainObj_exec_Assign_Attribute o attr pos' value pos hs]
  refine N_bindA (wpAny_standAt (N_bind (N_mono h fun v s₁ h₁ => N_any fun Γ p hΓ => ?_)))
  simp only [assign_Attribute, Sem.wp_bind', Sem.wp_holding, Sem.wp_cmd_standAt, Sem.wp_release, Sem.wp_pure']
  exact Sem.wp_mono M Γ _ (fun ov _ s₂ h₂ => h₂ Γ _ hΓ) (fun _ _ _ h' => h') _ _ (h₁ Γ _ hΓ)
theorem N_with_type0 {pos : Pos} {T : String} {Q : Value → Shared → Prop} (h : wpN M A (call (.type T) []) Q s) :
    wpN M A (callWith pos (.type T) [] (backTo pos (starEach [] env)) []) Q s := by
  show wpN M A (callWith pos (.type T) [] [] []) Q s
  unfold callWith
  refine N_bindA (wpAny_holding (PyProof.Rows.evalArgs_none (N_bindA (wpAny_standAt ?_))))
  simp only [List.any_nil, Bool.or_false]
  exact N_bindA (m := keeperOf (.type T)) (wpAny_pure (tailN (by simpa using h)))
end

section
variable {prog : Program} {w : World} {A : Around} {s : Shared} {h₀ : Heap} {L : Addr} {m : Str → Option Value} {news : Led}
theorem N_bytearrayL {Q : Value → Shared → Prop} (hg : A.guards = some []) (F : Fr h₀ L s.heap m) (N : News h₀ L s.heap news)
    (h : ∀ a h', Fr h₀ L h' m → News h₀ L h' ((a, baOf #[]) :: news) → (∀ p ∈ news, p.1 < a) → Q (.ref a) { s with heap := h' }) : wpN (model prog w) A (call (.type "bytearray") []) Q s := by
  refine N_bytearray hg fun h' hk ho => h s.heap.objs.size h' ⟨F.ns.at' fun o e => hk _ o e, fun b o e => hk b o (F.keep b o e), F.above⟩ (fun p hp => ?_) (fun p hp => Heap.lt_size (N p hp).1)
  rcases List.mem_cons.mp hp with rfl | hp
  · exact ⟨ho, fun e => absurd F.ns.lt (e ▸ Nat.lt_irrefl _), next_is_new F⟩
  · exact ⟨hk _ _ (N p hp).1, (N p hp).2⟩
end
/-- what the written attributes of a Record say -/
noncomputable def RecEs (es : List DictEntry) (k : Str) (n1 n2 n3 : Int) : Prop :=
  (∃ t, getL (Str.ofString "tag") es = some (some (.str k t))) ∧ (∃ t, getL (Str.ofString "total") es = some (some (.int n1 t))) ∧
    (∃ t, getL (Str.ofString "begin") es = some (some (.int n2 t))) ∧ (∃ t, getL (Str.ofString "length") es = some (some (.int n3 t)))
end Mine
end
section
open Lean Elab Tactic Meta PySem PySem.W PySem.Calls PyProof.Rows
namespace Mine
theorem setup9 : True := by
  k_with_none
  w_top off
  k_with "k_all" => first | assumption | exact Apart.off (by assumption) (by k_mem) (by simp)
  k_with "k_mem" => first | with_reducible assumption | exact List.Mem.head _ | (refine' List.mem_cons_of_mem _ ?_; k_mem)
  k_with "cellc_enter" => (refine' code_defC ?k1 ?k2 ?k3 ?k4 ?k5 ?kA ?kF ?kK ?k6 ?k7 ?k8 ?k9 ?kB ?kD ?_ ?c2 ?c3 ?c4; (case kA => exact rfl); (case kF => exact rfl); (case kK => assumption); (case k1 => k_asm); (case k2 => k_asm); (case k3 => k_asm); (case k4 => k_asm); (case k5 => k_asm); (case k6 => k_is); (case k7 => k_is); (case k8 => ktr_room); (case k9 => exact BindsTo.of_eq rfl); (case kB => exact rfl); (case kD => decide +kernel); (case c2 => exact rfl); (case c3 => exact rfl); (case c4 => exact rfl); k_whole; intro g' L' h' tk' cells' FG' F' N' Y' B' X' T' l1; (try k_lt l1); k_cells Y'; (try simp only [List.cons_append, List.nil_append] at N'); (try dsimp only); (try k_lift B'); (try k_fold))
  k_with "eval ListComp" => (k_here; refine' comp_Jf ?kF ?c1 ?c2 ?c3 ?c4 ?c5 ?c6 ?_; (case kF => k_asm); (case c1 => with_unfolding_all rfl); (case c2 => decide); (case c3 => with_unfolding_all rfl); (case c4 => decide); (case c5 => with_unfolding_all rfl); (case c6 => intro _; with_unfolding_all rfl); k_whole; (try k_fold))
  k_with "exec Assign cons ListComp" => (k_here; refine' comp_Jaf ?kF ?c0 ?c1 ?c2 ?c3 ?c4 ?c5 ?c7 ?c8 ?c6 ?_; (case kF => k_asm); (case c0 => with_unfolding_all rfl); (case c1 => with_unfolding_all rfl); (case c2 => decide); (case c3 => with_unfolding_all rfl); (case c4 => decide); (case c5 => with_unfolding_all rfl); (case c7 => with_unfolding_all rfl); (case c8 => with_unfolding_all rfl); (case c6 => intro _; with_unfolding_all rfl); k_whole; (try k_fold))
  k_with "exec For" => (k_here; refine' for_Jf ?kF ?c1 ?c2 ?_; (case kF => k_asm); (case c1 => intro _; with_unfolding_all rfl); (case c2 => intro _ _; with_unfolding_all rfl); k_whole; (try k_fold))
  k_with "eval Name" => (k_here; k_dflt (refine' nameX_L ?F ?v ?_ ?c ?a ?b; (case F => k_asm); (case c => rfl); (case a => rfl); (case b => decide); (case v => assumption); k_whole))
  k_with "eval Name" => (k_here; k_inBlock; k_dflt (refine' name_compF ?kN ?kc ?km ?kd ?_ ?k1 ?k2 ?k3 ?k4; (case k1 => rfl); (case k2 => rfl); (case k3 => decide); (case k4 => decide); (case kN => k_asm); (case kc => rfl); (case km => k_mem); (case kd => k_asm); k_whole))
  k_with "eval Name" => (k_here; k_inBlock; k_dflt (refine' name_compC ?kN ?kc ?km ?kd ?_ ?k1 ?k2 ?k3; (case k1 => rfl); (case k2 => rfl); (case k3 => decide); (case kN => k_asm); (case kc => rfl); (case km => k_mem); (case kd => k_asm); k_whole))
  k_with "eval Name" => (k_here; k_inBlock; k_dflt (refine' name_comp ?kN ?km ?kn ?kv ?_ ?k1 ?k2 ?k3; (case k1 => rfl); (case k2 => rfl); (case k3 => decide); (case kN => k_asm); (case kn => assumption); (case km => k_mem); (case kv => rfl); k_whole))
  k_with "call type:bytes" => (k_here; k_dflt (refine' call_bytes_ba ?ho ?hz ?_; (case ho => exact ((by k_asm : News _ _ _ _) _ (by k_mem)).1); (case hz => omega); k_whole); intro _ _)
  k_with "call type:bytes" => (k_here; k_dflt (refine' call_bytes_n ?h0 ?h1 ?_; (case h0 => first | omega | (refine Int.fmod_nonneg_of_pos _ ?_; omega) | (simp; omega)); (case h1 => omega); k_whole); intro _ _)
  k_with "call type:bytes" => (k_here; k_dflt (refine' KBa.make_K ?kF ?kN ?kh ?kl ?ki ?kr ?kz ?_; (case kF => k_asm); (case kN => k_asm); (case kh => rfl); (case kl => exact News.isList (by k_asm) (by k_mem)); (case ki => assumption); (case kr => assumption); (case kz => omega); k_whole); intro _ _ _ F' N' kbaIn)
  k_with "exec For Name Call cons nil" => (k_here; refine' for_Jf ?kF ?c1 ?c2 ?_; (case kF => k_asm); (case c1 => intro _; with_unfolding_all rfl); (case c2 => intro _ _; with_unfolding_all rfl); k_whole; (try k_fold))
  k_with "exec For Name Name cons nil" => (k_here; refine' for_Jf ?kF ?c1 ?c2 ?_; (case kF => k_asm); (case c1 => intro _; with_unfolding_all rfl); (case c2 => intro _ _; with_unfolding_all rfl); k_whole; (try k_fold))
  k_with "exec For Tuple" => (k_here; refine' for_Jf ?kF ?c1 ?c2 ?_; (case kF => k_asm); (case c1 => intro _; with_unfolding_all rfl); (case c2 => intro _ _; with_unfolding_all rfl); k_whole; (try k_fold))
  k_with "exec For Name" => (k_here; refine' for_Jf ?kF ?c1 ?c2 ?_; (case kF => k_asm); (case c1 => intro _; with_unfolding_all rfl); (case c2 => intro _ _; with_unfolding_all rfl); k_whole; (try k_fold))
  k_with "binaryOp Add bytes bytes" => (k_here; k_dflt (refine' KBy.add_bytes ?hz ?_; (case hz => first | omega | (simp only [Array.size_replicate]; omega)); k_whole); intro _ _)
  k_with "call builtin:len" => (k_here; k_dflt (refine' len_str ?z ?_; (case z => omega); k_whole))
  k_with "call builtin:len" => (k_here; (with_reducible show wpAny _ _ (call (Value.builtin "len") [Value.bytes _ _]) _ _ _); k_dflt (refine' len_bytes ?z ?_; (case z => first | omega | (simp only [Array.size_append, Array.size_replicate]; omega)); k_whole))
  k_with "celln_enter" => (refine' codeN_defC ?k1 ?k2 ?k3 ?k4 ?k5 ?kA ?kF ?kK ?k6 ?k7 ?k8 ?k9 ?kB ?kD ?_ ?c2 ?c3 ?c4; (case kA => exact rfl); (case kF => exact rfl); (case kK => assumption); (case k1 => k_asm); (case k2 => k_asm); (case k3 => k_asm); (case k4 => k_asm); (case k5 => k_asm); (case k6 => k_is); (case k7 => k_is); (case k8 => ktr_room); (case k9 => exact BindsTo.of_eq rfl); (case kB => exact rfl); (case kD => decide +kernel); (case c2 => exact rfl); (case c3 => exact rfl); (case c4 => exact rfl); k_whole; intro g' L' h' tk' cells' FG' F' N' Y' B' X' T' l1; (try k_lt l1); (first | k_cells Y' | (cases Y')); (try simp only [List.cons_append, List.nil_append] at N'); (try dsimp only); (try k_lift B'); (try k_fold))
  k_with "getMethod ref" => (k_here; (with_reducible show wpAny _ _ (getMethod (Value.ref _) (PySem.Str.ofString "extend") _) _ _ _); k_dflt (refine' ba_method ?kN ?km ?_; (case kN => k_asm); (case km => k_mem); k_whole))
  k_with "getMethod bytes" => (k_here; k_dflt (refine' by_method ?_; k_whole))
  k_with "call builtin:bytes.join" => (k_here; k_dflt (refine' by_join ?hl ?hv ?hz ?_; (case hl => exact News.isList (by k_asm) (by k_mem)); (case hv => assumption); (case hz => omega); k_whole); intro _ _)
  k_with "call builtin:ord" => (k_here; k_dflt (refine' ord_of_char ?_; k_whole))
  trivial
inductive NewPost (w : World) (news : Led) (v : Value) (nw : Led) : Prop
  | mk (x dx a : Addr) (t : Tok) (e1 : v = .ref x) (e2 : nw = (a, baOf #[]) :: (x, instObj 177 dx) :: (dx, dictOf [⟨PyData.keyHash w.params (Str.ofString "made"), .str (Str.ofString "made") t, .ref a⟩] 1) :: news) (h1 : ∀ p ∈ news, p.1 < dx) (h2 : dx < x) (h3 : x < a)
theorem n_new {w : World} {news : Led} :
    ConN w 3 200 news 177 [] (NewPost w news) := by
  unfold ConN; intro mean mg mb dp un cn cs xa ccd cl outer A₀ base h₀ L m s Q B F X₀ N T hk hd hu hret
  revert X₀; k_fill; intro X₀
  refine N_call (N_make F N (X₀.keeps F.keep) (by k_is) (by k_is) (by k_is) ?_)
  intro x dx h1 F1 N1 hlt hx
  k_dflt (walk_at "celln_enter")
  refine N_execs_cons (N_Assign_Attr rfl (N_Call_Name ?_))
  k_steps
  refine N_with_type0 (N_bytearrayL rfl (by k_asm) (by k_asm) fun a h2 F2 N2 l2 => ?_)
  have hne : ∀ p ∈ news, p.1 ≠ dx := fun p hp => Nat.ne_of_lt (hlt p hp)
  k_lt l2
  replace N2 : News g' L' h2 ((a, baOf #[]) :: (x, instObj 177 dx) :: (dx, dictOf [] 0) :: news) := N2
  have hx' : @LT.lt Nat _ dx x := hx
  k_steps
  dsimp only
  refine N_execs_nil ?_
  refine leaveK_ (by k_asm) (by k_asm) fun F8 N8 => ?_
  refine ⟨rfl, hret _ _ _ _ ⟨_, _, _, _, rfl, rfl, hlt, hx, l2.1⟩ F8 N8⟩
end Mine
end
section
open Lean Elab Tactic Meta PySem PySem.W PySem.Calls PyProof.Rows
namespace Mine
theorem setup10 : True := by
  k_with_none
  w_top off
  k_with "k_all" => first | assumption | exact Apart.off (by assumption) (by k_mem) (by simp)
  k_with "k_mem" => first | with_reducible assumption | exact List.Mem.head _ | (refine' List.mem_cons_of_mem _ ?_; k_mem)
  k_with "cellc_enter" => (refine' code_defC ?k1 ?k2 ?k3 ?k4 ?k5 ?kA ?kF ?kK ?k6 ?k7 ?k8 ?k9 ?kB ?kD ?_ ?c2 ?c3 ?c4; (case kA => exact rfl); (case kF => exact rfl); (case kK => assumption); (case k1 => k_asm); (case k2 => k_asm); (case k3 => k_asm); (case k4 => k_asm); (case k5 => k_asm); (case k6 => k_is); (case k7 => k_is); (case k8 => ktr_room); (case k9 => exact BindsTo.of_eq rfl); (case kB => exact rfl); (case kD => decide +kernel); (case c2 => exact rfl); (case c3 => exact rfl); (case c4 => exact rfl); k_whole; intro g' L' h' tk' cells' FG' F' N' Y' B' X' T' l1; (try k_lt l1); k_cells Y'; (try simp only [List.cons_append, List.nil_append] at N'); (try dsimp only); (try k_lift B'); (try k_fold))
  k_with "eval ListComp" => (k_here; refine' comp_Jf ?kF ?c1 ?c2 ?c3 ?c4 ?c5 ?c6 ?_; (case kF => k_asm); (case c1 => with_unfolding_all rfl); (case c2 => decide); (case c3 => with_unfolding_all rfl); (case c4 => decide); (case c5 => with_unfolding_all rfl); (case c6 => intro _; with_unfolding_all rfl); k_whole; (try k_fold))
  k_with "exec Assign cons ListComp" => (k_here; refine' comp_Jaf ?kF ?c0 ?c1 ?c2 ?c3 ?c4 ?c5 ?c7 ?c8 ?c6 ?_; (case kF => k_asm); (case c0 => with_unfolding_all rfl); (case c1 => with_unfolding_all rfl); (case c2 => decide); (case c3 => with_unfolding_all rfl); (case c4 => decide); (case c5 => with_unfolding_all rfl); (case c7 => with_unfolding_all rfl); (case c8 => with_unfolding_all rfl); (case c6 => intro _; with_unfolding_all rfl); k_whole; (try k_fold))
  k_with "exec For" => (k_here; refine' for_Jf ?kF ?c1 ?c2 ?_; (case kF => k_asm); (case c1 => intro _; with_unfolding_all rfl); (case c2 => intro _ _; with_unfolding_all rfl); k_whole; (try k_fold))
  k_with "eval Name" => (k_here; k_dflt (refine' nameX_L ?F ?v ?_ ?c ?a ?b; (case F => k_asm); (case c => rfl); (case a => rfl); (case b => decide); (case v => assumption); k_whole))
  k_with "eval Name" => (k_here; k_inBlock; k_dflt (refine' name_compF ?kN ?kc ?km ?kd ?_ ?k1 ?k2 ?k3 ?k4; (case k1 => rfl); (case k2 => rfl); (case k3 => decide); (case k4 => decide); (case kN => k_asm); (case kc => rfl); (case km => k_mem); (case kd => k_asm); k_whole))
  k_with "eval Name" => (k_here; k_inBlock; k_dflt (refine' name_compC ?kN ?kc ?km ?kd ?_ ?k1 ?k2 ?k3; (case k1 => rfl); (case k2 => rfl); (case k3 => decide); (case kN => k_asm); (case kc => rfl); (case km => k_mem); (case kd => k_asm); k_whole))
  k_with "eval Name" => (k_here; k_inBlock; k_dflt (refine' name_comp ?kN ?km ?kn ?kv ?_ ?k1 ?k2 ?k3; (case k1 => rfl); (case k2 => rfl); (case k3 => decide); (case kN => k_asm); (case kn => assumption); (case km => k_mem); (case kv => rfl); k_whole))
  k_with "call type:bytes" => (k_here; k_dflt (refine' call_bytes_ba ?ho ?hz ?_; (case ho => exact ((by k_asm : News _ _ _ _) _ (by k_mem)).1); (case hz => omega); k_whole); intro _ _)
  k_with "call type:bytes" => (k_here; k_dflt (refine' call_bytes_n ?h0 ?h1 ?_; (case h0 => first | omega | (refine Int.fmod_nonneg_of_pos _ ?_; omega) | (simp; omega)); (case h1 => omega); k_whole); intro _ _)
  k_with "call type:bytes" => (k_here; k_dflt (refine' KBa.make_K ?kF ?kN ?kh ?kl ?ki ?kr ?kz ?_; (case kF => k_asm); (case kN => k_asm); (case kh => rfl); (case kl => exact News.isList (by k_asm) (by k_mem)); (case ki => assumption); (case kr => assumption); (case kz => omega); k_whole); intro _ _ _ F' N' kbaIn)
  k_with "exec For Name Call cons nil" => (k_here; refine' for_Jf ?kF ?c1 ?c2 ?_; (case kF => k_asm); (case c1 => intro _; with_unfolding_all rfl); (case c2 => intro _ _; with_unfolding_all rfl); k_whole; (try k_fold))
  k_with "exec For Name Name cons nil" => (k_here; refine' for_Jf ?kF ?c1 ?c2 ?_; (case kF => k_asm); (case c1 => intro _; with_unfolding_all rfl); (case c2 => intro _ _; with_unfolding_all rfl); k_whole; (try k_fold))
  k_with "exec For Tuple" => (k_here; refine' for_Jf ?kF ?c1 ?c2 ?_; (case kF => k_asm); (case c1 => intro _; with_unfolding_all rfl); (case c2 => intro _ _; with_unfolding_all rfl); k_whole; (try k_fold))
  k_with "exec For Name" => (k_here; refine' for_Jf ?kF ?c1 ?c2 ?_; (case kF => k_asm); (case c1 => intro _; with_unfolding_all rfl); (case c2 => intro _ _; with_unfolding_all rfl); k_whole; (try k_fold))
  k_with "binaryOp Add bytes bytes" => (k_here; k_dflt (refine' KBy.add_bytes ?hz ?_; (case hz => first | omega | (simp only [Array.size_replicate]; omega)); k_whole); intro _ _)
  k_with "call builtin:len" => (k_here; k_dflt (refine' len_str ?z ?_; (case z => omega); k_whole))
  k_with "call builtin:len" => (k_here; (with_reducible show wpAny _ _ (call (Value.builtin "len") [Value.bytes _ _]) _ _ _); k_dflt (refine' len_bytes ?z ?_; (case z => first | omega | (simp only [Array.size_append, Array.size_replicate]; omega)); k_whole))
  k_with "celln_enter" => (refine' codeN_defC ?k1 ?k2 ?k3 ?k4 ?k5 ?kA ?kF ?kK ?k6 ?k7 ?k8 ?k9 ?kB ?kD ?_ ?c2 ?c3 ?c4; (case kA => exact rfl); (case kF => exact rfl); (case kK => assumption); (case k1 => k_asm); (case k2 => k_asm); (case k3 => k_asm); (case k4 => k_asm); (case k5 => k_asm); (case k6 => k_is); (case k7 => k_is); (case k8 => ktr_room); (case k9 => exact BindsTo.of_eq rfl); (case kB => exact rfl); (case kD => decide +kernel); (case c2 => exact rfl); (case c3 => exact rfl); (case c4 => exact rfl); k_whole; intro g' L' h' tk' cells' FG' F' N' Y' B' X' T' l1; (try k_lt l1); (first | k_cells Y' | (cases Y')); (try simp only [List.cons_append, List.nil_append] at N'); (try dsimp only); (try k_lift B'); (try k_fold))
  k_with "getMethod ref" => (k_here; (with_reducible show wpAny _ _ (getMethod (Value.ref _) (PySem.Str.ofString "extend") _) _ _ _); k_dflt (refine' ba_method ?kN ?km ?_; (case kN => k_asm); (case km => k_mem); k_whole))
  k_with "getMethod bytes" => (k_here; k_dflt (refine' by_method ?_; k_whole))
  k_with "call builtin:bytes.join" => (k_here; k_dflt (refine' by_join ?hl ?hv ?hz ?_; (case hl => exact News.isList (by k_asm) (by k_mem)); (case hv => assumption); (case hz => omega); k_whole); intro _ _)
  k_with "call builtin:ord" => (k_here; k_dflt (refine' ord_of_char ?_; k_whole))
  trivial
inductive RecPost (news : Led) (k : PySem.Str) (n1 n2 n3 : Int) (v : Value) (nw : Led) : Prop
  | mk (x dx : Addr) (es : List DictEntry) (n : Nat) (e1 : v = .ref x) (e2 : nw = (x, instObj 213 dx) :: (dx, dictOf es n) :: news) (h1 : ∀ p ∈ news, p.1 < dx) (h2 : dx < x) (h3 : RecEs es k n1 n2 n3)
theorem c_record {w : World} {news : Led} {k : PySem.Str} {tk : Tok} {n1 n2 n3 n4 : Int} {t1 t2 t3 t4 : Tok} :
    Con w 3 200 news 213 [.str k tk, .int n1 t1, .int n2 t2, .int n3 t3, .int n4 t4] (RecPost news k n1 n2 n3) := by
  unfold Con; intro mean mg mb dp un gd cn cs xa ccd cl outer A₀ base h₀ L m s Q E B F X₀ N T hk hd hu hret
  revert X₀; k_fill; intro X₀
  k_dflt (refine' call_cls ?k1 ?k2 ?k3 ?k4 ?k5 ?k6 ?_; (case k1 => k_asm); (case k2 => k_asm); (case k3 => k_asm); (case k4 => k_is); (case k5 => k_is); (case k6 => k_is); k_whole; intro x dx h1 F1 N1 hlt hx)
  have hx' : @LT.lt Nat _ dx x := hx
  have hne : ∀ p ∈ news, p.1 ≠ dx := fun p hp => Nat.ne_of_lt (hlt p hp)
  k_dflt cell_enter
  k_steps
  refine' hret _ _ _ _ ?hP ?hF ?hN; (case hF => k_asm); (case hN => k_asm); (case hP => exact ⟨_, _, _, _, rfl, rfl, hlt, hx, ⟨_, by k_get⟩, ⟨_, by k_get⟩, ⟨_, by k_get⟩, ⟨_, by k_get⟩⟩)
end Mine
end
section
open PySem PySem.W PySem.Calls PyProof.Rows PySem.Spec PyProof.V
namespace Mine
noncomputable abbrev By := Array UInt8
noncomputable abbrev Font := List (Str × By)
noncomputable def tagL : List Str := [Str.ofString "cmap", Str.ofString "glyf", Str.ofString "head", Str.ofString "post"]
/-- the pairs of a dict of octets, and what they say -/
inductive KvsAre : List (Str × Value) → Font → Prop
  | nil : KvsAre [] []
  | cons {k b t r r'} : KvsAre r r' → KvsAre ((k, .bytes b t) :: r) ((k, b) :: r')
theorem KvsAre.keys : ∀ {kvs F}, KvsAre kvs F → kvs.map (·.1) = F.map (·.1)
  | _, _, .nil => rfl
  | _, _, .cons h => by simp [h.keys]
theorem KvsAre.length {kvs F} (h : KvsAre kvs F) : kvs.length = F.length := by have := congrArg List.length h.keys; simpa using this
noncomputable def lookF (F : Font) (k : Str) : Option By := (F.find? fun x => x.1 = k).map (·.2)
theorem KvsAre.look : ∀ {kvs F}, KvsAre kvs F → ∀ {k b}, lookF F k = some b → ∃ t, valueAt kvs k = some (.bytes b t)
  | _, _, .nil, k, b, h => by simp [lookF] at h
  | _, _, .cons (k := k') (b := b') (t := t) (r := r) (r' := r') h, k, b, hb => by
    unfold lookF at hb
    unfold valueAt
    by_cases e : k' = k
    · subst e
      simp at hb; subst hb
      exact ⟨t, by simp⟩
    · simp [e] at hb
      have := h.look (k := k) (b := b) (by unfold lookF; simpa using hb)
      unfold valueAt at this
      simpa [e] using this
/-- the tables of a font, as they lie in the ledger -/
structure TabAt' (prog : Program) (w : World) (news : Led) (d : Addr) (F : Font) : Prop where
  ex : ∃ o kvs, (d, o) ∈ news ∧ o.IsDictOf (strKind prog w) kvs ∧ KvsAre kvs F
  lo : (d == sysModules) = false
  keys : (F.map (·.1)).Sublist tagL
  few : ∀ x ∈ F, x.2.size ≤ 6
theorem TabAt'.sub {prog : Program} {w : World} {news news' : Led} {d : Addr} {F : Font} (h : TabAt' prog w news d F) (hs : ∀ p ∈ news, p ∈ news') : TabAt' prog w news' d F :=
  ⟨let ⟨o, kvs, a, b, c⟩ := h.ex; ⟨o, kvs, hs _ a, b, c⟩, h.lo, h.keys, h.few⟩

section
variable {prog : Program} {w : World} {A : Around} {E : Value → Shared → Prop} {s : Shared} {h₀ : Heap} {L : Addr} {m : Str → Option Value} {news : Led}
theorem gt_rich {x y : Str} {t u : Tok} {Q : Value → Shared → Prop} (h : Q (.bool (y.cps.toList < x.cps.toList)) s) : wpAny (model prog w) A (richCompare .Gt (.str x t) (.str y u)) Q E s :=
  wpAny_richCompare_same (op := .Gt) (T := "str") (typeIs_str s x t) (typeIs_str s y u) PyProof.Rows.slot_str_gt
    (wpAny_call_entry PyProof.Rows.slot_str_gt (typeIs_str s x t) PyProof.Rows.entry_str_gt (show wpAny _ _ (ret (.bool (y.cps.toList < x.cps.toList))) _ _ s from wpAny_pure ⟨_, rfl, by simp, h⟩) (PyProof.Rows.args_str_gt _ _))
theorem gt_str {x y : Str} {t u : Tok} {Q : Value → Shared → Prop} (h : Q (.bool (y.cps.toList < x.cps.toList)) s) : wpAny (model prog w) A (compareOp .Gt (.str x t) (.str y u)) Q E s := by
  show wpAny _ _ (richCompare .Gt (.str x t) (.str y u)) Q E s
  exact gt_rich h
noncomputable def signN (x : Str) (i : Nat) : List Nat := match x.cps[i]? with | some c => [c] | none => []
theorem SignAt.is {x : Str} {i : Nat} {v : Value} (h : SignAt x i v) : ∃ u c, v = .str ⟨#[c]⟩ u ∧ signN x i = [c] := by
  obtain ⟨c, u, e, rfl⟩ := h
  exact ⟨u, c, rfl, by simp [signN, e]⟩
theorem letters {x : Str} {t : Tok} {Q : Value → Shared → Prop} (hh : A.handled = none) (hne : 0 < x.cps.size) {bt : Nat → Nat → Bool} {op : CmpOp} (hc : CmpOf prog w A.in1 op (SignAt x) bt)
    (h : ∀ (i c : Nat) (u : Tok) h' tk, x.cps[i]? = some c → (∀ b o, s.heap.get? b = some o → h'.get? b = some o) → Q (.str ⟨#[c]⟩ u) { s with heap := h', toks := tk }) :
    wpAny (model prog w) A.in1 (pyIter (.str x t)) (fun it s₂ => ∃ I fp wr n P St bt, it = .ref I ∧ Walks prog w A.in1 I fp wr n P St ∧ St 0 s₂.heap ∧ (∀ b ∈ fp, b < s₂.heap.objs.size) ∧ 0 < n ∧ CmpOf prog w A.in1 op P bt ∧
      ∀ v h' tk, P (argBest bt (n - 1)) v → (∀ b o, b ∉ wr → s₂.heap.get? b = some o → h'.get? b = some o) → Q v { s₂ with heap := h', toks := tk }) E s := by
  have last : ∀ (oI : Obj) (v : Value) (h' : Heap) (tk : Nat), SignAt x (argBest bt (x.cps.size - 1)) v → (∀ b o, b ∉ [s.heap.objs.size] → (s.heap.push oI).get? b = some o → h'.get? b = some o) → Q v { s with heap := h', toks := tk } := by
    rintro oI v h' tk ⟨c, u, e, rfl⟩ hk
    exact h _ c u h' tk e fun b o eb => hk b o (fun hb => absurd (Heap.lt_size eb) (by rw [List.mem_singleton.mp hb]; exact Nat.lt_irrefl _)) (Heap.get?_push_of_some _ eb)
  have hfp : ∀ (oI : Obj), ∀ b ∈ [s.heap.objs.size], b < (s.heap.push oI).objs.size := fun oI b hb => by rw [List.mem_singleton.mp hb, Heap.size_push]; exact Nat.lt_succ_self _
  cases ha : x.cps.all (· < 128)
  · refine wpAny_pyIter_wide ha ?_
    exact ⟨_, _, _, _, _, _, bt, rfl, Walks.strWide (A := A.in1) hh _ x t, ⟨_, Heap.get?_push_size _ rfl, rfl, rfl⟩, hfp _, hne, hc, last _⟩
  · refine wpAny_pyIter_ascii ha ?_
    exact ⟨_, _, _, _, _, _, bt, rfl, Walks.strAscii (A := A.in1) hh _ x t, ⟨_, Heap.get?_push_size _ rfl, rfl, rfl⟩, hfp _, hne, hc, last _⟩
theorem min_letter {x : Str} {t : Tok} {Q : Value → Shared → Prop} (hh : A.handled = none) (F : Fr h₀ L s.heap m) (N : News h₀ L s.heap news) (hne : 0 < x.cps.size)
    (h : ∀ (i c : Nat) (u : Tok) h' tk, x.cps[i]? = some c → Fr h₀ L h' m → News h₀ L h' news → Q (.str ⟨#[c]⟩ u) { s with heap := h', toks := tk }) :
    wpAny (model prog w) A (call (.builtin "min") [.str x t]) Q E s := by
  refine call_min_walk (letters (bt := fun i j => decide (signN x i < signN x j)) hh hne (fun i j vi vj s Q E hi hj hQ => ?_) fun i c u h' tk e hk => h i c u h' tk e (F.grownK hk) (N.grown hk))
  obtain ⟨u, c, rfl, e1⟩ := SignAt.is hi
  obtain ⟨u', c', rfl, e2⟩ := SignAt.is hj
  dsimp only at hQ; rw [e1, e2] at hQ
  exact lt_str hQ
theorem max_letter {x : Str} {t : Tok} {Q : Value → Shared → Prop} (hh : A.handled = none) (F : Fr h₀ L s.heap m) (N : News h₀ L s.heap news) (hne : 0 < x.cps.size)
    (h : ∀ (i c : Nat) (u : Tok) h' tk, x.cps[i]? = some c → Fr h₀ L h' m → News h₀ L h' news → Q (.str ⟨#[c]⟩ u) { s with heap := h', toks := tk }) :
    wpAny (model prog w) A (call (.builtin "max") [.str x t]) Q E s := by
  refine call_max_walk (letters (bt := fun i j => decide (signN x j < signN x i)) hh hne (fun i j vi vj s Q E hi hj hQ => ?_) fun i c u h' tk e hk => h i c u h' tk e (F.grownK hk) (N.grown hk))
  obtain ⟨u, c, rfl, e1⟩ := SignAt.is hi
  obtain ⟨u', c', rfl, e2⟩ := SignAt.is hj
  dsimp only at hQ; rw [e1, e2] at hQ
  exact gt_rich hQ
theorem notin_K {K : Frag} {a : Addr} {items : Array Value} {od : Option Addr} {osl : Array (Option Value)} {n : Nat} {ns : List Int} {x : Int} {u : Tok} {Q : Value → Shared → Prop} (F : Fr h₀ L s.heap m) (X : K.In h₀) (hK : K.lookup a = some ⟨.type "tuple", od, .seq items n, osl⟩) (hi : IntsAre items.toList ns)
    (h : Q (.bool (!(ns.any (· == x)))) s) : wpAny (model prog w) A (compareOp .NotIn (.int x u) (.ref a)) Q E s :=
  notin_tuple_ints ⟨_, X.keeps F.keep _ _ hK, rfl, _, rfl⟩ hi h
/-- the tags of a font, by what they say -/
theorem tag_facts {k : Str} (h : k ∈ tagL) : k.length = 4 ∧ k.cps.size = 4 ∧ ∀ (i c : Nat), k.cps[i]? = some c → 32 ≤ c ∧ c ≤ 126 := by
  have key : ∀ k ∈ tagL, k.length = 4 ∧ k.cps.size = 4 ∧ ∀ c ∈ k.cps.toList, 32 ≤ c ∧ c ≤ 126 := by decide +kernel
  obtain ⟨a, b, c⟩ := key k h
  exact ⟨a, b, fun (i x : Nat) (e : k.cps[i]? = some x) => c x (by rw [← Array.getElem?_toList] at e; exact List.mem_of_getElem? e)⟩
end

theorem KvsAre.at : ∀ {kvs G}, KvsAre kvs G → ∀ {i : Nat} {k : Str} {x : Value}, kvs[i]? = some (k, x) → ∃ b t, x = .bytes b t ∧ G[i]? = some (k, b)
  | _, _, .nil, i, k, x, h => by simp at h
  | _, _, .cons (b := b) (t := t) h, 0, k, x, e => by simp at e; obtain ⟨rfl, rfl⟩ := e; exact ⟨b, t, rfl, by simp⟩
  | _, _, .cons h, i + 1, k, x, e => by simp at e; obtain ⟨b, t, a, c⟩ := h.at e; exact ⟨b, t, a, by simpa using c⟩
theorem key_str {prog : Program} {w : World} {k : Str} {v : Value} (h : (PySem.strKind prog w).is k v = true) : ∃ t, v = .str k t := Value.isStrOf_shape h
theorem tag_mem {G : Font} (h : (G.map (·.1)).Sublist tagL) {i : Nat} {k : Str} {b : By} (e : G[i]? = some (k, b)) : k ∈ tagL :=
  h.subset (List.mem_map.mpr ⟨(k, b), List.mem_of_getElem? e, rfl⟩)

theorem cps_sp : (Str.ofString " ").cps.toList = [32] := by decide +kernel
theorem cps_ti : (Str.ofString "~").cps.toList = [126] := by decide +kernel
theorem not_lt_sp {c : Nat} (h : 32 ≤ c) : ¬ (⟨#[c]⟩ : Str).cps.toList < (Str.ofString " ").cps.toList := by
  rw [cps_sp]; intro h'
  have : [c] < [32] := h'
  simp [List.cons_lt_cons_iff] at this
  omega
theorem not_ti_lt {c : Nat} (h : c ≤ 126) : ¬ (Str.ofString "~").cps.toList < (⟨#[c]⟩ : Str).cps.toList := by
  rw [cps_ti]; intro h'
  have : [126] < [c] := h'
  simp [List.cons_lt_cons_iff] at this
  omega

section
variable {prog : Program} {w : World} {A : Around} {E : Value → Shared → Prop} {s : Shared} {h₀ : Heap} {L : Addr} {m : Str → Option Value} {news : Led}
theorem len_news {l : Addr} {vs : List Value} {n : Nat} {Q : Value → Shared → Prop} (N : News h₀ L s.heap news) (hm : (l, listOf vs.toArray n) ∈ news) (hz : vs.length ≤ 100000)
    (h : Q (.int vs.length (s.toks + 1)) { s with toks := s.toks + 1 + 1 }) : wpAny (model prog w) A (call (.builtin "len") [.ref l]) Q E s :=
  len_list (News.isList N hm) (by simp; omega) (by simpa using h)
theorem item_news {value slice : Expr} {l : Addr} {vs : List Value} {n : Nat} {k : Int} {u : Tok} {x : Value} {Q : Value → Shared → Prop} (N : News h₀ L s.heap news) (hm : (l, listOf vs.toArray n) ∈ news)
    (h0 : 0 ≤ k) (hz : k < 100000) (hx : vs[k.toNat]? = some x) (h : Q x s)
    (hs : subscripted slice false (.ref l) (.int k u) = operate [.ref l, .int k u] (getItem (.ref l) (.int k u))) (hg : ∀ r, letTemporaryGo value (.ref l) r = pure ()) :
    wpAny (model prog w) A (subscriptTail value slice (.ref l) (.int k u)) Q E s :=
  item_list (News.isList N hm) h0 (by omega) (by simpa using hx) h hs hg
end

noncomputable def tokAt (vs : List Value) (i : Nat) : Tok := match vs[i]? with | some (.int _ t) => t | _ => 0
theorem pick_int : ∀ {vs : List Value} {ns : List Int}, IntsAre vs ns → ∀ {i : Nat}, i < ns.length → vs[i]? = some (.int (ns.getD i 0) (tokAt vs i))
  | _, _, .nil, i, h => by simp at h
  | _, _, .cons n t h, 0, _ => by simp [tokAt]
  | _, _, .cons n t h, i + 1, hi => by have := pick_int h (i := i) (by simpa using hi); simpa [tokAt] using this
end Mine
end
section
open Lean Elab Tactic Meta PySem PySem.W PySem.Calls PyProof.Rows
namespace Mine
theorem setup11 : True := by
  k_with_none
  w_top off
  k_with "k_all" => first | assumption | exact Apart.off (by assumption) (by k_mem) (by simp)
  k_with "k_mem" => first | with_reducible assumption | exact List.Mem.head _ | (refine' List.mem_cons_of_mem _ ?_; k_mem)
  k_with "cellc_enter" => (refine' code_defC ?k1 ?k2 ?k3 ?k4 ?k5 ?kA ?kF ?kK ?k6 ?k7 ?k8 ?k9 ?kB ?kD ?_ ?c2 ?c3 ?c4; (case kA => exact rfl); (case kF => exact rfl); (case kK => assumption); (case k1 => k_asm); (case k2 => k_asm); (case k3 => k_asm); (case k4 => k_asm); (case k5 => k_asm); (case k6 => k_is); (case k7 => k_is); (case k8 => ktr_room); (case k9 => exact BindsTo.of_eq rfl); (case kB => exact rfl); (case kD => decide +kernel); (case c2 => exact rfl); (case c3 => exact rfl); (case c4 => exact rfl); k_whole; intro g' L' h' tk' cells' FG' F' N' Y' B' X' T' l1; (try k_lt l1); k_cells Y'; (try simp only [List.cons_append, List.nil_append] at N'); (try dsimp only); (try k_lift B'); (try k_fold))
  k_with "eval ListComp" => (k_here; refine' comp_Jf ?kF ?c1 ?c2 ?c3 ?c4 ?c5 ?c6 ?_; (case kF => k_asm); (case c1 => with_unfolding_all rfl); (case c2 => decide); (case c3 => with_unfolding_all rfl); (case c4 => decide); (case c5 => with_unfolding_all rfl); (case c6 => intro _; with_unfolding_all rfl); k_whole; (try k_fold))
  k_with "exec Assign cons ListComp" => (k_here; refine' comp_Jaf ?kF ?c0 ?c1 ?c2 ?c3 ?c4 ?c5 ?c7 ?c8 ?c6 ?_; (case kF => k_asm); (case c0 => with_unfolding_all rfl); (case c1 => with_unfolding_all rfl); (case c2 => decide); (case c3 => with_unfolding_all rfl); (case c4 => decide); (case c5 => with_unfolding_all rfl); (case c7 => with_unfolding_all rfl); (case c8 => with_unfolding_all rfl); (case c6 => intro _; with_unfolding_all rfl); k_whole; (try k_fold))
  k_with "exec For" => (k_here; refine' for_Jf ?kF ?c1 ?c2 ?_; (case kF => k_asm); (case c1 => intro _; with_unfolding_all rfl); (case c2 => intro _ _; with_unfolding_all rfl); k_whole; (try k_fold))
  k_with "eval Name" => (k_here; k_dflt (refine' nameX_L ?F ?v ?_ ?c ?a ?b; (case F => k_asm); (case c => rfl); (case a => rfl); (case b => decide); (case v => assumption); k_whole))
  k_with "eval Name" => (k_here; k_inBlock; k_dflt (refine' name_compF ?kN ?kc ?km ?kd ?_ ?k1 ?k2 ?k3 ?k4; (case k1 => rfl); (case k2 => rfl); (case k3 => decide); (case k4 => decide); (case kN => k_asm); (case kc => rfl); (case km => k_mem); (case kd => k_asm); k_whole))
  k_with "eval Name" => (k_here; k_inBlock; k_dflt (refine' name_compC ?kN ?kc ?km ?kd ?_ ?k1 ?k2 ?k3; (case k1 => rfl); (case k2 => rfl); (case k3 => decide); (case kN => k_asm); (case kc => rfl); (case km => k_mem); (case kd => k_asm); k_whole))
  k_with "eval Name" => (k_here; k_inBlock; k_dflt (refine' name_comp ?kN ?km ?kn ?kv ?_ ?k1 ?k2 ?k3; (case k1 => rfl); (case k2 => rfl); (case k3 => decide); (case kN => k_asm); (case kn => assumption); (case km => k_mem); (case kv => rfl); k_whole))
  k_with "call type:bytes" => (k_here; k_dflt (refine' call_bytes_ba ?ho ?hz ?_; (case ho => exact ((by k_asm : News _ _ _ _) _ (by k_mem)).1); (case hz => omega); k_whole); intro _ _)
  k_with "call type:bytes" => (k_here; k_dflt (refine' call_bytes_n ?h0 ?h1 ?_; (case h0 => first | omega | (refine Int.fmod_nonneg_of_pos _ ?_; omega) | (simp; omega)); (case h1 => omega); k_whole); intro _ _)
  k_with "call type:bytes" => (k_here; k_dflt (refine' KBa.make_K ?kF ?kN ?kh ?kl ?ki ?kr ?kz ?_; (case kF => k_asm); (case kN => k_asm); (case kh => rfl); (case kl => exact News.isList (by k_asm) (by k_mem)); (case ki => assumption); (case kr => assumption); (case kz => omega); k_whole); intro _ _ _ F' N' kbaIn)
  k_with "exec For Name Call cons nil" => (k_here; refine' for_Jf ?kF ?c1 ?c2 ?_; (case kF => k_asm); (case c1 => intro _; with_unfolding_all rfl); (case c2 => intro _ _; with_unfolding_all rfl); k_whole; (try k_fold))
  k_with "exec For Name Name cons nil" => (k_here; refine' for_Jf ?kF ?c1 ?c2 ?_; (case kF => k_asm); (case c1 => intro _; with_unfolding_all rfl); (case c2 => intro _ _; with_unfolding_all rfl); k_whole; (try k_fold))
  k_with "exec For Tuple" => (k_here; refine' for_Jf ?kF ?c1 ?c2 ?_; (case kF => k_asm); (case c1 => intro _; with_unfolding_all rfl); (case c2 => intro _ _; with_unfolding_all rfl); k_whole; (try k_fold))
  k_with "exec For Name" => (k_here; refine' for_Jf ?kF ?c1 ?c2 ?_; (case kF => k_asm); (case c1 => intro _; with_unfolding_all rfl); (case c2 => intro _ _; with_unfolding_all rfl); k_whole; (try k_fold))
  k_with "binaryOp Add bytes bytes" => (k_here; k_dflt (refine' KBy.add_bytes ?hz ?_; (case hz => first | omega | (simp only [Array.size_replicate]; omega)); k_whole); intro _ _)
  k_with "call builtin:len" => (k_here; (with_reducible show wpAny _ _ (call (Value.builtin "len") [Value.ref _]) _ _ _); k_dflt (refine' kda_len (knd := PySem.strKind _ _) ?N ?m ?d ?lo ?z ?_; (case N => k_asm); (case m => k_mem); (case d => assumption); (case lo => assumption); (case z => omega); k_whole))
  k_with "call builtin:len" => (k_here; k_dflt (refine' len_str ?z ?_; (case z => omega); k_whole))
  k_with "call builtin:len" => (k_here; (with_reducible show wpAny _ _ (call (Value.builtin "len") [Value.bytes _ _]) _ _ _); k_dflt (refine' len_bytes ?z ?_; (case z => first | omega | (simp only [Array.size_append, Array.size_replicate]; omega)); k_whole))
  k_with "celln_enter" => (refine' codeN_defC ?k1 ?k2 ?k3 ?k4 ?k5 ?kA ?kF ?kK ?k6 ?k7 ?k8 ?k9 ?kB ?kD ?_ ?c2 ?c3 ?c4; (case kA => exact rfl); (case kF => exact rfl); (case kK => assumption); (case k1 => k_asm); (case k2 => k_asm); (case k3 => k_asm); (case k4 => k_asm); (case k5 => k_asm); (case k6 => k_is); (case k7 => k_is); (case k8 => ktr_room); (case k9 => exact BindsTo.of_eq rfl); (case kB => exact rfl); (case kD => decide +kernel); (case c2 => exact rfl); (case c3 => exact rfl); (case c4 => exact rfl); k_whole; intro g' L' h' tk' cells' FG' F' N' Y' B' X' T' l1; (try k_lt l1); (first | k_cells Y' | (cases Y')); (try simp only [List.cons_append, List.nil_append] at N'); (try dsimp only); (try k_lift B'); (try k_fold))
  k_with "getMethod ref" => (k_here; (with_reducible show wpAny _ _ (getMethod (Value.ref _) (PySem.Str.ofString "extend") _) _ _ _); k_dflt (refine' ba_method ?kN ?km ?_; (case kN => k_asm); (case km => k_mem); k_whole))
  k_with "getMethod bytes" => (k_here; k_dflt (refine' by_method ?_; k_whole))
  k_with "call builtin:bytes.join" => (k_here; k_dflt (refine' by_join ?hl ?hv ?hz ?_; (case hl => exact News.isList (by k_asm) (by k_mem)); (case hv => assumption); (case hz => omega); k_whole); intro _ _)
  k_with "call builtin:ord" => (k_here; k_dflt (refine' ord_of_char ?_; k_whole))
  k_with "compareOp NotIn" => (k_here; k_dflt (refine' notin_K ?kF ?kX ?kK ?ki ?_; (case kF => k_asm); (case kX => k_asm); (case kK => k_is); (case ki => exact IntsAre.cons _ _ (IntsAre.cons _ _ (IntsAre.cons _ _ IntsAre.nil))); k_whole))
  k_with "compareOp NotIn int ref" => (k_here; k_dflt (refine' notin_K ?kF ?kX ?kK ?ki ?_; (case kF => k_asm); (case kX => k_asm); (case kK => k_is); (case ki => exact IntsAre.cons _ _ (IntsAre.cons _ _ (IntsAre.cons _ _ IntsAre.nil))); k_whole))
  k_with "call builtin:min" => (k_here; k_dflt (refine' min_letter ?hh ?hF ?hN ?hz ?_; (case hh => with_unfolding_all rfl); (case hF => k_asm); (case hN => k_asm); (case hz => omega); k_whole); intro _ c9 _ _ _ hc9 F9 N9; (try k_sweep); (try k_fold))
  k_with "call builtin:max" => (k_here; k_dflt (refine' max_letter ?hh ?hF ?hN ?hz ?_; (case hh => with_unfolding_all rfl); (case hF => k_asm); (case hN => k_asm); (case hz => omega); k_whole); intro _ d9 _ _ _ hd9 F9 N9; (try k_sweep); (try k_fold))
  trivial
theorem c_need {w : World} {news : Led} {d : Addr} {G : Font} {t : Tok} (hD : TabAt' PySem.Challenge.rw_pb0184_01.row.prog w news d G) (hF : G ≠ []) :
    Con w 2 200 news 266 [.int 65536 t, .ref d] (fun v nw => nw = news ∧ v = .none) := by
  unfold Con; intro mean mg mb dp un gd cn cs xa ccd cl outer A₀ base h₀ L m s Q E B F X₀ N T hk hd hu hret
  revert X₀; k_fill; intro X₀
  refine wpAny_call ?_
  obtain ⟨⟨od, kvs, hdm, hod, hkv⟩, hlo, hks, hfew⟩ := hD
  have hkl := hkv.length
  have hl4 : G.length ≤ 4 := by have := hks.length_le; simpa [tagL] using this
  have hl1 : 0 < G.length := List.length_pos_iff.mpr hF
  k_dflt cell_enter
  k_steps
  obtain ⟨ep, hat⟩ := KdkAt.of hod
  have hDL := News.neL (by k_asm) hdm
  k_dflt (refine' iters_dict (knd := PySem.strKind _ _) ?hh ?hF ?hN ?hlo ?hd ?hL ?_; (case hh => with_unfolding_all rfl); (case hF => k_asm); (case hN => k_asm); (case hlo => exact hlo); (case hd => exact hat.dictAt ((by k_asm : News _ _ _ _) _ hdm).1); (case hL => exact hDL))
  rintro fp wr St h2 tk2 T2
  dsimp only
  refine ⟨_, _, _, _, _, _, _, _, _, _, T2, fun i m nw => nw = news, rfl, ?_, ?_⟩
  · rintro Qx j v m₁ nw own h3 tk3 E' hi ⟨k, x, hx, hkk⟩ hnw F3 N3 hap
    subst nw
    obtain ⟨t, rfl⟩ := key_str hkk
    obtain ⟨b, tb, rfl, hGj⟩ := hkv.at hx
    obtain ⟨hl, hcs, hcc⟩ := tag_facts (tag_mem hks hGj)
    have hl5 : ((k.length : Nat) : Int) = 4 := by omega
    (try k_unmd); (try k_fold)
    k_steps
    · exfalso; exact absurd hl5 (by assumption)
    · exfalso; exact not_lt_sp (hcc _ _ (by assumption)).1 (by assumption)
    · exfalso; exact not_ti_lt (hcc _ _ hd9).2 (by assumption)
    all_goals (refine' ⟨_, _, _, _, ?hF, ?hN, hap, ?hJ⟩; (case hF => k_asm); (case hN => k_asm); (case hJ => exact rfl))
  · rintro h4 tk4 m4 nw F4 N4 hnw
    subst nw
    k_steps
    all_goals (refine' hret _ _ _ (news) ?hP ?hF ?hN; (case hF => k_asm); (case hP => exact ⟨rfl, rfl⟩); (case hN => first | k_asm | exact News.sub (by k_asm) (by intro _ hp; repeat (first | exact hp | apply List.mem_cons_of_mem))))

end Mine
end
section
open Lean Elab Tactic Meta PySem PySem.W PySem.Calls PyProof.Rows
namespace Mine
theorem setup12 : True := by
  k_with_none
  w_top off
  k_with "k_all" => first | assumption | exact Apart.off (by assumption) (by k_mem) (by simp)
  k_with "k_mem" => first | with_reducible assumption | exact List.Mem.head _ | (refine' List.mem_cons_of_mem _ ?_; k_mem)
  k_with "cellc_enter" => (refine' code_defC ?k1 ?k2 ?k3 ?k4 ?k5 ?kA ?kF ?kK ?k6 ?k7 ?k8 ?k9 ?kB ?kD ?_ ?c2 ?c3 ?c4; (case kA => exact rfl); (case kF => exact rfl); (case kK => assumption); (case k1 => k_asm); (case k2 => k_asm); (case k3 => k_asm); (case k4 => k_asm); (case k5 => k_asm); (case k6 => k_is); (case k7 => k_is); (case k8 => ktr_room); (case k9 => exact BindsTo.of_eq rfl); (case kB => exact rfl); (case kD => decide +kernel); (case c2 => exact rfl); (case c3 => exact rfl); (case c4 => exact rfl); k_whole; intro g' L' h' tk' cells' FG' F' N' Y' B' X' T' l1; (try k_lt l1); k_cells Y'; (try simp only [List.cons_append, List.nil_append] at N'); (try dsimp only); (try k_lift B'); (try k_fold))
  k_with "eval ListComp" => (k_here; refine' comp_Jf ?kF ?c1 ?c2 ?c3 ?c4 ?c5 ?c6 ?_; (case kF => k_asm); (case c1 => with_unfolding_all rfl); (case c2 => decide); (case c3 => with_unfolding_all rfl); (case c4 => decide); (case c5 => with_unfolding_all rfl); (case c6 => intro _; with_unfolding_all rfl); k_whole; (try k_fold))
  k_with "exec Assign cons ListComp" => (k_here; refine' comp_Jaf ?kF ?c0 ?c1 ?c2 ?c3 ?c4 ?c5 ?c7 ?c8 ?c6 ?_; (case kF => k_asm); (case c0 => with_unfolding_all rfl); (case c1 => with_unfolding_all rfl); (case c2 => decide); (case c3 => with_unfolding_all rfl); (case c4 => decide); (case c5 => with_unfolding_all rfl); (case c7 => with_unfolding_all rfl); (case c8 => with_unfolding_all rfl); (case c6 => intro _; with_unfolding_all rfl); k_whole; (try k_fold))
  k_with "exec For" => (k_here; refine' for_Jf ?kF ?c1 ?c2 ?_; (case kF => k_asm); (case c1 => intro _; with_unfolding_all rfl); (case c2 => intro _ _; with_unfolding_all rfl); k_whole; (try k_fold))
  k_with "eval Name" => (k_here; k_dflt (refine' nameX_L ?F ?v ?_ ?c ?a ?b; (case F => k_asm); (case c => rfl); (case a => rfl); (case b => decide); (case v => assumption); k_whole))
  k_with "eval Name" => (k_here; k_inBlock; k_dflt (refine' name_compF ?kN ?kc ?km ?kd ?_ ?k1 ?k2 ?k3 ?k4; (case k1 => rfl); (case k2 => rfl); (case k3 => decide); (case k4 => decide); (case kN => k_asm); (case kc => rfl); (case km => k_mem); (case kd => k_asm); k_whole))
  k_with "eval Name" => (k_here; k_inBlock; k_dflt (refine' name_compC ?kN ?kc ?km ?kd ?_ ?k1 ?k2 ?k3; (case k1 => rfl); (case k2 => rfl); (case k3 => decide); (case kN => k_asm); (case kc => rfl); (case km => k_mem); (case kd => k_asm); k_whole))
  k_with "eval Name" => (k_here; k_inBlock; k_dflt (refine' name_comp ?kN ?km ?kn ?kv ?_ ?k1 ?k2 ?k3; (case k1 => rfl); (case k2 => rfl); (case k3 => decide); (case kN => k_asm); (case kn => assumption); (case km => k_mem); (case kv => rfl); k_whole))
  k_with "call type:bytes" => (k_here; k_dflt (refine' call_bytes_ba ?ho ?hz ?_; (case ho => exact ((by k_asm : News _ _ _ _) _ (by k_mem)).1); (case hz => omega); k_whole); intro _ _)
  k_with "call type:bytes" => (k_here; k_dflt (refine' call_bytes_n ?h0 ?h1 ?_; (case h0 => first | omega | (refine Int.fmod_nonneg_of_pos _ ?_; omega) | (simp; omega)); (case h1 => omega); k_whole); intro _ _)
  k_with "call type:bytes" => (k_here; k_dflt (refine' KBa.make_K ?kF ?kN ?kh ?kl ?ki ?kr ?kz ?_; (case kF => k_asm); (case kN => k_asm); (case kh => rfl); (case kl => exact News.isList (by k_asm) (by k_mem)); (case ki => assumption); (case kr => assumption); (case kz => omega); k_whole); intro _ _ _ F' N' kbaIn)
  k_with "exec For Name Call cons nil" => (k_here; refine' for_Jf ?kF ?c1 ?c2 ?_; (case kF => k_asm); (case c1 => intro _; with_unfolding_all rfl); (case c2 => intro _ _; with_unfolding_all rfl); k_whole; (try k_fold))
  k_with "exec For Name Name cons nil" => (k_here; refine' for_Jf ?kF ?c1 ?c2 ?_; (case kF => k_asm); (case c1 => intro _; with_unfolding_all rfl); (case c2 => intro _ _; with_unfolding_all rfl); k_whole; (try k_fold))
  k_with "exec For Tuple" => (k_here; refine' for_Jf ?kF ?c1 ?c2 ?_; (case kF => k_asm); (case c1 => intro _; with_unfolding_all rfl); (case c2 => intro _ _; with_unfolding_all rfl); k_whole; (try k_fold))
  k_with "exec For Name" => (k_here; refine' for_Jf ?kF ?c1 ?c2 ?_; (case kF => k_asm); (case c1 => intro _; with_unfolding_all rfl); (case c2 => intro _ _; with_unfolding_all rfl); k_whole; (try k_fold))
  k_with "binaryOp Add bytes bytes" => (k_here; k_dflt (refine' KBy.add_bytes ?hz ?_; (case hz => first | omega | (simp only [Array.size_replicate]; omega)); k_whole); intro _ _)
  k_with "call builtin:len" => (k_here; (with_reducible show wpAny _ _ (call (Value.builtin "len") [Value.ref _]) _ _ _); k_dflt (refine' len_news ?N ?m ?z ?_; (case N => k_asm); (case m => k_mem); (case z => omega); k_whole))
  k_with "call builtin:len" => (k_here; (with_reducible show wpAny _ _ (call (Value.builtin "len") [Value.ref _]) _ _ _); k_dflt (refine' kda_len (knd := PySem.strKind _ _) ?N ?m ?d ?lo ?z ?_; (case N => k_asm); (case m => k_mem); (case d => assumption); (case lo => assumption); (case z => omega); k_whole))
  k_with "call builtin:len" => (k_here; k_dflt (refine' len_str ?z ?_; (case z => omega); k_whole))
  k_with "call builtin:len" => (k_here; (with_reducible show wpAny _ _ (call (Value.builtin "len") [Value.bytes _ _]) _ _ _); k_dflt (refine' len_bytes ?z ?_; (case z => first | omega | (simp only [Array.size_append, Array.size_replicate]; omega)); k_whole))
  k_with "celln_enter" => (refine' codeN_defC ?k1 ?k2 ?k3 ?k4 ?k5 ?kA ?kF ?kK ?k6 ?k7 ?k8 ?k9 ?kB ?kD ?_ ?c2 ?c3 ?c4; (case kA => exact rfl); (case kF => exact rfl); (case kK => assumption); (case k1 => k_asm); (case k2 => k_asm); (case k3 => k_asm); (case k4 => k_asm); (case k5 => k_asm); (case k6 => k_is); (case k7 => k_is); (case k8 => ktr_room); (case k9 => exact BindsTo.of_eq rfl); (case kB => exact rfl); (case kD => decide +kernel); (case c2 => exact rfl); (case c3 => exact rfl); (case c4 => exact rfl); k_whole; intro g' L' h' tk' cells' FG' F' N' Y' B' X' T' l1; (try k_lt l1); (first | k_cells Y' | (cases Y')); (try simp only [List.cons_append, List.nil_append] at N'); (try dsimp only); (try k_lift B'); (try k_fold))
  k_with "getMethod ref" => (k_here; (with_reducible show wpAny _ _ (getMethod (Value.ref _) (PySem.Str.ofString "extend") _) _ _ _); k_dflt (refine' ba_method ?kN ?km ?_; (case kN => k_asm); (case km => k_mem); k_whole))
  k_with "getMethod bytes" => (k_here; k_dflt (refine' by_method ?_; k_whole))
  k_with "call builtin:bytes.join" => (k_here; k_dflt (refine' by_join ?hl ?hv ?hz ?_; (case hl => exact News.isList (by k_asm) (by k_mem)); (case hv => assumption); (case hz => omega); k_whole); intro _ _)
  k_with "call builtin:ord" => (k_here; k_dflt (refine' ord_of_char ?_; k_whole))
  k_with "compareOp NotIn" => (k_here; k_dflt (refine' notin_K ?kF ?kX ?kK ?ki ?_; (case kF => k_asm); (case kX => k_asm); (case kK => k_is); (case ki => exact IntsAre.cons _ _ (IntsAre.cons _ _ (IntsAre.cons _ _ IntsAre.nil))); k_whole))
  k_with "compareOp NotIn int ref" => (k_here; k_dflt (refine' notin_K ?kF ?kX ?kK ?ki ?_; (case kF => k_asm); (case kX => k_asm); (case kK => k_is); (case ki => exact IntsAre.cons _ _ (IntsAre.cons _ _ (IntsAre.cons _ _ IntsAre.nil))); k_whole))
  k_with "call builtin:min" => (k_here; k_dflt (refine' min_letter ?hh ?hF ?hN ?hz ?_; (case hh => with_unfolding_all rfl); (case hF => k_asm); (case hN => k_asm); (case hz => omega); k_whole); intro _ c9 _ _ _ hc9 F9 N9; (try k_sweep); (try k_fold))
  k_with "call builtin:max" => (k_here; k_dflt (refine' max_letter ?hh ?hF ?hN ?hz ?_; (case hh => with_unfolding_all rfl); (case hF => k_asm); (case hN => k_asm); (case hz => omega); k_whole); intro _ d9 _ _ _ hd9 F9 N9; (try k_sweep); (try k_fold))
  trivial
inductive DrawPost (rest : Led) (tp c : Addr) (at_ many : Int) (v : Value) (nw : Led) : Prop
  | mk (r : Int) (tr : Tok) (n' : Nat) (ta' : Tok) (e1 : v = .int r tr) (h0 : 0 ≤ r) (h1 : r < many) (e2 : nw = (tp, PySem.W.listOf #[.ref c, .int (at_ + 1) ta'] n') :: rest)
theorem c_draw {w : World} {news : Led} {rest : Led} {tp c : Addr} {vs : List Value} {ns : List Int} {at_ : Int} {n nc : Nat} {ta t : Tok} {many : Int} (hr : ∀ p ∈ rest, p.1 ≠ tp) (hc : (c, PySem.W.listOf vs.toArray nc) ∈ rest) (hi : IntsAre vs ns) (hl : 0 < ns.length ∧ ns.length ≤ 64) (ha : 0 ≤ at_ ∧ at_ ≤ 1000) (hm : 0 < many) :
    Con w 2 200 ((tp, PySem.W.listOf #[.ref c, .int at_ ta] n) :: rest) 291 [.ref tp, .int many t] (DrawPost rest tp c at_ many) := by
  unfold Con; intro mean mg mb dp un gd cn cs xa ccd cl outer A₀ base h₀ L m s Q E B F X₀ N T hk hd hu hret
  revert X₀; k_fill; intro X₀
  refine wpAny_call ?_
  have hcl : vs.length = ns.length := hi.length
  k_dflt cell_enter
  k_steps
  all_goals (refine' hret _ _ _ ((tp, PySem.W.listOf #[.ref c, .int (at_ + 1) _] _) :: rest) ?hP ?hF ?hN; (case hF => k_asm); (case hN => k_asm); (case hP => exact ⟨_, _, _, _, rfl, Int.fmod_nonneg_of_pos _ hm, Int.fmod_lt_of_pos _ hm, rfl⟩))

end Mine
end
section
open PySem PySem.W PySem.Calls PyProof.Rows PySem.Spec PyProof.V
namespace Mine
section
variable {prog : Program} {w : World} {A : Around} {s : Shared} {env : Env} {h₀ : Heap}
inductive ForAtN (prog : Program) (w : World) (A : Around) (env : Env) (target : Expr) (body : List Stmt) (h₀ : Heap) (Q : Flow → Shared → Prop) : Value → Shared → Prop
  | mk (m : Str → Option Value) (led : Led) (src : List Addr) (n : Nat) (P : Nat → Value → Prop) (I : Addr) (fp wr : List Addr) (St : Nat → Heap → Prop) (s₂ : Shared)
    (T : Iters prog w A h₀ env.locals m led src n P I fp wr St s₂) (J : Nat → (Str → Option Value) → Led → Prop) (h0 : J 0 m led)
    (turn : ∀ (Qx : Flow → Shared → Prop) i v m₁ nw own h tk, i < n → P i v → J i m₁ nw → Fr h₀ env.locals h m₁ → News h₀ env.locals h (nw ++ own) → Apart own nw src →
      wpAny (model prog w) A (assign target env v) (fun _ s₃ => wpN (model prog w) A (execs body env) (ForPost h₀ env.locals src own (J (i + 1)) { s₂ with heap := h, toks := tk } Qx) s₃) NoE { s₂ with heap := h, toks := tk })
    (hQ : ∀ h' tk m' nw, Fr h₀ env.locals h' m' → News h₀ env.locals h' nw → J n m' nw → Q .next { s₂ with heap := h', toks := tk }) :
    ForAtN prog w A env target body h₀ Q (.ref I) s₂
theorem N_for_J {target iter : Expr} {body : List Stmt} {pos : Pos} {L : Addr} {m : Str → Option Value} {Q : Flow → Shared → Prop} (F : Fr h₀ L s.heap m) (hs : ∀ x, foldedSetIterable iter env x = pure x) (ht : ∀ I v, letOwnedTupleGo target (.ref I) v = pure ())
    (h : wpAny (model prog w) A (eval iter env) (fun xv s₁ => wpAny (model prog w) A (pyIter xv) (fun it s₂ => ForAtN prog w A env target body h₀ Q it s₂) NoE s₁) NoE s) :
    wpN (model prog w) A (exec (.For target iter body [] pos) env) Q s := by
  refine N_For (wpAny_mono h (fun xv s₁ h₁ => wpAny_mono h₁ (fun it s₂ h₂ => ?_) fun _ _ e => e) fun _ _ e => e) hs
  obtain ⟨m, led, src, n, P, I, fp, wr, St, _, T, J, h0, turn, hQ⟩ := h₂
  refine codeN_forLoop (R := fun f s' => Q f s')
    (LoopI h₀ env.locals wr St J n _) ?_ (n + 1) (.mk _ _ m led 0 T.st T.F T.N T.off h0 (Nat.zero_le _)) (ht I)
  rintro k s' ⟨H, tk, m', nw, i, hst', F', N', hoff', hJ, hi⟩
  by_cases hlt : i < n
  · refine T.W.item i _ _ _ hlt hst' fun v h₁ tk₁ hP hst₁ hk₁ => ?_
    obtain ⟨F₁, NN, hap⟩ := loop_step T F' N' hoff' hk₁
    refine wpAny_mono (turn Q i v m' nw _ _ _ hlt hP hJ F₁ NN hap) (fun _ s₃ h₃ => N_mono h₃ (fun f s₄ h₄ => ?_)) fun _ _ e => e
    cases f with
    | ret v => exact h₄
    | brk => exact h₄
    | cont => exact loop_after T hlt F₁ hst₁ h₄
    | next => exact loop_after T hlt F₁ hst₁ h₄
  · have hin : i = n := by omega
    subst hin
    refine T.W.done _ _ _ hst' fun h₁ tk₁ hk₁ => N_execs_nil ?_
    obtain ⟨F₁, N₁⟩ := step_keeps T.W T.hL T.wr0 F' N' hoff' hk₁
    exact hQ h₁ tk₁ m' nw F₁ N₁ hJ
end

section
variable {M : Model} {A : Around} {s : Shared} {env : Env} {K : Frag}
theorem N_with_K0 {pos : Pos} {f : Value} {first : List Value} {Q : Value → Shared → Prop} (X : K.In s.heap) (hk : keepIn K f = true) (h : wpN M A (call f (first ++ [])) Q s) :
    wpN M A (callWith pos f first (backTo pos (starEach [] env)) []) Q s := by
  show wpN M A (callWith pos f first [] []) Q s
  unfold callWith
  refine N_bindA (wpAny_holding (PyProof.Rows.evalArgs_none (N_bindA (wpAny_standAt ?_))))
  obtain ⟨k, hk', L⟩ := keeps_K (M := M) hk _ X
  simp only [List.any_nil, Bool.or_false]
  refine N_bindA (L.here ?_)
  rcases hk' with rfl | rfl | rfl <;> dsimp only <;> first | exact tailN h | (split <;> first | exact tailN h | exact tailN (by unfold callMarked; exact N_keep h))
theorem N_with_K {pos : Pos} {f : Value} {first : List Value} {e : Expr} {rest : List Expr} {Q : Value → Shared → Prop} (hk : keepIn K f = true)
    (h : wpAny M A (spliced (backTo pos (starEach (e :: rest) env))) (fun vs s₁ => K.In s₁.heap ∧ wpN M A (call f (first ++ vs) []) Q s₁) NoE s)
    (he : backTo pos (starEach (e :: rest) env) = (false, eval e env) :: backTo pos (starEach rest env)) (hplain : (backTo pos (starEach rest env)).any (·.1) = false) :
    wpN M A (callWith pos f first (backTo pos (starEach (e :: rest) env)) []) Q s := by
  rw [he] at h ⊢
  unfold callWith
  refine N_bindA (wpAny_holding (wpAny_mono (evalArgs_plain (f := f) (Q := fun x s₁ => K.In s₁.heap ∧ wpN M A (call f (first ++ x.pos) x.kw) Q s₁) h) (fun a s₁ h₁ => N_bindA (wpAny_standAt ?_)) fun _ _ x => x))
  obtain ⟨k, hk', L⟩ := keeps_K (M := M) hk _ h₁.1
  simp only [List.any_cons, Bool.false_or, hplain, List.any_nil, Bool.or_false]
  refine N_bindA (L.here ?_)
  rcases hk' with rfl | rfl | rfl <;> dsimp only <;> first | exact tailN h₁.2 | (split <;> first | exact tailN h₁.2 | exact tailN (by unfold callMarked; exact N_keep h₁.2))
end
theorem News.swap {h₀ h : Heap} {L : Addr} {p q : Addr × Obj} {r : Led} (N : News h₀ L h (p :: q :: r)) : News h₀ L h (q :: p :: r) := News.sub N fun x hx => by
  rcases List.mem_cons.mp hx with rfl | hx
  · exact .tail _ (.head _)
  · rcases List.mem_cons.mp hx with rfl | hx
    · exact .head _
    · exact .tail _ (.tail _ hx)
end Mine
end
section
open Lean Elab Tactic Meta PySem PySem.W PySem.Calls PyProof.Rows
namespace Mine
theorem ConN.use {w : World} {dn cu : Nat} {news : Led} {fn : Addr} {args : List Value} {post : Value → Led → Prop} {mean : ExcName → Option Value} {mg mb : PySem.Str → Option Value} {dp un : Nat} {cn : PySem.Str} {cs : Scope} {a : Addr} {ccd : Value} {cl : List (PySem.Str × Addr)} {outer : List Env} {A₀ : Around} {base h₀ : Heap} {L : Addr} {m : PySem.Str → Option Value} {s : Shared} {Q : Value → Shared → Prop}
    (C : ConN w dn cu news fn args post)
    (B : Below A₀ base outer h₀) (F : Fr h₀ L s.heap m) (X : (Mine.K w.params).In h₀) (N : News h₀ L s.heap news) (T : Top Mine.hd.view_39 (looseW Mine.hd.view_39 [Str.ofString "ShapeError", Str.ofString "VERSIONS"]) mean mg mb h₀)
    (hk : cs.kind = .function) (hd : dp + dn < recursionLimit) (hu : un + cu < cLine)
    (ret : ∀ v h' tk' news', post v news' → Fr h₀ L h' m → News h₀ L h' news' → Q v { s with heap := h', toks := tk' }) :
    wpN (model PySem.Challenge.rw_pb0184_01.row.prog w) (ktrTop dp un (some []) cn cs L a ccd cl outer) (call (.ref fn) args) Q s := C B F X N T hk hd hu ret
/-- a Record of the ledger -/
inductive RecAt (news : Led) (v : Value) : Prop
  | mk (x dx : Addr) (es : List DictEntry) (n : Nat) (k : Str) (n1 n2 n3 : Int) (e : v = .ref x) (hx : (x, instObj 213 dx) ∈ news) (hd : (dx, dictOf es n) ∈ news) (hr : RecEs es k n1 n2 n3) (hk : k ∈ tagL) (h1 : 0 ≤ n1 ∧ n1 < 4294967296) (h2 : 0 ≤ n2 ∧ n2 < 100000) (h3 : 0 ≤ n3 ∧ n3 < 100000)
theorem RecAt.mono {l l' : Led} {v : Value} (h : RecAt l v) (hs : ∀ p ∈ l, p ∈ l') : RecAt l' v := by
  obtain ⟨x, dx, es, n, k, n1, n2, n3, e, hx, hd, hr, hk, h1, h2, h3⟩ := h
  exact ⟨x, dx, es, n, k, n1, n2, n3, e, hs _ hx, hs _ hd, hr, hk, h1, h2, h3⟩
end Mine
end
section
open Lean Elab Tactic Meta PySem PySem.W PySem.Calls PyProof.Rows
namespace Mine
theorem setup13 : True := by
  k_with_none
  w_top off
  k_with "k_all" => first | assumption | exact Apart.off (by assumption) (by k_mem) (by simp)
  k_with "k_mem" => first | with_reducible assumption | exact List.Mem.head _ | (refine' List.mem_cons_of_mem _ ?_; k_mem)
  k_with "cellc_enter" => (refine' code_defC ?k1 ?k2 ?k3 ?k4 ?k5 ?kA ?kF ?kK ?k6 ?k7 ?k8 ?k9 ?kB ?kD ?_ ?c2 ?c3 ?c4; (case kA => exact rfl); (case kF => exact rfl); (case kK => assumption); (case k1 => k_asm); (case k2 => k_asm); (case k3 => k_asm); (case k4 => k_asm); (case k5 => k_asm); (case k6 => k_is); (case k7 => k_is); (case k8 => ktr_room); (case k9 => exact BindsTo.of_eq rfl); (case kB => exact rfl); (case kD => decide +kernel); (case c2 => exact rfl); (case c3 => exact rfl); (case c4 => exact rfl); k_whole; intro g' L' h' tk' cells' FG' F' N' Y' B' X' T' l1; (try k_lt l1); k_cells Y'; (try simp only [List.cons_append, List.nil_append] at N'); (try dsimp only); (try k_lift B'); (try k_fold))
  k_with "eval ListComp" => (k_here; refine' comp_Jf ?kF ?c1 ?c2 ?c3 ?c4 ?c5 ?c6 ?_; (case kF => k_asm); (case c1 => with_unfolding_all rfl); (case c2 => decide); (case c3 => with_unfolding_all rfl); (case c4 => decide); (case c5 => with_unfolding_all rfl); (case c6 => intro _; with_unfolding_all rfl); k_whole; (try k_fold))
  k_with "exec Assign cons ListComp" => (k_here; refine' comp_Jaf ?kF ?c0 ?c1 ?c2 ?c3 ?c4 ?c5 ?c7 ?c8 ?c6 ?_; (case kF => k_asm); (case c0 => with_unfolding_all rfl); (case c1 => with_unfolding_all rfl); (case c2 => decide); (case c3 => with_unfolding_all rfl); (case c4 => decide); (case c5 => with_unfolding_all rfl); (case c7 => with_unfolding_all rfl); (case c8 => with_unfolding_all rfl); (case c6 => intro _; with_unfolding_all rfl); k_whole; (try k_fold))
  k_with "exec For" => (k_here; refine' for_Jf ?kF ?c1 ?c2 ?_; (case kF => k_asm); (case c1 => intro _; with_unfolding_all rfl); (case c2 => intro _ _; with_unfolding_all rfl); k_whole; (try k_fold))
  k_with "eval Name" => (k_here; k_dflt (refine' nameX_L ?F ?v ?_ ?c ?a ?b; (case F => k_asm); (case c => rfl); (case a => rfl); (case b => decide); (case v => assumption); k_whole))
  k_with "eval Name" => (k_here; k_inBlock; k_dflt (refine' name_compF ?kN ?kc ?km ?kd ?_ ?k1 ?k2 ?k3 ?k4; (case k1 => rfl); (case k2 => rfl); (case k3 => decide); (case k4 => decide); (case kN => k_asm); (case kc => rfl); (case km => k_mem); (case kd => k_asm); k_whole))
  k_with "eval Name" => (k_here; k_inBlock; k_dflt (refine' name_compC ?kN ?kc ?km ?kd ?_ ?k1 ?k2 ?k3; (case k1 => rfl); (case k2 => rfl); (case k3 => decide); (case kN => k_asm); (case kc => rfl); (case km => k_mem); (case kd => k_asm); k_whole))
  k_with "eval Name" => (k_here; k_inBlock; k_dflt (refine' name_comp ?kN ?km ?kn ?kv ?_ ?k1 ?k2 ?k3; (case k1 => rfl); (case k2 => rfl); (case k3 => decide); (case kN => k_asm); (case kn => assumption); (case km => k_mem); (case kv => rfl); k_whole))
  k_with "call type:bytes" => (k_here; k_dflt (refine' call_bytes_ba ?ho ?hz ?_; (case ho => exact ((by k_asm : News _ _ _ _) _ (by k_mem)).1); (case hz => omega); k_whole); intro _ _)
  k_with "call type:bytes" => (k_here; k_dflt (refine' call_bytes_n ?h0 ?h1 ?_; (case h0 => first | omega | (refine Int.fmod_nonneg_of_pos _ ?_; omega) | (simp; omega)); (case h1 => omega); k_whole); intro _ _)
  k_with "call type:bytes" => (k_here; k_dflt (refine' KBa.make_K ?kF ?kN ?kh ?kl ?ki ?kr ?kz ?_; (case kF => k_asm); (case kN => k_asm); (case kh => rfl); (case kl => exact News.isList (by k_asm) (by k_mem)); (case ki => assumption); (case kr => assumption); (case kz => omega); k_whole); intro _ _ _ F' N' kbaIn)
  k_with "exec For Name Call cons nil" => (k_here; refine' for_Jf ?kF ?c1 ?c2 ?_; (case kF => k_asm); (case c1 => intro _; with_unfolding_all rfl); (case c2 => intro _ _; with_unfolding_all rfl); k_whole; (try k_fold))
  k_with "exec For Name Name cons nil" => (k_here; refine' for_Jf ?kF ?c1 ?c2 ?_; (case kF => k_asm); (case c1 => intro _; with_unfolding_all rfl); (case c2 => intro _ _; with_unfolding_all rfl); k_whole; (try k_fold))
  k_with "exec For Tuple" => (k_here; refine' for_Jf ?kF ?c1 ?c2 ?_; (case kF => k_asm); (case c1 => intro _; with_unfolding_all rfl); (case c2 => intro _ _; with_unfolding_all rfl); k_whole; (try k_fold))
  k_with "exec For Name" => (k_here; refine' for_Jf ?kF ?c1 ?c2 ?_; (case kF => k_asm); (case c1 => intro _; with_unfolding_all rfl); (case c2 => intro _ _; with_unfolding_all rfl); k_whole; (try k_fold))
  k_with "binaryOp Add bytes bytes" => (k_here; k_dflt (refine' KBy.add_bytes ?hz ?_; (case hz => first | omega | (simp only [Array.size_replicate]; omega)); k_whole); intro _ _)
  k_with "call builtin:len" => (k_here; (with_reducible show wpAny _ _ (call (Value.builtin "len") [Value.ref _]) _ _ _); k_dflt (refine' len_news ?N ?m ?z ?_; (case N => k_asm); (case m => k_mem); (case z => omega); k_whole))
  k_with "call builtin:len" => (k_here; (with_reducible show wpAny _ _ (call (Value.builtin "len") [Value.ref _]) _ _ _); k_dflt (refine' kda_len (knd := PySem.strKind _ _) ?N ?m ?d ?lo ?z ?_; (case N => k_asm); (case m => k_mem); (case d => assumption); (case lo => assumption); (case z => omega); k_whole))
  k_with "call builtin:len" => (k_here; k_dflt (refine' len_str ?z ?_; (case z => omega); k_whole))
  k_with "call builtin:len" => (k_here; (with_reducible show wpAny _ _ (call (Value.builtin "len") [Value.bytes _ _]) _ _ _); k_dflt (refine' len_bytes ?z ?_; (case z => first | omega | (simp only [Array.size_append, Array.size_replicate]; omega)); k_whole))
  k_with "celln_enter" => (refine' codeN_defC ?k1 ?k2 ?k3 ?k4 ?k5 ?kA ?kF ?kK ?k6 ?k7 ?k8 ?k9 ?kB ?kD ?_ ?c2 ?c3 ?c4; (case kA => exact rfl); (case kF => exact rfl); (case kK => assumption); (case k1 => k_asm); (case k2 => k_asm); (case k3 => k_asm); (case k4 => k_asm); (case k5 => k_asm); (case k6 => k_is); (case k7 => k_is); (case k8 => ktr_room); (case k9 => exact BindsTo.of_eq rfl); (case kB => exact rfl); (case kD => decide +kernel); (case c2 => exact rfl); (case c3 => exact rfl); (case c4 => exact rfl); k_whole; intro g' L' h' tk' cells' FG' F' N' Y' B' X' T' l1; (try k_lt l1); (first | k_cells Y' | (cases Y')); (try simp only [List.cons_append, List.nil_append] at N'); (try dsimp only); (try k_lift B'); (try k_fold))
  k_with "getMethod ref" => (k_here; (with_reducible show wpAny _ _ (getMethod (Value.ref _) (PySem.Str.ofString "extend") _) _ _ _); k_dflt (refine' ba_method ?kN ?km ?_; (case kN => k_asm); (case km => k_mem); k_whole))
  k_with "getMethod bytes" => (k_here; k_dflt (refine' by_method ?_; k_whole))
  k_with "call builtin:bytes.join" => (k_here; k_dflt (refine' by_join ?hl ?hv ?hz ?_; (case hl => exact News.isList (by k_asm) (by k_mem)); (case hv => assumption); (case hz => omega); k_whole); intro _ _)
  k_with "call builtin:ord" => (k_here; k_dflt (refine' ord_of_char ?_; k_whole))
  k_with "compareOp NotIn" => (k_here; k_dflt (refine' notin_K ?kF ?kX ?kK ?ki ?_; (case kF => k_asm); (case kX => k_asm); (case kK => k_is); (case ki => exact IntsAre.cons _ _ (IntsAre.cons _ _ (IntsAre.cons _ _ IntsAre.nil))); k_whole))
  k_with "compareOp NotIn int ref" => (k_here; k_dflt (refine' notin_K ?kF ?kX ?kK ?ki ?_; (case kF => k_asm); (case kX => k_asm); (case kK => k_is); (case ki => exact IntsAre.cons _ _ (IntsAre.cons _ _ (IntsAre.cons _ _ IntsAre.nil))); k_whole))
  k_with "call builtin:min" => (k_here; k_dflt (refine' min_letter ?hh ?hF ?hN ?hz ?_; (case hh => with_unfolding_all rfl); (case hF => k_asm); (case hN => k_asm); (case hz => omega); k_whole); intro _ c9 _ _ _ hc9 F9 N9; (try k_sweep); (try k_fold))
  k_with "call builtin:max" => (k_here; k_dflt (refine' max_letter ?hh ?hF ?hN ?hz ?_; (case hh => with_unfolding_all rfl); (case hF => k_asm); (case hN => k_asm); (case hz => omega); k_whole); intro _ d9 _ _ _ hd9 F9 N9; (try k_sweep); (try k_fold))
  k_with "getAttr ref" => (k_here; k_dflt (refine' get_own ?k1 ?k2 ?k3 ?k4 ?k5 ?k6 ?k7 ?k8 ?k9 ?_; (case k1 => k_asm); (case k2 => k_asm); (case k3 => k_inst); (case k4 => k_is); (case k5 => k_is); (case k6 => k_is); (case k7 => k_is); (case k8 => assumption); (case k9 => rfl); k_whole))
  trivial
theorem n_directory {w : World} {news : Led} {rl : Addr} {vs : List Value} {nr : Nat} {t : Tok} (hl : (rl, PySem.W.listOf vs.toArray nr) ∈ news) (hrec : ∀ v ∈ vs, RecAt news v) (hn : vs.length = 1 ∨ vs.length = 2 ∨ vs.length = 3 ∨ vs.length = 4) :
    ConN w 5 400 (news) 273 [.int 65536 t, .ref rl] (BytesPost news fun b => b.size ≤ 100) := by
  unfold ConN; intro mean mg mb dp un cn cs xa ccd cl outer A₀ base h₀ L m s Q B F X₀ N T hk hd hu hret
  revert X₀; k_fill; intro X₀
  refine N_call ?_
  k_dflt (walk_at "celln_enter")
  k_with "call ref" => (k_here; k_dflt (refine' Con.use (c_search ?p0) ?kB ?kF ?kX ?kN ?kT ?kk ?kd ?ku ?_; (case kB => k_asm); (case kF => k_asm); (case kX => k_in); (case kN => k_asm); (case kT => k_asm); (case kk => first | exact rfl | assumption); (case p0 => assumption); (case kd => ktr_room); (case ku => ktr_units); intro v9 h9 tk9 nw9 hp9 F9 N9; obtain ⟨T9, a9, b9, d9, ta9, tb9, td9, e1, e2, hs1, hs2, hs3, hT9⟩ := hp9; subst e2; subst e1; (try dsimp only); (try k_sweep); (try k_fold)))
  have hn4 : vs.length ≤ 4 := by omega
  refine N_execs_cons (N_Assign_Name rfl (N_Call_Name ?_))
  k_steps
  refine N_with_K0 (by k_in) (by k_is) ?_
  k_dflt (refine' ConN.use (n_new ) ?kB ?kF ?kX ?kN ?kT ?kk ?kd ?ku ?_; (case kB => k_asm); (case kF => k_asm); (case kX => k_in); (case kN => k_asm); (case kT => k_asm); (case kk => first | exact rfl | assumption);  (case kd => ktr_room); (case ku => ktr_units); intro v9 h9 tk9 nw9 hp9 F9 N9)
  skip
  (try dsimp only); (try k_sweep); (try k_fold)
  obtain ⟨x, dx, a, tm, rfl, rfl, hlt, hdxx, hxa⟩ := hp9
  k_steps
  have hrr : ∀ p ∈ ((x, instObj 177 dx) :: (dx, dictOf [⟨PyData.keyHash w.params (Str.ofString "made"), .str (Str.ofString "made") tm, .ref a⟩] 1) :: news : Led), p.1 ≠ a := by
    have h1 : @LT.lt Nat _ x a := hxa
    have h2 : @LT.lt Nat _ dx x := hdxx
    intro p hp
    rcases List.mem_cons.mp hp with rfl | hp
    · exact Nat.ne_of_lt h1
    · rcases List.mem_cons.mp hp with rfl | hp
      · exact Nat.ne_of_lt (Nat.lt_trans h2 h1)
      · exact Nat.ne_of_lt (Nat.lt_trans (hlt p hp) (Nat.lt_trans h2 h1))
  obtain ⟨rest, hrest⟩ : ∃ rest : Led, rest = ((x, instObj 177 dx) :: (dx, dictOf [⟨PyData.keyHash w.params (Str.ofString "made"), .str (Str.ofString "made") tm, .ref a⟩] 1) :: news) := ⟨_, rfl⟩
  have hxm : (x, instObj 177 dx) ∈ rest := by rw [hrest]; exact .head _
  have hdm : (dx, dictOf [⟨PyData.keyHash w.params (Str.ofString "made"), .str (Str.ofString "made") tm, .ref a⟩] 1) ∈ rest := by rw [hrest]; exact .tail _ (.head _)
  have hsub : ∀ p ∈ news, p ∈ rest := fun p hp => by rw [hrest]; exact .tail _ (.tail _ hp)
  rw [← hrest] at hrr
  simp only [← hrest] at *

  have hlm : (rl, PySem.W.listOf vs.toArray nr) ∈ rest := hsub _ hl
  refine N_execs_cons (N_Expr rfl rfl (N_methodCall ?_ rfl))
  k_steps
  refine N_with_K (K := Mine.K w.params) (by k_is) ?_ rfl rfl
  k_steps
  k_dflt (refine' ConN.use (n_u32 hrr hxm hdm ?q0 ?q1 ?q2) ?kB ?kF ?kX ?kN ?kT ?kk ?kd ?ku ?_; (case kB => k_asm); (case kF => k_asm); (case kX => k_in); (case kN => k_asm); (case kT => k_asm); (case kk => first | exact rfl | assumption); (case q0 => decide); (case q1 => decide); (case q2 => decide); (case kd => ktr_room); (case ku => ktr_units); intro v9 h9 tk9 nw9 hp9 F9 N9)
  obtain ⟨rfl, c1, hc1, rfl⟩ := hp9
  refine ⟨rfl, ?_⟩
  dsimp only
  (try dsimp only); (try k_sweep); (try k_fold)
  refine N_execs_cons (N_Expr rfl rfl (N_methodCall ?_ rfl))
  k_steps
  refine N_with_K (K := Mine.K w.params) (by k_is) ?_ rfl rfl
  k_steps
  k_dflt (refine' ConN.use (n_u16 hrr hxm hdm ?q0 ?q1 ?q2) ?kB ?kF ?kX ?kN ?kT ?kk ?kd ?ku ?_; (case kB => k_asm); (case kF => k_asm); (case kX => k_in); (case kN => k_asm); (case kT => k_asm); (case kk => first | exact rfl | assumption); (case q0 => omega); (case q1 => exact fdiv_small (by omega) (Int.lt_of_le_of_lt (b := 4) (by omega) (by decide))); (case q2 => ((try simp only [Array.size_append]); (try simp only [show (#[] : Array UInt8).size = 0 from rfl]); omega)); (case kd => ktr_room); (case ku => ktr_units); intro v9 h9 tk9 nw9 hp9 F9 N9)
  obtain ⟨rfl, c2, hc2, rfl⟩ := hp9
  refine ⟨rfl, ?_⟩
  dsimp only
  (try dsimp only); (try k_sweep); (try k_fold)
  refine N_execs_cons (N_Expr rfl rfl (N_methodCall ?_ rfl))
  k_steps
  refine N_with_K (K := Mine.K w.params) (by k_is) ?_ rfl rfl
  k_steps
  have hT9a : @LT.lt Nat _ a T9 := hT9 _ (.head _)
  have hrr9 : ∀ p ∈ ((T9, { cls := .type "tuple", data := .seq #[.int a9 ta9, .int b9 tb9, .int d9 td9] }) :: rest : Led), p.1 ≠ a := by
    intro p hp
    rcases List.mem_cons.mp hp with rfl | hp
    · exact (Nat.ne_of_lt hT9a).symm
    · exact hrr p hp
  have N9' := News.swap N9
  k_dflt (refine' ConN.use (n_rows ?q0 ?q1 ?q2 ?q3 ?q4 ?q5 ?q6 ?q7) ?kB ?kF ?kX ?kN ?kT ?kk ?kd ?ku ?_; (case kB => k_asm); (case kF => k_asm); (case kX => k_in); (case kN => k_asm); (case kT => k_asm); (case kk => first | exact rfl | assumption); (case q0 => exact hrr9); (case q1 => exact .tail _ hxm); (case q2 => exact .tail _ hdm); (case q3 => ((try simp only [Array.size_append]); (try simp only [show (#[] : Array UInt8).size = 0 from rfl]); omega)); (case q4 => exact .head _); (case q5 => exact hs1); (case q6 => exact hs2); (case q7 => exact hs3); (case kd => ktr_room); (case ku => ktr_units); intro v9 h9 tk9 nw9 hp9 F9 N9)
  obtain ⟨rfl, c3, hc3, rfl⟩ := hp9
  refine ⟨rfl, ?_⟩
  dsimp only
  (try dsimp only); (try k_sweep); (try k_fold)

  have N10 := News.drop2 N9
  generalize hB : (#[] ++ c1 ++ c2 ++ c3 : Array UInt8) = B0 at *
  have hB0 : B0.size ≤ 24 := by rw [← hB]; simp only [Array.size_append, show (#[] : Array UInt8).size = 0 from rfl]; omega
  clear hB N9
  clear hrest
  refine N_execs_cons (N_for_J (by k_asm) (by intro _; with_unfolding_all rfl) (by intro _ _; with_unfolding_all rfl) ?_)
  k_steps
  k_dflt (refine' iters_list ?hh ?hF ?hN ?hl ?hL ?_; (case hh => with_unfolding_all rfl); (case hF => k_asm); (case hN => k_asm); (case hl => exact News.isList (by k_asm) (List.mem_cons_of_mem _ hlm)); (case hL => exact News.neL (by k_asm) (List.mem_cons_of_mem _ hlm)))
  rintro fp wr St h2 tk2 T2
  dsimp only
  refine ⟨_, _, _, _, _, _, _, _, _, _, T2, fun i m nw => m (Str.ofString "out") = some (.ref x) ∧ ∃ B1 : Array UInt8, nw = (a, baOf B1) :: rest ∧ B1.size ≤ 24 + 16 * i, ⟨rfl, B0, rfl, by omega⟩, ?_, ?_⟩
  · rintro Qx j v m₁ nw own h3 tk3 hj hv ⟨hmo, B1, hnw, hB1⟩ F3 N3 hap
    subst nw
    have hv' : v ∈ vs := by
      have : v ∈ vs.toArray := Array.mem_of_getElem? hv
      simpa using this
    obtain ⟨xr, dr, es, nn, k, n1, n2, n3, rfl, hxr, hdr, ⟨⟨tg, hg0⟩, ⟨t1, hg1⟩, ⟨t2, hg2⟩, ⟨t3, hg3⟩⟩, hk9, hn1, hn2, hn3⟩ := hrec v hv'
    simp only [List.cons_append] at N3
    have hxm' : (x, instObj 177 dx) ∈ rest ++ own := List.mem_append_left _ hxm
    have hdm' := List.mem_append_left own hdm
    have hxr' : (xr, instObj 213 dr) ∈ rest ++ own := List.mem_append_left _ (hsub _ hxr)
    have hdr' : (dr, dictOf es nn) ∈ rest ++ own := List.mem_append_left _ (hsub _ hdr)
    have hro : ∀ p ∈ rest ++ own, p.1 ≠ a := by
      intro p hp
      rcases List.mem_append.mp hp with hp | hp
      · exact hrr p hp
      · exact Apart.off hap (.head _) (fun e => hrr _ hlm (List.mem_singleton.mp e).symm) p hp
    have hj4 : j < 4 := by have : vs.toArray.size = vs.length := by simp
                           omega
    k_steps
    refine N_execs_cons (N_Expr rfl rfl (N_methodCall ?_ rfl))
    k_steps
    refine N_with_K (K := Mine.K w.params) (by k_is) ?_ rfl rfl
    k_steps
    k_dflt (refine' ConN.use (n_tag hro hxm' hdm' ?q0 ?q1 ?q2) ?kB ?kF ?kX ?kN ?kT ?kk ?kd ?ku ?_; (case kB => k_asm); (case kF => k_asm); (case kX => k_in); (case kN => k_asm); (case kT => k_asm); (case kk => first | exact rfl | assumption); (case q0 => ((try simp only [Array.size_append]); (try simp only [show (#[] : Array UInt8).size = 0 from rfl]); omega)); (case q1 => exact (tag_facts hk9).1); (case q2 => exact fun i c e => Nat.lt_of_le_of_lt ((tag_facts hk9).2.2 i c e).2 (by decide)); (case kd => ktr_room); (case ku => ktr_units); intro v9 h9 tk9 nw9 hp9 F9 N9)
    obtain ⟨rfl, c5, hc5, rfl⟩ := hp9
    refine ⟨rfl, ?_⟩
    dsimp only
    (try dsimp only); (try k_sweep); (try k_fold)
    refine N_execs_cons (N_Expr rfl rfl (N_methodCall ?_ rfl))
    k_steps
    refine N_with_K (K := Mine.K w.params) (by k_is) ?_ rfl rfl
    k_steps
    k_dflt (refine' ConN.use (n_u32 hro hxm' hdm' ?q0 ?q1 ?q2) ?kB ?kF ?kX ?kN ?kT ?kk ?kd ?ku ?_; (case kB => k_asm); (case kF => k_asm); (case kX => k_in); (case kN => k_asm); (case kT => k_asm); (case kk => first | exact rfl | assumption); (case q0 => exact hn1.1); (case q1 => exact fdiv_small hn1.1 (Int.lt_of_lt_of_le hn1.2 (by decide))); (case q2 => ((try simp only [Array.size_append]); (try simp only [show (#[] : Array UInt8).size = 0 from rfl]); omega)); (case kd => ktr_room); (case ku => ktr_units); intro v9 h9 tk9 nw9 hp9 F9 N9)
    obtain ⟨rfl, c6, hc6, rfl⟩ := hp9
    refine ⟨rfl, ?_⟩
    dsimp only
    (try dsimp only); (try k_sweep); (try k_fold)
    refine N_execs_cons (N_Expr rfl rfl (N_methodCall ?_ rfl))
    k_steps
    refine N_with_K (K := Mine.K w.params) (by k_is) ?_ rfl rfl
    k_steps
    k_dflt (refine' ConN.use (n_u32 hro hxm' hdm' ?q0 ?q1 ?q2) ?kB ?kF ?kX ?kN ?kT ?kk ?kd ?ku ?_; (case kB => k_asm); (case kF => k_asm); (case kX => k_in); (case kN => k_asm); (case kT => k_asm); (case kk => first | exact rfl | assumption); (case q0 => exact hn2.1); (case q1 => exact fdiv_small hn2.1 (Int.lt_of_lt_of_le hn2.2 (by decide))); (case q2 => ((try simp only [Array.size_append]); (try simp only [show (#[] : Array UInt8).size = 0 from rfl]); omega)); (case kd => ktr_room); (case ku => ktr_units); intro v9 h9 tk9 nw9 hp9 F9 N9)
    obtain ⟨rfl, c7, hc7, rfl⟩ := hp9
    refine ⟨rfl, ?_⟩
    dsimp only
    (try dsimp only); (try k_sweep); (try k_fold)
    refine N_execs_cons (N_Expr rfl rfl (N_methodCall ?_ rfl))
    k_steps
    refine N_with_K (K := Mine.K w.params) (by k_is) ?_ rfl rfl
    k_steps
    k_dflt (refine' ConN.use (n_u32 hro hxm' hdm' ?q0 ?q1 ?q2) ?kB ?kF ?kX ?kN ?kT ?kk ?kd ?ku ?_; (case kB => k_asm); (case kF => k_asm); (case kX => k_in); (case kN => k_asm); (case kT => k_asm); (case kk => first | exact rfl | assumption); (case q0 => exact hn3.1); (case q1 => exact fdiv_small hn3.1 (Int.lt_of_lt_of_le hn3.2 (by decide))); (case q2 => ((try simp only [Array.size_append]); (try simp only [show (#[] : Array UInt8).size = 0 from rfl]); omega)); (case kd => ktr_room); (case ku => ktr_units); intro v9 h9 tk9 nw9 hp9 F9 N9)
    obtain ⟨rfl, c8, hc8, rfl⟩ := hp9
    refine ⟨rfl, ?_⟩
    dsimp only
    (try dsimp only); (try k_sweep); (try k_fold)
    refine N_execs_nil ?_
    exact ⟨_, _, _, (a, baOf (B1 ++ c5 ++ c6 ++ c7 ++ c8)) :: rest, F9, N9, hap.same rfl, hmo, _, rfl, by simp only [Array.size_append]; omega⟩
  · rintro h4 tk4 m4 nw F4 N4 ⟨hmo, B1, hnw, hB1⟩
    subst nw
    have hB2 : B1.size ≤ 88 := by have : vs.toArray.size = vs.length := by simp
                                  omega
    k_with "call ref" => (k_here; k_dflt (refine' Con.use (c_octets ?p0 ?p1 ?p2 ?p3) ?kB ?kF ?kX ?kN ?kT ?kk ?kd ?ku ?_; (case kB => k_asm); (case kF => k_asm); (case kX => k_in); (case kN => k_asm); (case kT => k_asm); (case kk => first | exact rfl | assumption); (case p0 => exact hrr); (case p1 => exact hxm); (case p2 => exact hdm); (case p3 => omega); (case kd => ktr_room); (case ku => ktr_units); intro v9 h9 tk9 nw9 hp9 F9 N9; obtain ⟨e1, t9, e2⟩ := hp9; subst e1; subst e2; (try dsimp only); (try k_sweep); (try k_fold)))
    refine N_execs_any ?_
    k_steps
    exact hret _ _ _ _ ⟨rfl, _, _, rfl, by omega⟩ (by k_asm) (News.sub (by k_asm) fun p hp => .tail _ (hsub p hp))

end Mine
end
section
open PySem PySem.W PySem.Calls PyProof.Rows PySem.Spec PyProof.V
namespace Mine
/-- the place of a tag among the tags -/
noncomputable def rank (k : Str) : Nat := tagL.findIdx (· == k)
theorem rank_le {x y : Str} (hx : x ∈ tagL) (hy : y ∈ tagL) (h : ltCps y.cps.toList x.cps.toList = false) : rank x ≤ rank y := by
  have key : ∀ x ∈ tagL, ∀ y ∈ tagL, ltCps y.cps.toList x.cps.toList = false → rank x ≤ rank y := by decide +kernel
  exact key x hx y hy h
theorem rank_inj {x y : Str} (hx : x ∈ tagL) (hy : y ∈ tagL) (h : rank x = rank y) : x = y := by
  have key : ∀ x ∈ tagL, ∀ y ∈ tagL, rank x = rank y → x = y := by decide +kernel
  exact key x hx y hy h
theorem tagL_up : tagL.Pairwise fun a b => rank a < rank b := by decide +kernel
theorem rising_pair : ∀ (p : Str) (l : List Str), risingS p l = true → (∀ x ∈ p :: l, x ∈ tagL) → (p :: l).Pairwise fun a b => rank a ≤ rank b
  | p, [], _, _ => by simp
  | p, x :: r, h, hm => by
    have h' : (!ltCps x.cps.toList p.cps.toList && risingS x r) = true := h
    obtain ⟨h1, h2⟩ := Bool.and_eq_true_iff.mp h'
    have h1 : ltCps x.cps.toList p.cps.toList = false := by simpa using h1
    have ih := rising_pair x r h2 fun y hy => hm y (.tail _ hy)
    have hpx := rank_le (hm p (.head _)) (hm x (.tail _ (.head _))) h1
    refine List.pairwise_cons.mpr ⟨fun y hy => ?_, ih⟩
    rcases List.mem_cons.mp hy with rfl | hy
    · exact hpx
    · exact Nat.le_trans hpx ((List.pairwise_cons.mp ih).1 y hy)
theorem sorted_same {ss ss' : List Str} (hs : ss.Sublist tagL) (hp : ss'.Perm ss) (h : sortedS ss' = true) : ss' = ss := by
  have hm : ∀ x ∈ ss, x ∈ tagL := fun x hx => hs.subset hx
  have hm' : ∀ x ∈ ss', x ∈ tagL := fun x hx => hm x (hp.mem_iff.mp hx)
  have p2 : ss.Pairwise fun a b => rank a ≤ rank b := (tagL_up.sublist hs).imp Nat.le_of_lt
  have p1 : ss'.Pairwise fun a b => rank a ≤ rank b := by
    cases ss' with
    | nil => exact .nil
    | cons x r => exact rising_pair x r h hm'
  exact hp.eq_of_pairwise (fun a b ha hb h1 h2 => rank_inj (hm' a ha) (hm b hb) (Nat.le_antisymm h1 h2)) p1 p2

section
variable {prog : Program} {w : World} {A : Around} {E : Value → Shared → Prop} {s : Shared} {h₀ : Heap} {L : Addr} {m : Str → Option Value} {news : Led}
theorem strsAre_of : ∀ {vs : List Value} {ss : List Str}, vs.length = ss.length → (∀ (j : Nat) (v : Value), vs[j]? = some v → ∃ k t, ss[j]? = some k ∧ v = .str k t) → StrsAre vs ss
  | [], [], _, _ => .nil
  | [], _ :: _, h, _ => by simp at h
  | _ :: _, [], h, _ => by simp at h
  | v :: vs, x :: ss, h, hv => by
    obtain ⟨k, t, e, rfl⟩ := hv 0 v rfl
    simp at e; subst e
    exact .cons _ _ (strsAre_of (by simpa using h) fun j u hu => hv (j + 1) u (by simpa using hu))
/-- sorted of a dict whose keys are tags in their order: a list of its keys -/
theorem sorted_tags {d : Addr} {o : Obj} {kvs : List (Str × Value)} {Q : Value → Shared → Prop} (hh : A.handled = none) (F : Fr h₀ L s.heap m) (N : News h₀ L s.heap news)
    (hm : (d, o) ∈ news) (ho : o.IsDictOf (strKind prog w) kvs) (lo : (d == sysModules) = false) (hs : (kvs.map (·.1)).Sublist tagL)
    (h : ∀ D n h' tk vs, Fr h₀ L h' m → News h₀ L h' ((D, listOf vs.toArray n) :: news) → AllLt D news → StrsAre vs (kvs.map (·.1)) → Q (.ref D) { s with heap := h', toks := tk }) :
    wpAny (model prog w) A (call (.builtin "sorted") [.ref d]) Q E s := by
  obtain ⟨ep, hat⟩ := KdkAt.of ho
  have hl4 : kvs.length ≤ 4 := by have := hs.length_le; simpa [tagL] using this
  refine kdu_sorted (kdl_dict (knd := strKind prog w) (kvs := kvs) (ep := ep) lo) hh F N (hat.dictAt (N _ hm).1) (by rw [sizeLine_eq]; omega) fun D h' tk vs F' N' l1 hl hv => ?_
  have hS : StrsAre vs (kvs.map (·.1)) := strsAre_of (by simpa using hl) fun j v e => by
    obtain ⟨k, x, e1, e2⟩ := hv j v e
    obtain ⟨t, rfl⟩ := Value.isStrOf_shape e2
    exact ⟨k, t, by simp [e1], rfl⟩
  have hoL := (N' _ (.head _)).1
  have hlt : ∀ p ∈ news, p.1 < h'.objs.size := fun p hp => Heap.lt_size (N' p (.tail _ hp)).1
  refine wpAny_call_entry slot_list_sort ⟨_, hoL, rfl⟩ entry_list_sort (list_sort_treeK strKind_oneLt hoL hS.keysOf (fun v₁ v₂ rest e => keyKind_strs (by rw [← e]; exact hS)) (by omega) fun st' a1 a2 => ⟨_, rfl, ?_⟩) (args_list_sort _)
  obtain ⟨ss', b1, b2, b3⟩ := sorted_out_str hS a1 a2
  obtain rfl := sorted_same hs b2 b3
  obtain ⟨e, he⟩ := sortedHeap_at (out := (arrOf st').map (·.2)) hoL
  have old : ∀ b o, b ≠ D → h'.get? b = some o → (sortedHeap h' D vs ((arrOf st').map (·.2))).get? b = some o := fun b o hb e => (sortedHeap_old hb (Heap.lt_size e)).trans e
  have hD := N' _ (.head _)
  have F2 : Fr h₀ L (sortedHeap h' D vs ((arrOf st').map (·.2))) m := ⟨F'.ns.at' fun o e => old _ o hD.2.1.symm e, fun b o e => old b o (fun x => by rw [x, hD.2.2] at e; cases e) (F'.keep b o e), F'.above⟩
  refine h D e _ tk ((arrOf st').map (·.2)).toList F2 (fun p hp => ?_) (allLt_of l1) b1
  rcases List.mem_cons.mp hp with rfl | hp
  · exact ⟨by rw [he, Array.toArray_toList], hD.2⟩
  · exact ⟨old _ _ (Nat.ne_of_lt (l1 p hp)) (N' p (.tail _ hp)).1, (N' p (.tail _ hp)).2⟩
end
theorem allNe {news : Led} {L c : Nat} (h : ∀ p ∈ news, p.1 < L) (hc : L ≤ c) : ∀ p ∈ news, p.1 ≠ c := fun p hp => Nat.ne_of_lt (Nat.lt_of_lt_of_le (h p hp) hc)
end Mine
end
section
open PySem PySem.W PySem.Calls PyProof.Rows PySem.Spec PyProof.V
namespace Mine
section
variable {prog : Program} {w : World} {A : Around} {s : Shared} {E : Value → Shared → Prop} {env : Env}
theorem wpAny_goT {elts : List Expr} {x1} {pos : Pos} {I l : Addr} {i : Nat} {v : Value} {Q : Unit → Shared → Prop} (hit : s.heap.IsListIter I l i) (hQ : Q () s) :
    wpAny (model prog w) A (letOwnedTupleGo (.Tuple elts x1 pos) (.ref I) v) Q E s := by
  cases v with
  | ref T => exact wpAny_letOwnedTupleGo_listiter hit hQ
  | _ => exact wpAny_pure hQ
theorem codeN_forLoop_any {R : Flow → Shared → Prop} {target : Expr} {it : Value} {body orelse : List Stmt} (I : Nat → Shared → Prop)
    (turn : ∀ n s, I n s → wpAny (model prog w) A (pyNext it) (fun r s₁ => match r with
      | none => wpN (model prog w) A (execs orelse env) (fun f s₃ => R f s₃) s₁
      | some v => wpAny (model prog w) A (letOwnedTupleGo target it v) (fun _ s₁' => wpAny (model prog w) A (assign target env v) (fun _ s₂ => wpN (model prog w) A (execs body env) (fun f s₃ => match f with
          | .next | .cont => ∃ m, m < n ∧ I m s₃
          | .brk => R .next s₃
          | .ret v => R (.ret v) s₃) s₂) NoE s₁') NoE s₁) NoE s)
    (n : Nat) (h : I n s) : codeN (model prog w) A (.forLoop target it body orelse env) R s := by
  refine codeN_loop rfl rfl I (fun n s hI => ?_) n h
  show wpN _ _ ((forTurn target it body orelse env).onRaise (fun x => do noteFrame x env; theTreesLotGoes x)) _ s
  refine N_onRaise ?_
  simp only [forTurn]
  refine N_bindA (wpAny_standAt (N_bindA (wpAny_onRaise (wpAny_mono (turn n s hI) (fun r s₁ h₁ => ?_) fun _ _ h' => h'.elim))))
  cases r with
  | none => exact N_pure (.inr ⟨rfl, codeN_block h₁⟩)
  | some v =>
    refine N_bindA (wpAny_mono h₁ (fun _ s₁' h₁' => ?_) fun _ _ h' => h')
    refine N_bindA (wpAny_mono h₁' (fun _ s₂ h₂ => N_bind (N_mono h₂ (fun f s₃ h₃ => ?_))) fun _ _ h' => h')
    cases f with
    | next => exact N_pure (.inl ⟨rfl, h₃⟩)
    | cont => exact N_pure (.inl ⟨rfl, h₃⟩)
    | brk => exact N_pure h₃
    | ret v => exact N_pure h₃
end
section
variable {prog : Program} {w : World} {A : Around} {s : Shared} {E : Value → Shared → Prop} {env : Env} {h₀ : Heap}
/-- what a for's loop shows -/
inductive ForAtT (prog : Program) (w : World) (A : Around) (env : Env) (target : Expr) (body : List Stmt) (h₀ : Heap) (Q : Flow → Shared → Prop) : Value → Shared → Prop
  | mk (m : Str → Option Value) (led : Led) (src : List Addr) (n : Nat) (P : Nat → Value → Prop) (I : Addr) (fp wr : List Addr) (St : Nat → Heap → Prop) (s₂ : Shared)
    (hgo : ∀ i h, St i h → ∃ l k, h.IsListIter I l k) (T : Iters prog w A h₀ env.locals m led src n P I fp wr St s₂) (J : Nat → (Str → Option Value) → Led → Prop) (h0 : J 0 m led)
    (turn : ∀ (Qx : Flow → Shared → Prop) i v m₁ nw own h tk E', i < n → P i v → J i m₁ nw → Fr h₀ env.locals h m₁ → News h₀ env.locals h (nw ++ own) → Apart own nw src →
      wpAny (model prog w) A (assign target env v) (fun _ s₃ => wpAny (model prog w) A (execs body env) (ForPost h₀ env.locals src own (J (i + 1)) { s₂ with heap := h, toks := tk } Qx) E' s₃) E' { s₂ with heap := h, toks := tk })
    (hQ : ∀ h' tk m' nw, Fr h₀ env.locals h' m' → News h₀ env.locals h' nw → J n m' nw → Q .next { s₂ with heap := h', toks := tk }) :
    ForAtT prog w A env target body h₀ Q (.ref I) s₂

theorem for_JT {elts : List Expr} {tk0 : Nat} {tpos : Pos} {iter : Expr} {body : List Stmt} {pos : Pos} {Q : Flow → Shared → Prop} (h₀ : Heap)
    (h : wpAny (model prog w) A (eval iter env) (fun xv s₁ => wpAny (model prog w) A (pyIter xv) (fun it s₂ => ForAtT prog w A env (.Tuple elts tk0 tpos) body h₀ Q it s₂) E s₁) E s)
    (hs : ∀ x, foldedSetIterable iter env x = pure x) :
    wpAny (model prog w) A (exec (.For (.Tuple elts tk0 tpos) iter body [] pos) env) Q E s := by
  refine wpAny_For (wpAny_mono h (fun xv s₁ h₁ => wpAny_mono h₁ (fun it s₂ h₂ => ?_) fun _ _ e => e) fun _ _ e => e) hs
  obtain ⟨m, led, src, n, P, I, fp, wr, St, _, hgo, T, J, h0, turn, hQ⟩ := h₂
  refine codeAny_forLoop_any (R := fun r s' => match r with | .ok f => Q f s' | .error e => cameBackBy (model prog w) A env E e s')
    (LoopI h₀ env.locals wr St J n _) ?_ (n + 1) (.mk _ _ m led 0 T.st T.F T.N T.off h0 (Nat.zero_le _))
  rintro k s' ⟨H, tk, m', nw, i, hst', F', N', hoff', hJ, hi⟩
  by_cases hlt : i < n
  · refine T.W.item i _ _ _ hlt hst' fun v h₁ tk₁ hP hst₁ hk₁ => ?_
    obtain ⟨F₁, NN, hap⟩ := loop_step T F' N' hoff' hk₁
    obtain ⟨gl, gk, hit⟩ := hgo _ _ hst₁
    refine wpAny_goT hit ?_
    refine wpAny_mono (turn Q i v m' nw _ _ _ _ hlt hP hJ F₁ NN hap) (fun _ s₃ h₃ => wpAny_mono h₃ (fun f s₄ h₄ => ?_) fun _ _ e => e) fun _ _ e => e
    cases f with
    | ret v => exact h₄
    | brk => exact h₄
    | cont => exact loop_after T hlt F₁ hst₁ h₄
    | next => exact loop_after T hlt F₁ hst₁ h₄
  · have hin : i = n := by omega
    subst hin
    refine T.W.done _ _ _ hst' fun h₁ tk₁ hk₁ => wpAny_execs_nil ?_
    obtain ⟨F₁, N₁⟩ := step_keeps T.W T.hL T.wr0 F' N' hoff' hk₁
    exact hQ h₁ tk₁ m' nw F₁ N₁ hJ
end
section
variable {prog : Program} {w : World} {A : Around} {s : Shared} {env : Env} {h₀ : Heap}
inductive ForAtNT (prog : Program) (w : World) (A : Around) (env : Env) (target : Expr) (body : List Stmt) (h₀ : Heap) (Q : Flow → Shared → Prop) : Value → Shared → Prop
  | mk (m : Str → Option Value) (led : Led) (src : List Addr) (n : Nat) (P : Nat → Value → Prop) (I : Addr) (fp wr : List Addr) (St : Nat → Heap → Prop) (s₂ : Shared)
    (hgo : ∀ i h, St i h → ∃ l k, h.IsListIter I l k) (T : Iters prog w A h₀ env.locals m led src n P I fp wr St s₂) (J : Nat → (Str → Option Value) → Led → Prop) (h0 : J 0 m led)
    (turn : ∀ (Qx : Flow → Shared → Prop) i v m₁ nw own h tk, i < n → P i v → J i m₁ nw → Fr h₀ env.locals h m₁ → News h₀ env.locals h (nw ++ own) → Apart own nw src →
      wpAny (model prog w) A (assign target env v) (fun _ s₃ => wpN (model prog w) A (execs body env) (ForPost h₀ env.locals src own (J (i + 1)) { s₂ with heap := h, toks := tk } Qx) s₃) NoE { s₂ with heap := h, toks := tk })
    (hQ : ∀ h' tk m' nw, Fr h₀ env.locals h' m' → News h₀ env.locals h' nw → J n m' nw → Q .next { s₂ with heap := h', toks := tk }) :
    ForAtNT prog w A env target body h₀ Q (.ref I) s₂
theorem N_for_JT {elts : List Expr} {tk0 : Nat} {tpos : Pos} {iter : Expr} {body : List Stmt} {pos : Pos} {L : Addr} {m : Str → Option Value} {Q : Flow → Shared → Prop} (F : Fr h₀ L s.heap m) (hs : ∀ x, foldedSetIterable iter env x = pure x)
    (h : wpAny (model prog w) A (eval iter env) (fun xv s₁ => wpAny (model prog w) A (pyIter xv) (fun it s₂ => ForAtNT prog w A env (.Tuple elts tk0 tpos) body h₀ Q it s₂) NoE s₁) NoE s) :
    wpN (model prog w) A (exec (.For (.Tuple elts tk0 tpos) iter body [] pos) env) Q s := by
  refine N_For (wpAny_mono h (fun xv s₁ h₁ => wpAny_mono h₁ (fun it s₂ h₂ => ?_) fun _ _ e => e) fun _ _ e => e) hs
  obtain ⟨m, led, src, n, P, I, fp, wr, St, _, hgo, T, J, h0, turn, hQ⟩ := h₂
  refine codeN_forLoop_any (R := fun f s' => Q f s')
    (LoopI h₀ env.locals wr St J n _) ?_ (n + 1) (.mk _ _ m led 0 T.st T.F T.N T.off h0 (Nat.zero_le _))
  rintro k s' ⟨H, tk, m', nw, i, hst', F', N', hoff', hJ, hi⟩
  by_cases hlt : i < n
  · refine T.W.item i _ _ _ hlt hst' fun v h₁ tk₁ hP hst₁ hk₁ => ?_
    obtain ⟨F₁, NN, hap⟩ := loop_step T F' N' hoff' hk₁
    obtain ⟨gl, gk, hit⟩ := hgo _ _ hst₁
    refine wpAny_goT hit ?_
    refine wpAny_mono (turn Q i v m' nw _ _ _ hlt hP hJ F₁ NN hap) (fun _ s₃ h₃ => N_mono h₃ (fun f s₄ h₄ => ?_)) fun _ _ e => e
    cases f with
    | ret v => exact h₄
    | brk => exact h₄
    | cont => exact loop_after T hlt F₁ hst₁ h₄
    | next => exact loop_after T hlt F₁ hst₁ h₄
  · have hin : i = n := by omega
    subst hin
    refine T.W.done _ _ _ hst' fun h₁ tk₁ hk₁ => N_execs_nil ?_
    obtain ⟨F₁, N₁⟩ := step_keeps T.W T.hL T.wr0 F' N' hoff' hk₁
    exact hQ h₁ tk₁ m' nw F₁ N₁ hJ
end
section
variable {prog : Program} {w : World} {A : Around} {s : Shared} {E : Value → Shared → Prop} {env : Env} {h₀ : Heap} {L : Addr} {m : Str → Option Value} {led : Led}
theorem iters_listT {l : Addr} {items : Array Value} {Q : Value → Shared → Prop} (hh : A.handled = none) (F : Fr h₀ L s.heap m) (N : News h₀ L s.heap led) (hl : s.heap.IsList l items) (hlL : l ≠ L)
    (h : ∀ fp wr St h' tk, (∀ i h, St i h → ∃ l k, h.IsListIter s.heap.objs.size l k) → Iters prog w A h₀ L m led [l] items.size (fun i v => items[i]? = some v) s.heap.objs.size fp wr St { s with heap := h', toks := tk } → Q (.ref s.heap.objs.size) { s with heap := h', toks := tk }) :
    wpAny (model prog w) A (pyIter (.ref l)) Q E s := by
  have hlt : l < s.heap.objs.size := by obtain ⟨o, ho, _⟩ := hl; exact Heap.lt_size ho
  refine wpAny_pyIter_list hl (h _ _ _ _ _ (fun i h st => ⟨_, _, st.1⟩) (iters_new _ F N (Walks.list hh _ l (Nat.ne_of_lt hlt) items) ⟨⟨_, Heap.get?_push_size _ rfl, rfl, rfl⟩, hl.push _⟩ (fun b hb => by simpa using hb) (fun b hb => by rw [List.mem_singleton.mp hb]; exact ⟨hlt, hlL⟩) fun i h st => let ⟨⟨o, ho, _⟩, _⟩ := st; ⟨o, ho⟩))
theorem for_JTf {elts : List Expr} {tk0 : Nat} {tpos : Pos} {iter : Expr} {body : List Stmt} {pos : Pos} {Q : Flow → Shared → Prop} (F : Fr h₀ L s.heap m) (hs : ∀ x, foldedSetIterable iter env x = pure x)
    (h : wpAny (model prog w) A (eval iter env) (fun xv s₁ => wpAny (model prog w) A (pyIter xv) (fun it s₂ => ForAtT prog w A env (.Tuple elts tk0 tpos) body h₀ Q it s₂) E s₁) E s) :
    wpAny (model prog w) A (exec (.For (.Tuple elts tk0 tpos) iter body [] pos) env) Q E s := for_JT h₀ h hs
end
theorem News.tail_ {h₀ h : Heap} {L : Addr} {x : Addr × Obj} {l : Led} (N : News h₀ L h (x :: l)) : News h₀ L h l := fun p hp => N p (.tail _ hp)
end Mine
end
section
open PySem PySem.W PySem.Calls PyProof.Rows PySem.Spec PyProof.V
namespace Mine
/-- what shared_spots reckons: the parts that may serve a table anew -/
noncomputable def freeU (n : Nat) (parts : List By) (taken : List Nat) (b : By) : List Nat := (List.range n).filter fun i => decide (parts[i]? = some b) && !taken.contains i
noncomputable def freeL (parts : List By) (taken : List Nat) (b : By) : List Nat := freeU parts.length parts taken b
theorem freeU_succ (n : Nat) (parts : List By) (taken : List Nat) (b : By) :
    freeU (n + 1) parts taken b = freeU n parts taken b ++ if decide (parts[n]? = some b) && !taken.contains n then [n] else [] := by
  unfold freeU
  rw [List.range_succ, List.filter_append]
  congr 1
  by_cases h : (decide (parts[n]? = some b) && !taken.contains n) = true <;> simp [List.filter_cons, h]
noncomputable def tstep (st : List By × List Nat) (b : By) : List By × List Nat :=
  match freeL st.1 st.2 b with
  | [] => (st.1 ++ [b], st.2 ++ [st.1.length])
  | i :: _ => (st.1, st.2 ++ [i])
noncomputable def fstep (parts : List By) (bs : List By) : List By × List Nat := bs.foldl tstep (parts, [])
noncomputable def off (parts : List By) (i : Nat) : Nat := ((parts.take i).map fun b => (fours b).size).sum
noncomputable def spotsOf (b0 : Int) (parts : List By) : List Int := (List.range parts.length).map fun i => b0 + (off parts i : Nat)
noncomputable def foundOf (b0 : Int) (parts : List By) (G : Font) (taken : List Nat) : List (Str × Int) := (G.map (·.1)).zip (taken.map fun i => b0 + (off parts i : Nat))
noncomputable def allOf (b0 : Int) (Gs : List Font) : List By × List (List (Str × Int)) :=
  Gs.foldl (fun st G => let q := fstep st.1 (G.map (·.2)); (q.1, st.2 ++ [foundOf b0 q.1 G q.2])) ([], [])
noncomputable def bodyOf (Gs : List Font) : By := cat ((allOf 0 Gs).1.map fours)

theorem allOf_snoc (b0 : Int) (Gs : List Font) (G : Font) : allOf b0 (Gs ++ [G]) =
    ((fstep (allOf b0 Gs).1 (G.map (·.2))).1, (allOf b0 Gs).2 ++ [foundOf b0 (fstep (allOf b0 Gs).1 (G.map (·.2))).1 G (fstep (allOf b0 Gs).1 (G.map (·.2))).2]) := by
  unfold allOf; rw [List.foldl_append]; rfl
theorem fstep_snoc (parts : List By) (bs : List By) (b : By) : fstep parts (bs ++ [b]) = tstep (fstep parts bs) b := by
  unfold fstep; rw [List.foldl_append]; rfl
theorem allOf_fst (b0 b1 : Int) (Gs : List Font) : (allOf b0 Gs).1 = (allOf b1 Gs).1 := by
  have key : ∀ (r : List Font) (p : List By) (x y : List (List (Str × Int))),
      (r.foldl (fun st G => let q := fstep st.1 (G.map (·.2)); (q.1, st.2 ++ [foundOf b0 q.1 G q.2])) (p, x)).1 = (r.foldl (fun st G => let q := fstep st.1 (G.map (·.2)); (q.1, st.2 ++ [foundOf b1 q.1 G q.2])) (p, y)).1 := by
    intro r
    induction r with
    | nil => intro p x y; rfl
    | cons G r ih => intro p x y; exact ih _ _ _
  exact key Gs _ _ _
theorem off_prefix {parts more : List By} {i : Nat} (h : i ≤ parts.length) : off (parts ++ more) i = off parts i := by
  unfold off; rw [List.take_append_of_le_length h]
theorem off_all (parts : List By) (b : By) : off (parts ++ [b]) (parts.length + 1) = off parts parts.length + (fours b).size := by
  unfold off
  rw [List.take_of_length_le (by simp), List.take_of_length_le (Nat.le_refl _)]
  simp
theorem spotsOf_snoc (b0 : Int) (parts : List By) (b : By) : spotsOf b0 (parts ++ [b]) = spotsOf b0 parts ++ [b0 + (off parts parts.length : Nat)] := by
  unfold spotsOf
  rw [List.length_append, List.length_singleton, List.range_succ, List.map_append]
  congr 1
  · refine List.map_congr_left fun i hi => ?_
    rw [off_prefix (Nat.le_of_lt (List.mem_range.mp hi))]
  · simp [off_prefix (Nat.le_refl _)]
theorem spotsOf_at {b0 : Int} {parts : List By} {i : Nat} (h : i < parts.length) : (spotsOf b0 parts)[i]? = some (b0 + (off parts i : Nat)) := by
  unfold spotsOf; rw [List.getElem?_map, List.getElem?_range h]; rfl
theorem freeL_lt {parts : List By} {taken : List Nat} {b : By} {i : Nat} (h : i ∈ freeL parts taken b) : i < parts.length ∧ parts[i]? = some b ∧ i ∉ taken := by
  unfold freeL freeU at h
  obtain ⟨h1, h2⟩ := List.mem_filter.mp h
  simp only [Bool.and_eq_true, decide_eq_true_eq, Bool.not_eq_true', List.contains_eq_mem, decide_eq_false_iff_not] at h2
  exact ⟨List.mem_range.mp h1, h2.1, h2.2⟩
theorem tstep_grows (st : List By × List Nat) (b : By) : ∃ more, (tstep st b).1 = st.1 ++ more := by
  unfold tstep
  split
  · exact ⟨_, rfl⟩
  · exact ⟨[], by simp⟩
theorem tstep_taken (st : List By × List Nat) (b : By) : ∃ i, (tstep st b).2 = st.2 ++ [i] ∧ i < (tstep st b).1.length ∧ (tstep st b).1[i]? = some b ∧ (i ∉ st.2 ∨ i = st.1.length) := by
  unfold tstep
  split
  · exact ⟨_, rfl, by simp, by simp, .inr rfl⟩
  · rename_i i r e
    have h := freeL_lt (parts := st.1) (taken := st.2) (b := b) (i := i) (by rw [e]; exact .head _)
    exact ⟨_, rfl, h.1, h.2.1, .inl h.2.2⟩
theorem fstep_len (parts : List By) (bs : List By) : (fstep parts bs).2.length = bs.length := by
  have key : ∀ (r : List By) (st : List By × List Nat), (r.foldl tstep st).2.length = st.2.length + r.length := by
    intro r
    induction r with
    | nil => intro st; rfl
    | cons b r ih =>
      intro st
      obtain ⟨i, e, _⟩ := tstep_taken st b
      rw [List.foldl_cons, ih, e]; simp; omega
  have := key bs (parts, [])
  simpa [fstep] using this
theorem fstep_lt (parts : List By) (bs : List By) : ∀ i ∈ (fstep parts bs).2, i < (fstep parts bs).1.length := by
  have key : ∀ (r : List By) (st : List By × List Nat), (∀ i ∈ st.2, i < st.1.length) → ∀ i ∈ (r.foldl tstep st).2, i < (r.foldl tstep st).1.length := by
    intro r
    induction r with
    | nil => intro st h; exact h
    | cons b r ih =>
      intro st h
      refine ih _ fun i hi => ?_
      obtain ⟨j, e, hj, _⟩ := tstep_taken st b
      obtain ⟨more, e2⟩ := tstep_grows st b
      rw [e] at hi
      rcases List.mem_append.mp hi with hi | hi
      · rw [e2, List.length_append]; have := h i hi; omega
      · rw [List.mem_singleton.mp hi]; exact hj
  exact key bs (parts, []) fun i hi => nomatch hi
theorem tstep_len (st : List By × List Nat) (b : By) : (tstep st b).1.length ≤ st.1.length + 1 := by
  unfold tstep; split <;> simp
theorem fstep_lenp (parts : List By) (bs : List By) : (fstep parts bs).1.length ≤ parts.length + bs.length := by
  have key : ∀ (r : List By) (st : List By × List Nat), (r.foldl tstep st).1.length ≤ st.1.length + r.length := by
    intro r
    induction r with
    | nil => intro st; exact Nat.le_refl _
    | cons b r ih => intro st; have := ih (tstep st b); have := tstep_len st b; simp only [List.foldl_cons, List.length_cons]; omega
  exact key bs (parts, [])
theorem allOf_snd_len (b0 : Int) (Gs : List Font) : (allOf b0 Gs).2.length ≤ Gs.length := by
  have key : ∀ (r : List Font) (p : List By) (x : List (List (Str × Int))),
      (r.foldl (fun st G => let q := fstep st.1 (G.map (·.2)); (q.1, st.2 ++ [foundOf b0 q.1 G q.2])) (p, x)).2.length = x.length + r.length := by
    intro r
    induction r with
    | nil => intro p x; rfl
    | cons G r ih => intro p x; rw [List.foldl_cons, ih]; simp; omega
  have := key Gs [] []
  unfold allOf
  rw [this]; simp
end Mine
end
section
open PySem PySem.W PySem.Calls PyProof.Rows PySem.Spec PyProof.V
namespace Mine
theorem StrsAre.at : ∀ {vs : List Value} {ss : List Str}, StrsAre vs ss → ∀ {i : Nat} {v : Value}, vs[i]? = some v → ∃ k t, v = .str k t ∧ ss[i]? = some k
  | _, _, .nil, i, v, h => by simp at h
  | _, _, .cons x t h, 0, v, e => by simp at e; exact ⟨x, t, e.symm, by simp⟩
  | _, _, .cons x t h, i + 1, v, e => by simpa using StrsAre.at h (by simpa using e)
theorem BytesAre.at : ∀ {vs : List Value} {bs : List (Array UInt8)}, BytesAre vs bs → ∀ {i : Nat} {b : Array UInt8}, bs[i]? = some b → ∃ t, vs[i]? = some (.bytes b t)
  | _, _, .nil, i, b, h => by simp at h
  | _, _, .cons b' t h, 0, b, e => by simp at e; subst e; exact ⟨t, by simp⟩
  | _, _, .cons b' t h, i + 1, b, e => by simpa using BytesAre.at h (by simpa using e)
theorem IntsAre.at_ : ∀ {vs : List Value} {ns : List Int}, IntsAre vs ns → ∀ {i : Nat} {n : Int}, ns[i]? = some n → ∃ t, vs[i]? = some (.int n t)
  | _, _, .nil, i, b, h => by simp at h
  | _, _, .cons b' t h, 0, b, e => by simp at e; subst e; exact ⟨t, by simp⟩
  | _, _, .cons b' t h, i + 1, b, e => by simpa using IntsAre.at_ h (by simpa using e)
theorem lookF_at : ∀ {G : Font}, (G.map (·.1)).Nodup → ∀ {j : Nat} {k : Str} {b : By}, G[j]? = some (k, b) → lookF G k = some b
  | [], _, j, k, b, h => by simp at h
  | (k', b') :: G, hn, 0, k, b, h => by simp at h; obtain ⟨rfl, rfl⟩ := h; simp [lookF]
  | (k', b') :: G, hn, j + 1, k, b, h => by
    have hn' := List.nodup_cons.mp hn
    have h' : G[j]? = some (k, b) := by simpa using h
    have hm : k ∈ G.map (·.1) := List.mem_map.mpr ⟨(k, b), List.mem_of_getElem? h', rfl⟩
    have hne : k' ≠ k := fun e => hn'.1 (e ▸ hm)
    have := lookF_at hn'.2 h'
    unfold lookF at this ⊢
    simpa [hne] using this
theorem own_ne {rest2 own nw : Led} {src : List Addr} {c : Nat} (hap : Apart own nw src) (hr : ∀ p ∈ rest2, p.1 ≠ c) (hsrc : ∀ b ∈ src, c < b) (hm : ∃ o, (c, o) ∈ nw) : ∀ p ∈ rest2 ++ own, p.1 ≠ c := by
  obtain ⟨o, hm⟩ := hm
  intro p hp e
  rcases List.mem_append.mp hp with hp | hp
  · exact hr p hp e
  · rcases hap p hp with h | h
    · have h := hsrc _ h
      rw [e] at h
      exact absurd h (Nat.lt_irrefl _)
    · exact h _ hm e
theorem tagL_nodup : tagL.Nodup := by decide +kernel
theorem small_up {n : Nat} (h : n ≤ 1000) : Builtin.Range.small 0 (n : Int) 1 = true := by
  unfold Builtin.Range.small
  rw [rsize_up]
  have h3 : (n : Int) ≤ 1000 := by omega
  have h4 : (0 : Int) ≤ (n : Int) := by omega
  generalize (n : Int) = M at *
  simp [Builtin.Range.rangeFitsLong]
  omega
noncomputable def nats (l : List Nat) : List Int := l.map fun i : Nat => (i : Int)
theorem nats_snoc (l : List Nat) (q : Nat) : nats (l ++ [q]) = nats l ++ [(q : Int)] := by simp [nats]
theorem nats_length (l : List Nat) : (nats l).length = l.length := by simp [nats]
theorem nats_any : ∀ (l : List Nat) (q : Nat), ((nats l).any fun x => x == (q : Int)) = l.contains q
  | [], _ => rfl
  | i :: l, q => by
    have ih := nats_any l q
    show (((i : Int) == (q : Int)) || (nats l).any fun x => x == (q : Int)) = _
    rw [ih, List.contains_cons]
    congr 1
    rw [Bool.eq_iff_iff, beq_iff_eq, beq_iff_eq]
    omega
theorem free_ne {parts : List By} {taken : List Nat} {pb b : By} {q : Nat} (h : parts[q]? = some pb) (hne : (pb.toList == b.toList) = false) : freeU (q + 1) parts taken b = freeU q parts taken b := by
  have e : ¬ pb = b := fun e => by subst e; simp at hne
  rw [freeU_succ, h]; simp [e]
theorem free_in {parts : List By} {taken : List Nat} {b : By} {q : Nat} {q9 : Int} (ht : ((nats taken).any fun x => x == q9) = true) (e : q9 = (q : Int)) : freeU (q + 1) parts taken b = freeU q parts taken b := by
  subst e
  rw [nats_any] at ht
  rw [freeU_succ, ht]; simp
theorem free_at {parts : List By} {taken : List Nat} {pb b : By} {q : Nat} {q9 : Int} (h : parts[q]? = some pb) (he : (pb.toList == b.toList) = true) (ht : ((nats taken).any fun x => x == q9) = false) (e : q9 = (q : Int)) :
    freeU (q + 1) parts taken b = freeU q parts taken b ++ [q] := by
  subst e
  have e : pb = b := Array.toList_inj.mp (by simpa using he)
  rw [nats_any] at ht
  rw [freeU_succ, h, ht, e]; simp
theorem nats_free {acc : List Value} {l : List Nat} {q : Nat} {q9 : Int} {t : Tok} (h : IntsAre acc (nats l)) (e : q9 = (q : Int)) : IntsAre (acc ++ [.int q9 t]) (nats (l ++ [q])) := by
  subst e; rw [nats_snoc]; exact Ints.snoc h
inductive KIntsAre : List (Str × Value) → List (Str × Int) → Prop
  | nil : KIntsAre [] []
  | cons {k n t r r'} : KIntsAre r r' → KIntsAre ((k, .int n t) :: r) ((k, n) :: r')
section
variable {prog : Program} {w : World} {A : Around} {E : Value → Shared → Prop} {s : Shared} {h₀ : Heap} {L : Addr} {news : Led}
theorem item_newsA {value slice : Expr} {l : Addr} {its : Array Value} {n : Nat} {k : Int} {u : Tok} {x : Value} {Q : Value → Shared → Prop} (N : News h₀ L s.heap news) (hm : (l, listOf its n) ∈ news)
    (h0 : 0 ≤ k) (hz : k < 100000) (hx : its[k.toNat]? = some x) (h : Q x s)
    (hs : subscripted slice false (.ref l) (.int k u) = operate [.ref l, .int k u] (getItem (.ref l) (.int k u))) (hg : ∀ r, letTemporaryGo value (.ref l) r = pure ()) :
    wpAny (model prog w) A (subscriptTail value slice (.ref l) (.int k u)) Q E s :=
  item_list (News.isList N hm) h0 (by omega) hx h hs hg
theorem item_one {value slice : Expr} {l : Addr} {x : Value} {n : Nat} {u : Tok} {Q : Value → Shared → Prop} (N : News h₀ L s.heap news) (hm : (l, listOf #[x] n) ∈ news) (h : Q x s)
    (hs : subscripted slice false (.ref l) (.int 0 u) = operate [.ref l, .int 0 u] (getItem (.ref l) (.int 0 u))) (hg : ∀ r, letTemporaryGo value (.ref l) r = pure ()) :
    wpAny (model prog w) A (subscriptTail value slice (.ref l) (.int 0 u)) Q E s :=
  item_list (News.isList N hm) (by decide) (by decide) (by simp) h hs hg
theorem News.five {h : Heap} {a b c d e : Addr × Obj} {r o : Led} (N : News h₀ L h (a :: b :: c :: d :: e :: (r ++ o))) : News h₀ L h ((a :: b :: c :: d :: e :: r) ++ o) := N
theorem News.last {h : Heap} {a x p s q c4 c3 c2 c1 : Addr × Obj} {ex nn : Led} (N : News h₀ L h (a :: x :: p :: s :: q :: c4 :: c3 :: c2 :: c1 :: (ex ++ nn))) : News h₀ L h ((a :: p :: ex) ++ nn) := News.sub N fun z hz => by
  simp only [List.mem_cons, List.mem_append, List.cons_append] at hz ⊢
  rcases hz with h | h | h | h <;> simp [h]
theorem eq_nilT {a b : Addr} {vs : List Value} {ns : List Int} {Q : Value → Shared → Prop} (hl : s.heap.IsList a vs.toArray) (hi : IntsAre vs ns) (he : ns = []) (hl' : s.heap.IsList b ([] : List Value).toArray) (hu : A.units + 64 < cLine) (h : Q (.bool true) s) :
    wpAny (model prog w) A (compareOp .Eq (.ref a) (.ref b)) Q E s := eq_intsK hl hi hl' .nil hu (by rw [decide_eq_true he]; exact h)
theorem eq_nilF {a b : Addr} {vs : List Value} {ns : List Int} {Q : Value → Shared → Prop} (hl : s.heap.IsList a vs.toArray) (hi : IntsAre vs ns) (he : ns ≠ []) (hl' : s.heap.IsList b ([] : List Value).toArray) (hu : A.units + 64 < cLine) (h : Q (.bool false) s) :
    wpAny (model prog w) A (compareOp .Eq (.ref a) (.ref b)) Q E s := eq_intsK hl hi hl' .nil hu (by rw [decide_eq_false he]; exact h)
end
theorem KIntsAre.length : ∀ {kvs c}, KIntsAre kvs c → kvs.length = c.length
  | _, _, .nil => rfl
  | _, _, .cons h => by simp [h.length]
theorem KIntsAre.keys : ∀ {kvs c}, KIntsAre kvs c → kvs.map (·.1) = c.map (·.1)
  | _, _, .nil => rfl
  | _, _, .cons h => by simp [h.keys]
theorem KIntsAre.snoc {kvs c k n t} (h : KIntsAre kvs c) : KIntsAre (kvs ++ [(k, .int n t)]) (c ++ [(k, n)]) := by
  induction h with
  | nil => exact .cons .nil
  | cons _ ih => exact .cons ih
theorem stored_new {kvs : List (Str × Value)} {k : Str} {v : Value} (h : k ∉ kvs.map (·.1)) : stored kvs k v = kvs ++ [(k, v)] := by
  unfold stored
  rw [if_neg]
  intro h'
  obtain ⟨x, hx, e⟩ := List.any_eq_true.mp h'
  exact h (List.mem_map.mpr ⟨x, hx, by simpa using e⟩)
theorem foundOf_length (b0 : Int) (parts : List By) (G : Font) (taken : List Nat) : (foundOf b0 parts G taken).length ≤ G.length := by
  unfold foundOf; rw [List.length_zip, List.length_map]; exact Nat.min_le_left _ _
theorem foundOf_keys {b0 : Int} {parts : List By} {G : Font} {taken : List Nat} (h : taken.length = G.length) : (foundOf b0 parts G taken).map (·.1) = G.map (·.1) := by
  unfold foundOf; exact List.map_fst_zip (by simp [h])
theorem foundOf_snoc {b0 : Int} {parts : List By} {G : Font} {taken : List Nat} {k : Str} {b : By} {i : Nat} (h : taken.length = G.length) :
    foundOf b0 parts (G ++ [(k, b)]) (taken ++ [i]) = foundOf b0 parts G taken ++ [(k, b0 + (off parts i : Nat))] := by
  unfold foundOf; rw [List.map_append, List.map_append, List.zip_append (by simp [h])]; rfl
theorem foundOf_grow {b0 : Int} {parts more : List By} {G : Font} {taken : List Nat} (h : ∀ i ∈ taken, i < parts.length) : foundOf b0 (parts ++ more) G taken = foundOf b0 parts G taken := by
  unfold foundOf
  congr 1
  exact List.map_congr_left fun i hi => by rw [off_prefix (Nat.le_of_lt (h i hi))]
theorem key_new : ∀ {G : Font}, (G.map (·.1)).Nodup → ∀ {j : Nat} {k : Str} {b : By}, G[j]? = some (k, b) → k ∉ (G.take j).map (·.1)
  | [], _, j, k, b, h => by simp at h
  | (k', b') :: G, hn, 0, k, b, h => by simp
  | (k', b') :: G, hn, j + 1, k, b, h => by
    have hn' := List.nodup_cons.mp hn
    have h' : G[j]? = some (k, b) := by simpa using h
    have hm : k ∈ G.map (·.1) := List.mem_map.mpr ⟨(k, b), List.mem_of_getElem? h', rfl⟩
    have hne : k ≠ k' := fun e => hn'.1 (e ▸ hm)
    have ih := key_new hn'.2 h'
    rw [List.take_succ_cons, List.map_cons, List.mem_cons]
    exact fun h => h.elim hne ih
theorem off_cast {b0 : Int} {parts : List By} {b : By} : b0 + (off parts parts.length : Nat) + ((fours b).size : Nat) = b0 + (off (parts ++ [b]) (parts ++ [b]).length : Nat) := by
  rw [List.length_append, List.length_singleton, off_all]
  omega
/-- the fonts of a list, as they lie in the ledger -/
noncomputable def FontAt (w : World) (news : Led) (v : Value) (G : Font) : Prop := ∃ tp d t, v = .ref tp ∧ (tp, { cls := .type "tuple", data := .seq #[.int 65536 t, .ref d] }) ∈ news ∧ TabAt' PySem.Challenge.rw_pb0184_01.row.prog w news d G
structure FontsAt (w : World) (news : Led) (fvs : List Value) (Gs : List Font) : Prop where
  len : fvs.length = Gs.length
  at_ : ∀ (i : Nat) v, fvs[i]? = some v → ∃ G, Gs[i]? = some G ∧ FontAt w news v G
theorem FontsAt.sub {w : World} {news news' : Led} {fvs : List Value} {Gs : List Font} (h : FontsAt w news fvs Gs) (hs : ∀ p ∈ news, p ∈ news') : FontsAt w news' fvs Gs :=
  ⟨h.len, fun i v e => let ⟨G, a, tp, d, t, b, c, f⟩ := h.at_ i v e; ⟨G, a, tp, d, t, b, hs _ c, f.sub hs⟩⟩
/-- the places, as they lie in the ledger -/
noncomputable def PlaceAt (w : World) (news : Led) (v : Value) (c : List (Str × Int)) : Prop := ∃ d o kvs, v = .ref d ∧ (d, o) ∈ news ∧ o.IsDictOf (PySem.strKind PySem.Challenge.rw_pb0184_01.row.prog w) kvs ∧ KIntsAre kvs c ∧ (d == sysModules) = false
inductive PlacesAt (w : World) (news : Led) : List Value → List (List (Str × Int)) → Prop
  | nil : PlacesAt w news [] []
  | snoc {vs v cs c} : PlacesAt w news vs cs → PlaceAt w news v c → PlacesAt w news (vs ++ [v]) (cs ++ [c])
theorem PlacesAt.mono {w : World} {ex ex' : Led} {vs : List Value} {cs : List (List (Str × Int))} (h : PlacesAt w ex vs cs) (hs : ∀ p ∈ ex, p ∈ ex') : PlacesAt w ex' vs cs := by
  induction h with
  | nil => exact .nil
  | snoc _ hp ih => obtain ⟨d, o, kvs, a, b, c⟩ := hp; exact .snoc ih ⟨d, o, kvs, a, hs _ b, c⟩
theorem PlacesAt.length {w : World} {ex : Led} {vs : List Value} {cs : List (List (Str × Int))} (h : PlacesAt w ex vs cs) : vs.length = cs.length := by
  induction h with
  | nil => rfl
  | snoc _ _ ih => simp [ih]
/-- between the fonts -/
inductive SJ (w : World) (news : Led) (b0 : Int) (st : List By × List (List (Str × Int))) (n0 : Nat) (L P S PL : Nat) (m : Str → Option Value) (nw : Led) : Prop
  | mk (plvs : List Value) (npl : Nat) (svs : List Value) (ns : Nat) (pvs : List Value) (np : Nat) (o4 o3 o2 o1 : Obj) (ex : Led) (tb : Tok)
    (hnw : nw = (PL, PySem.W.listOf plvs.toArray npl) :: (S, PySem.W.listOf svs.toArray ns) :: (P, PySem.W.listOf pvs.toArray np) :: (L + 1 + 1 + 1 + 1, o4) :: (L + 1 + 1 + 1, o3) :: (L + 1 + 1, o2) :: (L + 1, o1) :: (ex ++ news))
    (d1 : o1.data = .cell (some (.ref P))) (d2 : ∃ x, o2.data = .cell x) (d3 : ∃ x, o3.data = .cell x) (d4 : ∃ x, o4.data = .cell x)
    (hmb : m (Str.ofString "begin") = some (.int (b0 + (off st.1 st.1.length : Nat)) tb)) (hms : m (Str.ofString "spots") = some (.ref S)) (hmp : m (Str.ofString "places") = some (.ref PL))
    (hP : BytesAre pvs st.1) (hS : IntsAre svs (spotsOf b0 st.1)) (hPl : PlacesAt w ex plvs st.2) (hz : st.1.length ≤ n0 ∧ ∀ b ∈ st.1, b.size ≤ 6) (hx : ∀ p ∈ ex, PL < p.1)
theorem rest_ne {ex news own nw : Led} {src : List Addr} {L PL c : Nat} (hn : ∀ p ∈ news, p.1 < L) (hex : ∀ p ∈ ex, PL < p.1) (hap : Apart own nw src) (hsrc : ∀ b ∈ src, b < L) (hc : L < c) (hc2 : c ≤ PL) (hm : ∃ o, (c, o) ∈ nw) : ∀ p ∈ (ex ++ news) ++ own, p.1 ≠ c := by
  obtain ⟨o, hm⟩ := hm
  intro p hp e
  rcases List.mem_append.mp hp with hp | hp
  · rcases List.mem_append.mp hp with hp | hp
    · have h := hex p hp
      rw [e] at h
      exact absurd (Nat.lt_of_lt_of_le h hc2) (Nat.lt_irrefl _)
    · have h := hn p hp
      rw [e] at h
      exact absurd (Nat.lt_trans h hc) (Nat.lt_irrefl _)
  · rcases hap p hp with h | h
    · have h := hsrc _ h
      rw [e] at h
      exact absurd (Nat.lt_trans h hc) (Nat.lt_irrefl _)
    · exact h _ hm e
/-- between the tables of a font -/
inductive TJ (w : World) (rest2 : Led) (b0 : Int) (st : List By × List Nat) (G : Font) (c4 P S PL D TK n0 : Nat) (m : Str → Option Value) (nw : Led) : Prop
  | mk (tvs : List Value) (nt : Nat) (oD : Obj) (kvs : List (Str × Value)) (svs : List Value) (ns : Nat) (pvs : List Value) (np : Nat) (o4 : Obj) (tb : Tok)
    (hnw : nw = (TK, PySem.W.listOf tvs.toArray nt) :: (D, oD) :: (S, PySem.W.listOf svs.toArray ns) :: (P, PySem.W.listOf pvs.toArray np) :: (c4, o4) :: rest2)
    (d4 : ∃ x, o4.data = .cell x) (hD : oD.IsDictOf (PySem.strKind PySem.Challenge.rw_pb0184_01.row.prog w) kvs) (hK : KIntsAre kvs (foundOf b0 st.1 G st.2))
    (hmb : m (Str.ofString "begin") = some (.int (b0 + (off st.1 st.1.length : Nat)) tb)) (hms : m (Str.ofString "spots") = some (.ref S)) (hmp : m (Str.ofString "places") = some (.ref PL)) (hmf : m (Str.ofString "found") = some (.ref D))
    (hP : BytesAre pvs st.1) (hS : IntsAre svs (spotsOf b0 st.1)) (hT : IntsAre tvs (nats st.2)) (hz : st.1.length ≤ n0 ∧ ∀ b ∈ st.1, b.size ≤ 6)

theorem cat_size_le {k : Nat} {bs : List (Array UInt8)} (h : ∀ b ∈ bs, b.size ≤ k) : (cat bs).size ≤ k * bs.length := by
  have key : ∀ (r : List (Array UInt8)) (a : Array UInt8), (∀ b ∈ r, b.size ≤ k) → (r.foldl (· ++ ·) a).size ≤ a.size + k * r.length := by
    intro r
    induction r with
    | nil => intro a _; simp
    | cons b r ih =>
      intro a hr
      have h1 := ih (a ++ b) fun x hx => hr x (.tail _ hx)
      have h2 := hr b (.head _)
      rw [Array.size_append] at h1
      rw [List.foldl_cons, List.length_cons, Nat.mul_succ]
      omega
  have h0 := key bs #[] h
  unfold cat
  simpa using h0
theorem Apart.of_sub {own nw nw' : Led} {src : List Addr} (h : Apart own nw src) (hs : ∀ q ∈ nw', (∃ q' ∈ nw, q'.1 = q.1) ∨ ∀ p ∈ own, p.1 ≠ q.1) : Apart own nw' src := fun p hp => (h p hp).imp id fun k q hq => by
  rcases hs q hq with ⟨q', hq', e⟩ | h'
  · rw [← e]; exact k q' hq'
  · exact h' p hp
end Mine
end
section
open PySem PySem.W PySem.Calls PyProof.Rows PySem.Spec PyProof.V
namespace Mine
theorem List.snocInd {α : Type} {P : List α → Prop} (h0 : P []) (h1 : ∀ l a, P l → P (l ++ [a])) : ∀ l, P l := by
  intro l
  have key : ∀ r : List α, P r.reverse := by
    intro r
    induction r with
    | nil => exact h0
    | cons a r ih => rw [List.reverse_cons]; exact h1 _ _ ih
  have := key l.reverse
  rwa [List.reverse_reverse] at this
structure StepOk (parts : List By) (bs : List By) (st : List By × List Nat) : Prop where
  grow : ∃ more, st.1 = parts ++ more ∧ ∀ b ∈ more, b ∈ bs
  len : st.2.length = bs.length
  lt : ∀ i ∈ st.2, i < st.1.length
  nd : st.2.Nodup
  at_ : ∀ (j : Nat) b, bs[j]? = some b → ∃ t, st.2[j]? = some t ∧ st.1[t]? = some b
theorem fstep_ok (parts : List By) : ∀ bs : List By, StepOk parts bs (fstep parts bs) := by
  refine List.snocInd ?_ ?_
  · exact ⟨⟨[], by simp [fstep], (fun _ h => nomatch h)⟩, rfl, (fun _ h => nomatch h), .nil, fun j b h => by simp at h⟩
  · intro bs b ih
    rw [fstep_snoc]
    obtain ⟨more, hm, hmb⟩ := ih.grow
    obtain ⟨i, e, hi, hib, hnew⟩ := tstep_taken (fstep parts bs) b
    obtain ⟨more2, e2⟩ := tstep_grows (fstep parts bs) b
    have hpre : ∀ t, t < (fstep parts bs).1.length → (tstep (fstep parts bs) b).1[t]? = (fstep parts bs).1[t]? := fun t ht => by rw [e2, List.getElem?_append_left ht]
    refine ⟨?_, ?_, ?_, ?_, ?_⟩
    · unfold tstep
      split
      · exact ⟨more ++ [b], by rw [hm, List.append_assoc], fun x hx => by
          rcases List.mem_append.mp hx with hx | hx
          · exact List.mem_append_left _ (hmb x hx)
          · exact List.mem_append_right _ hx⟩
      · exact ⟨more, hm, fun x hx => List.mem_append_left _ (hmb x hx)⟩
    · rw [e, List.length_append, List.length_append, ih.len]; rfl
    · intro t ht
      rw [e] at ht
      rcases List.mem_append.mp ht with ht | ht
      · rw [e2, List.length_append]; have := ih.lt t ht; omega
      · rw [List.mem_singleton.mp ht]; exact hi
    · rw [e]
      refine List.nodup_append.mpr ⟨ih.nd, by simp, fun x hx y hy => ?_⟩
      rw [List.mem_singleton.mp hy]
      rintro rfl
      rcases hnew with h | h
      · exact h hx
      · have := ih.lt x hx; omega
    · intro j c hj
      by_cases hlt : j < bs.length
      · rw [List.getElem?_append_left hlt] at hj
        obtain ⟨t, h1, h2⟩ := ih.at_ j c hj
        have ht := ih.lt t (List.mem_of_getElem? h1)
        refine ⟨t, ?_, by rw [hpre t ht]; exact h2⟩
        rw [e, List.getElem?_append_left (by rw [ih.len]; exact hlt)]; exact h1
      · have hj' : j = bs.length := by
          have := (List.getElem?_eq_some_iff.mp hj).1
          simp at this; omega
        subst hj'
        simp at hj; subst hj
        exact ⟨i, by rw [e, ← ih.len]; simp, hib⟩
/-- what holds of one font's places -/
noncomputable def PlacedAs (b0 : Int) (P : List By) (G : Font) (c : List (Str × Int)) : Prop :=
  ∃ taken : List Nat, c = foundOf b0 P G taken ∧ taken.length = G.length ∧ taken.Nodup ∧ (∀ i ∈ taken, i < P.length) ∧ ∀ (j : Nat) k b, G[j]? = some (k, b) → ∃ t, taken[j]? = some t ∧ P[t]? = some b
theorem allOf_placed (b0 : Int) : ∀ Gs : List Font, (allOf b0 Gs).2.length = Gs.length ∧ (∀ b ∈ (allOf b0 Gs).1, ∃ G ∈ Gs, b ∈ G.map (·.2)) ∧ ∀ (i : Nat) G, Gs[i]? = some G → ∃ c, (allOf b0 Gs).2[i]? = some c ∧ PlacedAs b0 (allOf b0 Gs).1 G c := by
  refine List.snocInd ?_ ?_
  · exact ⟨rfl, (fun b h => nomatch h), fun i G h => by simp at h⟩
  · intro Gs G ih
    obtain ⟨ih1, ih2, ih3⟩ := ih
    have ok := fstep_ok (allOf b0 Gs).1 (G.map (·.2))
    obtain ⟨more, hm, hmb⟩ := ok.grow
    rw [allOf_snoc]
    refine ⟨by simp [ih1], ?_, ?_⟩
    · intro b hb
      have hb' : b ∈ (fstep (allOf b0 Gs).1 (G.map (·.2))).1 := hb
      rw [hm] at hb'
      rcases List.mem_append.mp hb' with h | h
      · obtain ⟨G', h1, h2⟩ := ih2 b h
        exact ⟨G', List.mem_append_left _ h1, h2⟩
      · exact ⟨G, List.mem_append_right _ (.head _), hmb b h⟩
    · intro i H hi
      dsimp only
      by_cases hlt : i < Gs.length
      · rw [List.getElem?_append_left hlt] at hi
        obtain ⟨c, h1, taken, h2, h3, h4, h5, h6⟩ := ih3 i H hi
        refine ⟨c, by rw [List.getElem?_append_left (by rw [ih1]; exact hlt)]; exact h1, taken, ?_, h3, h4, ?_, ?_⟩
        · rw [h2, hm, foundOf_grow h5]
        · intro t ht; rw [hm, List.length_append]; have := h5 t ht; omega
        · intro j k b hj
          obtain ⟨t, a1, a2⟩ := h6 j k b hj
          exact ⟨t, a1, by rw [hm, List.getElem?_append_left (h5 t (List.mem_of_getElem? a1))]; exact a2⟩
      · have hi' : i = Gs.length := by
          have := (List.getElem?_eq_some_iff.mp hi).1
          simp at this; omega
        subst hi'
        simp at hi; subst hi
        refine ⟨_, by rw [← ih1]; simp, _, rfl, by rw [ok.len, List.length_map], ok.nd, ok.lt, ?_⟩
        intro j k b hj
        exact ok.at_ j b (by rw [List.getElem?_map, hj]; rfl)
theorem PlacedAs.keys {b0 : Int} {P : List By} {G : Font} {c : List (Str × Int)} (h : PlacedAs b0 P G c) : c.map (·.1) = G.map (·.1) := by
  obtain ⟨taken, h1, h2, _⟩ := h
  rw [h1, foundOf_keys h2]
theorem off_le {k : Nat} {P : List By} (h : ∀ b ∈ P, (fours b).size ≤ k) (i : Nat) : off P i ≤ k * P.length := by
  have key : ∀ l : List By, (∀ b ∈ l, (fours b).size ≤ k) → (l.map fun b => (fours b).size).sum ≤ k * l.length := by
    intro l
    induction l with
    | nil => intro _; simp
    | cons b l ih =>
      intro hl
      have h1 := ih fun x hx => hl x (.tail _ hx)
      have h2 := hl b (.head _)
      rw [List.map_cons, List.sum_cons, List.length_cons, Nat.mul_succ]
      omega
  unfold off
  refine Nat.le_trans (key _ fun b hb => h b (List.mem_of_mem_take hb)) (Nat.mul_le_mul_left _ ?_)
  rw [List.length_take]; exact Nat.min_le_right _ _
theorem PlacedAs.bound {b0 : Int} {P : List By} {G : Font} {c : List (Str × Int)} {k : Nat} (h : PlacedAs b0 P G c) (hk : ∀ b ∈ P, (fours b).size ≤ k) : ∀ x ∈ c, b0 ≤ x.2 ∧ x.2 ≤ b0 + (k * P.length : Nat) := by
  obtain ⟨taken, h1, h2, _⟩ := h
  intro x hx
  rw [h1] at hx
  unfold foundOf at hx
  have := (List.of_mem_zip hx).2
  obtain ⟨i, hi, e⟩ := List.mem_map.mp this
  rw [← e]
  have := off_le hk i
  omega
theorem PlacesAt_at {w : World} {ex : Led} {vs : List Value} {cs : List (List (Str × Int))} (h : PlacesAt w ex vs cs) : ∀ {i : Nat} {c}, cs[i]? = some c → ∃ v, vs[i]? = some v ∧ PlaceAt w ex v c := by
  induction h with
  | nil => intro i c h; simp at h
  | @snoc vs v cs c h hp ih =>
    intro i c' hc
    have hl := h.length
    by_cases hlt : i < cs.length
    · rw [List.getElem?_append_left hlt] at hc
      obtain ⟨v', a, b⟩ := ih hc
      exact ⟨v', by rw [List.getElem?_append_left (by rw [hl]; exact hlt)]; exact a, b⟩
    · have hi' : i = cs.length := by
        have := (List.getElem?_eq_some_iff.mp hc).1
        simp at this; omega
      subst hi'
      simp at hc; subst hc
      exact ⟨v, by rw [← hl]; simp, hp⟩
theorem KIntsAre.look : ∀ {kvs c}, KIntsAre kvs c → ∀ {k : Str}, k ∈ c.map (·.1) → ∃ n t, valueAt kvs k = some (.int n t) ∧ (k, n) ∈ c
  | _, _, .nil, k, h => by simp at h
  | _, _, .cons (k := k') (n := n') (t := t) (r := r) (r' := r') h, k, hk => by
    by_cases e : k' = k
    · subst e
      exact ⟨n', t, by simp [valueAt], .head _⟩
    · have hk' : k ∈ r'.map (·.1) := by
        rcases List.mem_cons.mp hk with h | h
        · exact absurd h.symm e
        · exact h
      obtain ⟨n, u, a, b⟩ := h.look hk'
      refine ⟨n, u, ?_, .tail _ b⟩
      unfold valueAt at a ⊢
      simpa [e] using a
end Mine
end
section
open Lean Elab Tactic Meta PySem PySem.W PySem.Calls PyProof.Rows
namespace Mine
theorem setup14 : True := by
  k_with_none
  w_top off
  k_with "k_all" => first | assumption | exact Apart.off (by assumption) (by k_mem) (by simp) | (k_dflt (exact allNe (by assumption) (by (try dsimp only); omega)))
  k_with "k_mem" => first | with_reducible assumption | exact List.Mem.head _ | (refine' List.mem_cons_of_mem _ ?_; k_mem)
  k_with "cellc_enter" => (refine' code_defC ?Zk1 ?Zk2 ?Zk3 ?Zk4 ?Zk5 ?ZkA ?ZkF ?ZkK ?Zk6 ?Zk7 ?Zk8 ?Zk9 ?ZkB ?ZkD ?_ ?Zc2 ?Zc3 ?Zc4; (case ZkA => exact rfl); (case ZkF => exact rfl); (case ZkK => assumption); (case Zk1 => k_asm); (case Zk2 => k_asm); (case Zk3 => k_asm); (case Zk4 => k_asm); (case Zk5 => k_asm); (case Zk6 => k_is); (case Zk7 => k_is); (case Zk8 => ktr_room); (case Zk9 => exact BindsTo.of_eq rfl); (case ZkB => exact rfl); (case ZkD => decide +kernel); (case Zc2 => exact rfl); (case Zc3 => exact rfl); (case Zc4 => exact rfl); k_whole; intro g' L' h' tk' cells' FG' F' N' Y' B' X' T' l1; (try k_lt l1); k_cells Y'; (try simp only [List.cons_append, List.nil_append] at N'); (try dsimp only); (try k_lift B'); (try k_fold))
  k_with "eval ListComp" => (k_here; refine' comp_Jf ?ZkF ?Zc1 ?Zc2 ?Zc3 ?Zc4 ?Zc5 ?Zc6 ?_; (case ZkF => k_asm); (case Zc1 => with_unfolding_all rfl); (case Zc2 => decide); (case Zc3 => with_unfolding_all rfl); (case Zc4 => decide); (case Zc5 => with_unfolding_all rfl); (case Zc6 => intro _; with_unfolding_all rfl); k_whole; (try k_fold))
  k_with "exec Assign cons ListComp" => (k_here; refine' comp_Jaf ?ZkF ?Zc0 ?Zc1 ?Zc2 ?Zc3 ?Zc4 ?Zc5 ?Zc7 ?Zc8 ?Zc6 ?_; (case ZkF => k_asm); (case Zc0 => with_unfolding_all rfl); (case Zc1 => with_unfolding_all rfl); (case Zc2 => decide); (case Zc3 => with_unfolding_all rfl); (case Zc4 => decide); (case Zc5 => with_unfolding_all rfl); (case Zc7 => with_unfolding_all rfl); (case Zc8 => with_unfolding_all rfl); (case Zc6 => intro _; with_unfolding_all rfl); k_whole; (try k_fold))
  k_with "exec For" => (k_here; refine' for_Jf ?ZkF ?Zc1 ?Zc2 ?_; (case ZkF => k_asm); (case Zc1 => intro _; with_unfolding_all rfl); (case Zc2 => intro _ _; with_unfolding_all rfl); k_whole; (try k_fold))
  k_with "eval Name" => (k_here; k_dflt (refine' nameX_L ?ZF ?Zv ?_ ?Zc ?Za ?Zb; (case ZF => k_asm); (case Zc => rfl); (case Za => rfl); (case Zb => decide); (case Zv => assumption); k_whole))
  k_with "eval Name" => (k_here; k_inBlock; k_dflt (refine' name_compF ?ZkN ?Zkc ?Zkm ?Zkd ?_ ?Zk1 ?Zk2 ?Zk3 ?Zk4; (case Zk1 => rfl); (case Zk2 => rfl); (case Zk3 => decide); (case Zk4 => decide); (case ZkN => k_asm); (case Zkc => rfl); (case Zkm => k_mem); (case Zkd => k_asm); k_whole))
  k_with "eval Name" => (k_here; k_inBlock; k_dflt (refine' name_compC ?ZkN ?Zkc ?Zkm ?Zkd ?_ ?Zk1 ?Zk2 ?Zk3; (case Zk1 => rfl); (case Zk2 => rfl); (case Zk3 => decide); (case ZkN => k_asm); (case Zkc => rfl); (case Zkm => k_mem); (case Zkd => k_asm); k_whole))
  k_with "eval Name" => (k_here; k_inBlock; k_dflt (refine' name_comp ?ZkN ?Zkm ?Zkn ?Zkv ?_ ?Zk1 ?Zk2 ?Zk3; (case Zk1 => rfl); (case Zk2 => rfl); (case Zk3 => decide); (case ZkN => k_asm); (case Zkn => assumption); (case Zkm => k_mem); (case Zkv => rfl); k_whole))
  k_with "call type:bytes" => (k_here; k_dflt (refine' call_bytes_ba ?Zho ?Zhz ?_; (case Zho => exact ((by k_asm : News _ _ _ _) _ (by k_mem)).1); (case Zhz => omega); k_whole); intro _ _)
  k_with "call type:bytes" => (k_here; k_dflt (refine' call_bytes_n ?Zh0 ?Zh1 ?_; (case Zh0 => first | omega | (refine Int.fmod_nonneg_of_pos _ ?_; omega) | (simp; omega)); (case Zh1 => omega); k_whole); intro _ _)
  k_with "call type:bytes" => (k_here; k_dflt (refine' KBa.make_K ?ZkF ?ZkN ?Zkh ?Zkl ?Zki ?Zkr ?Zkz ?_; (case ZkF => k_asm); (case ZkN => k_asm); (case Zkh => rfl); (case Zkl => exact News.isList (by k_asm) (by k_mem)); (case Zki => assumption); (case Zkr => assumption); (case Zkz => omega); k_whole); intro _ _ _ F' N' kbaIn)
  k_with "exec For Name Call cons nil" => (k_here; refine' for_Jf ?ZkF ?Zc1 ?Zc2 ?_; (case ZkF => k_asm); (case Zc1 => intro _; with_unfolding_all rfl); (case Zc2 => intro _ _; with_unfolding_all rfl); k_whole; (try k_fold))
  k_with "exec For Name Name cons nil" => (k_here; refine' for_Jf ?ZkF ?Zc1 ?Zc2 ?_; (case ZkF => k_asm); (case Zc1 => intro _; with_unfolding_all rfl); (case Zc2 => intro _ _; with_unfolding_all rfl); k_whole; (try k_fold))
  k_with "exec For Tuple" => (k_here; refine' for_JTf ?ZkF ?Zc1 ?_; (case ZkF => k_asm); (case Zc1 => intro _; with_unfolding_all rfl); k_whole; (try k_fold))
  k_with "exec For Name" => (k_here; refine' for_Jf ?ZkF ?Zc1 ?Zc2 ?_; (case ZkF => k_asm); (case Zc1 => intro _; with_unfolding_all rfl); (case Zc2 => intro _ _; with_unfolding_all rfl); k_whole; (try k_fold))
  k_with "binaryOp Add bytes bytes" => (k_here; k_dflt (refine' KBy.add_bytes ?Zhz ?_; (case Zhz => first | omega | (simp only [Array.size_replicate]; omega)); k_whole); intro _ _)
  k_with "call builtin:len" => (k_here; (with_reducible show wpAny _ _ (call (Value.builtin "len") [Value.ref _]) _ _ _); k_dflt (refine' len_news ?ZN ?Zm ?Zz ?_; (case ZN => k_asm); (case Zm => k_mem); (case Zz => omega); k_whole))
  k_with "call builtin:len" => (k_here; (with_reducible show wpAny _ _ (call (Value.builtin "len") [Value.ref _]) _ _ _); k_dflt (refine' kda_len (knd := PySem.strKind _ _) ?ZN ?Zm ?Zd ?Zlo ?Zz ?_; (case ZN => k_asm); (case Zm => k_mem); (case Zd => assumption); (case Zlo => assumption); (case Zz => omega); k_whole))
  k_with "call builtin:len" => (k_here; (with_reducible show wpAny _ _ (call (Value.builtin "len") [Value.str _ _]) _ _ _); k_dflt (refine' len_str ?Zz ?_; (case Zz => omega); k_whole))
  k_with "call builtin:len" => (k_here; (with_reducible show wpAny _ _ (call (Value.builtin "len") [Value.bytes _ _]) _ _ _); k_dflt (refine' len_bytes ?Zz ?_; (case Zz => first | omega | (simp only [Array.size_append, Array.size_replicate]; omega)); k_whole))
  k_with "celln_enter" => (refine' codeN_defC ?Zk1 ?Zk2 ?Zk3 ?Zk4 ?Zk5 ?ZkA ?ZkF ?ZkK ?Zk6 ?Zk7 ?Zk8 ?Zk9 ?ZkB ?ZkD ?_ ?Zc2 ?Zc3 ?Zc4; (case ZkA => exact rfl); (case ZkF => exact rfl); (case ZkK => assumption); (case Zk1 => k_asm); (case Zk2 => k_asm); (case Zk3 => k_asm); (case Zk4 => k_asm); (case Zk5 => k_asm); (case Zk6 => k_is); (case Zk7 => k_is); (case Zk8 => ktr_room); (case Zk9 => exact BindsTo.of_eq rfl); (case ZkB => exact rfl); (case ZkD => decide +kernel); (case Zc2 => exact rfl); (case Zc3 => exact rfl); (case Zc4 => exact rfl); k_whole; intro g' L' h' tk' cells' FG' F' N' Y' B' X' T' l1; (try k_lt l1); (first | k_cells Y' | (cases Y')); (try simp only [List.cons_append, List.nil_append] at N'); (try dsimp only); (try k_lift B'); (try k_fold))
  k_with "getMethod ref" => (k_here; (with_reducible show wpAny _ _ (getMethod (Value.ref _) (PySem.Str.ofString "extend") _) _ _ _); k_dflt (refine' ba_method ?ZkN ?Zkm ?_; (case ZkN => k_asm); (case Zkm => k_mem); k_whole))
  k_with "getMethod ref" => (k_here; (with_reducible show wpAny _ _ (getMethod (Value.ref _) (PySem.Str.ofString "append") _) _ _ _); k_dflt (refine' listMethod_K ?ZN ?Zm PySem.F.slot_list_append PySem.F.type_list_append ?_; (case ZN => k_asm); (case Zm => k_mem); k_whole))
  k_with "getMethod bytes" => (k_here; k_dflt (refine' by_method ?_; k_whole))
  k_with "call builtin:bytes.join" => (k_here; k_dflt (refine' by_join ?Zhl ?Zhv ?Zhz ?_; (case Zhl => exact News.isList (by k_asm) (by k_mem)); (case Zhv => assumption); (case Zhz => omega); k_whole); intro _ _)
  k_with "call builtin:ord" => (k_here; k_dflt (refine' ord_of_char ?_; k_whole))
  k_with "compareOp NotIn" => (k_here; (with_reducible show wpAny _ _ (compareOp CmpOp.NotIn (Value.int _ _) (Value.ref _)) _ _ _); k_dflt (refine' notin_K ?ZkF ?ZkX ?ZkK ?Zki ?_; (case ZkF => k_asm); (case ZkX => k_asm); (case ZkK => k_is); (case Zki => exact IntsAre.cons _ _ (IntsAre.cons _ _ (IntsAre.cons _ _ IntsAre.nil))); k_whole))
  k_with "compareOp NotIn int ref" => (k_here; (with_reducible show wpAny _ _ (compareOp CmpOp.NotIn (Value.int _ _) (Value.ref _)) _ _ _); k_dflt (refine' notin_K ?ZkF ?ZkX ?ZkK ?Zki ?_; (case ZkF => k_asm); (case ZkX => k_asm); (case ZkK => k_is); (case Zki => exact IntsAre.cons _ _ (IntsAre.cons _ _ (IntsAre.cons _ _ IntsAre.nil))); k_whole))
  k_with "compareOp NotIn int ref" => (k_here; (with_reducible show wpAny _ _ (compareOp CmpOp.NotIn (Value.int _ _) (Value.ref _)) _ _ _); k_dflt (refine' notin_list_ints ?Zhl ?Zhi ?_; (case Zhl => exact News.isList (by k_asm) (by k_mem)); (case Zhi => assumption); k_whole))
  k_with "call builtin:min" => (k_here; k_dflt (refine' min_letter ?Zhh ?ZhF ?ZhN ?Zhz ?_; (case Zhh => with_unfolding_all rfl); (case ZhF => k_asm); (case ZhN => k_asm); (case Zhz => omega); k_whole); intro _ c9 _ _ _ hc9 F9 N9; (try k_sweep); (try k_fold))
  k_with "call builtin:max" => (k_here; k_dflt (refine' max_letter ?Zhh ?ZhF ?ZhN ?Zhz ?_; (case Zhh => with_unfolding_all rfl); (case ZhF => k_asm); (case ZhN => k_asm); (case Zhz => omega); k_whole); intro _ d9 _ _ _ hd9 F9 N9; (try k_sweep); (try k_fold))
  k_with "exec For Tuple Name cons nil" => (k_here; refine' for_JTf ?ZkF ?Zc1 ?_; (case ZkF => k_asm); (case Zc1 => intro _; with_unfolding_all rfl); k_whole; (try k_fold))
  k_with "subscriptTail" => (k_here; (with_reducible show wpAny _ _ (subscriptTail _ _ (Value.ref _) (Value.int _ _)) _ _ _); k_dflt (refine' item_newsA ?ZN ?Zm ?Zh0 ?Zhz ?Zhx ?_ ?Zhs ?Zhg; (case ZN => k_asm); (case Zm => k_mem); (case Zh0 => omega); (case Zhz => omega); (case Zhx => assumption); (case Zhs => with_unfolding_all rfl); (case Zhg => intro _; with_unfolding_all rfl); k_whole))
  k_with "subscriptTail" => (k_here; (with_reducible show wpAny _ _ (subscriptTail _ _ (Value.ref _) (Value.str _ _)) _ _ _); k_dflt (refine' kda_item (knd := PySem.strKind _ _) ?ZN ?Zm ?Zd ?Zk ?Zl ?_ ?Zhs ?Zhg; (case ZN => k_asm); (case Zm => k_mem); (case Zd => assumption); (case Zk => exact PySem.strKind_is _ _ _ _); (case Zl => assumption); (case Zhs => with_unfolding_all rfl); (case Zhg => intro _; with_unfolding_all rfl); k_whole))
  k_with "subscriptTail" => (k_here; (with_reducible show wpAny _ _ (subscriptTail _ _ (Value.ref _) (Value.int _ _)) _ _ _); k_dflt (refine' item_news ?ZN ?Zm ?Zh0 ?Zhz ?Zhx ?_ ?Zhs ?Zhg; (case ZN => k_asm); (case Zm => k_mem); (case Zh0 => omega); (case Zhz => omega); (case Zhx => assumption); (case Zhs => with_unfolding_all rfl); (case Zhg => intro _; with_unfolding_all rfl); k_whole))
  k_with "compareOp Eq ref ref" => (k_here; (with_reducible show wpAny _ _ (compareOp CmpOp.Eq (Value.ref _) (Value.ref _)) _ _ _); k_dflt (refine' eq_nilT ?Zk1 ?Zk2 ?Zk3 ?Zk4 ?Zk5 ?_; (case Zk1 => exact News.isList (by k_asm) (by k_mem)); (case Zk2 => assumption); (case Zk3 => assumption); (case Zk4 => exact News.isList (by k_asm) (by k_mem)); (case Zk5 => ktr_units); k_whole))
  k_with "compareOp Eq ref ref" => (k_here; (with_reducible show wpAny _ _ (compareOp CmpOp.Eq (Value.ref _) (Value.ref _)) _ _ _); k_dflt (refine' eq_nilF ?Zk1 ?Zk2 ?Zk3 ?Zk4 ?Zk5 ?_; (case Zk1 => exact News.isList (by k_asm) (by k_mem)); (case Zk2 => assumption); (case Zk3 => assumption); (case Zk4 => exact News.isList (by k_asm) (by k_mem)); (case Zk5 => ktr_units); k_whole))
  k_with "call builtin:sorted" => (k_here; (with_reducible show wpAny _ _ (call (Value.builtin "sorted") [Value.ref _]) _ _ _); k_dflt (refine' sorted_tags ?Zhh ?ZF ?ZN ?Zm ?Zo ?Zlo ?Zhs ?_; (case Zhh => with_unfolding_all rfl); (case ZF => k_asm); (case ZN => k_asm); (case Zm => k_mem); (case Zo => assumption); (case Zlo => assumption); (case Zhs => assumption); k_whole); intro sD sn sh stk svals F' N' l1 sS; (try simp only [AllLt, and_true] at l1); (try dsimp only); (try k_sweep))
  k_with "setItem ref str" => (k_here; (with_reducible show wpAny _ _ (setItem (Value.ref _) (Value.str _ _) _) _ _ _); k_dflt (refine' kda_set (knd := PySem.strKind _ _) ?ZF ?ZN ?ZU ?Zd ?Zk ?Zz ?_; (case ZF => k_asm); (case ZN => k_asm); (case ZU => k_updF); (case Zd => assumption); (case Zk => exact PySem.strKind_is _ _ _ _); (case Zz => assumption)); intro h' o' F' N' hd'; (try dsimp only at N'); (try k_sweep))
  k_with "subscriptTail Name Name ref int" => (k_here; (with_reducible show wpAny _ _ (subscriptTail _ _ (Value.ref _) (Value.int _ _)) _ _ _); k_dflt (refine' item_newsA ?ZN ?Zm ?Zh0 ?Zhz ?Zhx ?_ ?Zhs ?Zhg; (case ZN => k_asm); (case Zm => k_mem); (case Zh0 => omega); (case Zhz => omega); (case Zhx => assumption); (case Zhs => with_unfolding_all rfl); (case Zhg => intro _; with_unfolding_all rfl); k_whole))
  k_with "subscriptTail Name Name ref int" => (k_here; (with_reducible show wpAny _ _ (subscriptTail _ _ (Value.ref _) (Value.int _ _)) _ _ _); k_dflt (refine' item_news ?ZN ?Zm ?Zh0 ?Zhz ?Zhx ?_ ?Zhs ?Zhg; (case ZN => k_asm); (case Zm => k_mem); (case Zh0 => omega); (case Zhz => omega); (case Zhx => assumption); (case Zhs => with_unfolding_all rfl); (case Zhg => intro _; with_unfolding_all rfl); k_whole))
  k_with "subscriptTail Name Name ref str" => (k_here; (with_reducible show wpAny _ _ (subscriptTail _ _ (Value.ref _) (Value.str _ _)) _ _ _); k_dflt (refine' kda_item (knd := PySem.strKind _ _) ?ZN ?Zm ?Zd ?Zk ?Zl ?_ ?Zhs ?Zhg; (case ZN => k_asm); (case Zm => k_mem); (case Zd => assumption); (case Zk => exact PySem.strKind_is _ _ _ _); (case Zl => assumption); (case Zhs => with_unfolding_all rfl); (case Zhg => intro _; with_unfolding_all rfl); k_whole))
  k_with "subscriptTail Name Constant ref int" => (k_here; (with_reducible show wpAny _ _ (subscriptTail _ _ (Value.ref _) (Value.int _ _)) _ _ _); k_dflt (refine' item_newsA ?ZN ?Zm ?Zh0 ?Zhz ?Zhx ?_ ?Zhs ?Zhg; (case ZN => k_asm); (case Zm => k_mem); (case Zh0 => omega); (case Zhz => omega); (case Zhx => assumption); (case Zhs => with_unfolding_all rfl); (case Zhg => intro _; with_unfolding_all rfl); k_whole))
  k_with "subscriptTail Name Constant ref int" => (k_here; (with_reducible show wpAny _ _ (subscriptTail _ _ (Value.ref _) (Value.int _ _)) _ _ _); k_dflt (refine' item_news ?ZN ?Zm ?Zh0 ?Zhz ?Zhx ?_ ?Zhs ?Zhg; (case ZN => k_asm); (case Zm => k_mem); (case Zh0 => omega); (case Zhz => omega); (case Zhx => assumption); (case Zhs => with_unfolding_all rfl); (case Zhg => intro _; with_unfolding_all rfl); k_whole))
  k_with "subscriptTail Name Constant ref int" => (k_here; (with_reducible show wpAny _ _ (subscriptTail _ _ (Value.ref _) (Value.int _ _)) _ _ _); k_dflt (refine' item_one ?ZN ?Zm ?_ ?Zhs ?Zhg; (case ZN => k_asm); (case Zm => k_mem); (case Zhs => with_unfolding_all rfl); (case Zhg => intro _; with_unfolding_all rfl); k_whole))
  k_with "subscriptTail Name Constant ref str" => (k_here; (with_reducible show wpAny _ _ (subscriptTail _ _ (Value.ref _) (Value.str _ _)) _ _ _); k_dflt (refine' kda_item (knd := PySem.strKind _ _) ?ZN ?Zm ?Zd ?Zk ?Zl ?_ ?Zhs ?Zhg; (case ZN => k_asm); (case Zm => k_mem); (case Zd => assumption); (case Zk => exact PySem.strKind_is _ _ _ _); (case Zl => assumption); (case Zhs => with_unfolding_all rfl); (case Zhg => intro _; with_unfolding_all rfl); k_whole))
  k_with "subscriptTail Name Subscript ref int" => (k_here; (with_reducible show wpAny _ _ (subscriptTail _ _ (Value.ref _) (Value.int _ _)) _ _ _); k_dflt (refine' item_newsA ?ZN ?Zm ?Zh0 ?Zhz ?Zhx ?_ ?Zhs ?Zhg; (case ZN => k_asm); (case Zm => k_mem); (case Zh0 => omega); (case Zhz => omega); (case Zhx => assumption); (case Zhs => with_unfolding_all rfl); (case Zhg => intro _; with_unfolding_all rfl); k_whole))
  k_with "subscriptTail Name Subscript ref int" => (k_here; (with_reducible show wpAny _ _ (subscriptTail _ _ (Value.ref _) (Value.int _ _)) _ _ _); k_dflt (refine' item_news ?ZN ?Zm ?Zh0 ?Zhz ?Zhx ?_ ?Zhs ?Zhg; (case ZN => k_asm); (case Zm => k_mem); (case Zh0 => omega); (case Zhz => omega); (case Zhx => assumption); (case Zhs => with_unfolding_all rfl); (case Zhg => intro _; with_unfolding_all rfl); k_whole))
  k_with "subscriptTail Name Subscript ref str" => (k_here; (with_reducible show wpAny _ _ (subscriptTail _ _ (Value.ref _) (Value.str _ _)) _ _ _); k_dflt (refine' kda_item (knd := PySem.strKind _ _) ?ZN ?Zm ?Zd ?Zk ?Zl ?_ ?Zhs ?Zhg; (case ZN => k_asm); (case Zm => k_mem); (case Zd => assumption); (case Zk => exact PySem.strKind_is _ _ _ _); (case Zl => assumption); (case Zhs => with_unfolding_all rfl); (case Zhg => intro _; with_unfolding_all rfl); k_whole))
  k_with "subscriptTail Subscript Name ref int" => (k_here; (with_reducible show wpAny _ _ (subscriptTail _ _ (Value.ref _) (Value.int _ _)) _ _ _); k_dflt (refine' item_newsA ?ZN ?Zm ?Zh0 ?Zhz ?Zhx ?_ ?Zhs ?Zhg; (case ZN => k_asm); (case Zm => k_mem); (case Zh0 => omega); (case Zhz => omega); (case Zhx => assumption); (case Zhs => with_unfolding_all rfl); (case Zhg => intro _; with_unfolding_all rfl); k_whole))
  k_with "subscriptTail Subscript Name ref int" => (k_here; (with_reducible show wpAny _ _ (subscriptTail _ _ (Value.ref _) (Value.int _ _)) _ _ _); k_dflt (refine' item_news ?ZN ?Zm ?Zh0 ?Zhz ?Zhx ?_ ?Zhs ?Zhg; (case ZN => k_asm); (case Zm => k_mem); (case Zh0 => omega); (case Zhz => omega); (case Zhx => assumption); (case Zhs => with_unfolding_all rfl); (case Zhg => intro _; with_unfolding_all rfl); k_whole))
  k_with "subscriptTail Subscript Name ref str" => (k_here; (with_reducible show wpAny _ _ (subscriptTail _ _ (Value.ref _) (Value.str _ _)) _ _ _); k_dflt (refine' kda_item (knd := PySem.strKind _ _) ?ZN ?Zm ?Zd ?Zk ?Zl ?_ ?Zhs ?Zhg; (case ZN => k_asm); (case Zm => k_mem); (case Zd => assumption); (case Zk => exact PySem.strKind_is _ _ _ _); (case Zl => assumption); (case Zhs => with_unfolding_all rfl); (case Zhg => intro _; with_unfolding_all rfl); k_whole))
  k_with "subscriptTail Subscript Constant ref int" => (k_here; (with_reducible show wpAny _ _ (subscriptTail _ _ (Value.ref _) (Value.int _ _)) _ _ _); k_dflt (refine' item_newsA ?ZN ?Zm ?Zh0 ?Zhz ?Zhx ?_ ?Zhs ?Zhg; (case ZN => k_asm); (case Zm => k_mem); (case Zh0 => omega); (case Zhz => omega); (case Zhx => assumption); (case Zhs => with_unfolding_all rfl); (case Zhg => intro _; with_unfolding_all rfl); k_whole))
  k_with "subscriptTail Subscript Constant ref int" => (k_here; (with_reducible show wpAny _ _ (subscriptTail _ _ (Value.ref _) (Value.int _ _)) _ _ _); k_dflt (refine' item_news ?ZN ?Zm ?Zh0 ?Zhz ?Zhx ?_ ?Zhs ?Zhg; (case ZN => k_asm); (case Zm => k_mem); (case Zh0 => omega); (case Zhz => omega); (case Zhx => assumption); (case Zhs => with_unfolding_all rfl); (case Zhg => intro _; with_unfolding_all rfl); k_whole))
  k_with "subscriptTail Subscript Constant ref str" => (k_here; (with_reducible show wpAny _ _ (subscriptTail _ _ (Value.ref _) (Value.str _ _)) _ _ _); k_dflt (refine' kda_item (knd := PySem.strKind _ _) ?ZN ?Zm ?Zd ?Zk ?Zl ?_ ?Zhs ?Zhg; (case ZN => k_asm); (case Zm => k_mem); (case Zd => assumption); (case Zk => exact PySem.strKind_is _ _ _ _); (case Zl => assumption); (case Zhs => with_unfolding_all rfl); (case Zhg => intro _; with_unfolding_all rfl); k_whole))
  k_with "subscriptTail Attribute Name ref int" => (k_here; (with_reducible show wpAny _ _ (subscriptTail _ _ (Value.ref _) (Value.int _ _)) _ _ _); k_dflt (refine' item_newsA ?ZN ?Zm ?Zh0 ?Zhz ?Zhx ?_ ?Zhs ?Zhg; (case ZN => k_asm); (case Zm => k_mem); (case Zh0 => omega); (case Zhz => omega); (case Zhx => assumption); (case Zhs => with_unfolding_all rfl); (case Zhg => intro _; with_unfolding_all rfl); k_whole))
  k_with "subscriptTail Attribute Name ref int" => (k_here; (with_reducible show wpAny _ _ (subscriptTail _ _ (Value.ref _) (Value.int _ _)) _ _ _); k_dflt (refine' item_news ?ZN ?Zm ?Zh0 ?Zhz ?Zhx ?_ ?Zhs ?Zhg; (case ZN => k_asm); (case Zm => k_mem); (case Zh0 => omega); (case Zhz => omega); (case Zhx => assumption); (case Zhs => with_unfolding_all rfl); (case Zhg => intro _; with_unfolding_all rfl); k_whole))
  k_with "subscriptTail Attribute Name ref str" => (k_here; (with_reducible show wpAny _ _ (subscriptTail _ _ (Value.ref _) (Value.str _ _)) _ _ _); k_dflt (refine' kda_item (knd := PySem.strKind _ _) ?ZN ?Zm ?Zd ?Zk ?Zl ?_ ?Zhs ?Zhg; (case ZN => k_asm); (case Zm => k_mem); (case Zd => assumption); (case Zk => exact PySem.strKind_is _ _ _ _); (case Zl => assumption); (case Zhs => with_unfolding_all rfl); (case Zhg => intro _; with_unfolding_all rfl); k_whole))
  k_with "subscriptTail Name BinOp ref int" => (k_here; (with_reducible show wpAny _ _ (subscriptTail _ _ (Value.ref _) (Value.int _ _)) _ _ _); k_dflt (refine' item_newsA ?ZN ?Zm ?Zh0 ?Zhz ?Zhx ?_ ?Zhs ?Zhg; (case ZN => k_asm); (case Zm => k_mem); (case Zh0 => omega); (case Zhz => omega); (case Zhx => assumption); (case Zhs => with_unfolding_all rfl); (case Zhg => intro _; with_unfolding_all rfl); k_whole))
  k_with "subscriptTail Name BinOp ref int" => (k_here; (with_reducible show wpAny _ _ (subscriptTail _ _ (Value.ref _) (Value.int _ _)) _ _ _); k_dflt (refine' item_news ?ZN ?Zm ?Zh0 ?Zhz ?Zhx ?_ ?Zhs ?Zhg; (case ZN => k_asm); (case Zm => k_mem); (case Zh0 => omega); (case Zhz => omega); (case Zhx => assumption); (case Zhs => with_unfolding_all rfl); (case Zhg => intro _; with_unfolding_all rfl); k_whole))
  k_with "subscriptTail Name BinOp ref str" => (k_here; (with_reducible show wpAny _ _ (subscriptTail _ _ (Value.ref _) (Value.str _ _)) _ _ _); k_dflt (refine' kda_item (knd := PySem.strKind _ _) ?ZN ?Zm ?Zd ?Zk ?Zl ?_ ?Zhs ?Zhg; (case ZN => k_asm); (case Zm => k_mem); (case Zd => assumption); (case Zk => exact PySem.strKind_is _ _ _ _); (case Zl => assumption); (case Zhs => with_unfolding_all rfl); (case Zhg => intro _; with_unfolding_all rfl); k_whole))
  k_with "k_ne" => first | assumption | exact Ne.symm (by assumption) | exact Nat.ne_of_lt (by assumption) | exact Nat.ne_of_gt (by assumption) | exact Nat.ne_of_lt (And.left (by assumption)) | exact Nat.ne_of_gt (And.left (by assumption)) | exact Nat.ne_of_lt (And.left (And.right (by assumption))) | exact Nat.ne_of_gt (And.left (And.right (by assumption))) | exact Nat.ne_of_lt (And.left (And.right (And.right (by assumption)))) | exact Nat.ne_of_gt (And.left (And.right (And.right (by assumption)))) | exact Nat.ne_of_lt (And.left (And.right (And.right (And.right (by assumption))))) | exact Nat.ne_of_gt (And.left (And.right (And.right (And.right (by assumption))))) | exact Nat.ne_of_lt (And.left (And.right (And.right (And.right (And.right (by assumption)))))) | exact Nat.ne_of_gt (And.left (And.right (And.right (And.right (And.right (by assumption)))))) | exact Nat.ne_of_lt (And.left (And.right (And.right (And.right (And.right (And.right (by assumption))))))) | exact Nat.ne_of_gt (And.left (And.right (And.right (And.right (And.right (And.right (by assumption))))))) | exact Nat.ne_of_lt (And.left (And.right (And.right (And.right (And.right (And.right (And.right (by assumption)))))))) | exact Nat.ne_of_gt (And.left (And.right (And.right (And.right (And.right (And.right (And.right (by assumption)))))))) | exact Nat.ne_of_lt (And.left (And.right (And.right (And.right (And.right (And.right (And.right (And.right (by assumption))))))))) | exact Nat.ne_of_gt (And.left (And.right (And.right (And.right (And.right (And.right (And.right (And.right (by assumption))))))))) | exact Nat.ne_of_lt (And.left (And.right (And.right (And.right (And.right (And.right (And.right (And.right (And.right (by assumption)))))))))) | exact Nat.ne_of_gt (And.left (And.right (And.right (And.right (And.right (And.right (And.right (And.right (And.right (by assumption)))))))))) | omega
  k_with "k_sub" => ((try simp only [List.cons_append]); (repeat' (first | exact (fun _ h => h) | (with_reducible refine sub_cons ?_ ?_) | (with_reducible refine sub_append ?_ ?_))); all_goals (first | ((repeat (first | exact List.Mem.head _ | (with_reducible apply List.mem_cons_of_mem) | (with_reducible apply List.mem_append_right))); done) | (intro _ hp; (repeat (first | exact hp | exact List.mem_append_left _ hp | exact List.mem_append_left _ (List.mem_append_left _ hp) | exact List.mem_append_left _ (List.mem_append_right _ hp) | (with_reducible apply List.mem_cons_of_mem) | (with_reducible apply List.mem_append_right))); done)))
  trivial
/-- what shared_spots gives -/
inductive SpotsPost (w : World) (news : Led) (Gs : List Font) (b0 : Int) (v : Value) (nw : Led) : Prop
  | mk (ex : Led) (T PL : Addr) (plvs : List Value) (npl : Nat) (tb : Tok) (e1 : v = .ref T) (e2 : nw = ex ++ news) (hT : (T, { cls := .type "tuple", data := .seq #[.bytes (bodyOf Gs) tb, .ref PL] }) ∈ ex) (hPL : (PL, PySem.W.listOf plvs.toArray npl) ∈ ex)
    (hPl : PlacesAt w ex plvs (allOf b0 Gs).2) (B : Addr) (hB : ∀ p ∈ news, p.1 < B) (hBx : ∀ p ∈ ex, B ≤ p.1)
theorem c_spots {w : World} {news : Led} {fl : Addr} {fvs : List Value} {nf : Nat} {Gs : List Font} {b0 : Int} {t : Tok} (hl : (fl, PySem.W.listOf fvs.toArray nf) ∈ news) (hG : FontsAt w news fvs Gs) (h4 : Gs.length ≤ 4) (hb0 : 0 ≤ b0 ∧ b0 ≤ 10000) :
    Con w 4 300 news 278 [.ref fl, .int b0 t] (SpotsPost w news Gs b0) := by
  unfold Con; intro mean mg mb dp un gd cn cs xa ccd cl outer A₀ base h₀ L m s Q E B F X₀ N T hk hd hu hret
  revert X₀; k_fill; intro X₀
  refine wpAny_call ?_
  k_with "call ref" => (k_here; k_dflt (refine' Con.use (c_to_fours ?Zp0) ?ZkB ?ZkF ?ZkX ?ZkN ?ZkT ?Zkk ?Zkd ?Zku ?_; (case ZkB => k_asm); (case ZkF => k_asm); (case ZkX => k_in); (case ZkN => k_asm); (case ZkT => k_asm); (case Zkk => first | exact rfl | assumption); (case Zp0 => omega); (case Zkd => ktr_room); (case Zku => ktr_units); intro v9 h9 tk9 nw9 hp9 F9 N9; obtain ⟨e1, t9, e2⟩ := hp9; subst nw9; subst v9; (try dsimp only); (try k_sweep); (try k_fold)))
  k_dflt (walk_at "cellc_enter")
  k_steps
  have N1 := News.tail_ (by k_asm)
  k_dflt (refine' iters_listT ?Zhh ?ZhF ?ZhN ?Zhl ?ZhL ?_; (case Zhh => with_unfolding_all rfl); (case ZhF => k_asm); (case ZhN => exact N1); (case Zhl => exact News.isList (by k_asm) (by k_mem)); (case ZhL => exact News.neL (a := fl) N1 (by k_mem)))
  clear N1
  have hnews := l1
  rintro fp wr St h2 tk2 hgo T2
  dsimp only
  rename_i P9 _ lP S9 _ lS PL9 _ lPL D9 _ lD _ _ _ _ _ _ _ _
  refine ⟨_, _, _, _, _, _, _, _, _, _, hgo, T2, fun i => SJ w news b0 (allOf b0 (Gs.take i)) (4 * i) L' P9 S9 PL9, ⟨[], 0, [], 0, [], 0, _, _, _, _, [], _, rfl, by assumption, ⟨_, by assumption⟩, ⟨_, by assumption⟩, ⟨_, by assumption⟩, (by rw [show b0 + ((off (allOf b0 (List.take 0 Gs)).1 (allOf b0 (List.take 0 Gs)).1.length : Nat) : Int) = b0 from Int.add_zero b0]; rfl), rfl, rfl, .nil, .nil, .nil, ⟨Nat.zero_le _, fun _ h => nomatch h⟩, fun _ h => nomatch h⟩, ?_, ?_⟩
  · rintro Qx i v m₁ nw own h3 tk3 E' hi hv ⟨plvs, npl, svs, ns, pvs, np, o4, o3, o2, o1, ex, tb, hnw, d1, ⟨x2, d2⟩, ⟨x3, d3⟩, ⟨x4, d4⟩, hmb, hms, hmp, hP, hS, hPl, ⟨hpn, hpb⟩, hex⟩ F3 N3 hap
    subst nw
    obtain ⟨G, hGi, tp, d, t0, rfl, htp, hD⟩ := hG.at_ i v (by simpa using hv)
    obtain ⟨⟨od, kvs, hdm, hod, hkv⟩, hlo, hks, hfew⟩ := hD
    simp only [List.cons_append] at N3
    have hsrc : ∀ b ∈ [fl], b < L' := fun b hb => by rw [List.mem_singleton.mp hb]; exact hnews _ hl
    have hr4 := rest_ne (c := L' + 1 + 1 + 1 + 1) hnews hex hap hsrc (by omega) (by omega) ⟨_, by k_mem⟩
    have hr3 := rest_ne (c := L' + 1 + 1 + 1) hnews hex hap hsrc (by omega) (by omega) ⟨_, by k_mem⟩
    have hr2 := rest_ne (c := L' + 1 + 1) hnews hex hap hsrc (by omega) (by omega) ⟨_, by k_mem⟩
    have hr1 := rest_ne (c := L' + 1) hnews hex hap hsrc (by omega) (by omega) ⟨_, by k_mem⟩
    have hrP := rest_ne (c := P9) hnews hex hap hsrc (by omega) (by omega) ⟨_, by k_mem⟩
    have hrS := rest_ne (c := S9) hnews hex hap hsrc (by omega) (by omega) ⟨_, by k_mem⟩
    have hrL := rest_ne (c := PL9) hnews hex hap hsrc (by omega) (by omega) ⟨_, by k_mem⟩
    obtain ⟨rest, hrest⟩ : ∃ rest, rest = (ex ++ news) ++ own := ⟨_, rfl⟩
    have htp' : (tp, { cls := .type "tuple", data := .seq #[.int 65536 t0, .ref d] }) ∈ rest := by rw [hrest]; exact List.mem_append_left _ (List.mem_append_right _ htp)
    have hdm' : (d, od) ∈ rest := by rw [hrest]; exact List.mem_append_left _ (List.mem_append_right _ hdm)
    rw [← hrest] at N3 hr4 hr3 hr2 hr1 hrP hrS hrL
    have hks' : (kvs.map (·.1)).Sublist tagL := by rw [hkv.keys]; exact hks
    (try k_unmd); (try k_fold)
    k_steps
    rename_i o2n d2n _ Df _ oD loD hsD _ _ _ lDf TK _ lTK TU _ lTU _ _ _ o3n d3n
    obtain ⟨rest2, hrest2⟩ : ∃ r : Led, r = (PL9, PySem.W.listOf plvs.toArray npl) :: (L' + 1 + 1 + 1, o3n) :: (L' + 1 + 1, o2n) :: (L' + 1, o1) :: rest := ⟨_, rfl⟩
    have hsl := News.isList (a := sD) (by k_asm) (by k_mem)
    have hsL := News.neL (a := sD) (by k_asm) (by k_mem)
    have N2 : News g' L' sh ((TK, PySem.W.listOf ([] : List Value).toArray 0) :: (Df, oD) :: (S9, PySem.W.listOf svs.toArray ns) :: (P9, PySem.W.listOf pvs.toArray np) :: (L' + 1 + 1 + 1 + 1, o4) :: rest2) := by
      rw [hrest2]
      refine News.sub (by k_asm) ?_
      k_extra "k_sub"
    have q4 : ∀ p ∈ rest2, p.1 ≠ L' + 1 + 1 + 1 + 1 := by rw [hrest2]; first | k_all | fail
    have qP : ∀ p ∈ rest2, p.1 ≠ P9 := by rw [hrest2]; first | k_all | fail
    have qS : ∀ p ∈ rest2, p.1 ≠ S9 := by rw [hrest2]; first | k_all | fail
    have qD : ∀ p ∈ rest2, p.1 ≠ Df := by rw [hrest2]; first | k_all | fail
    have qT : ∀ p ∈ rest2, p.1 ≠ TK := by rw [hrest2]; first | k_all | fail
    have m1 : (L' + 1, o1) ∈ rest2 := by rw [hrest2]; k_mem
    have m2 : (L' + 1 + 1, o2n) ∈ rest2 := by rw [hrest2]; k_mem
    have m3 : (L' + 1 + 1 + 1, o3n) ∈ rest2 := by rw [hrest2]; k_mem
    have m4 : (d, od) ∈ rest2 := by rw [hrest2]; k_mem
    k_dflt (refine' iters_list ?Zhh ?ZhF ?ZhN ?Zhl ?ZhL ?_; (case Zhh => with_unfolding_all rfl); (case ZhF => k_asm); (case ZhN => exact N2); (case Zhl => exact hsl); (case ZhL => exact hsL))
    rintro fp4 wr4 St4 h4' tk4 T4
    dsimp only
    refine ⟨_, _, _, _, _, _, _, _, _, _, T4, fun j => TJ w rest2 b0 (fstep (allOf b0 (Gs.take i)).1 ((G.take j).map (·.2))) (G.take j) (L' + 1 + 1 + 1 + 1) P9 S9 PL9 Df TK (4 * i + j), ⟨[], 0, oD, [], svs, ns, pvs, np, o4, tb, rfl, ⟨_, d4⟩, hsD, .nil, hmb, hms, hmp, rfl, hP, hS, .nil, hpn, hpb⟩, ?_, ?_⟩
    · rintro Qx j v m₃ nw2 own2 h5 tk5 E2 hj hv2 ⟨tvs, nt, oD2, kvs2, svs2, ns2, pvs2, np2, o42, tb2, hnw2, ⟨x42, d42⟩, hD2, hK2, hmb2, hms2, hmp2, hmf2, hP2, hS2, hT2, ⟨hpn2, hpb2⟩⟩ F5 N5 hap5
      subst nw2
      simp only [List.cons_append] at N5
      have w4 := fun (p : Addr × Obj) hp => (own_ne hap5 (c := L' + 1 + 1 + 1 + 1) (src := [sD]) q4 (fun b hb => by rw [List.mem_singleton.mp hb]; omega) ⟨_, by k_mem⟩) p hp
      have wP := fun (p : Addr × Obj) hp => (own_ne hap5 (c := P9) (src := [sD]) qP (fun b hb => by rw [List.mem_singleton.mp hb]; omega) ⟨_, by k_mem⟩) p hp
      have wS := fun (p : Addr × Obj) hp => (own_ne hap5 (c := S9) (src := [sD]) qS (fun b hb => by rw [List.mem_singleton.mp hb]; omega) ⟨_, by k_mem⟩) p hp
      have wD := fun (p : Addr × Obj) hp => (own_ne hap5 (c := Df) (src := [sD]) qD (fun b hb => by rw [List.mem_singleton.mp hb]; omega) ⟨_, by k_mem⟩) p hp
      have wT := fun (p : Addr × Obj) hp => (own_ne hap5 (c := TK) (src := [sD]) qT (fun b hb => by rw [List.mem_singleton.mp hb]; omega) ⟨_, by k_mem⟩) p hp
      obtain ⟨k, tg, rfl, hkj⟩ := StrsAre.at sS (by simpa using hv2)
      obtain ⟨b, hGj⟩ : ∃ xb9, G[j]? = some (k, xb9) := by
        rw [hkv.keys, List.getElem?_map] at hkj
        cases e : G[j]? with
        | none => rw [e] at hkj; cases hkj
        | some x => rw [e] at hkj; obtain ⟨x1, x2⟩ := x; cases hkj; exact ⟨x2, rfl⟩
      obtain ⟨bt, hval⟩ := hkv.look (lookF_at (hks.nodup tagL_nodup) hGj)
      have hb6 : b.size ≤ 6 := hfew _ (List.mem_of_getElem? hGj)
      have hj4 : j < 4 := by
        have h1 := hks.length_le
        have h2 : j < G.length := (List.getElem?_eq_some_iff.mp hGj).1
        have h3 : tagL.length = 4 := rfl
        simp only [List.length_map] at h1
        omega
      have hi4 : i < 4 := by
        have := hG.len
        have : fvs.toArray.size = fvs.length := by simp
        omega
      have hlP := hP2.length
      have hlS := hS2.length
      have hlT := hT2.length
      have hst : fstep (allOf b0 (Gs.take i)).1 ((G.take (j + 1)).map (·.2)) = tstep (fstep (allOf b0 (Gs.take i)).1 ((G.take j).map (·.2))) b := by
        rw [List.take_add_one, hGj, List.map_append, Option.toList_some, List.map_singleton, fstep_snoc]
      have hGt : G.take (j + 1) = G.take j ++ [(k, b)] := by rw [List.take_add_one, hGj, Option.toList_some]
      have hltT : (fstep (allOf b0 (Gs.take i)).1 ((G.take j).map (·.2))).2.length ≤ 4 := by
        rw [fstep_len, List.length_map, List.length_take]; omega
      have hkn9 := key_new (hks.nodup tagL_nodup) hGj
      have hlt9 := fstep_lt (allOf b0 (Gs.take i)).1 ((G.take j).map (·.2))
      have hlen9 : (fstep (allOf b0 (Gs.take i)).1 ((G.take j).map (·.2))).2.length = (G.take j).length := by rw [fstep_len, List.length_map]
      have hkn8 : k ∉ kvs2.map (·.1) := by rw [hK2.keys, foundOf_keys hlen9]; exact hkn9
      generalize fstep (allOf b0 (Gs.take i)).1 ((G.take j).map (·.2)) = st at *
      obtain ⟨rest3, hrest3⟩ : ∃ r : Led, r = rest2 ++ own2 := ⟨_, rfl⟩
      have m1' : (L' + 1, o1) ∈ rest3 := by rw [hrest3]; exact List.mem_append_left _ m1
      have m2' : (L' + 1 + 1, o2n) ∈ rest3 := by rw [hrest3]; exact List.mem_append_left _ m2
      have m3' : (L' + 1 + 1 + 1, o3n) ∈ rest3 := by rw [hrest3]; exact List.mem_append_left _ m3
      have m4' : (d, od) ∈ rest3 := by rw [hrest3]; exact List.mem_append_left _ m4
      rw [← hrest3] at N5 w4 wP wS wD wT
      have hpl : pvs2.length ≤ 20 := by omega
      have hkl9 : kvs2.length ≤ 4 := by rw [hK2.length]; exact Nat.le_trans (foundOf_length _ _ _ _) (by rw [List.length_take]; omega)
      have hkl : kvs2.length ≤ sizeLine := by rw [sizeLine_eq]; omega
      have hslen : svs2.length ≤ 20 := by rw [hlS]; unfold spotsOf; rw [List.length_map, List.length_range]; omega
      have htl : tvs.length ≤ 4 := by rw [hlT, nats_length]; exact hltT
      (try k_unmd); (try k_fold)
      k_steps
      rename_i _ o4c _ _ d4c _ _ _ _ _ _ _ _ _
      have hpl5 : pvs2.length ≤ sizeLine := by rw [sizeLine_eq]; omega
      k_dflt (refine' iters_range ?Zhh ?ZhF ?ZhN ?Zhl ?Zhs ?Zhn ?_; (case Zhh => with_unfolding_all rfl); (case ZhF => k_asm); (case ZhN => k_asm); (case Zhl => assumption); (case Zhs => exact small_up (by omega)); (case Zhn => exact rsize_up _))
      rintro fp6 wr6 St6 h6 tk6 T6
      dsimp only
      refine ⟨_, _, _, _, _, _, _, _, _, _, T6, hpl5, (fun _ h => nomatch h), fun q acc nw => nw = _ ∧ IntsAre acc (nats (freeU q st.1 st.2 b)), ⟨rfl, .nil⟩, ?_, ?_⟩
      · rintro C q v6 acc nw6 oC own6 h7 tk7 E6 hq ⟨t6, rfl⟩ ⟨hnw6, hacc⟩ hl6 hNC hC F7 N7 hap7
        subst nw6
        refine tests_one ?_
        simp only [List.cons_append] at N7
        obtain ⟨rest4, hrest4⟩ : ∃ r : Led, r = rest3 ++ own6 := ⟨_, rfl⟩
        have hm := List.mem_append_right rest3 hC
        have m1'' := List.mem_append_left own6 m1'
        have m2'' := List.mem_append_left own6 m2'
        have m3'' := List.mem_append_left own6 m3'
        have m4'' := List.mem_append_left own6 m4'
        rw [← hrest4] at N7 hm m1'' m2'' m3'' m4''
        obtain ⟨pb, hpb5⟩ : ∃ xpb9, st.1[q]? = some xpb9 := ⟨_, List.getElem?_eq_getElem (by omega)⟩
        obtain ⟨pt, hpv⟩ := hP2.at hpb5
        have hq0 : (0 + (q : Int) * 1).toNat = q := by omega
        have hq1 : 0 ≤ 0 + (q : Int) * 1 ∧ 0 + (q : Int) * 1 < 100000 := by omega
        have hqe : 0 + (q : Int) * 1 = (q : Int) := by omega
        generalize 0 + (q : Int) * 1 = q9 at *
        have hpv' : pvs2[q9.toNat]? = some (.bytes pb pt) := by rw [hq0]; exact hpv
        (try k_unmd); (try k_fold)
        k_steps
        all_goals (try subst hrest4)
        all_goals (refine' ⟨_, _, _, _, ?ZhF, ?ZhN, hap7, ?ZhJ⟩; (case ZhF => k_asm); (case ZhN => k_asm); (case ZhJ => first | exact ⟨rfl, rfl, by rw [free_ne hpb5 (by assumption)]; exact hacc⟩ | exact ⟨rfl, rfl, by rw [free_in (by assumption) hqe]; exact hacc⟩ | exact ⟨rfl, rfl, by rw [free_at hpb5 (by assumption) (by assumption) hqe]; exact nats_free hacc hqe⟩))

      · rintro Fd nD h8 tk8 acc8 nw8 F8 N8 hoff8 hl8 ⟨hnw8, hacc8⟩
        subst nw8
        have z1 : @Ne Nat Fd TK := fun e => hoff8 _ (by k_mem : (TK, _) ∈ _) e.symm
        have z2 : @Ne Nat Fd Df := fun e => hoff8 _ (by k_mem : (Df, _) ∈ _) e.symm
        have z3 : @Ne Nat Fd S9 := fun e => hoff8 _ (by k_mem : (S9, _) ∈ _) e.symm
        have z4 : @Ne Nat Fd P9 := fun e => hoff8 _ (by k_mem : (P9, _) ∈ _) e.symm
        have z5 : @Ne Nat Fd (L' + 1 + 1 + 1 + 1) := fun e => hoff8 _ (by k_mem : (L' + 1 + 1 + 1 + 1, _) ∈ _) e.symm
        rw [hlP] at hacc8
        have hfr : freeU st.1.length st.1 st.2 b = freeL st.1 st.2 b := rfl
        rw [hfr] at hacc8
        have hts : tstep st b = tstep st b := rfl
        conv at hts => rhs; unfold tstep
        rw [hts] at hst
        cases hfl : freeL st.1 st.2 b with
        | nil =>
          rw [hfl] at hacc8 hst
          have he8 : nats [] = [] := rfl
          have hxn : (svs2.toArray.push (.int (b0 + (off st.1 st.1.length : Nat)) tb2))[((pvs2.length : Nat) : Int).toNat]? = some (.int (b0 + (off st.1 st.1.length : Nat)) tb2) := by
            have e : ((pvs2.length : Nat) : Int).toNat = svs2.toArray.size := by rw [Int.toNat_natCast, hlP, List.size_toArray, hlS]; unfold spotsOf; rw [List.length_map, List.length_range]
            rw [e, Array.getElem?_push_size]
          have hxn2 : (svs2 ++ [Value.int (b0 + (off st.1 st.1.length : Nat)) tb2])[((pvs2.length : Nat) : Int).toNat]? = some (.int (b0 + (off st.1 st.1.length : Nat)) tb2) := by
            rw [← List.getElem?_toArray, ← List.push_toArray]; exact hxn
          have hfz : (fours b).size ≤ 10 := by have := fours_le b; omega
          dsimp only at hst
          k_steps
          subst hrest3
          simp only [List.push_toArray] at N'
          refine' ⟨_, _, _, _, F', News.five (News.tail_ (News.tail_ (News.tail_ N'))), hap5.same rfl, ?_⟩
          · show TJ w rest2 b0 (fstep (allOf b0 (Gs.take i)).1 ((G.take (j + 1)).map (·.2))) (G.take (j + 1)) _ _ _ _ _ _ _ _ _
            rw [hst, hGt]
            refine' ⟨tvs ++ [Value.int (pvs2.length : Int) _], _, _, _, svs2 ++ [Value.int _ _], _, pvs2 ++ [Value.bytes b bt], _, _, _, rfl, ⟨_, d4c⟩, hd', ?Zx1_, (congrArg (fun z => some (Value.int z _)) off_cast : _), hms2, hmp2, hmf2, BytesAre.snoc hP2, ?Zx2_, ?Zx3_, ?Zx4_, ?Zx5_⟩
            · rw [stored_new hkn8]; dsimp only; rw [foundOf_snoc hlen9, foundOf_grow hlt9, off_prefix (Nat.le_refl _)]; exact hK2.snoc
            · dsimp only; rw [spotsOf_snoc]; exact Ints.snoc hS2
            · dsimp only; rw [nats_snoc, ← hlP]; exact Ints.snoc hT2
            · dsimp only; rw [List.length_append, List.length_singleton]; omega
            · intro x hx
              rcases List.mem_append.mp hx with hx | hx
              · exact hpb2 x hx
              · rw [List.mem_singleton.mp hx]; exact hb6
        | cons q0 qr =>
          rw [hfl] at hacc8 hst
          obtain ⟨q1, q2, q3⟩ := freeL_lt (parts := st.1) (taken := st.2) (b := b) (i := q0) (by rw [hfl]; exact .head _)
          have he8 : nats (q0 :: qr) ≠ [] := fun e => nomatch e
          obtain ⟨t0', hx0⟩ := IntsAre.at_ hacc8 (i := 0) (n := (q0 : Int)) rfl
          have hx0' : acc8[(0 : Int).toNat]? = some (.int (q0 : Int) t0') := hx0
          obtain ⟨t1', hx1⟩ := IntsAre.at_ hS2 (spotsOf_at (b0 := b0) q1)
          have hx1' : svs2[((q0 : Nat) : Int).toNat]? = some (.int (b0 + (off st.1 q0 : Nat)) t1') := hx1
          dsimp only at hst
          k_steps
          subst hrest3
          simp only [List.push_toArray] at N'
          refine' ⟨_, _, _, _, F', News.five (News.tail_ (News.tail_ N')), hap5.same rfl, ?_⟩
          · show TJ w rest2 b0 (fstep (allOf b0 (Gs.take i)).1 ((G.take (j + 1)).map (·.2))) (G.take (j + 1)) _ _ _ _ _ _ _ _ _
            rw [hst, hGt]
            refine ⟨tvs ++ [Value.int (q0 : Int) _], _, _, _, svs2, _, pvs2, _, _, _, rfl, ⟨_, d4c⟩, hd', ?_, hmb2, hms2, hmp2, hmf2, hP2, hS2, ?_, by dsimp only; omega, hpb2⟩
            · rw [stored_new hkn8]; dsimp only; rw [foundOf_snoc hlen9]; exact hK2.snoc
            · dsimp only; rw [nats_snoc]; exact Ints.snoc hT2
    · rintro h10 tk10 m10 nw10 F10 N10 ⟨tvs, nt, oD2, kvs2, svs2, ns2, pvs2, np2, o42, tb2, hnw2, ⟨x42, d42⟩, hD2, hK2, hmb2, hms2, hmp2, hmf2, hP2, hS2, hT2, ⟨hpn2, hpb2⟩⟩
      subst hnw2
      have hn : svals.toArray.size = G.length := by
        have h1 := StrsAre.length sS
        have h2 := hkv.length
        rw [List.size_toArray, h1, List.length_map, h2]
      have hG4 : G.length ≤ 4 := by
        have h1 := hks.length_le
        have h3 : tagL.length = 4 := rfl
        simp only [List.length_map] at h1
        omega
      rw [hn, List.take_length] at hK2 hmb2 hP2 hS2 hT2 hpn2 hpb2
      have hi4 : i < 4 := by
        have := hG.len
        have : fvs.toArray.size = fvs.length := by simp
        omega
      have hGt1 : Gs.take (i + 1) = Gs.take i ++ [G] := by rw [List.take_add_one, hGi, Option.toList_some]
      have hpl9 : plvs.length ≤ 4 := by
        rw [hPl.length]; exact Nat.le_trans (allOf_snd_len b0 (Gs.take i)) (by rw [List.length_take]; omega)
      subst hrest2
      dsimp only
      (try k_unmd); (try k_fold)
      k_steps
      rename_i N9
      subst hrest
      have hown : ∀ p ∈ own, p.1 ≠ Df := fun p hp => qD p (.tail _ (.tail _ (.tail _ (.tail _ (List.mem_append_right _ hp)))))
      (try simp only [List.push_toArray] at N9)
      refine' ⟨_, _, _, (PL9, PySem.W.listOf (plvs ++ [Value.ref Df]).toArray (npl + 1)) :: (S9, PySem.W.listOf svs2.toArray ns2) :: (P9, PySem.W.listOf pvs2.toArray np2) :: (L' + 1 + 1 + 1 + 1, o42) :: (L' + 1 + 1 + 1, o3n) :: (L' + 1 + 1, o2n) :: (L' + 1, o1) :: (((Df, oD2) :: ex) ++ news), (by k_asm), ?ZxN_, hap.of_sub ?ZxA_, ?ZxJ_⟩
      · refine News.sub N9 ?_
        k_extra "k_sub"
      · intro q hq
        simp only [List.mem_cons, List.mem_append, List.cons_append] at hq
        rcases hq with h | h | h | h | h | h | h | h | h | h
        · exact .inl ⟨_, List.Mem.head _, by rw [h]⟩
        · exact .inl ⟨_, (by k_mem : (S9, PySem.W.listOf svs.toArray ns) ∈ _), by rw [h]⟩
        · exact .inl ⟨_, (by k_mem : (P9, PySem.W.listOf pvs.toArray np) ∈ _), by rw [h]⟩
        · exact .inl ⟨_, (by k_mem : (L' + 1 + 1 + 1 + 1, o4) ∈ _), by rw [h]⟩
        · exact .inl ⟨_, (by k_mem : (L' + 1 + 1 + 1, o3) ∈ _), by rw [h]⟩
        · exact .inl ⟨_, (by k_mem : (L' + 1 + 1, o2) ∈ _), by rw [h]⟩
        · exact .inl ⟨_, (by k_mem : (L' + 1, o1) ∈ _), by rw [h]⟩
        · exact .inr (by rw [h]; exact hown)
        · exact .inl ⟨q, by simp [h], rfl⟩
        · exact .inl ⟨q, by simp [h], rfl⟩
      · show SJ w news b0 (allOf b0 (Gs.take (i + 1))) (4 * (i + 1)) L' P9 S9 PL9 _ _
        rw [hGt1, allOf_snoc]
        refine ⟨plvs ++ [Value.ref Df], _, svs2, _, pvs2, _, o42, o3n, o2n, o1, (Df, oD2) :: ex, _, rfl, d1, ⟨_, d2n⟩, ⟨_, d3n⟩, ⟨_, d42⟩, hmb2, hms2, hmp2, hP2, hS2, PlacesAt.snoc (hPl.mono fun p hp => .tail _ hp) ⟨Df, oD2, kvs2, rfl, .head _, hD2, hK2, loD⟩, ⟨by dsimp only; omega, hpb2⟩, fun p hp => ?_⟩
        rcases List.mem_cons.mp hp with rfl | hp
        · exact lDf.1
        · exact hex p hp
  · rintro h11 tk11 m11 nw11 F11 N11 ⟨plvs, npl, svs, ns, pvs, np, o4, o3, o2, o1, ex, tb, hnw, d1, ⟨x2, d2⟩, ⟨x3, d3⟩, ⟨x4, d4⟩, hmb, hms, hmp, hP, hS, hPl, ⟨hpn, hpb⟩, hex⟩
    subst hnw
    have hnf : fvs.toArray.size = Gs.length := by rw [List.size_toArray, hG.len]
    rw [hnf, List.take_length] at hP hS hPl hpn hpb hmb
    have hlP := hP.length
    have hpl20 : pvs.length ≤ 16 := by omega
    dsimp only
    (try k_unmd); (try k_fold)
    k_steps
    have hPL9 := List.mem_cons_of_mem (PL9, PySem.W.listOf plvs.toArray npl) (List.mem_cons_of_mem (S9, PySem.W.listOf svs.toArray ns) (List.Mem.head (a := (P9, PySem.W.listOf pvs.toArray np)) ((L' + 1 + 1 + 1 + 1, o4) :: (L' + 1 + 1 + 1, o3) :: (L' + 1 + 1, o2) :: (L' + 1, o1) :: (ex ++ news))))
    have hplz : pvs.length ≤ sizeLine := by rw [sizeLine_eq]; omega
    k_dflt (refine' iters_list ?Zhh ?ZhF ?ZhN ?Zhl ?ZhL ?_; (case Zhh => with_unfolding_all rfl); (case ZhF => k_asm); (case ZhN => exact N11); (case Zhl => exact News.isList N11 hPL9); (case ZhL => exact News.neL N11 hPL9))
    rintro fp12 wr12 St12 h12 tk12 T12
    dsimp only
    refine ⟨_, _, _, _, _, _, _, _, _, _, _, T12, by rw [List.size_toArray]; exact hplz, ?_, fun q acc nw => nw = _ ∧ BytesAre acc (((allOf b0 Gs).1.take q).map fours), ⟨rfl, .nil⟩, ?_, ?_⟩
    · intro q hq
      rw [List.mem_singleton.mp hq]
      exact Heap.lt_size (T12.N _ hPL9).1
    · rintro C q v13 acc nw13 oC own13 h13 tk13 E13 hq hv13 ⟨hnw13, hacc⟩ hl13 hNC hC F13 N13 hap13
      subst nw13
      refine turn_nil ?_
      obtain ⟨bq, hbq⟩ : ∃ xb9, (allOf b0 Gs).1[q]? = some xb9 := ⟨_, List.getElem?_eq_getElem (by rw [List.size_toArray] at hq; omega)⟩
      obtain ⟨tq, htq⟩ := hP.at hbq
      have hve : v13 = .bytes bq tq := by
        have : pvs[q]? = some v13 := by simpa using hv13
        rw [htq] at this; exact (Option.some.inj this).symm
      subst hve
      have hbq6 := hpb _ (List.mem_of_getElem? hbq)
      have hm := List.mem_append_right ((PL9, PySem.W.listOf plvs.toArray npl) :: (S9, PySem.W.listOf svs.toArray ns) :: (P9, PySem.W.listOf pvs.toArray np) :: (L' + 1 + 1 + 1 + 1, o4) :: (L' + 1 + 1 + 1, o3) :: (L' + 1 + 1, o2) :: (L' + 1, o1) :: (ex ++ news)) hC
      simp only [List.cons_append] at N13
      (try k_unmd); (try k_fold)
      k_steps
      all_goals (refine' ⟨_, _, _, _, ?ZhF, ?ZhN, hap13, ?ZhJ⟩; (case ZhF => k_asm); (case ZhN => k_asm); (case ZhJ => exact ⟨rfl, rfl, by rw [List.take_add_one, hbq, Option.toList_some, List.map_append]; exact BytesAre.snoc hacc⟩))

    · rintro D13 nD13 h14 tk14 acc nw14 F14 N14 hoff14 hl14 ⟨hnw14, hacc⟩
      subst hnw14
      have hnp : pvs.toArray.size = (allOf b0 Gs).1.length := by rw [List.size_toArray, hlP]
      rw [hnp, List.take_length] at hacc
      have hz9 : (cat ((allOf b0 Gs).1.map fours)).size ≤ 1000 := by
        have h1 := cat_size_le (k := 10) (bs := (allOf b0 Gs).1.map fours) (by
          intro x hx
          obtain ⟨y, hy, rfl⟩ := List.mem_map.mp hx
          have := fours_le y
          have := hpb y hy
          omega)
        rw [List.length_map] at h1
        omega
      k_steps
      rename_i TT _ _ _ lT kF9 kN9 _ _
      have hbody : cat (List.map fours (allOf b0 Gs).1) = bodyOf Gs := by unfold bodyOf; rw [allOf_fst 0 b0 Gs]
      rw [hbody] at kN9
      refine' hret _ _ _ _ ?Zx9_ kF9 (News.last kN9)
      refine ⟨_, TT, PL9, plvs, npl, _, rfl, rfl, .head _, .tail _ (.head _), hPl.mono (fun p hp => .tail _ (.tail _ hp)), L', hnews, ?_⟩
      · intro p hp
        rcases List.mem_cons.mp hp with rfl | hp
        · show @LE.le Nat _ L' TT; omega
        · rcases List.mem_cons.mp hp with rfl | hp
          · show @LE.le Nat _ L' PL9; omega
          · have h1 := hex p hp
            have h2 : @LT.lt Nat _ L' PL9 := by omega
            exact Nat.le_of_lt (Nat.lt_trans h2 h1)

end Mine
end
section
open PySem PySem.W PySem.Calls PyProof.Rows PySem.Spec PyProof.V
namespace Mine
section
variable {M : Model} {A : Around} {s : Shared} {env : Env} {K : Frag}
/-- a call whose one argument is itself read of clean stacks -/
theorem N_with_K1 {pos : Pos} {f : Value} {first : List Value} {e : Expr} {Q : Value → Shared → Prop} (hk : keepIn K f = true)
    (h : wpN M A (eval e env) (fun v s₁ => K.In s₁.heap ∧ wpN M A (call f (first ++ [v]) []) Q s₁) s)
    (he : backTo pos (starEach [e] env) = [(false, eval e env)]) :
    wpN M A (callWith pos f first (backTo pos (starEach [e] env)) []) Q s := by
  rw [he]
  unfold callWith
  refine N_bind (N_holding (N_mono (N_evalArgs_one (f := f) (Q := fun x s₁ => K.In s₁.heap ∧ wpN M A (call f (first ++ x.pos) x.kw) Q s₁) h) (fun a s₁ h₁ => N_bindA (wpAny_standAt ?_))))
  obtain ⟨k, hk', L⟩ := keeps_K (M := M) hk _ h₁.1
  simp only [List.any_cons, List.any_nil, Bool.or_false]
  refine N_bindA (L.here ?_)
  rcases hk' with rfl | rfl | rfl <;> dsimp only <;> first | exact tailN h₁.2 | (split <;> first | exact tailN h₁.2 | exact tailN (by unfold callMarked; exact N_keep h₁.2))
end
theorem ne_ex {ex rest : Led} {B c : Nat} (hx : ∀ p ∈ ex, B ≤ p.1) (hc : c < B) (hr : ∀ p ∈ rest, p.1 ≠ c) : ∀ p ∈ ex ++ rest, p.1 ≠ c := by
  intro p hp e
  rcases List.mem_append.mp hp with hp | hp
  · have h := hx p hp
    rw [e] at h
    exact absurd (Nat.lt_of_lt_of_le hc h) (Nat.lt_irrefl _)
  · exact hr p hp e
theorem own_ne2 {rest2 own nw : Led} {src : List Addr} {c : Nat} (hap : Apart own nw src) (hr : ∀ p ∈ rest2, p.1 ≠ c) (hsrc : ∀ b ∈ src, b ≠ c) (hm : ∃ o, (c, o) ∈ nw) : ∀ p ∈ rest2 ++ own, p.1 ≠ c := by
  obtain ⟨o, hm⟩ := hm
  intro p hp e
  rcases List.mem_append.mp hp with hp | hp
  · exact hr p hp e
  · rcases hap p hp with h | h
    · exact hsrc _ h e
    · exact h _ hm e
section
variable {h₀ h : Heap} {L : Addr}
theorem News.four {r o : Led} {a b c d : Addr × Obj} (N : News h₀ L h (a :: b :: c :: d :: (r ++ o))) : News h₀ L h ((a :: b :: c :: d :: r) ++ o) := N
theorem News.rot4 {ex r : Led} {a b c d : Addr × Obj} (N : News h₀ L h (ex ++ (a :: b :: c :: d :: r))) : News h₀ L h (a :: b :: c :: d :: (ex ++ r)) := News.sub N fun p hp => by
  simp only [List.mem_append, List.mem_cons] at hp ⊢
  rcases hp with h | h | h | h | h | h <;> simp [h]
end
theorem FontsAt.of_mem {w : World} {news : Led} {fvs : List Value} {Gs : List Font} (h : FontsAt w news fvs Gs) {G : Font} (hm : G ∈ Gs) : ∃ d, TabAt' PySem.Challenge.rw_pb0184_01.row.prog w news d G := by
  obtain ⟨i, hi, e⟩ := List.getElem_of_mem hm
  have hi' : i < fvs.length := by rw [h.len]; exact hi
  obtain ⟨G', a, tp, d, t, b, c, f⟩ := h.at_ i fvs[i] (List.getElem?_eq_getElem hi')
  have : G' = G := by rw [List.getElem?_eq_getElem hi] at a; rw [← e]; exact (Option.some.inj a).symm
  subst this
  exact ⟨d, f⟩
theorem FontsAt.lens {w : World} {news : Led} {fvs : List Value} {Gs : List Font} (h : FontsAt w news fvs Gs) : ∀ G ∈ Gs, G.length ≤ 4 := fun G hm => by
  obtain ⟨d, f⟩ := h.of_mem hm
  have h1 := f.keys.length_le
  have h3 : tagL.length = 4 := rfl
  simp only [List.length_map] at h1
  omega
theorem FontsAt.fours {w : World} {news : Led} {fvs : List Value} {Gs : List Font} (h : FontsAt w news fvs Gs) : ∀ G ∈ Gs, ∀ b ∈ G.map (·.2), (Mine.fours b).size ≤ 10 := fun G hm b hb => by
  obtain ⟨d, f⟩ := h.of_mem hm
  obtain ⟨y, hy, rfl⟩ := List.mem_map.mp hb
  have h1 := f.few y hy
  have h2 := fours_le y.2
  omega
theorem allOf_len (b0 : Int) : ∀ Gs : List Font, (∀ G ∈ Gs, G.length ≤ 4) → (allOf b0 Gs).1.length ≤ 4 * Gs.length := by
  refine List.snocInd (fun _ => Nat.zero_le _) ?_
  intro Gs G ih h
  have h1 := ih fun x hx => h x (List.mem_append_left _ hx)
  have h2 := h G (List.mem_append_right _ (.head _))
  have h3 := fstep_lenp (allOf b0 Gs).1 (G.map (·.2))
  rw [allOf_snoc, List.length_append, List.length_singleton]
  rw [List.length_map] at h3
  dsimp only
  omega
end Mine
end
section
open Lean Elab Tactic Meta PySem PySem.W PySem.Calls PyProof.Rows
namespace Mine
theorem setup15 : True := by
  k_with_none
  w_top off
  k_with "k_all" => first | assumption | exact Apart.off (by assumption) (by k_mem) (by simp) | (k_dflt (exact allNe (by assumption) (by (try dsimp only); omega)))
  k_with "k_mem" => first | with_reducible assumption | exact List.Mem.head _ | (refine' List.mem_cons_of_mem _ ?_; k_mem)
  k_with "cellc_enter" => (refine' code_defC ?Zk1 ?Zk2 ?Zk3 ?Zk4 ?Zk5 ?ZkA ?ZkF ?ZkK ?Zk6 ?Zk7 ?Zk8 ?Zk9 ?ZkB ?ZkD ?_ ?Zc2 ?Zc3 ?Zc4; (case ZkA => exact rfl); (case ZkF => exact rfl); (case ZkK => assumption); (case Zk1 => k_asm); (case Zk2 => k_asm); (case Zk3 => k_asm); (case Zk4 => k_asm); (case Zk5 => k_asm); (case Zk6 => k_is); (case Zk7 => k_is); (case Zk8 => ktr_room); (case Zk9 => exact BindsTo.of_eq rfl); (case ZkB => exact rfl); (case ZkD => decide +kernel); (case Zc2 => exact rfl); (case Zc3 => exact rfl); (case Zc4 => exact rfl); k_whole; intro g' L' h' tk' cells' FG' F' N' Y' B' X' T' l1; (try k_lt l1); k_cells Y'; (try simp only [List.cons_append, List.nil_append] at N'); (try dsimp only); (try k_lift B'); (try k_fold))
  k_with "eval ListComp" => (k_here; refine' comp_Jf ?ZkF ?Zc1 ?Zc2 ?Zc3 ?Zc4 ?Zc5 ?Zc6 ?_; (case ZkF => k_asm); (case Zc1 => with_unfolding_all rfl); (case Zc2 => decide); (case Zc3 => with_unfolding_all rfl); (case Zc4 => decide); (case Zc5 => with_unfolding_all rfl); (case Zc6 => intro _; with_unfolding_all rfl); k_whole; (try k_fold))
  k_with "exec Assign cons ListComp" => (k_here; refine' comp_Jaf ?ZkF ?Zc0 ?Zc1 ?Zc2 ?Zc3 ?Zc4 ?Zc5 ?Zc7 ?Zc8 ?Zc6 ?_; (case ZkF => k_asm); (case Zc0 => with_unfolding_all rfl); (case Zc1 => with_unfolding_all rfl); (case Zc2 => decide); (case Zc3 => with_unfolding_all rfl); (case Zc4 => decide); (case Zc5 => with_unfolding_all rfl); (case Zc7 => with_unfolding_all rfl); (case Zc8 => with_unfolding_all rfl); (case Zc6 => intro _; with_unfolding_all rfl); k_whole; (try k_fold))
  k_with "exec For" => (k_here; refine' for_Jf ?ZkF ?Zc1 ?Zc2 ?_; (case ZkF => k_asm); (case Zc1 => intro _; with_unfolding_all rfl); (case Zc2 => intro _ _; with_unfolding_all rfl); k_whole; (try k_fold))
  k_with "eval Name" => (k_here; k_dflt (refine' nameX_L ?ZF ?Zv ?_ ?Zc ?Za ?Zb; (case ZF => k_asm); (case Zc => rfl); (case Za => rfl); (case Zb => decide); (case Zv => assumption); k_whole))
  k_with "eval Name" => (k_here; k_inBlock; k_dflt (refine' name_compF ?ZkN ?Zkc ?Zkm ?Zkd ?_ ?Zk1 ?Zk2 ?Zk3 ?Zk4; (case Zk1 => rfl); (case Zk2 => rfl); (case Zk3 => decide); (case Zk4 => decide); (case ZkN => k_asm); (case Zkc => rfl); (case Zkm => k_mem); (case Zkd => k_asm); k_whole))
  k_with "eval Name" => (k_here; k_inBlock; k_dflt (refine' name_compC ?ZkN ?Zkc ?Zkm ?Zkd ?_ ?Zk1 ?Zk2 ?Zk3; (case Zk1 => rfl); (case Zk2 => rfl); (case Zk3 => decide); (case ZkN => k_asm); (case Zkc => rfl); (case Zkm => k_mem); (case Zkd => k_asm); k_whole))
  k_with "eval Name" => (k_here; k_inBlock; k_dflt (refine' name_comp ?ZkN ?Zkm ?Zkn ?Zkv ?_ ?Zk1 ?Zk2 ?Zk3; (case Zk1 => rfl); (case Zk2 => rfl); (case Zk3 => decide); (case ZkN => k_asm); (case Zkn => assumption); (case Zkm => k_mem); (case Zkv => rfl); k_whole))
  k_with "call type:bytes" => (k_here; k_dflt (refine' call_bytes_ba ?Zho ?Zhz ?_; (case Zho => exact ((by k_asm : News _ _ _ _) _ (by k_mem)).1); (case Zhz => omega); k_whole); intro _ _)
  k_with "call type:bytes" => (k_here; k_dflt (refine' call_bytes_n ?Zh0 ?Zh1 ?_; (case Zh0 => first | omega | (refine Int.fmod_nonneg_of_pos _ ?_; omega) | (simp; omega)); (case Zh1 => omega); k_whole); intro _ _)
  k_with "call type:bytes" => (k_here; k_dflt (refine' KBa.make_K ?ZkF ?ZkN ?Zkh ?Zkl ?Zki ?Zkr ?Zkz ?_; (case ZkF => k_asm); (case ZkN => k_asm); (case Zkh => rfl); (case Zkl => exact News.isList (by k_asm) (by k_mem)); (case Zki => assumption); (case Zkr => assumption); (case Zkz => omega); k_whole); intro _ _ _ F' N' kbaIn)
  k_with "exec For Name Call cons nil" => (k_here; refine' for_Jf ?ZkF ?Zc1 ?Zc2 ?_; (case ZkF => k_asm); (case Zc1 => intro _; with_unfolding_all rfl); (case Zc2 => intro _ _; with_unfolding_all rfl); k_whole; (try k_fold))
  k_with "exec For Name Name cons nil" => (k_here; refine' for_Jf ?ZkF ?Zc1 ?Zc2 ?_; (case ZkF => k_asm); (case Zc1 => intro _; with_unfolding_all rfl); (case Zc2 => intro _ _; with_unfolding_all rfl); k_whole; (try k_fold))
  k_with "exec For Tuple" => (k_here; refine' for_JTf ?ZkF ?Zc1 ?_; (case ZkF => k_asm); (case Zc1 => intro _; with_unfolding_all rfl); k_whole; (try k_fold))
  k_with "exec For Name" => (k_here; refine' for_Jf ?ZkF ?Zc1 ?Zc2 ?_; (case ZkF => k_asm); (case Zc1 => intro _; with_unfolding_all rfl); (case Zc2 => intro _ _; with_unfolding_all rfl); k_whole; (try k_fold))
  k_with "binaryOp Add bytes bytes" => (k_here; k_dflt (refine' KBy.add_bytes ?Zhz ?_; (case Zhz => first | omega | (simp only [Array.size_replicate]; omega)); k_whole); intro _ _)
  k_with "call builtin:len" => (k_here; (with_reducible show wpAny _ _ (call (Value.builtin "len") [Value.ref _]) _ _ _); k_dflt (refine' len_news ?ZN ?Zm ?Zz ?_; (case ZN => k_asm); (case Zm => k_mem); (case Zz => omega); k_whole))
  k_with "call builtin:len" => (k_here; (with_reducible show wpAny _ _ (call (Value.builtin "len") [Value.ref _]) _ _ _); k_dflt (refine' kda_len (knd := PySem.strKind _ _) ?ZN ?Zm ?Zd ?Zlo ?Zz ?_; (case ZN => k_asm); (case Zm => k_mem); (case Zd => assumption); (case Zlo => assumption); (case Zz => omega); k_whole))
  k_with "call builtin:len" => (k_here; (with_reducible show wpAny _ _ (call (Value.builtin "len") [Value.str _ _]) _ _ _); k_dflt (refine' len_str ?Zz ?_; (case Zz => omega); k_whole))
  k_with "call builtin:len" => (k_here; (with_reducible show wpAny _ _ (call (Value.builtin "len") [Value.bytes _ _]) _ _ _); k_dflt (refine' len_bytes ?Zz ?_; (case Zz => first | omega | (simp only [Array.size_append, Array.size_replicate]; omega)); k_whole))
  k_with "celln_enter" => (refine' codeN_defC ?Zk1 ?Zk2 ?Zk3 ?Zk4 ?Zk5 ?ZkA ?ZkF ?ZkK ?Zk6 ?Zk7 ?Zk8 ?Zk9 ?ZkB ?ZkD ?_ ?Zc2 ?Zc3 ?Zc4; (case ZkA => exact rfl); (case ZkF => exact rfl); (case ZkK => assumption); (case Zk1 => k_asm); (case Zk2 => k_asm); (case Zk3 => k_asm); (case Zk4 => k_asm); (case Zk5 => k_asm); (case Zk6 => k_is); (case Zk7 => k_is); (case Zk8 => ktr_room); (case Zk9 => exact BindsTo.of_eq rfl); (case ZkB => exact rfl); (case ZkD => decide +kernel); (case Zc2 => exact rfl); (case Zc3 => exact rfl); (case Zc4 => exact rfl); k_whole; intro g' L' h' tk' cells' FG' F' N' Y' B' X' T' l1; (try k_lt l1); (first | k_cells Y' | (cases Y')); (try simp only [List.cons_append, List.nil_append] at N'); (try dsimp only); (try k_lift B'); (try k_fold))
  k_with "getMethod ref" => (k_here; (with_reducible show wpAny _ _ (getMethod (Value.ref _) (PySem.Str.ofString "extend") _) _ _ _); k_dflt (refine' ba_method ?ZkN ?Zkm ?_; (case ZkN => k_asm); (case Zkm => k_mem); k_whole))
  k_with "getMethod ref" => (k_here; (with_reducible show wpAny _ _ (getMethod (Value.ref _) (PySem.Str.ofString "append") _) _ _ _); k_dflt (refine' listMethod_K ?ZN ?Zm PySem.F.slot_list_append PySem.F.type_list_append ?_; (case ZN => k_asm); (case Zm => k_mem); k_whole))
  k_with "getMethod bytes" => (k_here; k_dflt (refine' by_method ?_; k_whole))
  k_with "call builtin:bytes.join" => (k_here; k_dflt (refine' by_join ?Zhl ?Zhv ?Zhz ?_; (case Zhl => exact News.isList (by k_asm) (by k_mem)); (case Zhv => assumption); (case Zhz => omega); k_whole); intro _ _)
  k_with "call builtin:ord" => (k_here; k_dflt (refine' ord_of_char ?_; k_whole))
  k_with "compareOp NotIn" => (k_here; (with_reducible show wpAny _ _ (compareOp CmpOp.NotIn (Value.int _ _) (Value.ref _)) _ _ _); k_dflt (refine' notin_K ?ZkF ?ZkX ?ZkK ?Zki ?_; (case ZkF => k_asm); (case ZkX => k_asm); (case ZkK => k_is); (case Zki => exact IntsAre.cons _ _ (IntsAre.cons _ _ (IntsAre.cons _ _ IntsAre.nil))); k_whole))
  k_with "compareOp NotIn int ref" => (k_here; (with_reducible show wpAny _ _ (compareOp CmpOp.NotIn (Value.int _ _) (Value.ref _)) _ _ _); k_dflt (refine' notin_K ?ZkF ?ZkX ?ZkK ?Zki ?_; (case ZkF => k_asm); (case ZkX => k_asm); (case ZkK => k_is); (case Zki => exact IntsAre.cons _ _ (IntsAre.cons _ _ (IntsAre.cons _ _ IntsAre.nil))); k_whole))
  k_with "compareOp NotIn int ref" => (k_here; (with_reducible show wpAny _ _ (compareOp CmpOp.NotIn (Value.int _ _) (Value.ref _)) _ _ _); k_dflt (refine' notin_list_ints ?Zhl ?Zhi ?_; (case Zhl => exact News.isList (by k_asm) (by k_mem)); (case Zhi => assumption); k_whole))
  k_with "call builtin:min" => (k_here; k_dflt (refine' min_letter ?Zhh ?ZhF ?ZhN ?Zhz ?_; (case Zhh => with_unfolding_all rfl); (case ZhF => k_asm); (case ZhN => k_asm); (case Zhz => omega); k_whole); intro _ c9 _ _ _ hc9 F9 N9; (try k_sweep); (try k_fold))
  k_with "call builtin:max" => (k_here; k_dflt (refine' max_letter ?Zhh ?ZhF ?ZhN ?Zhz ?_; (case Zhh => with_unfolding_all rfl); (case ZhF => k_asm); (case ZhN => k_asm); (case Zhz => omega); k_whole); intro _ d9 _ _ _ hd9 F9 N9; (try k_sweep); (try k_fold))
  k_with "exec For Tuple Name cons nil" => (k_here; refine' for_JTf ?ZkF ?Zc1 ?_; (case ZkF => k_asm); (case Zc1 => intro _; with_unfolding_all rfl); k_whole; (try k_fold))
  k_with "subscriptTail" => (k_here; (with_reducible show wpAny _ _ (subscriptTail _ _ (Value.ref _) (Value.int _ _)) _ _ _); k_dflt (refine' item_newsA ?ZN ?Zm ?Zh0 ?Zhz ?Zhx ?_ ?Zhs ?Zhg; (case ZN => k_asm); (case Zm => k_mem); (case Zh0 => omega); (case Zhz => omega); (case Zhx => assumption); (case Zhs => with_unfolding_all rfl); (case Zhg => intro _; with_unfolding_all rfl); k_whole))
  k_with "subscriptTail" => (k_here; (with_reducible show wpAny _ _ (subscriptTail _ _ (Value.ref _) (Value.str _ _)) _ _ _); k_dflt (refine' kda_item (knd := PySem.strKind _ _) ?ZN ?Zm ?Zd ?Zk ?Zl ?_ ?Zhs ?Zhg; (case ZN => k_asm); (case Zm => k_mem); (case Zd => assumption); (case Zk => exact PySem.strKind_is _ _ _ _); (case Zl => assumption); (case Zhs => with_unfolding_all rfl); (case Zhg => intro _; with_unfolding_all rfl); k_whole))
  k_with "subscriptTail" => (k_here; (with_reducible show wpAny _ _ (subscriptTail _ _ (Value.ref _) (Value.int _ _)) _ _ _); k_dflt (refine' item_news ?ZN ?Zm ?Zh0 ?Zhz ?Zhx ?_ ?Zhs ?Zhg; (case ZN => k_asm); (case Zm => k_mem); (case Zh0 => omega); (case Zhz => omega); (case Zhx => assumption); (case Zhs => with_unfolding_all rfl); (case Zhg => intro _; with_unfolding_all rfl); k_whole))
  k_with "compareOp Eq ref ref" => (k_here; (with_reducible show wpAny _ _ (compareOp CmpOp.Eq (Value.ref _) (Value.ref _)) _ _ _); k_dflt (refine' eq_nilT ?Zk1 ?Zk2 ?Zk3 ?Zk4 ?Zk5 ?_; (case Zk1 => exact News.isList (by k_asm) (by k_mem)); (case Zk2 => assumption); (case Zk3 => assumption); (case Zk4 => exact News.isList (by k_asm) (by k_mem)); (case Zk5 => ktr_units); k_whole))
  k_with "compareOp Eq ref ref" => (k_here; (with_reducible show wpAny _ _ (compareOp CmpOp.Eq (Value.ref _) (Value.ref _)) _ _ _); k_dflt (refine' eq_nilF ?Zk1 ?Zk2 ?Zk3 ?Zk4 ?Zk5 ?_; (case Zk1 => exact News.isList (by k_asm) (by k_mem)); (case Zk2 => assumption); (case Zk3 => assumption); (case Zk4 => exact News.isList (by k_asm) (by k_mem)); (case Zk5 => ktr_units); k_whole))
  k_with "call builtin:sorted" => (k_here; (with_reducible show wpAny _ _ (call (Value.builtin "sorted") [Value.ref _]) _ _ _); k_dflt (refine' sorted_tags ?Zhh ?ZF ?ZN ?Zm ?Zo ?Zlo ?Zhs ?_; (case Zhh => with_unfolding_all rfl); (case ZF => k_asm); (case ZN => k_asm); (case Zm => k_mem); (case Zo => assumption); (case Zlo => assumption); (case Zhs => assumption); k_whole); intro sD sn sh stk svals F' N' l1 sS; (try simp only [AllLt, and_true] at l1); (try dsimp only); (try k_sweep))
  k_with "setItem ref str" => (k_here; (with_reducible show wpAny _ _ (setItem (Value.ref _) (Value.str _ _) _) _ _ _); k_dflt (refine' kda_set (knd := PySem.strKind _ _) ?ZF ?ZN ?ZU ?Zd ?Zk ?Zz ?_; (case ZF => k_asm); (case ZN => k_asm); (case ZU => k_updF); (case Zd => assumption); (case Zk => exact PySem.strKind_is _ _ _ _); (case Zz => assumption)); intro h' o' F' N' hd'; (try dsimp only at N'); (try k_sweep))
  k_with "subscriptTail Name Name ref int" => (k_here; (with_reducible show wpAny _ _ (subscriptTail _ _ (Value.ref _) (Value.int _ _)) _ _ _); k_dflt (refine' item_newsA ?ZN ?Zm ?Zh0 ?Zhz ?Zhx ?_ ?Zhs ?Zhg; (case ZN => k_asm); (case Zm => k_mem); (case Zh0 => omega); (case Zhz => omega); (case Zhx => assumption); (case Zhs => with_unfolding_all rfl); (case Zhg => intro _; with_unfolding_all rfl); k_whole))
  k_with "subscriptTail Name Name ref int" => (k_here; (with_reducible show wpAny _ _ (subscriptTail _ _ (Value.ref _) (Value.int _ _)) _ _ _); k_dflt (refine' item_news ?ZN ?Zm ?Zh0 ?Zhz ?Zhx ?_ ?Zhs ?Zhg; (case ZN => k_asm); (case Zm => k_mem); (case Zh0 => omega); (case Zhz => omega); (case Zhx => assumption); (case Zhs => with_unfolding_all rfl); (case Zhg => intro _; with_unfolding_all rfl); k_whole))
  k_with "subscriptTail Name Name ref str" => (k_here; (with_reducible show wpAny _ _ (subscriptTail _ _ (Value.ref _) (Value.str _ _)) _ _ _); k_dflt (refine' kda_item (knd := PySem.strKind _ _) ?ZN ?Zm ?Zd ?Zk ?Zl ?_ ?Zhs ?Zhg; (case ZN => k_asm); (case Zm => k_mem); (case Zd => assumption); (case Zk => exact PySem.strKind_is _ _ _ _); (case Zl => assumption); (case Zhs => with_unfolding_all rfl); (case Zhg => intro _; with_unfolding_all rfl); k_whole))
  k_with "subscriptTail Name Constant ref int" => (k_here; (with_reducible show wpAny _ _ (subscriptTail _ _ (Value.ref _) (Value.int _ _)) _ _ _); k_dflt (refine' item_newsA ?ZN ?Zm ?Zh0 ?Zhz ?Zhx ?_ ?Zhs ?Zhg; (case ZN => k_asm); (case Zm => k_mem); (case Zh0 => omega); (case Zhz => omega); (case Zhx => assumption); (case Zhs => with_unfolding_all rfl); (case Zhg => intro _; with_unfolding_all rfl); k_whole))
  k_with "subscriptTail Name Constant ref int" => (k_here; (with_reducible show wpAny _ _ (subscriptTail _ _ (Value.ref _) (Value.int _ _)) _ _ _); k_dflt (refine' item_news ?ZN ?Zm ?Zh0 ?Zhz ?Zhx ?_ ?Zhs ?Zhg; (case ZN => k_asm); (case Zm => k_mem); (case Zh0 => omega); (case Zhz => omega); (case Zhx => assumption); (case Zhs => with_unfolding_all rfl); (case Zhg => intro _; with_unfolding_all rfl); k_whole))
  k_with "subscriptTail Name Constant ref int" => (k_here; (with_reducible show wpAny _ _ (subscriptTail _ _ (Value.ref _) (Value.int _ _)) _ _ _); k_dflt (refine' item_one ?ZN ?Zm ?_ ?Zhs ?Zhg; (case ZN => k_asm); (case Zm => k_mem); (case Zhs => with_unfolding_all rfl); (case Zhg => intro _; with_unfolding_all rfl); k_whole))
  k_with "subscriptTail Name Constant ref str" => (k_here; (with_reducible show wpAny _ _ (subscriptTail _ _ (Value.ref _) (Value.str _ _)) _ _ _); k_dflt (refine' kda_item (knd := PySem.strKind _ _) ?ZN ?Zm ?Zd ?Zk ?Zl ?_ ?Zhs ?Zhg; (case ZN => k_asm); (case Zm => k_mem); (case Zd => assumption); (case Zk => exact PySem.strKind_is _ _ _ _); (case Zl => assumption); (case Zhs => with_unfolding_all rfl); (case Zhg => intro _; with_unfolding_all rfl); k_whole))
  k_with "subscriptTail Name Subscript ref int" => (k_here; (with_reducible show wpAny _ _ (subscriptTail _ _ (Value.ref _) (Value.int _ _)) _ _ _); k_dflt (refine' item_newsA ?ZN ?Zm ?Zh0 ?Zhz ?Zhx ?_ ?Zhs ?Zhg; (case ZN => k_asm); (case Zm => k_mem); (case Zh0 => omega); (case Zhz => omega); (case Zhx => assumption); (case Zhs => with_unfolding_all rfl); (case Zhg => intro _; with_unfolding_all rfl); k_whole))
  k_with "subscriptTail Name Subscript ref int" => (k_here; (with_reducible show wpAny _ _ (subscriptTail _ _ (Value.ref _) (Value.int _ _)) _ _ _); k_dflt (refine' item_news ?ZN ?Zm ?Zh0 ?Zhz ?Zhx ?_ ?Zhs ?Zhg; (case ZN => k_asm); (case Zm => k_mem); (case Zh0 => omega); (case Zhz => omega); (case Zhx => assumption); (case Zhs => with_unfolding_all rfl); (case Zhg => intro _; with_unfolding_all rfl); k_whole))
  k_with "subscriptTail Name Subscript ref str" => (k_here; (with_reducible show wpAny _ _ (subscriptTail _ _ (Value.ref _) (Value.str _ _)) _ _ _); k_dflt (refine' kda_item (knd := PySem.strKind _ _) ?ZN ?Zm ?Zd ?Zk ?Zl ?_ ?Zhs ?Zhg; (case ZN => k_asm); (case Zm => k_mem); (case Zd => assumption); (case Zk => exact PySem.strKind_is _ _ _ _); (case Zl => assumption); (case Zhs => with_unfolding_all rfl); (case Zhg => intro _; with_unfolding_all rfl); k_whole))
  k_with "subscriptTail Subscript Name ref int" => (k_here; (with_reducible show wpAny _ _ (subscriptTail _ _ (Value.ref _) (Value.int _ _)) _ _ _); k_dflt (refine' item_newsA ?ZN ?Zm ?Zh0 ?Zhz ?Zhx ?_ ?Zhs ?Zhg; (case ZN => k_asm); (case Zm => k_mem); (case Zh0 => omega); (case Zhz => omega); (case Zhx => assumption); (case Zhs => with_unfolding_all rfl); (case Zhg => intro _; with_unfolding_all rfl); k_whole))
  k_with "subscriptTail Subscript Name ref int" => (k_here; (with_reducible show wpAny _ _ (subscriptTail _ _ (Value.ref _) (Value.int _ _)) _ _ _); k_dflt (refine' item_news ?ZN ?Zm ?Zh0 ?Zhz ?Zhx ?_ ?Zhs ?Zhg; (case ZN => k_asm); (case Zm => k_mem); (case Zh0 => omega); (case Zhz => omega); (case Zhx => assumption); (case Zhs => with_unfolding_all rfl); (case Zhg => intro _; with_unfolding_all rfl); k_whole))
  k_with "subscriptTail Subscript Name ref str" => (k_here; (with_reducible show wpAny _ _ (subscriptTail _ _ (Value.ref _) (Value.str _ _)) _ _ _); k_dflt (refine' kda_item (knd := PySem.strKind _ _) ?ZN ?Zm ?Zd ?Zk ?Zl ?_ ?Zhs ?Zhg; (case ZN => k_asm); (case Zm => k_mem); (case Zd => assumption); (case Zk => exact PySem.strKind_is _ _ _ _); (case Zl => assumption); (case Zhs => with_unfolding_all rfl); (case Zhg => intro _; with_unfolding_all rfl); k_whole))
  k_with "subscriptTail Subscript Constant ref int" => (k_here; (with_reducible show wpAny _ _ (subscriptTail _ _ (Value.ref _) (Value.int _ _)) _ _ _); k_dflt (refine' item_newsA ?ZN ?Zm ?Zh0 ?Zhz ?Zhx ?_ ?Zhs ?Zhg; (case ZN => k_asm); (case Zm => k_mem); (case Zh0 => omega); (case Zhz => omega); (case Zhx => assumption); (case Zhs => with_unfolding_all rfl); (case Zhg => intro _; with_unfolding_all rfl); k_whole))
  k_with "subscriptTail Subscript Constant ref int" => (k_here; (with_reducible show wpAny _ _ (subscriptTail _ _ (Value.ref _) (Value.int _ _)) _ _ _); k_dflt (refine' item_news ?ZN ?Zm ?Zh0 ?Zhz ?Zhx ?_ ?Zhs ?Zhg; (case ZN => k_asm); (case Zm => k_mem); (case Zh0 => omega); (case Zhz => omega); (case Zhx => assumption); (case Zhs => with_unfolding_all rfl); (case Zhg => intro _; with_unfolding_all rfl); k_whole))
  k_with "subscriptTail Subscript Constant ref str" => (k_here; (with_reducible show wpAny _ _ (subscriptTail _ _ (Value.ref _) (Value.str _ _)) _ _ _); k_dflt (refine' kda_item (knd := PySem.strKind _ _) ?ZN ?Zm ?Zd ?Zk ?Zl ?_ ?Zhs ?Zhg; (case ZN => k_asm); (case Zm => k_mem); (case Zd => assumption); (case Zk => exact PySem.strKind_is _ _ _ _); (case Zl => assumption); (case Zhs => with_unfolding_all rfl); (case Zhg => intro _; with_unfolding_all rfl); k_whole))
  k_with "subscriptTail Attribute Name ref int" => (k_here; (with_reducible show wpAny _ _ (subscriptTail _ _ (Value.ref _) (Value.int _ _)) _ _ _); k_dflt (refine' item_newsA ?ZN ?Zm ?Zh0 ?Zhz ?Zhx ?_ ?Zhs ?Zhg; (case ZN => k_asm); (case Zm => k_mem); (case Zh0 => omega); (case Zhz => omega); (case Zhx => assumption); (case Zhs => with_unfolding_all rfl); (case Zhg => intro _; with_unfolding_all rfl); k_whole))
  k_with "subscriptTail Attribute Name ref int" => (k_here; (with_reducible show wpAny _ _ (subscriptTail _ _ (Value.ref _) (Value.int _ _)) _ _ _); k_dflt (refine' item_news ?ZN ?Zm ?Zh0 ?Zhz ?Zhx ?_ ?Zhs ?Zhg; (case ZN => k_asm); (case Zm => k_mem); (case Zh0 => omega); (case Zhz => omega); (case Zhx => assumption); (case Zhs => with_unfolding_all rfl); (case Zhg => intro _; with_unfolding_all rfl); k_whole))
  k_with "subscriptTail Attribute Name ref str" => (k_here; (with_reducible show wpAny _ _ (subscriptTail _ _ (Value.ref _) (Value.str _ _)) _ _ _); k_dflt (refine' kda_item (knd := PySem.strKind _ _) ?ZN ?Zm ?Zd ?Zk ?Zl ?_ ?Zhs ?Zhg; (case ZN => k_asm); (case Zm => k_mem); (case Zd => assumption); (case Zk => exact PySem.strKind_is _ _ _ _); (case Zl => assumption); (case Zhs => with_unfolding_all rfl); (case Zhg => intro _; with_unfolding_all rfl); k_whole))
  k_with "subscriptTail Name BinOp ref int" => (k_here; (with_reducible show wpAny _ _ (subscriptTail _ _ (Value.ref _) (Value.int _ _)) _ _ _); k_dflt (refine' item_newsA ?ZN ?Zm ?Zh0 ?Zhz ?Zhx ?_ ?Zhs ?Zhg; (case ZN => k_asm); (case Zm => k_mem); (case Zh0 => omega); (case Zhz => omega); (case Zhx => assumption); (case Zhs => with_unfolding_all rfl); (case Zhg => intro _; with_unfolding_all rfl); k_whole))
  k_with "subscriptTail Name BinOp ref int" => (k_here; (with_reducible show wpAny _ _ (subscriptTail _ _ (Value.ref _) (Value.int _ _)) _ _ _); k_dflt (refine' item_news ?ZN ?Zm ?Zh0 ?Zhz ?Zhx ?_ ?Zhs ?Zhg; (case ZN => k_asm); (case Zm => k_mem); (case Zh0 => omega); (case Zhz => omega); (case Zhx => assumption); (case Zhs => with_unfolding_all rfl); (case Zhg => intro _; with_unfolding_all rfl); k_whole))
  k_with "subscriptTail Name BinOp ref str" => (k_here; (with_reducible show wpAny _ _ (subscriptTail _ _ (Value.ref _) (Value.str _ _)) _ _ _); k_dflt (refine' kda_item (knd := PySem.strKind _ _) ?ZN ?Zm ?Zd ?Zk ?Zl ?_ ?Zhs ?Zhg; (case ZN => k_asm); (case Zm => k_mem); (case Zd => assumption); (case Zk => exact PySem.strKind_is _ _ _ _); (case Zl => assumption); (case Zhs => with_unfolding_all rfl); (case Zhg => intro _; with_unfolding_all rfl); k_whole))
  k_with "k_ne" => first | assumption | exact Ne.symm (by assumption) | exact Nat.ne_of_lt (by assumption) | exact Nat.ne_of_gt (by assumption) | exact Nat.ne_of_lt (And.left (by assumption)) | exact Nat.ne_of_gt (And.left (by assumption)) | exact Nat.ne_of_lt (And.left (And.right (by assumption))) | exact Nat.ne_of_gt (And.left (And.right (by assumption))) | exact Nat.ne_of_lt (And.left (And.right (And.right (by assumption)))) | exact Nat.ne_of_gt (And.left (And.right (And.right (by assumption)))) | exact Nat.ne_of_lt (And.left (And.right (And.right (And.right (by assumption))))) | exact Nat.ne_of_gt (And.left (And.right (And.right (And.right (by assumption))))) | exact Nat.ne_of_lt (And.left (And.right (And.right (And.right (And.right (by assumption)))))) | exact Nat.ne_of_gt (And.left (And.right (And.right (And.right (And.right (by assumption)))))) | exact Nat.ne_of_lt (And.left (And.right (And.right (And.right (And.right (And.right (by assumption))))))) | exact Nat.ne_of_gt (And.left (And.right (And.right (And.right (And.right (And.right (by assumption))))))) | exact Nat.ne_of_lt (And.left (And.right (And.right (And.right (And.right (And.right (And.right (by assumption)))))))) | exact Nat.ne_of_gt (And.left (And.right (And.right (And.right (And.right (And.right (And.right (by assumption)))))))) | exact Nat.ne_of_lt (And.left (And.right (And.right (And.right (And.right (And.right (And.right (And.right (by assumption))))))))) | exact Nat.ne_of_gt (And.left (And.right (And.right (And.right (And.right (And.right (And.right (And.right (by assumption))))))))) | exact Nat.ne_of_lt (And.left (And.right (And.right (And.right (And.right (And.right (And.right (And.right (And.right (by assumption)))))))))) | exact Nat.ne_of_gt (And.left (And.right (And.right (And.right (And.right (And.right (And.right (And.right (And.right (by assumption)))))))))) | omega
  k_with "k_sub" => ((try simp only [List.cons_append]); (repeat' (first | exact (fun _ h => h) | (with_reducible refine sub_cons ?_ ?_) | (with_reducible refine sub_append ?_ ?_))); all_goals (first | ((repeat (first | exact List.Mem.head _ | (with_reducible apply List.mem_cons_of_mem) | (with_reducible apply List.mem_append_right))); done) | (intro _ hp; (repeat (first | exact hp | exact List.mem_append_left _ hp | exact List.mem_append_left _ (List.mem_append_left _ hp) | exact List.mem_append_left _ (List.mem_append_right _ hp) | (with_reducible apply List.mem_cons_of_mem) | (with_reducible apply List.mem_append_right))); done)))
  trivial
inductive WritePost (news : Led) (Gs : List Font) (v : Value) (nw : Led) : Prop
  | mk (e1 : nw = news) (pre : By) (t : Tok) (e2 : v = .bytes (pre ++ bodyOf Gs) t) (h : (pre ++ bodyOf Gs).size ≤ 10000)
inductive WJ (rest : Led) (x a fl L : Addr) (o3 o2 : Obj) (i : Nat) (m : Str → Option Value) (nw : Led) : Prop
  | mk (hmo : m (Str.ofString "out") = some (.ref x)) (hmf : m (Str.ofString "fonts") = some (.ref fl)) (B : By) (oT : Obj) (wh : Int) (tw : Tok) (hnw : nw = (a, baOf B) :: (L + 1 + 1 + 1, o3) :: (L + 1 + 1, o2) :: (L + 1, oT) :: rest) (dT : ∃ y, oT.data = .cell y) (hB : B.size ≤ 12 + 4 * i)
    (hmw : m (Str.ofString "where") = some (.int wh tw)) (hw0 : 0 ≤ wh) (hw1 : wh ≤ 28 + 76 * (i : Int))
inductive WK (rest : Led) (x a fl L : Addr) (body : Value) (o2 : Obj) (i : Nat) (m : Str → Option Value) (nw : Led) : Prop
  | mk (hmo : m (Str.ofString "out") = some (.ref x)) (hmf : m (Str.ofString "fonts") = some (.ref fl)) (hmb : m (Str.ofString "body") = some body) (B : By) (oA oT : Obj) (hnw : nw = (a, baOf B) :: (L + 1 + 1 + 1, oA) :: (L + 1 + 1, o2) :: (L + 1, oT) :: rest)
    (dA : ∃ y, oA.data = .cell y) (dT : ∃ y, oT.data = .cell y) (hB : B.size ≤ 28 + 100 * i)
inductive WR (LED : Led) (a : Addr) (q : Nat) (acc : List Value) (nw : Led) : Prop
  | mk (rs : Led) (hnw : nw = rs ++ LED) (h1 : ∀ p ∈ rs, p.1 ≠ a) (h2 : acc.length = q) (h3 : ∀ v ∈ acc, RecAt nw v)
theorem n_write {w : World} {news : Led} {fl : Addr} {fvs : List Value} {nf : Nat} {Gs : List Font} (hl : (fl, PySem.W.listOf fvs.toArray nf) ∈ news) (hG : FontsAt w news fvs Gs) (h4 : 0 < Gs.length ∧ Gs.length ≤ 4) (hne : ∀ G ∈ Gs, G ≠ []) :
    ConN w 7 900 (news) 283 [.ref fl] (WritePost news Gs) := by
  unfold ConN; intro mean mg mb dp un cn cs xa ccd cl outer A₀ base h₀ L m s Q B F X₀ N T hk hd hu hret
  revert X₀; k_fill; intro X₀
  refine N_call ?_
  k_dflt (walk_at "celln_enter")
  have hnews := l1
  have hfl := hG.len
  refine N_execs_any ?_
  k_steps
  dsimp only
  rename_i o3 o2 o1 d3 d2 d1
  refine N_execs_cons (N_Assign_Name rfl (N_Call_Name ?_))
  k_steps
  refine N_with_K0 (by k_in) (by k_is) ?_
  k_dflt (refine' ConN.use (n_new ) ?ZkB ?ZkF ?ZkX ?ZkN ?ZkT ?Zkk ?Zkd ?Zku ?_; (case ZkB => k_asm); (case ZkF => k_asm); (case ZkX => k_in); (case ZkN => k_asm); (case ZkT => k_asm); (case Zkk => first | exact rfl | assumption);  (case Zkd => ktr_room); (case Zku => ktr_units); intro v9 h9 tk9 nw9 hp9 F9 N9)
  skip
  (try dsimp only); (try k_sweep); (try k_fold)
  obtain ⟨x, dx, a, tm, rfl, rfl, hlt, hdxx, hxa⟩ := hp9
  k_steps
  have hL3 : @LT.lt Nat _ (L' + 1 + 1 + 1) dx := hlt _ (.head _)
  have h1 : @LT.lt Nat _ x a := hxa
  have h2 : @LT.lt Nat _ dx x := hdxx
  have s3 : @Ne Nat (L' + 1 + 1 + 1) a := by omega
  have s2 : @Ne Nat (L' + 1 + 1) a := by omega
  have s1 : @Ne Nat (L' + 1) a := by omega
  obtain ⟨rest, hrest⟩ : ∃ rest : Led, rest = (x, instObj 177 dx) :: (dx, dictOf [⟨PyData.keyHash w.params (Str.ofString "made"), .str (Str.ofString "made") tm, .ref a⟩] 1) :: news := ⟨_, rfl⟩
  have hxm : (x, instObj 177 dx) ∈ rest := by rw [hrest]; exact .head _
  have hdm : (dx, dictOf [⟨PyData.keyHash w.params (Str.ofString "made"), .str (Str.ofString "made") tm, .ref a⟩] 1) ∈ rest := by rw [hrest]; exact .tail _ (.head _)
  have hsub : ∀ p ∈ news, p ∈ rest := fun p hp => by rw [hrest]; exact .tail _ (.tail _ hp)
  have hra : ∀ p ∈ rest, p.1 ≠ a := by rw [hrest]; first | k_all | fail
  have hr3 : ∀ p ∈ rest, p.1 ≠ L' + 1 + 1 + 1 := by rw [hrest]; first | k_all | fail
  have hr2 : ∀ p ∈ rest, p.1 ≠ L' + 1 + 1 := by rw [hrest]; first | k_all | fail
  have hr1 : ∀ p ∈ rest, p.1 ≠ L' + 1 := by rw [hrest]; first | k_all | fail
  have N0 : News g' L' _ ((a, baOf #[]) :: (L' + 1 + 1 + 1, o3) :: (L' + 1 + 1, o2) :: (L' + 1, o1) :: rest) := News.sub (by k_asm) (by rw [hrest]; k_extra "k_sub")
  rename_i F0 N9
  clear N9
  have hr' : ∀ (x3 x2 x1 : Obj), ∀ p ∈ ((L' + 1 + 1 + 1, x3) :: (L' + 1 + 1, x2) :: (L' + 1, x1) :: rest : Led), p.1 ≠ a := fun x3 x2 x1 p hp => by
    rcases List.mem_cons.mp hp with rfl | hp
    · exact s3
    · rcases List.mem_cons.mp hp with rfl | hp
      · exact s2
      · rcases List.mem_cons.mp hp with rfl | hp
        · exact s1
        · exact hra p hp
  have hx' : ∀ (x3 x2 x1 : Obj), (x, instObj 177 dx) ∈ ((L' + 1 + 1 + 1, x3) :: (L' + 1 + 1, x2) :: (L' + 1, x1) :: rest : Led) := fun _ _ _ => .tail _ (.tail _ (.tail _ hxm))
  have hd' := fun (x3 x2 x1 : Obj) => List.mem_cons_of_mem (L' + 1 + 1 + 1, x3) (List.mem_cons_of_mem (L' + 1 + 1, x2) (List.mem_cons_of_mem (L' + 1, x1) hdm))
  refine N_execs_cons (N_Expr rfl rfl (N_methodCall ?_ rfl))
  k_steps
  refine N_with_K (K := Mine.K w.params) (by k_is) ?_ rfl rfl
  k_steps
  k_dflt (refine' ConN.use (n_u32 (hr' o3 o2 o1) (hx' o3 o2 o1) (hd' o3 o2 o1) ?Zq0 ?Zq1 ?Zq2) ?ZkB ?ZkF ?ZkX ?ZkN ?ZkT ?Zkk ?Zkd ?Zku ?_; (case ZkB => k_asm); (case ZkF => k_asm); (case ZkX => k_in); (case ZkN => k_asm); (case ZkT => k_asm); (case Zkk => first | exact rfl | assumption); (case Zq0 => decide); (case Zq1 => decide); (case Zq2 => decide); (case Zkd => ktr_room); (case Zku => ktr_units); intro v9 h9 tk9 nw9 hp9 F9 N9)
  obtain ⟨rfl, c1, hc1, rfl⟩ := hp9
  refine ⟨rfl, ?_⟩
  dsimp only
  (try dsimp only); (try k_sweep); (try k_fold)
  refine N_execs_cons (N_Expr rfl rfl (N_methodCall ?_ rfl))
  k_steps
  refine N_with_K (K := Mine.K w.params) (by k_is) ?_ rfl rfl
  k_steps
  k_dflt (refine' ConN.use (n_u32 (hr' o3 o2 o1) (hx' o3 o2 o1) (hd' o3 o2 o1) ?Zq0 ?Zq1 ?Zq2) ?ZkB ?ZkF ?ZkX ?ZkN ?ZkT ?Zkk ?Zkd ?Zku ?_; (case ZkB => k_asm); (case ZkF => k_asm); (case ZkX => k_in); (case ZkN => k_asm); (case ZkT => k_asm); (case Zkk => first | exact rfl | assumption); (case Zq0 => decide); (case Zq1 => decide); (case Zq2 => ((try simp only [Array.size_append]); (try simp only [show (#[] : Array UInt8).size = 0 from rfl]); omega)); (case Zkd => ktr_room); (case Zku => ktr_units); intro v9 h9 tk9 nw9 hp9 F9 N9)
  obtain ⟨rfl, c2, hc2, rfl⟩ := hp9
  refine ⟨rfl, ?_⟩
  dsimp only
  (try dsimp only); (try k_sweep); (try k_fold)
  have hfl' : (fl, PySem.W.listOf fvs.toArray nf) ∈ rest := hsub _ hl
  have hfz : fvs.length ≤ 4 := by omega
  refine N_execs_cons (N_Expr rfl rfl (N_methodCall ?_ rfl))
  k_steps
  refine N_with_K (K := Mine.K w.params) (by k_is) ?_ rfl rfl
  k_steps
  k_dflt (refine' ConN.use (n_u32 (hr' o3 o2 o1) (hx' o3 o2 o1) (hd' o3 o2 o1) ?Zq0 ?Zq1 ?Zq2) ?ZkB ?ZkF ?ZkX ?ZkN ?ZkT ?Zkk ?Zkd ?Zku ?_; (case ZkB => k_asm); (case ZkF => k_asm); (case ZkX => k_in); (case ZkN => k_asm); (case ZkT => k_asm); (case Zkk => first | exact rfl | assumption); (case Zq0 => omega); (case Zq1 => exact fdiv_small (by omega) (Int.lt_of_le_of_lt (b := 4) (by omega) (by decide))); (case Zq2 => ((try simp only [Array.size_append]); (try simp only [show (#[] : Array UInt8).size = 0 from rfl]); omega)); (case Zkd => ktr_room); (case Zku => ktr_units); intro v9 h9 tk9 nw9 hp9 F9 N9)
  obtain ⟨rfl, c3, hc3, rfl⟩ := hp9
  refine ⟨rfl, ?_⟩
  dsimp only
  (try dsimp only); (try k_sweep); (try k_fold)
  generalize hB : (#[] ++ c1 ++ c2 ++ c3 : Array UInt8) = B0 at *
  have hB0 : B0.size ≤ 12 := by rw [← hB]; simp only [Array.size_append, show (#[] : Array UInt8).size = 0 from rfl]; omega
  clear hB
  refine N_execs_any ?_
  k_steps
  dsimp only
  rename_i F1 N1
  refine N_execs_cons (N_for_JT (by k_asm) (by intro _; with_unfolding_all rfl) ?_)
  k_steps
  k_dflt (refine' iters_listT ?Zhh ?ZhF ?ZhN ?Zhl ?ZhL ?_; (case Zhh => with_unfolding_all rfl); (case ZhF => k_asm); (case ZhN => k_asm); (case Zhl => exact News.isList (by k_asm) (by k_mem)); (case ZhL => exact News.neL (a := fl) (by k_asm) (by k_mem)))
  rintro fp wr St h2' tk2 hgo T2
  dsimp only
  refine ⟨_, _, _, _, _, _, _, _, _, _, hgo, T2, WJ rest x a fl L' o3 o2, ⟨rfl, rfl, B0, o1, _, _, rfl, ⟨_, d1⟩, by omega, rfl, by omega, by omega⟩, ?_, ?_⟩
  · rintro Qx i v m₁ nw own h3 tk3 hi hv ⟨hmo, hmf, B, oT, wh, tw, hnw, ⟨y, dT⟩, hB, hmw, hw0, hw1⟩ F3 N3 hap
    subst hnw
    obtain ⟨G, hGi, tp, d, t0, rfl, htp, hD⟩ := hG.at_ i v (by simpa using hv)
    have hGne := hne G (List.mem_of_getElem? hGi)
    have hlo := hD.lo
    have hGl : G.length ≤ 4 := by
      have h1 := hD.keys.length_le
      have h3 : tagL.length = 4 := rfl
      simp only [List.length_map] at h1
      omega
    simp only [List.cons_append] at N3
    have hi4 : i < 4 := by
      have : fvs.toArray.size = fvs.length := by simp
      omega
    have hsrc : ∀ c : Nat, @LE.le Nat _ L' c → ∀ b ∈ [fl], b ≠ c := fun c hc b hb => by rw [List.mem_singleton.mp hb]; exact Nat.ne_of_lt (Nat.lt_of_lt_of_le (hnews _ hl) hc)
    have wa := own_ne2 hap (c := a) hra (hsrc a (by omega)) ⟨_, by k_mem⟩
    have w3 := own_ne2 hap (c := L' + 1 + 1 + 1) hr3 (hsrc _ (by omega)) ⟨_, by k_mem⟩
    have w2 := own_ne2 hap (c := L' + 1 + 1) hr2 (hsrc _ (by omega)) ⟨_, by k_mem⟩
    have w1 := own_ne2 hap (c := L' + 1) hr1 (hsrc _ (by omega)) ⟨_, by k_mem⟩
    obtain ⟨rest3, hrest3⟩ : ∃ r : Led, r = rest ++ own := ⟨_, rfl⟩
    have hxm3 : (x, instObj 177 dx) ∈ rest3 := by rw [hrest3]; exact List.mem_append_left _ hxm
    have hdm3 := List.mem_append_left own hdm
    have htp' : (tp, { cls := .type "tuple", data := .seq #[.int 65536 t0, .ref d] }) ∈ rest3 := by rw [hrest3]; exact List.mem_append_left _ (hsub _ htp)
    have hD3 : TabAt' PySem.Challenge.rw_pb0184_01.row.prog w rest3 d G := hD.sub fun p hp => by rw [hrest3]; exact List.mem_append_left _ (hsub _ hp)
    rw [← hrest3] at N3 wa w3 w2 w1 hdm3
    obtain ⟨⟨od, kvs, hdm', hod, hkv⟩, _, _, _⟩ := id hD3
    have hkl := hkv.length
    k_with "call ref" => (k_here; k_dflt (refine' Con.use (c_dirsize ?Zp0 ?Zp1) ?ZkB ?ZkF ?ZkX ?ZkN ?ZkT ?Zkk ?Zkd ?Zku ?_; (case ZkB => k_asm); (case ZkF => k_asm); (case ZkX => k_in); (case ZkN => k_asm); (case ZkT => k_asm); (case Zkk => first | exact rfl | assumption); (case Zp0 => omega); (case Zp1 => omega); (case Zkd => ktr_room); (case Zku => ktr_units); intro v9 h9 tk9 nw9 hp9 F9 N9; obtain ⟨e1, t9, e2⟩ := hp9; subst nw9; subst v9; (try dsimp only); (try k_sweep); (try k_fold)))
    k_with "call ref" => (k_here; k_dflt (refine' Con.use (c_need ?Zp0 ?Zp1) ?ZkB ?ZkF ?ZkX ?ZkN ?ZkT ?Zkk ?Zkd ?Zku ?_; (case ZkB => k_asm); (case ZkF => k_asm); (case ZkX => k_in); (case ZkN => k_asm); (case ZkT => k_asm); (case Zkk => first | exact rfl | assumption); (case Zp0 => exact TabAt'.sub hD3 (fun p hp => .tail _ (.tail _ (.tail _ (.tail _ hp))))); (case Zp1 => exact hGne); (case Zkd => ktr_room); (case Zku => ktr_units); intro v9 h9 tk9 nw9 hp9 F9 N9; obtain ⟨e1, e2⟩ := hp9; subst e1; subst e2; (try dsimp only); (try k_sweep); (try k_fold)))
    k_steps
    rename_i oT2 _ _ dT2
    refine N_execs_any ?_
    k_steps
    (try dsimp only)
    have hr4 : ∀ p ∈ ((L' + 1 + 1 + 1, o3) :: (L' + 1 + 1, o2) :: (L' + 1, oT2) :: rest3 : Led), p.1 ≠ a := fun p hp => by
      rcases List.mem_cons.mp hp with rfl | hp
      · exact s3
      · rcases List.mem_cons.mp hp with rfl | hp
        · exact s2
        · rcases List.mem_cons.mp hp with rfl | hp
          · exact s1
          · exact wa p hp
    have hx4 : (x, instObj 177 dx) ∈ ((L' + 1 + 1 + 1, o3) :: (L' + 1 + 1, o2) :: (L' + 1, oT2) :: rest3 : Led) := .tail _ (.tail _ (.tail _ hxm3))
    have hd4 := List.mem_cons_of_mem (L' + 1 + 1 + 1, o3) (List.mem_cons_of_mem (L' + 1 + 1, o2) (List.mem_cons_of_mem (L' + 1, oT2) hdm3))
    refine N_execs_cons (N_Expr rfl rfl (N_methodCall ?_ rfl))
    k_steps
    refine N_with_K (K := Mine.K w.params) (by k_is) ?_ rfl rfl
    k_steps
    k_dflt (refine' ConN.use (n_u32 hr4 hx4 hd4 ?Zq0 ?Zq1 ?Zq2) ?ZkB ?ZkF ?ZkX ?ZkN ?ZkT ?Zkk ?Zkd ?Zku ?_; (case ZkB => k_asm); (case ZkF => k_asm); (case ZkX => k_in); (case ZkN => k_asm); (case ZkT => k_asm); (case Zkk => first | exact rfl | assumption); (case Zq0 => omega); (case Zq1 => exact fdiv_small (by omega) (Int.lt_of_le_of_lt (b := 1000) (by omega) (by decide))); (case Zq2 => omega); (case Zkd => ktr_room); (case Zku => ktr_units); intro v9 h9 tk9 nw9 hp9 F9 N9)
    obtain ⟨rfl, c4, hc4, rfl⟩ := hp9
    refine ⟨rfl, ?_⟩
    dsimp only
    (try dsimp only); (try k_sweep); (try k_fold)
    refine N_execs_any ?_
    k_steps
    (try dsimp only)
    subst hrest3
    refine N_execs_nil ?_
    refine ⟨_, _, _, (a, baOf (B ++ c4)) :: (L' + 1 + 1 + 1, o3) :: (L' + 1 + 1, o2) :: (L' + 1, oT2) :: rest, (by k_asm), News.four (by k_asm), hap.same rfl, ?_⟩
    refine ⟨hmo, hmf, _, oT2, _, _, rfl, ⟨_, dT2⟩, by rw [Array.size_append]; omega, rfl, by omega, by omega⟩
  · rintro h5 tk5 m5 nw F5 N5 ⟨hmo, hmf, B, oT, wh, tw, hnw, ⟨y, dT⟩, hB, hmw, hw0, hw1⟩
    subst hnw
    have hfs : fvs.toArray.size = fvs.length := by simp
    have hfl5 : (fl, PySem.W.listOf fvs.toArray nf) ∈ ((a, baOf B) :: (L' + 1 + 1 + 1, o3) :: (L' + 1 + 1, o2) :: (L' + 1, oT) :: rest : Led) := .tail _ (.tail _ (.tail _ (.tail _ hfl')))
    have hG5 : FontsAt w ((a, baOf B) :: (L' + 1 + 1 + 1, o3) :: (L' + 1 + 1, o2) :: (L' + 1, oT) :: rest : Led) fvs Gs := hG.sub fun p hp => .tail _ (.tail _ (.tail _ (.tail _ (hsub p hp))))
    k_with "call ref" => (k_here; k_dflt (refine' Con.use (c_spots ?Zp0 ?Zp1 ?Zp2 ?Zp3) ?ZkB ?ZkF ?ZkX ?ZkN ?ZkT ?Zkk ?Zkd ?Zku ?_; (case ZkB => k_asm); (case ZkF => k_asm); (case ZkX => k_in); (case ZkN => k_asm); (case ZkT => k_asm); (case Zkk => first | exact rfl | assumption); (case Zp0 => exact hfl5); (case Zp1 => exact hG5); (case Zp2 => exact h4.2); (case Zp3 => omega); (case Zkd => ktr_room); (case Zku => ktr_units); intro v9 h9 tk9 nw9 hp9 F9 N9; obtain ⟨ex, T9, PL9, plvs, npl, tb9, e1, e2, hT9, hPL9, hPl9, B9, hBn, hBx⟩ := hp9; subst e1; subst e2; have N9r := News.rot4 N9; clear N9; have hT9' := List.mem_append_left rest hT9; have hPL9' := List.mem_append_left rest hPL9; have v3 : ∀ p ∈ ex ++ rest, p.1 ≠ L' + 1 + 1 + 1 := ne_ex hBx (hBn _ (by k_mem : (L' + 1 + 1 + 1, _) ∈ _)) hr3; have v2 : ∀ p ∈ ex ++ rest, p.1 ≠ L' + 1 + 1 := ne_ex hBx (hBn _ (by k_mem : (L' + 1 + 1, _) ∈ _)) hr2; have v1 : ∀ p ∈ ex ++ rest, p.1 ≠ L' + 1 := ne_ex hBx (hBn _ (by k_mem : (L' + 1, _) ∈ _)) hr1; have va : ∀ p ∈ ex ++ rest, p.1 ≠ a := ne_ex hBx (hBn _ (by k_mem : (a, _) ∈ _)) hra; (try dsimp only); (try k_sweep); (try k_fold)))
    refine N_execs_any ?_
    k_steps
    (try dsimp only)
    rename_i o2b F6 N6 d2b
    obtain ⟨rest2, hrest2⟩ : ∃ r : Led, r = ex ++ rest := ⟨_, rfl⟩
    have hsub2 : ∀ p ∈ rest, p ∈ rest2 := fun p hp => by rw [hrest2]; exact List.mem_append_right _ hp
    have hx2 : (x, instObj 177 dx) ∈ rest2 := hsub2 _ hxm
    have hd2 := hsub2 _ hdm
    have hfl2 := hsub2 _ hfl'
    have hPl2 : PlacesAt w rest2 plvs (allOf wh Gs).2 := hPl9.mono fun p hp => by rw [hrest2]; exact List.mem_append_left _ hp
    rw [← hrest2] at N6 v3 v2 v1 va hT9' hPL9'
    clear hrest2
    have hpl := allOf_placed wh Gs
    have hf10 := hG.fours
    have hP10 : ∀ b ∈ (allOf wh Gs).1, (fours b).size ≤ 10 := fun b hb => let ⟨G, h1, h2⟩ := hpl.2.1 b hb; hf10 G h1 b h2
    have hP16 : (allOf wh Gs).1.length ≤ 16 := Nat.le_trans (allOf_len wh Gs hG.lens) (by omega)
    refine N_execs_cons (N_for_J (by k_asm) (by intro _; with_unfolding_all rfl) (by intro _ _; with_unfolding_all rfl) ?_)
    k_steps
    k_dflt (refine' iters_range ?Zhh ?ZhF ?ZhN ?Zhl ?Zhs ?Zhn ?_; (case Zhh => with_unfolding_all rfl); (case ZhF => k_asm); (case ZhN => k_asm); (case Zhl => assumption); (case Zhs => exact small_up (by omega)); (case Zhn => exact rsize_up _))
    rintro fp8 wr8 St8 h8 tk8 T8
    dsimp only
    refine ⟨_, _, _, _, _, _, _, _, _, _, T8, WK rest2 x a fl L' (.bytes (bodyOf Gs) tb9) o2b, ⟨hmo, hmf, rfl, B, o3, oT, rfl, ⟨_, d3⟩, ⟨_, dT⟩, by omega⟩, ?_, ?_⟩
    · rintro Qx i v m₁ nw own h7 tk7 hi ⟨t7, rfl⟩ ⟨hmo, hmf, hmb, B, oA, oT, hnw, ⟨yA, dA⟩, ⟨yT, dT⟩, hB⟩ F7 N7 hap
      subst hnw
      obtain ⟨fv, hfv⟩ : ∃ xfv9, fvs[i]? = some xfv9 := ⟨_, List.getElem?_eq_getElem hi⟩
      obtain ⟨G, hGi, tp, d, t0, rfl, htp, hD⟩ := hG.at_ i fv hfv
      have hGne := hne G (List.mem_of_getElem? hGi)
      obtain ⟨c, hc1, hc2⟩ := hpl.2.2 i G hGi
      obtain ⟨pv, hpv, dd, od2, kvp, rfl, hdd, hod2, hkp, hlo2⟩ := PlacesAt_at hPl2 hc1
      have hGl4 := hG.lens G (List.mem_of_getElem? hGi)
      have hi4 : i < 4 := by omega
      have hq0 : (0 + (i : Int) * 1).toNat = i := by omega
      have hq1 : 0 ≤ 0 + (i : Int) * 1 ∧ 0 + (i : Int) * 1 < 100000 := by omega
      generalize 0 + (i : Int) * 1 = q9 at *
      have hfx : fvs[q9.toNat]? = some (.ref tp) := by rw [hq0]; exact hfv
      have hpx : plvs[q9.toNat]? = some (.ref dd) := by rw [hq0]; exact hpv
      simp only [List.cons_append] at N7
      have hsrc : ∀ c : Nat, ∀ b ∈ ([] : List Addr), b ≠ c := fun _ _ h => nomatch h
      have wa := own_ne2 hap (c := a) va (hsrc _) ⟨_, by k_mem⟩
      have w3 := own_ne2 hap (c := L' + 1 + 1 + 1) v3 (hsrc _) ⟨_, by k_mem⟩
      have w2 := own_ne2 hap (c := L' + 1 + 1) v2 (hsrc _) ⟨_, by k_mem⟩
      have w1 := own_ne2 hap (c := L' + 1) v1 (hsrc _) ⟨_, by k_mem⟩
      obtain ⟨rest3, hrest3⟩ : ∃ r : Led, r = rest2 ++ own := ⟨_, rfl⟩
      have hs3 : ∀ p ∈ rest2, p ∈ rest3 := fun p hp => by rw [hrest3]; exact List.mem_append_left _ hp
      have hs4 : ∀ p ∈ news, p ∈ rest3 := fun p hp => hs3 _ (hsub2 _ (hsub _ hp))
      have htp' := hs4 _ htp
      have hfl3 := hs4 _ hl
      have hPL3 := hs3 _ hPL9'
      have hdd3 := hs3 _ hdd
      have hD3 : TabAt' PySem.Challenge.rw_pb0184_01.row.prog w rest3 d G := hD.sub hs4
      rw [← hrest3] at N7 wa w3 w2 w1
      obtain ⟨⟨od, kvs, hdm', hod, hkv⟩, hlo, hks, hfew⟩ := hD3
      have hks' : (kvs.map (·.1)).Sublist tagL := by rw [hkv.keys]; exact hks
      k_steps
      rename_i oA2 _ _ dA2
      refine N_execs_any ?_
      k_steps
      (try dsimp only)
      rename_i oT2 _ _ dT2
      refine N_execs_any ?_
      k_steps
      obtain ⟨LED, hLED⟩ : ∃ r : Led, r = (sD, PySem.W.listOf svals.toArray sn) :: (a, baOf B) :: (L' + 1 + 1 + 1, oA2) :: (L' + 1 + 1, o2b) :: (L' + 1, oT2) :: rest3 := ⟨_, rfl⟩
      have e3 : (L' + 1 + 1 + 1, oA2) ∈ LED := by rw [hLED]; k_mem
      have e2 : (L' + 1 + 1, o2b) ∈ LED := by rw [hLED]; k_mem
      have e1 : (L' + 1, oT2) ∈ LED := by rw [hLED]; k_mem
      have e0 : ∀ p ∈ rest3, p ∈ LED := fun p hp => by rw [hLED]; exact .tail _ (.tail _ (.tail _ (.tail _ (.tail _ hp))))
      have ePL := e0 _ hPL3
      have edd := e0 _ hdd3
      have eod := e0 _ hdm'
      have ea : @LT.lt Nat _ L' a := by omega
      have haL : (a, baOf B) ∈ LED := by rw [hLED]; exact .tail _ (.head _)
      have hsL : (sD, PySem.W.listOf svals.toArray sn) ∈ LED := by rw [hLED]; exact .head _
      rw [← hLED] at N'
      have hslen : svals.length = G.length := by rw [StrsAre.length sS, List.length_map, hkv.length]
      k_dflt (refine' iters_list ?Zhh ?ZhF ?ZhN ?Zhl ?ZhL ?_; (case Zhh => with_unfolding_all rfl); (case ZhF => k_asm); (case ZhN => exact N'); (case Zhl => exact News.isList N' hsL); (case ZhL => exact News.neL N' hsL))
      rintro fpc wrc Stc hc' tkc Tc
      dsimp only
      refine ⟨_, _, _, _, _, _, _, _, _, _, Tc, by rw [List.size_toArray, sizeLine_eq]; omega, ?_, WR LED a, ⟨[], rfl, (fun _ h => nomatch h), rfl, fun _ h => nomatch h⟩, ?_, ?_⟩
      · intro q hq
        rw [List.mem_singleton.mp hq]
        exact Heap.lt_size (Tc.N _ hsL).1
      · rintro C q vq acc nw oC ownc hd8 tkd Ec hq hvq ⟨rs, hnw, hrs, hal, hrec⟩ hlq hNC hC Fd Nd hapd
        refine turn_nil ?_
        obtain ⟨k, tg, rfl, hkj⟩ := StrsAre.at sS (by simpa using hvq)
        obtain ⟨b, hGj⟩ : ∃ xb9, G[q]? = some (k, xb9) := by
          rw [hkv.keys, List.getElem?_map] at hkj
          cases e : G[q]? with
          | none => rw [e] at hkj; cases hkj
          | some z => rw [e] at hkj; obtain ⟨z1, z2⟩ := z; cases hkj; exact ⟨z2, rfl⟩
        obtain ⟨bt, hval⟩ := hkv.look (lookF_at (hks.nodup tagL_nodup) hGj)
        have hb6 : b.size ≤ 6 := hfew _ (List.mem_of_getElem? hGj)
        have htag := tag_mem hks hGj
        obtain ⟨n2, tn2, hval2, hn2m⟩ := hkp.look (k := k) (by rw [hc2.keys]; exact List.mem_map.mpr ⟨(k, b), List.mem_of_getElem? hGj, rfl⟩)
        have hn2b := hc2.bound hP10 _ hn2m
        have hn2c : 0 ≤ n2 ∧ n2 < 100000 := by
          have h1 : 10 * (allOf wh Gs).1.length ≤ 160 := by omega
          dsimp only at hn2b
          omega
        obtain ⟨W, hW⟩ : ∃ r : Led, r = nw ++ ownc := ⟨_, rfl⟩
        have hLW : ∀ p ∈ LED, p ∈ W := fun p hp => by rw [hW, hnw]; exact List.mem_append_left _ (List.mem_append_right _ hp)
        have i3 := hLW _ e3
        have i2 := hLW _ e2
        have i1 := hLW _ e1
        have iPL := hLW _ ePL
        have idd := hLW _ edd
        have iod := hLW _ eod
        have iC : (C, oC) ∈ W := by rw [hW]; exact List.mem_append_right _ hC
        rw [← hW] at Nd
        k_with "call ref" => (k_here; k_dflt (refine' Con.use (c_table_sum ?Zp0) ?ZkB ?ZkF ?ZkX ?ZkN ?ZkT ?Zkk ?Zkd ?Zku ?_; (case ZkB => k_asm); (case ZkF => k_asm); (case ZkX => k_in); (case ZkN => k_asm); (case ZkT => k_asm); (case Zkk => first | exact rfl | assumption); (case Zp0 => omega); (case Zkd => ktr_room); (case Zku => ktr_units); intro v9 h9 tk9 nw9 hp9 F9 N9; obtain ⟨e1, n9, t9, e2, hn9, hn9'⟩ := hp9; subst nw9; subst v9; (try dsimp only); (try k_sweep); (try k_fold)))
        k_with "call ref" => (k_here; k_dflt (refine' Con.use (c_record ) ?ZkB ?ZkF ?ZkX ?ZkN ?ZkT ?Zkk ?Zkd ?Zku ?_; (case ZkB => k_asm); (case ZkF => k_asm); (case ZkX => k_in); (case ZkN => k_asm); (case ZkT => k_asm); (case Zkk => first | exact rfl | assumption);  (case Zkd => ktr_room); (case Zku => ktr_units); intro v9 h9 tk9 nw9 hp9 F9 N9; obtain ⟨x9, dx9, es9, nn9, e8, e9, hlt9, hdx9, hrec9⟩ := hp9; subst e9; subst e8; (try dsimp only); (try k_sweep); (try k_fold)))
        (try k_unmd); (try k_fold)
        k_steps
        have hW2 : ∀ p ∈ W, @LT.lt Nat _ p.1 dx9 := hlt9
        have hdx2 : @LT.lt Nat _ dx9 x9 := hdx9
        have ha9 : @LT.lt Nat _ a dx9 := hlt9 _ (hLW _ haL)
        subst hW
        refine ⟨_, _, _, (x9, instObj 213 dx9) :: (dx9, dictOf es9 nn9) :: nw, F9, N9, Apart.cons (Apart.cons hapd fun p hp => Nat.ne_of_lt (hW2 p (List.mem_append_right _ hp))) (fun p hp => Nat.ne_of_lt (Nat.lt_trans (hW2 p (List.mem_append_right _ hp)) hdx2)), rfl, (x9, instObj 213 dx9) :: (dx9, dictOf es9 nn9) :: rs, by rw [hnw]; rfl, ?_, by rw [List.length_append, hal]; rfl, ?_⟩
        · intro p hp
          rcases List.mem_cons.mp hp with rfl | hp
          · exact (Nat.ne_of_lt (Nat.lt_trans ha9 hdx2)).symm
          · rcases List.mem_cons.mp hp with rfl | hp
            · exact (Nat.ne_of_lt ha9).symm
            · exact hrs p hp
        · intro v hv
          rcases List.mem_append.mp hv with hv | hv
          · exact (hrec v hv).mono fun p hp => .tail _ (.tail _ hp)
          · rw [List.mem_singleton.mp hv]
            exact ⟨x9, dx9, es9, nn9, k, n9, n2, _, rfl, .head _, .tail _ (.head _), hrec9, htag, ⟨hn9, hn9'⟩, hn2c, by omega⟩
      · rintro D nD he9 tke acc nw Fe9 Ne9 hoff hle ⟨rs, hnw, hrs, hal, hrec⟩
        have hsz : svals.toArray.size = G.length := by rw [List.size_toArray, hslen]
        rw [hsz] at hal
        k_steps
        (try dsimp only)
        have hDa : @Ne Nat D a := fun e => hoff (a, baOf B) (by rw [hnw]; exact List.mem_append_right _ haL) e.symm
        have hsa : @LT.lt Nat _ a sD := l1.1
        obtain ⟨X, hX⟩ : ∃ r : Led, r = (D, PySem.W.listOf acc.toArray nD) :: (rs ++ ((sD, PySem.W.listOf svals.toArray sn) :: (L' + 1 + 1 + 1, oA2) :: (L' + 1 + 1, o2b) :: (L' + 1, oT2) :: rest3)) := ⟨_, rfl⟩
        have hXs : ∀ p ∈ (D, PySem.W.listOf acc.toArray nD) :: nw, p ∈ (a, baOf B) :: X := fun p hp => by
          rw [hnw, hLED] at hp
          rw [hX]
          simp only [List.mem_cons, List.mem_append] at hp ⊢
          rcases hp with h | h | h | h | h
          · exact .inr (.inl h)
          · exact .inr (.inr (.inl h))
          · exact .inr (.inr (.inr (.inl h)))
          · exact .inl h
          · exact .inr (.inr (.inr (.inr h)))
        have hXr : ∀ p ∈ (a, baOf B) :: X, p ∈ (D, PySem.W.listOf acc.toArray nD) :: nw := fun p hp => by
          rw [hnw, hLED]
          rw [hX] at hp
          simp only [List.mem_cons, List.mem_append] at hp ⊢
          rcases hp with h | h | h | h | h
          · exact .inr (.inr (.inr (.inl h)))
          · exact .inl h
          · exact .inr (.inl h)
          · exact .inr (.inr (.inl h))
          · exact .inr (.inr (.inr (.inr h)))
        have NX := News.sub Ne9 hXr
        have hXa : ∀ p ∈ X, p.1 ≠ a := fun p hp => by
          rw [hX] at hp
          rcases List.mem_cons.mp hp with rfl | hp
          · exact hDa
          · rcases List.mem_append.mp hp with hp | hp
            · exact hrs p hp
            · rcases List.mem_cons.mp hp with rfl | hp
              · exact (Nat.ne_of_lt hsa).symm
              · rcases List.mem_cons.mp hp with rfl | hp
                · exact s3
                · rcases List.mem_cons.mp hp with rfl | hp
                  · exact s2
                  · rcases List.mem_cons.mp hp with rfl | hp
                    · exact s1
                    · exact wa p hp
        have hX3 : ∀ p ∈ rest3, p ∈ X := fun p hp => by rw [hX]; exact .tail _ (List.mem_append_right _ (.tail _ (.tail _ (.tail _ (.tail _ hp)))))
        have hxX : (x, instObj 177 dx) ∈ X := hX3 _ (hs3 _ hx2)
        have hdX := hX3 _ (hs3 _ hd2)
        have hlD := hXs _ (List.Mem.head _)
        have hrecX : ∀ v ∈ acc, RecAt ((a, baOf B) :: X) v := fun v hv => by
          exact (hrec v hv).mono fun p hp => hXs _ (.tail _ hp)
        have hG0 : 0 < G.length := List.length_pos_iff.mpr hGne
        have hacc4 : acc.length = 1 ∨ acc.length = 2 ∨ acc.length = 3 ∨ acc.length = 4 := by omega
        clear Ne9
        refine N_execs_cons (N_Expr rfl rfl (N_methodCall ?_ rfl))
        k_steps
        refine N_with_K1 (K := Mine.K w.params) (by k_is) ?_ rfl
        refine N_Call_Name ?_
        k_steps
        refine N_with_K (K := Mine.K w.params) (by k_is) ?_ rfl rfl
        k_steps
        k_dflt (refine' ConN.use (n_directory ?Zq0 ?Zq1 ?Zq2) ?ZkB ?ZkF ?ZkX ?ZkN ?ZkT ?Zkk ?Zkd ?Zku ?_; (case ZkB => k_asm); (case ZkF => k_asm); (case ZkX => k_in); (case ZkN => k_asm); (case ZkT => k_asm); (case Zkk => first | exact rfl | assumption); (case Zq0 => exact hlD); (case Zq1 => exact hrecX); (case Zq2 => exact hacc4); (case Zkd => ktr_room); (case Zku => ktr_units); intro v9 h9 tk9 nw9 hp9 F9 N9)
        obtain ⟨z1, bd, ud, z2, hbd⟩ := hp9; subst z1; subst z2
        (try dsimp only); (try k_sweep); (try k_fold)
        refine ⟨by k_in, ?_⟩
        k_dflt (refine' ConN.use (n_add hXa hxX hdX ?Zq0 ?Zq1) ?ZkB ?ZkF ?ZkX ?ZkN ?ZkT ?Zkk ?Zkd ?Zku ?_; (case ZkB => k_asm); (case ZkF => k_asm); (case ZkX => k_in); (case ZkN => k_asm); (case ZkT => k_asm); (case Zkk => first | exact rfl | assumption); (case Zq0 => omega); (case Zq1 => omega); (case Zkd => ktr_room); (case Zku => ktr_units); intro v9 h9 tk9 nw9 hp9 F9 N9)
        obtain ⟨rfl, rfl⟩ := hp9
        refine ⟨rfl, ?_⟩
        dsimp only
        (try dsimp only); (try k_sweep); (try k_fold)
        subst hrest3
        refine N_execs_nil ?_
        refine ⟨_, _, _, (a, baOf (B ++ bd)) :: (L' + 1 + 1 + 1, oA2) :: (L' + 1 + 1, o2b) :: (L' + 1, oT2) :: rest2, F9, News.sub N9 ?_, hap.same rfl, ?_⟩
        · intro p hp
          rw [hX]
          simp only [List.mem_cons, List.mem_append, List.cons_append] at hp ⊢
          rcases hp with h | h
          · exact .inl h
          · exact .inr (.inr (.inr (.inr h)))
        · exact ⟨hmo, hmf, hmb, B ++ bd, oA2, oT2, rfl, ⟨_, dA2⟩, ⟨_, dT2⟩, by rw [Array.size_append]; omega⟩
    · rintro h20 tk20 m20 nw F20 N20 ⟨hmo, hmf, hmb, B, oA, oT, hnw, ⟨yA, dA⟩, ⟨yT, dT⟩, hB⟩
      subst hnw
      have hB4 : B.size ≤ 428 := by omega
      have hr9 : ∀ p ∈ ((L' + 1 + 1 + 1, oA) :: (L' + 1 + 1, o2b) :: (L' + 1, oT) :: rest2 : Led), p.1 ≠ a := fun p hp => by
        rcases List.mem_cons.mp hp with rfl | hp
        · exact s3
        · rcases List.mem_cons.mp hp with rfl | hp
          · exact s2
          · rcases List.mem_cons.mp hp with rfl | hp
            · exact s1
            · exact va p hp
      have hx9 : (x, instObj 177 dx) ∈ ((L' + 1 + 1 + 1, oA) :: (L' + 1 + 1, o2b) :: (L' + 1, oT) :: rest2 : Led) := .tail _ (.tail _ (.tail _ hx2))
      have hd9 := List.mem_cons_of_mem (L' + 1 + 1 + 1, oA) (List.mem_cons_of_mem (L' + 1 + 1, o2b) (List.mem_cons_of_mem (L' + 1, oT) hd2))
      have hbz : (bodyOf Gs).size ≤ 200 := by
        have h1 := cat_size_le (k := 10) (bs := (allOf wh Gs).1.map fours) (by
          intro z hz
          obtain ⟨y, hy, rfl⟩ := List.mem_map.mp hz
          exact hP10 y hy)
        rw [List.length_map] at h1
        unfold bodyOf
        rw [allOf_fst 0 wh Gs]
        omega
      dsimp only
      (try k_unmd)
      refine N_execs_cons (N_Expr rfl rfl (N_methodCall ?_ rfl))
      k_steps
      refine N_with_K (K := Mine.K w.params) (by k_is) ?_ rfl rfl
      k_steps
      k_dflt (refine' ConN.use (n_add hr9 hx9 hd9 ?Zq0 ?Zq1) ?ZkB ?ZkF ?ZkX ?ZkN ?ZkT ?Zkk ?Zkd ?Zku ?_; (case ZkB => k_asm); (case ZkF => k_asm); (case ZkX => k_in); (case ZkN => k_asm); (case ZkT => k_asm); (case Zkk => first | exact rfl | assumption); (case Zq0 => omega); (case Zq1 => omega); (case Zkd => ktr_room); (case Zku => ktr_units); intro v9 h9 tk9 nw9 hp9 F9 N9)
      obtain ⟨rfl, rfl⟩ := hp9
      refine ⟨rfl, ?_⟩
      dsimp only
      (try dsimp only); (try k_sweep); (try k_fold)
      have hzz : (B ++ bodyOf Gs).size ≤ 10000 := by rw [Array.size_append]; omega
      k_with "call ref" => (k_here; k_dflt (refine' Con.use (c_octets ?Zp0 ?Zp1 ?Zp2 ?Zp3) ?ZkB ?ZkF ?ZkX ?ZkN ?ZkT ?Zkk ?Zkd ?Zku ?_; (case ZkB => k_asm); (case ZkF => k_asm); (case ZkX => k_in); (case ZkN => k_asm); (case ZkT => k_asm); (case Zkk => first | exact rfl | assumption); (case Zp0 => exact hr9); (case Zp1 => exact hx9); (case Zp2 => exact hd9); (case Zp3 => omega); (case Zkd => ktr_room); (case Zku => ktr_units); intro v9 h9 tk9 nw9 hp9 F9 N9; obtain ⟨e1, t9, e2⟩ := hp9; subst e1; subst e2; (try dsimp only); (try k_sweep); (try k_fold)))
      refine N_execs_any ?_
      k_steps
      exact hret _ _ _ _ ⟨rfl, B, _, rfl, hzz⟩ (by k_asm) (News.sub (by k_asm) fun p hp => .tail _ (.tail _ (.tail _ (.tail _ (hsub2 _ (hsub p hp))))))

end Mine
end
section
open PySem PySem.W PySem.Calls PyProof.Rows PySem.Spec PyProof.V
namespace Mine
section
variable {prog : Program} {w : World} {A : Around} {R : Result → Shared → Prop} {I : Addr} {fp wr : List Addr} {n : Nat} {P : Nat → Value → Prop} {St : Nat → Heap → Prop}
/-- the loop of list.extend, upon a list that holds items already -/
theorem ext_loop (W : Walks prog w A.in1 I fp wr n P St) (S : Addr) (hSf : S ∉ fp) (res : Value) (acc0 : Array Value) (hz : acc0.size + n ≤ 100000) :
    ∀ (k i : Nat) (s : Shared) (more : Array Value) (c : Nat), n - i = k → i ≤ n → St i s.heap → s.heap.get? S = some (listOf (acc0 ++ more) c) → ItemsOf P more i →
    (∀ h' tk more' c', (∀ b o, b ≠ S → b ∉ wr → s.heap.get? b = some o → h'.get? b = some o) → h'.get? S = some (listOf (acc0 ++ more') c') → ItemsOf P more' n → R (.ok (.ret res)) { s with heap := h', toks := tk }) →
    codeAny (model prog w) A (.builtin "list.extend.loop" ⟨[.ref S, .ref I, res], []⟩) R s := by
  have hSw : S ∉ wr := fun h => hSf (W.sub _ h)
  intro k
  induction k with
  | zero =>
    intro i s more c hk hi hst hS hacc hR
    obtain rfl : i = n := by omega
    refine codeAny_builtin PySem.F.entry_extend_loop ?_
    rw [Around.under_plainId PySem.F.plain_extend_loop _]
    show wpAny _ A.in1 (pyNext (.ref I) >>= _) _ _ s
    refine wpAny_bind (W.done s _ _ hst fun h' tk hk' => ?_)
    exact wpAny_pure (hR h' tk more c (fun b o _ hb e => hk' b o hb e) (hk' S _ hSw hS) hacc)
  | succ k ih =>
    intro i s more c hk hi hst hS hacc hR
    have hlt : i < n := by omega
    refine codeAny_builtin PySem.F.entry_extend_loop ?_
    rw [Around.under_plainId PySem.F.plain_extend_loop _]
    show wpAny _ A.in1 (pyNext (.ref I) >>= _) _ _ s
    refine wpAny_bind (W.item i s _ _ hlt hst fun v h' tk hP hst' hk' => ?_)
    have hS' := hk' S _ hSw hS
    show wpAny _ A.in1 (updateSeq S (·.push v) >>= _) _ _ _
    have hsz : (acc0 ++ more).size = acc0.size + i := by rw [Array.size_append, hacc.1]
    refine wpAny_bind (wpAny_updateSeq hS' rfl (wpAny_pure ⟨plainId_quiet PySem.F.plain_extend_loop _, ?_⟩) (by rw [hsz, sizeLine_eq]; omega) (by show ((acc0 ++ more).push v).size ≤ sizeLine + 1; rw [Array.size_push, hsz, sizeLine_eq]; omega))
    have oth : ∀ b o, b ≠ S → h'.get? b = some o → (h'.update S (Obj.mapSeq (·.push v))).get? b = some o := fun b o hb e => (Heap.get?_update_other _ _ (Ne.symm hb)).trans e
    have hS2 : (h'.update S (Obj.mapSeq (·.push v))).get? S = some (listOf (acc0 ++ more.push v) (c + 1)) := by
      have := Heap.get?_update_self (Obj.mapSeq (·.push v)) hS' rfl
      rw [this]
      simp [Obj.mapSeq]
    refine ih (i + 1) _ (more.push v) (c + 1) (by omega) hlt (W.frame _ _ _ hst' fun b hb o e => oth b o (fun h => hSf (h ▸ hb)) e) hS2 (hacc.push hP) fun h'' tk' more' c' hk'' hS'' hacc' => ?_
    exact hR h'' tk' more' c' (fun b o hb hw e => hk'' b o hb hw (oth b o hb (hk' b o hw e))) hS'' hacc'
end
section
variable {prog : Program} {w : World} {A : Around} {E : Value → Shared → Prop} {s : Shared} {h₀ : Heap} {L : Addr} {m : Str → Option Value} {rest : Led}
/-- a list at the ledger's head is extended by a range -/
theorem extend_range_K {S r : Addr} {its : Array Value} {c0 : Nat} {a b c : Int} {t u v : Tok} {n : Nat} {Q : Value → Shared → Prop} (hh : A.handled = none) (F : Fr h₀ L s.heap m) (N : News h₀ L s.heap ((S, listOf its c0) :: rest)) (hr : ∀ p ∈ rest, p.1 ≠ S)
    (hrg : IsRange s.heap r a b c t u v) (hsmall : Builtin.Range.small a b c = true) (hn : Builtin.Range.rangeSize a b c = n) (hz : its.size + n ≤ 100000)
    (h : ∀ h' tk more c', Fr h₀ L h' m → News h₀ L h' ((S, listOf (its ++ more) c') :: rest) → ItemsOf (fun i v => ∃ t, v = .int (a + i * c) t) more n → Q .none { s with heap := h', toks := tk }) :
    wpAny (model prog w) A (call (.builtin "list.extend") [.ref S, .ref r]) Q E s := by
  have hS := (N _ (.head _)).1
  have hSr : S ≠ r := fun e => by rw [e, hrg] at hS; simp at hS
  have hSI : S ≠ s.heap.objs.size := Nat.ne_of_lt (Heap.lt_size hS)
  have W := Walks.range (prog := prog) (w := w) (A := A.in1) hh s.heap.objs.size a c n
  refine wpAny_call (codeAny_call_builtin PySem.F.slot_list_extend.plain PySem.F.entry_list_extend (PySem.F.slot_list_extend.check _ _ _ _ _ _ _ _ ⟨_, hS, rfl⟩ (PySem.F.args_list_extend_2 _ _) ?_))
  have fin : ∀ (h1 : Heap) (tk1 c1 : Nat), IsRangeIter h1 s.heap.objs.size (a + ((0 : Nat) : Int) * c) ((n : Int) - ((0 : Nat) : Int)) c → (∀ b o, b ≠ S → s.heap.get? b = some o → h1.get? b = some o) → h1.get? S = some (listOf its c1) →
      codeAny (model prog w) A (.builtin "list.extend.loop" ⟨[.ref S, .ref s.heap.objs.size, .none], []⟩) (wants Q E) { s with heap := h1, toks := tk1 } := by
    intro h1 tk1 c1 hit hk hS1
    refine ext_loop W S (fun hm => hSI (List.mem_singleton.mp hm)) .none its hz n 0 _ #[] c1 rfl (Nat.zero_le _) hit (by simpa using hS1) (ItemsOf.nil _) fun h' tk more c' hk' hS' hacc => ?_
    have hkk : ∀ b o, b ≠ S → s.heap.get? b = some o → h'.get? b = some o := fun b o hb e => hk' b o hb (fun hw => absurd (Heap.lt_size e) (by rw [List.mem_singleton.mp hw]; exact Nat.lt_irrefl _)) (hk b o hb e)
    have z := N _ (.head _)
    have F' : Fr h₀ L h' m := ⟨F.ns.at' fun o e => hkk _ o (Ne.symm z.2.1) e, fun b o e => hkk b o (fun x => by rw [x, z.2.2] at e; cases e) (F.keep b o e), F.above⟩
    refine h h' tk more c' F' (fun p hp => ?_) hacc
    rcases List.mem_cons.mp hp with rfl | hp
    · exact ⟨hS', z.2⟩
    · exact ⟨hkk _ _ (hr p hp) (N p (.tail _ hp)).1, (N p (.tail _ hp)).2⟩
  show wpAny _ A.in1 (Builtin.List.listExtendWith (.ref S) (.ref r) .none) _ _ s
  unfold Builtin.List.listExtendWith
  refine wpAny_bind (wpAny_typeOf (T := "range") ⟨_, hrg, rfl⟩ ?_)
  have h1 : Builtin.List.listSameRef (.ref S) (.ref r) = false := by simp [Builtin.List.listSameRef, hSr]
  have h2 : (Value.type "range" == Value.type "list") = false := by decide
  have h3 : (Value.type "range" == Value.type "tuple") = false := by decide
  simp only [h1, h2, h3, Bool.or_false, Bool.false_eq_true, if_false]
  refine wpAny_bind (wpAny_pyIter_range hrg hsmall ?_)
  refine wpAny_bind (wpAny_holding (wpAny_hint_range (n := n) (Heap.get?_push_of_some _ hrg) hn (by omega) ?_))
  have hit₁ : IsRangeIter (s.heap.push { cls := .type "range_iterator", data := .fields #[rawInt a, rawInt (Builtin.Range.rangeSize a b c), rawInt c] }) s.heap.objs.size (a + ((0 : Nat) : Int) * c) ((n : Int) - ((0 : Nat) : Int)) c := by
    show IsRangeIter _ _ _ _ _; rw [hn]; simpa using Heap.get?_push_size _ rfl
  have hS₁ := Heap.get?_push_of_some { cls := .type "range_iterator", data := .fields #[rawInt a, rawInt (Builtin.Range.rangeSize a b c), rawInt c] } hS
  refine wpAny_ite_split (fun _ => ?_) (fun _ => wpAny_pure ⟨plainId_quiet PySem.F.plain_extend_loop _, fin _ _ _ hit₁ (fun b o _ e => Heap.get?_push_of_some _ e) hS₁⟩)
  refine wpAny_bind (wpAny_rule ?_)
  refine wpAny_bind ?_
  show wpAny _ _ (updateSeq S (·.push .none) >>= fun _ => updateSeq S (·.pop)) _ _ _
  refine wpAny_bind (wpAny_updateSeq hS₁ rfl ?_ (by rw [sizeLine_eq]; omega) (by show (its.push Value.none).size ≤ sizeLine + 1; rw [Array.size_push, sizeLine_eq]; omega))
  have hS₂ := Heap.get?_update_self (Obj.mapSeq (·.push Value.none)) hS₁ rfl
  refine wpAny_updateSeq hS₂ rfl ?_ (by show (its.push Value.none).size ≤ sizeLine; rw [Array.size_push, sizeLine_eq]; omega) (by show ((its.push Value.none).pop).size ≤ sizeLine + 1; rw [Array.pop_push, sizeLine_eq]; omega)
  have hS₃ := Heap.get?_update_self (Obj.mapSeq (·.pop)) hS₂ rfl
  refine wpAny_pure ⟨plainId_quiet PySem.F.plain_extend_loop _, fin _ _ (c0 + 1 + 1) ?_ (fun b o hb e => ?_) ?_⟩
  · exact (Heap.get?_update_other _ _ hSI).trans ((Heap.get?_update_other _ _ hSI).trans hit₁)
  · exact (Heap.get?_update_other _ _ (Ne.symm hb)).trans ((Heap.get?_update_other _ _ (Ne.symm hb)).trans (Heap.get?_push_of_some _ e))
  · rw [hS₃]; simp [Obj.mapSeq]
end
end Mine
end
section
open PySem PySem.W PySem.Calls PyProof.Rows PySem.Spec PyProof.V
namespace Mine
theorem by_slot_contains : Slot "bytes" "__contains__" "bytes.__contains__" :=
  .of (owner := "bytes") (n := "__contains__") (by rw [typeLookup_type, builtinLookup_eq_fast]; kernel_rfl) (by decide +kernel) (by decide +kernel) (by decide +kernel)
    (by first | exact .inl (by decide +kernel) | exact .inr (by decide +kernel)) (by rw [isSubtype_type]; kernel_rfl)
theorem by_entry_contains : entryFor table "bytes.__contains__" = some Builtin.«bytes.__contains__» := entryFor_of_tree (by kernel_rfl)
theorem by_args_contains (a b : Value) : argsOk "bytes.__contains__" ⟨[a, b], []⟩ := by unfold argsOk; kernel_rfl
theorem by_no_index : typeLookup (.type "bytes") "__index__" = pure none := by rw [typeLookup_type, builtinLookup_eq_fast]; kernel_rfl
section
variable {prog : Program} {w : World} {A : Around} {E : Value → Shared → Prop} {s : Shared} {h₀ : Heap} {L : Addr} {m : Str → Option Value} {news : Led}
theorem name_bytes {n : Nat} {b : By} {t : Tok} {Q : String → Shared → Prop} (h : Q "bytes" s) : wpAny (model prog w) A (typeNameOfCut n (.bytes b t)) Q E s := by
  unfold typeNameOfCut shownTypeOf
  refine wpAny_bind (wpAny_bind (wpAny_typeOf (PySem.W.typeIs_bytes _ _ _) ?_))
  simp only [show (Value.type "bytes" == Value.type "builtin_function_or_method") = false by decide, Bool.false_eq_true, if_false]
  refine wpAny_pure ?_
  rw [show typeNameCut n (.type "bytes") = typeName (.type "bytes") from rfl, show typeName (.type "bytes") = pure "bytes" by kernel_rfl]
  exact wpAny_pure h
theorem in_bytes {x b : By} {t u : Tok} {Q : Value → Shared → Prop} (hh : A.handled = none) (F : Fr h₀ L s.heap m) (N : News h₀ L s.heap news)
    (h : ∀ h' tk, Fr h₀ L h' m → News h₀ L h' news → Q (.bool (Builtin.Bytes.find? b x 0 b.size).isSome) { s with heap := h', toks := tk }) :
    wpAny (model prog w) A (compareOp .In (.bytes x t) (.bytes b u)) Q E s := by
  show wpAny _ _ (do return .bool (← contains (.bytes b u) (.bytes x t))) Q E s
  refine wpAny_bind (wpAny_contains_slot (PySem.W.typeIs_bytes _ _ _) by_slot_contains (wpAny_call_entry by_slot_contains (PySem.W.typeIs_bytes _ _ _) by_entry_contains ?_ (by_args_contains _ _)))
  show wpAny _ _ (do ret (.bool (← Builtin.Bytes.containsIn "bytes.__contains__" (.bytes b u) (.bytes x t)))) _ _ s
  refine wpAny_bind ?_
  unfold Builtin.Bytes.containsIn
  refine wpAny_bind (wpAny_attempt ?_)
  unfold asIndex
  refine wpAny_bind (m := asInt? _) (wpAny_pure ?_)
  dsimp only
  refine wpAny_bind (wpAny_callSpecial?_none (PySem.W.typeIs_bytes _ _ _) by_no_index ?_)
  dsimp only
  refine wpAny_bind (name_bytes ?_)
  refine raiseError_exc excClass_TypeError hh (fun h' tk e hx => ?_) (by decide +kernel)
  rw [KBy.buffer_eq]
  refine wpAny_bind (wpAny_pure ?_)
  dsimp only
  rw [KBy.buffer_eq]
  refine wpAny_bind (wpAny_pure ?_)
  dsimp only
  refine wpAny_bind (wpAny_rule ?_)
  refine wpAny_pure (wpAny_pure ⟨_, rfl, ?_⟩)
  exact wpAny_pure (wpAny_pure (h h' tk (F.grownK hx.keeps) (N.grown hx.keeps)))
end
end Mine
end
section
open PySem PySem.W PySem.Calls PyProof.Rows PySem.Spec PyProof.V
namespace Mine
theorem list_miss_keys : typeLookup (.type "list") "keys" = pure none := by rw [typeLookup_type, builtinLookup_eq_fast]; kernel_rfl
section
variable {prog : Program} {w : World} {A : Around} {E : Value → Shared → Prop} {s : Shared}
theorem list_no_keys {a : Addr} {xs : Array Value} {k : Nat} {Q : Option Value → Shared → Prop} (hx : s.heap.get? a = some { cls := .type "list", data := .seq xs k }) (hA : A.handled = none)
    (h : ∀ h' tk, (∀ b o, s.heap.get? b = some o → h'.get? b = some o) → Q none { s with heap := h', toks := tk }) : wpAny (model prog w) A (getAttr? (.ref a) "keys") Q E s := by
  obtain ⟨hp, g, d, tk, os⟩ := s
  have hT : ∀ tk', (⟨hp, g, d, tk', os⟩ : Shared).TypeIs (.ref a) "list" := fun _ => ⟨_, hx, rfl⟩
  have f1 := sub_AttributeError
  have f3 := PySem.F.slot_list_getattribute.lookup
  have f4 := PySem.F.slot_list_getattribute.bind (.ref a)
  have f5 := am_list_getattr_none
  unfold getAttr? getAttrBy? getAttrBy
  repeat (any_goals (first | assumption | exact hT _ | ((with_reducible show wpAny _ _ (call (Value.builtin "list.__getattribute__") _ _) _ _ _); refine call_meets PySem.F.slot_list_getattribute (hT _) am_entry_list_getattribute (PySem.F.args_list_getattribute_2 _ _) (meets_getattribute_miss_list a xs k _ _ _ list_miss_keys (by decide +kernel)) ⟨hx, hA, fun h' tk' e hx' => ?_⟩) | wp_step))
  obtain ⟨t', u', he⟩ := hx'.there
  show wpAny _ _ (getattributeRaised _ _ _ _ _ _ _) _ _ _
  unfold getattributeRaised
  repeat (any_goals (first | assumption | wp_step))
  exact h _ _ hx'.of.keeps
end
theorem plain_dict_loop : plainId "dict.update.loop" = true := by decide +kernel
theorem entry_dict_loop : entryFor table "dict.update.loop" = some Builtin.«dict.update.loop» := entryFor_of_tree (by kernel_rfl)
/-- a list of pairs, as it lies in a heap -/
noncomputable def PairIn (h : Heap) (v : Value) (k : Str) (x : Value) : Prop := ∃ T t, v = .ref T ∧ h.IsTuple T #[.str k t, x]
section
variable {prog : Program} {w : World} {A : Around} {R : Result → Shared → Prop} {I : Addr} {fp wr : List Addr} {n : Nat} {items : Array Value} {St : Nat → Heap → Prop}
theorem dict_loop (W : Walks prog w A.in1 I fp wr n (fun i v => items[i]? = some v) St) (d : Addr) (hdf : d ∉ fp) (res : Value) (ps : List (Str × Value)) (hn : ps.length = n) (hnd : (ps.map (·.1)).Nodup) (hz : n ≤ 1000) :
    ∀ (k i : Nat) (s : Shared) (t : Tok), n - i = k → i ≤ n → St i s.heap → s.heap.DictOf (strKind prog w) d (ps.take i) →
    (∀ (j : Nat) v, items[j]? = some v → ∃ p, ps[j]? = some p ∧ ∃ T t, v = .ref T ∧ T ≠ d ∧ T ∉ wr ∧ s.heap.IsTuple T #[.str p.1 t, p.2]) →
    (∀ h' tk, (∀ b o, b ≠ d → b ∉ wr → s.heap.get? b = some o → h'.get? b = some o) → h'.DictOf (strKind prog w) d ps → R (.ok (.ret res)) { s with heap := h', toks := tk }) →
    codeAny (model prog w) A (.builtin "dict.update.loop" ⟨[.ref d, .ref I, .int i t, res], []⟩) R s := by
  have hdw : d ∉ wr := fun h => hdf (W.sub _ h)
  intro k
  induction k with
  | zero =>
    intro i s t hk hi hst hd hT hR
    obtain rfl : i = n := by omega
    refine codeAny_builtin entry_dict_loop ?_
    rw [Around.under_plainId plain_dict_loop _]
    show wpAny _ A.in1 (pyNext (.ref I) >>= _) _ _ s
    refine wpAny_bind (W.done s _ _ hst fun h' tk hk' => ?_)
    show wpAny _ _ (Builtin.Dict.addKeywords d [] >>= fun _ => ret res) _ _ _
    refine wpAny_bind (wpAny_pure (wpAny_pure ?_))
    rw [← hn, List.take_length] at hd
    obtain ⟨o, es, ep, ho, r⟩ := hd
    exact hR h' tk (fun b o _ hb e => hk' b o hb e) ⟨o, es, ep, hk' _ _ hdw ho, r⟩
  | succ k ih =>
    intro i s t hk hi hst hd hT hR
    have hlt : i < n := by omega
    refine codeAny_builtin entry_dict_loop ?_
    rw [Around.under_plainId plain_dict_loop _]
    show wpAny _ A.in1 (pyNext (.ref I) >>= _) _ _ s
    refine wpAny_bind (W.item i s _ _ hlt hst fun v h' tk hP hst' hk' => ?_)
    obtain ⟨p, hp, T, tT, rfl, hTd, hTw, hTup⟩ := hT i v hP
    have hd' : h'.DictOf (strKind prog w) d (ps.take i) := let ⟨o, es, ep, ho, r⟩ := hd; ⟨o, es, ep, hk' _ _ hdw ho, r⟩
    have hTup' : h'.IsTuple T #[.str p.1 tT, p.2] := hTup.at fun o e => hk' _ _ hTw e
    obtain ⟨oT, hoT, hcT, nT, hdT⟩ := id hTup'
    dsimp only
    refine wpAny_bind (wpAny_holding (wpAny_bind (wpAny_tryCatch ?_)))
    unfold Builtin.Dict.pairItems
    refine wpAny_bind (wpAny_typeOf (T := "tuple") ⟨_, hoT, hcT⟩ ?_)
    rw [if_pos (by decide)]
    refine wpAny_bind ?_
    unfold seqItems?
    refine wpAny_bind (wpAny_load hoT ?_)
    rw [hdT]
    refine wpAny_pure (wpAny_pure ?_)
    show wpAny _ _ (holding [.str p.1 tT, p.2] (dictSet d (.str p.1 tT) p.2)) _ _ _
    have hlen : (ps.take i).length ≤ 1000 := by rw [List.length_take]; omega
    refine wpAny_holding (wpAny_dictSet_pairs (knd := strKind prog w) (strKind_is _ _ _ _) hd' (fun h'' hd'' hs'' => ?_) (by rw [sizeLine_eq]; omega))
    have hnew : p.1 ∉ (ps.take i).map (·.1) := by
      intro hm
      rw [List.map_take] at hm
      obtain ⟨j, hj, e⟩ := List.getElem_of_mem hm
      rw [List.length_take, List.length_map] at hj
      rw [List.getElem_take] at e
      have h2 : (ps.map (·.1))[i]? = some p.1 := by rw [List.getElem?_map, hp]; rfl
      have h3 : (ps.map (·.1))[j]? = some p.1 := by rw [List.getElem?_eq_getElem (by rw [List.length_map]; omega), e]
      have := (List.getElem?_inj (by rw [List.length_map]; omega) hnd).mp (h3.trans h2.symm)
      omega
    have hst3 : stored (ps.take i) p.1 p.2 = ps.take (i + 1) := by
      rw [stored_new hnew, List.take_add_one, hp]; rfl
    rw [hst3] at hd''
    refine wpAny_pure ⟨plainId_quiet plain_dict_loop _, ?_⟩
    have e1 : rawInt ((i : Int) + 1) = Value.int (((i + 1 : Nat) : Nat) : Int) 0 := rfl
    rw [e1]
    refine ih (i + 1) _ _ (by omega) hlt (W.frame _ _ _ hst' fun b hb o e => (hs''.2 b (fun h => hdf (h ▸ hb))).trans e) hd'' (fun j v hv => ?_) fun h3 tk3 hk3 hd3 => ?_
    · obtain ⟨p', a, T', t', b1, b2, b3, b4⟩ := hT j v hv
      exact ⟨p', a, T', t', b1, b2, b3, b4.at fun o e => (hs''.2 _ b2).trans (hk' _ _ b3 e)⟩
    · exact hR h3 tk3 (fun b o hb hw e => hk3 b o hb hw ((hs''.2 b hb).trans (hk' b o hw e))) hd3
end
section
variable {prog : Program} {w : World} {A : Around} {E : Value → Shared → Prop} {s : Shared} {h₀ : Heap} {L : Addr} {m : Str → Option Value} {news : Led}
/-- dict(..) of a list of pairs of which no two bear one key -/
theorem call_dict_pairs {l : Addr} {items : Array Value} {c : Nat} {ps : List (Str × Value)} {Q : Value → Shared → Prop} (hh : A.handled = none) (hbig : sysModules < h₀.objs.size) (F : Fr h₀ L s.heap m) (N : News h₀ L s.heap news) (hl : (l, { cls := .type "list", data := .seq items c }) ∈ news)
    (hn : ps.length = items.size) (hnd : (ps.map (·.1)).Nodup) (hz : items.size ≤ 1000)
    (hT : ∀ (j : Nat) v, items[j]? = some v → ∃ p, ps[j]? = some p ∧ ∃ T t, v = .ref T ∧ (T, { cls := .type "tuple", data := .seq #[.str p.1 t, p.2] }) ∈ news)
    (h : ∀ D o h' tk, Fr h₀ L h' m → News h₀ L h' ((D, o) :: news) → AllLt D news → (D == sysModules) = false → o.IsDictOf (strKind prog w) ps → Q (.ref D) { s with heap := h', toks := tk }) :
    wpAny (model prog w) A (call (.type "dict") [.ref l]) Q E s := by
  refine callType_codes (Q₁ := fun obj s₁ => obj = .ref s.heap.objs.size ∧ s₁ = { s with heap := s.heap.push { cls := .type "dict", data := .dict #[] } }) PySem.F.kt_called_dict (PySem.F.kt_typeCall_dict_1 _) PySem.F.entry_dict_init (kt_code_dict_new _ ⟨rfl, rfl⟩) ?_
  rintro obj s₁ ⟨rfl, rfl⟩
  have hnew : (s.heap.push { cls := .type "dict", data := .dict #[] }).DictOf (strKind prog w) s.heap.objs.size [] := Heap.DictOf.new s.heap
  have hlo := (N _ hl).1
  have hlt := Heap.lt_size hlo
  have hl1 := Heap.get?_push_of_some { cls := .type "dict", data := .dict #[] } hlo
  refine ⟨hnew.typeIs, PySem.F.args_dict_init_2 _ _, ?_⟩
  unfold Builtin.«dict.__init__»
  refine wpAny_bind ?_
  unfold Builtin.Dict.selfAndRest
  refine wpAny_bind (wpAny_notOrdered_dict hnew.typeIs ?_)
  show wpAny _ _ (pure (s.heap.objs.size, [Value.ref l])) _ _ _
  refine wpAny_pure ?_
  show wpAny _ _ (Builtin.Dict.updateFrom "dict.__init__" s.heap.objs.size (.ref l) [] .none) _ _ _
  unfold Builtin.Dict.updateFrom
  refine wpAny_bind (wpAny_typeOf (T := "list") ⟨_, hl1, rfl⟩ ?_)
  rw [if_pos (by decide)]
  refine wpAny_bind (m := getAttr? _ _) (list_no_keys hl1 hh fun h2 tk2 hk2 => ?_)
  rw [if_pos (show (none : Option Value).isNone = true from rfl)]
  refine wpAny_bind (wpAny_rule ?_)
  have hl2 := hk2 _ _ hl1
  refine wpAny_bind (wpAny_pyIter_list ⟨_, hl2, rfl, _, rfl⟩ ?_)
  have hd2 : h2.DictOf (strKind prog w) s.heap.objs.size [] := let ⟨o, es, ep, ho, r⟩ := hnew; ⟨o, es, ep, hk2 _ _ ho, r⟩
  have hsz : s.heap.objs.size < h2.objs.size := by
    obtain ⟨o, es, ep, ho, _⟩ := hd2
    exact Heap.lt_size ho
  have W := Walks.list (prog := prog) (w := w) (A := A.in1.in1) hh h2.objs.size l (Nat.ne_of_lt (Nat.lt_trans hlt hsz)) items
  have k2 : ∀ b o, s.heap.get? b = some o → h2.get? b = some o := fun b o e => hk2 _ _ (Heap.get?_push_of_some _ e)
  have hTne : ∀ (j : Nat) v, items[j]? = some v → ∃ p, ps[j]? = some p ∧ ∃ T t, v = .ref T ∧ T ≠ s.heap.objs.size ∧ T ∉ [h2.objs.size] ∧ (h2.push { cls := .type "list_iterator", data := .fields #[.ref l, .int 0 0] }).IsTuple T #[.str p.1 t, p.2] := fun j v hv => by
    obtain ⟨p, a, T, t, e, hm⟩ := hT j v hv
    have hTlt := Heap.lt_size (N _ hm).1
    refine ⟨p, a, T, t, e, Nat.ne_of_lt hTlt, fun hx => ?_, ⟨_, Heap.get?_push_of_some _ (k2 _ _ (N _ hm).1), rfl, _, rfl⟩⟩
    rw [List.mem_singleton.mp hx] at hTlt
    exact absurd (Nat.lt_trans hTlt hsz) (Nat.lt_irrefl _)
  refine wpAny_pure ⟨plainId_quiet plain_dict_loop _, ?_⟩
  refine dict_loop W s.heap.objs.size (fun hx => ?_) .none ps hn hnd hz items.size 0 _ _ rfl (Nat.zero_le _) ⟨⟨_, Heap.get?_push_size _ rfl, rfl, rfl⟩, Heap.IsList.push ⟨_, hl2, rfl, _, rfl⟩ _⟩ (Heap.DictOf.push hd2 _) hTne fun h3 tk3 hk3 hd3 => ?_
  · simp only [List.mem_cons, List.not_mem_nil, or_false] at hx
    rcases hx with e | e
    · rw [e] at hsz; exact absurd hsz (Nat.lt_irrefl _)
    · rw [← e] at hlt; exact absurd hlt (Nat.lt_irrefl _)
  · have k3 : ∀ b o, s.heap.get? b = some o → h3.get? b = some o := fun b o e => hk3 b o (Nat.ne_of_lt (Heap.lt_size e)) (fun hx => by
      have h1 := Heap.lt_size e
      rw [List.mem_singleton.mp hx] at h1
      exact absurd (Nat.lt_trans h1 hsz) (Nat.lt_irrefl _)) (Heap.get?_push_of_some _ (k2 b o e))
    obtain ⟨o, ho, hd'⟩ := Heap.dictOf_iff.mp hd3
    refine ⟨rfl, h s.heap.objs.size o h3 tk3 (F.grownK k3) (fun p hp => ?_) (allLt_of fun p hp => Heap.lt_size (N p hp).1) (F.notModules hbig) hd'⟩
    rcases List.mem_cons.mp hp with rfl | hp
    · exact ⟨ho, fun e => absurd F.ns.lt (e ▸ Nat.lt_irrefl _), next_is_new F⟩
    · exact ⟨k3 _ _ (N p hp).1, (N p hp).2⟩
end
end Mine
end
section
open PySem PySem.W PySem.Calls PyProof.Rows PySem.Spec PyProof.V
namespace Mine
noncomputable abbrev Oc := List UInt8
noncomputable def keyOf : Value → Oc
  | .bytes b _ => b.toList
  | _ => []
theorem put_led (t : SetTable) (j : Nat) : (t.put j).1.led = t.led ∧ (t.put j).1.plain = t.plain := ⟨rfl, rfl⟩
theorem layNew_led (t : SetTable) (es : Array (Int × Value)) (h : Int) (x : Value) : (layNew t es h x).2.1.led = t.led ∧ ((layNew t es h x).2.1.plain = true → t.plain = true) := by
  unfold layNew
  split
  · dsimp only
    unfold SetTable.orStandIn
    split
    · exact ⟨rfl, fun e => e⟩
    · exact ⟨rfl, fun e => nomatch e⟩
  · exact ⟨rfl, fun e => nomatch e⟩
theorem relayAll_led (t : SetTable) (es : Array (Int × Value)) (n : Nat) : (relayAll t es n).2.1.led = t.led ∧ ((relayAll t es n).2.1.plain = true → t.plain = true) := by
  unfold relayAll
  split
  · rename_i t' order he
    have hl : t'.led = t.led ∧ t'.plain = t.plain := by
      unfold SetTable.relaid SetTable.laid at he
      simp only [Option.bind_eq_bind, Option.bind_eq_some_iff, Option.pure_def, Option.some.injEq, Prod.mk.injEq] at he
      obtain ⟨ow, _, e, _⟩ := he
      subst e
      exact ⟨rfl, rfl⟩
    dsimp only
    split
    · exact ⟨hl.1, fun e => hl.2 ▸ e⟩
    · exact ⟨rfl, fun e => nomatch e⟩
  · exact ⟨rfl, fun e => nomatch e⟩
section
variable {prog : Program} {w : World}
/-- a set object of the octets xs -/
noncomputable def BSet (prog : Program) (w : World) (xs : List Oc) (o : Obj) : Prop :=
  ∃ es ep t, o.ExactSet ∧ o.data = .set es ep t ∧ ElemsOf (bytesKind prog w) es.toList ∧ (es.toList.map fun e => keyOf e.2).Perm xs ∧ es.size < scanBound ∧ t.fits es.size = true ∧ t.led = !w.params.followText "set-order" ∧ (t.plain = true → es.size = 0)
theorem is_key {k : Oc} {v : Value} (h : (bytesKind prog w).is k v = true) : keyOf v = k := by
  obtain ⟨t, rfl⟩ := isBytes_shape h
  rfl
theorem elems_mem {l : List (Int × Value)} (hel : ElemsOf (bytesKind prog w) l) (k : Oc) : (∃ e ∈ l, (bytesKind prog w).is k e.2 = true) ↔ k ∈ l.map fun e => keyOf e.2 := by
  rw [List.mem_map]
  constructor
  · rintro ⟨e, he, h⟩
    exact ⟨e, he, is_key h⟩
  · rintro ⟨e, he, rfl⟩
    obtain ⟨⟨k', hk, _⟩, _⟩ := hel e he
    exact ⟨e, he, by rw [is_key hk]; exact hk⟩
noncomputable def addB (xs : List Oc) (k : Oc) : List Oc := if k ∈ xs then xs else xs ++ [k]
variable {A : Around} {E : Value → Shared → Prop} {s : Shared}
theorem setAdd_B {a : Addr} {o : Obj} {xs : List Oc} {k : Oc} {x : Value} {Q : Bool → Shared → Prop} (hkey : (bytesKind prog w).is k x = true) (ho : s.heap.get? a = some o) (hB : BSet prog w xs o) (hroom : xs.length + 1 < scanBound)
    (h : ∀ h' o', Heap.SameBut a s.heap h' → h'.get? a = some o' → BSet prog w (addB xs k) o' → Q (!decide (k ∈ xs)) { s with heap := h' }) :
    wpAny (model prog w) A (setAddHashed a x ((bytesKind prog w).hash k)) Q E s := by
  obtain ⟨es, ep, t, hex, hd, hel, hp, hb, hf, hled, hpl⟩ := hB
  have hsc : x.scannable = true := by obtain ⟨u, rfl⟩ := isBytes_shape hkey; rfl
  have hn : es.size = xs.length := by rw [← hp.length_eq, List.length_map, Array.length_toList]
  have hb1 : es.size + 1 < scanBound := by rw [hn]; exact hroom
  unfold setAddHashed setAddHashedIn
  refine wpAny_holding (wpAny_bind (wpAny_setState_of ho hd hf ?_))
  dsimp only
  rw [byScan_of hsc hb hel]
  simp only [↓reduceIte]
  unfold setAddByScan
  refine wpAny_bind ?_
  refine wpAny_bind (wpAny_rule ?_)
  refine wpAny_bind (wpAny_setScan_of hkey ho hd hf hel ?_)
  cases hr : List.findIdx? (fun e => (bytesKind prog w).is k e.2) es.toList with
  | some j =>
    dsimp only
    obtain ⟨hj, hpj, _⟩ := List.findIdx?_eq_some_iff_getElem.mp hr
    have hk : k ∈ xs := hp.mem_iff.mp ((elems_mem hel k).mp ⟨es.toList[j], List.getElem_mem hj, hpj⟩)
    refine wpAny_pure (wpAny_pure ?_)
    have := h s.heap o (Heap.SameBut.refl a s.heap) ho (by unfold addB; rw [if_pos hk]; exact ⟨es, ep, t, hex, hd, hel, hp, hb, hf, hled, hpl⟩)
    rw [decide_eq_true hk] at this
    cases s
    exact this
  | none =>
    dsimp only
    have hk : k ∉ xs := fun hm => by
      obtain ⟨e, he, q⟩ := (elems_mem hel k).mpr (hp.mem_iff.mpr hm)
      have := List.findIdx?_eq_none_iff.mp hr e he
      rw [q] at this; exact Bool.noConfusion this
    have hgw : ∀ (b : Bool) {s₁ : Shared} {Q' : Unit → Shared → Prop}, Q' () s₁ → wpAny (model prog w) A (match b with | true => rule "set.scan.the-table-gave-way" | false => pure ()) Q' E s₁ :=
      fun b s₁ Q' hq => by cases b <;> first | exact wpAny_pure hq | exact wpAny_rule hq
    have hperm := layNew_perm t es ((bytesKind prog w).hash k) x
    have hfits := layNew_fits t es ((bytesKind prog w).hash k) x
    have hlay := layNew_led t es ((bytesKind prog w).hash k) x
    generalize hL : layNew t es ((bytesKind prog w).hash k) x = L at hperm hfits hlay ⊢
    obtain ⟨es1, t1, wasDummy, gave⟩ := L
    dsimp only at hperm hfits hlay ⊢
    rw [Array.toList_push] at hperm
    have hel1 : ElemsOf (bytesKind prog w) es1.toList := (hel.push hkey hsc).perm hperm
    have hb1' : es1.size < scanBound := by rw [← Array.length_toList, hperm.length_eq, List.length_append, Array.length_toList]; simpa using hb1
    have hp1 : (es1.toList.map fun e => keyOf e.2).Perm (xs ++ [k]) := by
      refine (hperm.map _).trans ?_
      rw [List.map_append]
      refine List.Perm.append hp ?_
      rw [List.map_cons, is_key hkey]
      exact .rfl
    refine wpAny_bind (hgw _ ?_)
    have hend : ∀ h' es' ep' t', Heap.SameBut a s.heap h' → h'.get? a = some { o with data := .set es' ep' t' } → ElemsOf (bytesKind prog w) es'.toList → (es'.toList.map fun e => keyOf e.2).Perm (xs ++ [k]) → es'.size < scanBound → t'.fits es'.size = true → t'.led = t.led → t'.plain = false → Q true { s with heap := h' } := by
      intro h' es' ep' t' hsb hg a1 a2 a3 a4 a5 a6
      have := h h' _ hsb hg (by unfold addB; rw [if_neg hk]; exact ⟨es', ep', t', hex, rfl, a1, a2, a3, a4, a5.trans hled, fun e => by rw [a6] at e; cases e⟩)
      rw [decide_eq_false hk] at this
      exact this
    have tail : ∀ t2 : SetTable, t2.fits es1.size = true → t2.led = t.led → t2.plain = false → wpAny (model prog w) A (do
        storeSet a es1 t2
        if (!wasDummy && t2.tooFull) = true then do
            (match (relayAll t2 es1 (SetTable.grown es1.size)).2.2 with | true => rule "set.scan.the-table-gave-way" | false => pure ())
            storeSet a (relayAll t2 es1 (SetTable.grown es1.size)).1 (relayAll t2 es1 (SetTable.grown es1.size)).2.1
            pure (some true)
          else pure (some true)) (fun r s₁ => wpAny (model prog w) A (match r with | some added => pure added | none => setAddHashedIn a x ((bytesKind prog w).hash k) 99999) Q E s₁) E s := by
      intro t2 hf2 hl2 hp2
      refine wpAny_bind (wpAny_storeSet_of ho hd ?_ (fits_of_scanBound hb1'))
      obtain ⟨ho1, _⟩ := SetOf_store (knd := bytesKind prog w) (S' := fun k => decide (k ∈ es1.toList.map fun e => keyOf e.2)) ho hex hd hel1 (fun k => by rw [decide_eq_true_eq, elems_mem hel1]) hb1' hf2
      have hsb1 := Heap.SameBut.update s.heap a (Obj.putSet es1 t2)
      split
      · have hpr := relayAll_perm t2 es1 (SetTable.grown es1.size)
        have hfr := relayAll_fits t2 es1 (SetTable.grown es1.size)
        have hlr := relayAll_led t2 es1 (SetTable.grown es1.size)
        generalize hRl : relayAll t2 es1 (SetTable.grown es1.size) = Rl at hpr hfr hlr ⊢
        obtain ⟨es2, t3, gave2⟩ := Rl
        dsimp only at hpr hfr hlr ⊢
        have hel2 : ElemsOf (bytesKind prog w) es2.toList := hel1.perm hpr
        have hsz : es2.size = es1.size := by rw [← Array.length_toList, hpr.length_eq, Array.length_toList]
        have hb2 : es2.size < scanBound := by rw [hsz]; exact hb1'
        refine wpAny_bind (hgw _ ?_)
        refine wpAny_bind (wpAny_storeSet_of ho1 rfl ?_ (fits_of_scanBound hb2))
        obtain ⟨ho2, _⟩ := SetOf_store (knd := bytesKind prog w) (S' := fun k => decide (k ∈ es2.toList.map fun e => keyOf e.2)) ho1 hex rfl hel2 (fun k => by rw [decide_eq_true_eq, elems_mem hel2]) hb2 hfr
        refine wpAny_pure (wpAny_pure (hend _ es2 _ t3 (hsb1.trans (Heap.SameBut.update _ a _)) ho2 hel2 ((hpr.map _).trans hp1) hb2 hfr (hlr.1.trans hl2) ?_))
        cases e : t3.plain with
        | false => rfl
        | true => have := hlr.2 e; rw [hp2] at this; cases this
      · exact wpAny_pure (wpAny_pure (hend _ es1 _ t2 hsb1 ho1 hel1 hp1 hb1' hf2 hl2 hp2))
    split
    · rename_i hpt
      refine wpAny_bind ?_
      rw [hashByValue_scannable 8 hsc, show plainKind x = false by obtain ⟨u, rfl⟩ := isBytes_shape hkey; rfl]
      refine wpAny_pure ?_
      simp only [Bool.false_eq_true, ↓reduceIte]
      exact tail _ (SetTable.fits_plain_off hfits) hlay.1 rfl
    · rename_i hpt
      refine wpAny_bind (wpAny_pure ?_)
      simp only [↓reduceIte]
      exact tail _ hfits hlay.1 (by cases e : t1.plain with | false => rfl | true => exact absurd e hpt)
end
end Mine
end
section
open PySem PySem.W PySem.Calls PyProof.Rows PySem.Spec PyProof.V
namespace Mine
noncomputable def firstB (ks : List Oc) (i : Nat) : List Oc := (ks.take i).foldl addB []
theorem firstB_succ {ks : List Oc} {i : Nat} (h : i < ks.length) : firstB ks (i + 1) = addB (firstB ks i) (ks.getD i []) := by
  unfold firstB
  rw [List.take_succ_eq_append_getElem h, List.foldl_append, List.getD_eq_getElem?_getD, List.getElem?_eq_getElem h]
  rfl
theorem addB_length (xs : List Oc) (k : Oc) : (addB xs k).length ≤ xs.length + 1 := by
  unfold addB
  split
  · omega
  · simp
theorem firstB_length (ks : List Oc) : ∀ i, i ≤ ks.length → (firstB ks i).length ≤ i
  | 0, _ => by simp [firstB]
  | i + 1, h => by
    rw [firstB_succ h]
    have := addB_length (firstB ks i) (ks.getD i [])
    have := firstB_length ks i (by omega)
    omega
section
variable {prog : Program} {w : World} {A : Around} {R : Result → Shared → Prop} {I : Addr} {fp wr : List Addr} {n : Nat} {P : Nat → Value → Prop} {St : Nat → Heap → Prop}
theorem update_B (W : Walks prog w A.in1 I fp wr n P St) (S : Addr) (hSf : S ∉ fp) (ks : List Oc) (hn : n = ks.length) (hval : ∀ i v, P i v → (bytesKind prog w).is (ks.getD i []) v = true) (hb : n + 1 < scanBound) :
    ∀ (k i : Nat) (s : Shared), n - i = k → i ≤ n → St i s.heap → (∃ o, s.heap.get? S = some o ∧ BSet prog w (firstB ks i) o) →
      (∀ h' tk, (∀ b o, b ∉ S :: wr → s.heap.get? b = some o → h'.get? b = some o) → (∃ o, h'.get? S = some o ∧ BSet prog w (firstB ks n) o) → R (.ok (.ret .none)) { s with heap := h', toks := tk }) →
      codeAny (model prog w) A (.builtin "set.update.loop" ⟨[.ref S, .ref I], []⟩) R s := by
  have hSw : S ∉ wr := fun h => hSf (W.sub _ h)
  intro k
  induction k with
  | zero =>
    intro i s hk hi hst ⟨o, ho, hB⟩ hR
    have hin : i = n := by omega
    subst hin
    refine codeAny_builtin F.entry_set_update_loop ?_
    rw [Around.under_plainId F.plain_set_update_loop _]
    show wpAny _ A.in1 (pyNext (.ref I) >>= _) _ _ s
    refine wpAny_bind (W.done s _ _ hst fun h' tk hm => ?_)
    show wpAny _ A.in1 (ret Value.none) _ _ _
    exact wpAny_pure (hR h' tk (fun b o hb e => hm b o (fun x => hb (List.mem_cons_of_mem _ x)) e) ⟨o, hm S o hSw ho, hB⟩)
  | succ k ih =>
    intro i s hk hi hst ⟨o, ho, hB⟩ hR
    have hlt : i < n := by omega
    refine codeAny_builtin F.entry_set_update_loop ?_
    rw [Around.under_plainId F.plain_set_update_loop _]
    show wpAny _ A.in1 (pyNext (.ref I) >>= _) _ _ s
    refine wpAny_bind (W.item i s _ _ hlt hst fun v h1 tk1 hP hst' hm => ?_)
    have hv := hval i v hP
    show wpAny _ A.in1 (holding [v] (setAdd S v) >>= _) _ _ _
    refine wpAny_bind (wpAny_holding ?_)
    unfold setAdd
    refine wpAny_holding ?_
    refine wpAny_bind ((bytesKind prog w).pyHash hv ?_)
    have hroom : (firstB ks i).length + 1 < scanBound := by have := firstB_length ks i (by omega); omega
    refine setAdd_B (s := { s with heap := h1, toks := tk1 + 1 }) hv (hm S o hSw ho) hB hroom fun h' o' hsb ho' hB' => ?_
    refine wpAny_pure ⟨plainId_quiet F.plain_set_update_loop _, ih (i + 1) _ (by omega) hlt (W.frame _ h1 _ hst' fun b hb o e => ?_) ⟨o', ho', by rw [firstB_succ (by omega)]; exact hB'⟩ fun h'' tk hm'' hB'' => hR h'' tk (fun b ob hbw e => hm'' b ob hbw ?_) hB''⟩
    · rw [hsb.2 b (fun h : b = S => hSf (h ▸ hb))]; exact e
    · have hbS : b ≠ S := fun h => hbw (by rw [h]; exact .head _)
      show h'.get? b = some ob
      rw [hsb.2 b hbS]
      exact hm b ob (fun x => hbw (List.mem_cons_of_mem _ x)) e
end
section
variable {prog : Program} {w : World} {A : Around} {E : Value → Shared → Prop} {s : Shared}
theorem code_set_new_led (a : Value) {Q₁ : Value → Shared → Prop}
    (h : Q₁ (.ref s.heap.objs.size) { s with heap := s.heap.push { cls := .type "set", dict := none, data := .set #[] 0 (.fresh 0 0 (!w.params.followText "set-order")) } }) :
    codeAny (model prog w) A (.call (.builtin "set.__new__") ⟨[.type "set", a], []⟩) (wants Q₁ E) s := by
  refine codeAny_of_tree ?_
  show wpAny _ A.in1 (do checkBuiltinCall "set.__new__" ⟨[.type "set", a], []⟩; again (.builtin "set.__new__" ⟨[.type "set", a], []⟩)) _ _ s
  refine wpAny_bind (wpAny_of_eq (F.newCall_set_1 a) (wpAny_pure ⟨plainId_quiet F.plain_set_new _, codeAny_builtin F.entry_set_new ?_⟩))
  rw [Around.under_plainId F.plain_set_new _]
  unfold Builtin.«set.__new__» Builtin.Frozenset.newClass
  have hsub := sub_set_self
  obtain ⟨hp, g, d, tk, os⟩ := s
  dsimp only
  wp_walk
  refine wpAny_askSetting (wpAny_pure ?_)
  dsimp only
  simp only [newObj]
  refine wpAny_bind (wpAny_alloc (wpAny_pure ?_))
  exact wpAny_pure h
theorem BSet_fresh : BSet prog w [] { cls := .type "set", dict := none, data := .set #[] 0 (.fresh 0 0 (!w.params.followText "set-order")) } :=
  ⟨#[], 0, _, ⟨rfl, rfl, rfl⟩, rfl, (fun e he => nomatch he), .rfl, by decide, rfl, rfl, fun _ => rfl⟩

theorem set_init_list {S l : Addr} {ol : Obj} {items : Array Value} {nl : Nat} {led : Bool} {Q : PySem.Fin → Shared → Prop}
    (hS : s.heap.get? S = some { cls := .type "set", dict := none, data := .set #[] 0 (.fresh 0 0 led) }) (hol : s.heap.get? l = some { cls := .type "list", dict := ol.dict, data := .seq items nl, slots := ol.slots })
    (k : wpAny (model prog w) A (pyIter (.ref l)) (fun a s' => wpAny (model prog w) A (runValue (.builtin "set.update.loop" ⟨[.ref S, a], []⟩)) (fun _ s'' => Q (.done (.ret .none)) s'') E s') E s) :
    wpAny (model prog w) A (Builtin.«set.__init__» ⟨[.ref S] ++ [.ref l], []⟩) Q E s := by
  have hsls := F.sub_list_set
  have hslf := F.sub_list_frozenset
  have hne : (Value.type "list" == Value.type "dict") = false := by decide
  unfold Builtin.«set.__init__» noKeywords Builtin.Frozenset.updateFrom
  generalize hPI : pyIter = PI at k ⊢
  wp_walk
  exact wpAny_mono k (fun _ _ h => wpAny_bind (wpAny_mono h (fun _ _ q => wpAny_pure (wpAny_pure q)) fun _ _ e => e)) fun _ _ e => e
theorem call_set_bytes {l : Addr} {items : Array Value} {ks : List Oc} {Q : Value → Shared → Prop}
    (hh : A.handled = none) (hl : s.heap.IsList l items) (hn : items.size = ks.length) (hi : ∀ i v, items[i]? = some v → (bytesKind prog w).is (ks.getD i []) v = true) (hb : items.size + 1 < scanBound)
    (h : ∀ (h' : Heap) (tk : Nat) o, h'.get? s.heap.objs.size = some o → BSet prog w (firstB ks ks.length) o →
      (∀ b o, b < s.heap.objs.size → s.heap.get? b = some o → h'.get? b = some o) → Q (.ref s.heap.objs.size) { s with heap := h', toks := tk }) :
    wpAny (model prog w) A (call (.type "set") [.ref l]) Q E s := by
  obtain ⟨c, tl, hmro⟩ := F.called_set.mro
  have hmade := F.called_set.made
  have hsub := F.called_set.sub
  refine wpAny_call (codeAny_of_tree ?_)
  show wpAny _ _ (callAny (.type "set") _) _ _ _
  refine wpAny_pure ⟨Code.quiet_builtin _ (by decide +kernel), codeAny_builtin F.entry_type_call ?_⟩
  rw [Around.under_plain (weight_type_call_type "set" [.ref l] []) rfl]
  have h1 := F.called_set.notType
  have h2 := F.called_set.canCreate
  have hct := F.typeCall_set_1 (.ref l)
  repeat (any_goals (first | assumption | wp_step))
  refine codeAny_mono (code_set_new_led (.ref l) (E := E) (Q₁ := fun obj s₁ => obj = .ref s.heap.objs.size ∧ s₁ = { s with heap := s.heap.push { cls := .type "set", dict := none, data := .set #[] 0 (.fresh 0 0 (!w.params.followText "set-order")) } }) ⟨rfl, rfl⟩) fun r s₁ hr => ?_
  cases r with
  | error e => exact hr
  | ok fl =>
    cases fl with
    | ret obj =>
      obtain ⟨rfl, rfl⟩ := hr
      have hB0 := BSet_fresh (prog := prog) (w := w)
      generalize hled : (!w.params.followText "set-order") = led at hB0 ⊢
      have hS : (s.heap.push { cls := .type "set", dict := none, data := .set #[] 0 (.fresh 0 0 led) }).get? s.heap.objs.size = some { cls := .type "set", dict := none, data := .set #[] 0 (.fresh 0 0 led) } := Heap.get?_push_size _ rfl
      have hT : Shared.TypeIs { s with heap := s.heap.push { cls := .type "set", dict := none, data := .set #[] 0 (.fresh 0 0 led) } } (.ref s.heap.objs.size) "set" := ⟨_, hS, rfl⟩
      have hli := F.called_set.init.lookup
      have hbi := F.called_set.init.bind (.ref s.heap.objs.size)
      repeat (any_goals (first | assumption | wp_step))
      refine codeAny_mono (codeAny_call_builtin (R := wants (fun r s₂ => r = .none ∧ ∃ h' tk o, s₂ = { s with heap := h', toks := tk } ∧ h'.get? s.heap.objs.size = some o ∧
          BSet prog w (firstB ks ks.length) o ∧
          (∀ b o, b < s.heap.objs.size → s.heap.get? b = some o → h'.get? b = some o)) E) F.called_set.init.plain F.entry_set_init (check_set_init_1 hT ?_)) fun r₂ s₂ hr₂ => ?_
      · obtain ⟨ol, hol, hcl, nl, hdl⟩ := hl
        obtain ⟨ocls, odict, odata, oslots⟩ := ol
        simp only at hcl hdl
        subst hcl; subst hdl
        have hol' : (s.heap.push { cls := .type "set", dict := none, data := .set #[] 0 (.fresh 0 0 led) }).get? l = some { cls := .type "list", dict := odict, data := .seq items nl, slots := oslots } := Heap.get?_push_of_some _ hol
        have hl1 : (s.heap.push { cls := .type "set", dict := none, data := .set #[] 0 (.fresh 0 0 led) }).IsList l items := ⟨_, hol', rfl, nl, rfl⟩
        refine set_init_list (ol := ⟨.type "list", odict, .seq items nl, oslots⟩) hS hol' ?_
        refine wpAny_pyIter_list hl1 ?_
        refine wpAny_runValue ?_
        have hlS : l < s.heap.objs.size := Heap.lt_size hol
        have hh3 : A.in1.in1.in1.handled = none := by simp [hh]
        have hneI : l ≠ (s.heap.push { cls := .type "set", dict := none, data := .set #[] 0 (.fresh 0 0 led) }).objs.size := by
          rw [Heap.size_push]; exact Nat.ne_of_lt (Nat.lt_succ_of_lt hlS)
        have hSf : s.heap.objs.size ∉ [(s.heap.push { cls := .type "set", dict := none, data := .set #[] 0 (.fresh 0 0 led) }).objs.size, l] := by
          rw [Heap.size_push]; simp only [List.mem_cons, List.mem_singleton, List.not_mem_nil, or_false, not_or]
          exact ⟨Nat.ne_of_lt (Nat.lt_succ_self _), Nat.ne_of_gt hlS⟩
        refine update_B (Walks.list hh3 _ l hneI items) s.heap.objs.size
          hSf ks hn hi hb (items.size - 0) 0 _ (by omega) (Nat.zero_le _)
          ⟨⟨_, Heap.get?_push_size _ rfl, rfl, rfl⟩, (hl1.push _)⟩ ⟨_, Heap.get?_push_of_some _ hS, hB0⟩ ?hR
        case hR =>
          intro h' tk' hm ⟨o', ho', hB'⟩
          refine ⟨rfl, h', tk', o', rfl, ho', hn ▸ hB', fun b o hb e => ?_⟩
          have hb1 : b ≠ s.heap.objs.size := Nat.ne_of_lt hb
          have hb2 : b ≠ (s.heap.push { cls := .type "set", dict := none, data := .set #[] 0 (.fresh 0 0 led) }).objs.size := by
            rw [Heap.size_push]; exact Nat.ne_of_lt (Nat.lt_succ_of_lt hb)
          exact hm b o (by simp only [List.mem_cons, List.mem_singleton, List.not_mem_nil, or_false, not_or]; exact ⟨hb1, hb2⟩) (Heap.get?_push_of_some _ (Heap.get?_push_of_some _ e))
      · cases r₂ with
        | error e => exact hr₂
        | ok fl₂ =>
          cases fl₂ with
          | ret r =>
            obtain ⟨rfl, h', tk, o', rfl, ho', hB', hk'⟩ := hr₂
            repeat (any_goals (first | assumption | wp_step))
            exact h _ _ o' ho' hB' hk'
          | _ => exact hr₂.elim
    | _ => exact hr.elim
end
section
variable {prog : Program} {w : World} {A : Around} {E : Value → Shared → Prop} {s : Shared} {h₀ : Heap} {L : Addr} {m : Str → Option Value} {news : Led}
theorem newSet_B {l : Addr} {o : Obj} {vs : List Value} {ks : List Oc} {Q : Value → Shared → Prop} (F : Fr h₀ L s.heap m) (N : News h₀ L s.heap news)
    (hh : A.handled = none) (hl : s.heap.IsList l vs.toArray) (hn : vs.length = ks.length) (hi : ∀ i v, vs[i]? = some v → (bytesKind prog w).is (ks.getD i []) v = true) (hb : vs.length ≤ 100)
    (h : ∀ h' (tk : Nat) o, Fr h₀ L h' m → News h₀ L h' ((s.heap.objs.size, o) :: news) → BSet prog w (firstB ks ks.length) o →
      Q (.ref s.heap.objs.size) { s with heap := h', toks := tk }) :
    wpAny (model prog w) A (call (.type "set") [.ref l]) Q E s := by
  refine call_set_bytes (items := vs.toArray) (ks := ks) hh hl (by simpa using hn) (fun i v e => hi i v (by simpa using e)) (by unfold scanBound; simp; omega) fun h' tk o ho hB hk => ?_
  have hLlt : L < s.heap.objs.size := F.ns.lt
  refine h h' tk o ⟨F.ns.at' fun o' e => hk L o' hLlt e, fun b o' e => hk b o' (Heap.lt_size (F.keep b o' e)) (F.keep b o' e), F.above⟩ (fun p hp => ?_) hB
  rcases List.mem_cons.mp hp with rfl | hp
  · refine ⟨ho, Nat.ne_of_gt hLlt, ?_⟩
    cases hq : h₀.get? s.heap.objs.size with
    | none => rfl
    | some o' => exact absurd (Heap.lt_size (F.keep _ _ hq)) (Nat.lt_irrefl _)
  · exact ⟨hk _ _ (Heap.lt_size (N p hp).1) (N p hp).1, (N p hp).2.1, (N p hp).2.2⟩
end
end Mine
end
section
open PySem PySem.W PySem.Calls PyProof.Rows PySem.Spec PyProof.V
namespace Mine
open Builtin
theorem sit_next : Slot "set_iterator" "__next__" "set_iterator.__next__" :=
  .of (owner := "set_iterator") (n := "__next__") (by rw [typeLookup_type, builtinLookup_eq_fast]; kernel_rfl) (by decide +kernel) (by decide +kernel) (by decide +kernel)
    (by first | exact .inl (by decide +kernel) | exact .inr (by decide +kernel)) (by rw [isSubtype_type]; kernel_rfl)
theorem sit_self : Slot "set_iterator" "__iter__" "set_iterator.__iter__" :=
  .of (owner := "set_iterator") (n := "__iter__") (by rw [typeLookup_type, builtinLookup_eq_fast]; kernel_rfl) (by decide +kernel) (by decide +kernel) (by decide +kernel)
    (by first | exact .inl (by decide +kernel) | exact .inr (by decide +kernel)) (by rw [isSubtype_type]; kernel_rfl)
theorem sit_iter : Slot "set" "__iter__" "set.__iter__" :=
  .of (owner := "set") (n := "__iter__") (by rw [typeLookup_type, builtinLookup_eq_fast]; kernel_rfl) (by decide +kernel) (by decide +kernel) (by decide +kernel)
    (by first | exact .inl (by decide +kernel) | exact .inr (by decide +kernel)) (by rw [isSubtype_type]; kernel_rfl)
theorem sit_entry_next : entryFor table "set_iterator.__next__" = some Builtin.«set_iterator.__next__» := entryFor_of_tree (by kernel_rfl)
theorem sit_entry_self : entryFor table "set_iterator.__iter__" = some Builtin.«dict_keyiterator.__iter__» := entryFor_alias (id' := "dict_keyiterator.__iter__") (by rw [fastTable_eq_tree]; kernel_rfl) rfl (by decide +kernel) (by rw [fastTable_eq_tree]; kernel_rfl)
theorem sit_entry_iter : entryFor table "set.__iter__" = some Builtin.«frozenset.__iter__» := entryFor_alias (id' := "frozenset.__iter__") (by rw [fastTable_eq_tree]; kernel_rfl) rfl (by decide +kernel) (by rw [fastTable_eq_tree]; kernel_rfl)
theorem sit_args_next (a : Value) : argsOk "set_iterator.__next__" ⟨[a], []⟩ := by unfold argsOk; kernel_rfl
theorem sit_args_self (a : Value) : argsOk "set_iterator.__iter__" ⟨[a], []⟩ := by unfold argsOk; kernel_rfl
theorem sit_args_iter (a : Value) : argsOk "set.__iter__" ⟨[a], []⟩ := by unfold argsOk; kernel_rfl

noncomputable def SIter (h : Heap) (I : Addr) (f : Value) (i : Nat) (S : Addr) (n ep : Nat) : Prop := ∃ o, h.get? I = some o ∧ o.cls = .type "set_iterator" ∧ o.data = .fields #[f, .int i 0, .ref S, .int n 0, .int ep 0]
theorem SIter.typeIs {s : Shared} {I S : Addr} {f : Value} {i n ep : Nat} (y : SIter s.heap I f i S n ep) : s.TypeIs (.ref I) "set_iterator" := let ⟨o, ho, hc, _⟩ := y; ⟨o, ho, hc⟩
noncomputable def sitRest (it : Value) (a : Addr) (first : Value) (i epoch : Int) : Sem PySem.Fin := do
  if let .int slot _ := first then
    match ← setNext a slot.toNat i.toNat epoch.toNat with
    | some (x, nx) =>
      setField it 0 (rawInt nx)
      setField it 1 (rawInt (i + 1))
      ret x
    | none => setField it 2 .none; raiseNew (← newExc (.type "StopIteration") [])
  else
    let some places ← seqItems? first | unsupported "internal:set_iterator"
    match places[i.toNat]? with
    | some (.int place _) =>
      let x ← setNextDrawn a place.toNat epoch.toNat
      setField it 1 (rawInt (i + 1))
      ret x
    | some _ => unsupported "internal:set_iterator"
    | none => setField it 0 (rawInt 0); setField it 2 .none; raiseNew (← newExc (.type "StopIteration") [])
section
variable {prog : Program} {w : World} {A : Around} {E : Value → Shared → Prop} {s : Shared}
theorem sit_pre {it S : Addr} {f : Value} {i n ep : Nat} {oS : Obj} {es : Array (Int × Value)} {t : SetTable} {Q : Option Value → Shared → Prop}
    (hit : SIter s.heap it f i S n ep) (hS : s.heap.get? S = some oS) (hd : oS.data = .set es ep t) (hf : t.fits es.size = true) (hn : es.size = n)
    (h : ∀ E', (∀ e s', s'.TypeIs e "StopIteration" → Q none s' → E' e s') → wpAny (model prog w) A.in1 (sitRest (.ref it) S f i ep) (fun r s' => ∃ v, r = PySem.Fin.done (.ret v) ∧ Q (some v) s') E' s) :
    wpAny (model prog w) A (pyNext (.ref it)) Q E s := by
  obtain ⟨o, ho, hc, hdt⟩ := id hit
  unfold pyNext
  refine wpAny_bind (wpAny_attempt (wpAny_callSpecial?_slot (name := PySem.Str.ofString "__next__") hit.typeIs sit_next
    (wpAny_call_entry sit_next hit.typeIs sit_entry_next ?_ (sit_args_next _))))
  show wpAny _ _ (fieldsOf (.ref it) >>= _) _ _ s
  refine wpAny_bind (wpAny_fieldsOf ho hdt ?_)
  show wpAny _ _ (setEntries S >>= _) _ _ s
  refine wpAny_bind (wpAny_setEntries_of hS hd hf ?_)
  dsimp only
  rw [hn]
  simp only [bne_self_eq_false, Bool.false_eq_true, ↓reduceIte]
  refine wpAny_mono (h _ fun e s' hT hQ => ?_) (fun r s' hr => ?_) fun _ _ x => x
  · exact wpAny_bind (wpAny_isInstance (T := "StopIteration") (b := true) hT isSubtype_stop (wpAny_pure hQ))
  · obtain ⟨v, rfl, hv⟩ := hr
    exact ⟨v, rfl, wpAny_pure hv⟩
theorem sit_stop {Q : PySem.Fin → Shared → Prop} (hh : A.handled = none) (h : ∀ h' e, (∀ b o, s.heap.get? b = some o → h'.get? b = some o) → Shared.TypeIs { s with heap := h' } e "StopIteration" → E e { s with heap := h' }) :
    wpAny (model prog w) A (do raiseNew (← newExc (.type "StopIteration") [])) Q E s := by
  refine wpAny_bind ?_
  simp only [newExc, newTuple]
  refine wpAny_bind (wpAny_newObj_type ?_ (by size_fits))
  refine wpAny_bind (m := firstArgMember _ _) (wpAny_of_eq (a := Value.none) (by first | rfl | (simp only [firstArgMember]; rfl)) ?_)
  refine wpAny_newObj_type ?_ (by size_fits)
  simp only [raiseNew]
  refine wpAny_bind (wpAny_handled ?_)
  rw [hh]
  refine wpAny_bind (wpAny_pure (wpAny_throw ?_))
  exact h _ _ (fun b o e => Heap.get?_push_of_some _ (Heap.get?_push_of_some _ e)) ⟨_, Heap.get?_push_size _ rfl, rfl⟩
theorem sit_field {it S : Addr} {f : Value} {i n ep : Nat} {Q : Unit → Shared → Prop} (hit : SIter s.heap it f i S n ep)
    (h : ∀ h', SIter h' it f (i + 1) S n ep → Heap.SameBut it s.heap h' → Q () { s with heap := h' }) : wpAny (model prog w) A (setField (.ref it) 1 (rawInt ((i : Int) + 1))) Q E s := by
  obtain ⟨o, ho, hc, hd⟩ := hit
  refine wpAny_setField ho hd (by simp) (h _ ⟨_, Heap.get?_update_self _ ho (Obj.isFreed_of_fields (Obj.data_mapFields hd _)), (Obj.cls_mapFields ..).trans hc, by
    rw [Obj.data_mapFields hd]; simp [rawInt]⟩ (Heap.SameBut.update ..))
theorem sit_field0 {it S : Addr} {f : Value} {i n ep : Nat} {x : Value} {Q : Unit → Shared → Prop} (hit : SIter s.heap it f i S n ep)
    (h : ∀ h', SIter h' it x i S n ep → Heap.SameBut it s.heap h' → Q () { s with heap := h' }) : wpAny (model prog w) A (setField (.ref it) 0 x) Q E s := by
  obtain ⟨o, ho, hc, hd⟩ := hit
  refine wpAny_setField ho hd (by simp) (h _ ⟨_, Heap.get?_update_self _ ho (Obj.isFreed_of_fields (Obj.data_mapFields hd _)), (Obj.cls_mapFields ..).trans hc, by
    rw [Obj.data_mapFields hd]; simp [rawInt]⟩ (Heap.SameBut.update ..))
theorem sit_field2 {it S : Addr} {f : Value} {i n ep : Nat} {Q : Unit → Shared → Prop} (hit : SIter s.heap it f i S n ep)
    (h : ∀ h', Heap.SameBut it s.heap h' → Q () { s with heap := h' }) : wpAny (model prog w) A (setField (.ref it) 2 .none) Q E s := by
  obtain ⟨o, ho, hc, hd⟩ := hit
  exact wpAny_setField ho hd (by simp) (h _ (Heap.SameBut.update ..))

/-- the walk in the drawn order -/
theorem walks_drawn (hh : A.handled = none) {I S T : Addr} {oS oT : Obj} {es : Array (Int × Value)} {ep : Nat} {t : SetTable} {ps : List Nat} (hSI : S ≠ I) (hTI : T ≠ I)
    (hd : oS.data = .set es ep t) (hf : t.fits es.size = true) (hdT : oT.data = .seq (ps.map fun (i : Nat) => rawInt i).toArray 0) (hlen : ps.length = es.size) (hps : ∀ p ∈ ps, p < es.size) :
    Walks prog w A I [I, S, T] [I] es.size (fun i v => ∃ p e, ps[i]? = some p ∧ es[p]? = some e ∧ v = e.2) (fun i h => SIter h I (.ref T) i S es.size ep ∧ h.get? S = some oS ∧ h.get? T = some oT) where
  sub := fun b hb => by simp at hb; simp [hb]
  frame := fun i h h' ⟨⟨o, ho, r⟩, h2, h3⟩ hk => ⟨⟨o, hk I (by simp) o ho, r⟩, hk S (by simp) _ h2, hk T (by simp) _ h3⟩
  item := fun i s Q E hi ⟨hit, hS, hT⟩ hQ => by
    refine sit_pre hit hS hd hf rfl fun E' _ => ?_
    unfold sitRest
    dsimp only
    refine wpAny_bind (wpAny_seqItems hT hdT ?_)
    dsimp only
    have hil : i < ps.length := by rw [hlen]; exact hi
    have hp : (ps.map fun (i : Nat) => rawInt i).toArray[(i : Int).toNat]? = some (.int (ps[i] : Int) 0) := by simp [hil, rawInt]
    rw [hp]
    dsimp only
    have hlt := hps ps[i] (List.getElem_mem hil)
    unfold setNextDrawn
    refine wpAny_bind (wpAny_bind (wpAny_setState_of hS hd hf ?_))
    dsimp only
    simp only [Int.toNat_natCast, bne_self_eq_false, Bool.false_eq_true, ↓reduceIte]
    rw [Array.getElem?_eq_getElem hlt]
    refine wpAny_pure ?_
    refine wpAny_bind (sit_field hit fun h' hit' hsb => ?_)
    refine wpAny_pure ⟨_, rfl, ?_⟩
    exact hQ _ h' s.toks ⟨ps[i], es[ps[i]], by simp [hil], Array.getElem?_eq_getElem hlt, rfl⟩ ⟨hit', (hsb.2 S hSI).trans hS, (hsb.2 T hTI).trans hT⟩ fun b o hb e => (hsb.2 b (fun x => hb (by simp [x]))).trans e
  done := fun s Q E ⟨hit, hS, hT⟩ hQ => by
    refine sit_pre hit hS hd hf rfl fun E' hE => ?_
    unfold sitRest
    dsimp only
    refine wpAny_bind (wpAny_seqItems hT hdT ?_)
    dsimp only
    have hp : (ps.map fun (i : Nat) => rawInt i).toArray[(es.size : Int).toNat]? = none := by simp [hlen]
    rw [hp]
    dsimp only
    refine wpAny_bind (sit_field0 hit fun h1 hit1 hsb1 => ?_)
    refine wpAny_bind (sit_field2 hit1 fun h2 hsb2 => ?_)
    refine sit_stop (by simpa using hh) fun h3 e hk hTe => hE _ _ hTe (hQ h3 s.toks fun b o hb ho => ?_)
    have hb : b ≠ I := fun x => hb (by simp [x])
    exact hk b o ((hsb2.2 b hb).trans ((hsb1.2 b hb).trans ho))
  self := fun i s Q E ⟨hit, _⟩ hQ => by
    refine wpAny_pyIter_slot hit.typeIs sit_self (wpAny_call_entry sit_self hit.typeIs sit_entry_self ?_ (sit_args_self _))
    show wpAny _ _ (ret (.ref I)) _ _ s
    exact wpAny_pure ⟨_, rfl, "set_iterator", _, hit.typeIs, sit_next.lookup, hQ⟩
end
end Mine
end
section
open PySem PySem.W PySem.Calls PyProof.Rows PySem.Spec PyProof.V
namespace Mine
open Builtin
theorem setNext_eq (a : Addr) (slot given ep : Nat) : setNext a slot given ep = (do
    let (es, epoch, t) ← setState a
    if ← setsByText then
      if epoch != ep then unsupported "set_iterator.__next__:elements-changed"
      return ((← setWalk a)[given]?).map fun e => (e.2, slot)
    if !t.plain && es.size > 1 then unsupported "set_iterator.__next__:the-table-is-plain-no-more"
    (do if !t.led && !es.isEmpty then unsupported "set:maker-not-led" : Sem Unit)
    let i := SetTable.below t.place slot
    return match es[i]?, t.place[i]? with
      | some (_, x), some j => some (x, j + 1)
      | _, _ => none) := rfl
theorem setDrawn_eq (a : Addr) : setDrawn a = (do
    let (es, _, t) ← setState a
    let byText ← setsByText
    return !byText && (!t.plain && es.size > 1)) := rfl
theorem erase_perm {α : Type} {l : List α} {i : Nat} (h : i < l.length) : (l[i] :: l.eraseIdx i).Perm l := by
  have e : l = l.take i ++ l[i] :: l.drop (i + 1) := by rw [List.getElem_cons_drop, List.take_append_drop]
  rw [List.eraseIdx_eq_take_drop_succ]
  conv => rhs; rw [e]
  exact List.perm_middle.symm
theorem pick_perm {α : Type} (next : Nat → Nat) : ∀ (fuel k : Nat) (left : List α) (out : Array α), left.length = fuel → (pickOrder.go next fuel k left out).toList.Perm (out.toList ++ left)
  | 0, k, left, out, h => by
    rw [List.length_eq_zero_iff.mp h]
    simp [pickOrder.go]
  | n + 1, k, left, out, h => by
    have hl : next k % left.length < left.length := Nat.mod_lt _ (by omega)
    unfold pickOrder.go
    rw [List.getElem?_eq_getElem hl]
    dsimp only
    refine (pick_perm next n (k + 1) _ _ (by rw [List.length_eraseIdx_of_lt hl]; omega)).trans ?_
    rw [Array.toList_push, List.append_assoc]
    refine List.Perm.append_left _ ?_
    exact erase_perm hl
theorem pickOrder_perm {α : Type} (next : Nat → Nat) (xs : Array α) : (pickOrder next xs).toList.Perm xs.toList := by
  have := pick_perm next xs.size 0 xs.toList #[] (by simp)
  simpa [pickOrder] using this
theorem below_one0 (j : Nat) : SetTable.below #[j] 0 = 0 := by simp [SetTable.below, SetTable.below.go]
theorem below_one1 (j : Nat) : SetTable.below #[j] (j + 1) = 1 := by simp [SetTable.below, SetTable.below.go]
section
variable {prog : Program} {w : World} {A : Around} {E : Value → Shared → Prop} {s : Shared}
theorem wpAny_choose {src : Source} {n : Nat} {Q : Nat → Shared → Prop} (hn : n ≠ 0) (h : ∀ i d, i < n → Q i { s with drawn := d }) : wpAny (model prog w) A (choose src n) Q E s := fun Γ p _ => by
  unfold choose
  rw [Sem.wp_choose]
  refine ⟨hn, ?_⟩
  rw [Sem.wp_pure]
  exact h _ _ (Nat.mod_lt _ (Nat.pos_of_ne_zero hn))
theorem wpAny_drawOrder {α : Type} : ∀ (n : Nat) (xs : List α) (s : Shared) {Q : List α → Shared → Prop}, xs.length = n → (∀ ys d, ys.Perm xs → Q ys { s with drawn := d }) → wpAny (model prog w) A (drawOrder n xs) Q E s
  | 0, xs, s, Q, h0, h => by
    rw [List.length_eq_zero_iff.mp h0] at h ⊢
    exact wpAny_pure (h [] s.drawn .rfl)
  | n + 1, [], s, Q, h0, h => by cases h0
  | n + 1, x :: xs, s, Q, h0, h => by
    unfold drawOrder
    refine wpAny_bind (wpAny_choose (by simp) fun i d hi => ?_)
    rw [List.getElem?_eq_getElem hi]
    dsimp only
    refine wpAny_bind (wpAny_drawOrder n _ _ (by rw [List.length_eraseIdx_of_lt hi]; omega) fun ys d' hp => wpAny_pure ?_)
    exact h _ d' ((List.Perm.cons _ hp).trans (erase_perm hi))
theorem wpAny_byText {Q : Bool → Shared → Prop} (h : Q (w.params.followText "set-order") s) : wpAny (model prog w) A setsByText Q E s := by
  unfold setsByText
  exact wpAny_bind (wpAny_askSetting (wpAny_pure h))
theorem walks_text (hh : A.handled = none) {I S : Addr} {oS : Obj} {es : Array (Int × Value)} {ep : Nat} {t : SetTable} (hSI : S ≠ I) (hbt : w.params.followText "set-order" = true)
    (hd : oS.data = .set es ep t) (hf : t.fits es.size = true) :
    Walks prog w A I [I, S] [I] es.size (fun i v => ∃ e, (pickOrder (w.params.setOrder S ep) es)[i]? = some e ∧ v = e.2) (fun i h => SIter h I (.int 0 0) i S es.size ep ∧ h.get? S = some oS) where
  sub := fun b hb => by simp at hb; simp [hb]
  frame := fun i h h' ⟨⟨o, ho, r⟩, h2⟩ hk => ⟨⟨o, hk I (by simp) o ho, r⟩, hk S (by simp) _ h2⟩
  item := fun i s Q E hi ⟨hit, hS⟩ hQ => by
    have hsz : (pickOrder (w.params.setOrder S ep) es).size = es.size := by
      rw [← Array.length_toList, (pickOrder_perm _ es).length_eq, Array.length_toList]
    have hi' : i < (pickOrder (w.params.setOrder S ep) es).size := by rw [hsz]; exact hi
    refine sit_pre hit hS hd hf rfl fun E' _ => ?_
    unfold sitRest
    dsimp only
    rw [setNext_eq]
    refine wpAny_bind (wpAny_bind (wpAny_setState_of hS hd hf ?_))
    dsimp only
    refine wpAny_bind (wpAny_byText ?_)
    rw [hbt]
    simp only [Int.toNat_natCast, bne_self_eq_false, Bool.false_eq_true, ↓reduceIte]
    unfold setWalk
    refine wpAny_bind (wpAny_bind (wpAny_setState_of hS hd hf ?_))
    dsimp only
    refine wpAny_bind (wpAny_byText ?_)
    rw [hbt]
    simp only [↓reduceIte]
    refine wpAny_bind (wpAny_askSetting (wpAny_pure ?_))
    refine wpAny_pure ?_
    rw [show (model prog w).w = w from rfl, Array.getElem?_eq_getElem hi']
    dsimp only [Option.map]
    refine wpAny_bind (sit_field0 hit fun h1 hit1 hsb1 => ?_)
    refine wpAny_bind (sit_field hit1 fun h2 hit2 hsb2 => ?_)
    refine wpAny_pure ⟨_, rfl, ?_⟩
    exact hQ _ h2 s.toks ⟨_, Array.getElem?_eq_getElem hi', rfl⟩ ⟨hit2, (hsb2.2 S hSI).trans ((hsb1.2 S hSI).trans hS)⟩ fun b o hb e => (hsb2.2 b (fun x => hb (by simp [x]))).trans ((hsb1.2 b (fun x => hb (by simp [x]))).trans e)
  done := fun s Q E ⟨hit, hS⟩ hQ => by
    have hsz : (pickOrder (w.params.setOrder S ep) es).size = es.size := by
      rw [← Array.length_toList, (pickOrder_perm _ es).length_eq, Array.length_toList]
    refine sit_pre hit hS hd hf rfl fun E' hE => ?_
    unfold sitRest
    dsimp only
    rw [setNext_eq]
    refine wpAny_bind (wpAny_bind (wpAny_setState_of hS hd hf ?_))
    dsimp only
    refine wpAny_bind (wpAny_byText ?_)
    rw [hbt]
    simp only [Int.toNat_natCast, bne_self_eq_false, Bool.false_eq_true, ↓reduceIte]
    unfold setWalk
    refine wpAny_bind (wpAny_bind (wpAny_setState_of hS hd hf ?_))
    dsimp only
    refine wpAny_bind (wpAny_byText ?_)
    rw [hbt]
    simp only [↓reduceIte]
    refine wpAny_bind (wpAny_askSetting (wpAny_pure ?_))
    refine wpAny_pure ?_
    rw [show (model prog w).w = w from rfl, Array.getElem?_eq_none (by rw [hsz]; exact Nat.le_refl _)]
    dsimp only [Option.map]
    refine wpAny_bind (sit_field2 hit fun h2 hsb2 => ?_)
    refine sit_stop (by simpa using hh) fun h3 e hk hTe => hE _ _ hTe (hQ h3 s.toks fun b o hb ho => ?_)
    have hb : b ≠ I := fun x => hb (by simp [x])
    exact hk b o ((hsb2.2 b hb).trans ho)
  self := fun i s Q E ⟨hit, _⟩ hQ => by
    refine wpAny_pyIter_slot hit.typeIs sit_self (wpAny_call_entry sit_self hit.typeIs sit_entry_self ?_ (sit_args_self _))
    show wpAny _ _ (ret (.ref I)) _ _ s
    exact wpAny_pure ⟨_, rfl, "set_iterator", _, hit.typeIs, sit_next.lookup, hQ⟩

noncomputable def slotAt (t : SetTable) (i : Nat) : Nat := if i = 0 then 0 else t.place.getD 0 0 + 1
theorem walks_one (hh : A.handled = none) {I S : Addr} {oS : Obj} {es : Array (Int × Value)} {ep : Nat} {t : SetTable} (hSI : S ≠ I) (hbt : w.params.followText "set-order" = false) (hled : t.led = true) (h1 : es.size ≤ 1)
    (hd : oS.data = .set es ep t) (hf : t.fits es.size = true) :
    Walks prog w A I [I, S] [I] es.size (fun i v => ∃ e, es[i]? = some e ∧ v = e.2) (fun i h => SIter h I (.int (slotAt t i) 0) i S es.size ep ∧ h.get? S = some oS) where
  sub := fun b hb => by simp at hb; simp [hb]
  frame := fun i h h' ⟨⟨o, ho, r⟩, h2⟩ hk => ⟨⟨o, hk I (by simp) o ho, r⟩, hk S (by simp) _ h2⟩
  item := fun i s Q E hi ⟨hit, hS⟩ hQ => by
    have hi0 : i = 0 := by omega
    subst hi0
    have hes : es.size = 1 := by omega
    have hps : t.place.size = 1 := by
      have := hf
      simp only [SetTable.fits, Bool.and_eq_true, beq_iff_eq] at this
      omega
    obtain ⟨j, hj⟩ : ∃ j, t.place = #[j] := Array.size_eq_one_iff.mp hps
    refine sit_pre hit hS hd hf rfl fun E' _ => ?_
    unfold sitRest
    dsimp only
    rw [setNext_eq]
    refine wpAny_bind (wpAny_bind (wpAny_setState_of hS hd hf ?_))
    dsimp only
    refine wpAny_bind (wpAny_byText ?_)
    rw [hbt]
    simp only [Bool.false_eq_true, ↓reduceIte]
    have hc : (!t.plain && decide (es.size > 1)) = false := by simp [hes]
    rw [hc, hled]
    simp only [Bool.false_eq_true, ↓reduceIte, Bool.not_true, Bool.false_and]
    refine wpAny_bind (wpAny_pure ?_)
    refine wpAny_pure ?_
    have e0 : ((slotAt t 0 : Nat) : Int).toNat = 0 := rfl
    rw [e0, hj, below_one0, Array.getElem?_eq_getElem hi, show (#[j] : Array Nat)[0]? = some j from rfl]
    dsimp only
    refine wpAny_bind (sit_field0 hit fun h1 hit1 hsb1 => ?_)
    refine wpAny_bind (sit_field hit1 fun h2 hit2 hsb2 => ?_)
    refine wpAny_pure ⟨_, rfl, ?_⟩
    refine hQ _ h2 s.toks ⟨_, Array.getElem?_eq_getElem hi, rfl⟩ ⟨?_, (hsb2.2 S hSI).trans ((hsb1.2 S hSI).trans hS)⟩ fun b o hb e => (hsb2.2 b (fun x => hb (by simp [x]))).trans ((hsb1.2 b (fun x => hb (by simp [x]))).trans e)
    have e1 : slotAt t (0 + 1) = j + 1 := by unfold slotAt; rw [hj]; rfl
    rw [e1]
    exact hit2
  done := fun s Q E ⟨hit, hS⟩ hQ => by
    refine sit_pre hit hS hd hf rfl fun E' hE => ?_
    unfold sitRest
    dsimp only
    rw [setNext_eq]
    refine wpAny_bind (wpAny_bind (wpAny_setState_of hS hd hf ?_))
    dsimp only
    refine wpAny_bind (wpAny_byText ?_)
    rw [hbt]
    simp only [Bool.false_eq_true, ↓reduceIte]
    have hc : (!t.plain && decide (es.size > 1)) = false := by simp; intro _; omega
    rw [hc, hled]
    simp only [Bool.false_eq_true, ↓reduceIte, Bool.not_true, Bool.false_and]
    refine wpAny_bind (wpAny_pure ?_)
    refine wpAny_pure ?_
    have hno : es[SetTable.below t.place ((slotAt t es.size : Nat) : Int).toNat]? = none := by
      by_cases hz : es.size = 0
      · rw [Array.getElem?_eq_none (by omega)]
      · have hes : es.size = 1 := by omega
        have hps : t.place.size = 1 := by
          have := hf
          simp only [SetTable.fits, Bool.and_eq_true, beq_iff_eq] at this
          omega
        obtain ⟨j, hj⟩ : ∃ j, t.place = #[j] := Array.size_eq_one_iff.mp hps
        have e1 : ((slotAt t es.size : Nat) : Int).toNat = j + 1 := by rw [hes]; unfold slotAt; rw [hj]; rfl
        rw [e1, hj, below_one1, Array.getElem?_eq_none (by omega)]
    rw [hno]
    dsimp only
    refine wpAny_bind (sit_field2 hit fun h2 hsb2 => ?_)
    refine sit_stop (by simpa using hh) fun h3 e hk hTe => hE _ _ hTe (hQ h3 s.toks fun b o hb ho => ?_)
    have hb : b ≠ I := fun x => hb (by simp [x])
    exact hk b o ((hsb2.2 b hb).trans ho)
  self := fun i s Q E ⟨hit, _⟩ hQ => by
    refine wpAny_pyIter_slot hit.typeIs sit_self (wpAny_call_entry sit_self hit.typeIs sit_entry_self ?_ (sit_args_self _))
    show wpAny _ _ (ret (.ref I)) _ _ s
    exact wpAny_pure ⟨_, rfl, "set_iterator", _, hit.typeIs, sit_next.lookup, hQ⟩
end
end Mine
end
section
open PySem PySem.W PySem.Calls PyProof.Rows PySem.Spec PyProof.V
namespace Mine
open Builtin
theorem walks_weaken {prog : Program} {w : World} {A : Around} {I : Addr} {fp wr wr' : List Addr} {n n' : Nat} {P P' : Nat → Value → Prop} {St : Nat → Heap → Prop}
    (W : Walks prog w A I fp wr n P St) (hn : n' = n) (h1 : ∀ b ∈ wr', b ∈ fp) (h2 : ∀ b ∈ wr, b ∈ wr') (hP : ∀ i v, P i v → P' i v) : Walks prog w A I fp wr' n' P' St := by
  subst hn
  exact {
    sub := h1
    frame := W.frame
    item := fun i s Q E hi st hQ => W.item i s Q E hi st fun v h' tk p st' hk => hQ v h' tk (hP i v p) st' fun b o hb e => hk b o (fun x => hb (h2 b x)) e
    done := fun s Q E st hQ => W.done s Q E st fun h' tk hk => hQ h' tk fun b o hb e => hk b o (fun x => hb (h2 b x)) e
    self := W.self }
section
variable {prog : Program} {w : World} {A : Around} {s : Shared} {E : Value → Shared → Prop} {h₀ : Heap} {L : Addr} {m : Str → Option Value} {led : Led}
theorem elems_is {es : Array (Int × Value)} {e : Int × Value} {i : Nat} (hel : ElemsOf (bytesKind prog w) es.toList) (h : es[i]? = some e) : (bytesKind prog w).is ((es.toList.map fun e => keyOf e.2).getD i []) e.2 = true := by
  have hm : e ∈ es.toList := by rw [Array.mem_toList_iff]; exact Array.mem_of_getElem? h
  obtain ⟨⟨k', hk, _⟩, _⟩ := hel e hm
  have e1 : (es.toList.map fun e => keyOf e.2).getD i [] = keyOf e.2 := by
    rw [List.getD_eq_getElem?_getD, List.getElem?_map, Array.getElem?_toList, h]
    rfl
  rw [e1, is_key hk]
  exact hk
theorem iters_set {S : Addr} {oS : Obj} {xs : List Oc} {Q : Value → Shared → Prop} (hh : A.handled = none) (F : Fr h₀ L s.heap m) (N : News h₀ L s.heap led) (hS : s.heap.get? S = some oS) (hB : BSet prog w xs oS) (hSL : S ≠ L) (hlen : xs.length ≤ 100)
    (h : ∀ I fp wr St (ys : List Oc) h tk d, ys.Perm xs → Iters prog w A h₀ L m led [S] xs.length (fun i v => (bytesKind prog w).is (ys.getD i []) v = true) I fp wr St { s with heap := h, toks := tk, drawn := d } → Q (.ref I) { s with heap := h, toks := tk, drawn := d }) :
    wpAny (model prog w) A (pyIter (.ref S)) Q E s := by
  obtain ⟨es, ep, t, hex, hd, hel, hp, hb, hf, hled, hpl⟩ := hB
  have hn : es.size = xs.length := by rw [← hp.length_eq, List.length_map, Array.length_toList]
  have hSlt : S < s.heap.objs.size := Heap.lt_size hS
  have hT : s.TypeIs (.ref S) "set" := ⟨_, hS, hex.1⟩
  refine wpAny_pyIter_slot hT sit_iter (wpAny_call_entry sit_iter hT sit_entry_iter ?_ (sit_args_iter _))
  show wpAny _ _ (Builtin.Frozenset.sizeOf S >>= _) _ _ s
  unfold Builtin.Frozenset.sizeOf
  refine wpAny_bind (wpAny_bind (wpAny_setEntries_of hS hd hf (wpAny_pure ?_)))
  rw [setDrawn_eq]
  refine wpAny_bind (wpAny_bind (wpAny_setState_of hS hd hf ?_))
  dsimp only
  refine wpAny_bind (wpAny_byText (wpAny_pure ?_))
  have one : (!w.params.followText "set-order" && (!t.plain && decide (es.size > 1))) = false → wpAny (model prog w) A.in1 (do ret (← newFields "set_iterator" [rawInt 0, rawInt 0, .ref S, rawInt es.size, rawInt (← setEpoch S)])) (fun r s' => ∃ v, r = PySem.Fin.done (.ret v) ∧ ∃ T' r, s'.TypeIs v T' ∧ typeLookup (.type T') "__next__" = pure (some r) ∧ Q v s') E s := by
    intro hc
    refine wpAny_bind (wpAny_setEpoch_of hS hd hf ?_)
    refine wpAny_bind (wpAny_newObj_type (wpAny_pure ⟨_, rfl, "set_iterator", _, ⟨_, Heap.get?_push_size _ rfl, rfl⟩, sit_next.lookup, ?_⟩))
    have hne : S ≠ s.heap.objs.size := Nat.ne_of_lt hSlt
    cases hbt : w.params.followText "set-order" with
    | true =>
      have W := walks_text (prog := prog) (A := A) hh (I := s.heap.objs.size) hne hbt hd hf
      refine h _ _ _ _ ((pickOrder (w.params.setOrder S ep) es).toList.map fun e => keyOf e.2) _ _ _ (((pickOrder_perm _ es).map _).trans hp) (iters_new _ F N (walks_weaken W hn.symm (fun b hb => by simp at hb; simp [hb]) (fun b hb => hb) ?_) ⟨⟨_, Heap.get?_push_size _ rfl, rfl, rfl⟩, Heap.get?_push_of_some _ hS⟩ (fun b hb => by simpa using hb) (fun b hb => by rw [List.mem_singleton.mp hb]; exact ⟨hSlt, hSL⟩) fun i h st => let ⟨⟨o, ho, _⟩, _⟩ := st; ⟨o, ho⟩)
      rintro i v ⟨e, he, rfl⟩
      exact elems_is (hel.perm (pickOrder_perm _ es)) he
    | false =>
      rw [hbt] at hc hled
      have h1 : es.size ≤ 1 := by
        by_cases hz : es.size ≤ 1
        · exact hz
        · exfalso
          have hpf : t.plain = false := by
            cases e : t.plain with
            | false => rfl
            | true => have := hpl e; omega
          rw [hpf] at hc
          simp at hc
          omega
      have W := walks_one (prog := prog) (A := A) hh (I := s.heap.objs.size) hne hbt hled h1 hd hf
      refine h _ _ _ _ (es.toList.map fun e => keyOf e.2) _ _ _ hp (iters_new _ F N (walks_weaken W hn.symm (fun b hb => by simp at hb; simp [hb]) (fun b hb => hb) ?_) ⟨⟨_, Heap.get?_push_size _ rfl, rfl, rfl⟩, Heap.get?_push_of_some _ hS⟩ (fun b hb => by simpa using hb) (fun b hb => by rw [List.mem_singleton.mp hb]; exact ⟨hSlt, hSL⟩) fun i h st => let ⟨⟨o, ho, _⟩, _⟩ := st; ⟨o, ho⟩)
      rintro i v ⟨e, he, rfl⟩
      exact elems_is hel he
  cases hc : (!w.params.followText "set-order" && (!t.plain && decide (es.size > 1))) with
  | false =>
    simp only [Bool.false_eq_true, ↓reduceIte]
    exact wpAny_bind (wpAny_pure (one hc))
  | true =>
    simp only [↓reduceIte]
    refine wpAny_bind (wpAny_drawOrder es.size (List.range es.size) s List.length_range fun ps d hps => ?_)
    have hpl' : ps.length = es.size := by rw [hps.length_eq]; simp
    have hpz : ∀ p ∈ ps, p < es.size := fun p hp' => List.mem_range.mp (hps.mem_iff.mp hp')
    refine wpAny_bind (wpAny_newTuple ?_ (by rw [List.length_map, hpl', hn]; rw [sizeLine_eq]; omega))
    have hS1 : (s.heap.push { cls := .type "tuple", data := .seq (ps.map fun (i : Nat) => rawInt i).toArray }).get? S = some oS := Heap.get?_push_of_some _ hS
    refine wpAny_bind (wpAny_setEpoch_of hS1 hd hf ?_)
    refine wpAny_bind (wpAny_newObj_type (wpAny_pure ⟨_, rfl, "set_iterator", _, ⟨_, Heap.get?_push_size _ rfl, rfl⟩, sit_next.lookup, ?_⟩))
    generalize hoT : ({ cls := .type "tuple", data := .seq (ps.map fun (i : Nat) => rawInt i).toArray } : Obj) = oT at hS1 ⊢
    have hdT : oT.data = .seq (ps.map fun (i : Nat) => rawInt i).toArray 0 := by rw [← hoT]
    have hTs : (s.heap.push oT).objs.size = s.heap.objs.size + 1 := Heap.size_push ..
    have hfr : oT.isFreed = false := by rw [← hoT]; rfl
    have hT0 : (s.heap.push oT).get? s.heap.objs.size = some oT := Heap.get?_push_size _ hfr
    have hSI : S ≠ (s.heap.push oT).objs.size := by rw [hTs]; exact Nat.ne_of_lt (Nat.lt_succ_of_lt hSlt)
    have hTI : s.heap.objs.size ≠ (s.heap.push oT).objs.size := by rw [hTs]; exact Nat.ne_of_lt (Nat.lt_succ_self _)
    have W := walks_drawn (prog := prog) (w := w) (A := A) hh (I := (s.heap.push oT).objs.size) (T := s.heap.objs.size) hSI hTI hd hf hdT hpl' hpz
    have F1 := F.push oT
    have hLlt : L < s.heap.objs.size := F.ns.lt
    refine h _ [(s.heap.push oT).objs.size, S, s.heap.objs.size] [(s.heap.push oT).objs.size, s.heap.objs.size] (fun i h => SIter h (s.heap.push oT).objs.size (.ref s.heap.objs.size) i S es.size ep ∧ h.get? S = some oS ∧ h.get? s.heap.objs.size = some oT) (ps.map fun p => (es.toList.map fun e => keyOf e.2).getD p []) _ _ d ?_ ?_
    · refine ((hps.map _).trans ?_).trans hp
      have : (List.range es.size).map (fun p => (es.toList.map fun e => keyOf e.2).getD p []) = es.toList.map fun e => keyOf e.2 := by
        refine List.ext_getElem (by simp) fun i h1 h2 => ?_
        simp at h1 h2
        simp [List.getD_eq_getElem?_getD, h1]
      rw [this]
    · refine ⟨walks_weaken W hn.symm (fun b hb => by simp at hb ⊢; rcases hb with h | h <;> simp [h]) (fun b hb => by simp at hb ⊢; simp [hb]) ?_, ⟨⟨_, Heap.get?_push_size _ rfl, rfl, rfl⟩, Heap.get?_push_of_some _ hS1, Heap.get?_push_of_some _ hT0⟩, ?_, ?_, ?_, ?_, ?_, F1.push _, ?_, ?_, ?_⟩
      · rintro i v ⟨p, e, hip, hpe, rfl⟩
        have := elems_is hel hpe
        rw [List.getD_eq_getElem?_getD, List.getElem?_map, hip]
        exact this
      · intro b hb
        show b < ((s.heap.push oT).push _).objs.size
        rw [Heap.size_push, hTs]
        simp only [List.mem_cons, List.not_mem_nil, or_false] at hb
        rw [hTs] at hb
        rcases hb with rfl | rfl | rfl
        · exact Nat.lt_succ_self _
        · exact Nat.lt_succ_of_lt (Nat.lt_succ_of_lt hSlt)
        · exact Nat.lt_succ_of_lt (Nat.lt_succ_self _)
      · intro b hb
        simp only [List.mem_cons, List.not_mem_nil, or_false] at hb ⊢
        rcases hb with h | h | h
        · exact .inl (.inl h)
        · exact .inr h
        · exact .inl (.inr h)
      · intro b hb h
        simp only [List.mem_cons, List.not_mem_nil, or_false] at hb h
        subst h
        rcases hb with h | h
        · exact hSI h
        · exact Nat.ne_of_lt hSlt h
      · intro h
        simp only [List.mem_cons, List.not_mem_nil, or_false] at h
        rw [hTs] at h
        rcases h with h | h | h
        · exact Nat.ne_of_lt (Nat.lt_succ_of_lt hLlt) h
        · exact hSL h.symm
        · exact Nat.ne_of_lt hLlt h
      · intro b hb
        simp only [List.mem_cons, List.not_mem_nil, or_false] at hb
        rcases hb with rfl | rfl
        · exact next_is_new F1
        · exact next_is_new F
      · exact fun p hp => ⟨Heap.get?_push_of_some _ (Heap.get?_push_of_some _ (N p hp).1), (N p hp).2⟩
      · intro q hq h
        have hlt := Heap.lt_size (N q hq).1
        simp only [List.mem_cons, List.not_mem_nil, or_false] at h
        rw [hTs] at h
        rcases h with h | h
        · exact Nat.ne_of_lt (Nat.lt_succ_of_lt hlt) h
        · exact Nat.ne_of_lt hlt h
      · rintro i h' ⟨⟨o, ho, _⟩, _, h3⟩ b hb
        simp only [List.mem_cons, List.not_mem_nil, or_false] at hb
        rcases hb with rfl | rfl
        · exact ⟨o, ho⟩
        · exact ⟨_, h3⟩
end
end Mine
end
section
open PySem PySem.W PySem.Calls PyProof.Rows PySem.Spec PyProof.V
namespace Mine
theorem tag_ok : ∀ x ∈ tagL, PyData.strOk x = true := by decide +kernel
theorem st_canLayAll0 : ∀ ns : List Str, (∀ x ∈ ns, PyData.strOk x = true) → PyData.canLayAll0 (ns.map PyData.str) = true
  | [], _ => rfl
  | a :: r, h => by simp [PyData.canLayAll0, PyData.canLay0, st_canLayAll0 r fun x hx => h x (.tail _ hx), h a (.head _)]
theorem st_depthAll : ∀ ns : List Str, PyData.depthAll (ns.map PyData.str) = 0
  | [] => rfl
  | _ :: r => by simp [PyData.depthAll, PyData.depth, st_depthAll r]
theorem st_shaped {ns : List Str} (h : ns.Sublist tagL) : SeqAt.shaped (.list (ns.map PyData.str)) = true := by
  simp [SeqAt.shaped, PyData.canLay0, PyData.depth, st_canLayAll0 ns fun x hx => tag_ok x (h.subset hx), st_depthAll]
theorem st_sameAll : ∀ ns ms : List Str, PySem.Spec.sameAll (ns.map PyData.str) (ms.map PyData.str) = decide (ns = ms)
  | [], [] => by simp [PySem.Spec.sameAll]
  | [], _ :: _ => by simp [PySem.Spec.sameAll]
  | _ :: _, [] => by simp [PySem.Spec.sameAll]
  | a :: r, b :: t => by
    simp only [List.map_cons, PySem.Spec.sameAll, PySem.Spec.same, st_sameAll r t]
    by_cases h : a = b <;> by_cases h' : r = t <;> simp [h, h']
theorem st_same (ns ms : List Str) : PySem.Spec.same (.list (ns.map PyData.str)) (.list (ms.map PyData.str)) = decide (ns = ms) := by
  simp only [PySem.Spec.same]; exact st_sameAll ns ms
theorem st_carried : ∀ {vs : List Value} {ns : List Str}, StrsAre vs ns → CarriedAll vs (ns.map PyData.str)
  | _, _, .nil => .nil
  | _, _, .cons _ t r => .cons (.str _ t) (st_carried r)
section
variable {prog : Program} {w : World} {A : Around} {E : Value → Shared → Prop} {s : Shared} {a b : Addr} {xs ys : List Value} {ns ms : List Str} {Q : Value → Shared → Prop}
/-- two lists of texts: != -/
theorem ne_strs (ha : s.heap.IsList a xs.toArray) (hb : s.heap.IsList b ys.toArray) (hi : StrsAre xs ns) (hj : StrsAre ys ms) (h1 : ns.Sublist tagL) (h2 : ms.Sublist tagL) (hu : A.units + 64 < cLine) (h : Q (.bool (!decide (ns = ms))) s) :
    wpAny (model prog w) A (compareOp .NotEq (.ref a) (.ref b)) Q E s :=
  ne_dataH_same (reads_newData ha (st_carried hi)) (reads_newData hb (st_carried hj)) (st_shaped h1) (st_shaped h2) hu (SeqAt.noMix_of_shape (.list .str) rfl _ _ (list_map_has fun _ => rfl) (list_map_has fun _ => rfl)) (by rw [st_same]; exact h)
theorem ne_strsF (ha : s.heap.IsList a xs.toArray) (hb : s.heap.IsList b ys.toArray) (hi : StrsAre xs ns) (hj : StrsAre ys ms) (h1 : ns.Sublist tagL) (he : ns = ms) (hu : A.units + 64 < cLine) (h : Q (.bool false) s) :
    wpAny (model prog w) A (compareOp .NotEq (.ref a) (.ref b)) Q E s := ne_strs ha hb hi hj h1 (he ▸ h1) hu (by rw [decide_eq_true he]; exact h)
end
section
variable {prog : Program} {w : World} {A : Around} {E : Value → Shared → Prop} {s : Shared} {h₀ : Heap} {L a b : Addr} {oa ob : Obj} {news : Led} {ka : List (Str × Value)} {Q : Value → Shared → Prop}
/-- a dict != {} -/
theorem ne_empty (N : News h₀ L s.heap news) (pa : (a, oa) ∈ news) (pb : (b, ob) ∈ news) (da : oa.IsDictOf (strKind prog w) ka) (db : ob.IsDictOf (strKind prog w) []) (la : (a == sysModules) = false) (lb : (b == sysModules) = false) (hu : A.units < cLine)
    (h : Q (.bool (!decide (ka = []))) s) : wpAny (model prog w) A (compareOp .NotEq (.ref a) (.ref b)) Q E s := by
  refine keq_ne (r := true) la lb (Heap.dictOf_iff.mpr ⟨oa, (N _ pa).1, da⟩) (Heap.dictOf_iff.mpr ⟨ob, (N _ pb).1, db⟩) hu (fun e => ?_) ?_
  · rw [List.length_eq_zero_iff.mp e]
    first | exact KeqHits.nil | exact trivial | exact ⟨⟩ | rfl
  · have e : (ka.length == ([] : List (Str × Value)).length && true) = decide (ka = []) := by cases ka <;> simp
    rw [e]
    exact h
end
end Mine
end
section
open PySem PySem.W PySem.Calls PyProof.Rows PySem.Spec PyProof.V
namespace Mine
/-- how often b stands in l -/
noncomputable def cnt (l : List By) (b : By) : Nat := (l.filter fun x => decide (x = b)).length
theorem cnt_nil (b : By) : cnt [] b = 0 := rfl
theorem cnt_snoc (l : List By) (a b : By) : cnt (l ++ [a]) b = cnt l b + if a = b then 1 else 0 := by
  unfold cnt
  rw [List.filter_append, List.length_append]
  by_cases h : a = b <;> simp [h]
theorem cnt_range (l : List By) (b : By) : ((List.range l.length).filter fun i => decide (l[i]? = some b)).length = cnt l b := by
  induction l using List.snocInd with
  | h0 => rfl
  | h1 l a ih =>
    rw [cnt_snoc, ← ih, List.length_append, List.length_singleton, List.range_succ, List.filter_append, List.length_append]
    congr 1
    · congr 1
      refine List.filter_congr fun i hi => ?_
      rw [List.getElem?_append_left (List.mem_range.mp hi)]
    · by_cases h : a = b <;> simp [h]
theorem part_len {α : Type} (p q : α → Bool) (r : List α) : (r.filter fun i => p i && !q i).length + (r.filter fun i => p i && q i).length = (r.filter p).length := by
  induction r with
  | nil => rfl
  | cons a r ih =>
    simp only [List.filter_cons]
    cases hp : p a <;> cases hq : q a <;> simp <;> omega
theorem free_len {parts : List By} {taken : List Nat} (b : By) (hn : taken.Nodup) (hl : ∀ i ∈ taken, i < parts.length) :
    (freeL parts taken b).length + (taken.filter fun i => decide (parts[i]? = some b)).length = cnt parts b := by
  rw [← cnt_range, ← part_len (fun i => decide (parts[i]? = some b)) (fun i => taken.contains i) (List.range parts.length)]
  congr 1
  refine List.Perm.length_eq ?_
  refine (List.perm_ext_iff_of_nodup (List.Pairwise.filter _ hn) (List.Pairwise.filter _ List.nodup_range)).mpr fun i => ?_
  simp only [List.mem_filter, List.mem_range, Bool.and_eq_true, List.contains_eq_mem, decide_eq_true_eq]
  constructor
  · rintro ⟨h1, h2⟩
    exact ⟨hl i h1, h2, h1⟩
  · rintro ⟨_, h2, h1⟩
    exact ⟨h1, h2⟩
structure FInv (parts bs : List By) (st : List By × List Nat) : Prop where
  nodup : st.2.Nodup
  lt : ∀ i ∈ st.2, i < st.1.length
  tk : ∀ b, (st.2.filter fun i => decide (st.1[i]? = some b)).length = cnt bs b
  cn : ∀ b, cnt st.1 b = max (cnt parts b) (cnt bs b)
theorem nodup_snoc {l : List Nat} {i : Nat} (h : l.Nodup) (hi : i ∉ l) : (l ++ [i]).Nodup := by
  rw [List.nodup_append]
  refine ⟨h, by simp, fun a ha b hb => ?_⟩
  rw [List.mem_singleton.mp hb]
  exact fun e => hi (e ▸ ha)
theorem FInv.step {parts bs : List By} {st : List By × List Nat} (I : FInv parts bs st) (b : By) : FInv parts (bs ++ [b]) (tstep st b) := by
  have hf := free_len b I.nodup I.lt
  rw [I.tk] at hf
  unfold tstep
  cases hfl : freeL st.1 st.2 b with
  | nil =>
    rw [hfl] at hf
    simp only [List.length_nil, Nat.zero_add] at hf
    dsimp only
    refine ⟨nodup_snoc I.nodup fun h => Nat.lt_irrefl _ (I.lt _ h), fun i hi => ?_, fun c => ?_, fun c => ?_⟩
    · simp only [List.length_append, List.length_singleton]
      rcases List.mem_append.mp hi with h | h
      · exact Nat.lt_succ_of_lt (I.lt i h)
      · rw [List.mem_singleton.mp h]; exact Nat.lt_succ_self _
    · rw [cnt_snoc, ← I.tk c, List.filter_append, List.length_append]
      congr 1
      · congr 1
        refine List.filter_congr fun i hi => ?_
        rw [List.getElem?_append_left (I.lt i hi)]
      · by_cases h : b = c <;> simp [h]
    · have h1 := I.cn c
      rw [cnt_snoc, cnt_snoc]
      by_cases h : b = c
      · subst h
        simp only [if_true]
        omega
      · simp only [if_neg h, Nat.add_zero]
        exact h1
  | cons i r =>
    have hi : i ∈ freeL st.1 st.2 b := by rw [hfl]; exact .head _
    obtain ⟨h1, h2, h3⟩ := freeL_lt hi
    rw [hfl] at hf
    simp only [List.length_cons] at hf
    dsimp only
    refine ⟨nodup_snoc I.nodup h3, fun j hj => ?_, fun c => ?_, fun c => ?_⟩
    · rcases List.mem_append.mp hj with h | h
      · exact I.lt j h
      · rw [List.mem_singleton.mp h]; exact h1
    · rw [cnt_snoc, ← I.tk c, List.filter_append, List.length_append]
      congr 1
      by_cases h : b = c
      · subst h; simp [h2]
      · have : ¬ (some b = some c) := fun e => h (Option.some.inj e)
        simp [h2, h]
    · have h4 := I.cn c
      rw [cnt_snoc]
      by_cases h : b = c
      · subst h
        simp only [if_true]
        omega
      · simp only [if_neg h, Nat.add_zero]
        exact h4
theorem fstep_inv (parts bs : List By) : FInv parts bs (fstep parts bs) := by
  induction bs using List.snocInd with
  | h0 => exact ⟨List.nodup_nil, (fun i hi => nomatch hi), fun b => rfl, fun b => by rw [cnt_nil]; exact (Nat.max_zero _).symm⟩
  | h1 l a ih => rw [fstep_snoc]; exact ih.step a
/-- how often the font that has b most often has it -/
noncomputable def mostOf (Gs : List Font) (b : By) : Nat := Gs.foldl (fun n G => max n (cnt (G.map (·.2)) b)) 0
theorem allOf_cnt (b0 : Int) (Gs : List Font) (b : By) : cnt (allOf b0 Gs).1 b = mostOf Gs b := by
  induction Gs using List.snocInd with
  | h0 => rfl
  | h1 l G ih =>
    rw [allOf_snoc]
    dsimp only
    rw [(fstep_inv _ _).cn b, ih]
    unfold mostOf
    rw [List.foldl_append]
    rfl
end Mine
end
section
open PySem PySem.W PySem.Calls PyProof.Rows PySem.Spec PyProof.V
namespace Mine
theorem cat_sizes (bs : List By) : (cat bs).size = (bs.map Array.size).sum := by
  have key : ∀ (r : List By) (a : By), (r.foldl (· ++ ·) a).size = a.size + (r.map Array.size).sum := by
    intro r
    induction r with
    | nil => intro a; simp
    | cons b r ih => intro a; rw [List.foldl_cons, ih, Array.size_append, List.map_cons, List.sum_cons]; omega
  have := key bs #[]
  simpa [cat] using this
theorem cnt_pos {l : List By} {b : By} : 0 < cnt l b ↔ b ∈ l := by
  unfold cnt
  rw [List.length_pos_iff_exists_mem]
  constructor
  · rintro ⟨a, ha⟩
    obtain ⟨h1, h2⟩ := List.mem_filter.mp ha
    rw [← of_decide_eq_true h2]
    exact h1
  · intro h
    exact ⟨b, List.mem_filter.mpr ⟨h, decide_eq_true rfl⟩⟩
theorem mostOf_pos {Gs : List Font} {b : By} (h : 0 < mostOf Gs b) : ∃ G ∈ Gs, b ∈ G.map (·.2) := by
  induction Gs using List.snocInd with
  | h0 => exact absurd h (Nat.lt_irrefl _)
  | h1 l G ih =>
    unfold mostOf at h
    rw [List.foldl_append] at h
    have h' : 0 < max (mostOf l b) (cnt (G.map (·.2)) b) := h
    by_cases hG : 0 < cnt (G.map (·.2)) b
    · exact ⟨G, by simp, cnt_pos.mp hG⟩
    · obtain ⟨G', hm, hb⟩ := ih (by omega)
      exact ⟨G', List.mem_append_left _ hm, hb⟩
theorem sum_bump {f g : By → Nat} {a : By} : ∀ {ys : List By}, ys.Nodup → a ∈ ys → (ys.map fun y => f y * (g y + if a = y then 1 else 0)).sum = (ys.map fun y => f y * g y).sum + f a
  | [], _, h => nomatch h
  | y :: ys, hn, h => by
    obtain ⟨hy, hn'⟩ := List.nodup_cons.mp hn
    rw [List.map_cons, List.sum_cons, List.map_cons, List.sum_cons]
    by_cases e : a = y
    · subst e
      have : (ys.map fun y => f y * (g y + if a = y then 1 else 0)) = ys.map fun y => f y * g y := List.map_congr_left fun z hz => by
        have : ¬ a = z := fun e => hy (e ▸ hz)
        simp [this]
      rw [this]
      simp only [if_true, Nat.mul_add, Nat.mul_one]
      omega
    · have hm : a ∈ ys := by
        rcases List.mem_cons.mp h with h | h
        · exact absurd h e
        · exact h
      rw [sum_bump hn' hm]
      simp only [if_neg e, Nat.add_zero]
      omega
theorem sum_cnt (f : By → Nat) {ys : List By} (hn : ys.Nodup) {l : List By} (hl : ∀ b ∈ l, b ∈ ys) : (l.map f).sum = (ys.map fun y => f y * cnt l y).sum := by
  induction l using List.snocInd with
  | h0 =>
    have : (ys.map fun y => f y * cnt [] y) = ys.map fun _ => 0 := List.map_congr_left fun y _ => by rw [cnt_nil, Nat.mul_zero]
    rw [this]
    clear this hn hl
    induction ys with
    | nil => rfl
    | cons y ys ih => rw [List.map_cons, List.sum_cons, ← ih]; rfl
  | h1 l a ih =>
    have e : (ys.map fun y => f y * cnt (l ++ [a]) y) = ys.map fun y => f y * (cnt l y + if a = y then 1 else 0) := List.map_congr_left fun y _ => by rw [cnt_snoc]
    rw [e, sum_bump hn (hl a (by simp)), ← ih fun b hb => hl b (List.mem_append_left _ hb)]
    simp
/-- the size of what shared_spots gives -/
theorem body_size (Gs : List Font) {ys : List By} (hn : ys.Nodup) (hy : ∀ G ∈ Gs, ∀ b ∈ G.map (·.2), b ∈ ys) : (bodyOf Gs).size = (ys.map fun y => (fours y).size * mostOf Gs y).sum := by
  unfold bodyOf
  rw [cat_sizes, List.map_map]
  refine (sum_cnt (fun b => (fours b).size) hn fun b hb => ?_).trans ?_
  · have h1 := cnt_pos.mpr hb
    rw [allOf_cnt] at h1
    obtain ⟨G, hG, hb'⟩ := mostOf_pos h1
    exact hy G hG b hb'
  · congr 1
    exact List.map_congr_left fun y _ => by rw [allOf_cnt]
end Mine
end
section
open PySem PySem.W PySem.Calls PyProof.Rows PySem.Spec PyProof.V
namespace Mine
section
variable {prog : Program} {w : World} {A : Around} {s : Shared} {E : Value → Shared → Prop} {env : Env} {h₀ : Heap}
/-- a comprehension's own scope, that has a cell -/
theorem newEnv_cellC {M : Model} {scope : Scope} {globals : Addr} {cl : List (Str × Addr)} {qual : Str} {Q : Env → Shared → Prop} {hc : Heap} {cs : List (Str × Addr)}
    (hcs : cellsFrom (s.heap.objs.size + 1) scope.names cl = cs) (hpc : pushCells (s.heap.push { cls := .type "dict", data := .dict #[] }) scope.names = hc)
    (hQ : Q (newEnv scope s.heap.objs.size globals cs qual none .none (some env) builtinsNs) { s with heap := hc }) :
    wpAny M A (newFunctionEnv scope globals cl [] qual none .none (some env)) Q E s := by
  subst hcs hpc
  simp only [newFunctionEnv, Option.isSome_some, if_true]
  refine wpAny_bind (wpAny_alloc ?_)
  refine wpAny_bind (wpAny_layCells _ (fun name kind cells => by cases hkc : kind == NameKind.cell <;> simp [hkc]) _ _ _ _ ?_)
  rw [show ({ s with heap := s.heap.push { cls := .type "dict", data := .dict #[] } } : Shared).heap.objs.size = s.heap.objs.size + 1 from Heap.size_push ..]
  refine wpAny_bind ?_
  rw [List.forIn_nil]
  exact wpAny_pure (wpAny_pure hQ)
theorem compLoop_JC {R : Result → Shared → Prop} {elt iter : Expr} {x : Str} {px : Pos} {ifs : List Expr} {scope : Scope} {pos : Pos} {I D C c : Addr} {fp wr src : List Addr} {n : Nat} {P : Nat → Value → Prop} {St : Nat → Heap → Prop}
    {cenv : Env} {L : Addr} {m : Str → Option Value} {led : Led} (W : Walks prog w A I fp wr n P St)
    (hC : cenv.locals = C) (hk : cenv.scope.kind = .function) (hx : cenv.kindOf x = some .cell) (hc : cenv.cells.lookup x = some c)
    (hC0 : h₀.get? C = none) (hCL : C ≠ L) (hD0 : h₀.get? D = none) (hDL : D ≠ L) (hDC : D ≠ C) (hDf : D ∉ fp) (hCf : C ∉ fp) (hLf : L ∉ fp) (hwr : ∀ b ∈ wr, h₀.get? b = none)
    (hc0 : h₀.get? c = none) (hcL : c ≠ L) (hcD : D ≠ c) (hcC : C ≠ c) (hcf : c ∉ fp) (hcs : c ∉ src)
    (hfs : ∀ b ∈ fp, b ∈ wr ∨ b ∈ src) (hws : ∀ b ∈ wr, b ∉ src) (hCs : C ∉ src) (hDs : D ∉ src) (hlive : ∀ i h, St i h → ∀ b ∈ wr, ∃ o, h.get? b = some o)
    (hst : St 0 s.heap) (hacc : s.heap.PlainList D #[]) (hn : s.heap.Ns C (fun _ => none)) {v₀ : Option Value} (hcell : s.heap.IsCell c v₀) (F : Fr h₀ L s.heap m) (N : News h₀ L s.heap led)
    (J : Nat → List Value → Led → Prop) (h0 : J 0 [] led) (hoff : ∀ q ∈ led, q.1 ≠ C ∧ q.1 ≠ D ∧ q.1 ≠ c ∧ q.1 ∉ wr)
    (turn : ∀ i v acc nw oc own h tk, i < n → P i v → J i acc nw → acc.length ≤ i → oc.data = .cell (some v) → (c, oc) ∈ own →
      Fr h₀ L h m → News h₀ L h (nw ++ own) → Apart own nw src →
      wpAny (model prog w) A (forIn ifs true fun c r => if r = true then do let ok ← isTrue c cenv (eval c cenv); pure (ForInStep.yield ok) else pure (ForInStep.yield r))
        (fun ok s₂ => if ok = true then wpAny (model prog w) A (eval elt cenv) (fun y s₃ => Turn h₀ L src own (fun m' nw' => m' = m ∧ J (i + 1) (acc ++ [y]) nw') { s with heap := h, toks := tk } s₃) (notedBy (model prog w) A cenv fun e s' => R (.error e) s') s₂
          else Turn h₀ L src own (fun m' nw' => m' = m ∧ J (i + 1) acc nw') { s with heap := h, toks := tk } s₂) (notedBy (model prog w) A cenv fun e s' => R (.error e) s') { s with heap := h, toks := tk })
    (hR : ∀ h' tk m' acc nw, h'.Ns C m' → h'.PlainList D acc.toArray → Fr h₀ L h' m → News h₀ L h' nw → (∀ q ∈ nw, q.1 ≠ C ∧ q.1 ≠ D) → acc.length ≤ n → J n acc nw → R (.ok .next) { s with heap := h', toks := tk })
    (hsz : n ≤ sizeLine) :
    codeAny (model prog w) A (.compLoop (.ListComp elt [⟨.Name x px, iter, ifs, 0⟩] scope pos) 0 (.ref I) (.ref D) cenv) R s := by
  subst hC
  refine codeAny_compLoop_tests (CompI h₀ cenv.locals D L wr x m (fun h => ∃ v, h.IsCell c v) St (fun i acc nw => J i acc nw ∧ ∀ q ∈ nw, q.1 ≠ c) n s) ?_ (n + 1)
    (.mk s.heap s.toks _ led [] 0 hst hacc hn (fun _ _ => rfl) ⟨_, hcell⟩ F N (fun q hq => let ⟨a, b, _, d⟩ := hoff q hq; ⟨a, b, d⟩) (Nat.le_refl _) ⟨h0, fun q hq => (hoff q hq).2.2.1⟩ (Nat.zero_le _))
  rintro k s' ⟨H, tk, m', nw, acc, i, hst', hacc', hn', hm', ⟨v', hcl'⟩, F', N', hoff', hlen, ⟨hJ, hoc'⟩, hi⟩
  have hCw : cenv.locals ∉ wr := fun h => hCf (W.sub _ h)
  have hDw : D ∉ wr := fun h => hDf (W.sub _ h)
  by_cases hlt : i < n
  · refine W.item i _ _ _ hlt hst' fun v h₁ tk₁ hPv hst₁ hk₁ => ?_
    obtain ⟨F₁, N₁⟩ := step_keeps W hLf hwr F' N' (fun q hq => (hoff' q hq).2.2) hk₁
    have hcl₁ : h₁.IsCell c v' := by obtain ⟨o, e, d⟩ := hcl'; exact ⟨o, hk₁ _ o (fun h => hcf (W.sub _ h)) e, d⟩
    refine wpAny_assign_Name (wpAny_storeName_cell hk hx hc hcl₁ fun h₂ hcl₂ hs₂ => ?_)
    have F₂ : Fr h₀ L h₂ m := F₁.change hs₂ hcL hc0
    have N₂ : News h₀ L h₂ nw := fun p hp => ⟨(hs₂.2 _ (hoc' p hp)).trans (N₁ p hp).1, (N₁ p hp).2⟩
    have hst₂ : St (i + 1) h₂ := W.frame _ _ _ hst₁ fun b hb o e => hs₂.extBut b o (fun h => hcf (h ▸ hb)) e
    obtain ⟨oC, hoC, hNC⟩ := NsO.of ((hn'.at' fun o e => hk₁ _ o hCw e).sameBut hs₂ hcC)
    obtain ⟨oc, hoc, hdc⟩ := id hcl₂
    obtain ⟨nD, hoD⟩ : h₂.PlainList D acc.toArray := hacc'.at fun o e => hs₂.extBut _ o hcD (hk₁ _ o hDw e)
    have NC : News h₀ L h₂ [(c, oc), (cenv.locals, oC), (D, listOf acc.toArray nD)] := all_cons ⟨hoc, hcL, hc0⟩ (news_two ⟨hoC, hCL, hC0⟩ ⟨hoD, hDL, hD0⟩)
    obtain ⟨NN, hap⟩ := own_told (src := src) (pre := [(c, oc), (cenv.locals, oC), (D, listOf acc.toArray nD)]) rfl hLf hfs NC N₂ fun q hq => ⟨all_cons (Ne.symm (hoc' q hq)) (all_two (Ne.symm (hoff' q hq).1) (Ne.symm (hoff' q hq).2.1)), (hoff' q hq).2.2⟩
    have after : ∀ (J' : Led → Prop) (s₃ : Shared), Turn h₀ L src _ (fun m' nw' => m' = m ∧ J' nw') { s with heap := h₂, toks := tk₁ } s₃ → _ := fun J' s₃ h => turn_left rfl W hwr hws hlive (all_cons (C := fun p : Addr × Obj => p.1 ∉ src) (p := (c, oc)) hcs (all_two (C := fun p : Addr × Obj => p.1 ∉ src) (p := (cenv.locals, oC)) (q := (D, listOf acc.toArray nD)) hCs hDs)) F₂ hst₂ h
    refine wpAny_mono (turn i v acc nw oc _ _ _ hlt hPv hJ hlen hdc (.head _) F₂ NN hap) (fun ok s₃ h₃ => ?_) fun _ _ e => e
    cases ok with
    | false =>
      rw [if_neg Bool.false_ne_true] at h₃ ⊢
      obtain ⟨g₃, tk₃, m₃, nw₃, hst₃, hp₃, F₃, N₃, hoff₃, e₃, hJ₃⟩ := after _ _ h₃
      exact ⟨_, by omega, .mk g₃ tk₃ _ nw₃ acc (i + 1) hst₃ ⟨nD, hp₃ _ (.tail _ (.tail _ (.head _)))⟩ (hNC _ _ (hp₃ _ (.tail _ (.head _)))) hm' ⟨_, oc, hp₃ _ (.head _), hdc⟩ (e₃ ▸ F₃) N₃ (fun q hq => ⟨Ne.symm ((hoff₃ q hq).1 _ (.tail _ (.head _))), Ne.symm ((hoff₃ q hq).1 _ (.tail _ (.tail _ (.head _)))), (hoff₃ q hq).2⟩) (Nat.le_succ_of_le hlen)
        ⟨hJ₃, fun q hq => Ne.symm ((hoff₃ q hq).1 _ (.head _))⟩ hlt⟩
    | true =>
      rw [if_pos rfl] at h₃ ⊢
      refine wpAny_mono h₃ (fun y s₄ h₄ => ?_) fun _ _ e => e
      obtain ⟨h₃, tk₃, m₃, nw₃, hst₃, hp₃, F₃, N₃, hoff₃, e₃, hJ₃⟩ := after _ _ h₄
      refine wpAny_list_append_plain (hsz := by rw [List.size_toArray]; omega) ⟨nD, hp₃ _ (.tail _ (.tail _ (.head _)))⟩ fun h₅ hl₅ hs₅ => ?_
      exact ⟨_, by omega, .mk h₅ tk₃ _ nw₃ (acc ++ [y]) (i + 1) (W.frame _ _ h₅ hst₃ fun b hb o e => hs₅.extBut b o (fun h => hDf (h ▸ hb)) e) (by rw [← List.push_toArray]; exact hl₅) ((hNC _ _ (hp₃ _ (.tail _ (.head _)))).sameBut hs₅ (Ne.symm hDC)) hm' ⟨_, oc, hs₅.extBut _ _ (Ne.symm hcD) (hp₃ _ (.head _)), hdc⟩ ((e₃ ▸ F₃ : Fr h₀ L h₃ m).change hs₅ hDL hD0)
        (fun p hp => ⟨(hs₅.2 _ (Ne.symm ((hoff₃ p hp).1 _ (.tail _ (.tail _ (.head _)))))).trans (N₃ p hp).1, (N₃ p hp).2⟩) (fun q hq => ⟨Ne.symm ((hoff₃ q hq).1 _ (.tail _ (.head _))), Ne.symm ((hoff₃ q hq).1 _ (.tail _ (.tail _ (.head _)))), (hoff₃ q hq).2⟩) (by rw [List.length_append]; exact Nat.succ_le_succ hlen)
        ⟨hJ₃, fun q hq => Ne.symm ((hoff₃ q hq).1 _ (.head _))⟩ hlt⟩
  · have hin : i = n := by omega
    subst hin
    refine W.done _ _ _ hst' fun h₁ tk₁ hk₁ => ?_
    obtain ⟨F₁, N₁⟩ := step_keeps W hLf hwr F' N' (fun q hq => (hoff' q hq).2.2) hk₁
    exact hR h₁ tk₁ m' acc nw (hn'.at' fun o e => hk₁ _ o hCw e) (hacc'.at fun o e => hk₁ _ o hDw e) F₁ N₁ (fun q hq => ⟨(hoff' q hq).1, (hoff' q hq).2.1⟩) hlen hJ

/-- what the loop of a comprehension shows, whose variable is a cell -/
inductive CompAtC (prog : Program) (w : World) (A : Around) (env : Env) (scope : Scope) (cl : List (Str × Addr)) (x : Str) (ifs : List Expr) (elt : Expr) (h₀ : Heap) (Q : Value → Shared → Prop) : Value → Shared → Prop
  | mk (L : Addr) (m : Str → Option Value) (led : Led) (src : List Addr) (n : Nat) (P : Nat → Value → Prop) (I : Addr) (fp wr : List Addr) (St : Nat → Heap → Prop) (s₂ : Shared)
    (T : Iters prog w A h₀ L m led src n P I fp wr St s₂) (hsz : n ≤ sizeLine) (hsrc : ∀ b ∈ src, b < s₂.heap.objs.size) (J : Nat → List Value → Led → Prop) (h0 : J 0 [] led)
    (turn : ∀ C i v acc nw oc own h tk E', i < n → P i v → J i acc nw → acc.length ≤ i → oc.data = .cell (some v) → (C + 1, oc) ∈ own →
      Fr h₀ L h m → News h₀ L h (nw ++ own) → Apart own nw src →
      wpAny (model prog w) A (forIn ifs true fun c r => if r = true then do let ok ← isTrue c (compEnvC scope ((x, C + 1) :: cl) C env) (eval c (compEnvC scope ((x, C + 1) :: cl) C env)); pure (ForInStep.yield ok) else pure (ForInStep.yield r))
        (fun ok s₃ => if ok = true then wpAny (model prog w) A (eval elt (compEnvC scope ((x, C + 1) :: cl) C env)) (fun y s₄ => Turn h₀ L src own (fun m' nw' => m' = m ∧ J (i + 1) (acc ++ [y]) nw') { s₂ with heap := h, toks := tk } s₄) E' s₃
          else Turn h₀ L src own (fun m' nw' => m' = m ∧ J (i + 1) acc nw') { s₂ with heap := h, toks := tk } s₃) E' { s₂ with heap := h, toks := tk })
    (hQ : ∀ D nD h' tk acc nw, Fr h₀ L h' m → News h₀ L h' ((D, listOf acc.toArray nD) :: nw) → (∀ q ∈ nw, q.1 ≠ D) → acc.length ≤ n → J n acc nw → Q (.ref D) { s₂ with heap := h', toks := tk }) :
    CompAtC prog w A env scope cl x ifs elt h₀ Q (.ref I) s₂
theorem lookup_relabel_cell {env : Env} : ∀ {names : List (Str × NameKind)} {x : Str}, names.lookup x = some .cell →
    (names.map fun (n, k) => if (k == NameKind.free && env.scope.kind == .function && env.kindOf n == some .cell) then (n, NameKind.cell) else (n, k)).lookup x = some .cell
  | [], _, h => by simp at h
  | (n, k) :: r, x, h => by
    have ih := @lookup_relabel_cell env r x
    show List.lookup x ((if (k == NameKind.free && env.scope.kind == .function && env.kindOf n == some .cell) = true then (n, NameKind.cell) else (n, k)) :: _) = _
    cases hx : x == n with
    | true =>
      simp only [List.lookup_cons, hx] at h
      cases h
      simp [List.lookup_cons, hx]
    | false =>
      simp only [List.lookup_cons, hx] at h
      by_cases hc : (k == NameKind.free && env.scope.kind == .function && env.kindOf n == some .cell) = true
      · rw [if_pos hc]; simp only [List.lookup_cons, hx]; exact ih h
      · rw [if_neg hc]; simp only [List.lookup_cons, hx]; exact ih h
theorem comp_JC {elt iter : Expr} {x : Str} {px : Pos} {ifs : List Expr} {scope : Scope} {cl : List (Str × Addr)} {pos : Pos} {L : Addr} {m : Str → Option Value} {Q : Value → Shared → Prop} (F : Fr h₀ L s.heap m)
    (hclos : closureFor scope env = pure cl) (hcf : ∀ n, cellsFrom n scope.names cl = (x, n) :: cl) (hpc : ∀ h, pushCells h scope.names = h.push { cls := .type "cell", data := .cell none }) (hkind : scope.kind = .function)
    (hnames : ∀ y ∈ scope.names, y.2 = .local → scope.names.lookup y.1 = some .local) (hx : scope.names.lookup x = some .cell) (hs : ∀ x, foldedSetIterable iter env x = pure x)
    (h : wpAny (model prog w) A (eval iter env) (fun xv s₁ => wpAny (model prog w) A (pyIter xv) (fun it s₂ => CompAtC prog w A env scope cl x ifs elt h₀ Q it s₂) E s₁) E s) :
    wpAny (model prog w) A (eval (.ListComp elt [⟨.Name x px, iter, ifs, 0⟩] scope pos) env) Q E s := by
  rw [eval_ListComp]
  refine wpAny_comprehension_free (use := none) rfl hs hclos hkind hnames (wpAny_mono h (fun xv s₁ h₁ => wpAny_mono h₁ (fun it s₂ h₂ => ?_) fun _ _ e => e) fun _ _ e => e)
  clear F h
  obtain ⟨L, m, led, src, n, P, I, fp, wr, St, _, T, hsz, hsrc, J, h0, turn, hQ⟩ := h₂
  obtain ⟨W, hst, hfp, hfs, hws, hLf, hwr, F, N, hoff, hlive⟩ := T
  refine wpAny_newObj_type (newEnv_cellC (hcf _) (hpc _) ?_)
  dsimp only
  generalize hH2 : s₂.heap.push { cls := .type "list", dict := none, data := .seq ([] : List Value).toArray } = H2
  have hC : H2.objs.size = s₂.heap.objs.size + 1 := by rw [← hH2, Heap.size_push]
  obtain ⟨h₁, hh₁⟩ : ∃ h₁, h₁ = (H2.push { cls := .type "dict", data := .dict #[] }).push { cls := .type "cell", data := .cell none } := ⟨_, rfl⟩
  rw [← hh₁]
  have hDC : s₂.heap.objs.size ≠ H2.objs.size := by rw [hC]; exact Nat.ne_of_lt (Nat.lt_succ_self _)
  have below : ∀ b, b < s₂.heap.objs.size → b ≠ H2.objs.size + 1 ∧ b ≠ H2.objs.size ∧ b ≠ s₂.heap.objs.size := fun b hb =>
    ⟨by rw [hC]; exact Nat.ne_of_lt (Nat.lt_succ_of_lt (Nat.lt_succ_of_lt hb)), by rw [hC]; exact Nat.ne_of_lt (Nat.lt_succ_of_lt hb), Nat.ne_of_lt hb⟩
  have up2 : ∀ b o, H2.get? b = some o → h₁.get? b = some o := fun b o e => hh₁ ▸ Heap.get?_push_of_some _ (Heap.get?_push_of_some _ e)
  have old : ∀ b o, s₂.heap.get? b = some o → h₁.get? b = some o := fun b o e => up2 b o (hH2 ▸ Heap.get?_push_of_some _ e)
  have hacc : h₁.PlainList s₂.heap.objs.size #[] := ⟨_, up2 _ _ (hH2 ▸ Heap.get?_push_size _ rfl)⟩
  have hst₁ : St 0 h₁ := W.frame _ _ _ hst fun b _ o e => old b o e
  have fresh : ∀ a, s₂.heap.objs.size ≤ a → h₀.get? a = none := fun a ha => Heap.get?_none_of_le (Nat.le_trans (Nat.le_of_lt (Nat.lt_of_le_of_lt F.above F.ns.lt)) ha)
  have F₁ : Fr h₀ L h₁ m := ⟨F.ns.at' fun o e => old _ o e, fun b o e => old b o (F.keep b o e), F.above⟩
  have N₁ : News h₀ L h₁ led := fun p hp => ⟨old _ _ (N p hp).1, (N p hp).2⟩
  have hLs : L < s₂.heap.objs.size := F.ns.lt
  have hns₁ : h₁.Ns H2.objs.size (fun _ => none) := hh₁ ▸ (Heap.Ns.new H2 (.type "dict")).keeps fun b o e => Heap.get?_push_of_some _ e
  have hcl₁ : h₁.IsCell (H2.objs.size + 1) none := by
    have e : (H2.push { cls := .type "dict", data := .dict #[] }).objs.size = H2.objs.size + 1 := Heap.size_push ..
    exact ⟨_, hh₁ ▸ e ▸ Heap.get?_push_size _ rfl, rfl⟩
  have loop : ∀ s₃ : Shared, s₃ = { s₂ with heap := h₁ } →
      codeAny (model prog w) A (.compLoop (.ListComp elt [⟨.Name x px, iter, ifs, 0⟩] scope pos) 0 (.ref I) (.ref s₂.heap.objs.size) (compEnvC scope ((x, H2.objs.size + 1) :: cl) H2.objs.size env))
        (compPost (model prog w) A E none Q (.ref s₂.heap.objs.size) H2.objs.size) s₃ := by
    rintro s₃ rfl
    refine compLoop_JC (hsz := hsz) (cenv := compEnvC scope ((x, H2.objs.size + 1) :: cl) H2.objs.size env) (C := H2.objs.size) (c := H2.objs.size + 1) W rfl (by simp [compEnvC, relabel, hkind]) (lookup_relabel_cell hx) (by simp [compEnvC])
      (fresh _ (by rw [hC]; exact Nat.le_succ _)) (below _ hLs).2.1.symm (fresh _ (Nat.le_refl _)) (below _ hLs).2.2.symm hDC
      (fun hm => Nat.lt_irrefl _ (hfp _ hm)) (fun hm => by have := hfp _ hm; rw [hC] at this; exact Nat.lt_irrefl _ (Nat.lt_of_succ_lt this)) hLf hwr
      (fresh _ (by rw [hC]; exact Nat.le_succ_of_le (Nat.le_succ _))) (below _ hLs).1.symm (by rw [hC]; exact Nat.ne_of_lt (Nat.lt_succ_of_lt (Nat.lt_succ_self _))) (Nat.ne_of_lt (Nat.lt_succ_self _))
      (fun hm => by have := hfp _ hm; rw [hC] at this; exact Nat.lt_irrefl _ (Nat.lt_of_succ_lt (Nat.lt_of_succ_lt this))) (fun hm => by have := hsrc _ hm; rw [hC] at this; exact Nat.lt_irrefl _ (Nat.lt_of_succ_lt (Nat.lt_of_succ_lt this)))
      hfs hws (fun hm => by have := hsrc _ hm; rw [hC] at this; exact Nat.lt_irrefl _ (Nat.lt_of_succ_lt this)) (fun hm => Nat.lt_irrefl _ (hsrc _ hm)) hlive
      hst₁ hacc hns₁ hcl₁ F₁ N₁ J h0 (fun q hq => ⟨(below _ (Heap.lt_size (N q hq).1)).2.1, (below _ (Heap.lt_size (N q hq).1)).2.2, (below _ (Heap.lt_size (N q hq).1)).1, hoff q hq⟩)
      (fun i v acc nw oC own hh tk hi hP hJ hl hN hm F' N' hap => turn _ i v acc nw oC own hh tk _ hi hP hJ hl hN hm F' N' hap)
      (fun h' tk m' acc nw hn ha F' N' hoff' hl hJ => ?_)
    obtain ⟨nD, hD⟩ := ha
    refine ⟨m', hn, fun h'' hs'' => ?_⟩
    refine hQ s₂.heap.objs.size nD h'' tk acc nw (F'.change hs'' (below _ hLs).2.1.symm (fresh _ (by rw [hC]; exact Nat.le_succ _))) ?_ (fun q hq => (hoff' q hq).2) hl hJ
    intro p hp
    rcases List.mem_cons.mp hp with rfl | hp
    · exact ⟨hs''.extBut _ _ hDC hD, (below _ hLs).2.2.symm, fresh _ (Nat.le_refl _)⟩
    · exact ⟨(hs''.2 _ (hoff' p hp).1).trans (N' p hp).1, (N' p hp).2⟩
  exact codeAny_compStart_list (loop _ rfl) (W.self 0 _ _ _ hst₁ (loop _ rfl))
end
end Mine
end
section
open PySem PySem.W PySem.Calls PyProof.Rows PySem.Spec PyProof.V
namespace Mine
theorem firstMet_nodup {ns : List Int} (h : ns.Nodup) : ∀ i, i ≤ ns.length → firstMet (fun i => ns.getD i 0) i = ns.take i := by
  intro i
  induction i with
  | zero => intro _; simp [firstMet_zero]
  | succ i ih =>
    intro hi
    have hlt : i < ns.length := hi
    rw [firstMet_succ, ih (Nat.le_of_lt hlt), List.getD_eq_getElem?_getD, List.getElem?_eq_getElem hlt, Option.getD_some]
    have hnot : ns[i] ∉ ns.take i := by
      intro hm
      have h2 := List.nodup_append.mp (List.take_append_drop i ns ▸ h)
      have : ns[i] ∈ ns.drop i := by rw [List.drop_eq_getElem_cons hlt]; exact .head _
      exact h2.2.2 _ hm _ this rfl
    have : step_dedup (ns.take i) ns[i] = ns.take i ++ [ns[i]] := by
      unfold step_dedup
      have : (ns.take i).any (· == ns[i]) = false := by
        rw [List.any_eq_false]
        intro x hx
        simp only [beq_iff_eq]
        exact fun e => hnot (e ▸ hx)
      simp_all
    rw [this, List.take_add_one, List.getElem?_eq_getElem hlt, Option.toList_some]
section
variable {prog : Program} {w : World} {A : Around} {E : Value → Shared → Prop} {s : Shared} {h₀ : Heap} {L : Addr} {m : Str → Option Value} {news : Led}
/-- set(..) of a list of the ledger, of ints of which no two are alike -/
theorem newSet_I {l : Addr} {vs : List Value} {ns : List Int} {Q : Value → Shared → Prop} (F : Fr h₀ L s.heap m) (N : News h₀ L s.heap news)
    (hh : A.handled = none) (hl : s.heap.IsList l vs.toArray) (hi : IntsAre vs ns) (hd : ns.Nodup) (hb : ns.length ≤ 100)
    (h : ∀ h' (tk : Nat) o S, Fr h₀ L h' m → News h₀ L h' ((s.heap.objs.size, o) :: news) → o.SetObjOf (intKind prog w) S ns.length → Q (.ref s.heap.objs.size) { s with heap := h', toks := tk }) :
    wpAny (model prog w) A (call (.type "set") [.ref l]) Q E s := by
  have hvn : vs.length = ns.length := IntsAre.length hi
  have hLlt : L < s.heap.objs.size := F.ns.lt
  have hfm : (firstMet (fun i => ns.getD i 0) vs.toArray.size).length = ns.length := by
    rw [List.size_toArray, hvn, firstMet_nodup hd _ (Nat.le_refl _), List.take_length]
  refine PySem.call_set_list (items := vs.toArray) (ns := ns) hh hl (by simpa using hi) (by unfold scanBound; rw [List.size_toArray]; omega) fun h' tk hS hk => ?_
  rw [hfm] at hS
  obtain ⟨o, ho, hso⟩ := hS.objOf
  refine h h' tk o _ ⟨F.ns.at' fun o' e => hk L o' hLlt e, fun b o' e => hk b o' (Heap.lt_size (F.keep b o' e)) (F.keep b o' e), F.above⟩ (fun p hp => ?_) hso
  rcases List.mem_cons.mp hp with rfl | hp
  · exact ⟨ho, Nat.ne_of_gt hLlt, next_is_new F⟩
  · exact ⟨hk _ _ (Heap.lt_size (N p hp).1) (N p hp).1, (N p hp).2⟩
theorem len_set {l : Addr} {o : Obj} {S : Int → Bool} {n : Nat} {Q : Value → Shared → Prop} (N : News h₀ L s.heap news) (hm : (l, o) ∈ news) (hso : o.SetObjOf (intKind prog w) S n) (hn : n ≤ 100) (h : Q (.int n (s.toks + 1)) { s with toks := s.toks + 1 + 1 }) :
    wpAny (model prog w) A (call (.builtin "len") [.ref l]) Q E s := by
  obtain ⟨hex, es, ep, t, hd, _, _, e, hf⟩ := hso
  subst e
  exact call_len_set (N _ hm).1 hex hd hf (by omega) h
theorem item_pair {value slice : Expr} {l : Addr} {a b : Value} {u : Tok} {Q : Value → Shared → Prop} (N : News h₀ L s.heap news) (hm : (l, { cls := .type "tuple", data := .seq #[a, b] }) ∈ news) (h : Q b s)
    (hs : subscripted slice false (.ref l) (.int 1 u) = operate [.ref l, .int 1 u] (getItem (.ref l) (.int 1 u))) (hg : ∀ r, letTemporaryGo value (.ref l) r = pure ()) :
    wpAny (model prog w) A (subscriptTail value slice (.ref l) (.int 1 u)) Q E s :=
  item_tuple (items := #[a, b]) (j := 1) ⟨_, (N _ hm).1, rfl, _, rfl⟩ (by decide) (by decide) (by simp [seqIndex?]) (by simp) h hs hg
end
end Mine
end
section
open PySem PySem.W PySem.Calls PyProof.Rows PySem.Spec PyProof.V
namespace Mine
section
variable {prog : Program} {w : World} {A : Around} {E : Value → Shared → Prop} {s : Shared} {h₀ : Heap} {L : Addr} {m : Str → Option Value} {led : Led}
/-- a tuple of the written part is walked -/
theorem iters_tupleK {K : Frag} {a : Addr} {items : Array Value} {od : Option Addr} {osl : Array (Option Value)} {n : Nat} {Q : Value → Shared → Prop} (hh : A.handled = none) (F : Fr h₀ L s.heap m) (N : News h₀ L s.heap led) (X : K.In h₀)
    (hK : K.lookup a = some ⟨.type "tuple", od, .seq items n, osl⟩)
    (h : ∀ fp wr St h tk, (∀ b ∈ [a], b < L ∧ b < h.objs.size) → Iters prog w A h₀ L m led [a] items.size (fun i v => items[i]? = some v) s.heap.objs.size fp wr St { s with heap := h, toks := tk } → Q (.ref s.heap.objs.size) { s with heap := h, toks := tk }) :
    wpAny (model prog w) A (pyIter (.ref a)) Q E s := by
  have ho := X _ _ hK
  exact iters_tuple hh F N ⟨_, F.keep _ _ ho, rfl, _, rfl⟩ (Nat.ne_of_lt (Nat.lt_of_lt_of_le (Heap.lt_size ho) F.above)) fun fp wr St h' tk T => h fp wr St h' tk (fun b hb => by rw [List.mem_singleton.mp hb]; exact ⟨Nat.lt_of_lt_of_le (Heap.lt_size ho) F.above, Heap.lt_size (T.F.keep _ _ ho)⟩) T
end
section
variable {prog : Program} {w : World} {A : Around} {E : Value → Shared → Prop} {s : Shared} {h₀ : Heap} {L : Addr} {m : Str → Option Value} {news : Led} {value slice : PySem.Expr} {b : Array UInt8} {t : Tok} {l u : Value} {lo hi : Option Int} {Q : Value → Shared → Prop}
theorem slice_B (F : Fr h₀ L s.heap m) (N : News h₀ L s.heap news) (hl : IsPart l lo) (hu : IsPart u hi) (hz : b.size ≤ 100000)
    (h : ∀ h' t' k, Fr h₀ L h' m → News h₀ L h' news → Q (.bytes (KBy.picked b lo hi) t') { s with heap := h', toks := k })
    (hs : subscripted slice false (.bytes b t) (.ref s.heap.objs.size) = operate [.ref s.heap.objs.size, .bytes b t] (getItem (.bytes b t) (.ref s.heap.objs.size)))
    (ht : ∀ r, letTemporaryGo value (.bytes b t) r = pure ()) :
    wpAny (model prog w) A (subscriptTail value slice (.bytes b t) (.ref s.heap.objs.size)) Q E { s with heap := s.heap.push { cls := .type "slice", data := .fields #[l, u, .none] } } :=
  KBc.slice_K (ks := KBw.bInts b) F N rfl hl hu (by rw [KBw.ints_length]; omega) (fun h' t' k F' N' _ => h h' t' k F' N') hs ht
end
theorem rsize_from (a : Int) (n : Nat) : Builtin.Range.rangeSize a (a + (n : Int)) 1 = ((n : Nat) : Int) := by
  unfold Builtin.Range.rangeSize
  rw [if_pos (by decide)]
  by_cases h : n = 0
  · subst h; rw [if_neg (by omega)]; rfl
  · rw [if_pos (by omega)]
    have : (a + (n : Int) - a - 1) / 1 = (n : Int) - 1 := by rw [Int.ediv_one]; omega
    rw [this]; omega
theorem small_from {a : Int} {n : Nat} (h0 : 0 ≤ a) (h1 : a ≤ 100000) (h : n ≤ 1000) : Builtin.Range.small a (a + (n : Int)) 1 = true := by
  unfold Builtin.Range.small
  rw [rsize_from]
  have h3 : (n : Int) ≤ 1000 := by omega
  have h4 : (0 : Int) ≤ (n : Int) := by omega
  generalize (n : Int) = M at *
  simp [Builtin.Range.rangeFitsLong]
  omega
theorem FontsAt.six {w : World} {news : Led} {fvs : List Value} {Gs : List Font} (h : FontsAt w news fvs Gs) : ∀ G ∈ Gs, ∀ b ∈ G.map (·.2), b.size ≤ 6 := fun G hm b hb => by
  obtain ⟨d, f⟩ := h.of_mem hm
  obtain ⟨y, hy, rfl⟩ := List.mem_map.mp hb
  exact f.few y hy
/-- the pairs of which a font is made, as they lie in the ledger -/
structure PairsAt (ex : Led) (acc : List Value) (ps : List (Str × Value)) (G : Font) : Prop where
  len : ps.length = acc.length
  at_ : ∀ (j : Nat) v, acc[j]? = some v → ∃ p, ps[j]? = some p ∧ ∃ T t, v = .ref T ∧ (T, { cls := .type "tuple", data := .seq #[.str p.1 t, p.2] }) ∈ ex
  kv : KvsAre ps G
theorem PairsAt.nil {ex : Led} : PairsAt ex [] [] [] := ⟨rfl, fun j v h => by simp at h, .nil⟩
theorem PairsAt.sub {ex ex' : Led} {acc : List Value} {ps : List (Str × Value)} {G : Font} (h : PairsAt ex acc ps G) (hs : ∀ p ∈ ex, p ∈ ex') : PairsAt ex' acc ps G :=
  ⟨h.len, fun j v e => let ⟨p, a, T, t, b, c⟩ := h.at_ j v e; ⟨p, a, T, t, b, hs _ c⟩, h.kv⟩
theorem KvsAre.snoc {kvs : List (Str × Value)} {G : Font} {k : Str} {b : By} {t : Tok} (h : KvsAre kvs G) : KvsAre (kvs ++ [(k, .bytes b t)]) (G ++ [(k, b)]) := by
  induction h with
  | nil => exact .cons .nil
  | cons _ ih => exact .cons ih
theorem PairsAt.snoc {ex : Led} {acc : List Value} {ps : List (Str × Value)} {G : Font} {T : Addr} {k : Str} {t tb : Tok} {b : By} (h : PairsAt ex acc ps G) :
    PairsAt ((T, { cls := .type "tuple", data := .seq #[.str k t, .bytes b tb] }) :: ex) (acc ++ [.ref T]) (ps ++ [(k, .bytes b tb)]) (G ++ [(k, b)]) := by
  refine ⟨by simp [h.len], fun j v e => ?_, h.kv.snoc⟩
  by_cases hlt : j < acc.length
  · rw [List.getElem?_append_left hlt] at e
    obtain ⟨p, a, T', t', c, d⟩ := h.at_ j v e
    exact ⟨p, by rw [List.getElem?_append_left (by rw [h.len]; exact hlt)]; exact a, T', t', c, .tail _ d⟩
  · have hj : j = acc.length := by
      have := (List.getElem?_eq_some_iff.mp e).1
      simp at this; omega
    subst hj
    simp at e
    exact ⟨(k, .bytes b tb), by rw [← h.len]; simp, T, t, e.symm, .head _⟩
theorem sub_snoc {α : Type} {l tl : List α} {j : Nat} {k : α} (h : l.Sublist (tl.take j)) (hk : tl[j]? = some k) : (l ++ [k]).Sublist (tl.take (j + 1)) := by
  rw [List.take_add_one, hk, Option.toList_some]
  exact h.append (List.Sublist.refl _)
theorem sub_skip {α : Type} {l tl : List α} {j : Nat} (h : l.Sublist (tl.take j)) : l.Sublist (tl.take (j + 1)) := by
  rw [List.take_add_one]
  exact h.trans (List.sublist_append_left _ _)
theorem allLt_mem {d : Addr} : ∀ {l : Led}, AllLt d l → ∀ p ∈ l, p.1 < d
  | [], _, _, h => nomatch h
  | q :: l, h, p, hp => by
    rcases List.mem_cons.mp hp with rfl | hp
    · exact h.1
    · exact allLt_mem h.2 p hp
end Mine
end
section
open PySem PySem.W PySem.Calls PyProof.Rows PySem.Spec PyProof.V
namespace Mine
theorem bytes_is {prog : Program} {w : World} {b : By} {t : Tok} : (bytesKind prog w).is b.toList (.bytes b t) = true := by
  show isBytes b.toList (.bytes b t) = true
  simp [isBytes]
theorem pool_is {prog : Program} {w : World} {acc : List Value} {bs : List By} (h : BytesAre acc bs) : ∀ i v, acc[i]? = some v → (bytesKind prog w).is ((bs.map Array.toList).getD i []) v = true := fun i v e => by
  have hl := h.length
  have hi : i < acc.length := (List.getElem?_eq_some_iff.mp e).1
  have hb : bs[i]? = some (bs[i]'(by omega)) := List.getElem?_eq_getElem (by omega)
  obtain ⟨t, ht⟩ := h.at hb
  rw [ht] at e
  cases e
  rw [List.getD_eq_getElem?_getD, List.getElem?_map, hb]
  exact bytes_is
section
variable {M : Model} {A : Around} {s : Shared} {env : Env}
theorem N_And {e₁ e₂ : Expr} {pos : Pos} {Q : Value → Shared → Prop}
    (h : wpAny M A (eval e₁ env) (fun v s₁ => wpAny M A (truthy v) (fun c s₂ => if c then wpN M A (eval e₂ env) Q s₂ else Q v s₂) NoE s₁) NoE s) : wpN M A (eval (.BoolOp .And [e₁, e₂] pos) env) Q s := by
  show wpN M A (do
    let v ← eval e₁ env
    standAt pos
    let c ← holding [v] (truthy v)
    match BoolOp.And, c with
    | .And, false | .Or, true => pure v
    | _, _ => eval e₂ env) Q s
  refine N_bindA (wpAny_mono h (fun v s₁ h₁ => N_bindA (wpAny_standAt (N_bindA (wpAny_holding (wpAny_mono h₁ (fun c s₂ h₂ => ?_) fun _ _ x => x))))) fun _ _ x => x)
  cases c with
  | false => exact N_pure h₂
  | true => exact h₂
theorem N_Compare1 {l r : Expr} {op : CmpOp} {pos : Pos} {Q : Value → Shared → Prop}
    (h : wpAny M A (eval l env) (fun a s₁ => wpN M A (eval r env) (fun b s₂ => wpAny M A (compareOp op a b) Q NoE s₂) s₁) NoE s)
    (hm : behindInMarks op r = false) : wpN M A (eval (.Compare l [op] [r] pos) env) Q s := fun Γ p hΓ hcl => by
  simp only [eval_Compare1, markedBehindIn_of_false hm, Sem.wp_bind', Sem.wp_holding, Sem.wp_cmd_standAt, Sem.wp_operate]
  exact Sem.wp_mono M Γ _ (fun a p₁ s₁ h₁ => Sem.wp_mono M Γ _ (fun b _ s₂ h₂ => h₂ Γ _ hΓ) (fun _ _ _ h' => h') _ _ (h₁ Γ p₁ hΓ hcl))
    (fun _ _ _ h' => h') _ _ (h Γ p hΓ)
end
section
variable {prog : Program} {w : World} {A : Around} {s : Shared}
/-- a def with cells is entered from the caller itself -/
theorem codeN_topC {R : Flow → Shared → Prop} {K : Frag} {p : Program} {loose : List Str} {mean : ExcName → Option Value} {mg mb : Str → Option Value} {name qual : Str} {params : Arguments} {body : List Stmt} {scope : Scope} {dV kV doc pm cdv ct oc : Value} {an od : Option Addr} {osl : Array (Option Value)} {f : Addr} {args : Args} {binds : List (Str × Value)}
    (X₀ : K.In s.heap) (T : Top p loose mean mg mb s.heap)
    (ho : K.lookup f = some ⟨oc, od, .func (fnOf name qual params body scope dV kV doc pm an cdv ct), osl⟩) (hcd : codeIn K cdv qual = true) (hroom : A.depth < recursionLimit)
    (hbind : BindsTo s (fnOf name qual params body scope dV kV doc pm an cdv ct) args binds) (hkind : (binds.all fun y => scope.names.lookup y.1 == some .local || scope.names.lookup y.1 == some .cell) = true)
    (hnd : ((cellsFrom 0 scope.names []).map (·.1)).Nodup)
    (h : ∀ g L' h₁ tk cells, g = s.heap → Fr g L' h₁ (bindL (envOfC qual scope L' f cdv).kindOf binds fun _ => none) → News g L' h₁ cells →
      CellsAre (bindC (envOfC qual scope L' f cdv).kindOf binds fun _ => none) (cellsFrom (L' + 1) scope.names []) cells → Below callerA g [] g → K.In g → Top p loose mean mg mb g →
      wpN (model prog w) (A.deeper (envOfC qual scope L' f cdv)) (execs body (envOfC qual scope L' f cdv)) (fun fl s' => R (.ret (match fl with | .ret v => v | _ => .none)) s') { s with heap := h₁, toks := tk })
    (hco : scope.isCoroutine = false) (hgen : scope.isGenerator = false) (hk : scope.kind = .function) : codeN (model prog w) A (.call (.ref f) args) R s := by
  refine codeN_call_function hroom (X₀ _ _ ho) rfl hco hgen rfl (codeRec_of X₀ hcd) (hbind _ _ _ _ ?_)
  refine wpAny_newFunctionEnv_cells hk (kindsX hkind _) fun env' he s' x => ?_
  subst he
  refine ⟨T.nolimit.keeps x.toInCall.keep, codeN_func ?_⟩
  obtain ⟨h₁, tk, rfl, _⟩ := x.done
  have hk₁ := x.toInCall.keep
  obtain ⟨cells, NC, Y⟩ := Cl.news (h₀ := s.heap) (Nat.le_refl _) fun n c hm => ⟨x.cell n c (lookup_of_mem_nodup (cellsFrom_names scope.names 0 (s.heap.objs.size + 1) [] [] rfl ▸ hnd) hm), x.above n c hm⟩
  exact h s.heap s.heap.objs.size h₁ tk cells rfl ⟨x.toInCall.ns, fun b o e => hk₁ b o e, Nat.le_refl _⟩ NC Y (below_caller _) X₀ T
end
end Mine
end
section
open PySem PySem.W PySem.Calls PyProof.Rows PySem.Spec PyProof.V
namespace Mine
theorem cat_list (bs : List By) : (cat bs).toList = (bs.map Array.toList).flatten := by
  have key : ∀ (r : List By) (a : By), (r.foldl (· ++ ·) a).toList = a.toList ++ (r.map Array.toList).flatten := by
    intro r
    induction r with
    | nil => intro a; simp
    | cons b r ih => intro a; rw [List.foldl_cons, ih, Array.toList_append, List.map_cons, List.flatten_cons, List.append_assoc]
  have := key bs #[]
  simpa [cat] using this
theorem off_flat (P : List By) (t : Nat) : ((((P.take t).map fours).map Array.toList).flatten).length = off P t := by
  unfold off
  rw [List.length_flatten, List.map_map, List.map_map]
  rfl
theorem part_split {P : List By} {t : Nat} {b : By} (h : P[t]? = some b) : (cat (P.map fours)).toList = (((P.take t).map fours).map Array.toList).flatten ++ ((fours b).toList ++ (((P.drop (t + 1)).map fours).map Array.toList).flatten) := by
  obtain ⟨hlt, hb⟩ := List.getElem?_eq_some_iff.mp h
  have e : P = P.take t ++ b :: P.drop (t + 1) := by rw [← hb, List.getElem_cons_drop, List.take_append_drop]
  rw [cat_list]
  conv => lhs; rw [e]
  simp
theorem off_succ {P : List By} {t : Nat} {b : By} (h : P[t]? = some b) : off P (t + 1) = off P t + (fours b).size := by
  unfold off
  rw [List.take_add_one, h, Option.toList_some, List.map_append, List.sum_append]
  simp
theorem off_mono {P : List By} {t : Nat} : ∀ k, off P t ≤ off P (t + k)
  | 0 => Nat.le_refl _
  | k + 1 => by
    refine Nat.le_trans (off_mono k) ?_
    show off P (t + k) ≤ off P (t + k + 1)
    cases h : P[t + k]? with
    | some b => rw [off_succ h]; omega
    | none => unfold off; rw [List.take_add_one, h]; simp
theorem off_mod (P : List By) (t : Nat) : off P t % 4 = 0 := by
  unfold off
  generalize P.take t = l
  induction l with
  | nil => rfl
  | cons b l ih => rw [List.map_cons, List.sum_cons]; have := fours_mod b; omega
theorem cat_size_off (P : List By) : (cat (P.map fours)).size = off P P.length := by
  unfold off
  rw [cat_sizes, List.map_map, List.take_of_length_le (Nat.le_refl _)]
  rfl
theorem picked_part {P : List By} {t : Nat} {b : By} (h : P[t]? = some b) {lo hi : Int} (hlo : lo = (off P t : Nat)) (hhi : hi = (off P t : Nat) + ((fours b).size : Nat)) :
    KBy.picked (cat (P.map fours)) (some lo) (some hi) = fours b := by
  have hlt : t < P.length := (List.getElem?_eq_some_iff.mp h).1
  have h1 := cat_size_off P
  have h2 := off_succ h
  obtain ⟨k, hk⟩ : ∃ k, P.length = t + 1 + k := ⟨P.length - (t + 1), by omega⟩
  have h3 : off P (t + 1) ≤ off P P.length := by rw [hk]; exact off_mono k
  rw [KBc.picked_eq, part_split h]
  simp only [Option.elim]
  rw [clip_le (by omega), clip_le (by omega), h1]
  have e1 : min lo.toNat (off P P.length) = off P t := by omega
  have e2 : min hi.toNat (off P P.length) = off P t + (fours b).size := by omega
  rw [e1, e2, ← off_flat P t, List.drop_left, Nat.add_sub_cancel_left]
  rw [List.take_append_of_le_length (by simp), ← Array.length_toList, List.take_length]
theorem fours_val (b : By) : (b.size + 3 : Int).fdiv 4 * 4 = ((fours b).size : Int) := by
  have h := fours_size b
  rw [Int.fmod_eq_emod_of_nonneg _ (by decide)] at h
  rw [Int.fdiv_eq_ediv_of_nonneg _ (by decide), h]
  omega
/-- the octets that the tables of a font take -/
noncomputable def occ (P : List By) (tk : List Nat) : List Int := tk.flatMap fun t => (List.range ((P[t]?).getD #[]).size).map fun i : Nat => ((off P t : Nat) : Int) + (i : Int) * 1
theorem occ_snoc {P : List By} {tk : List Nat} {t : Nat} {b : By} (h : P[t]? = some b) : occ P (tk ++ [t]) = occ P tk ++ (List.range b.size).map fun i : Nat => ((off P t : Nat) : Int) + (i : Int) * 1 := by
  unfold occ
  rw [List.flatMap_append]
  simp [h]
theorem occ_mem {P : List By} {tk : List Nat} {x : Int} (h : x ∈ occ P tk) (hl : ∀ t ∈ tk, t < P.length) : ∃ t ∈ tk, ((off P t : Nat) : Int) ≤ x ∧ x < ((off P (t + 1) : Nat) : Int) := by
  unfold occ at h
  obtain ⟨t, ht, hx⟩ := List.mem_flatMap.mp h
  obtain ⟨i, hi, rfl⟩ := List.mem_map.mp hx
  have hi' := List.mem_range.mp hi
  have hb : P[t]? = some (P[t]'(hl t ht)) := List.getElem?_eq_getElem (hl t ht)
  rw [hb, Option.getD_some] at hi'
  refine ⟨t, ht, by omega, ?_⟩
  rw [off_succ hb]
  have := fours_size (P[t]'(hl t ht))
  have := fmod4 (-((P[t]'(hl t ht)).size : Int))
  omega
theorem occ_nodup {P : List By} : ∀ {tk : List Nat}, tk.Nodup → (∀ t ∈ tk, t < P.length) → (occ P tk).Nodup := by
  intro tk
  induction tk using List.snocInd with
  | h0 => intro _ _; exact List.nodup_nil
  | h1 l a ih =>
    intro hn hl
    have hn' := List.nodup_append.mp hn
    have ha : a < P.length := hl a (by simp)
    have hb : P[a]? = some (P[a]'ha) := List.getElem?_eq_getElem ha
    have hl' : ∀ t ∈ l, t < P.length := fun t ht => hl t (List.mem_append_left _ ht)
    rw [occ_snoc hb]
    refine List.nodup_append.mpr ⟨ih hn'.1 hl', ?_, ?_⟩
    · refine List.Pairwise.map _ (fun x y (hxy : x ≠ y) e => hxy ?_) List.nodup_range
      omega
    · intro x hx y hy e
      subst e
      obtain ⟨t, ht, h1, h2⟩ := occ_mem hx hl'
      have hy' : x ∈ occ P [a] := by rw [show [a] = [] ++ [a] from rfl, occ_snoc hb]; exact List.mem_append_right _ hy
      obtain ⟨a', ha', h3, h4⟩ := occ_mem hy' fun t ht => by rw [List.mem_singleton.mp ht]; exact ha
      obtain rfl := List.mem_singleton.mp ha'
      have hne : t ≠ a' := fun e => hn'.2.2 t ht a' (by simp) e
      rcases Nat.lt_or_gt_of_ne hne with h | h
      · obtain ⟨k, rfl⟩ : ∃ k, a' = t + 1 + k := ⟨a' - (t + 1), by omega⟩
        have := off_mono (P := P) (t := t + 1) k
        omega
      · obtain ⟨k, rfl⟩ : ∃ k, t = a' + 1 + k := ⟨t - (a' + 1), by omega⟩
        have := off_mono (P := P) (t := a' + 1) k
        omega
theorem occ_length {P : List By} {k : Nat} (hb : ∀ b ∈ P, b.size ≤ k) : ∀ tk : List Nat, (occ P tk).length ≤ k * tk.length := by
  intro tk
  induction tk with
  | nil => exact Nat.le_refl _
  | cons t tk ih =>
    unfold occ at ih ⊢
    rw [List.flatMap_cons, List.length_append, List.length_map, List.length_range, List.length_cons, Nat.mul_succ]
    have : ((P[t]?).getD #[]).size ≤ k := by
      cases h : P[t]? with
      | none => simp
      | some b => exact hb b (List.mem_of_getElem? h)
    omega
/-- the items of a range, upon a list of ints -/
theorem ints_more {P : Nat → Value → Prop} : ∀ {n : Nat} {more : Array Value} {f : Nat → Int}, (∀ i v, P i v → ∃ t, v = .int (f i) t) → ItemsOf P more n → IntsAre more.toList ((List.range n).map f) := by
  intro n
  induction n with
  | zero =>
    intro more f hf h
    have : more = #[] := Array.eq_empty_of_size_eq_zero h.1
    subst this
    exact .nil
  | succ n ih =>
    intro more f hf h
    obtain ⟨hs, hi⟩ := h
    have hlt : n < more.size := by omega
    obtain ⟨t, ht⟩ := hf n _ (hi n more[n] (Array.getElem?_eq_getElem hlt))
    have e : more.toList = more.pop.toList ++ [more[n]] := by
      have h2 : more.toList.length = n + 1 := by simpa using hs
      have hne : more.toList ≠ [] := fun e => by rw [e] at h2; simp at h2
      rw [Array.toList_pop]
      have := (List.dropLast_concat_getLast hne).symm
      rw [List.getLast_eq_getElem] at this
      simpa [h2, hs] using this
    rw [e, List.range_succ, List.map_append, ht]
    refine Ints.snoc (ih hf ⟨by rw [Array.size_pop]; omega, fun i v hv => hi i v ?_⟩)
    rw [Array.getElem?_pop] at hv
    split at hv
    · exact hv
    · cases hv
theorem find_behind (pre x : By) : (Builtin.Bytes.find? (pre ++ x) x 0 (pre ++ x).size).isSome = true := by
  unfold Builtin.Bytes.find?
  rw [List.find?_isSome]
  refine ⟨pre.size, ?_, ?_⟩
  · refine List.mem_map.mpr ⟨pre.size, List.mem_range.mpr ?_, rfl⟩
    rw [Array.size_append]; omega
  · rw [beq_iff_eq]
    refine Array.toList_inj.mp ?_
    simp
/-- the greatest of how often each font has b -/
theorem mostOf_max {Gs : List Font} {b : By} {M : Int} (hne : Gs ≠ []) (hm : M ∈ Gs.map fun G => ((cnt (G.map (·.2)) b : Nat) : Int)) (hx : ∀ a ∈ Gs.map fun G => ((cnt (G.map (·.2)) b : Nat) : Int), a ≤ M) : M = (mostOf Gs b : Nat) := by
  have lo : ∀ l : List Font, ∀ G ∈ l, cnt (G.map (·.2)) b ≤ mostOf l b := by
    intro l
    induction l using List.snocInd with
    | h0 => intro G h; cases h
    | h1 l G ih =>
      intro H hH
      have e : mostOf (l ++ [G]) b = max (mostOf l b) (cnt (G.map (·.2)) b) := by unfold mostOf; rw [List.foldl_append]; rfl
      rw [e]
      rcases List.mem_append.mp hH with h | h
      · have := ih H h; omega
      · rw [List.mem_singleton.mp h]; omega
  have hi : ∀ l : List Font, mostOf l b = 0 ∨ ∃ G ∈ l, mostOf l b = cnt (G.map (·.2)) b := by
    intro l
    induction l using List.snocInd with
    | h0 => exact .inl rfl
    | h1 l G ih =>
      have e : mostOf (l ++ [G]) b = max (mostOf l b) (cnt (G.map (·.2)) b) := by unfold mostOf; rw [List.foldl_append]; rfl
      rw [e]
      by_cases h : mostOf l b ≤ cnt (G.map (·.2)) b
      · exact .inr ⟨G, by simp, by omega⟩
      · rcases ih with h1 | ⟨H, h1, h2⟩
        · omega
        · exact .inr ⟨H, List.mem_append_left _ h1, by omega⟩
  obtain ⟨G, hG, rfl⟩ := List.mem_map.mp hm
  have h1 := lo Gs G hG
  rcases hi Gs with h2 | ⟨H, hH, h2⟩
  · omega
  · have := hx _ (List.mem_map.mpr ⟨H, hH, rfl⟩)
    omega
/-- the sum over the octets met so far -/
noncomputable def mostSum (Gs : List Font) (ys : List Oc) (i : Nat) : Nat := ((ys.take i).map fun y => (fours y.toArray).size * mostOf Gs y.toArray).sum
theorem mostSum_succ {Gs : List Font} {ys : List Oc} {i : Nat} {y : Oc} (h : ys[i]? = some y) : mostSum Gs ys (i + 1) = mostSum Gs ys i + (fours y.toArray).size * mostOf Gs y.toArray := by
  unfold mostSum
  rw [List.take_add_one, h, Option.toList_some, List.map_append, List.sum_append]
  simp
theorem addB_nodup {xs : List Oc} {k : Oc} (h : xs.Nodup) : (addB xs k).Nodup := by
  unfold addB
  split
  · exact h
  · refine List.nodup_append.mpr ⟨h, by simp, fun a ha b hb => ?_⟩
    rw [List.mem_singleton.mp hb]
    rintro rfl
    contradiction
theorem addB_mem {xs : List Oc} {k x : Oc} : x ∈ addB xs k ↔ x ∈ xs ∨ x = k := by
  unfold addB
  split
  · constructor
    · exact .inl
    · rintro (h | rfl) <;> assumption
  · simp
theorem firstB_ok (ks : List Oc) : (firstB ks ks.length).Nodup ∧ ∀ x, x ∈ firstB ks ks.length ↔ x ∈ ks := by
  unfold firstB
  rw [List.take_length]
  induction ks using List.snocInd with
  | h0 => exact ⟨List.nodup_nil, fun x => Iff.rfl⟩
  | h1 l a ih =>
    rw [List.foldl_append]
    refine ⟨addB_nodup ih.1, fun x => ?_⟩
    show x ∈ addB (l.foldl addB []) a ↔ _
    rw [addB_mem, ih.2, List.mem_append, List.mem_singleton]
/-- what the law reckons is the body's size -/
theorem most_all {Gs : List Font} {ys ks : List Oc} (hp : ys.Perm (firstB ks ks.length)) (hy : ∀ G ∈ Gs, ∀ b ∈ G.map (·.2), b.toList ∈ ks) : mostSum Gs ys ys.length = (bodyOf Gs).size := by
  obtain ⟨h1, h2⟩ := firstB_ok ks
  have hn : ys.Nodup := hp.nodup_iff.mpr h1
  rw [body_size Gs (ys := ys.map List.toArray) ?_ ?_]
  · unfold mostSum
    rw [List.take_length, List.map_map]
    rfl
  · exact List.Pairwise.map _ (fun x y (hxy : x ≠ y) e => hxy (by simpa using congrArg Array.toList e)) hn
  · intro G hG b hb
    exact List.mem_map.mpr ⟨b.toList, hp.mem_iff.mpr ((h2 _).mpr (hy G hG b hb)), by simp⟩
theorem body_mod (Gs : List Font) : (bodyOf Gs).size % 4 = 0 := by
  unfold bodyOf
  rw [cat_size_off]; exact off_mod _ _
theorem foundOf_at {b0 : Int} {P : List By} {G : Font} {tk : List Nat} {j : Nat} {k : Str} {b : By} {t : Nat} (h1 : G[j]? = some (k, b)) (h2 : tk[j]? = some t) : (foundOf b0 P G tk)[j]? = some (k, b0 + (off P t : Nat)) := by
  unfold foundOf
  rw [List.getElem?_zip_eq_some]
  exact ⟨by rw [List.getElem?_map, h1]; rfl, by rw [List.getElem?_map, h2]; rfl⟩
theorem KIntsAre.look_at : ∀ {kvs c}, KIntsAre kvs c → (c.map (·.1)).Nodup → ∀ {j : Nat} {k : Str} {n : Int}, c[j]? = some (k, n) → ∃ t, valueAt kvs k = some (.int n t)
  | _, _, .nil, _, j, k, n, h => by simp at h
  | _, _, .cons (k := k') (n := n') (t := t) (r := r) (r' := r') h, hn, 0, k, n, e => by
    simp at e; obtain ⟨rfl, rfl⟩ := e
    exact ⟨t, by simp [valueAt]⟩
  | _, _, .cons (k := k') (n := n') (t := t) (r := r) (r' := r') h, hn, j + 1, k, n, e => by
    have hn' := List.nodup_cons.mp hn
    have e' : r'[j]? = some (k, n) := by simpa using e
    have hm : k ∈ r'.map (·.1) := List.mem_map.mpr ⟨(k, n), List.mem_of_getElem? e', rfl⟩
    have hne : k' ≠ k := fun e => hn'.1 (e ▸ hm)
    obtain ⟨u, a⟩ := h.look_at hn'.2 e'
    refine ⟨u, ?_⟩
    unfold valueAt at a ⊢
    simpa [hne] using a
end Mine
end
section
open Lean Elab Tactic Meta PySem PySem.W PySem.Calls PyProof.Rows
namespace Mine
theorem setup16 : True := by
  k_with_none
  w_top off
  k_with "k_all" => first | assumption | exact Apart.off (by assumption) (by k_mem) (by simp) | (k_dflt (exact allNe (by assumption) (by (try dsimp only); omega)))
  k_with "k_mem" => first | with_reducible assumption | exact List.Mem.head _ | (refine' List.mem_cons_of_mem _ ?_; k_mem)
  k_with "cellc_enter" => (refine' code_defC ?Zk1 ?Zk2 ?Zk3 ?Zk4 ?Zk5 ?ZkA ?ZkF ?ZkK ?Zk6 ?Zk7 ?Zk8 ?Zk9 ?ZkB ?ZkD ?_ ?Zc2 ?Zc3 ?Zc4; (case ZkA => exact rfl); (case ZkF => exact rfl); (case ZkK => assumption); (case Zk1 => k_asm); (case Zk2 => k_asm); (case Zk3 => k_asm); (case Zk4 => k_asm); (case Zk5 => k_asm); (case Zk6 => k_is); (case Zk7 => k_is); (case Zk8 => ktr_room); (case Zk9 => exact BindsTo.of_eq rfl); (case ZkB => exact rfl); (case ZkD => decide +kernel); (case Zc2 => exact rfl); (case Zc3 => exact rfl); (case Zc4 => exact rfl); k_whole; intro g' L' h' tk' cells' FG' F' N' Y' B' X' T' l1; (try k_lt l1); k_cells Y'; (try simp only [List.cons_append, List.nil_append] at N'); (try dsimp only); (try k_lift B'); (try k_fold))
  k_with "eval ListComp" => (k_here; refine' comp_JC ?ZkF ?Zc1 ?Zc2 ?Zc7 ?Zc3 ?Zc4 ?Zc5 ?Zc6 ?_; (case ZkF => k_asm); (case Zc1 => with_unfolding_all rfl); (case Zc2 => intro _; with_unfolding_all rfl); (case Zc7 => intro _; with_unfolding_all rfl); (case Zc3 => with_unfolding_all rfl); (case Zc4 => decide); (case Zc5 => with_unfolding_all rfl); (case Zc6 => intro _; with_unfolding_all rfl); k_whole; (try k_fold))
  k_with "eval ListComp" => (k_here; refine' comp_Jf ?ZkF ?Zc1 ?Zc2 ?Zc3 ?Zc4 ?Zc5 ?Zc6 ?_; (case ZkF => k_asm); (case Zc1 => with_unfolding_all rfl); (case Zc2 => decide); (case Zc3 => with_unfolding_all rfl); (case Zc4 => decide); (case Zc5 => with_unfolding_all rfl); (case Zc6 => intro _; with_unfolding_all rfl); k_whole; (try k_fold))
  k_with "exec Assign cons ListComp" => (k_here; refine' comp_Jaf ?ZkF ?Zc0 ?Zc1 ?Zc2 ?Zc3 ?Zc4 ?Zc5 ?Zc7 ?Zc8 ?Zc6 ?_; (case ZkF => k_asm); (case Zc0 => with_unfolding_all rfl); (case Zc1 => with_unfolding_all rfl); (case Zc2 => decide); (case Zc3 => with_unfolding_all rfl); (case Zc4 => decide); (case Zc5 => with_unfolding_all rfl); (case Zc7 => with_unfolding_all rfl); (case Zc8 => with_unfolding_all rfl); (case Zc6 => intro _; with_unfolding_all rfl); k_whole; (try k_fold))
  k_with "exec For" => (k_here; refine' for_Jf ?ZkF ?Zc1 ?Zc2 ?_; (case ZkF => k_asm); (case Zc1 => intro _; with_unfolding_all rfl); (case Zc2 => intro _ _; with_unfolding_all rfl); k_whole; (try k_fold))
  k_with "eval Name" => (k_here; k_dflt (refine' nameX_L ?ZF ?Zv ?_ ?Zc ?Za ?Zb; (case ZF => k_asm); (case Zc => rfl); (case Za => rfl); (case Zb => decide); (case Zv => assumption); k_whole))
  k_with "eval Name" => (k_here; k_inBlock; k_dflt (refine' name_compF ?ZkN ?Zkc ?Zkm ?Zkd ?_ ?Zk1 ?Zk2 ?Zk3 ?Zk4; (case Zk1 => rfl); (case Zk2 => rfl); (case Zk3 => decide); (case Zk4 => decide); (case ZkN => k_asm); (case Zkc => rfl); (case Zkm => k_mem); (case Zkd => k_asm); k_whole))
  k_with "eval Name" => (k_here; k_inBlock; k_dflt (refine' name_compC ?ZkN ?Zkc ?Zkm ?Zkd ?_ ?Zk1 ?Zk2 ?Zk3; (case Zk1 => rfl); (case Zk2 => rfl); (case Zk3 => decide); (case ZkN => k_asm); (case Zkc => rfl); (case Zkm => k_mem); (case Zkd => k_asm); k_whole))
  k_with "eval Name" => (k_here; k_inBlock; k_dflt (refine' name_comp ?ZkN ?Zkm ?Zkn ?Zkv ?_ ?Zk1 ?Zk2 ?Zk3; (case Zk1 => rfl); (case Zk2 => rfl); (case Zk3 => decide); (case ZkN => k_asm); (case Zkn => assumption); (case Zkm => k_mem); (case Zkv => rfl); k_whole))
  k_with "call type:bytes" => (k_here; k_dflt (refine' call_bytes_ba ?Zho ?Zhz ?_; (case Zho => exact ((by k_asm : News _ _ _ _) _ (by k_mem)).1); (case Zhz => omega); k_whole); intro _ _)
  k_with "call type:bytes" => (k_here; k_dflt (refine' call_bytes_n ?Zh0 ?Zh1 ?_; (case Zh0 => first | omega | (refine Int.fmod_nonneg_of_pos _ ?_; omega) | (simp; omega)); (case Zh1 => omega); k_whole); intro _ _)
  k_with "call type:bytes" => (k_here; k_dflt (refine' KBa.make_K ?ZkF ?ZkN ?Zkh ?Zkl ?Zki ?Zkr ?Zkz ?_; (case ZkF => k_asm); (case ZkN => k_asm); (case Zkh => rfl); (case Zkl => exact News.isList (by k_asm) (by k_mem)); (case Zki => assumption); (case Zkr => assumption); (case Zkz => omega); k_whole); intro _ _ _ F' N' kbaIn)
  k_with "exec For Name Call cons nil" => (k_here; refine' for_Jf ?ZkF ?Zc1 ?Zc2 ?_; (case ZkF => k_asm); (case Zc1 => intro _; with_unfolding_all rfl); (case Zc2 => intro _ _; with_unfolding_all rfl); k_whole; (try k_fold))
  k_with "exec For Name Name cons nil" => (k_here; refine' for_Jf ?ZkF ?Zc1 ?Zc2 ?_; (case ZkF => k_asm); (case Zc1 => intro _; with_unfolding_all rfl); (case Zc2 => intro _ _; with_unfolding_all rfl); k_whole; (try k_fold))
  k_with "exec For Tuple" => (k_here; refine' for_JTf ?ZkF ?Zc1 ?_; (case ZkF => k_asm); (case Zc1 => intro _; with_unfolding_all rfl); k_whole; (try k_fold))
  k_with "exec For Name" => (k_here; refine' for_Jf ?ZkF ?Zc1 ?Zc2 ?_; (case ZkF => k_asm); (case Zc1 => intro _; with_unfolding_all rfl); (case Zc2 => intro _ _; with_unfolding_all rfl); k_whole; (try k_fold))
  k_with "binaryOp Add bytes bytes" => (k_here; k_dflt (refine' KBy.add_bytes ?Zhz ?_; (case Zhz => first | omega | (simp only [Array.size_replicate]; omega)); k_whole); intro _ _)
  k_with "call builtin:len" => (k_here; (with_reducible show wpAny _ _ (call (Value.builtin "len") [Value.ref _]) _ _ _); k_dflt (refine' len_set ?ZN ?Zm ?Zd ?Zz ?_; (case ZN => k_asm); (case Zm => exact List.Mem.head _); (case Zd => assumption); (case Zz => omega); k_whole))
  k_with "call builtin:len" => (k_here; (with_reducible show wpAny _ _ (call (Value.builtin "len") [Value.ref _]) _ _ _); k_dflt (refine' len_news ?ZN ?Zm ?Zz ?_; (case ZN => k_asm); (case Zm => k_mem); (case Zz => omega); k_whole))
  k_with "call builtin:len" => (k_here; (with_reducible show wpAny _ _ (call (Value.builtin "len") [Value.ref _]) _ _ _); k_dflt (refine' kda_len (knd := PySem.strKind _ _) ?ZN ?Zm ?Zd ?Zlo ?Zz ?_; (case ZN => k_asm); (case Zm => k_mem); (case Zd => assumption); (case Zlo => assumption); (case Zz => omega); k_whole))
  k_with "call builtin:len" => (k_here; (with_reducible show wpAny _ _ (call (Value.builtin "len") [Value.str _ _]) _ _ _); k_dflt (refine' len_str ?Zz ?_; (case Zz => omega); k_whole))
  k_with "call builtin:len" => (k_here; (with_reducible show wpAny _ _ (call (Value.builtin "len") [Value.bytes _ _]) _ _ _); k_dflt (refine' len_bytes ?Zz ?_; (case Zz => first | omega | (simp only [Array.size_append, Array.size_replicate]; omega)); k_whole))
  k_with "celln_enter" => (refine' codeN_defC ?Zk1 ?Zk2 ?Zk3 ?Zk4 ?Zk5 ?ZkA ?ZkF ?ZkK ?Zk6 ?Zk7 ?Zk8 ?Zk9 ?ZkB ?ZkD ?_ ?Zc2 ?Zc3 ?Zc4; (case ZkA => exact rfl); (case ZkF => exact rfl); (case ZkK => assumption); (case Zk1 => k_asm); (case Zk2 => k_asm); (case Zk3 => k_asm); (case Zk4 => k_asm); (case Zk5 => k_asm); (case Zk6 => k_is); (case Zk7 => k_is); (case Zk8 => ktr_room); (case Zk9 => exact BindsTo.of_eq rfl); (case ZkB => exact rfl); (case ZkD => decide +kernel); (case Zc2 => exact rfl); (case Zc3 => exact rfl); (case Zc4 => exact rfl); k_whole; intro g' L' h' tk' cells' FG' F' N' Y' B' X' T' l1; (try k_lt l1); (first | k_cells Y' | (cases Y')); (try simp only [List.cons_append, List.nil_append] at N'); (try dsimp only); (try k_lift B'); (try k_fold))
  k_with "getMethod ref" => (k_here; (with_reducible show wpAny _ _ (getMethod (Value.ref _) (PySem.Str.ofString "extend") _) _ _ _); k_dflt (refine' ba_method ?ZkN ?Zkm ?_; (case ZkN => k_asm); (case Zkm => k_mem); k_whole))
  k_with "getMethod ref" => (k_here; (with_reducible show wpAny _ _ (getMethod (Value.ref _) (PySem.Str.ofString "append") _) _ _ _); k_dflt (refine' listMethod_K ?ZN ?Zm PySem.F.slot_list_append PySem.F.type_list_append ?_; (case ZN => k_asm); (case Zm => k_mem); k_whole))
  k_with "getMethod bytes" => (k_here; k_dflt (refine' by_method ?_; k_whole))
  k_with "call builtin:bytes.join" => (k_here; k_dflt (refine' by_join ?Zhl ?Zhv ?Zhz ?_; (case Zhl => exact News.isList (by k_asm) (by k_mem)); (case Zhv => assumption); (case Zhz => omega); k_whole); intro _ _)
  k_with "call builtin:ord" => (k_here; k_dflt (refine' ord_of_char ?_; k_whole))
  k_with "compareOp NotIn" => (k_here; (with_reducible show wpAny _ _ (compareOp CmpOp.NotIn (Value.int _ _) (Value.ref _)) _ _ _); k_dflt (refine' notin_K ?ZkF ?ZkX ?ZkK ?Zki ?_; (case ZkF => k_asm); (case ZkX => k_asm); (case ZkK => k_is); (case Zki => exact IntsAre.cons _ _ (IntsAre.cons _ _ (IntsAre.cons _ _ IntsAre.nil))); k_whole))
  k_with "compareOp NotIn int ref" => (k_here; (with_reducible show wpAny _ _ (compareOp CmpOp.NotIn (Value.int _ _) (Value.ref _)) _ _ _); k_dflt (refine' notin_K ?ZkF ?ZkX ?ZkK ?Zki ?_; (case ZkF => k_asm); (case ZkX => k_asm); (case ZkK => k_is); (case Zki => exact IntsAre.cons _ _ (IntsAre.cons _ _ (IntsAre.cons _ _ IntsAre.nil))); k_whole))
  k_with "compareOp NotIn int ref" => (k_here; (with_reducible show wpAny _ _ (compareOp CmpOp.NotIn (Value.int _ _) (Value.ref _)) _ _ _); k_dflt (refine' notin_list_ints ?Zhl ?Zhi ?_; (case Zhl => exact News.isList (by k_asm) (by k_mem)); (case Zhi => assumption); k_whole))
  k_with "call builtin:min" => (k_here; k_dflt (refine' min_letter ?Zhh ?ZhF ?ZhN ?Zhz ?_; (case Zhh => with_unfolding_all rfl); (case ZhF => k_asm); (case ZhN => k_asm); (case Zhz => omega); k_whole); intro _ c9 _ _ _ hc9 F9 N9; (try k_sweep); (try k_fold))
  k_with "call builtin:max" => (k_here; k_dflt (refine' max_letter ?Zhh ?ZhF ?ZhN ?Zhz ?_; (case Zhh => with_unfolding_all rfl); (case ZhF => k_asm); (case ZhN => k_asm); (case Zhz => omega); k_whole); intro _ d9 _ _ _ hd9 F9 N9; (try k_sweep); (try k_fold))
  k_with "exec For Tuple Name cons nil" => (k_here; refine' for_JTf ?ZkF ?Zc1 ?_; (case ZkF => k_asm); (case Zc1 => intro _; with_unfolding_all rfl); k_whole; (try k_fold))
  k_with "subscriptTail" => (k_here; (with_reducible show wpAny _ _ (subscriptTail _ _ (Value.ref _) (Value.int _ _)) _ _ _); k_dflt (refine' item_newsA ?ZN ?Zm ?Zh0 ?Zhz ?Zhx ?_ ?Zhs ?Zhg; (case ZN => k_asm); (case Zm => k_mem); (case Zh0 => omega); (case Zhz => omega); (case Zhx => assumption); (case Zhs => with_unfolding_all rfl); (case Zhg => intro _; with_unfolding_all rfl); k_whole))
  k_with "subscriptTail" => (k_here; (with_reducible show wpAny _ _ (subscriptTail _ _ (Value.ref _) (Value.str _ _)) _ _ _); k_dflt (refine' kda_item (knd := PySem.strKind _ _) ?ZN ?Zm ?Zd ?Zk ?Zl ?_ ?Zhs ?Zhg; (case ZN => k_asm); (case Zm => k_mem); (case Zd => assumption); (case Zk => exact PySem.strKind_is _ _ _ _); (case Zl => assumption); (case Zhs => with_unfolding_all rfl); (case Zhg => intro _; with_unfolding_all rfl); k_whole))
  k_with "subscriptTail" => (k_here; (with_reducible show wpAny _ _ (subscriptTail _ _ (Value.ref _) (Value.int _ _)) _ _ _); k_dflt (refine' item_news ?ZN ?Zm ?Zh0 ?Zhz ?Zhx ?_ ?Zhs ?Zhg; (case ZN => k_asm); (case Zm => k_mem); (case Zh0 => omega); (case Zhz => omega); (case Zhx => assumption); (case Zhs => with_unfolding_all rfl); (case Zhg => intro _; with_unfolding_all rfl); k_whole))
  k_with "subscriptTail" => (k_here; (with_reducible show wpAny _ _ (subscriptTail _ (Expr.Slice _ _ none _) (Value.bytes _ _) (Value.ref _)) _ _ _); (with_reducible rename Fr _ _ _ _ => F'); (with_reducible rename News _ _ _ _ => N'); (refine slice_B (s := ⟨_, _, _, _, _⟩) F' N' (by constructor) (by constructor) (by omega) ?_ (by with_unfolding_all rfl) (by intro _; with_unfolding_all rfl)); intro _ _ _ F' N'; (try dsimp only); (try k_sweep); (try k_fold))
  k_with "compareOp Eq ref ref" => (k_here; (with_reducible show wpAny _ _ (compareOp CmpOp.Eq (Value.ref _) (Value.ref _)) _ _ _); k_dflt (refine' eq_nilT ?Zk1 ?Zk2 ?Zk3 ?Zk4 ?Zk5 ?_; (case Zk1 => exact News.isList (by k_asm) (by k_mem)); (case Zk2 => assumption); (case Zk3 => assumption); (case Zk4 => exact News.isList (by k_asm) (by k_mem)); (case Zk5 => ktr_units); k_whole))
  k_with "compareOp Eq ref ref" => (k_here; (with_reducible show wpAny _ _ (compareOp CmpOp.Eq (Value.ref _) (Value.ref _)) _ _ _); k_dflt (refine' eq_nilF ?Zk1 ?Zk2 ?Zk3 ?Zk4 ?Zk5 ?_; (case Zk1 => exact News.isList (by k_asm) (by k_mem)); (case Zk2 => assumption); (case Zk3 => assumption); (case Zk4 => exact News.isList (by k_asm) (by k_mem)); (case Zk5 => ktr_units); k_whole))
  k_with "call builtin:sorted" => (k_here; (with_reducible show wpAny _ _ (call (Value.builtin "sorted") [Value.ref _]) _ _ _); k_dflt (refine' sorted_tags ?Zhh ?ZF ?ZN ?Zm ?Zo ?Zlo ?Zhs ?_; (case Zhh => with_unfolding_all rfl); (case ZF => k_asm); (case ZN => k_asm); (case Zm => k_mem); (case Zo => assumption); (case Zlo => assumption); (case Zhs => assumption); k_whole); intro sD sn sh stk svals F' N' l1 sS; (try simp only [AllLt, and_true] at l1); (try dsimp only); (try k_sweep))
  k_with "setItem ref str" => (k_here; (with_reducible show wpAny _ _ (setItem (Value.ref _) (Value.str _ _) _) _ _ _); k_dflt (refine' kda_set (knd := PySem.strKind _ _) ?ZF ?ZN ?ZU ?Zd ?Zk ?Zz ?_; (case ZF => k_asm); (case ZN => k_asm); (case ZU => k_updF); (case Zd => assumption); (case Zk => exact PySem.strKind_is _ _ _ _); (case Zz => assumption)); intro h' o' F' N' hd'; (try dsimp only at N'); (try k_sweep))
  k_with "subscriptTail Name Name ref int" => (k_here; (with_reducible show wpAny _ _ (subscriptTail _ _ (Value.ref _) (Value.int _ _)) _ _ _); k_dflt (refine' item_newsA ?ZN ?Zm ?Zh0 ?Zhz ?Zhx ?_ ?Zhs ?Zhg; (case ZN => k_asm); (case Zm => k_mem); (case Zh0 => omega); (case Zhz => omega); (case Zhx => assumption); (case Zhs => with_unfolding_all rfl); (case Zhg => intro _; with_unfolding_all rfl); k_whole))
  k_with "subscriptTail Name Name ref int" => (k_here; (with_reducible show wpAny _ _ (subscriptTail _ _ (Value.ref _) (Value.int _ _)) _ _ _); k_dflt (refine' item_news ?ZN ?Zm ?Zh0 ?Zhz ?Zhx ?_ ?Zhs ?Zhg; (case ZN => k_asm); (case Zm => k_mem); (case Zh0 => omega); (case Zhz => omega); (case Zhx => assumption); (case Zhs => with_unfolding_all rfl); (case Zhg => intro _; with_unfolding_all rfl); k_whole))
  k_with "subscriptTail Name Name ref str" => (k_here; (with_reducible show wpAny _ _ (subscriptTail _ _ (Value.ref _) (Value.str _ _)) _ _ _); k_dflt (refine' kda_item (knd := PySem.strKind _ _) ?ZN ?Zm ?Zd ?Zk ?Zl ?_ ?Zhs ?Zhg; (case ZN => k_asm); (case Zm => k_mem); (case Zd => assumption); (case Zk => exact PySem.strKind_is _ _ _ _); (case Zl => assumption); (case Zhs => with_unfolding_all rfl); (case Zhg => intro _; with_unfolding_all rfl); k_whole))
  k_with "subscriptTail Name Constant ref int" => (k_here; (with_reducible show wpAny _ _ (subscriptTail _ _ (Value.ref _) (Value.int _ _)) _ _ _); k_dflt (refine' item_newsA ?ZN ?Zm ?Zh0 ?Zhz ?Zhx ?_ ?Zhs ?Zhg; (case ZN => k_asm); (case Zm => k_mem); (case Zh0 => omega); (case Zhz => omega); (case Zhx => assumption); (case Zhs => with_unfolding_all rfl); (case Zhg => intro _; with_unfolding_all rfl); k_whole))
  k_with "subscriptTail Name Constant ref int" => (k_here; (with_reducible show wpAny _ _ (subscriptTail _ _ (Value.ref _) (Value.int _ _)) _ _ _); k_dflt (refine' item_news ?ZN ?Zm ?Zh0 ?Zhz ?Zhx ?_ ?Zhs ?Zhg; (case ZN => k_asm); (case Zm => k_mem); (case Zh0 => omega); (case Zhz => omega); (case Zhx => assumption); (case Zhs => with_unfolding_all rfl); (case Zhg => intro _; with_unfolding_all rfl); k_whole))
  k_with "subscriptTail Name Constant ref int" => (k_here; (with_reducible show wpAny _ _ (subscriptTail _ _ (Value.ref _) (Value.int _ _)) _ _ _); k_dflt (refine' item_one ?ZN ?Zm ?_ ?Zhs ?Zhg; (case ZN => k_asm); (case Zm => k_mem); (case Zhs => with_unfolding_all rfl); (case Zhg => intro _; with_unfolding_all rfl); k_whole))
  k_with "subscriptTail Name Constant ref int" => (k_here; (with_reducible show wpAny _ _ (subscriptTail _ _ (Value.ref _) (Value.int 1 _)) _ _ _); k_dflt (refine' item_pair ?ZN ?Zm ?_ ?Zhs ?Zhg; (case ZN => k_asm); (case Zm => k_mem); (case Zhs => with_unfolding_all rfl); (case Zhg => intro _; with_unfolding_all rfl); k_whole))
  k_with "subscriptTail Name Constant ref str" => (k_here; (with_reducible show wpAny _ _ (subscriptTail _ _ (Value.ref _) (Value.str _ _)) _ _ _); k_dflt (refine' kda_item (knd := PySem.strKind _ _) ?ZN ?Zm ?Zd ?Zk ?Zl ?_ ?Zhs ?Zhg; (case ZN => k_asm); (case Zm => k_mem); (case Zd => assumption); (case Zk => exact PySem.strKind_is _ _ _ _); (case Zl => assumption); (case Zhs => with_unfolding_all rfl); (case Zhg => intro _; with_unfolding_all rfl); k_whole))
  k_with "subscriptTail Name Subscript ref int" => (k_here; (with_reducible show wpAny _ _ (subscriptTail _ _ (Value.ref _) (Value.int _ _)) _ _ _); k_dflt (refine' item_newsA ?ZN ?Zm ?Zh0 ?Zhz ?Zhx ?_ ?Zhs ?Zhg; (case ZN => k_asm); (case Zm => k_mem); (case Zh0 => omega); (case Zhz => omega); (case Zhx => assumption); (case Zhs => with_unfolding_all rfl); (case Zhg => intro _; with_unfolding_all rfl); k_whole))
  k_with "subscriptTail Name Subscript ref int" => (k_here; (with_reducible show wpAny _ _ (subscriptTail _ _ (Value.ref _) (Value.int _ _)) _ _ _); k_dflt (refine' item_news ?ZN ?Zm ?Zh0 ?Zhz ?Zhx ?_ ?Zhs ?Zhg; (case ZN => k_asm); (case Zm => k_mem); (case Zh0 => omega); (case Zhz => omega); (case Zhx => assumption); (case Zhs => with_unfolding_all rfl); (case Zhg => intro _; with_unfolding_all rfl); k_whole))
  k_with "subscriptTail Name Subscript ref str" => (k_here; (with_reducible show wpAny _ _ (subscriptTail _ _ (Value.ref _) (Value.str _ _)) _ _ _); k_dflt (refine' kda_item (knd := PySem.strKind _ _) ?ZN ?Zm ?Zd ?Zk ?Zl ?_ ?Zhs ?Zhg; (case ZN => k_asm); (case Zm => k_mem); (case Zd => assumption); (case Zk => exact PySem.strKind_is _ _ _ _); (case Zl => assumption); (case Zhs => with_unfolding_all rfl); (case Zhg => intro _; with_unfolding_all rfl); k_whole))
  k_with "subscriptTail Subscript Name ref int" => (k_here; (with_reducible show wpAny _ _ (subscriptTail _ _ (Value.ref _) (Value.int _ _)) _ _ _); k_dflt (refine' item_newsA ?ZN ?Zm ?Zh0 ?Zhz ?Zhx ?_ ?Zhs ?Zhg; (case ZN => k_asm); (case Zm => k_mem); (case Zh0 => omega); (case Zhz => omega); (case Zhx => assumption); (case Zhs => with_unfolding_all rfl); (case Zhg => intro _; with_unfolding_all rfl); k_whole))
  k_with "subscriptTail Subscript Name ref int" => (k_here; (with_reducible show wpAny _ _ (subscriptTail _ _ (Value.ref _) (Value.int _ _)) _ _ _); k_dflt (refine' item_news ?ZN ?Zm ?Zh0 ?Zhz ?Zhx ?_ ?Zhs ?Zhg; (case ZN => k_asm); (case Zm => k_mem); (case Zh0 => omega); (case Zhz => omega); (case Zhx => assumption); (case Zhs => with_unfolding_all rfl); (case Zhg => intro _; with_unfolding_all rfl); k_whole))
  k_with "subscriptTail Subscript Name ref str" => (k_here; (with_reducible show wpAny _ _ (subscriptTail _ _ (Value.ref _) (Value.str _ _)) _ _ _); k_dflt (refine' kda_item (knd := PySem.strKind _ _) ?ZN ?Zm ?Zd ?Zk ?Zl ?_ ?Zhs ?Zhg; (case ZN => k_asm); (case Zm => k_mem); (case Zd => assumption); (case Zk => exact PySem.strKind_is _ _ _ _); (case Zl => assumption); (case Zhs => with_unfolding_all rfl); (case Zhg => intro _; with_unfolding_all rfl); k_whole))
  k_with "subscriptTail Subscript Constant ref int" => (k_here; (with_reducible show wpAny _ _ (subscriptTail _ _ (Value.ref _) (Value.int _ _)) _ _ _); k_dflt (refine' item_newsA ?ZN ?Zm ?Zh0 ?Zhz ?Zhx ?_ ?Zhs ?Zhg; (case ZN => k_asm); (case Zm => k_mem); (case Zh0 => omega); (case Zhz => omega); (case Zhx => assumption); (case Zhs => with_unfolding_all rfl); (case Zhg => intro _; with_unfolding_all rfl); k_whole))
  k_with "subscriptTail Subscript Constant ref int" => (k_here; (with_reducible show wpAny _ _ (subscriptTail _ _ (Value.ref _) (Value.int _ _)) _ _ _); k_dflt (refine' item_news ?ZN ?Zm ?Zh0 ?Zhz ?Zhx ?_ ?Zhs ?Zhg; (case ZN => k_asm); (case Zm => k_mem); (case Zh0 => omega); (case Zhz => omega); (case Zhx => assumption); (case Zhs => with_unfolding_all rfl); (case Zhg => intro _; with_unfolding_all rfl); k_whole))
  k_with "subscriptTail Subscript Constant ref int" => (k_here; (with_reducible show wpAny _ _ (subscriptTail _ _ (Value.ref _) (Value.int 1 _)) _ _ _); k_dflt (refine' item_pair ?ZN ?Zm ?_ ?Zhs ?Zhg; (case ZN => k_asm); (case Zm => k_mem); (case Zhs => with_unfolding_all rfl); (case Zhg => intro _; with_unfolding_all rfl); k_whole))
  k_with "subscriptTail Subscript Constant ref str" => (k_here; (with_reducible show wpAny _ _ (subscriptTail _ _ (Value.ref _) (Value.str _ _)) _ _ _); k_dflt (refine' kda_item (knd := PySem.strKind _ _) ?ZN ?Zm ?Zd ?Zk ?Zl ?_ ?Zhs ?Zhg; (case ZN => k_asm); (case Zm => k_mem); (case Zd => assumption); (case Zk => exact PySem.strKind_is _ _ _ _); (case Zl => assumption); (case Zhs => with_unfolding_all rfl); (case Zhg => intro _; with_unfolding_all rfl); k_whole))
  k_with "subscriptTail Attribute Name ref int" => (k_here; (with_reducible show wpAny _ _ (subscriptTail _ _ (Value.ref _) (Value.int _ _)) _ _ _); k_dflt (refine' item_newsA ?ZN ?Zm ?Zh0 ?Zhz ?Zhx ?_ ?Zhs ?Zhg; (case ZN => k_asm); (case Zm => k_mem); (case Zh0 => omega); (case Zhz => omega); (case Zhx => assumption); (case Zhs => with_unfolding_all rfl); (case Zhg => intro _; with_unfolding_all rfl); k_whole))
  k_with "subscriptTail Attribute Name ref int" => (k_here; (with_reducible show wpAny _ _ (subscriptTail _ _ (Value.ref _) (Value.int _ _)) _ _ _); k_dflt (refine' item_news ?ZN ?Zm ?Zh0 ?Zhz ?Zhx ?_ ?Zhs ?Zhg; (case ZN => k_asm); (case Zm => k_mem); (case Zh0 => omega); (case Zhz => omega); (case Zhx => assumption); (case Zhs => with_unfolding_all rfl); (case Zhg => intro _; with_unfolding_all rfl); k_whole))
  k_with "subscriptTail Attribute Name ref str" => (k_here; (with_reducible show wpAny _ _ (subscriptTail _ _ (Value.ref _) (Value.str _ _)) _ _ _); k_dflt (refine' kda_item (knd := PySem.strKind _ _) ?ZN ?Zm ?Zd ?Zk ?Zl ?_ ?Zhs ?Zhg; (case ZN => k_asm); (case Zm => k_mem); (case Zd => assumption); (case Zk => exact PySem.strKind_is _ _ _ _); (case Zl => assumption); (case Zhs => with_unfolding_all rfl); (case Zhg => intro _; with_unfolding_all rfl); k_whole))
  k_with "subscriptTail Name BinOp ref int" => (k_here; (with_reducible show wpAny _ _ (subscriptTail _ _ (Value.ref _) (Value.int _ _)) _ _ _); k_dflt (refine' item_newsA ?ZN ?Zm ?Zh0 ?Zhz ?Zhx ?_ ?Zhs ?Zhg; (case ZN => k_asm); (case Zm => k_mem); (case Zh0 => omega); (case Zhz => omega); (case Zhx => assumption); (case Zhs => with_unfolding_all rfl); (case Zhg => intro _; with_unfolding_all rfl); k_whole))
  k_with "subscriptTail Name BinOp ref int" => (k_here; (with_reducible show wpAny _ _ (subscriptTail _ _ (Value.ref _) (Value.int _ _)) _ _ _); k_dflt (refine' item_news ?ZN ?Zm ?Zh0 ?Zhz ?Zhx ?_ ?Zhs ?Zhg; (case ZN => k_asm); (case Zm => k_mem); (case Zh0 => omega); (case Zhz => omega); (case Zhx => assumption); (case Zhs => with_unfolding_all rfl); (case Zhg => intro _; with_unfolding_all rfl); k_whole))
  k_with "subscriptTail Name BinOp ref str" => (k_here; (with_reducible show wpAny _ _ (subscriptTail _ _ (Value.ref _) (Value.str _ _)) _ _ _); k_dflt (refine' kda_item (knd := PySem.strKind _ _) ?ZN ?Zm ?Zd ?Zk ?Zl ?_ ?Zhs ?Zhg; (case ZN => k_asm); (case Zm => k_mem); (case Zd => assumption); (case Zk => exact PySem.strKind_is _ _ _ _); (case Zl => assumption); (case Zhs => with_unfolding_all rfl); (case Zhg => intro _; with_unfolding_all rfl); k_whole))
  k_with "subscriptTail Name Call ref int" => (k_here; (with_reducible show wpAny _ _ (subscriptTail _ _ (Value.ref _) (Value.int _ _)) _ _ _); k_dflt (refine' item_newsA ?ZN ?Zm ?Zh0 ?Zhz ?Zhx ?_ ?Zhs ?Zhg; (case ZN => k_asm); (case Zm => k_mem); (case Zh0 => omega); (case Zhz => omega); (case Zhx => assumption); (case Zhs => with_unfolding_all rfl); (case Zhg => intro _; with_unfolding_all rfl); k_whole))
  k_with "subscriptTail Name Call ref int" => (k_here; (with_reducible show wpAny _ _ (subscriptTail _ _ (Value.ref _) (Value.int _ _)) _ _ _); k_dflt (refine' item_news ?ZN ?Zm ?Zh0 ?Zhz ?Zhx ?_ ?Zhs ?Zhg; (case ZN => k_asm); (case Zm => k_mem); (case Zh0 => omega); (case Zhz => omega); (case Zhx => assumption); (case Zhs => with_unfolding_all rfl); (case Zhg => intro _; with_unfolding_all rfl); k_whole))
  k_with "subscriptTail Name Call ref str" => (k_here; (with_reducible show wpAny _ _ (subscriptTail _ _ (Value.ref _) (Value.str _ _)) _ _ _); k_dflt (refine' kda_item (knd := PySem.strKind _ _) ?ZN ?Zm ?Zd ?Zk ?Zl ?_ ?Zhs ?Zhg; (case ZN => k_asm); (case Zm => k_mem); (case Zd => assumption); (case Zk => exact PySem.strKind_is _ _ _ _); (case Zl => assumption); (case Zhs => with_unfolding_all rfl); (case Zhg => intro _; with_unfolding_all rfl); k_whole))
  k_with "k_ne" => first | assumption | exact Ne.symm (by assumption) | exact Nat.ne_of_lt (by assumption) | exact Nat.ne_of_gt (by assumption) | exact Nat.ne_of_lt (And.left (by assumption)) | exact Nat.ne_of_gt (And.left (by assumption)) | exact Nat.ne_of_lt (And.left (And.right (by assumption))) | exact Nat.ne_of_gt (And.left (And.right (by assumption))) | exact Nat.ne_of_lt (And.left (And.right (And.right (by assumption)))) | exact Nat.ne_of_gt (And.left (And.right (And.right (by assumption)))) | exact Nat.ne_of_lt (And.left (And.right (And.right (And.right (by assumption))))) | exact Nat.ne_of_gt (And.left (And.right (And.right (And.right (by assumption))))) | exact Nat.ne_of_lt (And.left (And.right (And.right (And.right (And.right (by assumption)))))) | exact Nat.ne_of_gt (And.left (And.right (And.right (And.right (And.right (by assumption)))))) | exact Nat.ne_of_lt (And.left (And.right (And.right (And.right (And.right (And.right (by assumption))))))) | exact Nat.ne_of_gt (And.left (And.right (And.right (And.right (And.right (And.right (by assumption))))))) | exact Nat.ne_of_lt (And.left (And.right (And.right (And.right (And.right (And.right (And.right (by assumption)))))))) | exact Nat.ne_of_gt (And.left (And.right (And.right (And.right (And.right (And.right (And.right (by assumption)))))))) | exact Nat.ne_of_lt (And.left (And.right (And.right (And.right (And.right (And.right (And.right (And.right (by assumption))))))))) | exact Nat.ne_of_gt (And.left (And.right (And.right (And.right (And.right (And.right (And.right (And.right (by assumption))))))))) | exact Nat.ne_of_lt (And.left (And.right (And.right (And.right (And.right (And.right (And.right (And.right (And.right (by assumption)))))))))) | exact Nat.ne_of_gt (And.left (And.right (And.right (And.right (And.right (And.right (And.right (And.right (And.right (by assumption)))))))))) | omega
  k_with "k_sub" => ((try simp only [List.cons_append]); (repeat' (first | exact (fun _ h => h) | (with_reducible refine sub_cons ?_ ?_) | (with_reducible refine sub_append ?_ ?_))); all_goals (first | ((repeat (first | exact List.Mem.head _ | (with_reducible apply List.mem_cons_of_mem) | (with_reducible apply List.mem_append_right))); done) | ((repeat (with_reducible apply List.mem_cons_of_mem)); (with_reducible apply List.mem_append_left); (repeat (first | exact List.Mem.head _ | (with_reducible apply List.mem_cons_of_mem) | (with_reducible apply List.mem_append_right))); done) | (intro _ hp; (repeat (first | exact hp | exact List.mem_append_left _ hp | exact List.mem_append_left _ (List.mem_append_left _ hp) | exact List.mem_append_left _ (List.mem_append_right _ hp) | (with_reducible apply List.mem_cons_of_mem) | (with_reducible apply List.mem_append_right))); done) | (intro _ hp; (repeat (with_reducible apply List.mem_cons_of_mem)); (with_reducible apply List.mem_append_left); (repeat (first | exact hp | exact List.mem_append_left _ hp | exact List.mem_append_left _ (List.mem_append_left _ hp) | exact List.mem_append_left _ (List.mem_append_right _ hp) | (with_reducible apply List.mem_cons_of_mem) | (with_reducible apply List.mem_append_right))); done)))
  k_with "compareOp NotEq ref ref" => (k_here; (with_reducible show wpAny _ _ (compareOp CmpOp.NotEq (Value.ref _) (Value.ref _)) _ _ _); k_dflt (refine' ne_strsF ?Zha ?Zhb ?Zhi ?Zhj ?Zh1 ?Zhe ?Zhu ?_; (case Zha => exact News.isList (by k_asm) (by k_mem)); (case Zhb => exact News.isList (by k_asm) (by k_mem)); (case Zhi => assumption); (case Zhj => assumption); (case Zh1 => assumption); (case Zhe => assumption); (case Zhu => ktr_units); k_whole))
  k_with "subscriptTail Name Slice bytes ref" => (k_here; (with_reducible show wpAny _ _ (subscriptTail _ (Expr.Slice _ _ none _) (Value.bytes _ _) (Value.ref _)) _ _ _); (with_reducible rename Fr _ _ _ _ => F'); (with_reducible rename News _ _ _ _ => N'); (refine slice_B (s := ⟨_, _, _, _, _⟩) F' N' (by constructor) (by constructor) (by omega) ?_ (by with_unfolding_all rfl) (by intro _; with_unfolding_all rfl)); intro _ _ _ F' N'; (try dsimp only); (try k_sweep); (try k_fold))
  k_with "call type:set" => (k_here; (with_reducible show wpAny _ _ (call (Value.type "set") [Value.ref _]) _ _ _); k_dflt (refine' newSet_I ?ZF ?ZN ?Zhh ?Zhl ?Zhi ?Zhd ?Zhb ?_; (case ZF => k_asm); (case ZN => k_asm); (case Zhh => with_unfolding_all rfl); (case Zhl => exact News.isList (by k_asm) (by k_mem)); (case Zhi => assumption); (case Zhd => assumption); (case Zhb => omega)); intro h9 tk9 oS9 SS9 F9 N9 hS9; (try dsimp only); (try k_sweep); (try k_fold))
  k_with "cellt_enter" => (refine' codeN_topC ?Zk3 ?Zk5 ?Zk6 ?Zk7 ?Zk8 ?Zk9 ?ZkB ?ZkD ?_ ?Zc2 ?Zc3 ?Zc4; (case Zk3 => k_asm); (case Zk5 => k_asm); (case Zk6 => k_is); (case Zk7 => k_is); (case Zk8 => first | ktr_room | decide); (case Zk9 => exact BindsTo.of_eq rfl); (case ZkB => exact rfl); (case ZkD => decide +kernel); (case Zc2 => exact rfl); (case Zc3 => exact rfl); (case Zc4 => exact rfl); k_whole; intro g' L' h' tk' cells' hg' F' N' Y' B' X' T'; k_cells Y'; (try simp only [List.cons_append, List.nil_append] at N'); (try dsimp only); (try k_lift B'); (try k_fold))
  trivial
/-- behind the law's first line: the tape -/
inductive LS1 (news : Led) (g : Heap) (L : Addr) (o3 o2 : Obj) (s s' : Shared) : Prop
  | mk_ (h : Heap) (tk : Nat) (mx : Str → Option Value) (tp c : Addr) (vs : List Value) (ns : List Int) (nc : Nat) (ta : Tok) (ex : Led) (o1 : Obj) (e : s' = { s with heap := h, toks := tk }) (F : Fr g L h mx)
    (N : News g L h ((tp, PySem.W.listOf #[.ref c, .int 0 ta] 0) :: (L + 1 + 1 + 1, o3) :: (L + 1 + 1, o2) :: (L + 1, o1) :: (ex ++ news))) (d1 : o1.data = .cell (some (.ref tp)))
    (hc : (c, PySem.W.listOf vs.toArray nc) ∈ ex) (hns : IntsAre vs ns) (hnl : 0 < ns.length ∧ ns.length ≤ 50) (htp : L + 1 + 1 + 1 < tp) (hex : ∀ p ∈ ex, L + 1 + 1 + 1 < p.1 ∧ p.1 < tp)
theorem LS1.mk {news mid : Led} {g h : Heap} {L tp c : Addr} {o3 o2 o1 : Obj} {s : Shared} {tk nc : Nat} {mx : Str → Option Value} {vs : List Value} {ns : List Int} {ta : Tok} (F : Fr g L h mx)
    (N : News g L h ((tp, PySem.W.listOf #[.ref c, .int 0 ta] 0) :: (c, PySem.W.listOf vs.toArray nc) :: (mid ++ (L + 1 + 1 + 1, o3) :: (L + 1 + 1, o2) :: (L + 1, o1) :: news))) (d : o1.data = .cell (some (.ref tp))) (hI : IntsAre vs ns)
    (h1 : 0 < ns.length ∧ ns.length ≤ 50) (a : L + 1 + 1 + 1 < c) (b : c < tp) : LS1 news g L o3 o2 s { s with heap := h, toks := tk } := by
  refine ⟨h, tk, mx, tp, c, vs, ns, nc, ta, [(c, PySem.W.listOf vs.toArray nc)], o1, rfl, F, News.sub N fun p hp => ?_, d, .head _, hI, h1, Nat.lt_trans a b, fun p hp => by rw [List.mem_singleton.mp hp]; exact ⟨a, b⟩⟩
  simp only [List.mem_cons, List.mem_append, List.not_mem_nil, or_false] at hp ⊢
  rcases hp with h | h | h | h | h | h <;> simp [h]
/-- the fonts that the law has made so far -/
structure FJ (w : World) (bs : List By) (ex2 : Led) (fvs : List Value) (Gs : List Font) : Prop where
  fonts : FontsAt w ex2 fvs Gs
  ne : ∀ G ∈ Gs, G ≠ []
  from_ : ∀ G ∈ Gs, ∀ b ∈ G.map (·.2), b ∈ bs
theorem tokGen {h₀ h : Heap} {L TT d : Addr} {t : Tok} {r : Led} (N : News h₀ L h ((TT, { cls := .type "tuple", data := .seq #[.int 65536 t, .ref d] }) :: r)) :
    ∃ t9, News h₀ L h ((TT, { cls := .type "tuple", data := .seq #[.int 65536 t9, .ref d] }) :: r) := ⟨t, N⟩
theorem post_sub : [Str.ofString "post"].Sublist tagL := by decide +kernel
theorem FJ.snoc {w : World} {bs : List By} {ex ex' : Led} {fvs : List Value} {Gs : List Font} {G : Font} {TT d : Addr} {t : Tok} (h : FJ w bs ex fvs Gs) (hs : ∀ p ∈ ex, p ∈ ex')
    (hT : (TT, { cls := .type "tuple", data := .seq #[.int 65536 t, .ref d] }) ∈ ex') (hD : TabAt' PySem.Challenge.rw_pb0184_01.row.prog w ex' d G) (hne : G ≠ []) (hb : ∀ x ∈ G, x.2 ∈ bs) : FJ w bs ex' (fvs ++ [.ref TT]) (Gs ++ [G]) := by
  have hl := h.fonts.len
  refine ⟨⟨by simp [hl], fun i v e => ?_⟩, fun H hH => ?_, fun H hH b hb' => ?_⟩
  · by_cases hlt : i < fvs.length
    · rw [List.getElem?_append_left hlt] at e
      obtain ⟨H, a, b⟩ := (h.fonts.sub hs).at_ i v e
      exact ⟨H, by rw [List.getElem?_append_left (by rw [← hl]; exact hlt)]; exact a, b⟩
    · have hi : i = fvs.length := by
        have := (List.getElem?_eq_some_iff.mp e).1
        simp at this; omega
      subst hi
      simp at e
      exact ⟨G, by rw [hl]; simp, TT, d, t, e.symm, hT, hD⟩
  · rcases List.mem_append.mp hH with h' | h'
    · exact h.ne H h'
    · rw [List.mem_singleton.mp h']; exact hne
  · rcases List.mem_append.mp hH with h' | h'
    · exact h.from_ H h' b hb'
    · rw [List.mem_singleton.mp h'] at hb'
      obtain ⟨x, hx, rfl⟩ := List.mem_map.mp hb'
      exact hb x hx
inductive LA (tp c : Addr) (rest : Led) (i : Nat) (acc : List Value) (nw : Led) : Prop
  | mk (at_ : Int) (ta n : Nat) (hnw : nw = (tp, PySem.W.listOf #[.ref c, .int at_ ta] n) :: rest) (hat : 0 ≤ at_ ∧ at_ ≤ 7 * i) (hal : acc.length = i) (bs : List By) (hbs : BytesAre acc bs) (hbz : ∀ b ∈ bs, b.size ≤ 6)
inductive LB (tp c : Addr) (rest : Led) (at_ : Int) (j : Nat) (acc : List Value) (nw : Led) : Prop
  | mk (at5 : Int) (ta5 n5 : Nat) (hnw : nw = (tp, PySem.W.listOf #[.ref c, .int at5 ta5] n5) :: rest) (hat : at_ + 1 ≤ at5 ∧ at5 ≤ at_ + 1 + j) (zs : List Int) (hzs : IntsAre acc zs) (hzb : ∀ z ∈ zs, 0 ≤ z ∧ z < 256) (hzl : zs.length = j)
inductive LC (w : World) (tp c FL : Addr) (rest : Led) (bs : List By) (i : Nat) (m : Str → Option Value) (nw : Led) : Prop
  | mk (hm : m (Str.ofString "fonts") = some (.ref FL)) (at5 : Int) (ta5 n5 nf : Nat) (fvs : List Value) (Gs : List Font) (ex2 : Led) (hnw : nw = (tp, PySem.W.listOf #[.ref c, .int at5 ta5] n5) :: (FL, PySem.W.listOf fvs.toArray nf) :: (ex2 ++ rest)) (hat : 0 ≤ at5 ∧ at5 ≤ 22 + 8 * i) (hGl : Gs.length = i) (hFJ : FJ w bs ex2 fvs Gs) (hx : ∀ p ∈ ex2, FL < p.1)
inductive LD (tp c FL : Addr) (WW : Led) (bs : List By) (at5 : Int) (oF : Obj) (j : Nat) (acc : List Value) (nw : Led) : Prop
  | mk (at7 : Int) (ta7 n7 : Nat) (ex3 : Led) (ps : List (Str × Value)) (G : Font) (hnw : nw = (tp, PySem.W.listOf #[.ref c, .int at7 ta7] n7) :: (ex3 ++ (FL, oF) :: WW)) (hat : at5 ≤ at7 ∧ at7 ≤ at5 + 2 * j) (hPs : PairsAt ex3 acc ps G) (hGs : (G.map (·.1)).Sublist (tagL.take j)) (hGb : ∀ x ∈ G, x.2 ∈ bs) (hx : ∀ p ∈ ex3, FL < p.1 ∧ ∀ q ∈ WW, q.1 < p.1)
inductive LE (FL PL : Addr) (bd : Value) (b0 : Int) (Z : Led) (i : Nat) (m : Str → Option Value) (nw : Led) : Prop
  | mk (hmf : m (Str.ofString "fonts") = some (.ref FL)) (hmp : m (Str.ofString "places") = some (.ref PL)) (hmo : m (Str.ofString "octets") = some bd) (hmb : ∃ tbg, m (Str.ofString "begin") = some (.int b0 tbg)) (hnw : nw = Z)
inductive LF (FL PL : Addr) (bd : Value) (b0 : Int) (d TK : Addr) (q8 : Int) (Y : Led) (oc : List Int) (m : Str → Option Value) (nw : Led) : Prop
  | mk (hmf : m (Str.ofString "fonts") = some (.ref FL)) (hmp : m (Str.ofString "places") = some (.ref PL)) (hmo : m (Str.ofString "octets") = some bd) (hmb : ∃ tbg, m (Str.ofString "begin") = some (.int b0 tbg)) (hmt : m (Str.ofString "tables") = some (.ref d)) (hmk : m (Str.ofString "taken") = some (.ref TK))
    (hms : ∃ tv, m (Str.ofString "spot") = some (.int q8 tv)) (nt : Nat) (tvs : List Value) (hnw : nw = (TK, PySem.W.listOf tvs.toArray nt) :: Y) (hti : IntsAre tvs oc)
inductive LG (FL SA : Addr) (oS : Obj) (c3 : Addr) (Z : Led) (bd : Value) (most : Int) (m : Str → Option Value) (nw : Led) : Prop
  | mk (hmf : m (Str.ofString "fonts") = some (.ref FL)) (hmo : m (Str.ofString "octets") = some bd) (hmm : ∃ tm, m (Str.ofString "most") = some (.int most tm)) (o3' : Obj) (hnw : nw = (SA, oS) :: (c3, o3') :: Z) (y : Option Value) (d3 : o3'.data = .cell y)
theorem n_law {w : World} {s : Shared} {mean : ExcName → Option Value} {mg mb : PySem.Str → Option Value} {sl : Addr} {svs : List Value} {ks : List Int} {Q : Value → Shared → Prop}
    (T : Top Mine.hd.view_39 (looseW Mine.hd.view_39 [Str.ofString "ShapeError", Str.ofString "VERSIONS"]) mean mg mb s.heap) (X₀ : (Mine.K w.params).In s.heap)
    (hl : s.heap.IsList sl svs.toArray) (hi : IntsAre svs ks) (h63 : ks.length ≤ 63)
    (hret : ∀ h' tk' d', (∀ b o, s.heap.get? b = some o → h'.get? b = some o) → Q (.bool true) { s with heap := h', toks := tk', drawn := d' }) :
    wpN (model PySem.Challenge.rw_pb0184_01.row.prog w) callerA (call (.ref 303) [.ref sl]) Q s := by
  revert X₀; k_fill; intro X₀
  obtain ⟨news, hnews⟩ : ∃ news : Led, news = [] := ⟨_, rfl⟩
  refine N_call ?_
  k_dflt (walk_at "cellt_enter")
  have hsl : svs.length = ks.length := hi.length
  rename_i o3 o2 o1 d3 d2 d1
  have hlg : g'.IsList sl svs.toArray := hg' ▸ hl
  have l1 : ∀ p ∈ news, p.1 < L' := by rw [hnews]; exact fun p h => nomatch h
  have N'' : News g' L' h' ((L' + 1 + 1 + 1, o3) :: (L' + 1 + 1, o2) :: (L' + 1, o1) :: news) := by rw [hnews]; exact N'
  clear N'
  refine N_execs_any (wpAny_mono (Q := fun f s' => f = .next ∧ LS1 news g' L' o3 o2 s s') ?Zfirst ?Zrest fun _ _ e => e)
  case Zfirst =>
    k_steps
    · trivial
    · have h6 := ‹_ < _ ∧ _ < _ ∧ _ < _ ∧ _ < _ ∧ _ < _ ∧ AllLt _ _›
      have h5 := ‹_ < _ ∧ _ < _ ∧ _ < _ ∧ _ < _ ∧ AllLt _ _›
      have hI := ‹IntsAre _ (List.take 50 ks)›
      have hC := ‹(List.take 50 ks).length = min 50 ks.length›
      have hpos := ‹0 < (List.take 50 ks).length›
      exact LS1.mk (mid := [_]) (by assumption) (by assumption) (by assumption) hI ⟨hpos, by omega⟩ h5.2.1 h6.1
    · trivial
    · have h7 := ‹_ < _ ∧ _ < _ ∧ _ < _ ∧ _ < _ ∧ _ < _ ∧ _ < _ ∧ AllLt _ _›
      have h6 := ‹_ < _ ∧ _ < _ ∧ _ < _ ∧ _ < _ ∧ _ < _ ∧ AllLt _ _›
      exact LS1.mk (vs := [Value.int 1 _]) (mid := [_, _]) (by assumption) (by assumption) (by assumption) (IntsAre.cons _ _ IntsAre.nil) ⟨by decide, by decide⟩ h6.2.2.1 h7.1
  case Zrest =>
    rintro f s2 ⟨rfl, h2, tk2, mx, tp, c, vs, ns, nc, ta, ex, o1b, rfl, F2, N2, d1b, hc, hns, hnl, htp, hex⟩
    dsimp only
    have hx : ∀ p ∈ ((L' + 1 + 1 + 1, o3) :: (L' + 1 + 1, o2) :: (L' + 1, o1b) :: (ex ++ news) : Led), p.1 ≠ tp := by
      intro p hp
      simp only [List.mem_cons, List.mem_append] at hp
      have key : @LT.lt Nat _ p.1 tp := by
        rcases hp with rfl | rfl | rfl | hp | hp
        · exact htp
        · exact Nat.lt_trans (Nat.lt_succ_self _) htp
        · exact Nat.lt_trans (Nat.lt_succ_of_lt (Nat.lt_succ_self _)) htp
        · exact (hex p hp).2
        · exact Nat.lt_trans (Nat.lt_succ_of_lt (Nat.lt_succ_of_lt (Nat.lt_succ_of_lt (l1 p hp)))) htp
      exact Nat.ne_of_lt key
    obtain ⟨rest, hrest⟩ : ∃ rest : Led, rest = (L' + 1 + 1 + 1, o3) :: (L' + 1 + 1, o2) :: (L' + 1, o1b) :: (ex ++ news) := ⟨_, rfl⟩
    have hcr : (c, PySem.W.listOf vs.toArray nc) ∈ rest := by rw [hrest]; exact .tail _ (.tail _ (.tail _ (List.mem_append_left _ hc)))
    have hto : (L' + 1, o1b) ∈ rest := by rw [hrest]; exact .tail _ (.tail _ (.head _))
    rw [← hrest] at hx N2
    k_with "call ref" => (k_here; k_dflt (refine' Con.use (c_draw (news := []) ?Zp0 ?Zp1 ?Zp2 ?Zp3 ?Zp4 ?Zp5) ?ZkB ?ZkF ?ZkX ?ZkN ?ZkT ?Zkk ?Zkd ?Zku ?_; (case ZkB => k_asm); (case ZkF => k_asm); (case ZkX => k_in); (case ZkN => k_asm); (case ZkT => k_asm); (case Zkk => first | exact rfl | assumption); (case Zp0 => exact hr9); (case Zp1 => exact hc9); (case Zp2 => exact hns); (case Zp3 => omega); (case Zp4 => omega); (case Zp5 => omega); (case Zkd => ktr_room); (case Zku => ktr_units); intro v9 h9 tk9 nw9 hp9 F9 N9; obtain ⟨r9, tr9, n9, ta9, e1, hr0, hr1, e2⟩ := hp9; obtain ⟨q9, e3⟩ := Int.eq_ofNat_of_zero_le hr0; subst e3; subst e1; subst e2; (try dsimp only); (try k_sweep); (try k_fold)))
    refine N_execs_any ?_
    k_steps
    k_dflt (refine' iters_range ?Zhh ?ZhF ?ZhN ?Zhl ?Zhs ?Zhn ?_; (case Zhh => with_unfolding_all rfl); (case ZhF => k_asm); (case ZhN => k_asm); (case Zhl => assumption); (case Zhs => decide); (case Zhn => rfl))
    rintro fp wr St h3 tk3 T2
    dsimp only
    refine ⟨_, _, _, _, _, _, _, _, _, _, _, T2, by size_fits, (fun q hq => by cases hq), LA tp c rest, ⟨0, ta, 0, rfl, by omega, rfl, [], .nil, by simp⟩, ?_, ?_⟩
    · rintro C i v acc nw oC own h4 tk4 E' hi4 hv4 ⟨at_, ta4, n4, hnw, hat, hal, bs, hbs, hbz⟩ hlq hNC hC F4 N4 hap
      subst nw
      refine turn_nil ?_
      have hi4' : i < 3 := hi4
      have hr9 : ∀ p ∈ rest ++ own, p.1 ≠ tp := fun p hp => (List.mem_append.mp hp).elim (hx p) (Apart.off hap (.head _) (fun h => by cases h) p)
      have hc9 := List.mem_append_left own hcr
      have hto9 := List.mem_append_left own hto
      have hm := List.mem_append_right rest hC
      simp only [List.cons_append] at N4
      (try k_unmd); (try k_fold)
      k_steps
      k_dflt (refine' iters_range ?Zhh ?ZhF ?ZhN ?Zhl ?Zhs ?Zhn ?_; (case Zhh => with_unfolding_all rfl); (case ZhF => k_asm); (case ZhN => k_asm); (case Zhl => assumption); (case Zhs => exact small_up (by omega)); (case Zhn => exact rsize_up _))
      rintro fp5 wr5 St5 h5 tk5 T5
      dsimp only
      refine ⟨_, _, _, _, _, _, _, _, _, _, _, T5, (by rw [sizeLine_eq]; omega), (fun q hq => by cases hq), LB tp c (rest ++ own) at_, ⟨at_ + 1, ta9, n9, rfl, by omega, [], .nil, by simp, rfl⟩, ?_, ?_⟩
      · rintro C5 j v5 acc5 nw5 oC5 own5 h6 tk6 E5 hj hv5 ⟨at5, ta5, n5, hnw5, hat5, zs, hzs, hzb, hzl⟩ hl5 hNC5 hC5 F6 N6 hap5
        subst hnw5
        refine turn_nil ?_
        have hj' : j < q9 := hj
        have hr9 : ∀ p ∈ (rest ++ own) ++ own5, p.1 ≠ tp := fun p hp => (List.mem_append.mp hp).elim (hr9 p) (Apart.off hap5 (.head _) (fun h => by cases h) p)
        have hc9 := List.mem_append_left own5 hc9
        have hto9 := List.mem_append_left own5 hto9
        have hm5 := List.mem_append_right (rest ++ own) hC5
        simp only [List.cons_append] at N6
        (try k_unmd); (try k_fold)
        k_steps
        refine' ⟨_, _, _, (tp, PySem.W.listOf #[.ref c, .int (at5 + 1) ta9] n9) :: (rest ++ own), ?ZhF, ?ZhN, hap5.same rfl, ?ZhJ⟩
        (case ZhF => k_asm)
        (case ZhN => k_asm)
        (case ZhJ => refine ⟨rfl, at5 + 1, _, _, rfl, by omega, zs ++ [(q9 : Int) + 1], Ints.snoc hzs, fun z hz => ?_, by simp [hzl]⟩; rcases List.mem_append.mp hz with h | h; exact hzb z h; rw [List.mem_singleton.mp h]; omega)
      · rintro D5 nD5 h6 tk6 acc5 nw5 F6 N6 hoff5 hl5 ⟨at5, ta5, n5, hnw5, hat5, zs, hzs, hzb, hzl⟩
        subst hnw5
        k_steps
        refine' ⟨_, _, _, (tp, PySem.W.listOf #[.ref c, .int at5 ta5] n5) :: rest, ?ZhF, ?ZhN, hap.same rfl, ?ZhJ⟩
        (case ZhF => k_asm)
        (case ZhN => first | k_asm | exact News.tail_ N' | (refine News.sub (by k_asm : News _ _ _ ((_, _) :: (tp, _) :: (rest ++ own))) fun p hp => List.mem_cons_of_mem _ hp))
        (case ZhJ => refine ⟨rfl, at5, _, _, rfl, by omega, by simp [hal], bs ++ [byteArr zs], BytesAre.snoc hbs, fun b hb => ?_⟩; rcases List.mem_append.mp hb with h | h; exact hbz b h; rw [List.mem_singleton.mp h]; simp [byteArr]; omega)
    · rintro D nD h4 tk4 acc nw F4 N4 hoff hlq ⟨at_, ta4, n4, hnw, hat, hal, bs, hbs, hbz⟩
      subst nw
      subst hrest
      have n1 : @Ne Nat D (L' + 1 + 1) := fun e => hoff (L' + 1 + 1, o2) (.tail _ (.tail _ (.head _))) e.symm
      have n2 : @Ne Nat tp (L' + 1 + 1) := Ne.symm (Nat.ne_of_lt (Nat.lt_trans (Nat.lt_succ_self _) htp))
      have n3 : ∀ p ∈ (ex ++ news), p.1 ≠ L' + 1 + 1 := fun p hp => (List.mem_append.mp hp).elim (fun h => Ne.symm (Nat.ne_of_lt (Nat.lt_trans (Nat.lt_succ_self _) (hex p h).1))) (fun h => Nat.ne_of_lt (Nat.lt_succ_of_lt (Nat.lt_succ_of_lt (l1 p h))))
      (try dsimp only); (try k_unmd); (try k_fold)
      k_steps
      rename_i o2p FP NP d2p
      refine N_execs_any ?_
      k_steps
      rename_i FL _ lFL _ F0 N0
      have hall := allLt_mem (l := (D, PySem.W.listOf acc.toArray nD) :: (tp, PySem.W.listOf #[.ref c, .int at_ ta4] n4) :: (L' + 1 + 1 + 1, o3) :: (L' + 1 + 1, o2p) :: (L' + 1, o1b) :: (ex ++ news)) lFL
      clear lFL
      have hDF : @LT.lt Nat _ D FL := hall _ (.head _)
      have htF : @LT.lt Nat _ tp FL := hall _ (.tail _ (.head _))
      have hDt : @Ne Nat D tp := fun e => hoff _ (List.Mem.head _) e.symm
      obtain ⟨rest, hrest⟩ : ∃ rest : Led, rest = (D, PySem.W.listOf acc.toArray nD) :: (L' + 1 + 1 + 1, o3) :: (L' + 1 + 1, o2p) :: (L' + 1, o1b) :: (ex ++ news) := ⟨_, rfl⟩
      have hrF : ∀ p ∈ rest, p.1 ≠ FL := fun p hp => by
        rw [hrest] at hp
        refine Nat.ne_of_lt (hall p ?_)
        rcases List.mem_cons.mp hp with rfl | hp
        · exact .head _
        · exact .tail _ (.tail _ hp)
      have hrt : ∀ p ∈ rest, p.1 ≠ tp := fun p hp => by
        rw [hrest] at hp
        rcases List.mem_cons.mp hp with rfl | hp
        · exact hDt
        · rcases List.mem_cons.mp hp with rfl | hp
          · exact Nat.ne_of_lt htp
          · rcases List.mem_cons.mp hp with rfl | hp
            · exact Nat.ne_of_lt (Nat.lt_trans (Nat.lt_succ_self _) htp)
            · refine hx p ?_
              rcases List.mem_cons.mp hp with rfl | hp
              · exact .tail _ (.tail _ (.head _))
              · exact .tail _ (.tail _ (.tail _ hp))
      have hDr : (D, PySem.W.listOf acc.toArray nD) ∈ rest := by rw [hrest]; exact .head _
      have h3r : (L' + 1 + 1 + 1, o3) ∈ rest := by rw [hrest]; k_mem
      have h2r : (L' + 1 + 1, o2p) ∈ rest := by rw [hrest]; k_mem
      have h1r : (L' + 1, o1b) ∈ rest := by rw [hrest]; k_mem
      have hcr' : (c, PySem.W.listOf vs.toArray nc) ∈ rest := by rw [hrest]; exact .tail _ (.tail _ (.tail _ (.tail _ (List.mem_append_left _ hc))))
      have N1 : News g' L' _ ((tp, PySem.W.listOf #[.ref c, .int at_ ta4] n4) :: (FL, PySem.W.listOf ([] : List Value).toArray 0) :: rest) := News.sub N0 (by rw [hrest]; k_extra "k_sub")
      clear N0 hx hcr hto T2 n1 n2 n3 hall
      have hat21 : 0 ≤ at_ ∧ at_ ≤ 21 := by have e : (((3 + 0 - Nat.succ 0) / 1 + 1 : Nat) : Int) = 3 := rfl; rw [e] at hat; omega
      have hal3 : acc.length = 3 := hal
      clear hat hal hlq
      have hrF' : ∀ p ∈ (FL, PySem.W.listOf ([] : List Value).toArray 0) :: rest, p.1 ≠ tp := fun p hp => by
        rcases List.mem_cons.mp hp with rfl | hp
        · exact (Nat.ne_of_lt htF).symm
        · exact hrt p hp
      have hr9 := hrF'
      have hc9 := List.mem_cons_of_mem (FL, PySem.W.listOf ([] : List Value).toArray 0) hcr'
      have hpool : ∀ q : Nat, q < 3 → ∃ b tb, acc[((q : Nat) : Int).toNat]? = some (.bytes b tb) ∧ b ∈ bs := fun q hq => by
        have hb3 : bs.length = 3 := by rw [← hbs.length]; exact hal3
        have hbq : bs[q]? = some (bs[q]'(by omega)) := List.getElem?_eq_getElem (by omega)
        obtain ⟨tb, h⟩ := hbs.at hbq
        exact ⟨_, tb, h, List.mem_of_getElem? hbq⟩
      refine N_execs_any ?_
      k_steps
      have e9 : 1 + (q9 : Int) = ((1 + q9 : Nat) : Int) := by omega
      k_dflt (refine' iters_range ?Zhh ?ZhF ?ZhN ?Zhl ?Zhs ?Zhn ?_; (case Zhh => with_unfolding_all rfl); (case ZhF => k_asm); (case ZhN => k_asm); (case Zhl => assumption); (case Zhs => rw [e9]; exact small_up (by omega)); (case Zhn => rw [e9]; exact rsize_up _))
      rintro fpf wrf Stf hf3 tkf3 Tf
      dsimp only
      refine ⟨_, _, _, _, _, _, _, _, _, _, Tf, LC w tp c FL rest bs,
        ⟨rfl, at_ + 1, ta9, n9, 0, [], [], [], rfl, by omega, rfl, ⟨⟨rfl, fun i v h => by simp at h⟩, (fun G h => nomatch h), fun G h => nomatch h⟩, fun p h => nomatch h⟩, ?_, ?_⟩
      · rintro Qx i v m₁ nw own h5 tk5 E' hi hv ⟨hmf, at5, ta5, n5, nf, fvs, Gs, ex2, hnw, hat5, hGl, hFJ, hx2⟩ F5 N5 hap
        subst hnw
        have hi4 : i < 4 := by omega
        have hfl4 : fvs.length ≤ 4 := by rw [hFJ.fonts.len]; omega
        have wt : ∀ p ∈ (FL, PySem.W.listOf fvs.toArray nf) :: ((ex2 ++ rest) ++ own), p.1 ≠ tp := fun p hp => by
          rcases List.mem_cons.mp hp with rfl | hp
          · exact (Nat.ne_of_lt htF).symm
          · rcases List.mem_append.mp hp with hp | hp
            · rcases List.mem_append.mp hp with hp | hp
              · exact (Nat.ne_of_lt (Nat.lt_trans htF (hx2 p hp))).symm
              · exact hrt p hp
            · exact Apart.off hap (.head _) (fun h => by cases h) p hp
        have wF : ∀ p ∈ (ex2 ++ rest) ++ own, p.1 ≠ FL := fun p hp => by
          rcases List.mem_append.mp hp with hp | hp
          · rcases List.mem_append.mp hp with hp | hp
            · exact (Nat.ne_of_lt (hx2 p hp)).symm
            · exact hrF p hp
          · exact Apart.off hap (.tail _ (.head _)) (fun h => by cases h) p hp
        obtain ⟨WW, hW⟩ : ∃ WW : Led, WW = (ex2 ++ rest) ++ own := ⟨_, rfl⟩
        have hWr : ∀ p ∈ rest, p ∈ WW := fun p hp => by rw [hW]; exact List.mem_append_left _ (List.mem_append_right _ hp)
        have hDW := hWr _ hDr
        have h3W := hWr _ h3r
        have h2W := hWr _ h2r
        have h1W := hWr _ h1r
        have hcW := hWr _ hcr'
        simp only [List.cons_append] at N5
        rw [← hW] at N5 wt wF
        have hr9 := wt
        have hc9 := List.mem_cons_of_mem (FL, PySem.W.listOf fvs.toArray nf) hcW
        (try k_unmd); (try k_fold)
        k_steps
        k_dflt (refine' iters_tupleK (K := Mine.K w.params) ?Zhh ?ZhF ?ZhN ?ZhX ?ZhK ?_; (case Zhh => with_unfolding_all rfl); (case ZhF => k_asm); (case ZhN => k_asm); (case ZhX => k_asm); (case ZhK => k_is))
        rintro fp7 wr7 St7 h7 tk7 b7 T7
        dsimp only
        refine ⟨_, _, _, _, _, _, _, _, _, _, _, T7, by size_fits, (fun b hb => (b7 b hb).2), LD tp c FL WW bs at5 (PySem.W.listOf fvs.toArray nf),
          ⟨at5, ta5, n5, [], [], [], rfl, by omega, PairsAt.nil, List.Sublist.refl _, (fun x h => nomatch h), fun p h => nomatch h⟩, ?_, ?_⟩
        · rintro C7 j v7 acc7 nw7 oC7 own7 h8 tk8 E7 hj hv7 ⟨at7, ta7, n7, ex3, ps, G, hnw7, hat7, hPs, hGs, hGb, hx3⟩ hl7 hNC7 hC7 F8 N8 hap7
          subst hnw7
          refine tests_one ?_
          obtain ⟨k, tg, rfl, hkj⟩ := StrsAre.at (vs := [.str (Str.ofString "cmap") 555, .str (Str.ofString "glyf") 556, .str (Str.ofString "head") 557, .str (Str.ofString "post") 558]) (ss := tagL) (.cons _ _ (.cons _ _ (.cons _ _ (.cons _ _ .nil)))) (by simpa using hv7)
          have hj4 : j < 4 := hj
          have wt8 : ∀ p ∈ (ex3 ++ (FL, PySem.W.listOf fvs.toArray nf) :: WW) ++ own7, p.1 ≠ tp := fun p hp => by
            rcases List.mem_append.mp hp with hp | hp
            · rcases List.mem_append.mp hp with hp | hp
              · exact (Nat.ne_of_lt (Nat.lt_trans htF (hx3 p hp).1)).symm
              · exact wt p hp
            · refine (hap7 p hp).elim (fun h => ?_) fun h => h _ (.head _)
              rw [List.mem_singleton.mp h]
              exact Nat.ne_of_lt (Nat.lt_trans (Nat.lt_trans (b7 _ (.head _)).1 (Nat.lt_succ_of_lt (Nat.lt_succ_of_lt (Nat.lt_succ_self _)))) htp)
          simp only [List.cons_append] at N8
          obtain ⟨W8, hW8⟩ : ∃ W8 : Led, W8 = (ex3 ++ (FL, PySem.W.listOf fvs.toArray nf) :: WW) ++ own7 := ⟨_, rfl⟩
          have hW8r : ∀ p ∈ WW, p ∈ W8 := fun p hp => by rw [hW8]; exact List.mem_append_left _ (List.mem_append_right _ (.tail _ hp))
          have hr9 : ∀ p ∈ W8, p.1 ≠ tp := by rw [hW8]; exact wt8
          have hDW := hW8r _ hDW
          have h3W := hW8r _ h3W
          have h2W := hW8r _ h2W
          have h1W := hW8r _ h1W
          have hc9 := hW8r _ hcW
          have hm7 : (C7, oC7) ∈ W8 := by rw [hW8]; exact List.mem_append_right _ hC7
          rw [← hW8] at N8
          (try k_unmd); (try k_fold)
          k_steps
          · have hq3 : q9 < 3 := by omega
            obtain ⟨pb, ptk, hpx, hpb⟩ := hpool q9 hq3
            have hpb6 := hbz _ hpb
            k_steps
            rename_i TN _ FN NN lTN
            have hTN := allLt_mem (l := (tp, PySem.W.listOf #[.ref c, .int (at7 + 1 + 1) ta9] n9) :: W8) lTN
            show Turn _ _ _ _ _ _ _
            refine' ⟨_, _, _, (tp, PySem.W.listOf #[.ref c, .int (at7 + 1 + 1) ta9] n9) :: (((TN, { cls := .type "tuple", data := .seq #[.str k tg, .bytes pb ptk] }) :: ex3) ++ (FL, PySem.W.listOf fvs.toArray nf) :: WW), FN, ?ZxN, ?ZxA, rfl, at7 + 1 + 1, _, _, (TN, { cls := .type "tuple", data := .seq #[.str k tg, .bytes pb ptk] }) :: ex3, ps ++ [(k, .bytes pb ptk)], G ++ [(k, pb)], rfl, by omega, hPs.snoc, ?ZxS, ?ZxB, ?ZxL⟩
            · subst hW8
              refine News.sub NN ?_
              k_extra "k_sub"
            · refine hap7.of_sub fun q hq => ?_
              simp only [List.mem_cons, List.cons_append] at hq
              rcases hq with h | h | h
              · exact .inl ⟨_, .head _, by rw [h]⟩
              · exact .inr fun p hp => by rw [h]; exact Nat.ne_of_lt (hTN p (.tail _ (by rw [hW8]; exact List.mem_append_right _ hp)))
              · exact .inl ⟨q, .tail _ h, rfl⟩
            · rw [List.map_append, List.map_singleton]; exact sub_snoc hGs hkj
            · intro x hx
              rcases List.mem_append.mp hx with h | h
              · exact hGb x h
              · rw [List.mem_singleton.mp h]; exact hpb
            · intro p hp
              rcases List.mem_cons.mp hp with rfl | hp
              · exact ⟨hTN _ (.tail _ (by rw [hW8]; exact List.mem_append_left _ (List.mem_append_right _ (.head _)))), fun q hq => hTN _ (.tail _ (hW8r _ hq))⟩
              · exact hx3 p hp
          · refine' ⟨_, _, _, (tp, PySem.W.listOf #[.ref c, .int (at7 + 1) ta9] n9) :: (ex3 ++ (FL, PySem.W.listOf fvs.toArray nf) :: WW), (by k_asm), (by subst hW8; k_asm), hap7.same rfl, rfl, at7 + 1, _, _, ex3, ps, G, rfl, by omega, hPs, sub_skip hGs, hGb, hx3⟩
        · rintro D7 nD7 h8 tk8 acc7 nw7 F8 N8 hoff8 hl8 ⟨at7, ta7, n7, ex3, ps, G, hnw7, hat7, hPs, hGs, hGb, hx3⟩
          subst hnw7
          have hat8 : at7 ≤ at5 + 8 := hat7.2
          have hl84 : acc7.length ≤ 4 := hl8
          have hGs' : (G.map (·.1)).Sublist tagL := hGs
          have hpk : ps.map (·.1) = G.map (·.1) := hPs.kv.keys
          clear hGs hl8
          obtain ⟨W9, hW9⟩ : ∃ W9 : Led, W9 = ex3 ++ WW := ⟨_, rfl⟩
          have N9 : News g' L' h8 ((D7, PySem.W.listOf acc7.toArray nD7) :: (tp, PySem.W.listOf #[.ref c, .int at7 ta7] n7) :: (FL, PySem.W.listOf fvs.toArray nf) :: W9) := by
            rw [hW9]
            refine News.sub N8 ?_
            k_extra "k_sub"
          have hW9r : ∀ p ∈ WW, p ∈ W9 := fun p hp => by rw [hW9]; exact List.mem_append_right _ hp
          have hW9x : ∀ p ∈ ex3, p ∈ W9 := fun p hp => by rw [hW9]; exact List.mem_append_left _ hp
          have w9F : ∀ p ∈ W9, p.1 ≠ FL := fun p hp => by
            rw [hW9] at hp
            rcases List.mem_append.mp hp with hp | hp
            · exact (Nat.ne_of_lt (hx3 p hp).1).symm
            · exact wF p hp
          have hD7 : @Ne Nat D7 FL := fun e => hoff8 _ (.tail _ (List.mem_append_right _ (.head _))) e.symm
          have hDW9 := hW9r _ hDW
          have h2W9 := hW9r _ h2W
          have hlW9 : ∀ p ∈ own, p ∈ W9 := fun p hp => hW9r p (by rw [hW]; exact List.mem_append_right _ hp)
          clear N8
          (try dsimp only); (try k_unmd); (try k_fold)
          k_steps
          k_dflt (refine' call_dict_pairs (ps := ps) ?Zhh ?Zhb ?ZhF ?ZhN ?Zhl ?Zhn ?Zhd ?Zhz ?ZhT ?_; (case Zhh => with_unfolding_all rfl); (case Zhb => exact modules_low (Top.nolimit (by k_asm))); (case ZhF => k_asm); (case ZhN => exact N9); (case Zhl => exact .head _); (case Zhn => rw [hPs.len, List.size_toArray]); (case Zhd => rw [hpk]; exact hGs'.nodup tagL_nodup); (case Zhz => rw [List.size_toArray]; omega))
          (case ZhT =>
            intro q x hq
            obtain ⟨p, h1, T, t, h2, h3⟩ := hPs.at_ q x (by simpa using hq)
            exact ⟨p, h1, T, t, h2, .tail _ (.tail _ (.tail _ (hW9x _ h3)))⟩)
          intro DT oT hT tkT FT NT lT loT hdT
          have hlT := allLt_mem lT
          have hFT : @LT.lt Nat _ FL DT := hlT _ (.tail _ (.tail _ (.head _)))
          dsimp only
          obtain ⟨pb0, pt0, hp0, hpb0⟩ := hpool 0 (by decide)
          have hp0' : acc[(0 : Int).toNat]? = some (.bytes pb0 pt0) := hp0
          have hpb06 := hbz _ hpb0
          k_steps
          rename_i dE _ oE _ _ loE hsE _ _ _ lE
          have hFE : @LT.lt Nat _ DT dE := lE.1
          k_dflt (refine' ne_empty ?ZhN ?Zha ?Zhb ?Zhd ?Zhe ?Zla ?Zlb ?Zhu ?_; (case ZhN => k_asm); (case Zha => exact .tail _ (.head _)); (case Zhb => exact .head _); (case Zhd => exact hdT); (case Zhe => exact hsE); (case Zla => exact loT); (case Zlb => exact loE); (case Zhu => ktr_units))
          by_cases hps : ps = []
          · rw [decide_eq_true hps]
            (try dsimp only)
            k_steps
            rename_i dP _ _ loP _ lP _ oP hdP TP _ lTP _ FN NN
            have hlP := allLt_mem (l := (dE, oE) :: (DT, oT) :: (D7, PySem.W.listOf acc7.toArray nD7) :: (tp, PySem.W.listOf #[.ref c, .int at7 ta7] n7) :: (FL, PySem.W.listOf fvs.toArray nf) :: W9) lP
            have hlTP := allLt_mem (l := (dP, oP) :: (dE, oE) :: (DT, oT) :: (D7, PySem.W.listOf acc7.toArray nD7) :: (tp, PySem.W.listOf #[.ref c, .int at7 ta7] n7) :: (FL, PySem.W.listOf fvs.toArray nf) :: W9) lTP
            have hdP' : oP.IsDictOf (PySem.strKind PySem.Challenge.rw_pb0184_01.row.prog w) [(Str.ofString "post", .bytes pb0 pt0)] := hdP
            have hnew : ∀ t, FJ w bs ((TP, { cls := .type "tuple", data := .seq #[.int 65536 t, .ref dP] }) :: (dP, oP) :: ex2) (fvs ++ [.ref TP]) (Gs ++ [[(Str.ofString "post", pb0)]]) := fun t =>
              hFJ.snoc (fun p hp => .tail _ (.tail _ (hp))) (.head _) ⟨⟨oP, _, .tail _ (.head _), hdP', .cons .nil⟩, loP, post_sub, fun x hx => by rw [List.mem_singleton.mp hx]; exact hpb06⟩ (fun h => nomatch h) (fun x hx => by rw [List.mem_singleton.mp hx]; exact hpb0)
            rw [List.push_toArray] at NN
            obtain ⟨t9, NN⟩ := tokGen NN
            have NX := News.sub (b := ((tp, PySem.W.listOf #[.ref c, .int at7 ta7] n7) :: (FL, PySem.W.listOf (fvs ++ [Value.ref TP]).toArray (nf + 1)) :: (((TP, { cls := .type "tuple", data := .seq #[.int 65536 t9, .ref dP] }) :: (dP, oP) :: ex2) ++ rest)) ++ own) NN (by rw [hW9, hW]; k_extra "k_sub")
            refine ⟨_, _, _, (tp, PySem.W.listOf #[.ref c, .int at7 ta7] n7) :: (FL, PySem.W.listOf (fvs ++ [Value.ref TP]).toArray (nf + 1)) :: (((TP, { cls := .type "tuple", data := .seq #[.int 65536 t9, .ref dP] }) :: (dP, oP) :: ex2) ++ rest), FN, NX, ?_, hmf, at7, _, _, _, _, _, _, rfl, by omega, by simp [hGl], hnew _, ?_⟩
            · refine hap.of_sub fun q hq => ?_
              simp only [List.mem_cons, List.mem_append, List.cons_append, or_assoc] at hq
              rcases hq with h | h | h | h | h | h
              · exact .inl ⟨_, .head _, by rw [h]⟩
              · exact .inl ⟨_, .tail _ (.head _), by rw [h]⟩
              · exact .inr fun p hp => by rw [h]; exact Nat.ne_of_lt (hlTP p (.tail _ (.tail _ (.tail _ (.tail _ (.tail _ (.tail _ (hlW9 p hp))))))))
              · exact .inr fun p hp => by rw [h]; exact Nat.ne_of_lt (hlP p (.tail _ (.tail _ (.tail _ (.tail _ (.tail _ (hlW9 p hp)))))))
              · exact .inl ⟨q, .tail _ (.tail _ (List.mem_append_left _ h)), rfl⟩
              · exact .inl ⟨q, .tail _ (.tail _ (List.mem_append_right _ h)), rfl⟩
            · intro p hp
              rcases List.mem_cons.mp hp with rfl | hp
              · exact hlTP _ (.tail _ (.tail _ (.tail _ (.tail _ (.tail _ (.head _))))))
              · rcases List.mem_cons.mp hp with rfl | hp
                · exact hlP _ (.tail _ (.tail _ (.tail _ (.tail _ (.head _)))))
                · exact hx2 p hp
          · rw [decide_eq_false hps]
            (try dsimp only)
            k_steps
            rename_i TT _ lTT _ FN NN
            have hlE := allLt_mem (l := (dE, oE) :: (DT, oT) :: (D7, PySem.W.listOf acc7.toArray nD7) :: (tp, PySem.W.listOf #[.ref c, .int at7 ta7] n7) :: (FL, PySem.W.listOf fvs.toArray nf) :: W9) lTT
            have hGne : G ≠ [] := fun e => by
              have := hPs.kv.length
              rw [e] at this
              exact hps (List.length_eq_zero_iff.mp this)
            have hnew : ∀ t, FJ w bs ((TT, { cls := .type "tuple", data := .seq #[.int 65536 t, .ref DT] }) :: (DT, oT) :: (ex3 ++ ex2)) (fvs ++ [.ref TT]) (Gs ++ [G]) := fun t =>
              hFJ.snoc (fun p hp => .tail _ (.tail _ (List.mem_append_right _ hp))) (.head _) ⟨⟨oT, ps, .tail _ (.head _), hdT, hPs.kv⟩, loT, hGs', fun x hx => hbz _ (hGb x hx)⟩ hGne hGb
            rw [List.push_toArray] at NN
            obtain ⟨t9, NN⟩ := tokGen NN
            have NX := News.sub (b := ((tp, PySem.W.listOf #[.ref c, .int at7 ta7] n7) :: (FL, PySem.W.listOf (fvs ++ [Value.ref TT]).toArray (nf + 1)) :: (((TT, { cls := .type "tuple", data := .seq #[.int 65536 t9, .ref DT] }) :: (DT, oT) :: (ex3 ++ ex2)) ++ rest)) ++ own) NN (by rw [hW9, hW]; k_extra "k_sub")
            refine ⟨_, _, _, (tp, PySem.W.listOf #[.ref c, .int at7 ta7] n7) :: (FL, PySem.W.listOf (fvs ++ [Value.ref TT]).toArray (nf + 1)) :: (((TT, { cls := .type "tuple", data := .seq #[.int 65536 t9, .ref DT] }) :: (DT, oT) :: (ex3 ++ ex2)) ++ rest), FN, NX, ?_, hmf, at7, _, _, _, _, _, _, rfl, by omega, by simp [hGl], hnew _, ?_⟩
            · refine hap.of_sub fun q hq => ?_
              simp only [List.mem_cons, List.mem_append, List.cons_append, or_assoc] at hq
              rcases hq with h | h | h | h | h | h | h
              · exact .inl ⟨_, .head _, by rw [h]⟩
              · exact .inl ⟨_, .tail _ (.head _), by rw [h]⟩
              · exact .inr fun p hp => by rw [h]; exact Nat.ne_of_lt (hlE p (.tail _ (.tail _ (.tail _ (.tail _ (.tail _ (hlW9 p hp)))))))
              · exact .inr fun p hp => by rw [h]; exact Nat.ne_of_lt (hlT p (.tail _ (.tail _ (.tail _ (hlW9 p hp)))))
              · exact .inr fun p hp => Nat.ne_of_lt ((hx3 q h).2 p (by rw [hW]; exact List.mem_append_right _ hp))
              · exact .inl ⟨q, .tail _ (.tail _ (List.mem_append_left _ h)), rfl⟩
              · exact .inl ⟨q, .tail _ (.tail _ (List.mem_append_right _ h)), rfl⟩
            · intro p hp
              rcases List.mem_cons.mp hp with rfl | hp
              · exact hlE _ (.tail _ (.tail _ (.tail _ (.tail _ (.head _)))))
              · rcases List.mem_cons.mp hp with rfl | hp
                · exact hFT
                · rcases List.mem_append.mp hp with hp | hp
                  · exact (hx3 p hp).1
                  · exact hx2 p hp
      · rintro hf4 tkf4 mf nwf F6 N6 ⟨hmf, at5, ta5, n5, nf, fvs, Gs, ex2, hnw, hat5, hGl, hFJ, hx2⟩
        subst hnw
        have hat5' : 0 ≤ at5 ∧ at5 ≤ 54 := by omega
        have hGl4 : 0 < Gs.length ∧ Gs.length ≤ 4 := by omega
        have hfl4 : fvs.length = Gs.length := hFJ.fonts.len
        have hr9 : ∀ p ∈ (FL, PySem.W.listOf fvs.toArray nf) :: (ex2 ++ rest), p.1 ≠ tp := fun p hp => by
          rcases List.mem_cons.mp hp with rfl | hp
          · exact (Nat.ne_of_lt htF).symm
          · rcases List.mem_append.mp hp with hp | hp
            · exact (Nat.ne_of_lt (Nat.lt_trans htF (hx2 p hp))).symm
            · exact hrt p hp
        have hc9 : (c, PySem.W.listOf vs.toArray nc) ∈ (FL, PySem.W.listOf fvs.toArray nf) :: (ex2 ++ rest) := .tail _ (List.mem_append_right _ hcr')
        have h1r9 : (L' + 1, o1b) ∈ ex2 ++ rest := List.mem_append_right _ h1r
        clear Tf hr0 hr1 e9 hat5 hat21 hrF' hpool
        dsimp only
        (try k_unmd); (try k_fold)
        refine N_execs_any ?_
        k_steps
        rename_i Fb Nb
        have hg0 : 0 ≤ 4 * (q9 : Int) ∧ 4 * (q9 : Int) ≤ 196 := by omega
        have hfl9 : (FL, PySem.W.listOf fvs.toArray nf) ∈ (tp, PySem.W.listOf #[.ref c, .int (at5 + 1) ta9] n9) :: (FL, PySem.W.listOf fvs.toArray nf) :: (ex2 ++ rest) := .tail _ (.head _)
        have hG9 : FontsAt w ((tp, PySem.W.listOf #[.ref c, .int (at5 + 1) ta9] n9) :: (FL, PySem.W.listOf fvs.toArray nf) :: (ex2 ++ rest)) fvs Gs := hFJ.fonts.sub fun p hp => .tail _ (.tail _ (List.mem_append_left _ hp))
        generalize 4 * (q9 : Int) = b0 at *
        k_with "call ref" => (k_here; k_dflt (refine' Con.use (c_spots ?Zp0 ?Zp1 ?Zp2 ?Zp3) ?ZkB ?ZkF ?ZkX ?ZkN ?ZkT ?Zkk ?Zkd ?Zku ?_; (case ZkB => k_asm); (case ZkF => k_asm); (case ZkX => k_in); (case ZkN => k_asm); (case ZkT => k_asm); (case Zkk => first | exact rfl | assumption); (case Zp0 => exact hfl9); (case Zp1 => exact hG9); (case Zp2 => exact hGl4.2); (case Zp3 => omega); (case Zkd => ktr_room); (case Zku => ktr_units); intro v9 h9 tk9 nw9 hp9 F9 N9; obtain ⟨ex9, T9, PL, plvs, npl, tb9, e1, e2, hT9, hPL9, hPl9, B9, hBn, hBx⟩ := hp9; subst e1; subst e2; have hT9m := List.mem_append_left ((tp, PySem.W.listOf #[.ref c, .int (at5 + 1) ta9] n9) :: (FL, PySem.W.listOf fvs.toArray nf) :: (ex2 ++ rest)) hT9; (try dsimp only); (try k_sweep); (try k_fold)))
        refine N_execs_any ?_
        k_steps
        rename_i Fs Ns
        obtain ⟨Z, hZ⟩ : ∃ Z : Led, Z = ex9 ++ (tp, PySem.W.listOf #[.ref c, .int (at5 + 1) ta9] n9) :: (FL, PySem.W.listOf fvs.toArray nf) :: (ex2 ++ (D, PySem.W.listOf acc.toArray nD) :: (L' + 1 + 1, o2p) :: (L' + 1, o1b) :: (ex ++ news)) := ⟨_, rfl⟩
        have NZ := News.sub (b := (L' + 1 + 1 + 1, o3) :: Z) Ns (by rw [hZ, hrest]; k_extra "k_sub")
        clear Ns
        have htB : @LT.lt Nat _ tp B9 := hBn _ (.head _)
        have h3t : @LT.lt Nat _ (L' + 1 + 1 + 1) tp := htp
        have z3 : ∀ p ∈ Z, p.1 ≠ L' + 1 + 1 + 1 := fun p hp => by
          rw [hZ] at hp
          rcases List.mem_append.mp hp with hp | hp
          · exact (Nat.ne_of_lt (Nat.lt_of_lt_of_le (Nat.lt_trans h3t htB) (hBx p hp))).symm
          · rcases List.mem_cons.mp hp with rfl | hp
            · exact (Nat.ne_of_lt h3t).symm
            · rcases List.mem_cons.mp hp with rfl | hp
              · exact (Nat.ne_of_lt (Nat.lt_trans h3t htF)).symm
              · rcases List.mem_append.mp hp with hp | hp
                · exact (Nat.ne_of_lt (Nat.lt_trans (Nat.lt_trans h3t htF) (hx2 p hp))).symm
                · rcases List.mem_cons.mp hp with rfl | hp
                  · exact fun e => hoff _ (.tail _ (.head _)) e.symm
                  · rcases List.mem_cons.mp hp with rfl | hp
                    · exact Nat.ne_of_lt (Nat.lt_succ_self _)
                    · rcases List.mem_cons.mp hp with rfl | hp
                      · exact Nat.ne_of_lt (Nat.lt_succ_of_lt (Nat.lt_succ_self _))
                      · rcases List.mem_append.mp hp with hp | hp
                        · exact (Nat.ne_of_lt (hex p hp).1).symm
                        · exact Nat.ne_of_lt (Nat.lt_succ_of_lt (Nat.lt_succ_of_lt (Nat.lt_succ_of_lt (l1 p hp))))
        have hex9 : ∀ p ∈ ex9, p ∈ Z := fun p hp => by rw [hZ]; exact List.mem_append_left _ hp
        have hFZ : (FL, PySem.W.listOf fvs.toArray nf) ∈ Z := by rw [hZ]; exact List.mem_append_right _ (.tail _ (.head _))
        have hex2 : ∀ p ∈ ex2, p ∈ Z := fun p hp => by rw [hZ]; exact List.mem_append_right _ (.tail _ (.tail _ (List.mem_append_left _ hp)))
        have hDZ : (D, PySem.W.listOf acc.toArray nD) ∈ Z := by rw [hZ]; exact List.mem_append_right _ (.tail _ (.tail _ (List.mem_append_right _ (.head _))))
        have h2Z : (L' + 1 + 1, o2p) ∈ Z := by rw [hZ]; exact List.mem_append_right _ (.tail _ (.tail _ (List.mem_append_right _ (.tail _ (.head _)))))
        have hnZ : ∀ p ∈ news, p ∈ Z := fun p hp => by rw [hZ]; exact List.mem_append_right _ (.tail _ (.tail _ (List.mem_append_right _ (.tail _ (.tail _ (.tail _ (List.mem_append_right _ hp)))))))
        have hPLZ := hex9 _ hPL9
        have hPZ : PlacesAt w Z plvs (allOf b0 Gs).2 := hPl9.mono hex9
        have hGZ : FontsAt w Z fvs Gs := hFJ.fonts.sub hex2
        have hgne := hFJ.ne
        have hgfrom := hFJ.from_
        clear hZ hrest hFJ hG9 hfl9 hT9m hT9 hPL9 hPl9 hBn hBx hx2 hr9 hc9 h1r9 hex9 hex2
        clear hrF hrt hDr h3r h2r h1r hcr' F6 N6 hat5' hGl hr0 hr1 htB hDF htF hDt hoff
        have hpl := allOf_placed b0 Gs
        have hf10 := hGZ.fours
        have hPn : plvs.length = fvs.length := by rw [hPZ.length, hpl.1, hfl4]
        have hP10 : ∀ b ∈ (allOf b0 Gs).1, (fours b).size ≤ 10 := fun b hb => let ⟨G, h1, h2⟩ := hpl.2.1 b hb; hf10 G h1 b h2
        have hbody : bodyOf Gs = cat ((allOf b0 Gs).1.map fours) := by unfold bodyOf; rw [allOf_fst 0 b0 Gs]
        have hbz2 : (bodyOf Gs).size ≤ 200 := by
          have h1 := cat_size_le (k := 10) (bs := (allOf b0 Gs).1.map fours) (by
            intro z hz
            obtain ⟨y, hy, rfl⟩ := List.mem_map.mp hz
            exact hP10 y hy)
          have h2 := allOf_len b0 Gs hGZ.lens
          rw [List.length_map] at h1
          rw [hbody]
          omega
        have hm4 : ((bodyOf Gs).size : Int).fmod 4 = 0 := by
          have := body_mod Gs
          rw [Int.fmod_eq_emod_of_nonneg _ (by decide)]
          omega
        have hpl4 : plvs.length ≤ 4 := by omega
        have hfv4 : fvs.length ≤ 4 := by omega
        refine N_execs_any ?_
        k_steps
        · exact absurd (congrArg (fun n : Nat => (n : Int)) hPn) (by assumption)
        · exact absurd hm4 (by assumption)
        dsimp only
        refine N_execs_any ?_
        k_steps
        k_dflt (refine' iters_range ?Zhh ?ZhF ?ZhN ?Zhl ?Zhs ?Zhn ?_; (case Zhh => with_unfolding_all rfl); (case ZhF => k_asm); (case ZhN => k_asm); (case Zhl => assumption); (case Zhs => exact small_up (by omega)); (case Zhn => exact rsize_up _))
        rintro fps wrs Sts hs3 tks3 Ts
        dsimp only
        refine ⟨_, _, _, _, _, _, _, _, _, _, Ts, LE FL PL (.bytes (bodyOf Gs) tb9) b0 ((L' + 1 + 1 + 1, o3) :: Z), ⟨hmf, rfl, rfl, ⟨_, rfl⟩, rfl⟩, ?_, ?_⟩
        · rintro Qx i v m₁ nw own h5 tk5 E' hi ⟨tv, rfl⟩ ⟨hmf, hmp, hmo, ⟨tbg, hmb⟩, hnw⟩ F5 N5 hap
          subst hnw
          obtain ⟨fv, hfv⟩ : ∃ xfv9, fvs[i]? = some xfv9 := ⟨_, List.getElem?_eq_getElem hi⟩
          obtain ⟨G, hGi, tpv, d, t0, rfl, htp0, hD⟩ := hGZ.at_ i fv hfv
          obtain ⟨c9, hc1, hc2⟩ := hpl.2.2 i G hGi
          obtain ⟨pv, hpv, dd, od2, kvp, rfl, hdd, hod2, hkp, hlo2⟩ := PlacesAt_at hPZ hc1
          obtain ⟨⟨od, kvs, hdm, hod, hkv⟩, hlo, hks, hfew⟩ := hD
          have hi4 : i < 4 := by omega
          have hq0 : (0 + (i : Int) * 1).toNat = i := by omega
          have hq1 : 0 ≤ 0 + (i : Int) * 1 ∧ 0 + (i : Int) * 1 < 100000 := by omega
          generalize 0 + (i : Int) * 1 = q8 at *
          have hfx : fvs[q8.toNat]? = some (.ref tpv) := by rw [hq0]; exact hfv
          have hpx : plvs[q8.toNat]? = some (.ref dd) := by rw [hq0]; exact hpv
          obtain ⟨Y, hY⟩ : ∃ Y : Led, Y = ((L' + 1 + 1 + 1, o3) :: Z) ++ own := ⟨_, rfl⟩
          have hZY : ∀ p ∈ Z, p ∈ Y := fun p hp => by rw [hY]; exact List.mem_append_left _ (.tail _ hp)
          have hFY := hZY _ hFZ
          have hPY := hZY _ hPLZ
          have htpY := hZY _ htp0
          have hddY := hZY _ hdd
          have hdmY := hZY _ hdm
          rw [← hY] at N5
          have hks1 : (kvs.map (·.1)).Sublist tagL := by rw [hkv.keys]; exact hks
          have hkeq : kvp.map (·.1) = kvs.map (·.1) := by rw [hkp.keys, hc2.keys, hkv.keys]
          have hks2 : (kvp.map (·.1)).Sublist tagL := by rw [hkeq]; exact hks1
          (try k_unmd); (try k_fold)
          k_steps
          rename_i TK _ lTK _ _ _ _ _ _ _ _ _ _ _ _ _
          have hTK : ∀ p ∈ Y, p.1 ≠ TK := fun p hp => Nat.ne_of_lt (lTK p hp)
          have N2 := News.sub (b := (TK, PySem.W.listOf ([] : List Value).toArray 0) :: Y) N' (by k_extra "k_sub")
          clear N'
          obtain ⟨tkn, hcc, hkl9, hkn9, hkt9, hka9⟩ := id hc2
          have hG4 : tkn.length ≤ 4 := by
            have h1 := hks.length_le
            have h3 : tagL.length = 4 := rfl
            simp only [List.length_map] at h1
            omega
          have hP6 : ∀ b ∈ (allOf b0 Gs).1, b.size ≤ 6 := fun b hb => let ⟨G, h1, h2⟩ := hpl.2.1 b hb; hGZ.six G h1 b h2
          obtain ⟨ep, hat9⟩ := KdkAt.of hod
          have hdL := News.neL N2 (.tail _ hdmY)
          k_dflt (refine' iters_dict (knd := PySem.strKind _ _) ?Zhh ?ZhF ?ZhN ?Zhlo ?Zhd ?ZhL ?_; (case Zhh => with_unfolding_all rfl); (case ZhF => k_asm); (case ZhN => exact N2); (case Zhlo => exact hlo); (case Zhd => exact hat9.dictAt (N2 _ (.tail _ hdmY)).1); (case ZhL => exact hdL))
          rintro fpd wrd Std hd3 tkd3 Td
          dsimp only
          refine ⟨_, _, _, _, _, _, _, _, _, _, Td, fun j => LF FL PL (.bytes (bodyOf Gs) tb9) b0 d TK q8 Y (occ (allOf b0 Gs).1 (tkn.take j)), ⟨hmf, hmp, hmo, ⟨_, hmb⟩, rfl, rfl, ⟨_, rfl⟩, 0, [], rfl, .nil⟩, ?_, ?_⟩
          · rintro Qx j v m₃ nw2 own2 h7 tk7 E2 hj ⟨k, x, hx, hkk⟩ ⟨hmf2, hmp2, hmo2, ⟨tbg2, hmb2⟩, hmt2, hmk2, ⟨tv2, hms2⟩, nt, tvs, hnw2, hti⟩ F7 N7 hap7
            subst hnw2
            obtain ⟨tkk, rfl⟩ := key_str hkk
            obtain ⟨b, tb, rfl, hGj⟩ := hkv.at hx
            obtain ⟨t, htj, hPt⟩ := hka9 j k b hGj
            obtain ⟨bt, hval⟩ := hkv.look (lookF_at (hks.nodup tagL_nodup) hGj)
            have hb6 : b.size ≤ 6 := hfew _ (List.mem_of_getElem? hGj)
            obtain ⟨tx, hvalp⟩ := hkp.look_at (by rw [hc2.keys]; exact hks.nodup tagL_nodup) (by rw [hcc]; exact foundOf_at hGj htj)
            obtain ⟨Y7, hY7⟩ : ∃ Y7 : Led, Y7 = Y ++ own2 := ⟨_, rfl⟩
            have hYY : ∀ p ∈ Y, p ∈ Y7 := fun p hp => by rw [hY7]; exact List.mem_append_left _ hp
            have hTK7 : ∀ p ∈ Y7, p.1 ≠ TK := fun p hp => by
              rw [hY7] at hp
              rcases List.mem_append.mp hp with hp | hp
              · exact hTK p hp
              · exact Apart.off hap7 (.head _) (fun h => by rw [List.mem_singleton.mp h] at hTK; exact hTK _ hdmY rfl) p hp
            have hFY := hYY _ hFY
            have hPY := hYY _ hPY
            have htpY := hYY _ htpY
            have hddY := hYY _ hddY
            have hdmY := hYY _ hdmY
            simp only [List.cons_append] at N7
            rw [← hY7] at N7
            have hfz : (fours b).size ≤ 10 := by have := fours_le b; omega
            have hoff0 : b0 + ((off (allOf b0 Gs).1 t : Nat) : Int) - b0 = ((off (allOf b0 Gs).1 t : Nat) : Int) := by omega
            have hatm : (b0 + ((off (allOf b0 Gs).1 t : Nat) : Int) - b0).fmod 4 = 0 := by
              have := off_mod (allOf b0 Gs).1 t
              rw [hoff0, Int.fmod_eq_emod_of_nonneg _ (by decide)]
              omega
            have hsl9 : KBy.picked (bodyOf Gs) (some (b0 + ((off (allOf b0 Gs).1 t : Nat) : Int) - b0)) (some (b0 + ((off (allOf b0 Gs).1 t : Nat) : Int) - b0 + (b.size + 3 : Int).fdiv 4 * 4)) = fours b := by
              rw [hbody]
              exact picked_part hPt hoff0 (by rw [hoff0, fours_val])
            have hln9 : ((fours b).size : Int) = (b.size + 3 : Int).fdiv 4 * 4 := (fours_val b).symm
            k_with "call ref" => (k_here; k_dflt (refine' Con.use (c_law_long ?Zp0) ?ZkB ?ZkF ?ZkX ?ZkN ?ZkT ?Zkk ?Zkd ?Zku ?_; (case ZkB => k_asm); (case ZkF => k_asm); (case ZkX => k_in); (case ZkN => k_asm); (case ZkT => k_asm); (case Zkk => first | exact rfl | assumption); (case Zp0 => omega); (case Zkd => ktr_room); (case Zku => ktr_units); intro v9 h9 tk9 nw9 hp9 F9 N9; obtain ⟨e1, t9, e2⟩ := hp9; subst nw9; subst v9; (try dsimp only); (try k_sweep); (try k_fold)))
            k_with "call ref" => (k_here; k_dflt (refine' Con.use (c_to_fours ?Zp0) ?ZkB ?ZkF ?ZkX ?ZkN ?ZkT ?Zkk ?Zkd ?Zku ?_; (case ZkB => k_asm); (case ZkF => k_asm); (case ZkX => k_in); (case ZkN => k_asm); (case ZkT => k_asm); (case Zkk => first | exact rfl | assumption); (case Zp0 => omega); (case Zkd => ktr_room); (case Zku => ktr_units); intro v9 h9 tk9 nw9 hp9 F9 N9; obtain ⟨e1, t9, e2⟩ := hp9; subst nw9; subst v9; (try dsimp only); (try k_sweep); (try k_fold)))
            (try k_unmd); (try k_fold)
            k_steps
            · exact absurd hatm (by assumption)
            · rename_i hx9
              rw [hsl9] at hx9
              simp at hx9
            · exact absurd hln9 (by assumption)
            have hot : off (allOf b0 Gs).1 t ≤ 200 := by
              have h1 := cat_size_off (allOf b0 Gs).1
              have h2 : t < (allOf b0 Gs).1.length := (List.getElem?_eq_some_iff.mp hPt).1
              obtain ⟨kk, hkk9⟩ : ∃ kk, (allOf b0 Gs).1.length = t + kk := ⟨(allOf b0 Gs).1.length - t, by omega⟩
              have h3 := off_mono (P := (allOf b0 Gs).1) (t := t) kk
              rw [hbody, h1, hkk9] at hbz2
              omega
            have htl : tvs.length ≤ 24 := by
              have h1 := occ_length hP6 (tkn.take j)
              rw [hti.length]
              have h2 : (tkn.take j).length ≤ 4 := by rw [List.length_take]; omega
              omega
            k_dflt (refine' extend_range_K (n := b.size) ?Zhh ?ZhF ?ZhN ?Zhr ?Zhg ?Zhs ?Zhn ?Zhz ?_; (case Zhh => with_unfolding_all rfl); (case ZhF => k_asm); (case ZhN => k_asm); (case Zhr => exact hTK7); (case Zhg => assumption); (case Zhs => exact small_from (by omega) (by omega) (by omega)); (case Zhn => exact rsize_from _ _); (case Zhz => rw [List.size_toArray]; omega))
            intro hX tkX more cX FX NX hmore
            k_steps
            have hmi := ints_more (f := fun i : Nat => ((off (allOf b0 Gs).1 t : Nat) : Int) + (i : Int) * 1) (fun i v ⟨tt, e⟩ => ⟨tt, by rw [e, hoff0]⟩) hmore
            have hea : tvs.toArray ++ more = (tvs ++ more.toList).toArray := by simp
            rw [hea] at NX
            subst hY7
            refine ⟨_, _, _, (TK, PySem.W.listOf (tvs ++ more.toList).toArray cX) :: Y, FX, NX, hap7.same rfl, hmf2, hmp2, hmo2, ⟨_, hmb2⟩, hmt2, hmk2, ⟨_, hms2⟩, cX, _, rfl, ?_⟩
            rw [List.take_add_one, htj, Option.toList_some, occ_snoc hPt]
            exact hti.append hmi
          · rintro h10 tk10 m10 nw10 F10 N10 ⟨hmf2, hmp2, hmo2, ⟨tbg2, hmb2⟩, hmt2, hmk2, ⟨tv2, hms2⟩, nt, tvs, hnw2, hti⟩
            subst hnw2
            have hkl : kvs.length = tkn.length := by rw [hkv.length, hkl9]
            have hoc : (occ (allOf b0 Gs).1 (tkn.take kvs.length)).Nodup := by rw [hkl, List.take_length]; exact occ_nodup hkn9 hkt9
            have htl : (occ (allOf b0 Gs).1 (tkn.take kvs.length)).length ≤ 24 := by
              have h1 := occ_length hP6 (tkn.take kvs.length)
              have h2 : (tkn.take kvs.length).length ≤ 4 := by rw [List.length_take]; omega
              omega
            have htv := hti.length
            generalize occ (allOf b0 Gs).1 (tkn.take kvs.length) = os at *
            (try dsimp only); (try k_unmd); (try k_fold)
            k_steps
            subst hY
            refine ⟨_, _, _, (L' + 1 + 1 + 1, o3) :: Z, F9, News.sub N9 (fun p hp => .tail _ (.tail _ hp)), hap, hmf2, hmp2, hmo2, ⟨_, hmb2⟩, rfl⟩
        · rintro hm4 tkm4 mm nwm Fm Nm ⟨hmf3, hmp3, hmo3, ⟨tbg3, hmb3⟩, hnw⟩
          subst hnw
          clear Ts
          dsimp only
          (try k_unmd); (try k_fold)
          refine N_execs_any ?_
          k_steps
          refine N_execs_any ?_
          k_steps
          rename_i hq Fq Nq
          have hq3 : ∀ p ∈ (L' + 1 + 1 + 1, o3) :: Z, p.1 < hq.objs.size := fun p hp => Heap.lt_size (Nq p hp).1
          have hb3 : bs.length = 3 := by rw [← hbs.length]; exact hal3
          k_dflt (refine' newSet_B (o := o3) (ks := bs.map Array.toList) ?ZhF ?ZhN ?Zhh ?Zhl ?Zhn ?Zhi ?Zhb ?_; (case ZhF => k_asm); (case ZhN => k_asm); (case Zhh => with_unfolding_all rfl); (case Zhl => exact News.isList (by k_asm) (by k_mem)); (case Zhn => rw [List.length_map, hb3, hal3]); (case Zhi => exact pool_is hbs); (case Zhb => omega))
          intro hS tkS oS FS NS hBS
          dsimp only at FS NS hBS ⊢
          have hSL := News.neL NS (.head _)
          generalize hq.objs.size = SA at *
          (try k_unmd); (try k_fold)
          k_steps
          have hfb := (firstB_ok (bs.map Array.toList)).2
          k_dflt (refine' iters_set ?Zhh ?ZhF ?ZhN ?ZhS ?ZhB ?ZhL ?Zhl ?_; (case Zhh => with_unfolding_all rfl); (case ZhF => k_asm); (case ZhN => exact NS); (case ZhS => exact (NS _ (.head _)).1); (case ZhB => exact hBS); (case ZhL => exact hSL); (case Zhl => exact Nat.le_trans (firstB_length _ _ (Nat.le_refl _)) (by rw [List.length_map, hb3]; decide)))
          rintro IS fpS wrS StS ys hS3 tkS3 dS3 hperm TS
          dsimp only
          refine ⟨_, _, _, _, _, _, _, _, _, _, TS, fun i => LG FL SA oS (L' + 1 + 1 + 1) Z (.bytes (bodyOf Gs) tb9) ((mostSum Gs ys i : Nat) : Int), ⟨hmf3, hmo3, ⟨_, rfl⟩, o3, rfl, _, d3⟩, ?_, ?_⟩
          · rintro Qx i v m₁ nw own h5 tk5 E' hi hv ⟨hmf4, hmo4, ⟨tm4, hmm4⟩, o3', hnw, y3, d3'⟩ F5 N5 hap
            subst hnw
            obtain ⟨tv, rfl⟩ := isBytes_shape hv
            have hyl : ys.length = (firstB (bs.map Array.toList) (bs.map Array.toList).length).length := hperm.length_eq
            have hyi : ys[i]? = some (ys[i]'(by omega)) := List.getElem?_eq_getElem (by omega)
            have hyg : ys.getD i [] = ys[i]'(by omega) := by rw [List.getD_eq_getElem?_getD, hyi]; rfl
            rw [hyg]
            have hym : (ys[i]'(by omega)) ∈ bs.map Array.toList := (hfb _).mp (hperm.mem_iff.mp (List.mem_of_getElem? hyi))
            have hms := mostSum_succ (Gs := Gs) hyi
            obtain ⟨b, hbm, hbe⟩ := List.mem_map.mp hym
            have hba : (ys[i]'(by omega)).toArray = b := by rw [← hbe]
            rw [hba] at hms ⊢
            clear hyg hym hbe hba hv
            have hb6 : b.size ≤ 6 := hbz _ hbm
            have hfz : (fours b).size ≤ 10 := by have := fours_le b; omega
            obtain ⟨ZO, hZO⟩ : ∃ ZO : Led, ZO = Z ++ own := ⟨_, rfl⟩
            have h3S : @LT.lt Nat _ (L' + 1 + 1 + 1) SA := hq3 _ (.head _)
            have s13 : @Ne Nat SA (L' + 1 + 1 + 1) := (Nat.ne_of_lt h3S).symm
            have zo3 : ∀ p ∈ ZO, p.1 ≠ L' + 1 + 1 + 1 := fun p hp => by
              rw [hZO] at hp
              rcases List.mem_append.mp hp with hp | hp
              · exact z3 p hp
              · exact Apart.off hap (.tail _ (.head _)) (fun h => s13 (List.mem_singleton.mp h).symm) p hp
            have hZs : ∀ p ∈ Z, p ∈ ZO := fun p hp => by rw [hZO]; exact List.mem_append_left _ hp
            have hFY := hZs _ hFZ
            simp only [List.cons_append] at N5
            rw [← hZO] at N5
            k_with "call ref" => (k_here; k_dflt (refine' Con.use (c_law_long ?Zp0) ?ZkB ?ZkF ?ZkX ?ZkN ?ZkT ?Zkk ?Zkd ?Zku ?_; (case ZkB => k_asm); (case ZkF => k_asm); (case ZkX => k_in); (case ZkN => k_asm); (case ZkT => k_asm); (case Zkk => first | exact rfl | assumption); (case Zp0 => omega); (case Zkd => ktr_room); (case Zku => ktr_units); intro v9 h9 tk9 nw9 hp9 F9 N9; obtain ⟨e1, t9, e2⟩ := hp9; subst nw9; subst v9; (try dsimp only); (try k_sweep); (try k_fold)))
            (try k_unmd); (try k_fold)
            k_steps
            rename_i o3n d3n _ _
            obtain ⟨X, hX⟩ : ∃ X : Led, X = (SA, oS) :: (L' + 1 + 1 + 1, o3n) :: ZO := ⟨_, rfl⟩
            have h3X : (L' + 1 + 1 + 1, o3n) ∈ X := by rw [hX]; exact .tail _ (.head _)
            have hZX : ∀ p ∈ Z, p ∈ X := fun p hp => by rw [hX]; exact .tail _ (.tail _ (hZs p hp))
            have hFX := hZX _ hFZ
            rw [← hX] at N9
            k_dflt (refine' iters_list ?Zhh ?ZhF ?ZhN ?Zhl ?ZhL ?_; (case Zhh => with_unfolding_all rfl); (case ZhF => k_asm); (case ZhN => exact N9); (case Zhl => exact News.isList N9 hFX); (case ZhL => exact News.neL N9 hFX))
            rintro fpg wrg Stg hg3 tkg3 Tg
            dsimp only
            refine ⟨_, _, _, _, _, _, _, _, _, _, _, Tg, by rw [List.size_toArray, sizeLine_eq]; omega, ?_, fun q acc nw => nw = X ∧ IntsAre acc ((Gs.take q).map fun G => ((cnt (G.map (·.2)) b : Nat) : Int)), ⟨rfl, .nil⟩, ?_, ?_⟩
            · intro q hq
              rw [List.mem_singleton.mp hq]
              exact Heap.lt_size (Tg.N _ hFX).1
            · rintro C q v6 acc6 nw6 oc6 own6 h7 tk7 E6 hq hv6 ⟨hnw6, hacc6⟩ hl6 hdc hC6 F7 N7 hap7
              subst hnw6
              refine turn_nil ?_
              obtain ⟨G, hGi, tpv, d, t0, rfl, htp0, hD⟩ := hGZ.at_ q v6 (by simpa using hv6)
              obtain ⟨⟨od, kvs, hdm, hod, hkv⟩, hlo, hks, hfew⟩ := hD
              have hq4 : q < 4 := by rw [List.size_toArray] at hq; omega
              obtain ⟨W6, hW6⟩ : ∃ W6 : Led, W6 = nw6 ++ own6 := ⟨_, rfl⟩
              have hXW : ∀ p ∈ nw6, p ∈ W6 := fun p hp => by rw [hW6]; exact List.mem_append_left _ hp
              have h3W := hXW _ h3X
              have htpW := hXW _ (hZX _ htp0)
              have hdmW := hXW _ (hZX _ hdm)
              have hCW : (C + 1, oc6) ∈ W6 := by rw [hW6]; exact List.mem_append_right _ hC6
              rw [← hW6] at N7
              (try k_unmd); (try k_fold)
              k_steps
              have hkv4 : kvs.length ≤ 4 := by
                have h1 := hks.length_le
                have h3 : tagL.length = 4 := rfl
                simp only [List.length_map] at h1
                rw [hkv.length]; omega
              obtain ⟨ep, hat9⟩ := KdkAt.of hod
              have hdL := News.neL N7 hdmW
              k_dflt (refine' iters_dict (knd := PySem.strKind _ _) ?Zhh ?ZhF ?ZhN ?Zhlo ?Zhd ?ZhL ?_; (case Zhh => with_unfolding_all rfl); (case ZhF => k_asm); (case ZhN => exact N7); (case Zhlo => exact hlo); (case Zhd => exact hat9.dictAt (N7 _ hdmW).1); (case ZhL => exact hdL))
              rintro fph wrh Sth hh3 tkh3 Th
              dsimp only
              refine ⟨_, _, _, _, _, _, _, _, _, _, _, Th, by rw [sizeLine_eq]; omega, ?_, fun j acc nw => nw = W6 ∧ acc.length = cnt ((G.take j).map (·.2)) b, ⟨rfl, rfl⟩, ?_, ?_⟩
              · intro q hq
                rw [List.mem_singleton.mp hq]
                exact Heap.lt_size (Th.N _ hdmW).1
              · rintro C8 j v8 acc8 nw8 oC8 own8 h8 tk8 E8 hj ⟨k, x, hx, hkk⟩ ⟨hnw8, hal8⟩ hl8 hNC8 hC8 F8 N8 hap8
                subst hnw8
                refine tests_one ?_
                obtain ⟨tkk, rfl⟩ := key_str hkk
                obtain ⟨b8, tb8, rfl, hGj⟩ := hkv.at hx
                obtain ⟨bt, hval⟩ := hkv.look (lookF_at (hks.nodup tagL_nodup) hGj)
                obtain ⟨W8, hW8⟩ : ∃ W8 : Led, W8 = nw8 ++ own8 := ⟨_, rfl⟩
                have h68 : ∀ p ∈ nw8, p ∈ W8 := fun p hp => by rw [hW8]; exact List.mem_append_left _ hp
                have h3W := h68 _ h3W
                have htpW := h68 _ htpW
                have hdmW := h68 _ hdmW
                have hCW := h68 _ hCW
                have hC8W : (C8, oC8) ∈ W8 := by rw [hW8]; exact List.mem_append_right _ hC8
                have hct : cnt ((G.take (j + 1)).map (·.2)) b = cnt ((G.take j).map (·.2)) b + if b8 = b then 1 else 0 := by
                  rw [List.take_add_one, hGj, Option.toList_some, List.map_append, List.map_singleton, cnt_snoc]
                rw [← hW8] at N8
                (try k_unmd); (try k_fold)
                k_steps
                all_goals (try subst hW8)
                · rename_i he9
                  have he8 : b8 = b := Array.toList_inj.mp (by simpa using he9)
                  refine ⟨_, _, _, _, (by k_asm), (by k_asm), hap8, rfl, rfl, ?_⟩
                  rw [hct, if_pos he8, List.length_append, hal8]; rfl
                · rename_i he9
                  have he8 : ¬ b8 = b := fun e => by rw [e] at he9; simp at he9
                  refine ⟨_, _, _, _, (by k_asm), (by k_asm), hap8, rfl, rfl, ?_⟩
                  rw [hct, if_neg he8, hal8]; rfl
              · rintro D8 nD8 h9 tk9 acc8 nw8 F8 N8 hoff8 hl8 ⟨hnw8, hal8⟩
                subst hnw8
                have hal4 : acc8.length ≤ 4 := by omega
                rw [hkv.length, List.take_length] at hal8
                (try dsimp only); (try k_unmd); (try k_fold)
                k_steps
                subst hW6
                refine ⟨_, _, _, nw6, (by k_asm), News.tail_ N8, hap7, rfl, rfl, ?_⟩
                rw [List.take_add_one, hGi, Option.toList_some, List.map_append, List.map_singleton, ← hal8]
                exact Ints.snoc hacc6
            · rintro D8 nD8 h9 tk9 acc8 nw8 F8 N8 hoff8 hl8 ⟨hnw8, hacc8⟩
              subst hnw8
              rw [List.size_toArray, hfl4, List.take_length] at hacc8
              (try dsimp only); (try k_unmd); (try k_fold)
              k_steps
              rename_i MM _ _ haM hbM _ FM NM
              have hMM := mostOf_max (fun e => by rw [e] at hGl4; exact absurd hGl4.1 (by decide)) haM hbM
              have hval : ((mostSum Gs ys i : Nat) : Int) + (b.size + 3 : Int).fdiv 4 * 4 * MM = ((mostSum Gs ys (i + 1) : Nat) : Int) := by
                rw [hms, hMM, fours_val, Int.natCast_add, Int.natCast_mul]
              rw [hX, hZO] at NM
              refine ⟨_, _, _, (SA, oS) :: (L' + 1 + 1 + 1, o3n) :: Z, FM, News.tail_ NM, hap.same rfl, hmf4, hmo4, ⟨_, congrArg (fun z => some (Value.int z _)) hval⟩, o3n, rfl, _, d3n⟩
          · rintro h20 tk20 m20 nw20 F20 N20 ⟨hmf4, hmo4, ⟨tm4, hmm4⟩, o3', hnw, y3, d3'⟩
            subst hnw
            rw [← hperm.length_eq, most_all hperm fun G hG b hb => List.mem_map.mpr ⟨b, hgfrom G hG b hb, rfl⟩] at hmm4
            clear TS
            dsimp only
            (try k_unmd); (try k_fold)
            refine N_execs_cons (N_Return (N_And ?_))
            k_steps
            rotate_left
            · rename_i hbf
              exact absurd rfl hbf
            dsimp only
            refine N_Compare1 ?_ (by with_unfolding_all rfl)
            k_steps
            refine N_Call_Name ?_
            k_steps
            refine N_with_K (K := Mine.K w.params) (by k_is) ?_ rfl rfl
            k_steps
            have hFl := List.mem_cons_of_mem (SA, oS) (List.mem_cons_of_mem (L' + 1 + 1 + 1, o3') hFZ)
            have hGl9 : FontsAt w ((SA, oS) :: (L' + 1 + 1 + 1, o3') :: Z) fvs Gs := hGZ.sub fun p hp => .tail _ (.tail _ hp)
            k_dflt (refine' ConN.use (n_write ?Zq0 ?Zq1 ?Zq2 ?Zq3) ?ZkB ?ZkF ?ZkX ?ZkN ?ZkT ?Zkk ?Zkd ?Zku ?_; (case ZkB => k_asm); (case ZkF => k_asm); (case ZkX => k_in); (case ZkN => k_asm); (case ZkT => k_asm); (case Zkk => first | exact rfl | assumption); (case Zq0 => exact hFl); (case Zq1 => exact hGl9); (case Zq2 => exact hGl4); (case Zq3 => exact hgne); (case Zkd => ktr_room); (case Zku => ktr_units); intro v9 h9 tk9 nw9 hp9 F9 N9)
            obtain ⟨z1, pre9, ud, z2, hbd⟩ := hp9; subst z1; subst z2
            (try dsimp only); (try k_sweep); (try k_fold)

            k_dflt (refine' in_bytes ?Zhh ?ZhF ?ZhN ?_; (case Zhh => with_unfolding_all rfl); (case ZhF => exact F9); (case ZhN => exact N9))
            intro h21 tk21 F21 N21
            rw [find_behind]
            subst hg'
            exact hret _ _ _ fun b o e => F21.keep b o e
end Mine
end
section
open Lean Elab Tactic Meta PySem PySem.W PySem.Calls PyProof.Rows
namespace Mine
theorem fin : PySem.Challenge.rw_pb0184_01.Holds := by
  refine Mine.hd.top (by rfl) (by rfl) (by rfl) ?_
  k_fill
  intro w s₀ s₁ mg mb G Y fa o pm cd doc dV kV ho hd hcd hD hmg hg args vals as hpre hlay hrd hwl hlo
  have KX := kIn_of Y
  refine Ground.open G ?_
  intro T B D TE TW
  have h303 : mg (Str.ofString "law") = some (.ref 303) := mg_of KX T.g (by kernel_rfl)
  obtain rfl : fa = 303 := by
    have := hmg.symm.trans h303
    cases this
    rfl
  clear ho hd hcd hD hmg Y B D TE TW h303
  wrow_args hpre hlay hrd hwl hlo
  refine n_law T KX (by assumption) (by assumption) (by omega) fun h' tk' d' hk => ?_
  refine ⟨.inl ⟨_, _, [], rfl, raisesW_false (by wrow_none_raised), .bool _, ?_, unshared_nil⟩, hk, rfl, hg⟩
  wrow_post
end Mine
end
theorem PySem.Challenge.cw_pb0184_01_holds : PySem.Challenge.rw_pb0184_01.Holds := by
  exact Mine.fin
