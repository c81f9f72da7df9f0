import PyProof.Rows.All
import Wide.All
import OpenK.AllK
import Wide.FinOn
import Lean
import PySem.Challenge.RW_or0020_01
set_option Elab.async false
set_option linter.unusedSimpArgs false
set_option linter.unusedVariables false
set_option compiler.extract_closed false
local macro_rules | `(tactic| omega) => `(tactic| grind)
section
open PySem PySem.W PyProof.Rows
namespace Mine
set_option maxRecDepth 100000
set_option maxHeartbeats 8000000
section
local macro_rules | `(tactic| o_head $_) => `(tactic| assumption)
/-- the written heap is laid here, and nothing else is done -/
theorem grab (walk : PySem.Challenge.rw_or0020_01.row.Holds) : PySem.Challenge.rw_or0020_01.row.Holds := by k_head
end
/-- that a fragment is itself: ties the written heap to its own text -/
noncomputable def Same9 (K : Params → Frag) : Prop := K = K
theorem same9 {K K' : Params → Frag} (_ : K = K') : Same9 K := Eq.refl K
noncomputable def keep9 {K : Params → Frag} (_ : Same9 K) : Params → Frag := K
/-- the written heap -/
noncomputable def Kq : Params → Frag := by
  refine' keep9 (K := _) ?h
  case h => exact same9 (K' := Mine.grab.heap_1) (by delta Mine.grab.heap_1; exact rfl)
/-- its addresses -/
noncomputable def addrs : List Addr := [2, 3, 6, 22, 24, 25, 27, 28, 29, 32, 33, 34, 35, 36, 37, 38, 41, 43, 44, 46, 47, 48, 51, 52, 53, 55, 56, 58, 59, 60, 62, 63, 65, 66, 67, 69, 70, 72, 73, 74, 76, 77, 79, 80, 81, 84, 85, 86, 88, 89, 91, 92, 93, 95, 96, 98, 99, 100, 102, 103, 105, 106, 107, 110, 111, 112, 115, 116, 117, 120, 121, 122, 125, 126]
section
local macro_rules | `(tactic| k_head) => `(tactic| o_head (kHook Mine.Kq Mine.addrs (fun _ => by kernel_rfl)))
open_top hd for PySem.Challenge.rw_or0020_01
end
end Mine
end

section
open PySem PySem.W PyProof.Rows
namespace Mine
set_option maxRecDepth 100000
set_option maxHeartbeats 8000000
open PySem.Calls

/-- the part of a heap at the addresses that p takes -/
noncomputable def restr (h : Heap) (p : Addr → Prop) : Heap :=
  ⟨h.objs.mapIdx fun i o => @ite _ (p i) (Classical.propDecidable _) o ⟨o.cls, none, .freed, #[]⟩, h.life⟩
theorem restr_get {h : Heap} {p : Addr → Prop} {a : Addr} {o : Obj} (e : h.get? a = some o) (hp : p a) : (restr h p).get? a = some o := by
  obtain ⟨e1, e2⟩ := Heap.get?_some_iff.mp e
  refine Heap.get?_some_iff.mpr ⟨?_, e2⟩
  simp [restr, Array.getElem?_mapIdx, e1, hp]
theorem of_restr {h : Heap} {p : Addr → Prop} {a : Addr} {o : Obj} (e : (restr h p).get? a = some o) : p a ∧ h.get? a = some o := by
  obtain ⟨e1, e2⟩ := Heap.get?_some_iff.mp e
  simp only [restr, Array.getElem?_mapIdx, Option.map_eq_some_iff] at e1
  obtain ⟨o', h1, h2⟩ := e1
  by_cases hp : p a
  · rw [if_pos hp] at h2; subst h2
    exact ⟨hp, Heap.get?_some_iff.mpr ⟨h1, e2⟩⟩
  · rw [if_neg hp] at h2; subst h2; cases e2

theorem snap_ex (h₀ S : Heap) : ∃ tl : List (Addr × Obj), ∀ a o, (a, o) ∈ tl ↔ h₀.get? a = none ∧ S.get? a = some o := by
  refine ⟨(List.range S.objs.size).filterMap fun a => match h₀.get? a with | some _ => none | none => (S.get? a).map fun o => (a, o), fun a o => ?_⟩
  simp only [List.mem_filterMap, List.mem_range]
  constructor
  · rintro ⟨b, _, hb⟩
    split at hb
    · cases hb
    · rename_i hn
      obtain ⟨o', h1, h2⟩ := Option.map_eq_some_iff.mp hb
      cases h2; exact ⟨hn, h1⟩
  · rintro ⟨h1, h2⟩
    exact ⟨a, Heap.lt_size h2, by rw [h1, h2]; rfl⟩

/-- a view of the frame at L: S is what is known and stays; it began as G, within the heap h₀ at the entry; tl lists what it has beyond h₀ -/
structure View (h₀ G : Heap) (L : Addr) (S : Heap) (tl : List (Addr × Obj)) : Prop where
  stays : G.StaysIn S
  src : ∀ b o, S.get? b = some o → G.get? b = some o ∨ h₀.get? b = none
  sub : G.StaysIn h₀
  notL : S.get? L = none
  snap : ∀ a o, (a, o) ∈ tl ↔ h₀.get? a = none ∧ S.get? a = some o

noncomputable def Grow (H G G' : Heap) : Prop := G.StaysIn G' ∧ ∀ b o, G'.get? b = some o → G.get? b = some o ∨ H.get? b = none
theorem Grow.refl (H G : Heap) : Grow H G G := ⟨fun _ _ e => e, fun _ _ e => .inl e⟩
theorem Grow.trans {H H' G G' G'' : Heap} (a : Grow H G G') (b : Grow H' G' G'') (s : H.StaysIn H') : Grow H G G'' :=
  ⟨fun x o e => b.1 x o (a.1 x o e), fun x o e => by
    rcases b.2 x o e with q | q
    · exact a.2 x o q
    · refine .inr ?_
      cases z : H.get? x with
      | none => rfl
      | some o' => have := s x o' z; rw [q] at this; cases this⟩

section
variable {h₀ G h : Heap} {L : Addr} {S : Heap} {tl nw : List (Addr × Obj)} {m : Str → Option Value}
theorem View.grow (V : View h₀ G L S tl) : Grow h₀ G S := ⟨V.stays, V.src⟩
theorem View.start (sub : G.StaysIn h₀) (hL : h₀.objs.size ≤ L) : View h₀ G L G [] :=
  ⟨fun _ _ e => e, fun _ _ e => .inl e, sub, by
    cases e : G.get? L with
    | none => rfl
    | some o => exact absurd (Heap.lt_size (sub _ _ e)) (Nat.not_lt.mpr hL), fun a o => ⟨fun h => (nomatch h), fun ⟨h1, h2⟩ => by rw [sub _ _ h2] at h1; cases h1⟩⟩
theorem View.up (V : View h₀ G L S tl) (F : Fr h₀ L h m) (N : News h₀ L h nw) (sub : ∀ p ∈ tl, p ∈ nw) : S.StaysIn h := fun b o e => by
  rcases V.src b o e with q | q
  · exact F.keep b o (V.sub b o q)
  · exact (N _ (sub _ ((V.snap b o).mpr ⟨q, e⟩))).1
theorem View.get (V : View h₀ G L S tl) (F : Fr h₀ L h m) (N : News h₀ L h nw) (sub : ∀ p ∈ tl, p ∈ nw) {a : Addr} {o : Obj} (e : S.get? a = some o) : h.get? a = some o := V.up F N sub a o e
theorem View.ne (V : View h₀ G L S tl) {d : Addr} (e : S.get? d = none) : ∀ p ∈ tl, p.1 ≠ d := fun p hp q => by
  have := ((V.snap p.1 p.2).mp hp).2
  rw [q, e] at this; cases this
/-- a view with objects laid into it -/
structure AddsR (h₀ G : Heap) (L : Addr) (S : Heap) (adds nw : List (Addr × Obj)) (S' : Heap) (tl' : List (Addr × Obj)) : Prop where
  V : View h₀ G L S' tl'
  up : S.StaysIn S'
  here : ∀ p ∈ adds, S'.get? p.1 = some p.2
  off : ∀ b, S.get? b = none → (∀ p ∈ adds, p.1 ≠ b) → S'.get? b = none
  sub : ∀ p ∈ tl', p ∈ nw
/-- objects of the ledger laid into the view -/
theorem View.adds (V : View h₀ G L S tl) (F : Fr h₀ L h m) (N : News h₀ L h nw) (sub : ∀ p ∈ tl, p ∈ nw) (adds : List (Addr × Obj)) (ha : ∀ p ∈ adds, p ∈ nw) :
    ∃ S' tl', AddsR h₀ G L S adds nw S' tl' := by
  have up := V.up F N sub
  obtain ⟨tl', ht⟩ := snap_ex h₀ (restr h fun b => (S.get? b).isSome ∨ ∃ p ∈ adds, p.1 = b)
  refine ⟨restr h fun b => (S.get? b).isSome ∨ ∃ p ∈ adds, p.1 = b, tl', ⟨fun b o e => ?_, fun b o e => ?_, V.sub, ?_, ht⟩, fun b o e => ?_, fun p hp => ?_, fun b e1 e2 => ?_, fun p hp => ?_⟩
  · have := V.stays b o e
    exact restr_get (up _ _ this) (.inl (by rw [this]; rfl))
  · obtain ⟨q, e'⟩ := of_restr e
    rcases q with q | ⟨p, hp, rfl⟩
    · obtain ⟨o', ho'⟩ := Option.isSome_iff_exists.mp q
      have := up _ _ ho'
      rw [e'] at this; cases this
      exact V.src _ _ ho'
    · exact .inr (N p (ha p hp)).2.2
  · cases e : (restr h fun b => (S.get? b).isSome ∨ ∃ p ∈ adds, p.1 = b).get? L with
    | none => rfl
    | some o =>
      obtain ⟨q, e'⟩ := of_restr e
      rcases q with q | ⟨p, hp, q⟩
      · rw [V.notL] at q; cases q
      · exact absurd q (N p (ha p hp)).2.1
  · exact restr_get (up _ _ e) (.inl (by rw [e]; rfl))
  · exact restr_get (N p (ha p hp)).1 (.inr ⟨p, hp, rfl⟩)
  · cases e : (restr h fun b => (S.get? b).isSome ∨ ∃ p ∈ adds, p.1 = b).get? b with
    | none => rfl
    | some o =>
      obtain ⟨q, e'⟩ := of_restr e
      rcases q with q | ⟨p, hp, q⟩
      · rw [e1] at q; cases q
      · exact absurd q (e2 p hp)
  · obtain ⟨p1, p2⟩ := p
    obtain ⟨q1, q2⟩ := (ht p1 p2).mp hp
    obtain ⟨q, e'⟩ := of_restr q2
    rcases q with q | ⟨q0, hq0, e0⟩
    · obtain ⟨o', ho'⟩ := Option.isSome_iff_exists.mp q
      have := up _ _ ho'
      rw [e'] at this; cases this
      exact sub _ ((V.snap _ _).mpr ⟨q1, ho'⟩)
    · have := (N _ (ha _ hq0)).1
      rw [e0, e'] at this
      obtain ⟨r1, r2⟩ := q0
      cases e0; cases this
      exact ha _ hq0
end

section
variable {w : World} {A : Around} {E : Value → Shared → Prop} {s : Shared} {K : Frag} {p : Program} {prog : Program} {loose : List Str} {mg mb : Str → Option Value}
  {Q : Value → Shared → Prop} {name qual : Str} {params : Arguments} {body : List Stmt} {scope : Scope} {dV kV doc pm cdv ct oc : Value} {an od : Option Addr} {osl : Array (Option Value)} {f : Addr} {vals : List Value} {binds : List (Str × Value)}

theorem enter (X : K.In s.heap) (T : TopRead p loose mg mb s.heap)
    (ho : K.lookup f = some ⟨oc, od, .func (fnOf name qual params body scope dV kV doc pm an cdv ct), osl⟩) (hcd : codeIn K cdv qual = true) (hroom : A.depth < recursionLimit)
    (hbind : BindsTo s (fnOf name qual params body scope dV kV doc pm an cdv ct) ⟨vals, []⟩ binds) (hloc : ∀ y ∈ binds, scope.names.lookup y.1 = some .local)
    (h : ∀ L h₁, Fr s.heap L h₁ (fun y => binds.reverse.lookup y) → News s.heap L h₁ [] →
      wpAny (model prog w) (A.deeper (envOf qual scope L f cdv)) (execs body (envOf qual scope L f cdv))
        (fun fl s' => Q (match fl with | .ret v => v | _ => .none) s') (fun _ _ => False) { s with heap := h₁, toks := s.toks + binds.length })
    (hco : scope.isCoroutine = false) (hgen : scope.isGenerator = false) (hk : scope.kind = .function)
    (hcell : ∀ x ∈ scope.names, x.2 ≠ .cell) : wpAny (model prog w) A (call (.ref f) vals) Q E s := by
  refine wpAny_call (codeAny_call_def (fd := fnOf name qual params body scope dV kV doc pm an cdv ct) (body := body) (binds := binds) hroom (X _ _ ho) rfl T.nolimit (codeRec_of X hcd) rfl hbind hcell hloc (fun h₁ hns hk₁ => ?_) hco hgen hk)
  exact wpAny_mono (h s.heap.objs.size h₁ ⟨hns, hk₁, Nat.le_refl _⟩ News.nil) (fun _ _ x => x) (fun _ _ x => x.elim)
end
end Mine
end

section
open PySem PySem.W PyProof.Rows PySem.Calls
namespace Mine
set_option maxRecDepth 100000
set_option maxHeartbeats 8000000

noncomputable abbrev Pg : Program := PySem.Challenge.rw_or0020_01.row.prog
noncomputable abbrev Ar (dp un : Nat) (fr : Option (List Env)) (gd : Option (List Code)) : Around := { handled := none, depth := dp, frames := fr, guards := gd, units := un }
noncomputable abbrev lstO (vs : List Value) (e : Nat) : Obj := { cls := .type "list", data := .seq vs.toArray e }
noncomputable abbrev tupO (vs : List Value) (e : Nat) : Obj := { cls := .type "tuple", data := .seq vs.toArray e }

/-- a tree: its number (0: an absent letter), its kids -/
inductive Tr where
  | mk (n : Nat) (kids : List Tr)

section
variable (S : Heap)
mutual
/-- a thread of the program's nodes -/
inductive NodeT : Value → Tr → Prop
  | mk {x d l : Addr} {n : Nat} {h1 h2 : Int} {t1 t2 tn e : Nat} {vs : List Value} {ks : List Tr} : S.get? x = some (instObj 36 d) →
      S.get? d = some (dictOf [⟨h1, .str (Str.ofString "number") t1, .int (n : Int) tn⟩, ⟨h2, .str (Str.ofString "kids") t2, .ref l⟩] 2) →
      S.get? l = some (lstO vs e) → NodesT vs ks → NodeT (.ref x) (.mk n ks)
inductive NodesT : List Value → List Tr → Prop
  | nil : NodesT [] []
  | cons {v : Value} {vs : List Value} {t : Tr} {ts : List Tr} : NodeT v t → NodesT vs ts → NodesT (v :: vs) (t :: ts)
end
end
theorem NodesT.mono {S S' : Heap} (k : S.StaysIn S') {vs : List Value} {ts : List Tr} (h : NodesT S vs ts) : NodesT S' vs ts :=
  NodesT.rec (motive_1 := fun v t _ => NodeT S' v t) (motive_2 := fun vs ts _ => NodesT S' vs ts) (fun a b c _ r => .mk (k _ _ a) (k _ _ b) (k _ _ c) r) .nil (fun _ _ a r => .cons a r) h
theorem NodeT.mono {S S' : Heap} (k : S.StaysIn S') {v : Value} {t : Tr} : NodeT S v t → NodeT S' v t := fun h => by
  cases h with
  | mk a b c r => exact .mk (k _ _ a) (k _ _ b) (k _ _ c) (NodesT.mono k r)

noncomputable abbrev Tab := List (Str × Bool)
/-- the table: number i + 1 has the i-th base and reply mark -/
noncomputable def Tbl (w : World) (S : Heap) (d : Addr) (tab : Tab) : Prop :=
  ∃ kvs : List (Int × Value), S.DictOf (intKind Pg w) d kvs ∧ (d == sysModules) = false ∧ kvs.map (·.1) = (List.range tab.length).map (fun i : Nat => (i : Int) + 1) ∧
    ∀ (i : Nat) b r, tab[i]? = some (b, r) → ∃ a l t0 t1 tz tb e x0 x1, ∃ z : Int, valueAt kvs ((i : Int) + 1) = some (.ref a) ∧ S.get? a = some (tupO [.int x0 t0, .str x1 t1, .ref l, .int z tz, .str b tb, .bool r] e)
theorem Tbl.mono {w : World} {S S' : Heap} {d : Addr} {tab : Tab} (k : S.StaysIn S') (h : Tbl w S d tab) : Tbl w S' d tab := by
  obtain ⟨kvs, h1, h2, h3, h4⟩ := h
  refine ⟨kvs, Heap.DictOf.keep h1 k, h2, h3, fun i b r e => ?_⟩
  obtain ⟨a, l, t0, t1, tz, tb, e', x0, x1, z, q1, q2⟩ := h4 i b r e
  exact ⟨a, l, t0, t1, tz, tb, e', x0, x1, z, q1, k _ _ q2⟩

section
variable {prog : Program} {w : World} {A : Around} {E : Value → Shared → Prop} {s : Shared} {Q : Value → Shared → Prop}

theorem v_dict_int {d : Addr} {kvs : List (Int × Value)} {k : Int} {t : Nat} {v : Value} {value slice : PySem.Expr} (hd : s.heap.DictOf (intKind prog w) d kvs) (hl : valueAt kvs k = some v)
    (h : Q v { s with toks := s.toks + 1 })
    (hs : subscripted slice false (.ref d) (.int k t) = operate [.ref d, .int k t] (getItem (.ref d) (.int k t)) := by with_unfolding_all rfl) :
    wpAny (model prog w) A (subscriptTail value slice (.ref d) (.int k t)) Q E s :=
  tail_any hd.typeIs slot_dict_getitem.lookup (wpAny_getItem_of (intKind_is prog w k t) hd.mapOf hl h) hs
theorem v_list_int {l : Addr} {vs : List Value} {e : Nat} {k : Int} {t : Nat} {v : Value} {value slice : PySem.Expr} (hl : s.heap.get? l = some (lstO vs e)) (h0 : 0 ≤ k) (h1 : k < 2 ^ 63) (hv : vs[k.toNat]? = some v)
    (h : Q v s)
    (hs : subscripted slice false (.ref l) (.int k t) = operate [.ref l, .int k t] (getItem (.ref l) (.int k t)) := by with_unfolding_all rfl) :
    wpAny (model prog w) A (subscriptTail value slice (.ref l) (.int k t)) Q E s :=
  have hL : s.heap.IsList l vs.toArray := ⟨_, hl, rfl, _, rfl⟩
  tail_any hL.typeIs slot_list_getitem.lookup (wpAny_getItem_list hL h0 h1 (by simpa using hv) h) hs
theorem v_tup_int {l : Addr} {vs : List Value} {e : Nat} {k : Int} {t : Nat} {v : Value} {value slice : PySem.Expr} (hl : s.heap.get? l = some (tupO vs e)) (h0 : 0 ≤ k) (h1 : k < 2 ^ 63) (hv : vs[k.toNat]? = some v)
    (h : Q v s)
    (hs : subscripted slice false (.ref l) (.int k t) = operate [.ref l, .int k t] (getItem (.ref l) (.int k t)) := by with_unfolding_all rfl) :
    wpAny (model prog w) A (subscriptTail value slice (.ref l) (.int k t)) Q E s := by
  have hlt : k.toNat < vs.length := by
    by_cases q : k.toNat < vs.length
    · exact q
    · rw [List.getElem?_eq_none (Nat.le_of_not_lt q)] at hv; cases hv
  refine item_tupleT (j := k.toNat) ⟨_, hl, rfl, _, rfl⟩ (Int.le_trans (by decide) h0) h1 ?_ hv h hs
  unfold seqIndex?
  simp only [show ¬ k < 0 from Int.not_lt.mpr h0, if_false]
  first
    | (rw [if_pos (by omega)])
    | (simp; omega)
end

theorem InstAt.of_view {h₀ G h : Heap} {L x C dx : Addr} {S : Heap} {tl nw : List (Addr × Obj)} {m : Str → Option Value} {od : Obj} {sl : Array (Option Value)} (V : View h₀ G L S tl) (F : Fr h₀ L h m) (N : News h₀ L h nw) (sub : ∀ p ∈ tl, p ∈ nw)
    (h1 : S.get? x = some ⟨.ref C, some dx, .plain, sl⟩) (h2 : S.get? dx = some od) :
    InstAt h x ⟨.ref C, some dx, .plain, sl⟩ C (some od) := ⟨V.get F N sub h1, rfl, rfl, V.get F N sub h2⟩
theorem InstAt.of_viewN {h₀ G h : Heap} {L x C dx : Addr} {S : Heap} {tl nw : List (Addr × Obj)} {m : Str → Option Value} {od : Obj} {sl : Array (Option Value)} (V : View h₀ G L S tl) (F : Fr h₀ L h m) (N : News h₀ L h nw) (sub : ∀ p ∈ tl, p ∈ nw)
    (h1 : S.get? x = some ⟨.ref C, some dx, .plain, sl⟩) (h2 : (dx, od) ∈ nw) :
    InstAt h x ⟨.ref C, some dx, .plain, sl⟩ C (some od) := ⟨V.get F N sub h1, rfl, rfl, (N _ h2).1⟩

/-- what a call of f upon vals does: it keeps the heap, and its view grows -/
noncomputable def HSpec (w : World) (f : Addr) (n : Nat) (vals : List Value) (Pre : Heap → Prop) (Post : Heap → Value → Prop) : Prop :=
  ∀ (p : Program) (loose : List Str) (mg mb : Str → Option Value) (dp un : Nat) (fr : Option (List Env)) (gd : Option (List Code)) (s : Shared) (Q E : Value → Shared → Prop) (G : Heap),
    dp + n < 1000 → un + 8 * n + 100 < 9900 → (grab.heap_1 w.params).In s.heap → TopRead p loose mg mb s.heap → G.StaysIn s.heap → Pre G →
    (∀ r h' tk G', s.heap.StaysIn h' → Grow s.heap G G' → G'.StaysIn h' → Post G' r → Q r { s with heap := h', toks := tk }) →
    wpAny (model Pg w) (Ar dp un fr gd) (call (.ref f) vals) Q E s

noncomputable def wtab (tab : Tab) (n : Nat) : Prop := 1 ≤ n ∧ n ≤ tab.length
noncomputable def entry (tab : Tab) (n : Nat) : Str × Bool := tab.getD (n - 1) (Str.ofString "", false)
/-- the number that names a root's base -/
noncomputable def rep : Tr → Nat
  | .mk 0 (.mk a _ :: _) => a
  | .mk n _ => n
noncomputable def RootOk (tab : Tab) (t : Tr) : Prop := wtab tab (rep t)
noncomputable def base (tab : Tab) (t : Tr) : Str := (entry tab (rep t)).1
theorem Tbl.dict {w : World} {S : Heap} {d : Addr} {tab : Tab} (h : Tbl w S d tab) : ∃ kvs : List (Int × Value), S.DictOf (intKind Pg w) d kvs ∧
    ∀ n, wtab tab n → ∃ a l t0 t1 tz tb e x0 x1, ∃ z : Int, valueAt kvs (n : Int) = some (.ref a) ∧ S.get? a = some (tupO [.int x0 t0, .str x1 t1, .ref l, .int z tz, .str (entry tab n).1 tb, .bool (entry tab n).2] e) := by
  obtain ⟨kvs, hD, -, -, hE⟩ := h
  refine ⟨kvs, hD, fun n ok => ?_⟩
  have hlen : n - 1 < tab.length := by unfold wtab at ok; omega
  obtain ⟨b, r, hbr⟩ : ∃ b r, tab[n - 1]? = some (b, r) := ⟨_, _, List.getElem?_eq_getElem hlen⟩
  have hb : entry tab n = (b, r) := by unfold entry; rw [List.getD_eq_getElem?_getD, hbr]; rfl
  obtain ⟨a, l, t0, t1, tz, tb, e', x0, x1, z, hv, ha⟩ := hE _ _ _ hbr
  have hn : ((n - 1 : Nat) : Int) + 1 = (n : Int) := by unfold wtab at ok; omega
  rw [hn] at hv
  rw [hb]
  exact ⟨a, l, t0, t1, tz, tb, e', x0, x1, z, hv, ha⟩
noncomputable def Tr.num : Tr → Nat
  | .mk n _ => n
noncomputable def Tr.kids : Tr → List Tr
  | .mk _ ks => ks
theorem rep_pos {n : Nat} {ks : List Tr} (h : n ≠ 0) : rep (.mk n ks) = n := by cases n with | zero => exact absurd rfl h | succ n => rfl
noncomputable def better (tab : Tab) (t h : Tr) : Bool := if h.num = 0 then false else if t.num = 0 then true else (entry tab h.num).2 && !(entry tab t.num).2
end Mine
end

section
open PySem PySem.W PyProof.Rows PySem.Calls
namespace Mine
set_option maxRecDepth 100000
set_option maxHeartbeats 8000000

section
variable {prog : Program} {w : World} {A : Around} {E : Value → Shared → Prop} {s : Shared} {env : Env} {h₀ G : Heap} {S : Heap} {tl mu : List (Addr × Obj)} {m : Str → Option Value}

structure TurnS (h₀ G : Heap) (L : Addr) (own : List (Addr × Obj)) (S₁ : Heap) (J : (Str → Option Value) → List (Addr × Obj) → Heap → Prop) (s₁ s₂ : Shared) (h' : Heap) (tk' : Nat) (m' : Str → Option Value) (mu' : List (Addr × Obj)) (S' : Heap) (tl' : List (Addr × Obj)) : Prop where
  eq : s₂ = { s₁ with heap := h', toks := tk' }
  V : View h₀ G L S' tl'
  up : S₁.StaysIn S'
  off : ∀ q ∈ own, S'.get? q.1 = none
  mu : ∀ p ∈ mu', S'.get? p.1 = none ∧ ∀ q ∈ own, q.1 ≠ p.1
  F : Fr h₀ L h' m'
  N : News h₀ L h' (mu' ++ (own ++ tl'))
  j : J m' mu' S'
/-- how a turn ends: it leaves, or the invariant stands again -/
noncomputable def TurnEnd (h₀ G : Heap) (L : Addr) (own : List (Addr × Obj)) (S₁ : Heap) (J : (Str → Option Value) → List (Addr × Obj) → Heap → Prop) (s₁ : Shared) (R : Result → Shared → Prop) (f : Flow) (s₂ : Shared) : Prop :=
  match f with
  | .ret v => R (.ok (.ret v)) s₂
  | .brk => R (.ok .next) s₂
  | _ => ∃ h' tk' m' mu' S' tl', TurnS h₀ G L own S₁ J s₁ s₂ h' tk' m' mu' S' tl'

/-- the turn's own part, common to the makes of loops -/
noncomputable def Turn (prog : Program) (w : World) (A : Around) (h₀ G : Heap) (L : Addr) (env : Env) (S : Heap) (bind : Nat → Value → (Str → Option Value) → (Str → Option Value) → Prop) (body : List Stmt) (n : Nat) (P : Nat → Value → Prop)
    (J : Nat → (Str → Option Value) → List (Addr × Obj) → Heap → Prop) (s : Shared) (R : Result → Shared → Prop) : Prop :=
  ∀ i v m₁ m₂ mu₁ S₁ tl₁ h tk own, i < n → P i v → J i m₁ mu₁ S₁ → View h₀ G L S₁ tl₁ → S.StaysIn S₁ → (∀ q ∈ own, S₁.get? q.1 = none) → (∀ p ∈ mu₁, S₁.get? p.1 = none ∧ ∀ q ∈ own, q.1 ≠ p.1) →
    bind i v m₁ m₂ → Fr h₀ L h m₂ → News h₀ L h (mu₁ ++ (own ++ tl₁)) →
    wpAny (model prog w) A (execs body env) (TurnEnd h₀ G L own S₁ (J (i + 1)) { s with heap := h, toks := tk } R) (fun _ _ => False) { s with heap := h, toks := tk }

structure LoopS (St : Nat → Heap → Prop) (S h₀ G : Heap) (L I : Addr) (J : Nat → (Str → Option Value) → List (Addr × Obj) → Heap → Prop) (n : Nat) (s : Shared) (k : Nat) (s' : Shared) (h' : Heap) (tk : Nat) (m' : Str → Option Value) (mu' : List (Addr × Obj)) (S' : Heap) (tl' : List (Addr × Obj)) (i : Nat) (o' : Obj) : Prop where
  eq : s' = { s with heap := h', toks := tk }
  st : St i h'
  V : View h₀ G L S' tl'
  up : S.StaysIn S'
  off : S'.get? I = none
  mu : ∀ p ∈ mu', S'.get? p.1 = none ∧ I ≠ p.1
  F : Fr h₀ L h' m'
  N : News h₀ L h' (mu' ++ ([(I, o')] ++ tl'))
  j : J i m' mu' S'
  le : i ≤ n
  eqk : k = n + 1 - i
noncomputable def LoopI (St : Nat → Heap → Prop) (S h₀ G : Heap) (L I : Addr) (J : Nat → (Str → Option Value) → List (Addr × Obj) → Heap → Prop) (n : Nat) (s : Shared) (k : Nat) (s' : Shared) : Prop :=
  ∃ h' tk m' mu' S' tl' i o', LoopS St S h₀ G L I J n s k s' h' tk m' mu' S' tl' i o'
theorem loop_name {x : Str} {px : Pos} {body : List Stmt} {R : Result → Shared → Prop} {I : Addr} {oI : Obj} {fp : List Addr} {n : Nat} {P : Nat → Value → Prop} {St : Nat → Heap → Prop}
    (W : Walks prog w A I fp [I] n P St) (hx : env.kindOf x = some .local) (hp : (env.scope.kind == .class || (env.scope.kind == .module && env.locals != env.globals)) = false)
    (V : View h₀ G env.locals S tl) (F : Fr h₀ env.locals s.heap m) (N : News h₀ env.locals s.heap (mu ++ ([(I, oI)] ++ tl))) (hI : S.get? I = none) (hfp : ∀ b ∈ fp, b ≠ I → ∃ o, S.get? b = some o) (hst : St 0 s.heap) (hIo : ∀ i h, St i h → ∃ o, h.get? I = some o)
    (hmu : ∀ p ∈ mu, S.get? p.1 = none ∧ I ≠ p.1) (J : Nat → (Str → Option Value) → List (Addr × Obj) → Heap → Prop) (h0 : J 0 m mu S)
    (turn : Turn prog w A h₀ G env.locals env S (fun _ v m₁ m₂ => m₂ = fun y => if y = x then some v else m₁ y) body n P J s R)
    (done : ∀ m₁ mu₁ S₁ tl₁ h tk, J n m₁ mu₁ S₁ → View h₀ G env.locals S₁ tl₁ → S.StaysIn S₁ → (∀ p ∈ mu₁, S₁.get? p.1 = none) → Fr h₀ env.locals h m₁ → News h₀ env.locals h (mu₁ ++ tl₁) → R (.ok .next) { s with heap := h, toks := tk }) :
    codeAny (model prog w) A (.forLoop (.Name x px) (.ref I) body [] env) R s := by
  refine codeAny_forLoop_any
    (LoopI St S h₀ G env.locals I J n s) ?_ (n + 1)
    ⟨s.heap, s.toks, m, mu, S, tl, 0, oI, rfl, hst, V, fun _ _ e => e, hI, hmu, F, N, h0, Nat.zero_le _, rfl⟩
  rintro k s' ⟨h', tk, m', mu', S', tl', i, o', rfl, hst', V', hS, hI', hmu', F', N', hJ, hi, rfl⟩
  have nI := N' (I, o') (List.mem_append_right _ (List.mem_append_left _ (.head _)))
  have hIL : I ≠ env.locals := nI.2.1
  have hI0 : h₀.get? I = none := nI.2.2
  have next : ∀ h₁, (∀ b o, b ∉ [I] → h'.get? b = some o → h₁.get? b = some o) → Fr h₀ env.locals h₁ m' ∧ News h₀ env.locals h₁ (mu' ++ tl') := fun h₁ hk => by
    refine ⟨⟨F'.ns.at' fun o e => hk _ o (by simpa using Ne.symm hIL) e, fun b o e => hk b o (fun q => ?_) (F'.keep b o e), F'.above⟩, fun p hp => ⟨hk _ _ ?_ (N' p ?_).1, (N' p ?_).2⟩⟩
    · rw [List.mem_singleton.mp q, hI0] at e; cases e
    · intro q
      rcases List.mem_append.mp hp with hp | hp
      · exact (hmu' p hp).2 (List.mem_singleton.mp q).symm
      · have := ((V'.snap p.1 p.2).mp hp).2
        rw [List.mem_singleton.mp q, hI'] at this; cases this
    all_goals
      rcases List.mem_append.mp hp with hp | hp
      · exact List.mem_append_left _ hp
      · exact List.mem_append_right _ (List.mem_append_right _ hp)
  have up := V'.up F' N' fun p hp => List.mem_append_right _ (List.mem_append_right _ hp)
  by_cases hlt : i < n
  · refine W.item i _ _ _ hlt hst' fun v h₁ tk₁ hP hst₁ hk₁ => ?_
    obtain ⟨F₁, N₁⟩ := next h₁ hk₁
    obtain ⟨o₁, hIh⟩ := hIo _ _ hst₁
    refine wpAny_of_eq (show letOwnedTupleGo (.Name x px) (.ref I) v = pure () from rfl) (wpAny_assign_Name (wpAny_storeName_local hx F₁.ns (fun h₂ hn₂ hs₂ => ?_) hp))
    have F₂ := F₁.set hn₂ hs₂
    have N₂ : News h₀ env.locals h₂ (mu' ++ ([(I, o₁)] ++ tl')) := News.set (List.forall_mem_append.mpr ⟨fun p hp => N₁ p (List.mem_append_left _ hp), List.forall_mem_append.mpr ⟨List.forall_mem_singleton.mpr ⟨hIh, hIL, hI0⟩, fun p hp => N₁ p (List.mem_append_right _ hp)⟩⟩) hs₂
    refine wpAny_mono (turn i v m' _ mu' S' tl' h₂ _ [(I, o₁)] hlt hP hJ V' hS (List.forall_mem_singleton.mpr hI') (fun p hp => ⟨(hmu' p hp).1, List.forall_mem_singleton.mpr (hmu' p hp).2⟩) rfl F₂ N₂) (fun f s₃ hf => ?_) fun _ _ e => e.elim
    have fin : TurnEnd h₀ G env.locals [(I, o₁)] S' (J (i + 1)) { s with heap := h₂, toks := tk₁ + 1 } R .next s₃ → ∃ m, m < n + 1 - i ∧ LoopI St S h₀ G env.locals I J n s m s₃ := by
      rintro ⟨h₃, tk₃, m₃, mu₃, S₃, tl₃, rfl, V₃, st₃, ho₃, hmu₃, F₃, N₃, J₃⟩
      refine ⟨n + 1 - (i + 1), by omega, h₃, tk₃, m₃, mu₃, S₃, tl₃, i + 1, o₁, rfl, ?_, V₃, fun b o e => st₃ b o (hS b o e), ho₃ _ (.head _), fun p hp => ⟨(hmu₃ p hp).1, (hmu₃ p hp).2 _ (.head _)⟩, F₃, N₃, J₃, hlt, rfl⟩
      refine W.frame _ _ _ hst₁ fun b hb o e => ?_
      by_cases hbI : b = I
      · have hb2 : b ≠ env.locals := hbI ▸ hIL
        subst hbI
        rw [hIh] at e; cases e
        exact (N₃ (b, o₁) (List.mem_append_right _ (List.mem_append_left _ (.head _)))).1
      · obtain ⟨oS, hoS⟩ := hfp b hb hbI
        have q1 := V₃.up F₃ N₃ (fun p hp => List.mem_append_right _ (List.mem_append_right _ hp)) b oS (st₃ _ _ (hS _ _ hoS))
        have q2 := hk₁ b oS (by simpa using hbI) (up b oS (hS _ _ hoS))
        rw [q2] at e; cases e; exact q1
    cases f with
    | ret v => exact hf
    | brk => exact hf
    | next => exact fin hf
    | cont => exact fin hf
  · obtain rfl : i = n := by omega
    refine W.done _ _ _ hst' fun h₁ tk₁ hk₁ => wpAny_execs_nil ?_
    obtain ⟨F₁, N₁⟩ := next h₁ hk₁
    exact done m' mu' S' tl' h₁ tk₁ hJ V' hS (fun p hp => (hmu' p hp).1) F₁ N₁

/-- the loop's own part behind its source's value -/
noncomputable def ForAt (prog : Program) (w : World) (A : Around) (env : Env) (target : PySem.Expr) (body : List Stmt) (R : Result → Shared → Prop) (E : Value → Shared → Prop) (xv : Value) (s₁ : Shared) : Prop :=
  wpAny (model prog w) A (pyIter xv) (fun it s₂ => codeAny (model prog w) A (.forLoop target it body [] env) R s₂) E s₁
noncomputable def ForR (prog : Program) (w : World) (A : Around) (env : Env) (Q : Flow → Shared → Prop) (E : Value → Shared → Prop) (r : Result) (s' : Shared) : Prop :=
  match r with | .ok f => Q f s' | .error e => cameBackBy (model prog w) A env E e s'
theorem for_at {target iter : PySem.Expr} {body : List Stmt} {pos : Pos} {Q : Flow → Shared → Prop} (h : wpAny (model prog w) A (eval iter env) (ForAt prog w A env target body (ForR prog w A env Q E) E) E s)
    (hs : ∀ x, foldedSetIterable iter env x = pure x := by intro _; rfl) : wpAny (model prog w) A (exec (.For target iter body [] pos) env) Q E s :=
  wpAny_For (wpAny_mono h (fun _ _ h₁ => h₁) fun _ _ e => e) hs

theorem at_list {L : Addr} {x : Str} {px : Pos} {body : List Stmt} {Q : Flow → Shared → Prop} {l : Addr} {vs : List Value} {e : Nat} (hLe : env.locals = L) (hh : A.handled = none)
    (hx : env.kindOf x = some .local) (hp : (env.scope.kind == .class || (env.scope.kind == .module && env.locals != env.globals)) = false)
    (V : View h₀ G L S tl) (F : Fr h₀ L s.heap m) (N : News h₀ L s.heap (mu ++ tl)) (hl : S.get? l = some (lstO vs e))
    (hmu : ∀ p ∈ mu, S.get? p.1 = none) (J : Nat → (Str → Option Value) → List (Addr × Obj) → Heap → Prop) (h0 : J 0 m mu S)
    (turn : ∀ s', (∃ h, s' = { s with heap := h }) → Turn prog w A h₀ G L env S (fun _ v m₁ m₂ => m₂ = fun y => if y = x then some v else m₁ y) body vs.length (fun i v => vs[i]? = some v) J s' (ForR prog w A env Q E))
    (done : ∀ m₁ mu₁ S₁ tl₁ h tk, J vs.length m₁ mu₁ S₁ → View h₀ G L S₁ tl₁ → S.StaysIn S₁ → (∀ p ∈ mu₁, S₁.get? p.1 = none) → Fr h₀ L h m₁ → News h₀ L h (mu₁ ++ tl₁) → Q .next { s with heap := h, toks := tk }) :
    ForAt prog w A env (.Name x px) body (ForR prog w A env Q E) E (.ref l) s := by
  subst hLe
  have up := V.up F N fun p hp => List.mem_append_right _ hp
  have hls : s.heap.IsList l vs.toArray := ⟨_, up _ _ hl, rfl, _, rfl⟩
  have hlt : l < s.heap.objs.size := Heap.lt_size (up _ _ hl)
  have hne : l ≠ s.heap.objs.size := Nat.ne_of_lt hlt
  refine wpAny_pyIter_list hls ?_
  have grow : ∀ b o, s.heap.get? b = some o → (s.heap.push { cls := .type "list_iterator", data := .fields #[.ref l, .int 0 0] }).get? b = some o := fun b o e => Heap.get?_push_of_some _ e
  have hSI : S.get? s.heap.objs.size = none := by
    cases q : S.get? s.heap.objs.size with
    | none => rfl
    | some o => exact absurd (Heap.lt_size (up _ _ q)) (Nat.lt_irrefl _)
  have N1 := News.push F N { cls := .type "list_iterator", data := .fields #[.ref l, .int 0 0] }
  refine loop_name (oI := { cls := .type "list_iterator", data := .fields #[.ref l, .int 0 0] }) (Walks.list hh s.heap.objs.size l hne vs.toArray) hx hp V (F.keeps grow) (fun p hp => N1 p ?_) hSI (fun b hb hbI => ?_) ⟨⟨_, Heap.get?_push_size _ rfl, rfl, rfl⟩, hls.at fun o e => grow _ _ e⟩
    (fun i h st => by obtain ⟨o, e, _⟩ := st.1; exact ⟨o, e⟩) (fun p hp => ⟨hmu p hp, fun q => ?_⟩) J h0 ?_ ?_
  · rcases List.mem_append.mp hp with hp | hp
    · exact .tail _ (List.mem_append_left _ hp)
    · rcases List.mem_append.mp hp with hp | hp
      · rw [List.mem_singleton.mp hp]; exact .head _
      · exact .tail _ (List.mem_append_right _ hp)
  · rcases List.mem_cons.mp hb with rfl | hb
    · exact absurd rfl hbI
    · rw [List.mem_singleton.mp hb]; exact ⟨_, hl⟩
  · exact absurd (Heap.lt_size (N p (List.mem_append_left _ hp)).1) (by rw [← q]; exact Nat.lt_irrefl _)
  · have t := turn { s with heap := s.heap.push { cls := .type "list_iterator", data := .fields #[.ref l, .int 0 0] } } ⟨_, rfl⟩
    intro i v m₁ m₂ mu₁ S₁ tl₁ h tk own hi hP
    exact t i v m₁ m₂ mu₁ S₁ tl₁ h tk own (by simpa using hi) (by simpa using hP)
  · intro m₁ mu₁ S₁ tl₁ h tk hJ
    exact done m₁ mu₁ S₁ tl₁ h tk (by simpa using hJ)

structure EnumS (e it l : Addr) (S h₀ G : Heap) (L : Addr) (J : Nat → (Str → Option Value) → List (Addr × Obj) → Heap → Prop) (n : Nat) (s : Shared) (k : Nat) (s' : Shared) (h' : Heap) (tk : Nat) (m' : Str → Option Value) (mu' : List (Addr × Obj)) (S' : Heap) (tl' : List (Addr × Obj)) (i : Nat) (old : Value) : Prop where
  eq : s' = { s with heap := h', toks := tk }
  he : IsEnum h' e it ((i : Nat) : Int) old
  hit : h'.IsListIter it l i
  V : View h₀ G L S' tl'
  up : S.StaysIn S'
  offe : S'.get? e = none
  offi : S'.get? it = none
  mu : ∀ p ∈ mu', S'.get? p.1 = none ∧ e ≠ p.1 ∧ it ≠ p.1
  F : Fr h₀ L h' m'
  N : News h₀ L h' (mu' ++ tl')
  j : J i m' mu' S'
  le : i ≤ n
  eqk : k = n + 1 - i
noncomputable def EnumI (e it l : Addr) (S h₀ G : Heap) (L : Addr) (J : Nat → (Str → Option Value) → List (Addr × Obj) → Heap → Prop) (n : Nat) (s : Shared) (k : Nat) (s' : Shared) : Prop :=
  ∃ h' tk m' mu' S' tl' i old, EnumS e it l S h₀ G L J n s k s' h' tk m' mu' S' tl' i old
theorem at_enum {L : Addr} {xi xv : Str} {pi pv pt : Pos} {x1} {body : List Stmt} {Q : Flow → Shared → Prop} {e it l : Addr} {vs : List Value} {ee : Nat} (hLe : env.locals = L) (hh : A.handled = none)
    (hxi : env.kindOf xi = some .local) (hxv : env.kindOf xv = some .local) (hp : (env.scope.kind == .class || (env.scope.kind == .module && env.locals != env.globals)) = false)
    (V : View h₀ G L S tl) (F : Fr h₀ L s.heap m) (N : News h₀ L s.heap (mu ++ tl)) (hl : S.get? l = some (lstO vs ee))
    (he : IsEnum s.heap e it 0 .none) (hit : s.heap.IsListIter it l 0) (hei : e ≠ it) (heF : e ≠ L ∧ h₀.get? e = none ∧ S.get? e = none ∧ ∀ p ∈ mu, e ≠ p.1) (hiF : it ≠ L ∧ h₀.get? it = none ∧ S.get? it = none ∧ ∀ p ∈ mu, it ≠ p.1)
    (hmu : ∀ p ∈ mu, S.get? p.1 = none) (J : Nat → (Str → Option Value) → List (Addr × Obj) → Heap → Prop) (h0 : J 0 m mu S)
    (turn : Turn prog w A h₀ G L env S (fun i v m₁ m₂ => ∃ tk, m₂ = fun y => if y = xv then some v else if y = xi then some (.int (i : Int) tk) else m₁ y) body vs.length (fun i v => vs[i]? = some v) J s (ForR prog w A env Q E))
    (done : ∀ m₁ mu₁ S₁ tl₁ h tk, J vs.length m₁ mu₁ S₁ → View h₀ G L S₁ tl₁ → S.StaysIn S₁ → (∀ p ∈ mu₁, S₁.get? p.1 = none) → Fr h₀ L h m₁ → News h₀ L h (mu₁ ++ tl₁) → Q .next { s with heap := h, toks := tk }) :
    ForAt prog w A env (.Tuple [.Name xi pi, .Name xv pv] x1 pt) body (ForR prog w A env Q E) E (.ref e) s := by
  subst hLe
  refine wpAny_pyIter_enum he (codeAny_forLoop_any
    (EnumI e it l S h₀ G env.locals J vs.length s) ?_ (vs.length + 1)
    ⟨s.heap, s.toks, m, mu, S, tl, 0, .none, rfl, he, hit, V, fun _ _ e => e, heF.2.2.1, hiF.2.2.1, fun p hp => ⟨hmu p hp, heF.2.2.2 p hp, hiF.2.2.2 p hp⟩, F, N, h0, Nat.zero_le _, rfl⟩)
  rintro k s' ⟨H, tk, m', mu', S', tl', i, old, rfl, he', hit', V', hS, hSe, hSi, hmu', F', N', hJ, hi, rfl⟩
  have up := V'.up F' N' fun p hp => List.mem_append_right _ hp
  have hl' : H.IsList l vs.toArray := ⟨_, up _ _ (hS _ _ hl), rfl, _, rfl⟩
  have hle : l ≠ e := fun q => by have := hS _ _ hl; rw [q, hSe] at this; cases this
  have hli : l ≠ it := fun q => by have := hS _ _ hl; rw [q, hSi] at this; cases this
  have next : ∀ h₁, (∀ b o, b ≠ e → b ≠ it → H.get? b = some o → h₁.get? b = some o) → Fr h₀ env.locals h₁ m' ∧ News h₀ env.locals h₁ (mu' ++ tl') := fun h₁ hk => by
    refine ⟨⟨F'.ns.at' fun o x => hk _ o (Ne.symm heF.1) (Ne.symm hiF.1) x, fun b o x => hk b o (fun q => ?_) (fun q => ?_) (F'.keep b o x), F'.above⟩, fun p hp => ⟨hk _ _ ?_ ?_ (N' p hp).1, (N' p hp).2⟩⟩
    · rw [q, heF.2.1] at x; cases x
    · rw [q, hiF.2.1] at x; cases x
    · intro q
      rcases List.mem_append.mp hp with hp | hp
      · exact (hmu' p hp).2.1 q.symm
      · have := ((V'.snap p.1 p.2).mp hp).2
        rw [q, hSe] at this; cases this
    · intro q
      rcases List.mem_append.mp hp with hp | hp
      · exact (hmu' p hp).2.2 q.symm
      · have := ((V'.snap p.1 p.2).mp hp).2
        rw [q, hSi] at this; cases this
  cases hv : vs[i]? with
  | none =>
    obtain rfl : i = vs.length := Nat.le_antisymm hi (by simpa using hv)
    refine wpAny_pyNext_enum_end hh he' hit' hl' (by simp) fun h₁ he₁ => wpAny_execs_nil ?_
    obtain ⟨F₁, N₁⟩ := next h₁ fun b o _ hbi x => he₁ b o hbi x
    exact done m' mu' S' tl' h₁ tk hJ V' hS (fun p hp => (hmu' p hp).1) F₁ N₁
  | some v =>
    have hlt : i < vs.length := (List.getElem?_eq_some_iff.mp hv).1
    refine wpAny_pyNext_enum_item he' hit' hl' (x := v) (by simpa using hv) hei fun h₁ heo hit₁ ht₁ hz₁ hk₁ => ?_
    refine wpAny_letOwnedTupleGo_enum heo fun h₂ he₂ hs₂ => ?_
    replace hs₂ : Heap.SameBut e h₁ h₂ := hs₂
    have heH : e < H.objs.size := Heap.lt_size he'
    have ht₂ : h₂.IsTuple H.objs.size #[.int i tk, v] := ⟨_, (hs₂.2 _ (Nat.ne_of_gt heH)).trans ht₁, rfl, _, rfl⟩
    have hz₂ : h₂.objs.size = H.objs.size + 1 := hs₂.1.trans hz₁
    refine wpAny_assign_Tuple hh ht₂ rfl rfl fun h₃ hx₃ => ?_
    replace hx₃ : Heap.ExtBut h₂.objs.size h₂ h₃ := hx₃
    have old₃ : ∀ b o, b < H.objs.size → h₂.get? b = some o → h₃.get? b = some o := fun b o hb x => hx₃ b o (by rw [hz₂]; exact Nat.ne_of_lt (Nat.lt_succ_of_lt hb)) x
    obtain ⟨oit, hoit, hoit'⟩ := hit₁
    have hiH : it < H.objs.size := by obtain ⟨o, ho, _⟩ := hit'; exact Heap.lt_size ho
    have up₃ : ∀ b o, b ≠ e → b ≠ it → H.get? b = some o → h₃.get? b = some o := fun b o hbe hbi x => old₃ b o (Heap.lt_size x) (hs₂.extBut b o hbe (hk₁ b o hbe hbi x))
    have he₃ := old₃ e _ heH he₂
    have hit₃ := old₃ it oit hiH (hs₂.extBut it oit (Ne.symm hei) hoit)
    obtain ⟨F₃, N₃⟩ := next h₃ up₃
    show wpAny _ A (do holding [v] (assign (.Name xi pi) env (.int i tk)); do holding [] (assign (.Name xv pv) env v); pure ()) _ _ _
    refine wpAny_bind (wpAny_holding (wpAny_assign_Name (wpAny_storeName_local hxi F₃.ns (fun h₄ hn₄ hs₄ => ?_) hp)))
    replace hs₄ : Heap.SameBut env.locals h₃ h₄ := hs₄
    have F₄ := F₃.set hn₄ hs₄
    refine wpAny_bind (wpAny_holding (wpAny_assign_Name (wpAny_storeName_local hxv hn₄ (fun h₅ hn₅ hs₅ => wpAny_pure ?_) hp)))
    replace hs₅ : Heap.SameBut env.locals h₄ h₅ := hs₅
    have F₅ := F₄.set hn₅ hs₅
    have he₅ := hs₅.extBut _ _ heF.1 (hs₄.extBut _ _ heF.1 he₃)
    have hit₅ := hs₅.extBut _ _ hiF.1 (hs₄.extBut _ _ hiF.1 hit₃)
    have N₅ := (N₃.set hs₄).set hs₅
    have hi1 : ((i + 1 : Nat) : Int) = (i : Int) + 1 := by push_cast; rfl
    obtain ⟨oe, hoe, hback⟩ : ∃ oe, h₅.get? e = some oe ∧ ∀ h', h'.get? e = some oe → IsEnum h' e it ((i : Int) + 1) v := ⟨_, he₅, fun _ x => x⟩
    generalize hs5 : (Shared.mk h₅ _ _ _ _) = s₅
    have hs5' : ∃ tk, s₅ = { s with heap := h₅, toks := tk } := ⟨_, hs5.symm⟩
    clear hs5
    obtain ⟨tk₅, rfl⟩ := hs5'
    refine wpAny_mono (turn i v m' _ mu' S' tl' h₅ _ [(e, oe), (it, oit)] hlt hv hJ V' hS (List.forall_mem_cons.mpr ⟨hSe, List.forall_mem_singleton.mpr hSi⟩) (fun p hp => ⟨(hmu' p hp).1, List.forall_mem_cons.mpr ⟨(hmu' p hp).2.1, List.forall_mem_singleton.mpr (hmu' p hp).2.2⟩⟩) ⟨tk, rfl⟩ F₅
      (List.forall_mem_append.mpr ⟨fun p hp => N₅ p (List.mem_append_left _ hp), List.forall_mem_append.mpr ⟨List.forall_mem_cons.mpr ⟨⟨hoe, heF.1, heF.2.1⟩, List.forall_mem_singleton.mpr ⟨hit₅, hiF.1, hiF.2.1⟩⟩, fun p hp => N₅ p (List.mem_append_right _ hp)⟩⟩)) (fun f s₃ hf => ?_) fun _ _ e => e.elim
    · have fin : TurnEnd h₀ G env.locals [(e, oe), (it, oit)] S' (J (i + 1)) { s with heap := h₅, toks := tk₅ } (ForR prog w A env Q E) .next s₃ → ∃ m, m < vs.length + 1 - i ∧ EnumI e it l S h₀ G env.locals J vs.length s m s₃ := by
        rintro ⟨h₆, tk₆, m₆, mu₆, S₆, tl₆, rfl, V₆, st₆, ho₆, hmu₆, F₆, N₆, J₆⟩
        refine ⟨vs.length + 1 - (i + 1), by omega, h₆, tk₆, m₆, mu₆, S₆, tl₆, i + 1, v, rfl, ?_, ⟨oit, ?_, hoit'⟩, V₆, fun b o x => st₆ b o (hS b o x), ho₆ _ (.head _), ho₆ _ (.tail _ (.head _)), fun p hp => ⟨(hmu₆ p hp).1, (hmu₆ p hp).2 _ (.head _), (hmu₆ p hp).2 _ (.tail _ (.head _))⟩, F₆, fun p hp => ?_, J₆, hlt, rfl⟩
        · rw [hi1]; exact hback _ (N₆ (e, oe) (List.mem_append_right _ (List.mem_append_left _ (.head _)))).1
        · exact (N₆ (it, oit) (List.mem_append_right _ (List.mem_append_left _ (.tail _ (.head _))))).1
        · rcases List.mem_append.mp hp with hp | hp
          · exact N₆ p (List.mem_append_left _ hp)
          · exact N₆ p (List.mem_append_right _ (List.mem_append_right _ hp))
      cases f with
      | ret v => exact hf
      | brk => exact hf
      | next => exact fin hf
      | cont => exact fin hf
end

section
variable {prog : Program} {w : World} {A : Around} {E : Value → Shared → Prop} {s : Shared} {h₀ G : Heap} {L : Addr} {S : Heap} {tl nw : List (Addr × Obj)} {m : Str → Option Value} {Q : Value → Shared → Prop}

theorem call_enum_K {l : Addr} {vs : List Value} {ee : Nat} (F : Fr h₀ L s.heap m) (N : News h₀ L s.heap nw) (hl : s.heap.get? l = some (lstO vs ee))
    (h : ∀ e it h', Fr h₀ L h' m → News h₀ L h' nw → IsEnum h' e it 0 .none → h'.IsListIter it l 0 → e ≠ it → (∀ b o, s.heap.get? b = some o → b ≠ e ∧ b ≠ it) → Q (.ref e) { s with heap := h' }) :
    wpAny (model prog w) A (call (.type "enumerate") [.ref l]) Q E s :=
  call_enumerate_list ⟨_, hl, rfl, _, rfl⟩ fun h' he hit hz hk => h _ _ h' (F.keeps hk) (N.grown hk) he hit (Nat.ne_of_gt (Nat.lt_succ_self _)) fun b o x => by
    have := Heap.lt_size x
    exact ⟨Nat.ne_of_lt (Nat.lt_succ_of_lt this), Nat.ne_of_lt this⟩

theorem useR {w : World} {f : Addr} {n dp un : Nat} {fr : Option (List Env)} {gd : Option (List Code)} {vals : List Value} {Pre : Heap → Prop} {Post : Heap → Value → Prop} {p : Program} {loose : List Str} {mg mb : Str → Option Value}
    (Sp : HSpec w f n vals Pre Post) (V : View h₀ G L S tl) (F : Fr h₀ L s.heap m) (N : News h₀ L s.heap nw) (sub : ∀ p ∈ tl, p ∈ nw) (X : (grab.heap_1 w.params).In h₀) (T : TopRead p loose mg mb h₀)
    (hd : dp + n < 1000) (hu : un + 8 * n + 100 < 9900) (hp : Pre S)
    (h : ∀ r h' tk, Fr h₀ L h' m → News h₀ L h' nw → (∃ G', Post G' r) → Q r { s with heap := h', toks := tk }) : wpAny (model Pg w) (Ar dp un fr gd) (call (.ref f) vals) Q E s :=
  Sp p loose mg mb dp un fr gd s Q E S hd hu (X.keeps F.keep) (T.keeps F.keep) (V.up F N sub) hp fun r h' tk G' st _ _ hr => h r h' tk (F.keeps st) (N.grown st) ⟨G', hr⟩

theorem useS {w : World} {f : Addr} {n dp un : Nat} {fr : Option (List Env)} {gd : Option (List Code)} {vals : List Value} {Pre : Heap → Prop} {Post : Heap → Value → Prop} {p : Program} {loose : List Str} {mg mb : Str → Option Value}
    (Sp : HSpec w f n vals Pre Post) (V : View h₀ G L S tl) (F : Fr h₀ L s.heap m) (N : News h₀ L s.heap nw) (sub : ∀ p ∈ tl, p ∈ nw) (X : (grab.heap_1 w.params).In h₀) (T : TopRead p loose mg mb h₀)
    (hd : dp + n < 1000) (hu : un + 8 * n + 100 < 9900) (hp : Pre S)
    (h : ∀ r h' tk S' tl', Fr h₀ L h' m → (∀ mu, (∀ p ∈ mu, p ∈ nw) → News h₀ L h' (mu ++ tl')) → View h₀ G L S' tl' → S.StaysIn S' → (∀ b o, S.get? b = none → s.heap.get? b = some o → S'.get? b = none) → Post S' r → Q r { s with heap := h', toks := tk }) :
    wpAny (model Pg w) (Ar dp un fr gd) (call (.ref f) vals) Q E s :=
  Sp p loose mg mb dp un fr gd s Q E S hd hu (X.keeps F.keep) (T.keeps F.keep) (V.up F N sub) hp fun r h' tk G' st gr hG' hr => by
    have none_of : ∀ b, s.heap.get? b = none → h₀.get? b = none := fun b q => by
      cases z : h₀.get? b with
      | none => rfl
      | some o => have := F.keep b o z; rw [q] at this; cases this
    have old : ∀ b o, S.get? b = none → s.heap.get? b = some o → G'.get? b = none := fun b o h1 h2 => by
      cases z : G'.get? b with
      | none => rfl
      | some o' =>
        rcases gr.2 b o' z with q | q
        · rw [h1] at q; cases q
        · rw [h2] at q; cases q
    obtain ⟨oL, es, ep, hL, _⟩ := id F.ns
    obtain ⟨tl', ht⟩ := snap_ex h₀ G'
    have V' : View h₀ G L G' tl' := ⟨fun b o e => gr.1 b o (V.stays b o e), fun b o e => (gr.2 b o e).elim (V.src b o) fun q => .inr (none_of b q), V.sub, old L oL V.notL hL, ht⟩
    refine h r h' tk G' tl' (F.keeps st) (fun mu hmu p hp => ?_) V' gr.1 old hr
    rcases List.mem_append.mp hp with hp | hp
    · have := N p (hmu p hp)
      exact ⟨st _ _ this.1, this.2⟩
    · obtain ⟨p1, p2⟩ := p
      obtain ⟨q1, q2⟩ := (ht p1 p2).mp hp
      refine ⟨hG' _ _ q2, fun q => ?_, q1⟩
      have := V'.notL
      rw [← show p1 = L from q, q2] at this; cases this
end

/-- a dict that holds places by texts -/
noncomputable def PlRel (f : Str → Option Nat) (kvs : List (Str × Value)) : Prop := ∀ b, (f b = none → valueAt kvs b = none) ∧ ∀ p, f b = some p → ∃ t, valueAt kvs b = some (.int (p : Int) t)
theorem valueAt_stored {K : Type} [DecidableEq K] (kvs : List (K × Value)) (k b : K) (v : Value) : valueAt (stored kvs k v) b = if b = k then some v else valueAt kvs b := by
  unfold stored
  split
  · rename_i ha
    unfold valueAt
    induction kvs with
    | nil => simp at ha
    | cons q r ih =>
      simp only [List.map_cons, List.find?_cons]
      by_cases hq : q.1 = k
      · simp only [hq, if_true]
        by_cases hb : b = k
        · subst hb; simp
        · have : ¬ k = b := fun e => hb e.symm
          simp only [this, decide_false, Bool.false_eq_true, if_false, hb, hq]
          by_cases hr : r.any (fun kv => kv.1 = k) = true
          · have := ih hr; simp only [hb, if_false] at this; rw [← this]
          · have hm : r.map (fun kv => if kv.1 = k then (kv.1, v) else kv) = r := by
              rw [List.map_congr_left (g := id)]
              · simp
              · intro x hx
                have : ¬ x.1 = k := fun e => hr (List.any_eq_true.mpr ⟨x, hx, by simpa using e⟩)
                simp [this]
            rw [hm]
      · have hr : r.any (fun kv => kv.1 = k) = true := by simpa [hq] using ha
        simp only [hq, if_false]
        by_cases hb : q.1 = b
        · have : ¬ b = k := fun e => hq (hb.trans e)
          simp [hb, this]
        · simp only [hb, decide_false, Bool.false_eq_true]
          exact ih hr
  · rename_i ha
    unfold valueAt
    rw [List.find?_append]
    by_cases hb : b = k
    · subst hb
      have : kvs.find? (fun kv => decide (kv.1 = b)) = none := by
        rw [List.find?_eq_none]; intro x hx e
        exact ha (List.any_eq_true.mpr ⟨x, hx, e⟩)
      simp [this]
    · have : ¬ k = b := fun e => hb e.symm
      simp only [List.find?_cons, this, decide_false, List.find?_nil, Option.or_none, hb, if_false]
theorem PlRel.put {f : Str → Option Nat} {kvs : List (Str × Value)} (h : PlRel f kvs) (k : Str) (i : Nat) (t : Nat) : PlRel (fun b => if b = k then some i else f b) (stored kvs k (.int (i : Int) t)) := fun b => by
  rw [valueAt_stored]
  by_cases hb : b = k
  · simp only [hb, if_true]
    exact ⟨fun e => (by cases e), fun p e => (by cases e; exact ⟨t, rfl⟩)⟩
  · simp only [hb, if_false]
    exact h b

noncomputable def stepP (tab : Tab) (ts : List Tr) (f : Str → Option Nat) (i : Nat) (t : Tr) : Str → Option Nat :=
  if base tab t ≠ Str.ofString "" ∧ (match f (base tab t) with | none => true | some q => match ts[q]? with | some u => better tab t u | none => false) = true then fun b => if b = base tab t then some i else f b else f
/-- the places that stand for the bases, of the first n threads -/
noncomputable def placesN (tab : Tab) (ts : List Tr) : Nat → Str → Option Nat
  | 0 => fun _ => none
  | n + 1 => match ts[n]? with
    | some t => stepP tab ts (placesN tab ts n) n t
    | none => placesN tab ts n
theorem placesN_lt (tab : Tab) (ts : List Tr) : ∀ n b p, placesN tab ts n b = some p → p < n
  | 0, _, _, h => by cases h
  | n + 1, b, p, h => by
    unfold placesN at h
    cases ht : ts[n]? with
    | none => rw [ht] at h; exact Nat.lt_succ_of_lt (placesN_lt tab ts n b p h)
    | some t =>
      rw [ht] at h
      change stepP tab ts (placesN tab ts n) n t b = some p at h
      unfold stepP at h
      by_cases hc : base tab t ≠ Str.ofString "" ∧ (match placesN tab ts n (base tab t) with | none => true | some q => match ts[q]? with | some u => better tab t u | none => false) = true
      · rw [if_pos hc] at h
        by_cases hb : b = base tab t
        · simp only [hb, if_true] at h
          cases h; exact Nat.lt_succ_self _
        · simp only [hb, if_false] at h
          exact Nat.lt_succ_of_lt (placesN_lt tab ts n b p h)
      · rw [if_neg hc] at h
        exact Nat.lt_succ_of_lt (placesN_lt tab ts n b p h)
theorem NodesT.length {S : Heap} {vs : List Value} {ts : List Tr} (h : NodesT S vs ts) : vs.length = ts.length :=
  NodesT.rec (motive_1 := fun _ _ _ => True) (motive_2 := fun vs ts _ => vs.length = ts.length) (fun _ _ _ _ _ => trivial) rfl (fun _ _ _ r => congrArg Nat.succ r) h
theorem NodesT.get {S : Heap} {vs : List Value} {ts : List Tr} (h : NodesT S vs ts) {i : Nat} {v : Value} : vs[i]? = some v → ∃ t, ts[i]? = some t ∧ NodeT S v t :=
  NodesT.rec (motive_1 := fun _ _ _ => True) (motive_2 := fun vs ts _ => ∀ (i : Nat) (v : Value), vs[i]? = some v → ∃ t, ts[i]? = some t ∧ NodeT S v t) (fun _ _ _ _ _ => trivial) (fun _ _ h => absurd h (by simp))
    (fun a _ _ r i w h => by
      cases i with
      | zero => exact ⟨_, rfl, Option.some.inj h ▸ a⟩
      | succ i => exact r i w h) h i v
theorem NodesT.get' {S : Heap} {vs : List Value} {ts : List Tr} (h : NodesT S vs ts) {i : Nat} {t : Tr} (e : ts[i]? = some t) : ∃ v, vs[i]? = some v ∧ NodeT S v t := by
  have hlt : i < vs.length := by rw [h.length]; exact (List.getElem?_eq_some_iff.mp e).1
  obtain ⟨u, h1, h2⟩ := h.get (List.getElem?_eq_getElem hlt)
  rw [e] at h1; cases h1
  exact ⟨_, List.getElem?_eq_getElem hlt, h2⟩
noncomputable def PlD (w : World) (S : Heap) (d : Addr) (f : Str → Option Nat) : Prop := ∃ kvs : List (Str × Value), S.DictOf (strKind Pg w) d kvs ∧ PlRel f kvs

section
variable {w : World} {A : Around} {E : Value → Shared → Prop} {s : Shared} {h₀ : Heap} {L d : Addr} {m : Str → Option Value} {news : List (Addr × Obj)} {g : Obj → List (Addr × Obj)} {o : Obj}
theorem v_dict_str {kvs : List (Str × Value)} {k : Str} {t : Nat} {v : Value} {value slice : PySem.Expr} {Q : Value → Shared → Prop} (hd : s.heap.DictOf (strKind Pg w) d kvs) (hl : valueAt kvs k = some v)
    (h : Q v { s with toks := s.toks + 1 })
    (hs : subscripted slice false (.ref d) (.str k t) = operate [.ref d, .str k t] (getItem (.ref d) (.str k t)) := by with_unfolding_all rfl) :
    wpAny (model Pg w) A (subscriptTail value slice (.ref d) (.str k t)) Q E s :=
  tail_any hd.typeIs slot_dict_getitem.lookup (wpAny_getItem_of (strKind_is Pg w k t) hd.mapOf hl h) hs
theorem v_notin_str {kvs : List (Str × Value)} {k : Str} {t : Nat} {Q : Value → Shared → Prop} (hd : s.heap.DictOf (strKind Pg w) d kvs) (lo : (d == sysModules) = false)
    (h : Q (.bool (!(valueAt kvs k).isSome)) { s with toks := s.toks + 1 }) : wpAny (model Pg w) A (compareOp .NotIn (.str k t) (.ref d)) Q E s :=
  wpAny_notIn_of (strKind_is Pg w k t) lo hd.mapOf h
theorem v_notin_str_t {kvs : List (Str × Value)} {k : Str} {t : Nat} {Q : Value → Shared → Prop} (hd : s.heap.DictOf (strKind Pg w) d kvs) (lo : (d == sysModules) = false) (hv : valueAt kvs k = none)
    (h : Q (.bool true) { s with toks := s.toks + 1 }) : wpAny (model Pg w) A (compareOp .NotIn (.str k t) (.ref d)) Q E s :=
  v_notin_str hd lo (by rw [hv]; exact h)
theorem v_notin_str_f {kvs : List (Str × Value)} {k : Str} {t : Nat} {v : Value} {Q : Value → Shared → Prop} (hd : s.heap.DictOf (strKind Pg w) d kvs) (lo : (d == sysModules) = false) (hv : valueAt kvs k = some v)
    (h : Q (.bool false) { s with toks := s.toks + 1 }) : wpAny (model Pg w) A (compareOp .NotIn (.str k t) (.ref d)) Q E s :=
  v_notin_str hd lo (by rw [hv]; exact h)
theorem v_set_str {kvs : List (Str × Value)} {k : Str} {t : Nat} {v : Value} {Q : Unit → Shared → Prop} (F : Fr h₀ L s.heap m) (N : News h₀ L s.heap news) (U : UpdF d o news g) (hd : o.IsDictOf (strKind Pg w) kvs) (hsz : kvs.length ≤ sizeLine)
    (h : ∀ h' o', Fr h₀ L h' m → News h₀ L h' (g o') → o'.IsDictOf (strKind Pg w) (stored kvs k v) → Q () { s with heap := h', toks := s.toks + 1 }) : wpAny (model Pg w) A (setItem (.ref d) (.str k t) v) Q E s :=
  kda_set F N U hd (strKind_is Pg w k t) hsz h
end

/-- a frame's names but for some stand as they stood -/
noncomputable def Same (st : List Str) (mB m : Str → Option Value) : Prop := ∀ z, st.contains z = false → m z = mB z
theorem Same.refl {st : List Str} {m : Str → Option Value} : Same st m m := fun _ _ => rfl
theorem Same.eq {st : List Str} {mB m : Str → Option Value} (h : Same st mB m) : m = fun z => if st.contains z then m z else mB z := funext fun z => by
  cases q : st.contains z with
  | true => simp
  | false => simp only [Bool.false_eq_true, if_false]; exact h z q
theorem Same.nf {st : List Str} {mB m : Str → Option Value} : Same st mB fun z => if st.contains z then m z else mB z := fun z hz => by simp only [hz, Bool.false_eq_true, if_false]
theorem Same.set {st : List Str} {mB m : Str → Option Value} {x : Str} {v : Option Value} (hx : st.contains x = true) (h : Same st mB m) : Same st mB fun y => if y = x then v else m y := fun z hz => by
  have : ¬ z = x := fun e => by rw [e, hx] at hz; cases hz
  simp only [this, if_false]
  exact h z hz
theorem fresh4 {h₀ G h : Heap} {L : Addr} {S : Heap} {tl mu : List (Addr × Obj)} {m : Str → Option Value} (V : View h₀ G L S tl) (F : Fr h₀ L h m) (N : News h₀ L h (mu ++ tl)) {e : Addr} (hold : ∀ b o, h.get? b = some o → b ≠ e) :
    e ≠ L ∧ h₀.get? e = none ∧ S.get? e = none ∧ ∀ p ∈ mu, e ≠ p.1 := by
  obtain ⟨oL, es, ep, hL, _⟩ := id F.ns
  refine ⟨fun q => hold L oL hL q.symm, ?_, ?_, fun p hp q => hold _ _ (N p (List.mem_append_left _ hp)).1 q.symm⟩
  · cases q : h₀.get? e with
    | none => rfl
    | some o => exact absurd rfl (hold _ _ (F.keep _ _ q))
  · cases q : S.get? e with
    | none => rfl
    | some o => exact absurd rfl (hold _ _ (V.up F N (fun p hp => List.mem_append_right _ hp) _ _ q))
theorem View.notNew {h₀ G h : Heap} {L fd : Addr} {S : Heap} {tl nw : List (Addr × Obj)} {o : Obj} (V : View h₀ G L S tl) (N : News h₀ L h nw) (hm : (fd, o) ∈ nw) (hlt : ∀ p ∈ tl, p.1 < fd) : S.get? fd = none := by
  cases q : S.get? fd with
  | none => rfl
  | some o' =>
    have h0 := (N _ hm).2.2
    rcases V.src _ _ q with r | r
    · have := V.sub _ _ r; rw [h0] at this; cases this
    · exact absurd (hlt _ ((V.snap _ _).mpr ⟨r, q⟩)) (Nat.lt_irrefl _)
section
variable {prog : Program} {w : World} {A : Around} {E : Value → Shared → Prop} {s : Shared} {Q : Value → Shared → Prop} {x y : Str} {t u : Nat}
theorem v_ne_str_t (hn : x ≠ y) (h : Q (.bool true) s) : wpAny (model prog w) A (compareOp .NotEq (.str x t) (.str y u)) Q E s := P.ne_str (by
  rw [show (x.cps.toList != y.cps.toList) = true by rw [bne, SeqAt.str_beq, beq_eq_false_iff_ne.mpr hn]; rfl]; exact h)
theorem v_ne_str_f (hn : x = y) (h : Q (.bool false) s) : wpAny (model prog w) A (compareOp .NotEq (.str x t) (.str y u)) Q E s := P.ne_str (by
  subst hn; rw [show (x.cps.toList != x.cps.toList) = false by simp]; exact h)
theorem v_eq_str_t (hn : x = y) (h : Q (.bool true) s) : wpAny (model prog w) A (compareOp .Eq (.str x t) (.str y u)) Q E s := P.eq_str (by
  subst hn; rw [show (x.cps.toList == x.cps.toList) = true by simp]; exact h)
theorem v_eq_str_f (hn : x ≠ y) (h : Q (.bool false) s) : wpAny (model prog w) A (compareOp .Eq (.str x t) (.str y u)) Q E s := P.eq_str (by
  rw [SeqAt.str_beq, beq_eq_false_iff_ne.mpr hn]; exact h)
end
end Mine
end

section
open PySem PySem.W PyProof.Rows PySem.Calls
namespace Mine
set_option maxRecDepth 100000
set_option maxHeartbeats 8000000

section
variable {w : World} {A : Around} {E : Value → Shared → Prop} {s : Shared} {K : Frag} {p : Program} {prog : Program} {loose : List Str} {mg mb : Str → Option Value} {h₀ : Heap} {L : Addr} {m : Str → Option Value} {news : List (Addr × Obj)}
  {R : Result → Shared → Prop} {name qual : Str} {params : Arguments} {body : List Stmt} {scope : Scope} {dV kV doc pm cdv ct oc : Value} {an od : Option Addr} {osl : Array (Option Value)} {f : Addr} {args : Args} {binds : List (Str × Value)}

theorem ground (F : Fr h₀ L s.heap m) (N : News h₀ L s.heap news) :
    h₀.StaysIn (hideAll s.heap (news.map (·.1))) ∧ ∀ v s', LeaveK h₀ L m (hideAll s.heap (news.map (·.1))) R v s' → R (.ok (.ret v)) s' := by
  have nm : ∀ b o, h₀.get? b = some o → b ∉ news.map (·.1) := fun b o e q => by
    obtain ⟨p, hp, rfl⟩ := List.mem_map.mp q
    rw [(N p hp).2.2] at e; cases e
  have st : h₀.StaysIn (hideAll s.heap (news.map (·.1))) := fun b o e => hideAll_get _ (F.keep b o e) (nm b o e)
  obtain ⟨oL, es, ep, hL, hLd, hLk, hLf⟩ := F.ns
  have nL : L ∉ news.map (·.1) := fun q => by
    obtain ⟨p, hp, e⟩ := List.mem_map.mp q
    exact (N p hp).2.1 e
  have hLg := hideAll_get (news.map (·.1)) hL nL
  refine ⟨st, fun v s' hl => ?_⟩
  obtain ⟨L', m', news', F', N', k⟩ := hl
  refine k ⟨⟨oL, es, ep, F'.keep L oL hLg, hLd, hLk, hLf⟩, fun b o e => F'.keep b o (st b o e), F.above⟩ fun p hp => ⟨(N' p hp).1, fun q => ?_, ?_⟩
  · have := (N' p hp).2.2; rw [q, hLg] at this; cases this
  · cases q : h₀.get? p.1 with
    | none => rfl
    | some o => have := (N' p hp).2.2; rw [st _ _ q] at this; cases this

/-- a def entered with the ledger in hand -/
theorem enterN (F : Fr h₀ L s.heap m) (X : K.In h₀) (T : TopRead p loose mg mb h₀) (N : News h₀ L s.heap news)
    (ho : K.lookup f = some ⟨oc, od, .func (fnOf name qual params body scope dV kV doc pm an cdv ct), osl⟩) (hcd : codeIn K cdv qual = true) (hroom : A.depth < recursionLimit)
    (hbind : BindsTo s (fnOf name qual params body scope dV kV doc pm an cdv ct) args binds) (hloc : ∀ y ∈ binds, scope.names.lookup y.1 = some .local)
    (h : ∀ g L' h₁, Fr g L' h₁ (fun y => binds.reverse.lookup y) → News g L' h₁ news → K.In g → TopRead p loose mg mb g → h₀.StaysIn g → (∀ b o, s.heap.get? b = some o → b ∉ news.map (·.1) → g.get? b = some o) →
      wpAny (model prog w) (A.deeper (envOf qual scope L' f cdv)) (execs body (envOf qual scope L' f cdv))
        (fun fl s' => LeaveK h₀ L m g R (match fl with | .ret v => v | _ => .none) s') (fun _ _ => False) { s with heap := h₁, toks := s.toks + binds.length })
    (hco : scope.isCoroutine = false) (hgen : scope.isGenerator = false) (hk : scope.kind = .function)
    (hcell : ∀ x ∈ scope.names, x.2 ≠ .cell) : codeAny (model prog w) A (.call (.ref f) args) R s := by
  obtain ⟨st, lv⟩ := ground (R := R) F N
  refine codeAny_call_def (fd := fnOf name qual params body scope dV kV doc pm an cdv ct) (body := body) (binds := binds) hroom ((X.keeps F.keep) _ _ ho) rfl (T.nolimit.keeps F.keep) (codeRec_of (X.keeps F.keep) hcd) rfl hbind hcell hloc (fun h₁ hns hk₁ => ?_) hco hgen hk
  have XK : K.In (hideAll s.heap (news.map (·.1))) := Frag.In.keeps X st
  have TK : TopRead p loose mg mb (hideAll s.heap (news.map (·.1))) := TopRead.keeps T st
  exact wpAny_mono (h (hideAll s.heap (news.map (·.1))) s.heap.objs.size h₁ ⟨hns, fun b o e => hk₁ b o (of_hideAll _ e), Nat.le_of_eq (hideAll_size _ _)⟩
    (fun p hp => ⟨hk₁ _ _ (N p hp).1, Nat.ne_of_lt (Heap.lt_size (N p hp).1), hideAll_none _ (List.mem_map_of_mem hp)⟩) XK TK st (fun b o e hb => hideAll_get _ e hb)) (fun fl s' hl => lv _ _ hl) fun _ _ x => x.elim
end

local macro_rules | `(tactic| ktr_unf) => `(tactic| ((try dsimp only); k_unmd; k_fold))

theorem fill_Make (w : World) (h : Heap) : (Mine.grab.heap_1 w.params).In h → PySem.Challenge.rw_or0020_01 = PySem.Challenge.rw_or0020_01 := by
  k_fill
  intro _; rfl

local macro_rules | `(tactic| k_all) => `(tactic| assumption)

/-- Node(number, kids) -/
theorem make_node {w : World} {dp un : Nat} {fr : Option (List Env)} {gd : Option (List Code)} {p : Program} {loose : List Str} {mg mb : Str → Option Value} {h₀ : Heap} {L : Addr} {m : Str → Option Value} {news : List (Addr × Obj)} {s : Shared} {Q E : Value → Shared → Prop}
    {n : Int} {tn : Nat} {l : Addr} (F : Fr h₀ L s.heap m) (N : News h₀ L s.heap news) (X : (grab.heap_1 w.params).In h₀) (T : TopRead p loose mg mb h₀) (hd : dp + 2 < 1000)
    (h : ∀ x dx h' tk h1 t1 h2 t2, Fr h₀ L h' m → News h₀ L h' ((x, instObj 36 dx) :: (dx, dictOf [⟨h1, .str (Str.ofString "number") t1, .int n tn⟩, ⟨h2, .str (Str.ofString "kids") t2, .ref l⟩] 2) :: news) →
      (∀ p ∈ news, p.1 < dx) → dx < x → Q (.ref x) { s with heap := h', toks := tk }) :
    wpAny (model Pg w) (Ar dp un fr gd) (call (.ref 36) [.int n tn, .ref l]) Q E s := by
  refine call_cls F X N (by k_is) (by k_is) (by k_is) fun x dx h' F' N' l1 l2 => ?_
  have hne : ∀ p ∈ news, p.1 ≠ dx := fun p hp => Nat.ne_of_lt (l1 p hp)
  have hnx : ∀ p ∈ news, p.1 ≠ x := fun p hp => Nat.ne_of_lt (Nat.lt_trans (l1 p hp) l2)
  refine' enterN (binds := [(Str.ofString "self", .ref x), (Str.ofString "number", .int n tn), (Str.ofString "kids", .ref l)]) F' X T N' ?ho ?hcd ?hroom ?hb ?hl ?h ?c1 ?c2 ?c3 ?c4
  case hroom => simp only [recursionLimit, depth_under_make]; omega
  case ho => k_is
  case hcd => k_is
  case hb => exact BindsTo.of_eq rfl
  case hl => exact locs rfl
  case c1 => exact rfl
  case c2 => exact rfl
  case c3 => exact rfl
  case c4 => decide
  intro g L' h₁ FG NG XG TG st keep
  have l2' : @LT.lt Nat _ dx x := l2
  ktr_unf
  k_steps
  exact h _ _ _ _ _ _ _ _ (by assumption) (by assumption) l1 l2
end Mine
end

section
open PySem PySem.W PyProof.Rows PySem.Calls
namespace Mine
set_option maxRecDepth 100000
set_option maxHeartbeats 8000000

/-- the environment of a comprehension's block -/
noncomputable def cEnv (scope : Scope) (cl : List (Str × Addr)) (C : Addr) (env : Env) : Env := compEnvC scope cl C env

section
variable {prog : Program} {w : World} {A : Around} {E : Value → Shared → Prop} {s : Shared} {env : Env} {H S : Heap}

structure CEndS (H S : Heap) (C : Addr) (own : List (Addr × Obj)) (S₁ : Heap) (s₁ : Shared) (J : Heap → Prop) (s₂ : Shared) (h' : Heap) (tk' : Nat) (m' : Str → Option Value) (S' : Heap) (tl' : List (Addr × Obj)) : Prop where
  eq : s₂ = { s₁ with heap := h', toks := tk' }
  V : View H S C S' tl'
  up : S₁.StaysIn S'
  off : ∀ q ∈ own, S'.get? q.1 = none
  F : Fr H C h' m'
  N : News H C h' (own ++ tl')
  j : J S'
noncomputable def CEnd (H S : Heap) (C : Addr) (own : List (Addr × Obj)) (S₁ : Heap) (s₁ : Shared) (J : Heap → Prop) (s₂ : Shared) : Prop :=
  ∃ h' tk' m' S' tl', CEndS H S C own S₁ s₁ J s₂ h' tk' m' S' tl'
theorem CEnd.same {H S : Heap} {C : Addr} {own : List (Addr × Obj)} {S₁ : Heap} {s₁ : Shared} {J : Heap → Prop} {h' : Heap} {tk' : Nat} {m' : Str → Option Value} {tl' : List (Addr × Obj)} (V : View H S C S₁ tl') (off : ∀ q ∈ own, S₁.get? q.1 = none) (F : Fr H C h' m') (N : News H C h' (own ++ tl')) (j : J S₁) :
    CEnd H S C own S₁ s₁ J { s₁ with heap := h', toks := tk' } := ⟨h', tk', m', S₁, tl', rfl, V, fun _ _ e => e, off, F, N, j⟩
theorem CEnd.mk {H S : Heap} {C : Addr} {own : List (Addr × Obj)} {S₁ : Heap} {s₁ : Shared} {J : Heap → Prop} {h' : Heap} {tk' : Nat} {m' : Str → Option Value} {S' : Heap} {tl' : List (Addr × Obj)} (V : View H S C S' tl') (up : S₁.StaysIn S') (off : ∀ q ∈ own, S'.get? q.1 = none) (F : Fr H C h' m') (N : News H C h' (own ++ tl')) (j : J S') :
    CEnd H S C own S₁ s₁ J { s₁ with heap := h', toks := tk' } := ⟨h', tk', m', S', tl', rfl, V, up, off, F, N, j⟩
noncomputable def Tested (prog : Program) (w : World) (A : Around) (cenv : Env) (ifs : List PySem.Expr) (Qt Qf : Shared → Prop) (s : Shared) : Prop :=
  wpAny (model prog w) A (forIn ifs true fun c r => if r = true then do let ok ← isTrue c cenv (eval c cenv); pure (ForInStep.yield ok) else pure (ForInStep.yield r)) (fun ok s₃ => if ok = true then Qt s₃ else Qf s₃) (fun _ _ => False) s
theorem tested_nil {cenv : Env} {Qt Qf : Shared → Prop} (h : Qt s) : Tested prog w A cenv [] Qt Qf s := wpAny_tests_nil (by simp only [if_true]; exact h)
theorem tested_one {cenv : Env} {c : PySem.Expr} {Qt Qf : Shared → Prop} (h : wpAny (model prog w) A (isTrue c cenv (eval c cenv)) (fun ok s₃ => if ok = true then Qt s₃ else Qf s₃) (fun _ _ => False) s) : Tested prog w A cenv [c] Qt Qf s := wpAny_tests_one h
noncomputable def CTurn (prog : Program) (w : World) (A : Around) (H S : Heap) (env : Env) (scope : Scope) (cl : List (Str × Addr)) (x : Str) (elt : PySem.Expr) (ifs : List PySem.Expr) (n : Nat) (P : Nat → Value → Prop) (J : Nat → List Value → Heap → Prop) (s : Shared) : Prop :=
  ∀ (i : Nat) (v : Value) (ys : List Value) (S₁ : Heap) (tl₁ : List (Addr × Obj)) (h : Heap) (tk : Nat) (C : Addr) (own : List (Addr × Obj)) (m₀ : Str → Option Value), i < n → P i v → J i ys S₁ → View H S C S₁ tl₁ → S.StaysIn S₁ → (∀ q ∈ own, S₁.get? q.1 = none) → Fr H C h (fun y => if y = x then some v else m₀ y) → News H C h (own ++ tl₁) →
    Tested prog w A (cEnv scope cl C env) ifs
      (fun s₃ => wpAny (model prog w) A (eval elt (cEnv scope cl C env)) (fun y => CEnd H S C own S₁ { s with heap := h, toks := tk } (J (i + 1) (ys ++ [y]))) (fun _ _ => False) s₃)
      (CEnd H S C own S₁ { s with heap := h, toks := tk } (J (i + 1) ys)) { s with heap := h, toks := tk }

structure CompS (St : Nat → Heap → Prop) (H S : Heap) (C I D : Addr) (J : Nat → List Value → Heap → Prop) (n : Nat) (s : Shared) (k : Nat) (s' : Shared) (h' : Heap) (tk i : Nat) (ys : List Value) (m' : Str → Option Value) (S' : Heap) (tl' : List (Addr × Obj)) (o' : Obj) : Prop where
  eq : s' = { s with heap := h', toks := tk }
  le : i ≤ n
  eqk : k = n + 1 - i
  st : St i h'
  V : View H S C S' tl'
  up : S.StaysIn S'
  offI : S'.get? I = none
  offD : S'.get? D = none
  F : Fr H C h' m'
  N : News H C h' ([(I, o'), (D, lstO ys ys.length)] ++ tl')
  j : J i ys S'
noncomputable def CompI (St : Nat → Heap → Prop) (H S : Heap) (C I D : Addr) (J : Nat → List Value → Heap → Prop) (n : Nat) (s : Shared) (k : Nat) (s' : Shared) : Prop :=
  ∃ h' tk i ys m' S' tl' o', CompS St H S C I D J n s k s' h' tk i ys m' S' tl' o'
theorem comp_block {elt iter : PySem.Expr} {x : Str} {px : Pos} {ifs : List PySem.Expr} {scope : Scope} {cl : List (Str × Addr)} {pos : Pos} {I : Addr} {fp : List Addr} {n : Nat} {P : Nat → Value → Prop} {St : Nat → Heap → Prop} {RR : Value → Addr → Result → Shared → Prop}
    (W : Walks prog w A I fp [I] n P St) (hsz : n ≤ sizeLine) (hIo : ∀ i h, St i h → ∃ o, h.get? I = some o) (hfp : ∀ b ∈ fp, b ≠ I → ∃ o, S.get? b = some o) (hcell : ∀ y ∈ scope.names, y.2 ≠ .cell) (hkind : scope.kind = .function) (hx : scope.names.lookup x = some .local)
    (hst : St 0 s.heap) (hH : H.StaysIn s.heap) (hHz : H.objs.size ≤ s.heap.objs.size) (hSH : S.StaysIn H) (hIH : H.get? I = none) (J : Nat → List Value → Heap → Prop) (hJ : J 0 [] S) (hlen : ∀ i ys S', J i ys S' → ys.length ≤ i)
    (turn : CTurn prog w A H S env scope cl x elt ifs n P J s)
    (hRR : ∀ D C h tk m' ys S' tl', Fr H C h m' → News H C h ((D, lstO ys ys.length) :: tl') → View H S C S' tl' → S'.get? D = none → D ≠ C → s.heap.get? D = none → s.heap.get? C = none → J n ys S' → RR (.ref D) C (.ok .next) { s with heap := h, toks := tk }) :
    wpAny (model prog w) A (newList []) (fun acc s₃ => wpAny (model prog w) A (newFunctionEnv scope env.globals cl [] env.qual none .none (some env)) (fun cenv s₄ =>
      codeAny (model prog w) A (.compStart (.ListComp elt [⟨.Name x px, iter, ifs, 0⟩] scope pos) 0 (.ref I) acc { cenv with scope := relabel scope env }) (RR acc cenv.locals) s₄) E s₃) E s := by
  refine wpAny_newObj_type (wpAny_newFunctionEnv hcell (by intro y hy; simp at hy) (fun h₁ hns₁ hsb₁ => ?_) hkind)
  dsimp only at hns₁ hsb₁ ⊢
  generalize hH2 : s.heap.push { cls := .type "list", dict := none, data := .seq ([] : List Value).toArray } = H2 at hns₁ hsb₁ ⊢
  have hC : H2.objs.size = s.heap.objs.size + 1 := by rw [← hH2, Heap.size_push]
  generalize hDd : s.heap.objs.size = D
  rw [hDd] at hC hHz
  generalize hCd : H2.objs.size = C at hns₁ hsb₁ hC ⊢
  have hDC : D ≠ C := Nat.ne_of_lt (by rw [hC]; exact Nat.lt_succ_self _)
  have hDC' : @LE.le Nat _ D C := Nat.le_of_lt (by rw [hC]; exact Nat.lt_succ_self _)
  have below : ∀ b o, s.heap.get? b = some o → b ≠ C ∧ b ≠ D := fun b o e => by have := Heap.lt_size e; rw [hDd] at this; exact ⟨Nat.ne_of_lt (by rw [hC]; exact Nat.lt_succ_of_lt this), Nat.ne_of_lt this⟩
  have old : ∀ b o, s.heap.get? b = some o → h₁.get? b = some o := fun b o e => hsb₁.extBut b o (below b o e).1 (Heap.get?_push_of_some _ (hH2 ▸ Heap.get?_push_of_some _ e))
  have hacc : h₁.get? D = some (lstO [] 0) := hsb₁.extBut _ _ hDC (Heap.get?_push_of_some _ (by rw [← hH2, ← hDd]; exact Heap.get?_push_size _ rfl))
  have hst₁ : St 0 h₁ := W.frame _ _ _ hst fun b _ o e => old b o e
  have freshH : ∀ a, D ≤ a → H.get? a = none := fun a ha => by
    cases e : H.get? a with
    | none => rfl
    | some o' => exact absurd (Heap.lt_size e) (Nat.not_lt.mpr (Nat.le_trans hHz ha))
  have freshs : ∀ a, D ≤ a → s.heap.get? a = none := fun a ha => by
    cases e : s.heap.get? a with
    | none => rfl
    | some o' => exact absurd (Heap.lt_size e) (Nat.not_lt.mpr (by rw [hDd]; exact ha))
  obtain ⟨oI₀, hoI₀⟩ := hIo _ _ hst
  have hIne := below I oI₀ hoI₀
  have V₀ : View H S C S [] := View.start hSH (Nat.le_trans hHz hDC')
  have loop : ∀ s₃ : Shared, s₃ = { s with heap := h₁, toks := s.toks + ([] : List (Str × Value)).length } →
      codeAny (model prog w) A (.compLoop (.ListComp elt [⟨.Name x px, iter, ifs, 0⟩] scope pos) 0 (.ref I) (.ref D) (cEnv scope cl C env)) (RR (.ref D) C) s₃ := by
    rintro s₃ rfl
    refine codeAny_compLoop_tests
      (CompI St H S C I D J n s) ?_ (n + 1)
      ⟨h₁, _, 0, [], _, S, [], oI₀, rfl, Nat.zero_le _, rfl, hst₁, V₀, fun _ _ e => e, ?_, ?_, ⟨hns₁, fun b o e => old b o (hH b o e), Nat.le_trans hHz hDC'⟩, fun p hp => ?_, hJ⟩
    · rintro k s' ⟨h', tk, i, ys, m', S', tl', o', rfl, hi, rfl, hst', V', hS', hSI, hSD, F', N', J'⟩
      have up := V'.up F' N' fun p hp => List.mem_append_right _ hp
      have next : ∀ h₂, (∀ b o, b ∉ [I] → h'.get? b = some o → h₂.get? b = some o) → Fr H C h₂ m' ∧ News H C h₂ ((D, lstO ys ys.length) :: tl') := fun h₂ hk => by
        refine ⟨⟨F'.ns.at' fun o e => hk _ o (by simpa using Ne.symm hIne.1) e, fun b o e => hk b o (fun q => by rw [List.mem_singleton.mp q, hIH] at e; cases e) (F'.keep b o e), F'.above⟩, fun p hp => ?_⟩
        have hp' : p ∈ [(I, o'), (D, lstO ys ys.length)] ++ tl' := by
          rcases List.mem_cons.mp hp with rfl | hp
          · exact .tail _ (.head _)
          · exact List.mem_append_right _ hp
        refine ⟨hk _ _ (fun q => ?_) (N' p hp').1, (N' p hp').2⟩
        rcases List.mem_cons.mp hp with rfl | hp
        · exact hIne.2 (List.mem_singleton.mp q).symm
        · have := ((V'.snap p.1 p.2).mp hp).2
          rw [List.mem_singleton.mp q, hSI] at this; cases this
      by_cases hlt : i < n
      · refine W.item i _ _ _ hlt hst' fun v h₂ tk₂ hPv hst₂ hk₂ => ?_
        obtain ⟨F₂, N₂⟩ := next h₂ hk₂
        obtain ⟨oI, heI⟩ := hIo _ _ hst₂
        refine wpAny_assign_Name (wpAny_storeName_local (lookup_relabel_local hx) F₂.ns (fun h₃ hn₃ hs₃ => ?_) (by simp [cEnv, compEnvC, relabel, hkind]))
        replace hs₃ : Heap.SameBut C h₂ h₃ := hs₃
        have F₃ := F₂.set hn₃ hs₃
        have N₃ : News H C h₃ ([(I, oI), (D, lstO ys ys.length)] ++ tl') := News.set (fun p hp => by
          rcases List.mem_cons.mp hp with rfl | hp
          · exact ⟨heI, hIne.1, hIH⟩
          · exact N₂ p hp) hs₃
        have fin : ∀ (h₄ : Heap) (tk₄ : Nat) (m₄ : Str → Option Value) (S₄ : Heap) (tl₄ : List (Addr × Obj)) (zs : List Value) (h₅ : Heap), View H S C S₄ tl₄ → S'.StaysIn S₄ → (∀ q ∈ [(I, oI), (D, lstO ys ys.length)], S₄.get? q.1 = none) → Fr H C h₅ m₄ → News H C h₅ ([(I, oI), (D, lstO zs zs.length)] ++ tl₄) → J (i + 1) zs S₄ →
            ∃ m, m < n + 1 - i ∧ CompI St H S C I D J n s m { s with heap := h₅, toks := tk₄ } := by
          intro h₄ tk₄ m₄ S₄ tl₄ zs h₅ V₄ st₄ ho₄ F₅ N₅ J₅
          refine ⟨n + 1 - (i + 1), by omega, h₅, tk₄, i + 1, zs, m₄, S₄, tl₄, oI, rfl, hlt, rfl, ?_, V₄, fun b o e => st₄ b o (hS' b o e), ho₄ _ (.head _), ho₄ _ (.tail _ (.head _)), F₅, N₅, J₅⟩
          refine W.frame _ _ _ hst₂ fun b hb o e => ?_
          by_cases hbI : b = I
          · subst hbI
            rw [heI] at e; cases e
            exact (N₅ (b, oI) (.head _)).1
          · obtain ⟨oS, hoS⟩ := hfp b hb hbI
            have q1 := V₄.up F₅ N₅ (fun p hp => List.mem_append_right _ hp) b oS (st₄ _ _ (hS' _ _ hoS))
            have q2 := hk₂ b oS (by simpa using hbI) (up b oS (hS' _ _ hoS))
            rw [q2] at e; cases e; exact q1
        have t := turn i v ys S' tl' h₃ (tk₂ + 1) C [(I, oI), (D, lstO ys ys.length)] m' hlt hPv J' V' hS' (fun q hq => by
          rcases List.mem_cons.mp hq with rfl | hq
          · exact hSI
          · rw [List.mem_singleton.mp hq]; exact hSD) F₃ N₃
        refine wpAny_mono t (fun ok s₃ h₃' => ?_) fun _ _ e => e.elim
        cases ok with
        | false =>
          simp only [Bool.false_eq_true, if_false] at h₃' ⊢
          obtain ⟨h₄, tk₄, m₄, S₄, tl₄, rfl, V₄, st₄, ho₄, F₄, N₄, J₄⟩ := h₃'
          exact fin h₄ tk₄ m₄ S₄ tl₄ ys h₄ V₄ st₄ ho₄ F₄ N₄ J₄
        | true =>
          simp only [if_true] at h₃' ⊢
          refine wpAny_mono h₃' (fun y s₄ h₄' => ?_) fun _ _ e => e.elim
          obtain ⟨h₄, tk₄, m₄, S₄, tl₄, rfl, V₄, st₄, ho₄, F₄, N₄, J₄⟩ := h₄'
          have zD := N₄ (D, lstO ys ys.length) (.tail _ (.head _))
          refine append_at (hsz := by show ys.toArray.size ≤ sizeLine; rw [List.size_toArray]; exact Nat.le_trans (Nat.le_trans (hlen _ _ _ J') hi) hsz) zD.1 fun h₅ hs₅ hD₅ => ?_
          replace hs₅ : Heap.SameBut D h₄ h₅ := hs₅
          refine fin h₄ tk₄ m₄ S₄ tl₄ (ys ++ [y]) h₅ V₄ st₄ ho₄ (F₄.change hs₅ zD.2.1 zD.2.2) (fun p hp => ?_) J₄
          rcases List.mem_cons.mp hp with rfl | hp
          · have z := N₄ (I, oI) (.head _)
            exact ⟨hs₅.extBut _ _ hIne.2 z.1, z.2⟩
          · rcases List.mem_cons.mp hp with rfl | hp
            · refine ⟨hD₅.trans ?_, zD.2⟩
              rw [List.length_append, List.length_singleton]
              simp [lstO]
            · have z := N₄ p (.tail _ (.tail _ hp))
              refine ⟨hs₅.extBut _ _ (fun q => ?_) z.1, z.2⟩
              have := ((V₄.snap p.1 p.2).mp hp).2
              rw [q, ho₄ _ (.tail _ (.head _))] at this; cases this
      · obtain rfl : i = n := by omega
        refine W.done _ _ _ hst' fun h₂ tk₂ hk₂ => ?_
        obtain ⟨F₂, N₂⟩ := next h₂ hk₂
        exact hRR D C h₂ tk₂ m' ys S' tl' F₂ N₂ V' hSD hDC (freshs D (Nat.le_refl _)) (freshs C hDC') J'
    · cases q : S.get? I with
      | none => rfl
      | some o => have := hSH _ _ q; rw [hIH] at this; cases this
    · cases q : S.get? D with
      | none => rfl
      | some o => have := hSH _ _ q; rw [freshH D (Nat.le_refl _)] at this; cases this
    · rcases List.mem_cons.mp hp with rfl | hp
      · exact ⟨old _ _ hoI₀, hIne.1, hIH⟩
      · rcases List.mem_cons.mp hp with rfl | hp
        · exact ⟨hacc, hDC, freshH D (Nat.le_refl _)⟩
        · nomatch hp
  have := codeAny_compStart_list (loop _ rfl) (W.self 0 _ _ _ hst₁ (loop _ rfl))
  exact this

noncomputable def CompAt (prog : Program) (w : World) (A : Around) (env : Env) (e : PySem.Expr) (scope : Scope) (cl : List (Str × Addr)) (use : Option (Value → Sem Unit)) (Q : Value → Shared → Prop) (E : Value → Shared → Prop) (xv : Value) (s₁ : Shared) : Prop :=
  wpAny (model prog w) A (pyIter xv) (fun it s₂ => wpAny (model prog w) A (newList []) (fun acc s₃ => wpAny (model prog w) A (newFunctionEnv scope env.globals cl [] env.qual none .none (some env)) (fun cenv s₄ =>
    codeAny (model prog w) A (.compStart e 0 it acc { cenv with scope := relabel scope env }) (compPost (model prog w) A E use Q acc cenv.locals) s₄) E s₃) E s₂) E s₁

theorem comp_at {elt target iter : PySem.Expr} {ifs : List PySem.Expr} {scope : Scope} {cl : List (Str × Addr)} {pos : Pos} {Q : Value → Shared → Prop} (hclos : closureFor scope env = pure cl) (hkind : scope.kind = .function)
    (hnames : ∀ y ∈ scope.names, y.2 = .local → scope.names.lookup y.1 = some .local)
    (h : wpAny (model prog w) A (eval iter env) (CompAt prog w A env (.ListComp elt [⟨target, iter, ifs, 0⟩] scope pos) scope cl none Q E) E s)
    (hs : ∀ x, foldedSetIterable iter env x = pure x := by intro _; rfl) :
    wpAny (model prog w) A (eval (.ListComp elt [⟨target, iter, ifs, 0⟩] scope pos) env) Q E s := by
  rw [eval_ListComp]
  exact wpAny_comprehension_free (use := none) rfl hs hclos hkind hnames h

theorem comp_assign_at {elt target iter : PySem.Expr} {ifs : List PySem.Expr} {scope : Scope} {cl : List (Str × Addr)} {y : Str} {py : Pos} {pos spos : Pos} {Q : Flow → Shared → Prop}
    (hsw : swapsWith (.ListComp elt [⟨target, iter, ifs, 0⟩] scope pos) (some (.Name y py)) spos.line env = pure true)
    (hclos : closureFor scope env = pure cl) (hkind : scope.kind = .function) (hnames : ∀ y ∈ scope.names, y.2 = .local → scope.names.lookup y.1 = some .local)
    (h : wpAny (model prog w) A (eval iter env) (CompAt prog w A env (.ListComp elt [⟨target, iter, ifs, 0⟩] scope pos) scope cl (some (assign (.Name y py) env)) (fun _ s' => Q .next s') E) E s)
    (hs : ∀ x, foldedSetIterable iter env x = pure x := by intro _; rfl) :
    wpAny (model prog w) A (exec (.Assign [.Name y py] (.ListComp elt [⟨target, iter, ifs, 0⟩] scope pos) spos) env) Q E s := by
  rw [exec_Assign_Name_used _ _ _ _ hsw]
  refine wpAny_bind (wpAny_standAt (wpAny_bind ?_))
  show wpAny _ A (do let _ ← comprehension (.ListComp elt [⟨target, iter, ifs, 0⟩] scope pos) scope env _ (newList []) false (eval iter env) (some (assign (.Name y py) env))) _ _ s
  exact wpAny_bind (wpAny_mono (wpAny_comprehension_free (use := some (assign (.Name y py) env)) (Q := fun _ s' => Q .next s') rfl hs hclos hkind hnames h) (fun _ s' hq => wpAny_pure (wpAny_pure hq)) fun _ _ e => e)

/-- behind a block: what the outer frame has -/
theorem comp_out {h₀ G : Heap} {L C D : Addr} {tl tl' mu : List (Addr × Obj)} {m m' : Str → Option Value} {S' h h' : Heap} {ys : List Value} {sh : Heap} (V : View h₀ G L S tl) (F : Fr h₀ L sh m) (N : News h₀ L sh (mu ++ tl)) (hmu : ∀ p ∈ mu, S.get? p.1 = none)
    (F' : Fr sh C h m') (N' : News sh C h ((D, lstO ys ys.length) :: tl')) (V' : View sh S C S' tl') (hD : S'.get? D = none) (hs : Heap.SameBut C h h') (hCs : sh.get? C = none) :
    ∃ tl₂, Fr h₀ L h' m ∧ News h₀ L h' ((D, lstO ys ys.length) :: (mu ++ tl₂)) ∧ View h₀ G L S' tl₂ ∧ S.StaysIn S' ∧ (∀ p ∈ mu, S'.get? p.1 = none) ∧ (∀ b o, sh.get? b = some o → b ≠ D) ∧ (∀ b o, sh.get? b = some o → h'.get? b = some o) := by
  have keep : ∀ b o, sh.get? b = some o → h'.get? b = some o := fun b o e => hs.extBut b o (fun q => by rw [q, hCs] at e; cases e) (F'.keep b o e)
  have none_of : ∀ b, sh.get? b = none → h₀.get? b = none := fun b q => by
    cases z : h₀.get? b with
    | none => rfl
    | some o => have := F.keep b o z; rw [q] at this; cases this
  have old : ∀ b o, S.get? b = none → sh.get? b = some o → S'.get? b = none := fun b o h1 h2 => by
    cases z : S'.get? b with
    | none => rfl
    | some o' =>
      rcases V'.src b o' z with q | q
      · rw [h1] at q; cases q
      · rw [h2] at q; cases q
  obtain ⟨oL, es, ep, hL, _⟩ := id F.ns
  obtain ⟨tl₂, ht⟩ := snap_ex h₀ S'
  have zD := N' (D, lstO ys ys.length) (.head _)
  have up := V'.up F' N' fun p hp => .tail _ hp
  have V₂ : View h₀ G L S' tl₂ := ⟨fun b o e => V'.stays b o (V.stays b o e), fun b o e => (V'.src b o e).elim (V.src b o) fun q => .inr (none_of b q), V.sub, old L oL V.notL hL, ht⟩
  refine ⟨tl₂, F.keeps keep, fun p hp => ?_, V₂, V'.stays, fun p hp => old _ _ (hmu p hp) (N p (List.mem_append_left _ hp)).1, fun b o e q => ?_, keep⟩
  · rcases List.mem_cons.mp hp with rfl | hp
    · exact ⟨hs.extBut _ _ zD.2.1 zD.1, fun q => by rw [show D = L from q, hL] at zD; exact absurd zD.2.2 (by simp), none_of _ zD.2.2⟩
    · rcases List.mem_append.mp hp with hp | hp
      · have := N p (List.mem_append_left _ hp)
        exact ⟨keep _ _ this.1, this.2⟩
      · obtain ⟨p1, p2⟩ := p
        obtain ⟨q1, q2⟩ := (ht p1 p2).mp hp
        refine ⟨hs.extBut _ _ (fun q => ?_) (up _ _ q2), fun q => ?_, q1⟩
        · have := V'.notL
          rw [← show p1 = C from q, q2] at this; cases this
        · have := V₂.notL
          rw [← show p1 = L from q, q2] at this; cases this
  · rw [q] at e; rw [zD.2.2] at e; cases e

theorem at_comp_list {elt iter : PySem.Expr} {x : Str} {px : Pos} {ifs : List PySem.Expr} {scope : Scope} {cl : List (Str × Addr)} {pos : Pos} {Q : Value → Shared → Prop} {h₀ G : Heap} {L : Addr} {tl mu : List (Addr × Obj)} {m : Str → Option Value} {l : Addr} {vs : List Value} {e : Nat} (hh : A.handled = none)
    (hcell : ∀ y ∈ scope.names, y.2 ≠ .cell) (hkind : scope.kind = .function) (hx : scope.names.lookup x = some .local)
    (V : View h₀ G L S tl) (F : Fr h₀ L s.heap m) (N : News h₀ L s.heap (mu ++ tl)) (hmu : ∀ p ∈ mu, S.get? p.1 = none) (hl : S.get? l = some (lstO vs e)) (hsz : vs.length ≤ sizeLine)
    (J : Nat → List Value → Heap → Prop) (hJ : J 0 [] S) (hlen : ∀ i ys S', J i ys S' → ys.length ≤ i)
    (turn : ∀ s', (∃ h, s' = { s with heap := h }) → CTurn prog w A s.heap S env scope cl x elt ifs vs.length (fun i v => vs[i]? = some v) J s')
    (hQ : ∀ D h tk ys S' tl', Fr h₀ L h m → News h₀ L h ((D, lstO ys ys.length) :: (mu ++ tl')) → View h₀ G L S' tl' → S.StaysIn S' → S'.get? D = none → (∀ p ∈ mu, S'.get? p.1 = none) → (∀ b o, s.heap.get? b = some o → b ≠ D) → J vs.length ys S' → Q (.ref D) { s with heap := h, toks := tk }) :
    CompAt prog w A env (.ListComp elt [⟨.Name x px, iter, ifs, 0⟩] scope pos) scope cl none Q E (.ref l) s := by
  have up := V.up F N fun p hp => List.mem_append_right _ hp
  have hls : s.heap.IsList l vs.toArray := ⟨_, up _ _ hl, rfl, _, rfl⟩
  have hlt : l < s.heap.objs.size := Heap.lt_size (up _ _ hl)
  have hne : l ≠ s.heap.objs.size := Nat.ne_of_lt hlt
  refine wpAny_pyIter_list hls ?_
  have grow : ∀ b o, s.heap.get? b = some o → (s.heap.push { cls := .type "list_iterator", data := .fields #[.ref l, .int 0 0] }).get? b = some o := fun b o e => Heap.get?_push_of_some _ e
  have hIH : s.heap.get? s.heap.objs.size = none := by
    cases q : s.heap.get? s.heap.objs.size with
    | none => rfl
    | some o => exact absurd (Heap.lt_size q) (Nat.lt_irrefl _)
  have W : Walks prog w A s.heap.objs.size [s.heap.objs.size, l] [s.heap.objs.size] vs.length (fun i v => vs[i]? = some v) (fun i h => h.IsListIter s.heap.objs.size l i ∧ h.IsList l vs.toArray) := by simpa using Walks.list hh s.heap.objs.size l hne vs.toArray
  refine comp_block (S := S) (H := s.heap) (RR := fun acc C => compPost (model prog w) A E none Q acc C) W hsz (fun i h st => by obtain ⟨o, e, _⟩ := st.1; exact ⟨o, e⟩) (fun b hb hbI => ?_) hcell hkind hx
    ⟨⟨_, Heap.get?_push_size _ rfl, rfl, rfl⟩, hls.at fun o e => grow _ _ e⟩ grow (by show s.heap.objs.size ≤ (s.heap.push _).objs.size; rw [Heap.size_push]; exact Nat.le_succ _) up hIH J hJ hlen (turn _ ⟨_, rfl⟩) ?_
  · rcases List.mem_cons.mp hb with rfl | hb
    · exact absurd rfl hbI
    · rw [List.mem_singleton.mp hb]; exact ⟨_, hl⟩
  · intro D C h tk m' ys S' tl' F' N' V' hD hDC hDn hCn hJ'
    have hCs : s.heap.get? C = none := by
      cases q : s.heap.get? C with
      | none => rfl
      | some o => have := grow _ _ q; rw [show ({ s with heap := s.heap.push { cls := .type "list_iterator", data := .fields #[.ref l, .int 0 0] } } : Shared).heap.get? C = none from hCn] at this; cases this
    refine ⟨m', F'.ns, fun h' hs' => ?_⟩
    obtain ⟨tl₂, F₂, N₂, V₂, st₂, mu₂, ne₂, _⟩ := comp_out V F N hmu F' N' V' hD hs' hCs
    exact hQ D h' tk ys S' tl₂ F₂ N₂ V₂ st₂ hD mu₂ ne₂ hJ'
end
end Mine
end

section
open PySem PySem.W PyProof.Rows PySem.Calls
namespace Mine
set_option maxRecDepth 100000
set_option maxHeartbeats 8000000

mutual
noncomputable def Tr.ht : Tr → Nat
  | .mk _ ks => Tr.hts ks + 1
noncomputable def Tr.hts : List Tr → Nat
  | [] => 0
  | t :: ts => max (Tr.ht t) (Tr.hts ts)
end
theorem Tr.ht_le : ∀ {ks : List Tr} {t : Tr}, t ∈ ks → t.ht ≤ Tr.hts ks
  | _ :: _, _, .head _ => by rw [Tr.hts]; exact Nat.le_max_left _ _
  | _ :: _, _, .tail _ h => by rw [Tr.hts]; exact Nat.le_trans (Tr.ht_le h) (Nat.le_max_right _ _)

mutual
noncomputable def Tr.size : Tr → Nat
  | .mk _ ks => Tr.sizes ks + 1
noncomputable def Tr.sizes : List Tr → Nat
  | [] => 0
  | t :: ts => Tr.size t + Tr.sizes ts
end
theorem Tr.size_pos : ∀ t : Tr, 1 ≤ t.size
  | .mk _ _ => by rw [Tr.size]; exact Nat.le_add_left _ _
theorem Tr.size_le : ∀ {ks : List Tr} {t : Tr}, t ∈ ks → t.size ≤ Tr.sizes ks
  | _ :: _, _, .head _ => by rw [Tr.sizes]; exact Nat.le_add_right _ _
  | _ :: _, _, .tail _ h => by rw [Tr.sizes]; exact Nat.le_trans (Tr.size_le h) (Nat.le_add_left _ _)
theorem Tr.len_le : ∀ (ks : List Tr), ks.length ≤ Tr.sizes ks
  | [] => Nat.le_refl _
  | t :: ts => by rw [Tr.sizes, List.length_cons]; have := Tr.size_pos t; have := Tr.len_le ts; omega
theorem Tr.sizes_append : ∀ (ks us : List Tr), Tr.sizes (ks ++ us) = Tr.sizes ks + Tr.sizes us
  | [], us => by simp [Tr.sizes]
  | t :: ts, us => by rw [List.cons_append, Tr.sizes, Tr.sizes, Tr.sizes_append ts us]; omega

mutual
/-- all nodes of a thread, the upper before the lower -/
noncomputable def Tr.flat : Tr → List Tr
  | .mk n ks => .mk n ks :: flats ks
noncomputable def flats : List Tr → List Tr
  | [] => []
  | t :: ts => Tr.flat t ++ flats ts
end
theorem flats_append : ∀ (ks us : List Tr), flats (ks ++ us) = flats ks ++ flats us
  | [], us => by simp [flats]
  | t :: ts, us => by rw [List.cons_append, flats, flats, flats_append ts us, List.append_assoc]
mutual
theorem Tr.flat_length : ∀ t : Tr, t.flat.length = t.size
  | .mk n ks => by rw [Tr.flat, Tr.size, List.length_cons, flats_length ks]
theorem flats_length : ∀ ts : List Tr, (flats ts).length = Tr.sizes ts
  | [] => rfl
  | t :: ts => by rw [flats, Tr.sizes, List.length_append, Tr.flat_length t, flats_length ts]
end

section
variable (S : Heap)
mutual
/-- a thread as a tuple: its number, the list of its kids -/
inductive TupT : Value → Tr → Prop
  | mk {a l : Addr} {n : Nat} {tn e e' : Nat} {vs : List Value} {ks : List Tr} : S.get? a = some (tupO [.int (n : Int) tn, .ref l] e) → S.get? l = some (lstO vs e') → TupsT vs ks → TupT (.ref a) (.mk n ks)
inductive TupsT : List Value → List Tr → Prop
  | nil : TupsT [] []
  | cons {v : Value} {vs : List Value} {t : Tr} {ts : List Tr} : TupT v t → TupsT vs ts → TupsT (v :: vs) (t :: ts)
end
mutual
/-- a thread told: its number, the tuple of its kids told -/
inductive ToldT : Value → Tr → Prop
  | mk {a l : Addr} {n : Nat} {tn e e' : Nat} {vs : List Value} {ks : List Tr} : S.get? a = some (tupO [.int (n : Int) tn, .ref l] e) → S.get? l = some (tupO vs e') → ToldsT vs ks → ToldT (.ref a) (.mk n ks)
inductive ToldsT : List Value → List Tr → Prop
  | nil : ToldsT [] []
  | cons {v : Value} {vs : List Value} {t : Tr} {ts : List Tr} : ToldT v t → ToldsT vs ts → ToldsT (v :: vs) (t :: ts)
end
end
theorem TupsT.mono {S S' : Heap} (k : S.StaysIn S') {vs : List Value} {ts : List Tr} (h : TupsT S vs ts) : TupsT S' vs ts :=
  TupsT.rec (motive_1 := fun v t _ => TupT S' v t) (motive_2 := fun vs ts _ => TupsT S' vs ts) (fun a b _ r => .mk (k _ _ a) (k _ _ b) r) .nil (fun _ _ a r => .cons a r) h
theorem TupT.mono {S S' : Heap} (k : S.StaysIn S') {v : Value} {t : Tr} : TupT S v t → TupT S' v t := fun h => by
  cases h with
  | mk a b r => exact .mk (k _ _ a) (k _ _ b) (TupsT.mono k r)
theorem ToldsT.mono {S S' : Heap} (k : S.StaysIn S') {vs : List Value} {ts : List Tr} (h : ToldsT S vs ts) : ToldsT S' vs ts :=
  ToldsT.rec (motive_1 := fun v t _ => ToldT S' v t) (motive_2 := fun vs ts _ => ToldsT S' vs ts) (fun a b _ r => .mk (k _ _ a) (k _ _ b) r) .nil (fun _ _ a r => .cons a r) h
theorem ToldT.mono {S S' : Heap} (k : S.StaysIn S') {v : Value} {t : Tr} : ToldT S v t → ToldT S' v t := fun h => by
  cases h with
  | mk a b r => exact .mk (k _ _ a) (k _ _ b) (ToldsT.mono k r)
theorem TupsT.length {S : Heap} {vs : List Value} {ts : List Tr} (h : TupsT S vs ts) : vs.length = ts.length :=
  TupsT.rec (motive_1 := fun _ _ _ => True) (motive_2 := fun vs ts _ => vs.length = ts.length) (fun _ _ _ _ => trivial) rfl (fun _ _ _ r => congrArg Nat.succ r) h
theorem ToldsT.length {S : Heap} {vs : List Value} {ts : List Tr} (h : ToldsT S vs ts) : vs.length = ts.length :=
  ToldsT.rec (motive_1 := fun _ _ _ => True) (motive_2 := fun vs ts _ => vs.length = ts.length) (fun _ _ _ _ => trivial) rfl (fun _ _ _ r => congrArg Nat.succ r) h
theorem TupsT.get {S : Heap} {vs : List Value} {ts : List Tr} (h : TupsT S vs ts) {i : Nat} {v : Value} : vs[i]? = some v → ∃ t, ts[i]? = some t ∧ TupT S v t :=
  TupsT.rec (motive_1 := fun _ _ _ => True) (motive_2 := fun vs ts _ => ∀ (i : Nat) (v : Value), vs[i]? = some v → ∃ t, ts[i]? = some t ∧ TupT S v t) (fun _ _ _ _ => trivial) (fun _ _ h => absurd h (by simp))
    (fun a _ _ r i w h => by
      cases i with
      | zero => exact ⟨_, rfl, Option.some.inj h ▸ a⟩
      | succ i => exact r i w h) h i v
theorem NodesT.snoc {S : Heap} {vs : List Value} {ts : List Tr} {v : Value} {t : Tr} (h : NodesT S vs ts) (g : NodeT S v t) : NodesT S (vs ++ [v]) (ts ++ [t]) :=
  NodesT.rec (motive_1 := fun _ _ _ => True) (motive_2 := fun vs ts _ => NodesT S (vs ++ [v]) (ts ++ [t])) (fun _ _ _ _ _ => trivial) (.cons g .nil) (fun a _ _ r => .cons a r) h
theorem NodesT.append {S : Heap} {vs ws : List Value} {ts us : List Tr} (h : NodesT S vs ts) (g : NodesT S ws us) : NodesT S (vs ++ ws) (ts ++ us) :=
  NodesT.rec (motive_1 := fun _ _ _ => True) (motive_2 := fun vs ts _ => NodesT S (vs ++ ws) (ts ++ us)) (fun _ _ _ _ _ => trivial) g (fun a _ _ r => .cons a r) h
theorem ToldsT.snoc {S : Heap} {vs : List Value} {ts : List Tr} {v : Value} {t : Tr} (h : ToldsT S vs ts) (g : ToldT S v t) : ToldsT S (vs ++ [v]) (ts ++ [t]) :=
  ToldsT.rec (motive_1 := fun _ _ _ => True) (motive_2 := fun vs ts _ => ToldsT S (vs ++ [v]) (ts ++ [t])) (fun _ _ _ _ => trivial) (.cons g .nil) (fun a _ _ r => .cons a r) h
theorem TupsT.append {S : Heap} {vs ws : List Value} {ts us : List Tr} (h : TupsT S vs ts) (g : TupsT S ws us) : TupsT S (vs ++ ws) (ts ++ us) :=
  TupsT.rec (motive_1 := fun _ _ _ => True) (motive_2 := fun vs ts _ => TupsT S (vs ++ ws) (ts ++ us)) (fun _ _ _ _ => trivial) g (fun a _ _ r => .cons a r) h
theorem TupsT.snoc {S : Heap} {vs : List Value} {ts : List Tr} {v : Value} {t : Tr} (h : TupsT S vs ts) (g : TupT S v t) : TupsT S (vs ++ [v]) (ts ++ [t]) := h.append (.cons g .nil)
theorem take_snoc {α : Type} {l : List α} {i : Nat} {a : α} (h : l[i]? = some a) : l.take (i + 1) = l.take i ++ [a] := by rw [List.take_add_one, h]; rfl

section
variable {M : Model} {A : Around} {E : Value → Shared → Prop} {s : Shared} {K : Frag} {h₀ : Heap} {L : Addr} {m mg mb : Str → Option Value} {p : Program} {loose : List Str} {env : Env}
  {x : Str} {pos : Pos} {v : Value} {Q : Value → Shared → Prop}
theorem gn_local (F : Fr h₀ L s.heap m) (hL : env.locals = L) (hk : env.scope.kind = .function) (hx : env.kindOf x = some .local) (hv : m x = some v) (h : Q v s) (hd : (x == ("__debug__" : Str)) = false := by decide) :
    wpAny M A (eval (.Name x pos) env) Q E s := wpAny_Name (wpAny_loadName_local hk hx (hL ▸ F.ns) hv h) hd
theorem gn_global (F : Fr h₀ L s.heap m) (X : K.In h₀) (T : TopRead p loose mg mb h₀) (hg : env.globals = mainGlobals) (hk : env.scope.kind = .function) (hx : env.kindOf x = some .globalImplicit) (e : nsIn K mainGlobals x = some (some v)) (h : Q v s) (hd : (x == ("__debug__" : Str)) = false := by decide) :
    wpAny M A (eval (.Name x pos) env) Q E s := nameG_K F X T e h hg hk hx hd
theorem gn_builtin (F : Fr h₀ L s.heap m) (X : K.In h₀) (T : TopRead p loose mg mb h₀) (hg : env.globals = mainGlobals) (hb : env.builtins = builtinsNs) (hk : env.scope.kind = .function) (hx : env.kindOf x = some .globalImplicit) (e : nsIn K mainGlobals x = some none)
    (hv : bootBuiltins x = some v) (hn : x ≠ "__name__") (h : Q v s) (hd : (x == ("__debug__" : Str)) = false := by decide) :
    wpAny M A (eval (.Name x pos) env) Q E s :=
  Name_function_global hk hx (loadGlobal_builtin (env := env) (by rw [hg]; exact T.g.keeps F.keep) (mg_none_of X T.g e) (by rw [hb]; exact T.b.keeps F.keep) ((T.builtins x hn).trans hv) h) hd
theorem gn_cell {c : Addr} {o : Obj} (F : Fr h₀ L s.heap m) (hk : env.scope.kind = .function) (hx : env.kindOf x = some .cell) (hc : env.cells.lookup x = some c) (ho : h₀.get? c = some o) (hd' : o.data = .cell (some v)) (h : Q v s) (hd : (x == ("__debug__" : Str)) = false := by decide) :
    wpAny M A (eval (.Name x pos) env) Q E s := wpAny_Name (wpAny_loadName_cell hk hx hc ⟨o, F.keep _ _ ho, hd'⟩ h) hd
end

section
variable {prog : Program} {w : World} {A : Around} {E : Value → Shared → Prop} {s : Shared} {h₀ : Heap} {L : Addr} {m : Str → Option Value} {nw : List (Addr × Obj)} {Q : Value → Shared → Prop}
theorem v_newTuple {vs : List Value} (F : Fr h₀ L s.heap m) (N : News h₀ L s.heap nw) (hsz : vs.length ≤ sizeLine)
    (h : ∀ D h', Fr h₀ L h' m → News h₀ L h' ((D, tupO vs 0) :: nw) → (∀ p ∈ nw, p.1 < D) → Q (.ref D) { s with heap := h' }) : wpAny (model prog w) A (newTuple vs) Q E s :=
  newTuple_N F N (fun h' F' N' => h _ h' F' N' fun p hp => Heap.lt_size (N p hp).1) hsz
theorem v_newList {vs : List Value} (F : Fr h₀ L s.heap m) (N : News h₀ L s.heap nw) (hsz : vs.length ≤ sizeLine)
    (h : ∀ D h', Fr h₀ L h' m → News h₀ L h' ((D, lstO vs 0) :: nw) → (∀ p ∈ nw, p.1 < D) → Q (.ref D) { s with heap := h' }) : wpAny (model prog w) A (newList vs) Q E s :=
  newList_N F N (fun h' F' N' => h _ h' F' N' fun p hp => Heap.lt_size (N p hp).1) hsz
theorem v_tuple_list {l : Addr} {vs : List Value} {e : Nat} (F : Fr h₀ L s.heap m) (N : News h₀ L s.heap nw) (hl : s.heap.get? l = some (lstO vs e)) (hsz : vs.length ≤ sizeLine)
    (h : ∀ D h', Fr h₀ L h' m → News h₀ L h' ((D, tupO vs 0) :: nw) → (∀ p ∈ nw, p.1 < D) → Q (.ref D) { s with heap := h' }) : wpAny (model prog w) A (call (.type "tuple") [.ref l]) Q E s :=
  call_tuple_list ⟨_, hl, rfl, _, rfl⟩ (fun h' hk => h _ _ ((F.keeps hk).push _) (News.push (F.keeps hk) (N.grown hk) _) fun p hp => Heap.lt_size (hk _ _ (N p hp).1)) (by simpa using hsz)
theorem v_add_list {a b : Addr} {vs ws : List Value} {e e' : Nat} (F : Fr h₀ L s.heap m) (N : News h₀ L s.heap nw) (ha : s.heap.get? a = some (lstO vs e)) (hb : s.heap.get? b = some (lstO ws e')) (hsz : vs.length + ws.length ≤ sizeLine)
    (h : ∀ D h', Fr h₀ L h' m → News h₀ L h' ((D, lstO (vs ++ ws) 0) :: nw) → (∀ p ∈ nw, p.1 < D) → Q (.ref D) { s with heap := h' }) : wpAny (model prog w) A (binaryOp .Add (.ref a) (.ref b)) Q E s :=
  add_arrays F N ⟨_, ha, rfl, _, rfl⟩ ⟨_, hb, rfl, _, rfl⟩ (fun h' F' N' => h _ h' F' (by simpa using N') fun p hp => Heap.lt_size (N p hp).1) (by simpa using hsz)
end
end Mine
end

section
open PySem PySem.W PyProof.Rows PySem.Calls
namespace Mine
set_option maxRecDepth 100000
set_option maxHeartbeats 8000000

section
variable {prog : Program} {w : World} {A : Around} {E : Value → Shared → Prop} {s : Shared} {h₀ : Heap} {L D : Addr} {m : Str → Option Value} {nw nw' : List (Addr × Obj)} {Q : Value → Shared → Prop} {vs ws : List Value} {n e : Nat} {y : Value}

theorem isL {h : Heap} {l : Addr} (hl : h.get? l = some (lstO vs e)) : h.IsList l vs.toArray := ⟨_, hl, rfl, _, rfl⟩
theorem upd_news {o o' : Obj} {h h' : Heap} (U : Upd D o o' nw nw') (N : News h₀ L h nw) (hs : Heap.SameBut D h h') (ho' : h'.get? D = some o') : News h₀ L h' nw' := by
  obtain ⟨pre, post, rfl, rfl, a, b⟩ := U.split
  exact N.setAt a b hs ho'
theorem upd_mem {o o' : Obj} (U : Upd D o o' nw nw') : (D, o) ∈ nw := by
  obtain ⟨pre, post, rfl, rfl, a, b⟩ := U.split
  exact List.mem_append_right _ (.head _)

theorem v_append (F : Fr h₀ L s.heap m) (N : News h₀ L s.heap nw) (U : Upd D (lstO vs n) (lstO (vs ++ [y]) (n + 1)) nw nw') (hsz : vs.length ≤ sizeLine)
    (h : ∀ h', Fr h₀ L h' m → News h₀ L h' nw' → Q .none { s with heap := h' }) : wpAny (model prog w) A (call (.builtin "list.append") [.ref D, y]) Q E s := by
  have z := N _ (upd_mem U)
  refine append_at (hsz := by simpa using hsz) z.1 fun h' hs ho => ?_
  exact h h' (F.change hs z.2.1 z.2.2) (upd_news U N hs (ho.trans (by simp [lstO])))
theorem v_pop {us : List Value} (F : Fr h₀ L s.heap m) (N : News h₀ L s.heap nw) (hus : us = vs ++ [y]) (U : Upd D (lstO us n) (lstO vs (n + 1)) nw nw') (hsz : us.length ≤ sizeLine)
    (h : ∀ h', Fr h₀ L h' m → News h₀ L h' nw' → Q y { s with heap := h' }) : wpAny (model prog w) A (call (.builtin "list.pop") [.ref D]) Q E s :=
  kl_pop (p := vs) (y := y) F N (by rw [hus]; simpa using kpa_last y vs) U (by simpa using hsz) h
theorem v_extend {g : Obj → List (Addr × Obj)} {b : Addr} (F : Fr h₀ L s.heap m) (N : News h₀ L s.heap nw) (U : UpdF D (lstO vs n) nw g) (hb : s.heap.get? b = some (lstO ws e)) (hsz : vs.length + ws.length ≤ sizeLine)
    (h : ∀ h' n', Fr h₀ L h' m → News h₀ L h' (g (lstO (vs ++ ws) n')) → Q .none { s with heap := h' }) : wpAny (model prog w) A (call (.builtin "list.extend") [.ref D, .ref b]) Q E s := by
  obtain ⟨pre, post, rfl, hg, a, c⟩ := U.split
  exact extend_in (hsz := by simpa using hsz) F N a c hb fun h' n' F' N' => h h' n' F' (by rw [hg]; simpa [lstO] using N')
theorem v_setAt {k : Int} {t : Nat} {Q : Unit → Shared → Prop} (F : Fr h₀ L s.heap m) (N : News h₀ L s.heap nw) (U : Upd D (lstO vs n) (lstO (vs.set k.toNat y) n) nw nw') (h0 : 0 ≤ k) (h1 : k < vs.length) (hfit : k < 2 ^ 63)
    (h : ∀ h', Fr h₀ L h' m → News h₀ L h' nw' → Q () { s with heap := h' }) : wpAny (model prog w) A (setItem (.ref D) (.int k t) y) Q E s := by
  obtain ⟨pre, post, rfl, rfl, a, b⟩ := U.split
  have z := N (D, lstO vs n) (List.mem_append.mpr (.inr (.head _)))
  refine ki_setAt z.1 h0 hfit (by simpa using h1) (h _ (F.change (Heap.SameBut.update ..) z.2.1 z.2.2) (ki_turn _ N a b ?_ ?_))
  · show vs.toArray.setIfInBounds k.toNat y = (vs.set k.toNat y).toArray
    apply Array.toList_inj.mp
    simp
  · simp
theorem v_copy {l : Addr} (F : Fr h₀ L s.heap m) (N : News h₀ L s.heap nw) (hl : s.heap.get? l = some (lstO vs e)) (hsz : vs.length ≤ sizeLine)
    (h : ∀ D c h', Fr h₀ L h' m → News h₀ L h' ((D, lstO vs c) :: nw) → (∀ p ∈ nw, p.1 < D) → Q (.ref D) { s with heap := h' }) : wpAny (model prog w) A (call (.type "list") [.ref l]) Q E s :=
  list_copyK F N (isL hl) (fun D c h' F' N' l1 => h D c h' F' N' l1) (by simpa using hsz)
theorem v_rev {l : Addr} {value slice : PySem.Expr} {vk : Value} (F : Fr h₀ L s.heap m) (N : News h₀ L s.heap nw) (hl : s.heap.get? l = some (lstO vs e)) (pk : IsPart vk (some (-1))) (hsz : vs.length ≤ sizeLine)
    (h : ∀ D h', Fr h₀ L h' m → News h₀ L h' ((D, lstO vs.reverse 0) :: nw) → (∀ p ∈ nw, p.1 < D) → Q (.ref D) { s with heap := h' })
    (hs : subscripted slice false (.ref l) (.ref s.heap.objs.size) = operate [.ref l, .ref s.heap.objs.size] (getItem (.ref l) (.ref s.heap.objs.size)) := by with_unfolding_all rfl) :
    wpAny (model prog w) A (subscriptTail value slice (.ref l) (.ref s.heap.objs.size)) Q E { s with heap := s.heap.push { cls := .type "slice", data := .fields #[.none, .none, vk] } } := by
  refine tail_any (Heap.IsList.typeIs (s := { s with heap := s.heap.push { cls := .type "slice", data := .fields #[.none, .none, vk] } }) ((isL hl).push _)) slot_list_getitem.lookup
    (wpAny_getItem_list_slice ((isL hl).push _) (Heap.IsSliceOf.new ..) .none .none pk (by decide) ?_ (by simpa using hsz)) hs
  have N1 := News.push (F.push { cls := .type "slice", data := .fields #[.none, .none, vk] }) (N.grown fun _ _ e => Heap.get?_push_of_some _ e) { cls := .type "list", data := .seq (slicePick vs.toArray none none (some (-1))) }
  rw [krv_pick] at N1 ⊢
  exact h _ _ ((F.push _).push _) (by simpa [lstO] using N1) fun p hp => Nat.lt_of_lt_of_le (Heap.lt_size (N p hp).1) (by show s.heap.objs.size ≤ (s.heap.push _).objs.size; rw [Heap.size_push]; exact Nat.le_succ _)
theorem v_len {l : Addr} (hl : s.heap.get? l = some (lstO vs e)) (hsz : vs.length ≤ 16777216)
    (h : Q (.int (vs.length : Int) (s.toks + 1)) { s with toks := s.toks + 1 + 1 }) : wpAny (model prog w) A (call (.builtin "len") [.ref l]) Q E s :=
  Calls.call_len_list (isL hl) (by rw [List.size_toArray]; omega) (by rw [List.size_toArray]; exact h)
theorem v_ne_nil_t {a b : Addr} {e' : Nat} (ha : s.heap.get? a = some (lstO vs e)) (hb : s.heap.get? b = some (lstO [] e')) (hp : 0 < vs.length) (hu : A.units < cLine) (h : Q (.bool true) s) : wpAny (model prog w) A (compareOp .NotEq (.ref a) (.ref b)) Q E s :=
  PySem.SeqAt.RcNeAt.lists_lengths (isL ha) (isL hb) (by simp; intro q; rw [q] at hp; exact absurd hp (Nat.lt_irrefl 0)) hu prog w E Q h
theorem v_ne_nil_f {a b : Addr} {e' : Nat} (ha : s.heap.get? a = some (lstO [] e)) (hb : s.heap.get? b = some (lstO [] e')) (hu : A.units < cLine) (h : Q (.bool false) s) : wpAny (model prog w) A (compareOp .NotEq (.ref a) (.ref b)) Q E s :=
  PySem.SeqAt.RcNeAt.lists (e := fun _ => true) (isL ha) (isL hb) rfl hu (fun j h1 => absurd h1 (by simp)) prog w E Q (by simpa using h)
end

structure WEndS (h₀ G : Heap) (L : Addr) (S₁ : Heap) (J : Nat → (Str → Option Value) → List (Addr × Obj) → Heap → Prop) (k : Nat) (s s₃ : Shared) (k' : Nat) (h' : Heap) (tk' : Nat) (m' : Str → Option Value) (mu' : List (Addr × Obj)) (S' : Heap) (tl' : List (Addr × Obj)) : Prop where
  lt : k' < k
  eq : s₃ = { s with heap := h', toks := tk' }
  V : View h₀ G L S' tl'
  up : S₁.StaysIn S'
  mu : ∀ p ∈ mu', S'.get? p.1 = none
  F : Fr h₀ L h' m'
  N : News h₀ L h' (mu' ++ tl')
  j : J k' m' mu' S'
/-- the end of a while's turn: the invariant stands, and the measure fell -/
noncomputable def WEnd (h₀ G : Heap) (L : Addr) (S₁ : Heap) (J : Nat → (Str → Option Value) → List (Addr × Obj) → Heap → Prop) (k : Nat) (s s₃ : Shared) : Prop :=
  ∃ k' h' tk' m' mu' S' tl', WEndS h₀ G L S₁ J k s s₃ k' h' tk' m' mu' S' tl'
/-- a while, by an invariant and a measure -/
noncomputable def WTurn (prog : Program) (w : World) (A : Around) (h₀ G : Heap) (L : Addr) (env : Env) (S : Heap) (test : PySem.Expr) (body : List Stmt) (J : Nat → (Str → Option Value) → List (Addr × Obj) → Heap → Prop) (s : Shared) (Q : Flow → Shared → Prop) : Prop :=
  ∀ k m₁ mu₁ S₁ tl₁ h tk, J k m₁ mu₁ S₁ → View h₀ G L S₁ tl₁ → S.StaysIn S₁ → (∀ p ∈ mu₁, S₁.get? p.1 = none) → Fr h₀ L h m₁ → News h₀ L h (mu₁ ++ tl₁) →
    wpAny (model prog w) A (isTrue test env (eval test env)) (fun b s₂ => if b = true then wpAny (model prog w) A (execs body env) (fun f s₃ => match f with
        | .ret v => Q (.ret v) s₃
        | .brk => Q .next s₃
        | _ => WEnd h₀ G L S₁ J k s s₃) (fun _ _ => False) s₂
      else Q .next s₂) (fun _ _ => False) { s with heap := h, toks := tk }
noncomputable def WhileAt (prog : Program) (w : World) (A : Around) (env : Env) (test : PySem.Expr) (body : List Stmt) (pos : Pos) (Q : Flow → Shared → Prop) (E : Value → Shared → Prop) (s : Shared) : Prop := wpAny (model prog w) A (exec (.While test body [] pos) env) Q E s
theorem while_at {prog : Program} {w : World} {A : Around} {env : Env} {test : PySem.Expr} {body : List Stmt} {pos : Pos} {Q : Flow → Shared → Prop} {E : Value → Shared → Prop} {s : Shared} (h : WhileAt prog w A env test body pos Q E s) : wpAny (model prog w) A (exec (.While test body [] pos) env) Q E s := h
theorem at_while {prog : Program} {w : World} {A : Around} {E : Value → Shared → Prop} {s : Shared} {env : Env} {h₀ G S : Heap} {L : Addr} {tl mu : List (Addr × Obj)} {m : Str → Option Value} {test : PySem.Expr} {body : List Stmt} {pos : Pos} {Q : Flow → Shared → Prop}
    (V : View h₀ G L S tl) (F : Fr h₀ L s.heap m) (N : News h₀ L s.heap (mu ++ tl)) (hmu : ∀ p ∈ mu, S.get? p.1 = none) (J : Nat → (Str → Option Value) → List (Addr × Obj) → Heap → Prop) (k : Nat) (h0 : J k m mu S)
    (turn : WTurn prog w A h₀ G L env S test body J s Q) : WhileAt prog w A env test body pos Q E s := by
  unfold WhileAt
  refine wpAny_While (codeAny_whileLoop (fun k s' => ∃ h' tk m' mu' S' tl', s' = { s with heap := h', toks := tk } ∧ View h₀ G L S' tl' ∧ S.StaysIn S' ∧ (∀ p ∈ mu', S'.get? p.1 = none) ∧ Fr h₀ L h' m' ∧ News h₀ L h' (mu' ++ tl') ∧ J k m' mu' S') ?_ k
    ⟨s.heap, s.toks, m, mu, S, tl, rfl, V, fun _ _ e => e, hmu, F, N, h0⟩)
  rintro k s' ⟨h', tk, m', mu', S', tl', rfl, V', st', hmu', F', N', J'⟩
  refine wpAny_mono (turn k m' mu' S' tl' h' tk J' V' st' hmu' F' N') (fun b s₂ h₂ => ?_) fun _ _ e => e.elim
  cases b with
  | false => simp only [Bool.false_eq_true, if_false] at h₂ ⊢; exact wpAny_execs_nil h₂
  | true =>
    simp only [if_true] at h₂ ⊢
    refine wpAny_mono h₂ (fun f s₃ h₃ => ?_) fun _ _ e => e.elim
    have fin : WEnd h₀ G L S' J k s s₃ →
        ∃ m, m < k ∧ ∃ h' tk m' mu' S' tl', s₃ = { s with heap := h', toks := tk } ∧ View h₀ G L S' tl' ∧ S.StaysIn S' ∧ (∀ p ∈ mu', S'.get? p.1 = none) ∧ Fr h₀ L h' m' ∧ News h₀ L h' (mu' ++ tl') ∧ J m m' mu' S' := by
      rintro ⟨k', h'', tk', m'', mu'', S'', tl'', hk, rfl, V'', st'', hmu'', F'', N'', J''⟩
      exact ⟨k', hk, h'', tk', m'', mu'', S'', tl'', rfl, V'', fun b o e => st'' b o (st' b o e), hmu'', F'', N'', J''⟩
    cases f with
    | ret v => exact h₃
    | brk => exact h₃
    | next => exact fin h₃
    | cont => exact fin h₃
section
variable {h₀ G : Heap} {L : Addr} {own mu' : List (Addr × Obj)} {S₁ S' h' : Heap} {tl' : List (Addr × Obj)} {tk' : Nat} {m' : Str → Option Value} {J : (Str → Option Value) → List (Addr × Obj) → Heap → Prop} {s₁ : Shared} {R : Result → Shared → Prop}
theorem TurnEnd.nil (V' : View h₀ G L S' tl') (st : S₁.StaysIn S') (ho : ∀ q ∈ own, S'.get? q.1 = none) (F' : Fr h₀ L h' m') (N' : News h₀ L h' (own ++ tl')) (j : J m' [] S') :
    TurnEnd h₀ G L own S₁ J s₁ R .next { s₁ with heap := h', toks := tk' } := ⟨h', tk', m', [], S', tl', rfl, V', st, ho, fun _ h => absurd h List.not_mem_nil, F', N', j⟩
theorem TurnEnd.mk (V' : View h₀ G L S' tl') (st : S₁.StaysIn S') (ho : ∀ q ∈ own, S'.get? q.1 = none) (hmu : ∀ p ∈ mu', S'.get? p.1 = none ∧ ∀ q ∈ own, q.1 ≠ p.1) (F' : Fr h₀ L h' m') (N' : News h₀ L h' (mu' ++ (own ++ tl'))) (j : J m' mu' S') :
    TurnEnd h₀ G L own S₁ J s₁ R .next { s₁ with heap := h', toks := tk' } := ⟨h', tk', m', mu', S', tl', rfl, V', st, ho, hmu, F', N', j⟩
theorem TurnEnd.cont (h : TurnEnd h₀ G L own S₁ J s₁ R .next s') : TurnEnd h₀ G L own S₁ J s₁ R .cont s' := h
theorem WEnd.mk {J : Nat → (Str → Option Value) → List (Addr × Obj) → Heap → Prop} {k k' : Nat} (hk : k' < k) (V' : View h₀ G L S' tl') (st : S₁.StaysIn S') (hmu : ∀ p ∈ mu', S'.get? p.1 = none) (F' : Fr h₀ L h' m') (N' : News h₀ L h' (mu' ++ tl')) (j : J k' m' mu' S') :
    WEnd h₀ G L S₁ J k s₁ { s₁ with heap := h', toks := tk' } := ⟨k', h', tk', m', mu', S', tl', hk, rfl, V', st, hmu, F', N', j⟩
end
theorem ad1 (a : Nat) : a + 1 ≠ a := Nat.succ_ne_self a
theorem ad2 (a : Nat) : a + 1 + 1 ≠ a := by omega
theorem ad3 (a : Nat) : a + 1 + 1 + 1 ≠ a := by omega
theorem dpa {d a b n B : Nat} (h : d + n < B) (hk : a + b ≤ n) : d + a + b < B := by omega
theorem dpb {u a k n B : Nat} (h : u + 8 * n + 100 < B) (hk : a + 8 * k ≤ 8 * n) : u + a + 8 * k + 100 < B := by omega
theorem dpc {u a k m B : Nat} (h : u + m < B) (hk : a + 8 * k + 100 ≤ m) : u + a + 8 * k + 100 < B := by omega
theorem dpe {d n B : Nat} (h : d + n < B) : d < B := by omega
end Mine
end

section
open PySem PySem.W PyProof.Rows PySem.Calls
namespace Mine
set_option maxRecDepth 100000
set_option maxHeartbeats 8000000

section
variable {prog : Program} {w : World} {A : Around} {E : Value → Shared → Prop} {s : Shared} {env : Env} {h₀ G : Heap} {S : Heap} {tl mu : List (Addr × Obj)} {m : Str → Option Value}

theorem at_range {L : Addr} {x : Str} {px : Pos} {body : List Stmt} {Q : Flow → Shared → Prop} {r : Addr} {a b c : Int} {t u v : Tok} {n : Nat} (hLe : env.locals = L) (hh : A.handled = none)
    (hx : env.kindOf x = some .local) (hp : (env.scope.kind == .class || (env.scope.kind == .module && env.locals != env.globals)) = false)
    (hr : IsRange s.heap r a b c t u v) (hsmall : Builtin.Range.small a b c = true) (hn : Builtin.Range.rangeSize a b c = (n : Int))
    (V : View h₀ G L S tl) (F : Fr h₀ L s.heap m) (N : News h₀ L s.heap (mu ++ tl))
    (hmu : ∀ p ∈ mu, S.get? p.1 = none) (J : Nat → (Str → Option Value) → List (Addr × Obj) → Heap → Prop) (h0 : J 0 m mu S)
    (turn : ∀ s', (∃ h, s' = { s with heap := h }) → Turn prog w A h₀ G L env S (fun _ v m₁ m₂ => m₂ = fun y => if y = x then some v else m₁ y) body n (fun i v => ∃ t, v = .int (a + (i : Int) * c) t) J s' (ForR prog w A env Q E))
    (done : ∀ m₁ mu₁ S₁ tl₁ h tk, J n m₁ mu₁ S₁ → View h₀ G L S₁ tl₁ → S.StaysIn S₁ → (∀ p ∈ mu₁, S₁.get? p.1 = none) → Fr h₀ L h m₁ → News h₀ L h (mu₁ ++ tl₁) → Q .next { s with heap := h, toks := tk }) :
    ForAt prog w A env (.Name x px) body (ForR prog w A env Q E) E (.ref r) s := by
  subst hLe
  have up := V.up F N fun p hp => List.mem_append_right _ hp
  refine wpAny_pyIter_range hr hsmall ?_
  have grow : ∀ o b, ∀ o', s.heap.get? b = some o' → (s.heap.push o).get? b = some o' := fun o b o' e => Heap.get?_push_of_some _ e
  have hSI : S.get? s.heap.objs.size = none := by
    cases q : S.get? s.heap.objs.size with
    | none => rfl
    | some o => exact absurd (Heap.lt_size (up _ _ q)) (Nat.lt_irrefl _)
  generalize hI : ({ cls := .type "range_iterator", data := .fields #[rawInt a, rawInt (Builtin.Range.rangeSize a b c), rawInt c] } : Obj) = oI
  have N1 := News.push F N oI (by rw [← hI]; rfl)
  refine loop_name (oI := oI) (Walks.range hh s.heap.objs.size a c n) hx hp V (F.keeps (grow oI)) (fun p hp => N1 p ?_) hSI (fun b hb hbI => absurd (List.mem_singleton.mp hb) hbI) ?_
    (fun i h st => ⟨_, st⟩) (fun p hp => ⟨hmu p hp, fun q => ?_⟩) J h0 ?_ ?_
  · rcases List.mem_append.mp hp with hp | hp
    · exact .tail _ (List.mem_append_left _ hp)
    · rcases List.mem_append.mp hp with hp | hp
      · rw [List.mem_singleton.mp hp]; exact .head _
      · exact .tail _ (List.mem_append_right _ hp)
  · show (s.heap.push oI).get? s.heap.objs.size = _
    rw [← hI, Heap.get?_push_size _ rfl, hn]
    simp
  · exact absurd (Heap.lt_size (N p (List.mem_append_left _ hp)).1) (by rw [← q]; exact Nat.lt_irrefl _)
  · have t := turn { s with heap := s.heap.push oI } ⟨_, rfl⟩
    intro i v m₁ m₂ mu₁ S₁ tl₁ h tk own hi hP
    exact t i v m₁ m₂ mu₁ S₁ tl₁ h tk own hi hP
  · intro m₁ mu₁ S₁ tl₁ h tk hJ
    exact done m₁ mu₁ S₁ tl₁ h tk hJ
end

section
variable {prog : Program} {w : World} {A : Around} {E : Value → Shared → Prop} {s : Shared} {env : Env} {S : Heap}

/-- a comprehension over a walked source; its list is the value -/
theorem at_comp {elt iter : PySem.Expr} {x : Str} {px : Pos} {ifs : List PySem.Expr} {scope : Scope} {cl : List (Str × Addr)} {pos : Pos} {Q : Value → Shared → Prop} {h₀ G : Heap} {L : Addr} {tl mu : List (Addr × Obj)} {m : Str → Option Value} {r : Addr} {oI : Obj} {fp : List Addr} {n : Nat} {P : Nat → Value → Prop} {St : Nat → Heap → Prop}
    (hit : ∀ Q' : Value → Shared → Prop, Q' (.ref s.heap.objs.size) { s with heap := s.heap.push oI } → wpAny (model prog w) A (pyIter (.ref r)) Q' E s)
    (W : Walks prog w A s.heap.objs.size fp [s.heap.objs.size] n P St) (hIo : ∀ i h, St i h → ∃ o, h.get? s.heap.objs.size = some o) (hfp : ∀ b ∈ fp, b ≠ s.heap.objs.size → ∃ o, S.get? b = some o) (hst : St 0 (s.heap.push oI))
    (hcell : ∀ y ∈ scope.names, y.2 ≠ .cell) (hkind : scope.kind = .function) (hx : scope.names.lookup x = some .local)
    (V : View h₀ G L S tl) (F : Fr h₀ L s.heap m) (N : News h₀ L s.heap (mu ++ tl)) (hmu : ∀ p ∈ mu, S.get? p.1 = none) (hsz : n ≤ sizeLine)
    (J : Nat → List Value → Heap → Prop) (hJ : J 0 [] S) (hlen : ∀ i ys S', J i ys S' → ys.length ≤ i)
    (turn : ∀ s', (∃ h, s' = { s with heap := h }) → CTurn prog w A s.heap S env scope cl x elt ifs n P J s')
    (hQ : ∀ D h tk ys S' tl', Fr h₀ L h m → News h₀ L h ((D, lstO ys ys.length) :: (mu ++ tl')) → View h₀ G L S' tl' → S.StaysIn S' → S'.get? D = none → (∀ p ∈ mu, S'.get? p.1 = none) → (∀ b o, s.heap.get? b = some o → b ≠ D) → J n ys S' → Q (.ref D) { s with heap := h, toks := tk }) :
    CompAt prog w A env (.ListComp elt [⟨.Name x px, iter, ifs, 0⟩] scope pos) scope cl none Q E (.ref r) s := by
  have up := V.up F N fun p hp => List.mem_append_right _ hp
  refine hit _ ?_
  have grow : ∀ b o, s.heap.get? b = some o → (s.heap.push oI).get? b = some o := fun b o e => Heap.get?_push_of_some _ e
  have hIH : s.heap.get? s.heap.objs.size = none := by
    cases q : s.heap.get? s.heap.objs.size with
    | none => rfl
    | some o => exact absurd (Heap.lt_size q) (Nat.lt_irrefl _)
  refine comp_block (S := S) (H := s.heap) (RR := fun acc C => compPost (model prog w) A E none Q acc C) W hsz hIo hfp hcell hkind hx hst grow (by show s.heap.objs.size ≤ (s.heap.push _).objs.size; rw [Heap.size_push]; exact Nat.le_succ _) up hIH J hJ hlen (turn _ ⟨_, rfl⟩) ?_
  intro D C h tk m' ys S' tl' F' N' V' hD hDC hDn hCn hJ'
  have hCs : s.heap.get? C = none := by
    cases q : s.heap.get? C with
    | none => rfl
    | some o => have := grow _ _ q; rw [show ({ s with heap := s.heap.push oI } : Shared).heap.get? C = none from hCn] at this; cases this
  refine ⟨m', F'.ns, fun h' hs' => ?_⟩
  obtain ⟨tl₂, F₂, N₂, V₂, st₂, mu₂, ne₂, _⟩ := comp_out V F N hmu F' N' V' hD hs' hCs
  exact hQ D h' tk ys S' tl₂ F₂ N₂ V₂ st₂ hD mu₂ ne₂ hJ'

/-- a comprehension whose list a name takes -/
theorem at_comp_use {elt iter : PySem.Expr} {x y : Str} {px py : Pos} {ifs : List PySem.Expr} {scope : Scope} {cl : List (Str × Addr)} {pos : Pos} {Q : Value → Shared → Prop} {h₀ G : Heap} {L : Addr} {tl mu : List (Addr × Obj)} {m : Str → Option Value} {r : Addr} {oI : Obj} {fp : List Addr} {n : Nat} {P : Nat → Value → Prop} {St : Nat → Heap → Prop}
    (hLe : env.locals = L) (hy : env.kindOf y = some .local) (hp : (env.scope.kind == .class || (env.scope.kind == .module && env.locals != env.globals)) = false)
    (hit : ∀ Q' : Value → Shared → Prop, Q' (.ref s.heap.objs.size) { s with heap := s.heap.push oI } → wpAny (model prog w) A (pyIter (.ref r)) Q' E s)
    (W : Walks prog w A s.heap.objs.size fp [s.heap.objs.size] n P St) (hIo : ∀ i h, St i h → ∃ o, h.get? s.heap.objs.size = some o) (hfp : ∀ b ∈ fp, b ≠ s.heap.objs.size → ∃ o, S.get? b = some o) (hst : St 0 (s.heap.push oI))
    (hcell : ∀ y ∈ scope.names, y.2 ≠ .cell) (hkind : scope.kind = .function) (hx : scope.names.lookup x = some .local)
    (V : View h₀ G L S tl) (F : Fr h₀ L s.heap m) (N : News h₀ L s.heap (mu ++ tl)) (hmu : ∀ p ∈ mu, S.get? p.1 = none) (hsz : n ≤ sizeLine)
    (J : Nat → List Value → Heap → Prop) (hJ : J 0 [] S) (hlen : ∀ i ys S', J i ys S' → ys.length ≤ i)
    (turn : ∀ s', (∃ h, s' = { s with heap := h }) → CTurn prog w A s.heap S env scope cl x elt ifs n P J s')
    (hQ : ∀ D h tk ys S' tl', Fr h₀ L h (fun z => if z = y then some (.ref D) else m z) → News h₀ L h ((D, lstO ys ys.length) :: (mu ++ tl')) → View h₀ G L S' tl' → S.StaysIn S' → S'.get? D = none → (∀ p ∈ mu, S'.get? p.1 = none) → (∀ b o, s.heap.get? b = some o → b ≠ D) → J n ys S' → Q .none { s with heap := h, toks := tk }) :
    CompAt prog w A env (.ListComp elt [⟨.Name x px, iter, ifs, 0⟩] scope pos) scope cl (some (assign (.Name y py) env)) Q E (.ref r) s := by
  subst hLe
  have up := V.up F N fun p hp => List.mem_append_right _ hp
  refine hit _ ?_
  have grow : ∀ b o, s.heap.get? b = some o → (s.heap.push oI).get? b = some o := fun b o e => Heap.get?_push_of_some _ e
  have hIH : s.heap.get? s.heap.objs.size = none := by
    cases q : s.heap.get? s.heap.objs.size with
    | none => rfl
    | some o => exact absurd (Heap.lt_size q) (Nat.lt_irrefl _)
  refine comp_block (S := S) (H := s.heap) (RR := fun acc C => compPost (model prog w) A E (some (assign (.Name y py) env)) Q acc C) W hsz hIo hfp hcell hkind hx hst grow (by show s.heap.objs.size ≤ (s.heap.push _).objs.size; rw [Heap.size_push]; exact Nat.le_succ _) up hIH J hJ hlen (turn _ ⟨_, rfl⟩) ?_
  intro D C h tk m' ys S' tl' F' N' V' hD hDC hDn hCn hJ'
  have hCs : s.heap.get? C = none := by
    cases q : s.heap.get? C with
    | none => rfl
    | some o => have := grow _ _ q; rw [show ({ s with heap := s.heap.push oI } : Shared).heap.get? C = none from hCn] at this; cases this
  obtain ⟨tl₂, F₂, N₂, V₂, st₂, mu₂, ne₂, keep₂⟩ := comp_out V F N hmu F' N' V' hD (Heap.SameBut.refl C h) hCs
  have hCL : C ≠ env.locals := by
    obtain ⟨oL, es, ep, hL, _⟩ := id F.ns
    intro q; rw [q, hL] at hCs; cases hCs
  have hC0 : h₀.get? C = none := by
    cases q : h₀.get? C with
    | none => rfl
    | some o => have := F.keep _ _ q; rw [hCs] at this; cases this
  refine wpAny_assign_Name (wpAny_storeName_local hy F₂.ns (fun h₃ hn₃ hs₃ => ?_) hp)
  replace hs₃ : Heap.SameBut env.locals h h₃ := hs₃
  have F₃ := F₂.set hn₃ hs₃
  have N₃ := N₂.set hs₃
  refine ⟨m', F'.ns.sameBut hs₃ hCL, fun h' hs' => ?_⟩
  replace hs' : Heap.SameBut C h₃ h' := hs'
  refine hQ D h' _ ys S' tl₂ (F₃.change hs' hCL hC0) (fun p hp => ⟨hs'.extBut _ _ (fun q => ?_) (N₃ p hp).1, (N₃ p hp).2⟩) V₂ st₂ hD mu₂ ne₂ hJ'
  rcases List.mem_cons.mp hp with rfl | hp
  · exact hDC q
  · rcases List.mem_append.mp hp with hp | hp
    · have := (N p (List.mem_append_left _ hp)).1
      rw [q, hCs] at this; cases this
    · have := ((V₂.snap p.1 p.2).mp hp).2
      rw [q, V'.notL] at this; cases this

theorem walks_range {r : Addr} {a b c : Int} {t u v : Tok} {n : Nat} (hr : IsRange s.heap r a b c t u v) (hsmall : Builtin.Range.small a b c = true) (hn : Builtin.Range.rangeSize a b c = (n : Int)) :
    (∀ Q' : Value → Shared → Prop, Q' (.ref s.heap.objs.size) { s with heap := s.heap.push { cls := .type "range_iterator", data := .fields #[rawInt a, rawInt (n : Int), rawInt c] } } → wpAny (model prog w) A (pyIter (.ref r)) Q' E s) :=
  fun Q' h => wpAny_pyIter_range hr hsmall (by rw [hn]; exact h)
theorem walks_range0 {a c : Int} {n : Nat} : IsRangeIter (s.heap.push { cls := .type "range_iterator", data := .fields #[rawInt a, rawInt (n : Int), rawInt c] }) s.heap.objs.size (a + ((0 : Nat) : Int) * c) ((n : Int) - ((0 : Nat) : Int)) c := by
  show (s.heap.push _).get? s.heap.objs.size = _
  rw [Heap.get?_push_size _ rfl]
  simp
end
end Mine
end

section
open PySem PySem.W PyProof.Rows PySem.Calls
namespace Mine
set_option maxRecDepth 100000
set_option maxHeartbeats 8000000

section
variable {w : World} {A : Around} {E : Value → Shared → Prop} {s : Shared} {K : Frag} {p : Program} {prog : Program} {loose : List Str} {mg mb : Str → Option Value}
  {Q : Value → Shared → Prop} {name qual : Str} {params : Arguments} {body : List Stmt} {scope : Scope} {dV kV doc pm cdv ct oc : Value} {an od : Option Addr} {osl : Array (Option Value)} {f : Addr} {vals : List Value} {binds : List (Str × Value)}

/-- a def entered whose scope has cells -/
theorem enterC (X : K.In s.heap) (T : TopRead p loose mg mb s.heap)
    (ho : K.lookup f = some ⟨oc, od, .func (fnOf name qual params body scope dV kV doc pm an cdv ct), osl⟩) (hcd : codeIn K cdv qual = true) (hroom : A.depth < recursionLimit)
    (hbind : BindsTo s (fnOf name qual params body scope dV kV doc pm an cdv ct) ⟨vals, []⟩ binds)
    (hkind : (binds.all fun y => scope.names.lookup y.1 == some .local || scope.names.lookup y.1 == some .cell) = true) (hnd : ((cellsFrom 0 scope.names []).map (·.1)).Nodup)
    (h : ∀ L h₁ tk cells, Fr s.heap L h₁ (bindL (envOfC qual scope L f cdv).kindOf binds fun _ => none) → News s.heap L h₁ cells →
      CellsAre (bindC (envOfC qual scope L f cdv).kindOf binds fun _ => none) (cellsFrom (L + 1) scope.names []) cells →
      wpAny (model prog w) (A.deeper (envOfC qual scope L f cdv)) (execs body (envOfC qual scope L f cdv))
        (fun fl s' => Q (match fl with | .ret v => v | _ => .none) s') (fun _ _ => False) { s with heap := h₁, toks := tk })
    (hco : scope.isCoroutine = false) (hgen : scope.isGenerator = false) (hk : scope.kind = .function) :
    wpAny (model prog w) A (call (.ref f) vals) Q E s := by
  refine wpAny_call (codeAny_call_function (fd := fnOf name qual params body scope dV kV doc pm an cdv ct) (body := body) hroom (X _ _ ho) rfl hco hgen rfl (codeRec_of X hcd) (hbind _ _ _ _ ?_))
  refine wpAny_newFunctionEnv_cells hk (kindsX hkind _) fun env' he s' x => ?_
  subst he
  refine ⟨T.nolimit.keeps x.toInCall.keep, codeAny_func ?_⟩
  obtain ⟨h₁, tk, rfl, _⟩ := x.done
  obtain ⟨cells, NC, Y⟩ := Cl.news (h₀ := s.heap) (Nat.le_refl _) fun n c hm => ⟨x.cell n c (lookup_of_mem_nodup (cellsFrom_names scope.names 0 (s.heap.objs.size + 1) [] [] rfl ▸ hnd) hm), x.above n c hm⟩
  exact wpAny_mono (h s.heap.objs.size h₁ tk cells ⟨x.toInCall.ns, x.toInCall.keep, Nat.le_refl _⟩ NC Y) (fun _ _ x => x) (fun _ _ x => x.elim)
end

theorem v_mul_none {prog : Program} {w : World} {A : Around} {E : Value → Shared → Prop} {s : Shared} {h₀ : Heap} {L : Addr} {m : Str → Option Value} {nw : List (Addr × Obj)} {Q : Value → Shared → Prop} {l : Addr} {e n : Nat} {u : Nat}
    (F : Fr h₀ L s.heap m) (N : News h₀ L s.heap nw) (hl : s.heap.get? l = some (lstO [.none] e)) (hn : n ≤ 100000)
    (h : ∀ D h', Fr h₀ L h' m → News h₀ L h' ((D, lstO (List.replicate n .none) 0) :: nw) → (∀ p ∈ nw, p.1 < D) → Q (.ref D) { s with heap := h' }) : wpAny (model prog w) A (binaryOp .Mult (.ref l) (.int (n : Int) u)) Q E s := by
  refine mul_list F N hl (by omega) (by omega) (by simp; omega) fun h' F' N' => ?_
  have hI : (if (#[Value.none] : Array Value).isEmpty = true then 0 else ((n : Int)).toNat) = n := by simp
  rw [show ([Value.none] : List Value).toArray = #[Value.none] from rfl, hI, listMul_foldl, show (#[Value.none] : Array Value).toList = [Value.none] from rfl, lm_rep_flat_one] at N'
  exact h _ h' F' N' fun p hp => Heap.lt_size (N p hp).1
end Mine
end

section
open PySem PySem.W PyProof.Rows PySem.Calls
namespace Mine
set_option maxRecDepth 100000
set_option maxHeartbeats 8000000
section
variable {w : World} {A : Around} {E : Value → Shared → Prop} {s : Shared} {h₀ : Heap} {L d l : Addr} {m : Str → Option Value} {news : List (Addr × Obj)} {g : Obj → List (Addr × Obj)} {o : Obj}
theorem v_set_int {kvs : List (Int × Value)} {k : Int} {t : Nat} {v : Value} {Q : Unit → Shared → Prop} (F : Fr h₀ L s.heap m) (N : News h₀ L s.heap news) (U : UpdF d o news g) (hd : o.IsDictOf (intKind Pg w) kvs) (hsz : kvs.length ≤ sizeLine)
    (h : ∀ h' o', Fr h₀ L h' m → News h₀ L h' (g o') → o'.IsDictOf (intKind Pg w) (stored kvs k v) → Q () { s with heap := h', toks := s.toks + 1 }) : wpAny (model Pg w) A (setItem (.ref d) (.int k t) v) Q E s :=
  kda_set F N U hd (intKind_is Pg w k t) hsz h
theorem v_len_dict {kvs : List (Int × Value)} {Q : Value → Shared → Prop} (N : News h₀ L s.heap news) (hp : (d, o) ∈ news) (hd : o.IsDictOf (intKind Pg w) kvs) (lo : (d == sysModules) = false) (hsz : kvs.length ≤ 16777216)
    (h : ∀ t, Q (.int (kvs.length : Int) t) { s with toks := s.toks + 1 + 1 }) : wpAny (model Pg w) A (call (.builtin "len") [.ref d]) Q E s :=
  call_len_dict lo (kda_dict N hp hd) (by omega) (h _)
theorem fmod_nat (r k : Nat) : ((r : Int)).fmod (k : Int) = ((r % k : Nat) : Int) := by rw [Int.fmod_eq_emod_of_nonneg _ (Int.natCast_nonneg k)]; rfl
theorem fdiv_nat (r k : Nat) : ((r : Int)).fdiv (k : Int) = ((r / k : Nat) : Int) := by rw [Int.fdiv_eq_ediv_of_nonneg _ (Int.natCast_nonneg k)]; rfl
theorem v_mod_nat {r k : Nat} {t u : Nat} {a b : Int} {Q : Value → Shared → Prop} (ha : a = (r : Int)) (hb : b = (k : Int)) (hk : 0 < k) (h : ∀ t, Q (.int ((r % k : Nat) : Int) t) { s with toks := s.toks + 1 }) : wpAny (model Pg w) A (binaryOp .Mod (.int a t) (.int b u)) Q E s := by
  subst ha hb
  exact mod_int (by omega) (by rw [fmod_nat]; exact h _)
theorem v_div_nat {r k : Nat} {t u : Nat} {a b : Int} {Q : Value → Shared → Prop} (hlog : k.log2 < 100) (ha : a = (r : Int)) (hb : b = (k : Int)) (hk : 0 < k) (h : ∀ t, Q (.int ((r / k : Nat) : Int) t) { s with toks := s.toks + 1 }) : wpAny (model Pg w) A (binaryOp .FloorDiv (.int a t) (.int b u)) Q E s := by
  subst ha hb
  exact floordiv_int (by omega) (by rw [fdiv_nat]; exact h _) (Or.inl (PyProof.noPylong_of_log2 (by simp; omega)))
theorem v_abs {n : Int} {t : Nat} {Q : Value → Shared → Prop} (h : ∀ u tk, Q (.int (n.natAbs : Int) u) { s with toks := tk }) : wpAny (model Pg w) A (call (.builtin "abs") [.int n t]) Q E s :=
  call_abs_int fun u tk => by rw [show (if n < 0 then -n else n) = (n.natAbs : Int) by split <;> omega]; exact h u tk
noncomputable def pick4 (a b c d : Str) (k : Nat) : Str := match k with | 0 => a | 1 => b | 2 => c | _ => d
theorem v_list_str4 {a b c d' : Str} {t0 t1 t2 t3 e : Nat} {k : Int} {t : Nat} {value slice : PySem.Expr} {Q : Value → Shared → Prop} (hl : s.heap.get? l = some (lstO [.str a t0, .str b t1, .str c t2, .str d' t3] e)) (h0 : 0 ≤ k) (h1 : k < 4)
    (h : ∀ t, Q (.str (pick4 a b c d' k.toNat) t) s)
    (hs : subscripted slice false (.ref l) (.int k t) = operate [.ref l, .int k t] (getItem (.ref l) (.int k t)) := by with_unfolding_all rfl) :
    wpAny (model Pg w) A (subscriptTail value slice (.ref l) (.int k t)) Q E s := by
  have : k.toNat = 0 ∨ k.toNat = 1 ∨ k.toNat = 2 ∨ k.toNat = 3 := by omega
  rcases this with q | q | q | q
  · exact v_list_int hl h0 (by omega) (v := .str a t0) (by rw [q]; rfl) (by have := h t0; rwa [q] at this) hs
  · exact v_list_int hl h0 (by omega) (v := .str b t1) (by rw [q]; rfl) (by have := h t1; rwa [q] at this) hs
  · exact v_list_int hl h0 (by omega) (v := .str c t2) (by rw [q]; rfl) (by have := h t2; rwa [q] at this) hs
  · exact v_list_int hl h0 (by omega) (v := .str d' t3) (by rw [q]; rfl) (by have := h t3; rwa [q] at this) hs
theorem v_list_str2 {a b : Str} {t0 t1 e : Nat} {k : Int} {t : Nat} {value slice : PySem.Expr} {Q : Value → Shared → Prop} (hl : s.heap.get? l = some (lstO [.str a t0, .str b t1] e)) (h0 : 0 ≤ k) (h1 : k < 2)
    (h : ∀ t, Q (.str (if k = 0 then a else b) t) s)
    (hs : subscripted slice false (.ref l) (.int k t) = operate [.ref l, .int k t] (getItem (.ref l) (.int k t)) := by with_unfolding_all rfl) :
    wpAny (model Pg w) A (subscriptTail value slice (.ref l) (.int k t)) Q E s := by
  have : k = 0 ∨ k = 1 := by omega
  rcases this with q | q <;> subst q
  · exact v_list_int hl h0 (by omega) (v := .str a t0) rfl (h t0) hs
  · exact v_list_int hl h0 (by omega) (v := .str b t1) rfl (h t1) hs
end
end Mine
end

section
open PySem PySem.W PyProof.Rows PySem.Calls
namespace Mine
set_option maxRecDepth 100000
set_option maxHeartbeats 8000000
noncomputable abbrev Ledg := List (Addr × Obj)
section
variable {A B C : Ledg} {a b : Addr × Obj}
theorem sub_nil : ∀ p ∈ ([] : Ledg), p ∈ B := fun _ h => absurd h List.not_mem_nil
theorem sub_cons (h : a ∈ B) (t : ∀ p ∈ A, p ∈ B) : ∀ p ∈ a :: A, p ∈ B := List.forall_mem_cons.mpr ⟨h, t⟩
theorem sub_app (h : ∀ p ∈ A, p ∈ B) (t : ∀ p ∈ C, p ∈ B) : ∀ p ∈ A ++ C, p ∈ B := List.forall_mem_append.mpr ⟨h, t⟩
theorem sub_t (h : ∀ p ∈ A, p ∈ B) : ∀ p ∈ A, p ∈ b :: B := fun p hp => List.mem_cons_of_mem _ (h p hp)
theorem sub_l (h : ∀ p ∈ A, p ∈ B) : ∀ p ∈ A, p ∈ B ++ C := fun p hp => List.mem_append_left _ (h p hp)
theorem sub_r (h : ∀ p ∈ A, p ∈ C) : ∀ p ∈ A, p ∈ B ++ C := fun p hp => List.mem_append_right _ (h p hp)
theorem sub_refl : ∀ p ∈ A, p ∈ A := fun _ h => h
theorem sub_trans (h : ∀ p ∈ A, p ∈ B) (t : ∀ p ∈ B, p ∈ C) : ∀ p ∈ A, p ∈ C := fun p hp => t p (h p hp)
theorem News.sub {h₀ h : Heap} {L : Addr} (N : News h₀ L h A) (hs : ∀ p ∈ B, p ∈ A) : News h₀ L h B := fun p hp => N p (hs p hp)
variable {P : Addr × Obj → Prop}
theorem off_nil : ∀ p ∈ ([] : Ledg), P p := fun _ h => absurd h List.not_mem_nil
theorem off_cons (h : P a) (t : ∀ p ∈ A, P p) : ∀ p ∈ a :: A, P p := List.forall_mem_cons.mpr ⟨h, t⟩
theorem off_app (h : ∀ p ∈ A, P p) (t : ∀ p ∈ C, P p) : ∀ p ∈ A ++ C, P p := List.forall_mem_append.mpr ⟨h, t⟩
end
theorem Fr.named {h₀ h : Heap} {L : Addr} {m : Str → Option Value} (F : Fr h₀ L h m) : ∃ m', m' = m ∧ Fr h₀ L h m' := ⟨m, rfl, F⟩

section
variable {prog : Program} {w : World} {A : Around} {E : Value → Shared → Prop} {s : Shared} {Q : Value → Shared → Prop} {a b : Int} {t u : Nat}
theorem v_eq_int_t (hn : a = b) (h : Q (.bool true) s) : wpAny (model prog w) A (compareOp .Eq (.int a t) (.int b u)) Q E s := PyProof.Rows.eq_int (by subst hn; simpa using h)
theorem v_eq_int_f (hn : a ≠ b) (h : Q (.bool false) s) : wpAny (model prog w) A (compareOp .Eq (.int a t) (.int b u)) Q E s := PyProof.Rows.eq_int (by rw [beq_eq_false_iff_ne.mpr hn]; exact h)
theorem v_ne_int_t (hn : a ≠ b) (h : Q (.bool true) s) : wpAny (model prog w) A (compareOp .NotEq (.int a t) (.int b u)) Q E s := PyProof.Rows.ne_int (by rw [bne_iff_ne.mpr hn]; exact h)
theorem v_ne_int_f (hn : a = b) (h : Q (.bool false) s) : wpAny (model prog w) A (compareOp .NotEq (.int a t) (.int b u)) Q E s := PyProof.Rows.ne_int (by subst hn; simpa using h)
theorem v_lt_int_t (hn : a < b) (h : Q (.bool true) s) : wpAny (model prog w) A (compareOp .Lt (.int a t) (.int b u)) Q E s := PyProof.Rows.lt_int (by rw [decide_eq_true hn]; exact h)
theorem v_lt_int_f (hn : ¬ a < b) (h : Q (.bool false) s) : wpAny (model prog w) A (compareOp .Lt (.int a t) (.int b u)) Q E s := PyProof.Rows.lt_int (by rw [decide_eq_false hn]; exact h)
theorem v_gt_int_t (hn : a > b) (h : Q (.bool true) s) : wpAny (model prog w) A (compareOp .Gt (.int a t) (.int b u)) Q E s := PyProof.Rows.gt_int (by rw [decide_eq_true hn]; exact h)
theorem v_gt_int_f (hn : ¬ a > b) (h : Q (.bool false) s) : wpAny (model prog w) A (compareOp .Gt (.int a t) (.int b u)) Q E s := PyProof.Rows.gt_int (by rw [decide_eq_false hn]; exact h)
end
theorem ine {a b : Int} (h : a ≠ b) : a ≠ b := h
end Mine
namespace Mine
theorem allLt_mem {d : Addr} : ∀ {l : Ledg}, AllLt d l → ∀ p ∈ l, @LT.lt Nat _ p.1 d
  | [], _ => off_nil
  | _ :: _, h => List.forall_mem_cons.mpr ⟨h.1, allLt_mem h.2⟩
theorem Same.step {st st' : List Str} {mB mB' u : Str → Option Value} (hs : st.all (fun x => st'.contains x) = true) (h : Same st' mB mB') : Same st' mB (fun z => if st.contains z then u z else mB' z) := fun z hz => by
  have : st.contains z = false := by
    cases q : st.contains z with
    | false => rfl
    | true =>
      have hz' : z ∈ st := by simpa using q
      have := List.all_eq_true.mp hs z hz'
      rw [this] at hz; cases hz
  simp only [this, Bool.false_eq_true, if_false]
  exact h z hz
theorem allLt_ne {d : Addr} {l : Ledg} (h : AllLt d l) {p : Addr × Obj} (hp : p ∈ l) : d ≠ p.1 := Nat.ne_of_gt (allLt_mem h p hp)
theorem allLt_app {d : Addr} : ∀ {l k : Ledg}, AllLt d (l ++ k) → AllLt d l ∧ AllLt d k
  | [], _, h => ⟨trivial, h⟩
  | _ :: _, _, h => ⟨⟨h.1, (allLt_app h.2).1⟩, (allLt_app h.2).2⟩
end Mine
end

section
open PySem PySem.W PyProof.Rows PySem.Calls
namespace Mine
/-- the goal under a name, while facts are taken apart -/
theorem hide {G : Prop} (h : ∀ P : Prop, (G → P) → P) : G := h G id
/-- a tree's continuation under a name -/
theorem via {α : Type} {M : Model} {A : Around} {p : Sem α} {Q : α → Shared → Prop} {E : Value → Shared → Prop} {s : Shared}
    (h : ∀ (T : α → Shared → Prop) (E' : Value → Shared → Prop), (∀ a s', Q a s' → T a s') → wpAny M A p T E' s) : wpAny M A p Q E s := h Q E fun _ _ q => q
theorem execs_then {M : Model} {A : Around} {st : Stmt} {rest : List Stmt} {env : Env} {Q : Flow → Shared → Prop} {E : Value → Shared → Prop} {s : Shared}
    (h : ∀ K : Flow → Shared → Prop, (∀ s', wpAny M A (execs rest env) Q E s' → K .next s') → (∀ f s', f ≠ .next → Q f s' → K f s') → wpAny M A (exec st env) K E s) : wpAny M A (execs (st :: rest) env) Q E s :=
  wpAny_execs_cons (h (fun f s' => match f with | .next => wpAny M A (execs rest env) Q E s' | f => Q f s') (fun _ g => g) fun f s' n g => by cases f <;> first | exact absurd rfl n | exact g)
theorem retNe {v : Value} : Flow.ret v ≠ .next := fun e => Flow.noConfusion e
theorem brkNe : Flow.brk ≠ .next := fun e => Flow.noConfusion e
theorem contNe : Flow.cont ≠ .next := fun e => Flow.noConfusion e
theorem execs_last {M : Model} {A : Around} {st : Stmt} {env : Env} {Q : Flow → Shared → Prop} {E : Value → Shared → Prop} {s : Shared}
    (h : wpAny M A (exec st env) Q E s) : wpAny M A (execs [st] env) Q E s :=
  wpAny_execs_cons (wpAny_mono h (fun f s' q => by cases f <;> first | exact wpAny_execs_nil q | exact q) fun _ _ q => q)
/-- a chain of facts taken apart at once -/
theorem ands4 {a0 a1 a2 a3 G : Prop} (h : a0 ∧ a1 ∧ a2 ∧ a3) (k : a0 → a1 → a2 → a3 → G) : G := k h.1 h.2.1 h.2.2.1 h.2.2.2
theorem ands5 {a0 a1 a2 a3 a4 G : Prop} (h : a0 ∧ a1 ∧ a2 ∧ a3 ∧ a4) (k : a0 → a1 → a2 → a3 → a4 → G) : G := k h.1 h.2.1 h.2.2.1 h.2.2.2.1 h.2.2.2.2
theorem ands6 {a0 a1 a2 a3 a4 a5 G : Prop} (h : a0 ∧ a1 ∧ a2 ∧ a3 ∧ a4 ∧ a5) (k : a0 → a1 → a2 → a3 → a4 → a5 → G) : G := k h.1 h.2.1 h.2.2.1 h.2.2.2.1 h.2.2.2.2.1 h.2.2.2.2.2
theorem ands7 {a0 a1 a2 a3 a4 a5 a6 G : Prop} (h : a0 ∧ a1 ∧ a2 ∧ a3 ∧ a4 ∧ a5 ∧ a6) (k : a0 → a1 → a2 → a3 → a4 → a5 → a6 → G) : G := k h.1 h.2.1 h.2.2.1 h.2.2.2.1 h.2.2.2.2.1 h.2.2.2.2.2.1 h.2.2.2.2.2.2
theorem ands8 {a0 a1 a2 a3 a4 a5 a6 a7 G : Prop} (h : a0 ∧ a1 ∧ a2 ∧ a3 ∧ a4 ∧ a5 ∧ a6 ∧ a7) (k : a0 → a1 → a2 → a3 → a4 → a5 → a6 → a7 → G) : G := k h.1 h.2.1 h.2.2.1 h.2.2.2.1 h.2.2.2.2.1 h.2.2.2.2.2.1 h.2.2.2.2.2.2.1 h.2.2.2.2.2.2.2
theorem ands9 {a0 a1 a2 a3 a4 a5 a6 a7 a8 G : Prop} (h : a0 ∧ a1 ∧ a2 ∧ a3 ∧ a4 ∧ a5 ∧ a6 ∧ a7 ∧ a8) (k : a0 → a1 → a2 → a3 → a4 → a5 → a6 → a7 → a8 → G) : G := k h.1 h.2.1 h.2.2.1 h.2.2.2.1 h.2.2.2.2.1 h.2.2.2.2.2.1 h.2.2.2.2.2.2.1 h.2.2.2.2.2.2.2.1 h.2.2.2.2.2.2.2.2
theorem ands10 {a0 a1 a2 a3 a4 a5 a6 a7 a8 a9 G : Prop} (h : a0 ∧ a1 ∧ a2 ∧ a3 ∧ a4 ∧ a5 ∧ a6 ∧ a7 ∧ a8 ∧ a9) (k : a0 → a1 → a2 → a3 → a4 → a5 → a6 → a7 → a8 → a9 → G) : G := k h.1 h.2.1 h.2.2.1 h.2.2.2.1 h.2.2.2.2.1 h.2.2.2.2.2.1 h.2.2.2.2.2.2.1 h.2.2.2.2.2.2.2.1 h.2.2.2.2.2.2.2.2.1 h.2.2.2.2.2.2.2.2.2
theorem ands2 {a b G : Prop} (h : a ∧ b) (k : a → b → G) : G := k h.1 h.2
theorem ands3 {a b c G : Prop} (h : a ∧ b ∧ c) (k : a → b → c → G) : G := k h.1 h.2.1 h.2.2
theorem ex1 {A0 : Type} {P : A0 → Prop} {G : Prop} (h : ∃ x0, P x0) (k : ∀ x0, P x0 → G) : G := match h with | ⟨x0, p⟩ => k x0 p
theorem ex2 {A0 A1 : Type} {P : A0 → A1 → Prop} {G : Prop} (h : ∃ x0 x1, P x0 x1) (k : ∀ x0 x1, P x0 x1 → G) : G := match h with | ⟨x0, x1, p⟩ => k x0 x1 p
theorem ex3 {A0 A1 A2 : Type} {P : A0 → A1 → A2 → Prop} {G : Prop} (h : ∃ x0 x1 x2, P x0 x1 x2) (k : ∀ x0 x1 x2, P x0 x1 x2 → G) : G := match h with | ⟨x0, x1, x2, p⟩ => k x0 x1 x2 p
theorem ex4 {A0 A1 A2 A3 : Type} {P : A0 → A1 → A2 → A3 → Prop} {G : Prop} (h : ∃ x0 x1 x2 x3, P x0 x1 x2 x3) (k : ∀ x0 x1 x2 x3, P x0 x1 x2 x3 → G) : G := match h with | ⟨x0, x1, x2, x3, p⟩ => k x0 x1 x2 x3 p
theorem ex5 {A0 A1 A2 A3 A4 : Type} {P : A0 → A1 → A2 → A3 → A4 → Prop} {G : Prop} (h : ∃ x0 x1 x2 x3 x4, P x0 x1 x2 x3 x4) (k : ∀ x0 x1 x2 x3 x4, P x0 x1 x2 x3 x4 → G) : G := match h with | ⟨x0, x1, x2, x3, x4, p⟩ => k x0 x1 x2 x3 x4 p
theorem ex6 {A0 A1 A2 A3 A4 A5 : Type} {P : A0 → A1 → A2 → A3 → A4 → A5 → Prop} {G : Prop} (h : ∃ x0 x1 x2 x3 x4 x5, P x0 x1 x2 x3 x4 x5) (k : ∀ x0 x1 x2 x3 x4 x5, P x0 x1 x2 x3 x4 x5 → G) : G := match h with | ⟨x0, x1, x2, x3, x4, x5, p⟩ => k x0 x1 x2 x3 x4 x5 p
theorem ex7 {A0 A1 A2 A3 A4 A5 A6 : Type} {P : A0 → A1 → A2 → A3 → A4 → A5 → A6 → Prop} {G : Prop} (h : ∃ x0 x1 x2 x3 x4 x5 x6, P x0 x1 x2 x3 x4 x5 x6) (k : ∀ x0 x1 x2 x3 x4 x5 x6, P x0 x1 x2 x3 x4 x5 x6 → G) : G := match h with | ⟨x0, x1, x2, x3, x4, x5, x6, p⟩ => k x0 x1 x2 x3 x4 x5 x6 p
theorem ex8 {A0 A1 A2 A3 A4 A5 A6 A7 : Type} {P : A0 → A1 → A2 → A3 → A4 → A5 → A6 → A7 → Prop} {G : Prop} (h : ∃ x0 x1 x2 x3 x4 x5 x6 x7, P x0 x1 x2 x3 x4 x5 x6 x7) (k : ∀ x0 x1 x2 x3 x4 x5 x6 x7, P x0 x1 x2 x3 x4 x5 x6 x7 → G) : G := match h with | ⟨x0, x1, x2, x3, x4, x5, x6, x7, p⟩ => k x0 x1 x2 x3 x4 x5 x6 x7 p
theorem ex9 {A0 A1 A2 A3 A4 A5 A6 A7 A8 : Type} {P : A0 → A1 → A2 → A3 → A4 → A5 → A6 → A7 → A8 → Prop} {G : Prop} (h : ∃ x0 x1 x2 x3 x4 x5 x6 x7 x8, P x0 x1 x2 x3 x4 x5 x6 x7 x8) (k : ∀ x0 x1 x2 x3 x4 x5 x6 x7 x8, P x0 x1 x2 x3 x4 x5 x6 x7 x8 → G) : G := match h with | ⟨x0, x1, x2, x3, x4, x5, x6, x7, x8, p⟩ => k x0 x1 x2 x3 x4 x5 x6 x7 x8 p
theorem ex10 {A0 A1 A2 A3 A4 A5 A6 A7 A8 A9 : Type} {P : A0 → A1 → A2 → A3 → A4 → A5 → A6 → A7 → A8 → A9 → Prop} {G : Prop} (h : ∃ x0 x1 x2 x3 x4 x5 x6 x7 x8 x9, P x0 x1 x2 x3 x4 x5 x6 x7 x8 x9) (k : ∀ x0 x1 x2 x3 x4 x5 x6 x7 x8 x9, P x0 x1 x2 x3 x4 x5 x6 x7 x8 x9 → G) : G := match h with | ⟨x0, x1, x2, x3, x4, x5, x6, x7, x8, x9, p⟩ => k x0 x1 x2 x3 x4 x5 x6 x7 x8 x9 p
end Mine
end

section
open PySem PySem.W PyProof.Rows PySem.Calls
namespace Mine
set_option maxRecDepth 100000
set_option maxHeartbeats 8000000

noncomputable abbrev rootO (n : Nat) (tn : Nat) (h1 : Int) (t1 : Nat) (h2 : Int) (t2 : Nat) (l : Addr) : Obj := dictOf [⟨h1, .str (Str.ofString "number") t1, .int (n : Int) tn⟩, ⟨h2, .str (Str.ofString "kids") t2, .ref l⟩] 2

/-- how two threads with one subject join -/
noncomputable def joinT (tab : Tab) (held node : Tr) : Tr :=
  if held.num = 0 then .mk 0 (held.kids ++ (if node.num = 0 then node.kids else [node]))
  else if (entry tab node.num).2 = true ∧ (entry tab held.num).2 = false then .mk held.num (held.kids ++ [node])
  else .mk 0 [held, node]

noncomputable def tsA (ts : List Tr) (p : Nat) : Tr := ts.getD p (.mk 0 [])
theorem tsA_some {ts : List Tr} {p : Nat} {t : Tr} (h : ts[p]? = some t) : tsA ts p = t := by unfold tsA; rw [List.getD_eq_getElem?_getD, h]; rfl
theorem tsA_get {ts : List Tr} {p : Nat} (h : p < ts.length) : ts[p]? = some (tsA ts p) := by
  unfold tsA; rw [List.getD_eq_getElem?_getD, List.getElem?_eq_getElem h]; rfl
noncomputable def bA (tab : Tab) (ts : List Tr) (p : Nat) : Str := base tab (tsA ts p)
noncomputable abbrev noS : Str := Str.ofString ""
noncomputable def mems (tab : Tab) (ts : List Tr) (P : Nat → Bool) (k : Nat) : List Nat := (List.range ts.length).filter fun p => p != k && (decide (bA tab ts p = bA tab ts k) && P p)
noncomputable def foldJ (tab : Tab) (ts : List Tr) (t : Tr) (l : List Nat) : Tr := l.foldl (fun h p => joinT tab h (tsA ts p)) t
/-- what stands at place k once the places in P have been gone through -/
noncomputable def slotP (tab : Tab) (ts : List Tr) (st : Str → Option Nat) (P : Nat → Bool) (k : Nat) : Option Tr :=
  if bA tab ts k = noS then some (tsA ts k) else if st (bA tab ts k) = some k then some (foldJ tab ts (tsA ts k) (mems tab ts P k)) else if P k = true then none else some (tsA ts k)

theorem filter_last {f : Nat → Bool} {p0 : Nat} : ∀ {l : List Nat}, l.Pairwise (· < ·) → p0 ∈ l → f p0 = false → (∀ p ∈ l, f p = true → p < p0) → l.filter (fun p => f p || p == p0) = l.filter f ++ [p0]
  | [], _, h, _, _ => absurd h List.not_mem_nil
  | a :: t, hs, hm, h0, hlt => by
    obtain ⟨ha, ht⟩ := List.pairwise_cons.mp hs
    by_cases e : a = p0
    · subst e
      have hz : ∀ p ∈ t, f p = false := fun p hp => by
        cases q : f p with
        | false => rfl
        | true => exact absurd (hlt p (List.mem_cons_of_mem _ hp) q) (Nat.not_lt.mpr (Nat.le_of_lt (ha p hp)))
      have h1 : t.filter f = [] := by rw [List.filter_eq_nil_iff]; intro p hp; rw [hz p hp]; decide
      have h2 : t.filter (fun p => f p || p == a) = [] := by
        rw [List.filter_eq_nil_iff]; intro p hp; rw [hz p hp]
        have := ha p hp
        simp; omega
      simp [List.filter_cons, h0, h1, h2]
    · have hm' : p0 ∈ t := by
        rcases List.mem_cons.mp hm with q | q
        · exact absurd q.symm e
        · exact q
      have ih := filter_last ht hm' h0 fun p hp => hlt p (List.mem_cons_of_mem _ hp)
      have e' : (a == p0) = false := by simpa using e
      rw [List.filter_cons, List.filter_cons, e', Bool.or_false, ih]
      cases f a <;> rfl

section
variable {tab : Tab} {ts : List Tr} {st : Str → Option Nat} {P P' : Nat → Bool} {p0 : Nat}
theorem mems_step (hp0 : p0 < ts.length) (hP : ∀ p < ts.length, P' p = (P p || p == p0)) (h0 : P p0 = false) (hl : ∀ p < ts.length, bA tab ts p = bA tab ts p0 → P p = true → p < p0) {k : Nat} (hk : p0 ≠ k) (hb : bA tab ts p0 = bA tab ts k) :
    mems tab ts P' k = mems tab ts P k ++ [p0] := by
  unfold mems
  rw [← filter_last (p0 := p0) (List.pairwise_lt_range) (List.mem_range.mpr hp0) (by rw [h0]; simp) (fun p hp hq => ?_)]
  · refine List.filter_congr fun p hp => ?_
    rw [hP p (List.mem_range.mp hp)]
    by_cases e : p = p0
    · subst e; rw [hb]; simp [hk]
    · have e' : (p == p0) = false := by simpa using e
      rw [e', Bool.or_false, Bool.or_false]
  · simp only [Bool.and_eq_true, decide_eq_true_eq, bne_iff_ne] at hq
    exact hl p (List.mem_range.mp hp) (hq.2.1.trans hb.symm) hq.2.2
theorem mems_same (hP : ∀ p < ts.length, P' p = (P p || p == p0)) {k : Nat} (hk : p0 = k ∨ bA tab ts p0 ≠ bA tab ts k) : mems tab ts P' k = mems tab ts P k := by
  unfold mems
  refine List.filter_congr fun p hp => ?_
  rw [hP p (List.mem_range.mp hp)]
  by_cases e : p = p0
  · subst e
    rcases hk with q | q
    · subst q; simp
    · simp [q]
  · have e' : (p == p0) = false := by simpa using e
    rw [e', Bool.or_false]
/-- a place goes by whose thread is not joined -/
theorem slot_skip (hP : ∀ p < ts.length, P' p = (P p || p == p0)) (hs : bA tab ts p0 = noS ∨ st (bA tab ts p0) = some p0) {k : Nat} (hk : k < ts.length) (hd : bA tab ts p0 = bA tab ts k → bA tab ts p0 ≠ noS → st (bA tab ts k) = some k → p0 = k) :
    slotP tab ts st P' k = slotP tab ts st P k := by
  unfold slotP
  by_cases h1 : bA tab ts k = noS
  · rw [if_pos h1, if_pos h1]
  · rw [if_neg h1, if_neg h1]
    by_cases h2 : st (bA tab ts k) = some k
    · rw [if_pos h2, if_pos h2]
      rw [mems_same hP]
      by_cases h3 : bA tab ts p0 = bA tab ts k
      · exact .inl (hd h3 (by rw [h3]; exact h1) h2)
      · exact .inr h3
    · rw [if_neg h2, if_neg h2, hP k hk]
      have : (k == p0) = false := by
        rw [beq_eq_false_iff_ne]; intro e; subst e
        rcases hs with q | q
        · exact h1 q
        · exact h2 q
      rw [this, Bool.or_false]
theorem slot_skip' (hP : ∀ p < ts.length, P' p = (P p || p == p0)) (hs : bA tab ts p0 = noS ∨ st (bA tab ts p0) = some p0) {k : Nat} (hk : k < ts.length) : slotP tab ts st P' k = slotP tab ts st P k :=
  slot_skip hP hs hk fun h1 h2 h3 => by
    rcases hs with q | q
    · exact absurd q h2
    · rw [h1, h3] at q; exact (Option.some.inj q).symm
section
variable {q : Nat} (hp0 : p0 < ts.length) (hP : ∀ p < ts.length, P' p = (P p || p == p0)) (h0 : P p0 = false) (hl : ∀ p < ts.length, bA tab ts p = bA tab ts p0 → P p = true → p < p0) (hb : bA tab ts p0 ≠ noS) (hq : st (bA tab ts p0) = some q) (hqp : q ≠ p0) (hbq : bA tab ts q = bA tab ts p0)
include hp0 hP h0 hl hb hq hqp hbq
/-- a place goes by whose thread is joined to the one at q -/
theorem slot_join : ∃ h, slotP tab ts st P q = some h ∧ slotP tab ts st P p0 = some (tsA ts p0) ∧ slotP tab ts st P' q = some (joinT tab h (tsA ts p0)) ∧ slotP tab ts st P' p0 = none := by
  refine ⟨foldJ tab ts (tsA ts q) (mems tab ts P q), ?_, ?_, ?_, ?_⟩
  · unfold slotP; rw [if_neg (by rw [hbq]; exact hb), if_pos (by rw [hbq]; exact hq)]
  · unfold slotP; rw [if_neg hb, if_neg (by rw [hq]; intro e; exact hqp (Option.some.inj e)), h0]; rfl
  · unfold slotP; rw [if_neg (by rw [hbq]; exact hb), if_pos (by rw [hbq]; exact hq), mems_step hp0 hP h0 hl (Ne.symm hqp) hbq.symm]
    unfold foldJ; rw [List.foldl_append]; rfl
  · unfold slotP; rw [if_neg hb, if_neg (by rw [hq]; intro e; exact hqp (Option.some.inj e)), hP p0 hp0]; simp
theorem slot_other {k : Nat} (hk : k < ts.length) (h1 : k ≠ q) (h2 : k ≠ p0) : slotP tab ts st P' k = slotP tab ts st P k := by
  unfold slotP
  by_cases a1 : bA tab ts k = noS
  · rw [if_pos a1, if_pos a1]
  · rw [if_neg a1, if_neg a1]
    by_cases a2 : st (bA tab ts k) = some k
    · rw [if_pos a2, if_pos a2, mems_same hP]
      refine .inr fun e => h1 ?_
      rw [← e, hq] at a2; exact (Option.some.inj a2).symm
    · rw [if_neg a2, if_neg a2, hP k hk]
      have : (k == p0) = false := by simpa using h2
      rw [this, Bool.or_false]
end
end

theorem joinT_rep {tab : Tab} {h n : Tr} (ok : RootOk tab h) : rep (joinT tab h n) = rep h := by
  cases h with
  | mk a ks =>
    unfold joinT
    by_cases h0 : a = 0
    · subst h0
      cases ks with
      | nil => exact absurd ok (by simp [RootOk, wtab, rep])
      | cons k r => cases k; rfl
    · rw [if_neg (by exact h0)]
      split
      · show rep (.mk a _) = rep (.mk a _); rw [rep_pos h0, rep_pos h0]
      · cases a with
        | zero => exact absurd rfl h0
        | succ a => rfl
theorem joinT_ok {tab : Tab} {h n : Tr} (ok : RootOk tab h) : RootOk tab (joinT tab h n) := by unfold RootOk; rw [joinT_rep ok]; exact ok
theorem joinT_base {tab : Tab} {h n : Tr} (ok : RootOk tab h) : base tab (joinT tab h n) = base tab h := by unfold base; rw [joinT_rep ok]
theorem joinT_num {tab : Tab} {h n : Tr} (e : (joinT tab h n).num ≠ 0) : h.num ≠ 0 := by
  intro q; apply e; unfold joinT; rw [if_pos q]; rfl
theorem joinT_size {tab : Tab} {h n : Tr} : (joinT tab h n).size ≤ h.size + n.size + 1 := by
  cases h with
  | mk a ks =>
    cases n with
    | mk b us =>
      unfold joinT
      split
      · show (Tr.mk 0 (ks ++ _)).size ≤ _
        split
        · show (Tr.mk 0 (ks ++ us)).size ≤ _
          rw [Tr.size, Tr.size, Tr.size, Tr.sizes_append]; omega
        · rw [Tr.size, Tr.size, Tr.sizes_append, Tr.sizes, Tr.sizes, Tr.size]; omega
      · split
        · show (Tr.mk a (ks ++ [_])).size ≤ _
          rw [Tr.size, Tr.size, Tr.sizes_append, Tr.sizes, Tr.sizes, Tr.size]; omega
        · rw [Tr.size, Tr.sizes, Tr.sizes, Tr.sizes, Tr.size, Tr.size]; omega
section
variable {tab : Tab} {ts : List Tr} {t : Tr}
theorem foldJ_rep (ok : RootOk tab t) : ∀ l, rep (foldJ tab ts t l) = rep t ∧ RootOk tab (foldJ tab ts t l) := by
  intro l
  induction l generalizing t with
  | nil => exact ⟨rfl, ok⟩
  | cons p r ih =>
    obtain ⟨a, b⟩ := ih (joinT_ok (n := tsA ts p) ok)
    exact ⟨a.trans (joinT_rep ok), b⟩
theorem foldJ_num : ∀ l, (foldJ tab ts t l).num ≠ 0 → t.num ≠ 0 := by
  intro l
  induction l generalizing t with
  | nil => exact fun h => h
  | cons p r ih => exact fun h => joinT_num (ih h)
theorem foldJ_size : ∀ l, (foldJ tab ts t l).size ≤ t.size + (l.map fun p => (tsA ts p).size + 1).sum := by
  intro l
  induction l generalizing t with
  | nil => exact Nat.le_refl _
  | cons p r ih =>
    have := ih (t := joinT tab t (tsA ts p))
    have h2 := joinT_size (tab := tab) (h := t) (n := tsA ts p)
    rw [List.map_cons, List.sum_cons]
    show (foldJ tab ts (joinT tab t (tsA ts p)) r).size ≤ _
    omega
end
theorem sum_filter_le (f : Nat → Nat) (g : Nat → Bool) : ∀ l : List Nat, ((l.filter g).map f).sum ≤ (l.map f).sum
  | [] => Nat.le_refl _
  | a :: r => by
    have := sum_filter_le f g r
    rw [List.filter_cons]
    split
    · rw [List.map_cons, List.sum_cons, List.map_cons, List.sum_cons]; omega
    · rw [List.map_cons, List.sum_cons]; omega
theorem range_tsA (ts : List Tr) : (List.range ts.length).map (tsA ts) = ts := by
  apply List.ext_getElem?
  intro i
  rw [List.getElem?_map]
  by_cases h : i < ts.length
  · rw [List.getElem?_range h, tsA_get h]; rfl
  · rw [List.getElem?_eq_none (by simpa using h), List.getElem?_eq_none (by omega)]; rfl
theorem slot_size {tab : Tab} {ts : List Tr} {st : Str → Option Nat} {P : Nat → Bool} {k : Nat} (hk : k < ts.length) {t : Tr} (h : slotP tab ts st P k = some t) : t.size ≤ 2 * Tr.sizes ts + ts.length := by
  have h1 : (tsA ts k).size ≤ Tr.sizes ts := Tr.size_le (List.mem_of_getElem? (tsA_get hk))
  have h2 : ∀ us : List Tr, (us.map fun u => u.size + 1).sum = Tr.sizes us + us.length := by
    intro us
    induction us with
    | nil => rfl
    | cons u r ih => rw [List.map_cons, List.sum_cons, ih, Tr.sizes, List.length_cons]; omega
  unfold slotP at h
  split at h
  · cases h; omega
  · split at h
    · cases h
      have h3 := foldJ_size (tab := tab) (ts := ts) (t := tsA ts k) (mems tab ts P k)
      have h4 := sum_filter_le (fun p => (tsA ts p).size + 1) (fun p => p != k && (decide (bA tab ts p = bA tab ts k) && P p)) (List.range ts.length)
      have h5 : (List.range ts.length).map (fun p => (tsA ts p).size + 1) = ts.map (fun u => u.size + 1) := by
        conv => rhs; rw [← range_tsA ts]
        rw [List.map_map]; rfl
      rw [h5, h2] at h4
      unfold mems at h3
      unfold mems
      omega
    · split at h
      · cases h
      · cases h; omega
theorem slot_rep {tab : Tab} {ts : List Tr} {st : Str → Option Nat} {P : Nat → Bool} {k : Nat} (ok : RootOk tab (tsA ts k)) {t : Tr} (h : slotP tab ts st P k = some t) : rep t = rep (tsA ts k) ∧ RootOk tab t ∧ (t.num ≠ 0 → (tsA ts k).num ≠ 0) := by
  unfold slotP at h
  split at h
  · cases h; exact ⟨rfl, ok, fun x => x⟩
  · split at h
    · cases h
      exact ⟨(foldJ_rep ok _).1, (foldJ_rep ok _).2, foldJ_num _⟩
    · split at h
      · cases h
      · cases h; exact ⟨rfl, ok, fun x => x⟩
end Mine
end

section
open PySem PySem.W PyProof.Rows PySem.Calls PySem.Spec
namespace Mine
set_option maxRecDepth 100000
set_option maxHeartbeats 8000000

theorem slot_setiter_next : Slot "set_iterator" "__next__" "set_iterator.__next__" :=
  .of (owner := "set_iterator") (n := "__next__") (by rw [typeLookup_type, builtinLookup_eq_fast]; kernel_rfl) (by decide +kernel) (by decide +kernel) (by decide +kernel)
    (by first | exact .inl (by decide +kernel) | exact .inr (by decide +kernel)) (by rw [isSubtype_type]; kernel_rfl)
theorem entry_setiter_next : entryFor table "set_iterator.__next__" = some Builtin.«set_iterator.__next__» := entryFor_of_tree (by kernel_rfl)
theorem owner_setit : Manifest.owners.lookup (String.ofList ['r', 'o', 't', 'a', 'r', 'e', 't', 'i', '_', 't', 'e', 's'].reverse) = some Manifest.sig_set_iterator := by kernel_rfl
theorem args_setiter_next (a : Value) : argsOk "set_iterator.__next__" ⟨[a], []⟩ := by
  unfold argsOk; rw [signature?_of (id := "set_iterator.__next__") (n := ['_', '_', 't', 'x', 'e', 'n', '_', '_']) (o := ['r', 'o', 't', 'a', 'r', 'e', 't', 'i', '_', 't', 'e', 's']) (by kernel_rfl) owner_setit]; kernel_rfl
theorem entry_set_iter' : entryFor table "set.__iter__" = some Builtin.«frozenset.__iter__» :=
  entryFor_alias (id' := "frozenset.__iter__") (by rw [fastTable_eq_tree]; kernel_rfl) rfl (by decide +kernel) (by rw [fastTable_eq_tree]; kernel_rfl)

theorem erase_perm {α : Type} : ∀ {l : List α} {i : Nat} (h : i < l.length), (l[i] :: l.eraseIdx i).Perm l
  | a :: l, 0, _ => .refl _
  | a :: l, i + 1, h => by
    have ih := erase_perm (l := l) (i := i) (by simpa using h)
    simp only [List.getElem_cons_succ, List.eraseIdx_cons_succ]
    exact (List.Perm.swap _ _ _).trans (.cons _ ih)

noncomputable def noS' : Str := Str.ofString ""
section
variable {prog : Program} {w : World} {A : Around} {E : Value → Shared → Prop} {s : Shared}

theorem v_choose {src : Source} {n : Nat} {Q : Nat → Shared → Prop} (hn : n ≠ 0) (h : ∀ i, i < n → Q i { s with drawn := s.drawn.bump src }) : wpAny (model prog w) A (choose src n) Q E s := fun Γ p hΓ => by
  unfold choose
  rw [Sem.wp_choose]
  exact ⟨hn, by rw [Sem.wp_pure]; exact h _ (Nat.mod_lt _ (Nat.pos_of_ne_zero hn))⟩

theorem v_drawOrder {α : Type} : ∀ (n : Nat) (xs : List α) (s : Shared) (Q : List α → Shared → Prop), xs.length = n → (∀ out d, out.Perm xs → Q out { s with drawn := d }) → wpAny (model prog w) A (drawOrder n xs) Q E s
  | 0, xs, s, Q, hn, h => by
    have : xs = [] := List.eq_nil_of_length_eq_zero hn
    subst this
    exact wpAny_pure (h [] s.drawn .nil)
  | n + 1, [], s, Q, hn, h => by simp at hn
  | n + 1, x :: xs, s, Q, hn, h => by
    unfold drawOrder
    refine wpAny_bind (v_choose (by simp) fun i hi => ?_)
    rw [List.getElem?_eq_getElem hi]
    dsimp only
    refine wpAny_bind (v_drawOrder n _ _ _ (by rw [List.length_eraseIdx_of_lt hi]; simp at hn ⊢; omega) fun out d hp => wpAny_pure (h _ _ ?_))
    exact (List.Perm.cons _ hp).trans (erase_perm hi)

theorem pick_perm {α : Type} (next : Nat → Nat) (xs : Array α) : (pickOrder next xs).toList.Perm xs.toList := by
  have key : ∀ (fuel k : Nat) (left : List α) (out : Array α), left.length = fuel → (pickOrder.go next fuel k left out).toList.Perm (out.toList ++ left) := by
    intro fuel
    induction fuel with
    | zero => intro k left out h; rw [List.eq_nil_of_length_eq_zero h]; unfold pickOrder.go; simp
    | succ n ih =>
      intro k left out h
      unfold pickOrder.go
      have hi : next k % left.length < left.length := Nat.mod_lt _ (by omega)
      rw [List.getElem?_eq_getElem hi]
      dsimp only
      refine (ih _ _ _ (by rw [List.length_eraseIdx_of_lt hi]; omega)).trans ?_
      rw [Array.toList_push, List.append_assoc]
      exact List.Perm.append_left _ (erase_perm hi)
  have := key xs.size 0 xs.toList #[] (by simp)
  simpa [pickOrder] using this

/-- a set of strs -/
structure StrSetO (prog : Program) (w : World) (o : Obj) (es : Array (Int × Value)) (ep : Nat) (t : SetTable) (ks : List Str) : Prop where
  exact : o.ExactSet
  data : o.data = .set es ep t
  fits : t.fits es.size = true
  small : es.size < scanBound
  elems : ElemsOf (strKind prog w) es.toList
  keys : StrsAre (es.toList.map (·.2)) ks
  nd : ks.Nodup
  led : w.params.followText "set-order" = false → t.led = true
  plain : es.size ≠ 0 → t.plain = false

theorem strsAre_mem {vs : List Value} {ks : List Str} (h : StrsAre vs ks) : ∀ k, k ∈ ks ↔ ∃ v ∈ vs, (strKind prog w).is k v = true := by
  induction h with
  | nil => exact fun k => ⟨fun h => absurd h List.not_mem_nil, fun ⟨_, h, _⟩ => absurd h List.not_mem_nil⟩
  | cons x t h ih =>
    intro k
    rw [List.mem_cons, ih k]
    constructor
    · rintro (rfl | ⟨v, hv, e⟩)
      · exact ⟨_, List.mem_cons_self .., by show (Value.isStrOf k (.str k t)) = true; simp [Value.isStrOf]⟩
      · exact ⟨v, List.mem_cons_of_mem _ hv, e⟩
    · rintro ⟨v, hv, e⟩
      rcases List.mem_cons.mp hv with rfl | hv
      · exact .inl ((strKind prog w).inj _ _ _ e (by show (Value.isStrOf x (.str x t)) = true; simp [Value.isStrOf]))
      · exact .inr ⟨v, hv, e⟩
theorem StrSetO.mem {o : Obj} {es : Array (Int × Value)} {ep : Nat} {t : SetTable} {ks : List Str} (h : StrSetO prog w o es ep t ks) (k : Str) : k ∈ ks ↔ ∃ e ∈ es.toList, (strKind prog w).is k e.2 = true := by
  rw [strsAre_mem (prog := prog) (w := w) h.keys]
  constructor
  · rintro ⟨v, hv, e⟩
    obtain ⟨e', he, rfl⟩ := List.mem_map.mp hv
    exact ⟨e', he, e⟩
  · rintro ⟨e', he, e⟩
    exact ⟨_, List.mem_map_of_mem he, e⟩

theorem relay_led (t : SetTable) (es : Array (Int × Value)) (n : Nat) : (relayAll t es n).2.1.led = t.led ∧ (t.plain = false → (relayAll t es n).2.1.plain = false) := by
  unfold relayAll
  split
  · rename_i t' order heq
    have ht : t'.led = t.led ∧ t'.plain = t.plain := by
      unfold SetTable.relaid SetTable.laid at heq
      obtain ⟨ow, h1, h2⟩ := Option.bind_eq_some_iff.mp heq
      cases h2; exact ⟨rfl, rfl⟩
    dsimp only
    split
    · exact ⟨ht.1, fun h => by rw [ht.2]; exact h⟩
    · exact ⟨rfl, fun _ => rfl⟩
  · exact ⟨rfl, fun _ => rfl⟩
theorem lay_led (t : SetTable) (es : Array (Int × Value)) (h : Int) (x : Value) : (layNew t es h x).2.1.led = t.led ∧ (t.plain = false → (layNew t es h x).2.1.plain = false) := by
  unfold layNew
  split
  · dsimp only
    unfold SetTable.orStandIn
    split
    · exact ⟨rfl, fun h => h⟩
    · exact ⟨rfl, fun _ => rfl⟩
  · exact ⟨rfl, fun _ => rfl⟩

theorem StrSetO.nil {o : Obj} {led : Bool} (hl : w.params.followText "set-order" = false → led = true) (hex : o.ExactSet) (hd : o.data = .set #[] 0 (.fresh 0 0 led)) : StrSetO prog w o #[] 0 (.fresh 0 0 led) [] where
  exact := hex
  data := hd
  fits := by rfl
  small := by show 0 < scanBound; unfold scanBound; omega
  elems := fun e he => by simp at he
  keys := .nil
  nd := .nil
  led := hl
  plain := fun h => absurd rfl h

theorem strsAre_app {vs us : List Value} {ks ls : List Str} (a : StrsAre vs ks) (b : StrsAre us ls) : StrsAre (vs ++ us) (ks ++ ls) := by
  induction a with
  | nil => exact b
  | cons x t r ih => exact .cons x t ih
theorem strsAre_at {vs : List Value} {ss : List Str} (a : StrsAre vs ss) : ∀ (i : Nat) (v : Value), vs[i]? = some v → ∃ t, v = .str (ss.getD i noS') t := by
  induction a with
  | nil => exact fun _ _ h => absurd h (by simp)
  | cons n t hr ih =>
    intro i v h
    cases i with
    | zero => exact ⟨t, (Option.some.inj h).symm⟩
    | succ i => exact ih i v h
theorem strsAre_perm {vs vs' : List Value} {ks : List Str} (h : StrsAre vs ks) (p : vs'.Perm vs) : ∃ ks', StrsAre vs' ks' ∧ ks'.Perm ks := by
  have a := strsAre_map vs' (fun v hv => h.all v (p.mem_iff.mp hv))
  refine ⟨_, a, ?_⟩
  have := p.map strOf
  rwa [h.strs] at this

theorem add_tail {g : Bool → Sem Unit} (hg : ∀ (b : Bool) (s₁ : Shared) (Q' : Unit → Shared → Prop), Q' () s₁ → wpAny (model prog w) A (g b) Q' E s₁)
    {a : Addr} {o : Obj} {es : Array (Int × Value)} {ep : Nat} {t : SetTable} {ks : List Str} (ho : s.heap.get? a = some o) (hs : StrSetO prog w o es ep t ks)
    {es1 : Array (Int × Value)} {t2 : SetTable} {ks1 : List Str} (hel : ElemsOf (strKind prog w) es1.toList) (hk : StrsAre (es1.toList.map (·.2)) ks1) (hnd : ks1.Nodup)
    (hb1 : es1.size < scanBound) (hf2 : t2.fits es1.size = true) (hled : t2.led = t.led) (hpl : t2.plain = false) {wasDummy : Bool} {R : Option Bool → Shared → Prop}
    (h : ∀ h' o' es' ep' t' ks', Heap.SameBut a s.heap h' → h'.get? a = some o' → StrSetO prog w o' es' ep' t' ks' → ks'.Perm ks1 → es'.size = es1.size → R (some true) { s with heap := h' }) :
    wpAny (model prog w) A (do
        storeSet a es1 t2
        if (!wasDummy && t2.tooFull) = true then do
            g (relayAll t2 es1 (SetTable.grown es1.size)).2.2
            storeSet a (relayAll t2 es1 (SetTable.grown es1.size)).1 (relayAll t2 es1 (SetTable.grown es1.size)).2.1
            pure (some true)
          else pure (some true)) R E s := by
  refine wpAny_bind (wpAny_storeSet_of ho hs.data ?_ (fits_of_scanBound hb1))
  have hmem : ∀ k, (fun k => decide (k ∈ ks1)) k = true ↔ ∃ e ∈ es1.toList, (strKind prog w).is k e.2 = true := fun k => by
    rw [decide_eq_true_eq, strsAre_mem (prog := prog) (w := w) hk]
    exact ⟨fun ⟨v, hv, e⟩ => by obtain ⟨e', he, rfl⟩ := List.mem_map.mp hv; exact ⟨e', he, e⟩, fun ⟨e', he, e⟩ => ⟨_, List.mem_map_of_mem he, e⟩⟩
  have ho1 := (SetOf_store (knd := strKind prog w) ho hs.exact hs.data hel hmem hb1 hf2).1
  have hsb1 := Heap.SameBut.update s.heap a (Obj.putSet es1 t2)
  split
  · have hp := relayAll_perm t2 es1 (SetTable.grown es1.size)
    have hfr := relayAll_fits t2 es1 (SetTable.grown es1.size)
    have hrl := relay_led t2 es1 (SetTable.grown es1.size)
    generalize relayAll t2 es1 (SetTable.grown es1.size) = Rl at hp hfr hrl ⊢
    obtain ⟨es2, t3, gave2⟩ := Rl
    dsimp only at hp hfr hrl ⊢
    have hsz : es2.size = es1.size := by rw [← Array.length_toList, hp.length_eq, Array.length_toList]
    have hb2 : es2.size < scanBound := by rw [hsz]; exact hb1
    have hel2 : ElemsOf (strKind prog w) es2.toList := hel.perm hp
    obtain ⟨ks2, hk2, hkp⟩ := strsAre_perm hk (hp.map (·.2))
    refine wpAny_bind (hg _ _ _ ?_)
    refine wpAny_bind (wpAny_storeSet_of ho1 rfl ?_ (fits_of_scanBound hb2))
    have ho2 := (SetOf_store (knd := strKind prog w) (S' := fun k => decide (k ∈ ks1)) ho1 hs.exact rfl hel2 (fun k => (hmem k).trans ⟨fun ⟨e, he, q⟩ => ⟨e, hp.mem_iff.mpr he, q⟩, fun ⟨e, he, q⟩ => ⟨e, hp.mem_iff.mp he, q⟩⟩) hb2 hfr).1
    exact wpAny_pure (h _ _ es2 _ t3 ks2 (hsb1.trans (Heap.SameBut.update _ a _)) ho2 ⟨hs.exact, rfl, hfr, hb2, hel2, hk2, hkp.nodup_iff.mpr hnd, fun e => by rw [hrl.1, hled]; exact hs.led e, fun _ => hrl.2 hpl⟩ hkp hsz)
  · exact wpAny_pure (h _ _ es1 _ t2 ks1 hsb1 ho1 ⟨hs.exact, rfl, hf2, hb1, hel, hk, hnd, fun e => by rw [hled]; exact hs.led e, fun _ => hpl⟩ (.refl _) rfl)

theorem set_add_str {a : Addr} {o : Obj} {es : Array (Int × Value)} {ep : Nat} {t : SetTable} {ks : List Str} {k : Str} {tk : Nat} {Q : Bool → Shared → Prop} (ho : s.heap.get? a = some o) (hs : StrSetO prog w o es ep t ks) (hroom : es.size + 1 < scanBound)
    (h : ∀ h' o' es' ep' t' ks', Heap.SameBut a s.heap h' → h'.get? a = some o' → StrSetO prog w o' es' ep' t' ks' → (∀ x, x ∈ ks' ↔ x ∈ ks ∨ x = k) → es'.size ≤ es.size + 1 → ∀ b, Q b { s with heap := h' }) :
    wpAny (model prog w) A (setAddHashed a (.str k tk) ((strKind prog w).hash k)) Q E s := by
  have hkey : (strKind prog w).is k (.str k tk) = true := by show (Value.isStrOf k (.str k tk)) = true; simp [Value.isStrOf]
  unfold setAddHashed setAddHashedIn
  refine wpAny_holding (wpAny_bind (wpAny_setState_of ho hs.data hs.fits ?_))
  dsimp only
  rw [byScan_of (knd := strKind prog w) rfl hs.small hs.elems]
  simp only [↓reduceIte]
  unfold setAddByScan
  refine wpAny_bind ?_
  refine wpAny_bind (wpAny_rule ?_)
  refine wpAny_bind (wpAny_setScan_of hkey ho hs.data hs.fits hs.elems ?_)
  cases hr : List.findIdx? (fun e => (strKind prog w).is k e.2) es.toList with
  | some j =>
    dsimp only
    obtain ⟨hj, hpj, _⟩ := List.findIdx?_eq_some_iff_getElem.mp hr
    have hmk : k ∈ ks := (hs.mem k).mpr ⟨es.toList[j], List.getElem_mem hj, hpj⟩
    refine wpAny_pure (wpAny_pure ?_)
    have e : s = { s with heap := s.heap } := by cases s; rfl
    rw [e]
    exact h s.heap o es ep t ks (Heap.SameBut.refl a s.heap) ho hs (fun x => ⟨.inl, fun q => q.elim id fun q => by rw [q]; exact hmk⟩) (Nat.le_succ _) _
  | none =>
    dsimp only
    have hnk : k ∉ ks := fun hm => by
      obtain ⟨e, he, hp⟩ := (hs.mem k).mp hm
      have := List.findIdx?_eq_none_iff.mp hr e he
      rw [hp] at this; cases this
    have hgw : ∀ (b : Bool) (s₁ : Shared) (Q' : Unit → Shared → Prop), Q' () s₁ → wpAny (model prog w) A (match b with | true => rule "set.scan.the-table-gave-way" | false => pure ()) Q' E s₁ :=
      fun b s₁ Q' hq => by cases b <;> first | exact wpAny_pure hq | exact wpAny_rule hq
    have hperm := layNew_perm t es ((strKind prog w).hash k) (.str k tk)
    have hfits := layNew_fits t es ((strKind prog w).hash k) (.str k tk)
    have hled := lay_led t es ((strKind prog w).hash k) (.str k tk)
    generalize layNew t es ((strKind prog w).hash k) (.str k tk) = L at hperm hfits hled ⊢
    obtain ⟨es1, t1, wasDummy, gave⟩ := L
    dsimp only at hperm hfits hled ⊢
    rw [Array.toList_push] at hperm
    have hel1 : ElemsOf (strKind prog w) es1.toList := (hs.elems.push hkey rfl).perm hperm
    have hk0 : StrsAre ((es.toList ++ [((strKind prog w).hash k, Value.str k tk)]).map (·.2)) (ks ++ [k]) := by
      rw [List.map_append]; exact strsAre_app hs.keys (.cons k tk .nil)
    obtain ⟨ks1, hk1, hkp⟩ := strsAre_perm hk0 (hperm.map (·.2))
    have hnd1 : ks1.Nodup := hkp.nodup_iff.mpr (by
      rw [List.nodup_append]
      refine ⟨hs.nd, by simp, fun x hx y hy => ?_⟩
      rw [List.mem_singleton] at hy; subst hy
      exact fun e => hnk (e ▸ hx))
    have hsz1 : es1.size = es.size + 1 := by rw [← Array.length_toList, hperm.length_eq, List.length_append, Array.length_toList]; rfl
    have hb1 : es1.size < scanBound := by rw [hsz1]; exact hroom
    have hend : ∀ h' o' es' ep' t' ks', Heap.SameBut a s.heap h' → h'.get? a = some o' → StrSetO prog w o' es' ep' t' ks' → ks'.Perm ks1 → es'.size = es1.size → Q true { s with heap := h' } := by
      intro h' o' es' ep' t' ks' c1 c2 c3 c4 c5
      exact h h' o' es' ep' t' ks' c1 c2 c3 (fun x => by rw [c4.mem_iff, hkp.mem_iff]; simp) (by omega) _
    refine wpAny_bind (hgw _ _ _ ?_)
    split
    · refine wpAny_bind ?_
      rw [hashByValue_scannable 8 (x := Value.str k tk) rfl]
      refine wpAny_pure ?_
      simp only [plainKind, Bool.false_eq_true, ↓reduceIte]
      refine add_tail ?_ ho hs (t2 := { t1 with plain := false }) hel1 hk1 hnd1 hb1 (SetTable.fits_plain_off hfits) hled.1 rfl ?_
      · intro b s₁ Q' hq; cases b <;> first | exact wpAny_pure hq | exact wpAny_rule hq
      · intro h' o' es' ep' t' ks' c1 c2 c3 c4 c5; dsimp only; exact wpAny_pure (hend h' o' es' ep' t' ks' c1 c2 c3 c4 c5)
    · rename_i hpl
      refine wpAny_bind (wpAny_pure ?_)
      simp only [↓reduceIte]
      refine add_tail ?_ ho hs (t2 := t1) hel1 hk1 hnd1 hb1 hfits hled.1 (by simpa using hpl) ?_
      · intro b s₁ Q' hq; cases b <;> first | exact wpAny_pure hq | exact wpAny_rule hq
      · intro h' o' es' ep' t' ks' c1 c2 c3 c4 c5; dsimp only; exact wpAny_pure (hend h' o' es' ep' t' ks' c1 c2 c3 c4 c5)


/-- at a: a set of the strs at the first i places -/
noncomputable def SetAt (prog : Program) (w : World) (h : Heap) (a : Addr) (val : Nat → Str) (i : Nat) : Prop :=
  ∃ o es ep t ks, h.get? a = some o ∧ StrSetO prog w o es ep t ks ∧ (∀ x, x ∈ ks ↔ ∃ j, j < i ∧ val j = x) ∧ es.size ≤ i
theorem SetAt.keep {h h' : Heap} {a : Addr} {val : Nat → Str} {i : Nat} (k : ∀ o, h.get? a = some o → h'.get? a = some o) (hs : SetAt prog w h a val i) : SetAt prog w h' a val i := by
  obtain ⟨o, es, ep, t, ks, h1, h2⟩ := hs
  exact ⟨o, es, ep, t, ks, k _ h1, h2⟩
end

section
variable {prog : Program} {w : World} {A : Around} {R : Result → Shared → Prop} {I : Addr} {fp wr : List Addr} {G : Array GenState → Array GenState → Prop} {n : Nat} {P : Nat → Value → Prop} {St : Nat → Shared → Prop}

theorem set_update_strs (W : WalksS prog w A.in1 I fp wr G n P St) (S : Addr) (hSf : S ∉ fp)
    (val : Nat → Str) (hval : ∀ i v, P i v → ∃ t, v = .str (val i) t) (hb : n + 1 < scanBound) :
    ∀ (k i : Nat) (s : Shared), n - i = k → i ≤ n → St i s → SetAt prog w s.heap S val i →
      (∀ s', Moved (S :: wr) G s s' → SetAt prog w s'.heap S val n → R (.ok (.ret .none)) s') →
      codeAny (model prog w) A (.builtin "set.update.loop" ⟨[.ref S, .ref I], []⟩) R s := by
  have hSw : S ∉ wr := fun h => hSf (W.sub _ h)
  have hsub : ∀ b ∈ wr, b ∈ S :: wr := fun b hb => List.mem_cons_of_mem _ hb
  intro k
  induction k with
  | zero =>
    intro i s hk hi hst hS hR
    have hin : i = n := by omega
    subst hin
    refine codeAny_builtin F.entry_set_update_loop ?_
    rw [Around.under_plainId F.plain_set_update_loop _]
    show wpAny _ A.in1 (pyNext (.ref I) >>= _) _ _ s
    refine wpAny_bind (W.done s _ _ hst fun s' hm => ?_)
    show wpAny _ A.in1 (ret Value.none) _ _ s'
    exact wpAny_pure (hR s' (hm.mono hsub) (hS.keep fun o ho => hm.heap S _ hSw ho))
  | succ k ih =>
    intro i s hk hi hst hS hR
    have hlt : i < n := by omega
    refine codeAny_builtin F.entry_set_update_loop ?_
    rw [Around.under_plainId F.plain_set_update_loop _]
    show wpAny _ A.in1 (pyNext (.ref I) >>= _) _ _ s
    refine wpAny_bind (W.item i s _ _ hlt hst fun v s' hP hst' hm => ?_)
    obtain ⟨t, rfl⟩ := hval i v hP
    obtain ⟨o, es, ep, tb, ks, ho, hs, hks, hsz⟩ := hS
    have ho' := hm.heap S _ hSw ho
    show wpAny _ A.in1 (holding [Value.str (val i) t] (setAdd S (.str (val i) t)) >>= _) _ _ s'
    refine wpAny_bind (wpAny_holding ?_)
    unfold setAdd
    refine wpAny_holding ?_
    refine wpAny_bind ((strKind prog w).pyHash (k := val i) (by show (Value.isStrOf (val i) (.str (val i) t)) = true; simp [Value.isStrOf]) ?_)
    refine set_add_str (s := { s' with toks := s'.toks + 1 }) ho' hs (by omega) fun h' o' es' ep' t' ks' hsb ho2 hs2 hk2 hz2 b => ?_
    have hSi : SetAt prog w h' S val (i + 1) := ⟨o', es', ep', t', ks', ho2, hs2, fun x => by
      rw [hk2, hks]
      constructor
      · rintro (⟨j, hj, e⟩ | rfl)
        · exact ⟨j, by omega, e⟩
        · exact ⟨i, by omega, rfl⟩
      · rintro ⟨j, hj, e⟩
        by_cases hji : j = i
        · subst hji; exact .inr e.symm
        · exact .inl ⟨j, by omega, e⟩, by omega⟩
    refine wpAny_pure ⟨plainId_quiet F.plain_set_update_loop _, ih (i + 1) _ (by omega) hlt (W.frame _ s' _ _ hst' (Nat.le_succ _) fun b hb o e => ?_) hSi fun s'' hm'' hS'' => ?_⟩
    · rw [hsb.2 b (fun h : b = S => hSf (by rw [← h]; exact hb))]; exact e
    · refine hR s'' (Moved.trans W.gtrans ((hm.mono hsub).then_heap (Nat.le_succ _) fun b o hb e => ?_) hm'') hS''
      rw [hsb.2 b (fun h : b = S => hb (by rw [h]; exact List.mem_cons_self))]; exact e
end

section
variable {prog : Program} {w : World} {A : Around} {E : Value → Shared → Prop} {s : Shared}

theorem set_new_led (a : Value) {Q₁ : Value → Shared → Prop}
    (h : Q₁ (.ref s.heap.objs.size) { s with heap := s.heap.push { cls := .type "set", dict := none, data := .set #[] 0 (.fresh 0 0 (!w.params.followText "set-order")) } }) :
    codeAny (model prog w) A (.call (.builtin "set.__new__") ⟨[.type "set", a], []⟩) (wants Q₁ E) s := by
  refine codeAny_of_tree ?_
  show wpAny _ A.in1 (do checkBuiltinCall "set.__new__" ⟨[.type "set", a], []⟩; again (.builtin "set.__new__" ⟨[.type "set", a], []⟩)) _ _ s
  refine wpAny_bind (wpAny_of_eq (F.newCall_set_1 a) (wpAny_pure ⟨plainId_quiet F.plain_set_new _, codeAny_builtin F.entry_set_new ?_⟩))
  rw [Around.under_plainId F.plain_set_new _]
  unfold Builtin.«set.__new__» Builtin.Frozenset.newClass
  have hsub := sub_set_self
  obtain ⟨hp, g, d, tk, os⟩ := s
  dsimp only
  repeat (first | (with_reducible first | refine wpAny_pure ?_ | refine wpAny_bind ?_ | refine wpAny_of_eq (by assumption) ?_) | ((with_reducible apply wpAny_ite_false); focus (rfl; done)) | wp_delta)
  refine wpAny_askSetting (wpAny_pure ?_)
  dsimp only
  simp only [newObj]
  refine wpAny_bind (wpAny_alloc (wpAny_pure ?_))
  exact wpAny_pure h

theorem call_set_strs {l : Addr} {items : Array Value} {ss : List Str} {Q : Value → Shared → Prop}
    (hh : A.handled = none) (hl : s.heap.IsList l items) (hi : StrsAre items.toList ss) (hb : items.size + 1 < scanBound)
    (h : ∀ (h' : Heap) (tk : Nat), SetAt prog w h' s.heap.objs.size (fun i => ss.getD i noS') items.size →
      (∀ b o, b < s.heap.objs.size → s.heap.get? b = some o → h'.get? b = some o) → Q (.ref s.heap.objs.size) { s with heap := h', toks := tk }) :
    wpAny (model prog w) A (call (.type "set") [.ref l]) Q E s := by
  obtain ⟨c, tl, hmro⟩ := F.called_set.mro
  have hmade := F.called_set.made
  have hsub := F.called_set.sub
  generalize hled : (!w.params.followText "set-order") = led
  refine wpAny_call (codeAny_of_tree ?_)
  show wpAny _ _ (callAny (.type "set") _) _ _ _
  refine wpAny_pure ⟨Code.quiet_builtin _ (by decide +kernel), codeAny_builtin F.entry_type_call ?_⟩
  rw [Around.under_plain (weight_type_call_type "set" [.ref l] []) rfl]
  have h1 := F.called_set.notType
  have h2 := F.called_set.canCreate
  have hct := F.typeCall_set_1 (.ref l)
  repeat (any_goals (first | assumption | (first | (with_reducible first | refine wpAny_pure ?_ | refine wpAny_bind ?_ | refine wpAny_holding ?_ | refine wpAny_of_eq (by assumption) ?_ | refine wpAny_call ?_) | ((with_reducible apply wpAny_ite_false); focus (rfl; done)) | wp_delta)))
  refine codeAny_mono (set_new_led (.ref l) (E := E) (Q₁ := fun obj s₁ => obj = .ref s.heap.objs.size ∧ s₁ = { s with heap := s.heap.push { cls := .type "set", dict := none, data := .set #[] 0 (.fresh 0 0 led) } }) (by rw [hled]; exact ⟨rfl, rfl⟩)) fun r s₁ hr => ?_
  cases r with
  | error e => exact hr
  | ok fl =>
    cases fl with
    | ret obj =>
      obtain ⟨rfl, rfl⟩ := hr
      have hS : (s.heap.push { cls := .type "set", dict := none, data := .set #[] 0 (.fresh 0 0 led) }).get? s.heap.objs.size = some { cls := .type "set", dict := none, data := .set #[] 0 (.fresh 0 0 led) } := Heap.get?_push_size _ rfl
      have hT : Shared.TypeIs { s with heap := s.heap.push { cls := .type "set", dict := none, data := .set #[] 0 (.fresh 0 0 led) } } (.ref s.heap.objs.size) "set" := ⟨_, hS, rfl⟩
      have hli := F.called_set.init.lookup
      have hbi := F.called_set.init.bind (.ref s.heap.objs.size)
      repeat (any_goals (first | assumption | (first | (with_reducible first | refine wpAny_bind ?_ | refine wpAny_holding ?_ | refine wpAny_of_eq (by assumption) ?_ | refine wpAny_specialOf (by assumption) (by assumption) ?_ | refine wpAny_isInstance (by assumption) (by assumption) ?_ | refine wpAny_call ?_) | ((with_reducible apply wpAny_ite_false); focus (rfl; done)) | wp_delta)))
      refine codeAny_mono (codeAny_call_builtin (R := wants (fun r s₂ => r = .none ∧ ∃ h' tk, s₂ = { s with heap := h', toks := tk } ∧
          SetAt prog w h' s.heap.objs.size (fun i => ss.getD i noS') items.size ∧
          (∀ b o, b < s.heap.objs.size → s.heap.get? b = some o → h'.get? b = some o)) E) F.called_set.init.plain F.entry_set_init (check_set_init_1 hT ?_)) fun r₂ s₂ hr₂ => ?_
      · obtain ⟨ol, hol, hcl, nl, hdl⟩ := hl
        obtain ⟨ocls, odict, odata, oslots⟩ := ol
        simp only at hcl hdl
        subst hcl; subst hdl
        have hol' : (s.heap.push { cls := .type "set", dict := none, data := .set #[] 0 (.fresh 0 0 led) }).get? l = some { cls := .type "list", dict := odict, data := .seq items nl, slots := oslots } := Heap.get?_push_of_some _ hol
        have hsls := F.sub_list_set
        have hslf := F.sub_list_frozenset
        have hne : (Value.type "list" == Value.type "dict") = false := by decide
        have hl1 : (s.heap.push { cls := .type "set", dict := none, data := .set #[] 0 (.fresh 0 0 led) }).IsList l items := ⟨_, hol', rfl, nl, rfl⟩
        unfold Builtin.«set.__init__» noKeywords Builtin.Frozenset.updateFrom
        generalize hPI : pyIter = PI
        repeat (first | (with_reducible first | refine wpAny_pure ?_ | refine wpAny_bind ?_ | refine wpAny_of_eq (by assumption) ?_ | refine wpAny_typeOf (by assumption) ?_) | ((with_reducible apply wpAny_load'); focus (heap_get; done)) | ((with_reducible apply wpAny_loadPart'); focus (heap_get; done)) | ((with_reducible apply wpAny_ite_false); focus (rfl; done)) | ((with_reducible apply wpAny_ite_true); focus (rfl; done)) | wp_delta)
        subst hPI
        refine wpAny_pyIter_list hl1 ?_
        refine wpAny_bind (wpAny_runValue ?_)
        have hlS : l < s.heap.objs.size := Heap.lt_size hol
        have hh3 : A.in1.in1.in1.handled = none := by simp [hh]
        have hneI : l ≠ (s.heap.push { cls := .type "set", dict := none, data := .set #[] 0 (.fresh 0 0 led) }).objs.size := by
          rw [Heap.size_push]; exact Nat.ne_of_lt (Nat.lt_succ_of_lt hlS)
        have hSf : s.heap.objs.size ∉ [(s.heap.push { cls := .type "set", dict := none, data := .set #[] 0 (.fresh 0 0 led) }).objs.size, l] := by
          rw [Heap.size_push]; simp only [List.mem_cons, List.mem_singleton, List.not_mem_nil, or_false, not_or]
          exact ⟨Nat.ne_of_lt (Nat.lt_succ_self _), Nat.ne_of_gt hlS⟩
        refine set_update_strs ((Walks.list hh3 _ l hneI items).toS) s.heap.objs.size
          hSf (fun i => ss.getD i noS') (fun i v hv => strsAre_at hi i v (by rw [Array.getElem?_toList]; exact hv)) hb (items.size - 0) 0 _ (by omega) (Nat.zero_le _)
          ⟨⟨_, Heap.get?_push_size _ rfl, rfl, rfl⟩, (hl1.push _)⟩ ?hS0 ?hR
        case hS0 =>
          have hget : ((s.heap.push { cls := .type "set", dict := none, data := .set #[] 0 (.fresh 0 0 led) }).push { cls := .type "list_iterator", data := .fields #[.ref l, .int 0 0] }).get? s.heap.objs.size
              = some { cls := .type "set", dict := none, data := .set #[] 0 (.fresh 0 0 led) } := Heap.get?_push_of_some _ hS
          exact ⟨_, _, _, _, _, hget, StrSetO.nil (fun e => by rw [← hled, e]; rfl) ⟨rfl, rfl, rfl⟩ rfl, fun x => by simp, Nat.le_refl _⟩
        case hR =>
          intro s' hm hS'
          obtain ⟨h', g', d', tk', os'⟩ := s'
          have eg : g' = s.gens := hm.gens
          have ed : d' = s.drawn := hm.drawn
          have eo : os' = s.os := hm.os
          subst eg; subst ed; subst eo
          show wpAny _ _ _ _ _ _
          refine wpAny_pure ?_
          show wpAny _ _ (ret Value.none) _ _ _
          refine wpAny_pure ⟨rfl, h', tk', rfl, hS', fun b o hb e => ?_⟩
          have hb1 : b ≠ s.heap.objs.size := Nat.ne_of_lt hb
          have hb2 : b ≠ (s.heap.push { cls := .type "set", dict := none, data := .set #[] 0 (.fresh 0 0 led) }).objs.size := by
            rw [Heap.size_push]; exact Nat.ne_of_lt (Nat.lt_succ_of_lt hb)
          exact hm.heap b o (by simp only [List.mem_cons, List.mem_singleton, List.not_mem_nil, or_false, not_or]; exact ⟨hb1, hb2⟩) (Heap.get?_push_of_some _ (Heap.get?_push_of_some _ e))
      · cases r₂ with
        | error e => exact hr₂
        | ok fl₂ =>
          cases fl₂ with
          | ret r =>
            obtain ⟨rfl, h', tk, rfl, hS', hk'⟩ := hr₂
            repeat (any_goals (first | assumption | (first | (with_reducible first | refine wpAny_pure ?_) | ((with_reducible apply wpAny_ite_false); focus (rfl; done)) | wp_delta)))
            exact h _ _ hS' hk'
          | _ => exact hr₂.elim
    | _ => exact hr.elim
end

end Mine
end

section
open PySem PySem.W PyProof.Rows PySem.Calls PySem.Spec
namespace Mine
set_option maxRecDepth 100000
set_option maxHeartbeats 8000000

section
variable {prog : Program} {w : World} {A : Around} {E : Value → Shared → Prop} {s : Shared}

noncomputable abbrev itO (first : Value) (i a n ep : Nat) : Obj := { cls := .type "set_iterator", data := .fields #[first, .int i 0, .ref a, .int n 0, .int ep 0] }

/-- an iterator of a set, at place i: out is what it gives -/
noncomputable def SetIt (w : World) (I a P : Addr) (o : Obj) (es : Array (Int × Value)) (ep : Nat) (t : SetTable) (out : List Value) (i : Nat) (h : Heap) : Prop :=
  h.get? a = some o ∧ ((∃ (ord : List Nat) (oP : Obj) (e : Nat), h.get? I = some (itO (.ref P) i a es.size ep) ∧ h.get? P = some oP ∧ oP.data = .seq (ord.map fun (n : Nat) => rawInt n).toArray e ∧ ord.length = es.size ∧
      (∀ (j : Nat) (v : Value), out[j]? = some v → ∃ (p : Nat) (e : Int × Value), ord[j]? = some p ∧ es[p]? = some e ∧ e.2 = v))
    ∨ (w.params.followText "set-order" = true ∧ h.get? I = some (itO (.int 0 0) i a es.size ep) ∧ out = (pickOrder (w.params.setOrder a ep) es).toList.map (·.2))
    ∨ (w.params.followText "set-order" = false ∧ es.size = 1 ∧ out = es.toList.map (·.2) ∧ ∃ sl : Nat, h.get? I = some (itO (.int sl 0) i a es.size ep) ∧ SetTable.below t.place sl = i))

theorem iter_set {a : Addr} {o : Obj} {es : Array (Int × Value)} {ep : Nat} {t : SetTable} {ks : List Str} {Q : Value → Shared → Prop} (ho : s.heap.get? a = some o) (hs : StrSetO prog w o es ep t ks) (hne : es.size ≠ 0)
    (h : ∀ I P h' d out, s.heap.objs.size ≤ I → (P = a ∨ s.heap.objs.size ≤ P) → P ≠ I → I < h'.objs.size → P < h'.objs.size → (∀ b o, s.heap.get? b = some o → h'.get? b = some o) → s.heap.objs.size ≤ h'.objs.size → out.Perm (es.toList.map (·.2)) →
      SetIt w I a P o es ep t out 0 h' → Q (.ref I) { s with heap := h', drawn := d }) :
    wpAny (model prog w) A (pyIter (.ref a)) Q E s := by
  have hT : s.TypeIs (.ref a) "set" := ⟨o, ho, hs.exact.1⟩
  refine wpAny_pyIter_slot hT F.slot_set_iter (wpAny_call_entry F.slot_set_iter hT entry_set_iter' ?_ (F.args_set_iter_1 _))
  unfold Builtin.«frozenset.__iter__» Builtin.Frozenset.slot0 slotArgs
  unfold Builtin.Frozenset.addrOf Builtin.Frozenset.sizeOf
  refine wpAny_bind (wpAny_bind (show wpAny _ _ (pure (Value.ref a, ([] : List Value))) _ _ _ from wpAny_pure ?_))
  dsimp only
  refine wpAny_pure ?_
  refine wpAny_bind (wpAny_bind (wpAny_setEntries_of ho hs.data hs.fits (wpAny_pure ?_)))
  unfold setDrawn setsByText
  refine wpAny_bind (wpAny_bind (wpAny_setState_of ho hs.data hs.fits ?_))
  dsimp only
  refine wpAny_bind (wpAny_bind (wpAny_askSetting (wpAny_pure ?_)))
  refine wpAny_pure ?_
  show wpAny _ _ (if (!w.params.followText "set-order" && (!t.plain && decide (es.size > 1))) = true then _ else _) _ _ _
  have hplain := hs.plain hne
  by_cases hc : w.params.followText "set-order" = false ∧ 1 < es.size
  · rw [if_pos (by rw [hc.1, hplain]; simp [hc.2])]
    refine wpAny_bind (v_drawOrder _ _ _ _ List.length_range fun ord d hp => ?_)
    have hlen : ord.length = es.size := by rw [hp.length_eq, List.length_range]
    have hsm := fits_of_scanBound hs.small
    refine wpAny_bind (wpAny_newTuple ?_ (by rw [List.length_map, hlen]; exact hsm))
    have k1 : ∀ b ob, s.heap.get? b = some ob → (s.heap.push (seqObj "tuple" (ord.map fun (n : Nat) => rawInt n).toArray 0)).get? b = some ob := fun b ob e => Heap.get?_push_of_some _ e
    refine wpAny_bind (wpAny_setEpoch_of (k1 _ _ ho) hs.data hs.fits ?_)
    have k2 : ∀ (x : Obj) b ob, s.heap.get? b = some ob → ((s.heap.push (seqObj "tuple" (ord.map fun (n : Nat) => rawInt n).toArray 0)).push x).get? b = some ob := fun x b ob e => Heap.get?_push_of_some _ (k1 b ob e)
    refine wpAny_bind (wpAny_newObj_type (wpAny_pure ⟨_, rfl, "set_iterator", _, ⟨_, Heap.get?_push_size _ rfl, rfl⟩, slot_setiter_next.lookup, ?_⟩))
    refine h _ s.heap.objs.size _ d ((ord.filterMap fun (p : Nat) => es[p]?).map (·.2)) ?_ (.inr (Nat.le_refl _)) ?_ ?_ ?_ (k2 _) ?_ ?_ ⟨k2 _ _ _ ho, .inl ⟨ord, _, 0, Heap.get?_push_size _ rfl, Heap.get?_push_of_some _ (Heap.get?_push_size _ rfl), rfl, hlen, fun j v hv => ?_⟩⟩
    · rw [Heap.size_push]; exact Nat.le_succ _
    · rw [Heap.size_push]; exact Nat.ne_of_lt (Nat.lt_succ_self _)
    · simp only [Heap.size_push]; omega
    · simp only [Heap.size_push]; exact Nat.lt_succ_of_lt (Nat.lt_succ_self _)
    · simp only [Heap.size_push]; omega
    · refine List.Perm.map _ ?_
      have := hp.filterMap (fun (p : Nat) => es[p]?)
      rwa [filterMap_getElem?_range] at this
    · have hall : ∀ p ∈ ord, p < es.size := fun p hp' => List.mem_range.mp (hp.mem_iff.mp hp')
      have hfm : ord.filterMap (fun (p : Nat) => es[p]?) = ord.map fun (p : Nat) => es.getD p (0, Value.none) := by
        clear hp hlen hv k1 k2
        induction ord with
        | nil => rfl
        | cons p r ih =>
          have hp := hall p (.head _)
          rw [List.filterMap_cons, Array.getElem?_eq_getElem hp, List.map_cons, ih fun q hq => hall q (.tail _ hq)]
          simp [Array.getD, hp]
      rw [hfm, List.map_map, List.getElem?_map] at hv
      obtain ⟨p, hp1, hp2⟩ := Option.map_eq_some_iff.mp hv
      have hpl := hall p (List.mem_of_getElem? hp1)
      exact ⟨p, es[p], hp1, Array.getElem?_eq_getElem hpl, by rw [← hp2]; simp [Array.getD, hpl]⟩
  · rw [if_neg (by rw [hplain]; simp only [Bool.not_false, Bool.true_and, Bool.and_eq_true, Bool.not_eq_true', decide_eq_true_eq]; exact hc)]
    refine wpAny_bind (wpAny_pure ?_)
    refine wpAny_bind (wpAny_setEpoch_of ho hs.data hs.fits ?_)
    refine wpAny_bind (wpAny_newObj_type (wpAny_pure ⟨_, rfl, "set_iterator", _, ⟨_, Heap.get?_push_size _ rfl, rfl⟩, slot_setiter_next.lookup, ?_⟩))
    have k2 : ∀ (x : Obj) b ob, s.heap.get? b = some ob → (s.heap.push x).get? b = some ob := fun x b ob e => Heap.get?_push_of_some _ e
    have fin : ∀ out : List Value, out.Perm (es.toList.map (·.2)) → SetIt w s.heap.objs.size a a o es ep t out 0 (s.heap.push (itO (rawInt 0) 0 a es.size ep)) → Q (.ref s.heap.objs.size) { s with heap := s.heap.push (itO (rawInt 0) 0 a es.size ep) } := fun out hp hi =>
      h _ a _ s.drawn out (Nat.le_refl _) (.inl rfl) (Nat.ne_of_lt (Heap.lt_size ho)) (by rw [Heap.size_push]; exact Nat.lt_succ_self _) (by rw [Heap.size_push]; exact Nat.lt_succ_of_lt (Heap.lt_size ho)) (k2 _) (by rw [Heap.size_push]; exact Nat.le_succ _) hp hi
    cases hbt : w.params.followText "set-order" with
    | true => exact fin _ ((pick_perm _ _).map _) ⟨k2 _ _ _ ho, .inr (.inl ⟨hbt, Heap.get?_push_size _ rfl, rfl⟩)⟩
    | false =>
      have h1 : es.size = 1 := by
        have : ¬ 1 < es.size := fun q => hc ⟨hbt, q⟩
        omega
      refine fin _ (.refl _) ⟨k2 _ _ _ ho, .inr (.inr ⟨hbt, h1, rfl, 0, Heap.get?_push_size _ rfl, ?_⟩)⟩
      have hf := hs.fits
      simp only [SetTable.fits, Bool.and_eq_true, beq_iff_eq] at hf
      unfold SetTable.below
      rw [hf.1, h1]
      unfold SetTable.below.go
      simp [SetTable.below.go]

theorem below_one : ∀ (xs : Array Nat) (h : xs.size = 1), SetTable.below xs (xs[0] + 1) = 1
  | ⟨[x]⟩, _ => by simp [SetTable.below, SetTable.below.go]
theorem raise_stop {Q : Option Value → Shared → Prop} {QF : PySem.Fin → Shared → Prop} (hh : A.handled = none) (h : ∀ h', (∀ b o, s.heap.get? b = some o → h'.get? b = some o) → Q none { s with heap := h' }) :
    wpAny (model prog w) A.in1 (do let e ← newExc (.type "StopIteration") []; raiseNew e) QF
      (fun e s' => wpAny (model prog w) A (do let r ← isInstance e (.type "StopIteration"); if r = true then pure none else throw e) Q E s') s := by
  refine wpAny_bind ?_
  simp only [newExc, newTuple]
  refine wpAny_bind (wpAny_newObj_type ?_ (by size_fits))
  refine wpAny_bind (m := firstArgMember _ _) (wpAny_of_eq (a := Value.none) (by first | rfl | (simp only [firstArgMember]; rfl)) ?_)
  refine wpAny_newObj_type ?_ (by size_fits)
  simp only [raiseNew]
  refine wpAny_bind (wpAny_handled ?_)
  rw [show A.in1.handled = none from hh]
  refine wpAny_bind (wpAny_pure (wpAny_throw ?_))
  refine wpAny_bind (wpAny_isInstance (T := "StopIteration") (b := true) ⟨_, Heap.get?_push_size _ rfl, rfl⟩ isSubtype_stop ?_)
  exact wpAny_pure (h _ fun b o e => Heap.get?_push_of_some _ (Heap.get?_push_of_some _ e))

theorem set_next {I a P : Addr} {o : Obj} {es : Array (Int × Value)} {ep : Nat} {t : SetTable} {ks : List Str} {out : List Value} {i : Nat} {Q : Option Value → Shared → Prop} (hh : A.handled = none) (hs : StrSetO prog w o es ep t ks) (hIa : I ≠ a) (hIP : I ≠ P) (hlen : out.length = es.size)
    (hI : SetIt w I a P o es ep t out i s.heap)
    (hitem : ∀ v h' tk, out[i]? = some v → SetIt w I a P o es ep t out (i + 1) h' → (∀ b o, b ≠ I → s.heap.get? b = some o → h'.get? b = some o) → s.toks ≤ tk → Q (some v) { s with heap := h', toks := tk })
    (hdone : ∀ h' tk, out[i]? = none → (∀ b o, b ≠ I → s.heap.get? b = some o → h'.get? b = some o) → s.toks ≤ tk → Q none { s with heap := h', toks := tk }) (hi : i ≤ es.size) :
    wpAny (model prog w) A (pyNext (.ref I)) Q E s := by
  obtain ⟨ho, hcase⟩ := hI
  obtain ⟨first, hF, hcase2⟩ : ∃ first, s.heap.get? I = some (itO first i a es.size ep) ∧ ((∃ (ord : List Nat) (oP : Obj) (e : Nat), first = .ref P ∧ s.heap.get? P = some oP ∧ oP.data = .seq (ord.map fun (n : Nat) => rawInt n).toArray e ∧ ord.length = es.size ∧
      (∀ (j : Nat) (v : Value), out[j]? = some v → ∃ (p : Nat) (e : Int × Value), ord[j]? = some p ∧ es[p]? = some e ∧ e.2 = v))
    ∨ (w.params.followText "set-order" = true ∧ first = .int 0 0 ∧ out = (pickOrder (w.params.setOrder a ep) es).toList.map (·.2))
    ∨ (w.params.followText "set-order" = false ∧ es.size = 1 ∧ out = es.toList.map (·.2) ∧ ∃ sl : Nat, first = .int sl 0 ∧ SetTable.below t.place sl = i)) := by
    rcases hcase with ⟨ord, oP, e, h1, h2⟩ | ⟨h0, h1, h2⟩ | ⟨h0, h1, h2, sl, h3, h4⟩
    · exact ⟨_, h1, .inl ⟨ord, oP, e, rfl, h2⟩⟩
    · exact ⟨_, h1, .inr (.inl ⟨h0, rfl, h2⟩)⟩
    · exact ⟨_, h3, .inr (.inr ⟨h0, h1, h2, sl, rfl, h4⟩)⟩
  have hT : s.TypeIs (.ref I) "set_iterator" := ⟨_, hF, rfl⟩
  unfold pyNext
  refine wpAny_bind (wpAny_attempt (wpAny_callSpecial?_slot (name := Str.ofString "__next__") hT slot_setiter_next (wpAny_call_entry slot_setiter_next hT entry_setiter_next ?_ (args_setiter_next _))))
  unfold Builtin.«set_iterator.__next__» slotArgs
  refine wpAny_bind (show wpAny _ _ (pure (Value.ref I, ([] : List Value))) _ _ _ from wpAny_pure ?_)
  dsimp only
  unfold fieldsOf
  refine wpAny_bind (wpAny_bind (wpAny_load hF (wpAny_pure ?_)))
  dsimp only
  refine wpAny_bind (wpAny_setEntries_of ho hs.data hs.fits ?_)
  rw [if_neg (by simp)]
  have upd : ∀ {h0 : Heap} (g : Array Value → Array Value) b o, b ≠ I → h0.get? b = some o → (h0.update I (Obj.mapFields g)).get? b = some o := fun g b o hb e => (Heap.get?_update_other _ _ (Ne.symm hb)).trans e
  have aI : a ≠ I := Ne.symm hIa
  have PI : P ≠ I := Ne.symm hIP
  rcases hcase2 with ⟨ord, oP, e, rfl, hP, hPd, hol, hout⟩ | ⟨h0, rfl, hout⟩ | ⟨h0, h1, hout, sl, rfl, hbel⟩
  · dsimp only
    refine wpAny_bind (wpAny_seqItems hP hPd ?_)
    dsimp only
    rw [Int.toNat_natCast]
    by_cases hlt : i < es.size
    · obtain ⟨v, hv⟩ : ∃ v, out[i]? = some v := ⟨_, List.getElem?_eq_getElem (by omega)⟩
      obtain ⟨p, e', hp1, hp2, rfl⟩ := hout i v hv
      have hpl : (ord.map fun (n : Nat) => rawInt n).toArray[i]? = some (.int p 0) := by simp [hp1, rawInt]
      rw [hpl]
      dsimp only
      unfold setNextDrawn
      refine wpAny_bind (wpAny_bind (wpAny_setState_of ho hs.data hs.fits ?_))
      dsimp only
      rw [if_neg (by simp), Int.toNat_natCast, hp2]
      dsimp only
      refine wpAny_pure (wpAny_bind (wpAny_setField (i := 1) hF rfl (by simp) (wpAny_pure ⟨_, rfl, wpAny_pure ?_⟩)))
      refine hitem _ _ s.toks hv ⟨upd _ _ _ aI ho, .inl ⟨ord, oP, e, ?_, upd _ _ _ PI hP, hPd, hol, hout⟩⟩ (fun b o => upd _ b o) (Nat.le_refl _)
      rw [Heap.get?_update_self _ hF rfl]; simp [Obj.mapFields, rawInt]
    · have hpl : (ord.map fun (n : Nat) => rawInt n).toArray[i]? = none := by simp; omega
      rw [hpl]
      dsimp only
      refine wpAny_bind (wpAny_setField (i := 0) hF rfl (by simp) ?_)
      have hF2 := Heap.get?_update_self (Obj.mapFields (·.setIfInBounds 0 (rawInt 0))) hF rfl
      refine wpAny_bind (wpAny_setField hF2 rfl (by simp [Obj.mapFields]) ?_)
      exact raise_stop hh fun h' k => hdone h' s.toks (List.getElem?_eq_none (by omega)) (fun b o hb e => k b o (upd _ b o hb (upd _ b o hb e))) (Nat.le_refl _)
  · dsimp only
    unfold setNext setsByText
    refine wpAny_bind (wpAny_bind (wpAny_setState_of ho hs.data hs.fits ?_))
    dsimp only
    refine wpAny_bind (wpAny_bind (wpAny_askSetting (wpAny_pure ?_)))
    show wpAny _ _ (if w.params.followText "set-order" = true then _ else _) _ _ _
    rw [if_pos h0, if_neg (by simp)]
    unfold setWalk setsByText
    refine wpAny_bind (wpAny_bind (wpAny_setState_of ho hs.data hs.fits ?_))
    dsimp only
    refine wpAny_bind (wpAny_bind (wpAny_askSetting (wpAny_pure ?_)))
    show wpAny _ _ (if w.params.followText "set-order" = true then _ else _) _ _ _
    rw [if_pos h0]
    refine wpAny_bind (wpAny_askSetting ?_)
    refine wpAny_pure (wpAny_pure ?_)
    dsimp only
    rw [Int.toNat_natCast]
    show wpAny _ _ (match Option.map (fun e => (e.2, (0 : Int).toNat)) (pickOrder (w.params.setOrder a ep) es)[i]? with | some (x, next) => _ | none => _) _ _ _
    have hget : out[i]? = (pickOrder (w.params.setOrder a ep) es)[i]?.map (·.2) := by rw [hout, List.getElem?_map, Array.getElem?_toList]
    cases hpk : (pickOrder (w.params.setOrder a ep) es)[i]? with
    | some e' =>
      rw [hpk] at hget
      dsimp only [Option.map]
      refine wpAny_bind (wpAny_setField (i := 0) hF rfl (by simp) ?_)
      have hF2 := Heap.get?_update_self (Obj.mapFields (·.setIfInBounds 0 (rawInt ((0 : Int).toNat : Nat)))) hF rfl
      refine wpAny_bind (wpAny_setField hF2 rfl (by simp [Obj.mapFields]) (wpAny_pure ⟨_, rfl, wpAny_pure ?_⟩))
      refine hitem _ _ s.toks hget ⟨upd _ _ _ aI (upd _ _ _ aI ho), .inr (.inl ⟨h0, ?_, hout⟩)⟩ (fun b o hb e => upd _ b o hb (upd _ b o hb e)) (Nat.le_refl _)
      rw [Heap.get?_update_self _ hF2 rfl]; simp [Obj.mapFields, rawInt]
    | none =>
      rw [hpk] at hget
      dsimp only [Option.map]
      refine wpAny_bind (wpAny_setField (i := 2) hF rfl (by simp) ?_)
      exact raise_stop hh fun h' k => hdone h' s.toks hget (fun b o hb e => k b o (upd _ b o hb e)) (Nat.le_refl _)
  · dsimp only
    unfold setNext setsByText
    refine wpAny_bind (wpAny_bind (wpAny_setState_of ho hs.data hs.fits ?_))
    dsimp only
    refine wpAny_bind (wpAny_bind (wpAny_askSetting (wpAny_pure ?_)))
    show wpAny _ _ (if w.params.followText "set-order" = true then _ else _) _ _ _
    rw [if_neg (by rw [h0]; simp)]
    show wpAny _ _ (if (!t.plain && decide (es.size > 1)) = true then _ else _) _ _ _
    rw [if_neg (by rw [h1]; simp)]
    have hled := hs.led h0
    show wpAny _ _ ((if (!t.led && !es.isEmpty) = true then unsupported "set:maker-not-led" else pure ()) >>= _) _ _ _
    rw [if_neg (by rw [hled]; simp)]
    refine wpAny_bind (wpAny_pure (wpAny_pure ?_))
    rw [Int.toNat_natCast, hbel]
    have hps : t.place.size = es.size := by
      have hf := hs.fits
      simp only [SetTable.fits, Bool.and_eq_true, beq_iff_eq] at hf
      exact hf.1
    have hget : out[i]? = es[i]?.map (·.2) := by rw [hout, List.getElem?_map, Array.getElem?_toList]
    by_cases hlt : i < es.size
    · have hi0 : i = 0 := by omega
      have e1 : es[i]? = some es[i] := Array.getElem?_eq_getElem hlt
      have e2 : t.place[i]? = some (t.place[i]'(by omega)) := Array.getElem?_eq_getElem (by omega)
      rw [e1] at hget
      rw [e1, e2]
      dsimp only
      refine wpAny_bind (wpAny_setField (i := 0) hF rfl (by simp) ?_)
      have hF2 := Heap.get?_update_self (Obj.mapFields (·.setIfInBounds 0 (rawInt ((t.place[i]'(by omega) + 1 : Nat))))) hF rfl
      refine wpAny_bind (wpAny_setField hF2 rfl (by simp [Obj.mapFields]) (wpAny_pure ⟨_, rfl, wpAny_pure ?_⟩))
      refine hitem _ _ s.toks hget ⟨upd _ _ _ aI (upd _ _ _ aI ho), .inr (.inr ⟨h0, h1, hout, t.place[i]'(by omega) + 1, ?_, ?_⟩)⟩ (fun b o hb e => upd _ b o hb (upd _ b o hb e)) (Nat.le_refl _)
      · rw [Heap.get?_update_self _ hF2 rfl]; simp [Obj.mapFields, rawInt]
      · subst hi0
        exact below_one _ (by omega)
    · have e1 : es[i]? = none := Array.getElem?_eq_none (by omega)
      rw [e1] at hget
      rw [e1]
      dsimp only
      refine wpAny_bind (wpAny_setField (i := 2) hF rfl (by simp) ?_)
      exact raise_stop hh fun h' k => hdone h' s.toks hget (fun b o hb e => k b o (upd _ b o hb e)) (Nat.le_refl _)

theorem slot_setiter_iter : Slot "set_iterator" "__iter__" "set_iterator.__iter__" :=
  .of (owner := "set_iterator") (n := "__iter__") (by rw [typeLookup_type, builtinLookup_eq_fast]; kernel_rfl) (by decide +kernel) (by decide +kernel) (by decide +kernel)
    (by first | exact .inl (by decide +kernel) | exact .inr (by decide +kernel)) (by rw [isSubtype_type]; kernel_rfl)
theorem entry_setiter_iter : entryFor table "set_iterator.__iter__" = some Builtin.«dict_keyiterator.__iter__» :=
  entryFor_alias (id' := "dict_keyiterator.__iter__") (by rw [fastTable_eq_tree]; kernel_rfl) rfl (by decide +kernel) (by rw [fastTable_eq_tree]; kernel_rfl)
theorem args_setiter_iter (a : Value) : argsOk "set_iterator.__iter__" ⟨[a], []⟩ := by
  unfold argsOk; rw [signature?_of (id := "set_iterator.__iter__") (n := ['_', '_', 'r', 'e', 't', 'i', '_', '_']) (o := ['r', 'o', 't', 'a', 'r', 'e', 't', 'i', '_', 't', 'e', 's']) (by kernel_rfl) owner_setit]; kernel_rfl
theorem set_len_at : typeLookup (.type "set") "__len__" = pure (some (.builtin "set.__len__")) := by rw [typeLookup_type, builtinLookup_eq_fast]; kernel_rfl

theorem SetIt.type {I a P : Addr} {o : Obj} {es : Array (Int × Value)} {ep : Nat} {t : SetTable} {out : List Value} {i : Nat} (h : SetIt w I a P o es ep t out i s.heap) : s.TypeIs (.ref I) "set_iterator" := by
  rcases h.2 with ⟨ord, oP, e, h1, h2⟩ | ⟨h0, h1, h2⟩ | ⟨h0, h1, h2, sl, h3, h4⟩
  · exact ⟨_, h1, rfl⟩
  · exact ⟨_, h1, rfl⟩
  · exact ⟨_, h3, rfl⟩

theorem walks_set {I a P : Addr} {o : Obj} {es : Array (Int × Value)} {ep : Nat} {t : SetTable} {ks : List Str} {out : List Value} (hh : A.handled = none) (hs : StrSetO prog w o es ep t ks) (hIa : I ≠ a) (hIP : I ≠ P) (hlen : out.length = es.size) :
    Walks prog w A I [I, a, P] [I] es.size (fun i v => out[i]? = some v) (fun i h => i ≤ es.size ∧ SetIt w I a P o es ep t out i h) where
  sub := fun b hb => by rw [List.mem_singleton.mp hb]; exact .head _
  frame := fun i h h' st hk => by
    obtain ⟨hi, ho, hc⟩ := st
    have kI := hk I (.head _)
    have ka := hk a (.tail _ (.head _))
    have kP := hk P (.tail _ (.tail _ (.head _)))
    refine ⟨hi, ka _ ho, ?_⟩
    rcases hc with ⟨ord, oP, e, h1, h2, h3⟩ | ⟨h0, h1, h2⟩ | ⟨h0, h1, h2, sl, h3, h4⟩
    · exact .inl ⟨ord, oP, e, kI _ h1, kP _ h2, h3⟩
    · exact .inr (.inl ⟨h0, kI _ h1, h2⟩)
    · exact .inr (.inr ⟨h0, h1, h2, sl, kI _ h3, h4⟩)
  item := fun i s Q E hi st hQ => set_next hh hs hIa hIP hlen st.2
    (fun v h' tk hv hit hk _ => hQ v h' tk hv ⟨by omega, hit⟩ fun b o hb e => hk b o (fun q => hb (by rw [q]; exact .head _)) e)
    (fun h' tk hn _ _ => by rw [List.getElem?_eq_none_iff] at hn; omega) st.1
  done := fun s Q E st hQ => set_next hh hs hIa hIP hlen st.2
    (fun v h' tk hv _ _ _ => by have := (List.getElem?_eq_some_iff.mp hv).1; omega)
    (fun h' tk _ hk _ => hQ h' tk fun b o hb e => hk b o (fun q => hb (by rw [q]; exact .head _)) e) st.1
  self := fun i s Q E st hQ => by
    have hT := st.2.type
    refine wpAny_pyIter_slot hT slot_setiter_iter (wpAny_call_entry slot_setiter_iter hT entry_setiter_iter ?_ (args_setiter_iter _))
    show wpAny _ _ (ret (.ref I)) _ _ s
    exact wpAny_pure ⟨_, rfl, "set_iterator", _, hT, slot_setiter_next.lookup, hQ⟩

theorem collect_set {a : Addr} {o : Obj} {es : Array (Int × Value)} {ep : Nat} {t : SetTable} {ks : List Str} {Q : List Value → Shared → Prop} (hh : A.handled = none) (ho : s.heap.get? a = some o) (hs : StrSetO prog w o es ep t ks) (hne : es.size ≠ 0)
    (h : ∀ h' d tk out, (∀ b o, s.heap.get? b = some o → h'.get? b = some o) → out.Perm (es.toList.map (·.2)) → Q out { s with heap := h', drawn := d, toks := tk }) :
    wpAny (model prog w) A (collect (.ref a)) Q E s := by
  have hlt := Heap.lt_size ho
  have hsm := fits_of_scanBound hs.small
  unfold collect
  refine wpAny_bind (wpAny_runValue (codeAny_builtin F.entry_proto_collect ?_))
  rw [Around.under_plainId F.plain_proto_collect _]
  show wpAny _ A.in1 (newList [] >>= fun l => again (.builtin "list.__iadd__" ⟨[l, .ref a], []⟩)) _ _ s
  refine wpAny_bind (wpAny_newObj_type ?_)
  refine wpAny_pure ⟨plainId_quiet F.plain_list_iadd _, codeAny_builtin F.entry_list_iadd ?_⟩
  rw [Around.under_plainId F.plain_list_iadd _]
  have k0 : ∀ b ob, s.heap.get? b = some ob → (s.heap.push { cls := .type "list", data := .seq ([] : List Value).toArray }).get? b = some ob := fun b ob e => Heap.get?_push_of_some _ e
  have hS₁ : (s.heap.push { cls := .type "list", data := .seq ([] : List Value).toArray }).get? s.heap.objs.size = some { cls := .type "list", data := .seq ([] : List Value).toArray } := Heap.get?_push_size _ rfl
  have hsz1 : (s.heap.push { cls := .type "list", data := .seq ([] : List Value).toArray }).objs.size = s.heap.objs.size + 1 := Heap.size_push _ _
  generalize s.heap.push { cls := .type "list", data := .seq ([] : List Value).toArray } = h1 at k0 hS₁ hsz1 ⊢
  have h1' : Builtin.List.listSameRef (.ref s.heap.objs.size) (.ref a) = false := by simp [Builtin.List.listSameRef]; exact Nat.ne_of_gt hlt
  show wpAny _ A.in1 (Builtin.List.listExtendWith (.ref s.heap.objs.size) (.ref a) (.ref s.heap.objs.size)) _ _ _
  unfold Builtin.List.listExtendWith
  refine wpAny_bind (wpAny_typeOf (T := "set") ⟨o, k0 _ _ ho, hs.exact.1⟩ ?_)
  rw [if_neg (by rw [h1']; decide)]
  refine wpAny_bind (iter_set (s := { s with heap := h1 }) (k0 _ _ ho) hs hne fun I P h2 d out hI hP hPI hI2 hP2 k2 _ hout hit => ?_)
  have hout2 : out.length = es.size := by rw [hout.length_eq, List.length_map, Array.length_toList]
  have hIS : s.heap.objs.size < I := by dsimp only at hI; omega
  have hSI : s.heap.objs.size ≠ I := Nat.ne_of_lt hIS
  have hSP : s.heap.objs.size ≠ P := by
    rcases hP with rfl | hP
    · exact Nat.ne_of_gt hlt
    · refine Nat.ne_of_lt (Nat.lt_of_lt_of_le ?_ hP); show s.heap.objs.size < h1.objs.size; omega
  have hIa : I ≠ a := Nat.ne_of_gt (Nat.lt_trans hlt hIS)
  have hS₂ := k2 _ _ hS₁
  refine wpAny_bind (wpAny_holding ?_)
  unfold Builtin.List.listLengthHint
  have hT2 : Shared.TypeIs { s with heap := h2, drawn := d } (.ref a) "set" := ⟨o, k2 _ _ (k0 _ _ ho), hs.exact.1⟩
  refine wpAny_bind (wpAny_specialOf hT2 set_len_at ?_)
  (generalize hid : ("set.__len__" : String) = id0; wp_delta; rw [show splitId id0 = some ("set", "__len__") from by subst hid; decide +kernel]; subst hid)
  refine wpAny_bind (wpAny_isInstance (b := true) hT2 sub_set_self ?_)
  rw [if_neg (by decide)]
  dsimp only
  rw [if_pos (by decide +kernel)]
  refine wpAny_bind (wpAny_typeOf hT2 ?_)
  dsimp only
  refine wpAny_pure ?_
  rw [if_pos (by decide +kernel)]
  show wpAny _ A.in1 (rule "list.extend.makes-room" >>= fun _ => Builtin.List.listTouch (.ref s.heap.objs.size) >>= fun _ =>
    again (.builtin "list.extend.loop" ⟨[.ref s.heap.objs.size, .ref I, .ref s.heap.objs.size], []⟩)) _ _ _
  refine wpAny_bind (wpAny_rule ?_)
  refine wpAny_bind ?_
  show wpAny _ A.in1 (updateSeq s.heap.objs.size (·.push .none) >>= fun _ => updateSeq s.heap.objs.size (·.pop)) _ _ _
  refine wpAny_bind (wpAny_updateSeq hS₂ rfl ?_)
  have hS₃ := Heap.get?_update_self (Obj.mapSeq (·.push Value.none)) hS₂ rfl
  refine wpAny_updateSeq hS₃ rfl ?_
  have hS₄ := Heap.get?_update_self (Obj.mapSeq (·.pop)) hS₃ rfl
  have oth : ∀ b ob, b ≠ s.heap.objs.size → h2.get? b = some ob → ((h2.update s.heap.objs.size (Obj.mapSeq (·.push Value.none))).update s.heap.objs.size (Obj.mapSeq (·.pop))).get? b = some ob :=
    fun b ob hb e => (Heap.get?_update_other _ _ (Ne.symm hb)).trans ((Heap.get?_update_other _ _ (Ne.symm hb)).trans e)
  generalize (h2.update s.heap.objs.size (Obj.mapSeq (·.push Value.none))).update s.heap.objs.size (Obj.mapSeq (·.pop)) = h3 at oth hS₄ ⊢
  have hfp : ∀ b ∈ [I, a, P], b ≠ s.heap.objs.size := fun b hb => by
    rcases List.mem_cons.mp hb with rfl | hb
    · exact Ne.symm hSI
    · rcases List.mem_cons.mp hb with rfl | hb
      · exact Nat.ne_of_lt hlt
      · rw [List.mem_singleton.mp hb]; exact Ne.symm hSP
  have W := (walks_set (A := A.in1) (out := out) hh hs hIa (Ne.symm hPI) hout2).toS
  have hst3 : SetIt w I a P o es ep t out 0 h3 := (((walks_set (A := A.in1) (out := out) hh hs hIa (Ne.symm hPI) hout2).frame 0 h2 h3 ⟨Nat.zero_le _, hit⟩) fun b hb ob e => oth b ob (hfp b hb) e).2
  refine wpAny_pure ⟨plainId_quiet F.plain_extend_loop _, codeAny_extend_loopS W hsm s.heap.objs.size (fun hm => hfp _ hm rfl) _ es.size 0 _ _ _ rfl (Nat.zero_le _) ⟨Nat.zero_le _, hst3⟩ hS₄ (ItemsOf.nil _) fun s' acc' c' hm hS' hacc => ?_⟩
  show wpAny _ A (load s.heap.objs.size >>= _) _ _ s'
  refine wpAny_bind (wpAny_load hS' ?_)
  have hacc2 : acc'.toList = out := by
    refine List.ext_getElem? fun i => ?_
    by_cases hi : i < acc'.size
    · have := hacc.2 i acc'[i] (Array.getElem?_eq_getElem hi)
      rw [this, Array.getElem?_toList, Array.getElem?_eq_getElem hi]
    · rw [Array.getElem?_toList, Array.getElem?_eq_none (by omega), List.getElem?_eq_none (by rw [hout2, ← hacc.1]; omega)]
  obtain ⟨h', g', d', tk', os'⟩ := s'
  have eg : g' = s.gens := hm.gens
  have ed : d' = d := hm.drawn
  have eo : os' = s.os := hm.os
  subst eg; subst ed; subst eo
  show wpAny _ A (pure acc'.toList) _ _ _
  rw [hacc2]
  refine wpAny_pure (h h' _ tk' out (fun b ob e => hm.heap b ob (fun q => ?_) (oth b ob (Nat.ne_of_lt (Heap.lt_size e)) (k2 _ _ (k0 _ _ e)))) hout)
  rcases List.mem_cons.mp q with rfl | q
  · exact Nat.lt_irrefl _ (Heap.lt_size e)
  · rw [List.mem_singleton.mp q] at e
    exact Nat.lt_irrefl _ (Nat.lt_trans (Heap.lt_size e) hIS)

theorem sorted_set {h₀ : Heap} {L a : Addr} {m : Str → Option Value} {news : List (Addr × Obj)} {o : Obj} {es : Array (Int × Value)} {ep : Nat} {t : SetTable} {ks : List Str} {Q : Value → Shared → Prop}
    (F : Fr h₀ L s.heap m) (N : News h₀ L s.heap news) (hh : A.handled = none) (ho : s.heap.get? a = some o) (hs : StrSetO prog w o es ep t ks) (hne : es.size ≠ 0) (h64 : es.size < 64)
    (h : ∀ D h' d tk vs' ss' e, Fr h₀ L h' m → News h₀ L h' ((D, lstO vs' e) :: news) → (∀ b ob, s.heap.get? b = some ob → @LT.lt Nat _ b D) → StrsAre vs' ss' → ss'.Perm ks → Q (.ref D) { s with heap := h', drawn := d, toks := tk }) :
    wpAny (model prog w) A (call (.builtin "sorted") [.ref a]) Q E s := by
  refine Calls.call_function_entry kind_sorted plain_sorted entry_sorted (args_sorted1 _) ?_
  unfold Builtin.«sorted»
  refine wpAny_bind (m := checkCount "sorted" 1 1 _) (wpAny_pure ?_)
  refine wpAny_bind (collect_set hh ho hs hne fun h1 d tk out k1 hout => ?_)
  obtain ⟨ks2, hk2, hkp⟩ := strsAre_perm hs.keys hout
  have hlen : out.length = es.size := by rw [hout.length_eq, List.length_map, Array.length_toList]
  have F1 := F.kept k1
  have N1 : News h₀ L h1 news := fun p hp => ⟨k1 _ _ (N p hp).1, (N p hp).2⟩
  refine wpAny_bind (wpAny_newList ?_ (by rw [hlen]; exact fits_of_scanBound hs.small))
  have hoL : (h1.push (seqObj "list" out.toArray 0)).get? h1.objs.size = some (seqObj "list" out.toArray 0) := Heap.get?_push_size _ rfl
  show wpAny _ _ _ _ _ { s with heap := h1.push (seqObj "list" out.toArray 0), drawn := d, toks := tk }
  have k2 : ∀ b ob, h1.get? b = some ob → (h1.push (seqObj "list" out.toArray 0)).get? b = some ob := fun b ob e => Heap.get?_push_of_some _ e
  refine wpAny_bind (wpAny_holding (wpAny_call_entry slot_list_sort ⟨_, hoL, rfl⟩ entry_list_sort (list_sort_treeK (κ := PyProof.Rows.strKind) (n := 0) strKind_oneLt hoL hk2.keysOf (fun v₁ v₂ rest e => keyKind_strs (by rw [← e]; exact hk2)) (by rw [hlen]; exact h64) fun st' hp hs' => ⟨_, rfl, ?_⟩) (args_list_sort _)))
  refine wpAny_pure ⟨_, rfl, ?_⟩
  obtain ⟨ss', b1, b2, b3⟩ := sorted_out_str hk2 hp hs'
  obtain ⟨e, he⟩ := sortedHeap_at (out := (arrOf st').map (·.2)) hoL
  have k3 : ∀ b ob, h1.get? b = some ob → (sortedHeap (h1.push (seqObj "list" out.toArray 0)) h1.objs.size out ((arrOf st').map (·.2))).get? b = some ob := fun b ob hb => by
    have hlt := Heap.lt_size hb
    rw [sortedHeap_old (Nat.ne_of_lt hlt) (by rw [size_push']; exact Nat.lt_succ_of_lt hlt)]
    exact k2 _ _ hb
  exact h _ _ d tk ((arrOf st').map (·.2)).toList ss' e (F1.kept k3) (N1.kept_cons F1 k3 (Nat.le_refl _) (by rw [he])) (fun b ob hb => Heap.lt_size (k1 _ _ hb)) b1 (b2.trans hkp)
end
end Mine
end

section
open PySem PySem.W PyProof.Rows PySem.Calls PySem.Spec
namespace Mine
set_option maxRecDepth 100000
set_option maxHeartbeats 8000000

theorem lk_list_keys : typeLookup (.type "list") "keys" = pure none := by rw [typeLookup_type, builtinLookup_eq_fast]; kernel_rfl
section
variable {prog : Program} {w : World} {A : Around} {E : Value → Shared → Prop} {s : Shared}

theorem keys_miss_list {a : Addr} {vs : List Value} {e : Nat} {Q : Option Value → Shared → Prop} (hx : s.heap.get? a = some (lstO vs e)) (hA : A.handled = none)
    (h : ∀ h' tk, (∀ b o, s.heap.get? b = some o → h'.get? b = some o) → Q none { s with heap := h', toks := tk }) :
    wpAny (model prog w) A (getAttr? (.ref a) "keys") Q E s := by
  obtain ⟨hp, g, d, tk, os⟩ := s
  have hT : ∀ tk', (⟨hp, g, d, tk', os⟩ : Shared).TypeIs (.ref a) "list" := fun _ => ⟨_, hx, rfl⟩
  have f1 := sub_AttributeError
  have f3 := F.slot_list_getattribute.lookup
  have f4 := F.slot_list_getattribute.bind (.ref a)
  have f5 := am_list_getattr_none
  unfold getAttr? getAttrBy? getAttrBy
  repeat (any_goals (first | assumption | exact hT _ | ((with_reducible show wpAny _ _ (call (Value.builtin "list.__getattribute__") _ _) _ _ _); refine call_meets F.slot_list_getattribute (hT _) am_entry_list_getattribute (F.args_list_getattribute_2 _ _) (meets_getattribute_miss_list a _ _ _ _ _ lk_list_keys (by decide) (by size_fits)) ⟨hx, hA, fun h' tk' e hx' => ?_⟩) | (first | (with_reducible first | refine wpAny_pure ?_ | refine wpAny_bind ?_ | refine wpAny_holding ?_ | refine wpAny_fresh' ?_ | refine wpAny_attempt ?_ | refine wpAny_of_eq (by assumption) ?_) | ((with_reducible apply wpAny_loadPart'); focus (heap_get; done)) | ((with_reducible apply wpAny_ite_false); focus (rfl; done)) | wp_delta)))
  obtain ⟨t', u', he⟩ := hx'.there
  show wpAny _ _ (getattributeRaised _ _ _ _ _ _ _) _ _ _
  unfold getattributeRaised
  repeat (any_goals (first | assumption | (first | (with_reducible first | refine wpAny_pure ?_ | refine wpAny_bind ?_ | refine wpAny_throw ?_ | refine wpAny_of_eq (by assumption) ?_) | ((with_reducible apply wpAny_loadPart'); focus (heap_get; done)) | ((with_reducible apply wpAny_ite_false); focus (rfl; done)) | ((with_reducible apply wpAny_ite_true); focus (rfl; done)) | wp_delta)))
  exact h _ _ hx'.keeps

theorem entry_update_loop : entryFor table "dict.update.loop" = some Builtin.«dict.update.loop» := entryFor_of_tree (by kernel_rfl)
theorem plain_update_loop : plainId "dict.update.loop" = true := by decide +kernel

noncomputable def enumKvs (vl : Nat → Value) (n : Nat) : List (Int × Value) := (List.range n).map fun (i : Nat) => ((i : Int), vl i)
theorem enumKvs_succ (vl : Nat → Value) (n : Nat) : stored (enumKvs vl n) (n : Int) (vl n) = enumKvs vl (n + 1) := by
  unfold stored
  rw [if_neg]
  · unfold enumKvs; rw [List.range_succ, List.map_append]; rfl
  · unfold enumKvs
    simp only [List.any_map, List.any_eq_true, List.mem_range, Function.comp, decide_eq_true_eq, not_exists, not_and]
    intro x hx e
    exact absurd (Int.ofNat.inj e) (Nat.ne_of_lt hx)
theorem enumKvs_len (vl : Nat → Value) (n : Nat) : (enumKvs vl n).length = n := by unfold enumKvs; simp

theorem update_loop_pairs {R : Result → Shared → Prop} {I l D : Addr} {n : Nat} {vl : Nat → Value} {items : Array Value} {A : Around} (hh : A.in1.handled = none) (hn : items.size = n) (hIl : l ≠ I) (hDI : D ≠ I) (hDl : D ≠ l)
    (hsz : n ≤ sizeLine) :
    ∀ (k i : Nat) (j : Int) (u : Nat) (s : Shared), n - i = k → i ≤ n → s.heap.IsListIter I l i → s.heap.IsList l items →
      (∀ (q : Nat) (v : Value), items[q]? = some v → ∃ (a : Addr) (t e : Nat), v = .ref a ∧ a ≠ I ∧ a ≠ D ∧ s.heap.get? a = some (tupO [.int (q : Int) t, vl q] e)) →
      s.heap.DictOf (intKind prog w) D (enumKvs vl i) →
      (∀ h' tk, (∀ b o, b ≠ I → b ≠ D → s.heap.get? b = some o → h'.get? b = some o) → h'.DictOf (intKind prog w) D (enumKvs vl n) → R (.ok (.ret .none)) { s with heap := h', toks := tk }) →
      codeAny (model prog w) A (.builtin "dict.update.loop" ⟨[.ref D, .ref I, .int j u, .none], []⟩) R s := by
  intro k
  induction k with
  | zero =>
    intro i j u s hk hi hit hl hit2 hD hR
    obtain rfl : i = n := by omega
    refine codeAny_builtin entry_update_loop ?_
    rw [Around.under_plainId plain_update_loop _]
    show wpAny _ A.in1 (pyNext (.ref I) >>= _) _ _ s
    refine wpAny_bind ((Walks.list hh I l hIl items).done s _ _ (by rw [hn]; exact ⟨hit, hl⟩) fun h' tk hk' => ?_)
    show wpAny _ A.in1 (ret Value.none) _ _ _
    refine wpAny_pure (hR h' tk (fun b o hb _ e => hk' b o (by simpa using hb) e) (Heap.DictOf.at hD fun o e => hk' D o (by simpa using hDI) e))
  | succ k ih =>
    intro i j u s hk hi hit hl hit2 hD hR
    have hlt : i < n := by omega
    refine codeAny_builtin entry_update_loop ?_
    rw [Around.under_plainId plain_update_loop _]
    show wpAny _ A.in1 (pyNext (.ref I) >>= _) _ _ s
    refine wpAny_bind ((Walks.list hh I l hIl items).item i s _ _ (by rw [hn]; exact hlt) ⟨hit, hl⟩ fun v h₁ tk hP hst hk₁ => ?_)
    obtain ⟨a, t, e, rfl, haI, haD, ha⟩ := hit2 i v hP
    have ha₁ := hk₁ a _ (by simpa using haI) ha
    have hD₁ : h₁.DictOf (intKind prog w) D (enumKvs vl i) := Heap.DictOf.at hD fun o e => hk₁ D o (by simpa using hDI) e
    have hT : Shared.TypeIs { s with heap := h₁, toks := tk } (.ref a) "tuple" := ⟨_, ha₁, rfl⟩
    dsimp only
    refine wpAny_bind (wpAny_holding (wpAny_bind ?_))
    refine wpAny_tryCatch ?_
    unfold Builtin.Dict.pairItems
    refine wpAny_bind (wpAny_typeOf hT ?_)
    rw [if_pos (by decide)]
    refine wpAny_bind (wpAny_seqItems ha₁ rfl (wpAny_pure ?_))
    show wpAny _ A.in1 (holding [Value.int (i : Int) t, vl i] (dictSet D (.int (i : Int) t) (vl i))) _ _ _
    refine wpAny_holding ?_
    refine wpAny_dictSet_pairs (s := { s with heap := h₁, toks := tk }) (knd := intKind prog w) (intKind_is prog w (i : Int) t) hD₁ (fun h₂ hD₂ hs₂ => ?_) (by rw [enumKvs_len]; omega)
    rw [enumKvs_succ] at hD₂
    have hs₂' : Heap.SameBut D h₁ h₂ := hs₂
    have keep : ∀ b o, b ≠ D → h₁.get? b = some o → h₂.get? b = some o := fun b o hb e => hs₂'.extBut b o hb e
    refine wpAny_pure ⟨plainId_quiet plain_update_loop _, ih (i + 1) _ _ _ (by omega) hlt ?_ ?_ (fun q v hq => ?_) hD₂ fun h' tk' hk' hD' => ?_⟩
    · obtain ⟨o, ho, hd⟩ := hst.1
      exact ⟨o, keep _ _ (Ne.symm hDI) ho, hd⟩
    · exact hst.2.at fun o e => keep _ _ (Ne.symm hDl) e
    · obtain ⟨a', t', e', r1, r2, r3, r4⟩ := hit2 q v hq
      exact ⟨a', t', e', r1, r2, r3, keep _ _ r3 (hk₁ _ _ (by simpa using r2) r4)⟩
    · exact hR h' tk' (fun b o hb1 hb2 e => hk' b o hb1 hb2 (keep _ _ hb2 (hk₁ _ _ (by simpa using hb1) e))) hD'

theorem call_dict_pairs {l : Addr} {vs : List Value} {e n : Nat} {vl : Nat → Value} {Q : Value → Shared → Prop} (hh : A.handled = none) (hl : s.heap.get? l = some (lstO vs e)) (hn : vs.length = n) (hsz : n ≤ sizeLine)
    (hit : ∀ (q : Nat) (v : Value), vs[q]? = some v → ∃ (a : Addr) (t e : Nat), v = .ref a ∧ s.heap.get? a = some (tupO [.int (q : Int) t, vl q] e))
    (h : ∀ D h' tk, s.heap.objs.size ≤ D → (∀ b o, s.heap.get? b = some o → b ≠ D) → (∀ b o, s.heap.get? b = some o → h'.get? b = some o) → h'.DictOf (intKind prog w) D (enumKvs vl n) → Q (.ref D) { s with heap := h', toks := tk }) :
    wpAny (model prog w) A (call (.type "dict") [.ref l]) Q E s := by
  refine callType_codes (Q₁ := fun obj s₁ => obj = .ref s.heap.objs.size ∧ s₁ = { s with heap := s.heap.push { cls := .type "dict", data := .dict #[] } }) F.kt_called_dict (F.kt_typeCall_dict_1 _) F.entry_dict_init (kt_code_dict_new _ ⟨rfl, rfl⟩) ?_
  rintro obj s₁ ⟨rfl, rfl⟩
  have hnew : (s.heap.push { cls := .type "dict", data := .dict #[] }).DictOf (intKind prog w) s.heap.objs.size [] := Heap.DictOf.new s.heap
  have kp : ∀ b o, s.heap.get? b = some o → (s.heap.push { cls := .type "dict", data := .dict #[] }).get? b = some o := fun b o e => Heap.get?_push_of_some _ e
  have hlt := Heap.lt_size hl
  refine ⟨hnew.typeIs, F.args_dict_init_2 _ _, ?_⟩
  unfold Builtin.«dict.__init__»
  refine wpAny_bind ?_
  unfold Builtin.Dict.selfAndRest
  refine wpAny_bind (wpAny_notOrdered_dict hnew.typeIs ?_)
  show wpAny _ _ (pure (s.heap.objs.size, [Value.ref l])) _ _ _
  refine wpAny_pure ?_
  show wpAny _ _ (Builtin.Dict.updateFrom "dict.__init__" s.heap.objs.size (.ref l) [] .none) _ _ _
  unfold Builtin.Dict.updateFrom
  refine wpAny_bind (wpAny_typeOf (T := "list") ⟨_, kp _ _ hl, rfl⟩ ?_)
  rw [if_pos (by decide)]
  refine wpAny_bind (keys_miss_list (s := { s with heap := s.heap.push { cls := .type "dict", data := .dict #[] } }) (kp _ _ hl) (by simp [hh]) fun h₁ tk₁ k₁ => ?_)
  simp only [Option.isNone_none, if_true]
  refine wpAny_bind (wpAny_rule ?_)
  have hnD : ∀ b o, s.heap.get? b = some o → b ≠ s.heap.objs.size := fun b o e => Nat.ne_of_lt (Heap.lt_size e)
  have hD₁ : h₁.DictOf (intKind prog w) s.heap.objs.size [] := Heap.DictOf.at hnew fun o e => k₁ _ o e
  have hl₁ : h₁.IsList l vs.toArray := ⟨_, k₁ _ _ (kp _ _ hl), rfl, _, rfl⟩
  have hlt₁ : l < h₁.objs.size := Heap.lt_size (k₁ _ _ (kp _ _ hl))
  have hDlt : s.heap.objs.size < h₁.objs.size := by obtain ⟨o, ho, _⟩ := Heap.dictOf_iff.mp hD₁; exact Heap.lt_size ho
  refine wpAny_bind (wpAny_pyIter_list (s := { s with heap := h₁, toks := tk₁ }) hl₁ ?_)
  have k₂ : ∀ b o, h₁.get? b = some o → (h₁.push { cls := .type "list_iterator", data := .fields #[.ref l, .int 0 0] }).get? b = some o := fun b o e => Heap.get?_push_of_some _ e
  refine wpAny_pure ⟨plainId_quiet plain_update_loop _, update_loop_pairs (n := n) (vl := vl) (items := vs.toArray) (by simp [hh]) (by simpa using hn) (Nat.ne_of_lt hlt₁) (Nat.ne_of_lt hDlt) (Nat.ne_of_gt hlt) hsz (n - 0) 0 0 _ _ rfl (Nat.zero_le _)
    ⟨_, Heap.get?_push_size _ rfl, rfl, rfl⟩ (hl₁.push _) (fun q v hq => ?_) (Heap.DictOf.at hD₁ fun o e => k₂ _ o e) fun h' tk hk hD' => ?_⟩
  · obtain ⟨a, t, e', rfl, ha⟩ := hit q v (by simpa using hq)
    exact ⟨a, t, e', rfl, Nat.ne_of_lt (Heap.lt_size (k₁ _ _ (kp _ _ ha))), hnD _ _ ha, k₂ _ _ (k₁ _ _ (kp _ _ ha))⟩
  · exact ⟨rfl, h _ h' tk (Nat.le_refl _) hnD (fun b o e => hk b o (Nat.ne_of_lt (Heap.lt_size (k₁ _ _ (kp _ _ e)))) (hnD _ _ e) (k₂ _ _ (k₁ _ _ (kp _ _ e)))) hD'⟩

theorem v_dpop {h₀ : Heap} {L d : Addr} {m : Str → Option Value} {news : List (Addr × Obj)} {g : Obj → List (Addr × Obj)} {o : Obj} {kvs : List (Int × Value)} {k : Int} {t : Nat} {v : Value} {Q : Value → Shared → Prop}
    (F : Fr h₀ L s.heap m) (N : News h₀ L s.heap news) (U : UpdF d o news g) (hd : o.IsDictOf (intKind prog w) kvs) (hv : valueAt kvs k = some v) (hsz : kvs.length ≤ sizeLine)
    (h : ∀ h' o', Fr h₀ L h' m → News h₀ L h' (g o') → o'.IsDictOf (intKind prog w) (without kvs k) → Q v { s with heap := h', toks := s.toks + 1 }) : wpAny (model prog w) A (call (.builtin "dict.pop") [.ref d, .int k t]) Q E s := by
  obtain ⟨pre, post, rfl, hg, a, b⟩ := U.split
  have hm := N (d, o) (List.mem_append_right _ (.head _))
  have hD : s.heap.DictOf (intKind prog w) d kvs := Heap.dictOf_iff.mpr ⟨o, hm.1, hd⟩
  refine call_meetsIn PySem.F.slot_dict_pop hD.typeIs PySem.F.entry_dict_pop (PySem.F.args_dict_pop_2 _ _) (meets_dict_pop_there (intKind prog w) d (intKind_is prog w k t) [] (.inl rfl) rfl) ⟨kvs, v, hD, hsz, hv, fun h' hmm hs => ?_⟩
  obtain ⟨o', ho', hd'⟩ := Heap.dictOf_iff.mp hmm
  exact h h' o' (F.change hs hm.2.1 hm.2.2) (hg o' ▸ N.setIn a b hs ho') hd'

theorem isInt_at {k : Int} {u : Value} (h : Value.isInt k u = true) : ∃ t, u = .int k t := by
  cases u <;> simp_all [Value.isInt]

theorem v_sorted_dict {h₀ : Heap} {L d : Addr} {m : Str → Option Value} {news : List (Addr × Obj)} {kvs : List (Int × Value)} {Q : Value → Shared → Prop} (hh : A.handled = none)
    (F : Fr h₀ L s.heap m) (N : News h₀ L s.heap news) (hD : s.heap.DictOf (intKind prog w) d kvs) (lo : (d == sysModules) = false) (h64 : kvs.length < 64)
    (h : ∀ D h' tk vs' ns' e, Fr h₀ L h' m → News h₀ L h' ((D, lstO vs' e) :: news) → (∀ p ∈ news, p.1 < D) → IntsAre vs' ns' → ns'.Perm (kvs.map (·.1)) → ns'.Pairwise (· ≤ ·) → Q (.ref D) { s with heap := h', toks := tk }) :
    wpAny (model prog w) A (call (.builtin "sorted") [.ref d]) Q E s := by
  obtain ⟨ep, hat⟩ := hD.dictAt
  refine kdu_sorted (kdl_dict (knd := intKind prog w) (kvs := kvs) (ep := ep) lo) hh F N hat (by rw [sizeLine_eq]; omega) fun B h' tk vs F' N' l1 hl hv => ?_
  have hI : IntsAre vs (kvs.map (·.1)) := by
    have : ∀ (us : List Value) (ks : List (Int × Value)), us.length = ks.length → (∀ (j : Nat) (v : Value), us[j]? = some v → ∃ k x, ks[j]? = some (k, x) ∧ (intKind prog w).is k v = true) → IntsAre us (ks.map (·.1)) := by
      intro us
      induction us with
      | nil => intro ks hlen _; cases ks with
        | nil => exact .nil
        | cons _ _ => simp at hlen
      | cons u us ih => intro ks hlen hv; cases ks with
        | nil => simp at hlen
        | cons q ks =>
          obtain ⟨k, x, h1, h2⟩ := hv 0 u rfl
          simp at h1; subst h1
          have := isInt_at h2
          obtain ⟨t, rfl⟩ := this
          exact .cons k t (ih ks (by simpa using hlen) fun j v e => hv (j + 1) v (by simpa using e))
    exact this vs kvs hl hv
  have hB : h'.get? B = some (seqObj "list" vs.toArray 0) := (N' _ (.head _)).1
  refine wpAny_call_entry slot_list_sort ⟨_, hB, rfl⟩ entry_list_sort (list_sort_tree hB hI (by rw [hl]; exact h64) fun out ns' a1 a2 a3 => ⟨_, rfl, ?_⟩) (args_list_sort _)
  obtain ⟨e, he⟩ := sortedHeap_at (out := out) hB
  have zB := N' _ (.head _)
  have kk : ∀ b ob, b ≠ B → h'.get? b = some ob → (sortedHeap h' B vs out).get? b = some ob := fun b ob hb e => (sortedHeap_old hb (Heap.lt_size e)).trans e
  have hnB : ∀ q ∈ news, q.1 ≠ B := fun q hq => Nat.ne_of_lt (l1 q hq)
  refine h B _ tk out.toList ns' e ?_ (fun q hq => ?_) l1 a1 a2 a3
  · obtain ⟨oL, x1, x2, hL, x3⟩ := F'.ns
    refine ⟨⟨oL, x1, x2, kk _ _ (fun q => ?_) hL, x3⟩, fun b o e => kk b o (fun q => ?_) (F'.keep b o e), F'.above⟩
    · exact zB.2.1 q.symm
    · rw [q, zB.2.2] at e; cases e
  · rcases List.mem_cons.mp hq with rfl | hq
    · exact ⟨he, zB.2⟩
    · have := N' q (.tail _ hq)
      exact ⟨kk _ _ (hnB q hq) this.1, this.2⟩
theorem v_sorted_ints {h₀ : Heap} {L l : Addr} {m : Str → Option Value} {news : List (Addr × Obj)} {vs : List Value} {ns : List Int} {e0 : Nat} {Q : Value → Shared → Prop}
    (F : Fr h₀ L s.heap m) (N : News h₀ L s.heap news) (hl : s.heap.get? l = some (lstO vs e0)) (hI : IntsAre vs ns) (h64 : vs.length < 64)
    (h : ∀ D h' vs' ns' e, Fr h₀ L h' m → News h₀ L h' ((D, lstO vs' e) :: news) → (∀ p ∈ news, p.1 < D) → IntsAre vs' ns' → ns'.Perm ns → ns'.Pairwise (· ≤ ·) → Q (.ref D) { s with heap := h' }) :
    wpAny (model prog w) A (call (.builtin "sorted") [.ref l]) Q E s :=
  sorted_N F N (isL hl) hI h64 fun h' vs' ns' e F' N' a1 a2 a3 => h _ h' vs' ns' e F' N' (fun p hp => Nat.lt_succ_of_lt (Heap.lt_size (N p hp).1)) a1 a2 a3
end
end Mine
end

section
open PySem PySem.W PyProof.Rows PySem.Calls
namespace Mine
set_option maxRecDepth 100000
set_option maxHeartbeats 8000000

section
variable {prog : Program} {w : World} {A : Around} {E : Value → Shared → Prop} {s : Shared} {env : Env} {H S : Heap}

noncomputable def CTurn2 (prog : Program) (w : World) (A : Around) (H S : Heap) (env : Env) (scope : Scope) (cl : List (Str × Addr)) (xi xv : Str) (elt : PySem.Expr) (n : Nat) (P : Nat → Value → Prop) (J : Nat → List Value → Heap → Prop) (s : Shared) : Prop :=
  ∀ (i : Nat) (v : Value) (ti : Nat) (ys : List Value) (S₁ : Heap) (tl₁ : List (Addr × Obj)) (h : Heap) (tk : Nat) (C : Addr) (own : List (Addr × Obj)) (m₀ : Str → Option Value), i < n → P i v → J i ys S₁ → View H S C S₁ tl₁ → S.StaysIn S₁ → (∀ q ∈ own, S₁.get? q.1 = none) →
    Fr H C h (fun y => if y = xv then some v else if y = xi then some (.int (i : Int) ti) else m₀ y) → News H C h (own ++ tl₁) →
    wpAny (model prog w) A (eval elt (cEnv scope cl C env)) (fun y => CEnd H S C own S₁ { s with heap := h, toks := tk } (J (i + 1) (ys ++ [y]))) (fun _ _ => False) { s with heap := h, toks := tk }

structure CEnS (e it l : Addr) (H S : Heap) (C D : Addr) (J : Nat → List Value → Heap → Prop) (n : Nat) (s : Shared) (k : Nat) (s' : Shared) (h' : Heap) (tk i : Nat) (ys : List Value) (m' : Str → Option Value) (S' : Heap) (tl' : List (Addr × Obj)) (oldv : Value) : Prop where
  eq : s' = { s with heap := h', toks := tk }
  le : i ≤ n
  eqk : k = n + 1 - i
  he : IsEnum h' e it ((i : Nat) : Int) oldv
  hit : h'.IsListIter it l i
  V : View H S C S' tl'
  up : S.StaysIn S'
  offe : S'.get? e = none
  offi : S'.get? it = none
  offD : S'.get? D = none
  F : Fr H C h' m'
  N : News H C h' ([(D, lstO ys ys.length)] ++ tl')
  j : J i ys S'
noncomputable def CEnI (e it l : Addr) (H S : Heap) (C D : Addr) (J : Nat → List Value → Heap → Prop) (n : Nat) (s : Shared) (k : Nat) (s' : Shared) : Prop :=
  ∃ h' tk i ys m' S' tl' oldv, CEnS e it l H S C D J n s k s' h' tk i ys m' S' tl' oldv
/-- a comprehension over a list's items with their places -/
theorem at_comp_enum {elt iter : PySem.Expr} {xi xv : Str} {pi pv pt : Pos} {x1 : Nat} {scope : Scope} {cl : List (Str × Addr)} {pos : Pos} {Q : Value → Shared → Prop} {h₀ G : Heap} {L : Addr} {tl mu : List (Addr × Obj)} {m : Str → Option Value} {e it l : Addr} {vs : List Value} {ee : Nat} (hh : A.handled = none)
    (hcell : ∀ y ∈ scope.names, y.2 ≠ .cell) (hkind : scope.kind = .function) (hxi : scope.names.lookup xi = some .local) (hxv : scope.names.lookup xv = some .local)
    (V : View h₀ G L S tl) (F : Fr h₀ L s.heap m) (N : News h₀ L s.heap (mu ++ tl)) (hmu : ∀ p ∈ mu, S.get? p.1 = none) (hl : S.get? l = some (lstO vs ee)) (hsz : vs.length ≤ sizeLine)
    (he : IsEnum s.heap e it 0 .none) (hit : s.heap.IsListIter it l 0) (hei : e ≠ it) (heF : e ≠ L ∧ h₀.get? e = none ∧ S.get? e = none ∧ ∀ p ∈ mu, e ≠ p.1) (hiF : it ≠ L ∧ h₀.get? it = none ∧ S.get? it = none ∧ ∀ p ∈ mu, it ≠ p.1)
    (J : Nat → List Value → Heap → Prop) (hJ : J 0 [] S) (hlen : ∀ i ys S', J i ys S' → ys.length ≤ i)
    (turn : ∀ H, H = restr s.heap (fun b => b ≠ e ∧ b ≠ it) → CTurn2 prog w A H S env scope cl xi xv elt vs.length (fun i v => vs[i]? = some v) J s)
    (hQ : ∀ D h tk ys S' tl', Fr h₀ L h m → News h₀ L h ((D, lstO ys ys.length) :: (mu ++ tl')) → View h₀ G L S' tl' → S.StaysIn S' → S'.get? D = none → (∀ p ∈ mu, S'.get? p.1 = none) → (∀ b o, s.heap.get? b = some o → b ≠ D) → J vs.length ys S' → Q (.ref D) { s with heap := h, toks := tk }) :
    CompAt prog w A env (.ListComp elt [⟨.Tuple [.Name xi pi, .Name xv pv] x1 pt, iter, [], 0⟩] scope pos) scope cl none Q E (.ref e) s := by
  have upS := V.up F N fun p hp => List.mem_append_right _ hp
  obtain ⟨H, hHe⟩ : ∃ H, H = restr s.heap (fun b => b ≠ e ∧ b ≠ it) := ⟨_, rfl⟩
  replace turn := turn H hHe
  have hH : H.StaysIn s.heap := fun b o x => by rw [hHe] at x; exact (of_restr x).2
  have heH : H.get? e = none := by
    cases q : H.get? e with
    | none => rfl
    | some o => rw [hHe] at q; exact absurd rfl (of_restr q).1.1
  have hiH : H.get? it = none := by
    cases q : H.get? it with
    | none => rfl
    | some o => rw [hHe] at q; exact absurd rfl (of_restr q).1.2
  have toH : ∀ b o, b ≠ e → b ≠ it → s.heap.get? b = some o → H.get? b = some o := fun b o h1 h2 x => by rw [hHe]; exact restr_get x ⟨h1, h2⟩
  have hHz : H.objs.size ≤ s.heap.objs.size := by rw [hHe]; simp [restr]
  have hSH : S.StaysIn H := fun b o x => toH b o (fun q => by rw [q, heF.2.2.1] at x; cases x) (fun q => by rw [q, hiF.2.2.1] at x; cases x) (upS _ _ x)
  refine wpAny_pyIter_enum he ?_
  refine wpAny_newObj_type (wpAny_newFunctionEnv hcell (by intro y hy; simp at hy) (fun h₁ hns₁ hsb₁ => ?_) hkind)
  dsimp only at hns₁ hsb₁ ⊢
  generalize hH2 : s.heap.push { cls := .type "list", dict := none, data := .seq ([] : List Value).toArray } = H2 at hns₁ hsb₁ ⊢
  have hC : H2.objs.size = s.heap.objs.size + 1 := by rw [← hH2, Heap.size_push]
  generalize hDd : s.heap.objs.size = D
  rw [hDd] at hC hHz
  generalize hCd : H2.objs.size = C at hns₁ hsb₁ hC ⊢
  have hDC : D ≠ C := Nat.ne_of_lt (by rw [hC]; exact Nat.lt_succ_self _)
  have hDC' : @LE.le Nat _ D C := Nat.le_of_lt (by rw [hC]; exact Nat.lt_succ_self _)
  have below : ∀ b o, s.heap.get? b = some o → b ≠ C ∧ b ≠ D := fun b o e => by have := Heap.lt_size e; rw [hDd] at this; exact ⟨Nat.ne_of_lt (by rw [hC]; exact Nat.lt_succ_of_lt this), Nat.ne_of_lt this⟩
  have old : ∀ b o, s.heap.get? b = some o → h₁.get? b = some o := fun b o e => hsb₁.extBut b o (below b o e).1 (Heap.get?_push_of_some _ (hH2 ▸ Heap.get?_push_of_some _ e))
  have hacc : h₁.get? D = some (lstO [] 0) := hsb₁.extBut _ _ hDC (Heap.get?_push_of_some _ (by rw [← hH2, ← hDd]; exact Heap.get?_push_size _ rfl))
  have freshH : ∀ a, D ≤ a → H.get? a = none := fun a ha => by
    cases e : H.get? a with
    | none => rfl
    | some o' => exact absurd (Heap.lt_size e) (Nat.not_lt.mpr (Nat.le_trans hHz ha))
  have freshs : ∀ a, D ≤ a → s.heap.get? a = none := fun a ha => by
    cases e : s.heap.get? a with
    | none => rfl
    | some o' => exact absurd (Heap.lt_size e) (Nat.not_lt.mpr (by rw [hDd]; exact ha))
  have heO := below _ _ (show s.heap.get? e = some _ from he)
  have hiO : it ≠ C ∧ it ≠ D := by obtain ⟨o, ho, _⟩ := hit; exact below _ _ ho
  have V₀ : View H S C S [] := View.start hSH (Nat.le_trans hHz hDC')
  have he₁ : IsEnum h₁ e it 0 .none := old _ _ he
  have hit₁ : h₁.IsListIter it l 0 := by obtain ⟨o, ho, hd⟩ := hit; exact ⟨o, old _ _ ho, hd⟩
  have loop : ∀ s₃ : Shared, s₃ = { s with heap := h₁, toks := s.toks + ([] : List (Str × Value)).length } →
      codeAny (model prog w) A (.compLoop (.ListComp elt [⟨.Tuple [.Name xi pi, .Name xv pv] x1 pt, iter, [], 0⟩] scope pos) 0 (.ref e) (.ref D) (cEnv scope cl C env)) (compPost (model prog w) A E none Q (.ref D) C) s₃ := by
    rintro s₃ rfl
    refine kcp_loop
      (CEnI e it l H S C D J vs.length s) ?_ (vs.length + 1)
      ⟨h₁, _, 0, [], _, S, [], .none, rfl, Nat.zero_le _, rfl, he₁, hit₁, V₀, fun _ _ e => e, heF.2.2.1, hiF.2.2.1, ?_, ⟨hns₁, fun b o e => old b o (hH b o e), Nat.le_trans hHz hDC'⟩, fun p hp => ?_, hJ⟩
    · rintro k s' ⟨h', tk, i, ys, m', S', tl', oldv, rfl, hi, rfl, he', hit', V', hS', hSe, hSi, hSD, F', N', J'⟩
      have up := V'.up F' N' fun p hp => List.mem_append_right _ hp
      have hl' : h'.IsList l vs.toArray := ⟨_, up _ _ (hS' _ _ hl), rfl, _, rfl⟩
      have hle : l ≠ e := fun q => by have := hS' _ _ hl; rw [q, hSe] at this; cases this
      have hli : l ≠ it := fun q => by have := hS' _ _ hl; rw [q, hSi] at this; cases this
      have next : ∀ h₂, (∀ b o, b ≠ e → b ≠ it → h'.get? b = some o → h₂.get? b = some o) → Fr H C h₂ m' ∧ News H C h₂ ([(D, lstO ys ys.length)] ++ tl') := fun h₂ hk => by
        refine ⟨⟨F'.ns.at' fun o x => hk _ o (Ne.symm heO.1) (Ne.symm hiO.1) x, fun b o x => hk b o (fun q => by rw [q, heH] at x; cases x) (fun q => by rw [q, hiH] at x; cases x) (F'.keep b o x), F'.above⟩, fun p hp => ⟨hk _ _ ?_ ?_ (N' p hp).1, (N' p hp).2⟩⟩
        · intro q
          rcases List.mem_cons.mp hp with rfl | hp
          · exact heO.2 q.symm
          · have := ((V'.snap p.1 p.2).mp hp).2
            rw [q, hSe] at this; cases this
        · intro q
          rcases List.mem_cons.mp hp with rfl | hp
          · exact hiO.2 q.symm
          · have := ((V'.snap p.1 p.2).mp hp).2
            rw [q, hSi] at this; cases this
      cases hv : vs[i]? with
      | none =>
        obtain rfl : i = vs.length := Nat.le_antisymm hi (by simpa using hv)
        refine wpAny_pyNext_enum_end hh he' hit' hl' (by simp) fun h₂ he₂ => ?_
        obtain ⟨F₂, N₂⟩ := next h₂ fun b o _ hbi x => he₂ b o hbi x
        have hCs : s.heap.get? C = none := freshs C hDC'
        have F₀ : Fr h₀ L (restr s.heap (fun b => b ≠ e ∧ b ≠ it)) m := ⟨F.ns.at' fun o x => restr_get x ⟨Ne.symm heF.1, Ne.symm hiF.1⟩, fun b o x => restr_get (F.keep b o x) ⟨fun q => (by rw [q, heF.2.1] at x; cases x), fun q => (by rw [q, hiF.2.1] at x; cases x)⟩, F.above⟩
        have N₀ : News h₀ L (restr s.heap (fun b => b ≠ e ∧ b ≠ it)) (mu ++ tl) := fun p hp => by
          refine ⟨restr_get (N p hp).1 ⟨?_, ?_⟩, (N p hp).2⟩
          · rcases List.mem_append.mp hp with hp | hp
            · exact fun q => heF.2.2.2 p hp q.symm
            · exact fun q => by have := ((V.snap p.1 p.2).mp hp).2; rw [q, heF.2.2.1] at this; cases this
          · rcases List.mem_append.mp hp with hp | hp
            · exact fun q => hiF.2.2.2 p hp q.symm
            · exact fun q => by have := ((V.snap p.1 p.2).mp hp).2; rw [q, hiF.2.2.1] at this; cases this
        rw [← hHe] at F₀ N₀
        have hCH : H.get? C = none := freshH C hDC'
        refine ⟨m', F₂.ns, fun h₃ hs₃ => ?_⟩
        obtain ⟨tl₂, F₃, N₃, V₃, st₃, mu₃, ne₃, _⟩ := comp_out V F₀ N₀ hmu F₂ N₂ V' hSD hs₃ hCH
        exact hQ D h₃ tk ys S' tl₂ F₃ N₃ V₃ st₃ hSD mu₃ (fun b o x => (below b o x).2) J'
      | some v =>
        have hlt : i < vs.length := (List.getElem?_eq_some_iff.mp hv).1
        refine wpAny_pyNext_enum_item he' hit' hl' (x := v) (by simpa using hv) hei fun h₂ heo hit₂ ht₂ hz₂ hk₂ => ?_
        refine wpAny_letOwnedTupleGo_enum heo fun h₃ he₃ hs₃ => ?_
        replace hs₃ : Heap.SameBut e h₂ h₃ := hs₃
        have heL : e < h'.objs.size := Heap.lt_size he'
        have ht₃ : h₃.IsTuple h'.objs.size #[.int i tk, v] := ⟨_, (hs₃.2 _ (Nat.ne_of_gt heL)).trans ht₂, rfl, _, rfl⟩
        have up₃ : ∀ b o, b ≠ e → b ≠ it → h'.get? b = some o → h₃.get? b = some o := fun b o hbe hbi x => hs₃.extBut b o hbe (hk₂ b o hbe hbi x)
        obtain ⟨F₃, N₃⟩ := next h₃ up₃
        obtain ⟨oit, hoit, hoit'⟩ := hit₂
        have hit₃ : h₃.get? it = some oit := hs₃.extBut it oit (Ne.symm hei) hoit
        refine kcp_assign hh ht₃ (lookup_relabel_local hxi) (lookup_relabel_local hxv) (by simp [cEnv, compEnvC, relabel, hkind]) F₃.ns fun h₄ tk₄ hn₄ hk₄ => ?_
        replace hk₄ : ∀ c o, c ≠ C → h₃.get? c = some o → h₄.get? c = some o := hk₄
        have F₄ : Fr H C h₄ (fun z => if z = xv then some v else if z = xi then some (.int (i : Int) tk) else m' z) := ⟨hn₄, fun b o x => hk₄ b o (fun q => by have := freshH C hDC'; rw [q, this] at x; cases x) (F₃.keep b o x), F₃.above⟩
        have N₄ : News H C h₄ ([(D, lstO ys ys.length)] ++ tl') := fun p hp => ⟨hk₄ _ _ (N₃ p hp).2.1 (N₃ p hp).1, (N₃ p hp).2⟩
        have he₄ : h₄.get? e = some _ := hk₄ _ _ heO.1 he₃
        have hit₄ := hk₄ _ _ hiO.1 hit₃
        have hi1 : ((i + 1 : Nat) : Int) = (i : Int) + 1 := by push_cast; rfl
        obtain ⟨oe, hoe, hback⟩ : ∃ oe, h₄.get? e = some oe ∧ ∀ h', h'.get? e = some oe → IsEnum h' e it ((i : Int) + 1) v := ⟨_, he₄, fun _ x => x⟩
        have t := turn i v tk ys S' tl' h₄ tk₄ C [(e, oe), (it, oit), (D, lstO ys ys.length)] m' hlt hv J' V' hS' (fun q hq => by
          rcases List.mem_cons.mp hq with rfl | hq
          · exact hSe
          · rcases List.mem_cons.mp hq with rfl | hq
            · exact hSi
            · rw [List.mem_singleton.mp hq]; exact hSD) F₄ (fun p hp => by
          rcases List.mem_cons.mp hp with rfl | hp
          · exact ⟨hoe, heO.1, heH⟩
          · rcases List.mem_cons.mp hp with rfl | hp
            · exact ⟨hit₄, hiO.1, hiH⟩
            · exact N₄ p hp)
        refine wpAny_mono t (fun y s₄ h₄' => ?_) fun _ _ e => e.elim
        obtain ⟨h₅, tk₅, m₅, S₅, tl₅, rfl, V₅, st₅, ho₅, F₅, N₅, J₅⟩ := h₄'
        have zD := N₅ (D, lstO ys ys.length) (.tail _ (.tail _ (.head _)))
        have ze := N₅ (e, oe) (.head _)
        have zi := N₅ (it, oit) (.tail _ (.head _))
        have hSD5 : S₅.get? D = none := ho₅ _ (.tail _ (.tail _ (.head _)))
        refine append_at (hsz := by show ys.toArray.size ≤ sizeLine; rw [List.size_toArray]; exact Nat.le_trans (Nat.le_trans (hlen _ _ _ J') hi) hsz) zD.1 fun h₆ hs₆ hD₆ => ?_
        replace hs₆ : Heap.SameBut D h₅ h₆ := hs₆
        refine ⟨vs.length + 1 - (i + 1), by omega, h₆, tk₅, i + 1, ys ++ [y], m₅, S₅, tl₅, v, rfl, hlt, rfl, ?_, ⟨oit, hs₆.extBut _ _ hiO.2 zi.1, hoit'⟩, V₅, fun b o x => st₅ b o (hS' b o x), ho₅ _ (.head _), ho₅ _ (.tail _ (.head _)), hSD5, F₅.change hs₆ zD.2.1 zD.2.2, fun p hp => ?_, J₅⟩
        · rw [hi1]; exact hback _ (hs₆.extBut _ _ heO.2 ze.1)
        · rcases List.mem_cons.mp hp with rfl | hp
          · refine ⟨hD₆.trans ?_, zD.2⟩
            rw [List.length_append, List.length_singleton]
            simp [lstO]
          · have z := N₅ p (.tail _ (.tail _ (.tail _ hp)))
            refine ⟨hs₆.extBut _ _ (fun q => ?_) z.1, z.2⟩
            have := ((V₅.snap p.1 p.2).mp hp).2
            rw [q, hSD5] at this; cases this
    · cases q : S.get? D with
      | none => rfl
      | some o => have := hSH _ _ q; rw [freshH D (Nat.le_refl _)] at this; cases this
    · rcases List.mem_cons.mp hp with rfl | hp
      · exact ⟨hacc, hDC, freshH D (Nat.le_refl _)⟩
      · exact absurd hp List.not_mem_nil
  exact codeAny_compStart_list (loop _ rfl) (wpAny_pyIter_enum (s := { s with heap := h₁, toks := s.toks + ([] : List (Str × Value)).length }) he₁ (loop _ rfl))
end
end Mine
end

section
open PySem PySem.W PyProof.Rows PySem.Calls
namespace Mine
set_option maxRecDepth 100000
set_option maxHeartbeats 8000000

section
variable {prog : Program} {w : World} {A : Around} {E : Value → Shared → Prop} {s : Shared} {env : Env} {h₀ G : Heap} {S : Heap} {tl mu : List (Addr × Obj)} {m : Str → Option Value}

noncomputable def JC (c : Addr) (J : (Str → Option Value) → List (Addr × Obj) → Heap → Prop) (m : Str → Option Value) (mu : List (Addr × Obj)) (S : Heap) : Prop :=
  ∃ oc mu', mu = (c, oc) :: mu' ∧ (∃ x, oc.data = .cell x) ∧ (∀ p ∈ mu', p.1 ≠ c) ∧ J m mu' S

structure CellS (l c I : Addr) (vs : List Value) (S h₀ G : Heap) (L : Addr) (J : Nat → (Str → Option Value) → List (Addr × Obj) → Heap → Prop) (s : Shared) (k : Nat) (s' : Shared) (h' : Heap) (tk : Nat) (m' : Str → Option Value) (mu' : List (Addr × Obj)) (S' : Heap) (tl' : List (Addr × Obj)) (i : Nat) (oc : Obj) : Prop where
  eq : s' = { s with heap := h', toks := tk }
  st : h'.IsListIter I l i ∧ h'.IsList l vs.toArray
  V : View h₀ G L S' tl'
  up : S.StaysIn S'
  offI : S'.get? I = none
  offc : S'.get? c = none
  mu : ∀ p ∈ mu', S'.get? p.1 = none ∧ p.1 ≠ c ∧ I ≠ p.1
  cell : ∃ x, oc.data = .cell x
  F : Fr h₀ L h' m'
  N : News h₀ L h' ((c, oc) :: (mu' ++ tl'))
  new : I ≠ L ∧ h₀.get? I = none
  j : J i m' mu' S'
  le : i ≤ vs.length
  eqk : k = vs.length + 1 - i
noncomputable def CellI (l c I : Addr) (vs : List Value) (S h₀ G : Heap) (L : Addr) (J : Nat → (Str → Option Value) → List (Addr × Obj) → Heap → Prop) (s : Shared) (k : Nat) (s' : Shared) : Prop :=
  ∃ h' tk m' mu' S' tl' i oc, CellS l c I vs S h₀ G L J s k s' h' tk m' mu' S' tl' i oc
/-- a for over a list whose target is a cell -/
theorem at_list_cell {L : Addr} {x : Str} {px : Pos} {body : List Stmt} {Q : Flow → Shared → Prop} {l c : Addr} {oc : Obj} {vs : List Value} {e : Nat} (hLe : env.locals = L) (hh : A.handled = none) (hk : env.scope.kind = .function)
    (hx : env.kindOf x = some .cell) (hc : env.cells.lookup x = some c)
    (V : View h₀ G L S tl) (F : Fr h₀ L s.heap m) (N : News h₀ L s.heap ((c, oc) :: (mu ++ tl))) (hoc : ∃ x, oc.data = .cell x) (hl : S.get? l = some (lstO vs e))
    (hcS : S.get? c = none) (hmu : ∀ p ∈ mu, S.get? p.1 = none) (hcm : ∀ p ∈ mu, p.1 ≠ c) (J : Nat → (Str → Option Value) → List (Addr × Obj) → Heap → Prop) (h0 : J 0 m mu S)
    (turn : ∀ s', (∃ h, s' = { s with heap := h }) → ∀ i v m₁ mu₁ S₁ tl₁ h tk own oc, i < vs.length → vs[i]? = some v → J i m₁ mu₁ S₁ → View h₀ G L S₁ tl₁ → S.StaysIn S₁ → (∀ q ∈ own, S₁.get? q.1 = none ∧ q.1 ≠ c) → S₁.get? c = none → (∀ p ∈ mu₁, S₁.get? p.1 = none ∧ p.1 ≠ c ∧ ∀ q ∈ own, q.1 ≠ p.1) →
      oc.data = .cell (some v) → Fr h₀ L h m₁ → News h₀ L h ((c, oc) :: (mu₁ ++ (own ++ tl₁))) →
      wpAny (model prog w) A (execs body env) (TurnEnd h₀ G L own S₁ (JC c (J (i + 1))) { s' with heap := h, toks := tk } (ForR prog w A env Q E)) (fun _ _ => False) { s' with heap := h, toks := tk })
    (done : ∀ m₁ mu₁ S₁ tl₁ h tk oc, J vs.length m₁ mu₁ S₁ → View h₀ G L S₁ tl₁ → S.StaysIn S₁ → S₁.get? c = none → (∀ p ∈ mu₁, S₁.get? p.1 = none ∧ p.1 ≠ c) → Fr h₀ L h m₁ → News h₀ L h ((c, oc) :: (mu₁ ++ tl₁)) → Q .next { s with heap := h, toks := tk }) :
    ForAt prog w A env (.Name x px) body (ForR prog w A env Q E) E (.ref l) s := by
  subst hLe
  have up := V.up F N fun p hp => .tail _ (List.mem_append_right _ hp)
  have hls : s.heap.IsList l vs.toArray := ⟨_, up _ _ hl, rfl, _, rfl⟩
  have hlt : l < s.heap.objs.size := Heap.lt_size (up _ _ hl)
  have hne : l ≠ s.heap.objs.size := Nat.ne_of_lt hlt
  refine wpAny_pyIter_list hls ?_
  have grow : ∀ b o, s.heap.get? b = some o → (s.heap.push { cls := .type "list_iterator", data := .fields #[.ref l, .int 0 0] }).get? b = some o := fun b o e => Heap.get?_push_of_some _ e
  have hSI : S.get? s.heap.objs.size = none := by
    cases q : S.get? s.heap.objs.size with
    | none => rfl
    | some o => exact absurd (Heap.lt_size (up _ _ q)) (Nat.lt_irrefl _)
  have N1 := News.push F N { cls := .type "list_iterator", data := .fields #[.ref l, .int 0 0] }
  have t := turn { s with heap := s.heap.push { cls := .type "list_iterator", data := .fields #[.ref l, .int 0 0] } } ⟨_, rfl⟩
  have W := Walks.list (prog := prog) (w := w) hh s.heap.objs.size l hne vs.toArray
  have hn0 : ∀ b o, s.heap.get? b = some o → s.heap.objs.size ≠ b := fun b o e => Nat.ne_of_gt (Heap.lt_size e)
  generalize hI : s.heap.objs.size = I at *
  have hcI : c ≠ I := Ne.symm (hn0 _ _ (N _ (.head _)).1)
  have hst0 : Heap.IsListIter (s.heap.push { cls := .type "list_iterator", data := .fields #[.ref l, .int 0 0] }) I l 0 := ⟨_, (N1 _ (.head _)).1, rfl, rfl⟩
  have hsI : (s.heap.push { cls := .type "list_iterator", data := .fields #[.ref l, .int 0 0] }).IsList l vs.toArray := hls.at fun o e => grow _ _ e
  refine codeAny_forLoop_any
    (CellI l c I vs S h₀ G env.locals J s) ?_ (vs.length + 1)
    ⟨_, s.toks, m, mu, S, tl, 0, oc, rfl, ⟨hst0, hsI⟩, V, fun _ _ e => e, hSI, hcS, fun p hp => ⟨hmu p hp, hcm p hp, hn0 _ _ (N p (.tail _ (List.mem_append_left _ hp))).1⟩, hoc, F.keeps grow, fun p hp => N1 p (.tail _ hp), (N1 _ (.head _)).2, h0, Nat.zero_le _, rfl⟩
  rintro k s' ⟨h', tk, m', mu', S', tl', i, oc', rfl, hst', V', hS, hI', hcS', hmu', ⟨xc, hoc'⟩, F', N', ⟨hIL, hI0⟩, hJ, hi, rfl⟩
  have next : ∀ h₁, (∀ b o, b ∉ [I] → h'.get? b = some o → h₁.get? b = some o) → Fr h₀ env.locals h₁ m' ∧ News h₀ env.locals h₁ ((c, oc') :: (mu' ++ tl')) := fun h₁ hk => by
    refine ⟨⟨F'.ns.at' fun o e => hk _ o (by simpa using Ne.symm hIL) e, fun b o e => hk b o (fun q => ?_) (F'.keep b o e), F'.above⟩, fun p hp => ⟨hk _ _ ?_ (N' p hp).1, (N' p hp).2⟩⟩
    · rw [List.mem_singleton.mp q, hI0] at e; cases e
    · intro q
      rcases List.mem_cons.mp hp with rfl | hp
      · exact hcI (List.mem_singleton.mp q)
      · rcases List.mem_append.mp hp with hp | hp
        · exact (hmu' p hp).2.2 (List.mem_singleton.mp q).symm
        · have := ((V'.snap p.1 p.2).mp hp).2
          rw [List.mem_singleton.mp q, hI'] at this; cases this
  have up' := V'.up F' N' fun p hp => .tail _ (List.mem_append_right _ hp)
  by_cases hlt : i < vs.length
  · refine W.item i _ _ _ (by simpa using hlt) hst' fun v h₁ tk₁ hP hst₁ hk₁ => ?_
    obtain ⟨F₁, N₁⟩ := next h₁ hk₁
    obtain ⟨oI, hoI, hoI'⟩ := hst₁.1
    refine wpAny_of_eq (show letOwnedTupleGo (.Name x px) (.ref I) v = pure () from rfl) (wpAny_assign_Name (wpAny_storeName_cell hk hx hc ⟨oc', (N₁ _ (.head _)).1, hoc'⟩ fun h₂ hc₂ hs₂ => ?_))
    replace hs₂ : Heap.SameBut c h₁ h₂ := hs₂
    obtain ⟨oc₂, hoc₂, hdc₂⟩ := hc₂
    have zc := N₁ (c, oc') (.head _)
    have F₂ := F₁.change hs₂ zc.2.1 zc.2.2
    have hI₂ : h₂.get? I = some oI := hs₂.extBut _ _ (Ne.symm hcI) hoI
    have N₂ : News h₀ env.locals h₂ ((c, oc₂) :: (mu' ++ ([(I, oI)] ++ tl'))) := fun p hp => by
      rcases List.mem_cons.mp hp with rfl | hp
      · exact ⟨hoc₂, zc.2⟩
      · rcases List.mem_append.mp hp with hp | hp
        · have := N₁ p (.tail _ (List.mem_append_left _ hp))
          exact ⟨hs₂.extBut _ _ (hmu' p hp).2.1 this.1, this.2⟩
        · rcases List.mem_append.mp hp with hp | hp
          · rw [List.mem_singleton.mp hp]; exact ⟨hI₂, hIL, hI0⟩
          · have := N₁ p (.tail _ (List.mem_append_right _ hp))
            refine ⟨hs₂.extBut _ _ (fun q => ?_) this.1, this.2⟩
            have := ((V'.snap p.1 p.2).mp hp).2
            rw [q, hcS'] at this; cases this
    refine wpAny_mono (t i v m' mu' S' tl' h₂ tk₁ [(I, oI)] oc₂ hlt (by simpa using hP) hJ V' hS (fun q hq => by rw [List.mem_singleton.mp hq]; exact ⟨hI', Ne.symm hcI⟩) hcS' (fun p hp => ⟨(hmu' p hp).1, (hmu' p hp).2.1, fun q hq => by rw [List.mem_singleton.mp hq]; exact (hmu' p hp).2.2⟩) hdc₂ F₂ N₂) (fun f s₃ hf => ?_) fun _ _ e => e.elim
    have fin : TurnEnd h₀ G env.locals [(I, oI)] S' (JC c (J (i + 1))) { s with heap := h₂, toks := tk₁ } (ForR prog w A env Q E) .next s₃ → ∃ m, m < vs.length + 1 - i ∧ CellI l c I vs S h₀ G env.locals J s m s₃ := by
      rintro ⟨h₃, tk₃, m₃, mu₃, S₃, tl₃, rfl, V₃, st₃, ho₃, hmu₃, F₃, N₃, ⟨oc₃, mu₄, rfl, hcx, hcm₃, J₃⟩⟩
      have up₃ := V₃.up F₃ N₃ fun p hp => List.mem_append_right _ (List.mem_append_right _ hp)
      have hl₃ := up₃ _ _ (st₃ _ _ (hS _ _ hl))
      refine ⟨vs.length + 1 - (i + 1), by omega, h₃, tk₃, m₃, mu₄, S₃, tl₃, i + 1, oc₃, rfl, ⟨⟨oI, (N₃ (I, oI) (List.mem_append_right _ (List.mem_append_left _ (.head _)))).1, hoI'⟩, ⟨_, hl₃, rfl, _, rfl⟩⟩, V₃, fun b o e => st₃ b o (hS b o e), ho₃ _ (.head _), (hmu₃ _ (.head _)).1,
        fun p hp => ⟨(hmu₃ p (.tail _ hp)).1, hcm₃ p hp, (hmu₃ p (.tail _ hp)).2 _ (.head _)⟩, hcx, F₃, fun p hp => N₃ p ?_, ⟨hIL, hI0⟩, J₃, hlt, rfl⟩
      rcases List.mem_cons.mp hp with rfl | hp
      · exact .head _
      · rcases List.mem_append.mp hp with hp | hp
        · exact .tail _ (List.mem_append_left _ hp)
        · exact .tail _ (List.mem_append_right _ (List.mem_append_right _ hp))
    cases f with
    | ret v => exact hf
    | brk => exact hf
    | next => exact fin hf
    | cont => exact fin hf
  · obtain rfl : i = vs.length := by omega
    have hst2 : h'.IsListIter I l vs.toArray.size ∧ h'.IsList l vs.toArray := by simpa using hst'
    refine W.done _ _ _ hst2 fun h₁ tk₁ hk₁ => wpAny_execs_nil ?_
    obtain ⟨F₁, N₁⟩ := next h₁ hk₁
    exact done m' mu' S' tl' h₁ tk₁ oc' hJ V' hS hcS' (fun p hp => ⟨(hmu' p hp).1, (hmu' p hp).2.1⟩) F₁ N₁
end
end Mine
end

section
open PySem PySem.W PyProof.Rows PySem.Calls PySem.Spec
namespace Mine
set_option maxRecDepth 100000
set_option maxHeartbeats 8000000

mutual
/-- a thread told, as data -/
noncomputable def Tr.dat : Tr → PyData
  | .mk n ks => .tuple [.int (n : Int), .tuple (Tr.dats ks)]
noncomputable def Tr.dats : List Tr → List PyData
  | [] => []
  | t :: ts => Tr.dat t :: Tr.dats ts
end
theorem ToldsT.reads {S h : Heap} (k : S.StaysIn h) {vs : List Value} {ts : List Tr} (r : ToldsT S vs ts) : ∃ as, ReadsAll h vs (Tr.dats ts) as :=
  ToldsT.rec (motive_1 := fun v t _ => ∃ as, Reads h v t.dat as) (motive_2 := fun vs ts _ => ∃ as, ReadsAll h vs (Tr.dats ts) as)
    (fun ha hl _ hb => hb.elim fun bs hb => ⟨_, .tuple (k _ _ ha) rfl rfl (.cons (.int _ _) (.cons (.tuple (k _ _ hl) rfl rfl hb) .nil))⟩) ⟨_, .nil⟩ (fun _ _ ha hb => ha.elim fun as ha => hb.elim fun bs hb => ⟨_, .cons ha hb⟩) r
mutual
theorem Tr.dat_ok : ∀ t : Tr, t.dat.canLay0 = true
  | .mk n ks => by simp [Tr.dat, PyData.canLay0, PyData.canLayAll0, Tr.dats_ok ks]
theorem Tr.dats_ok : ∀ ts : List Tr, PyData.canLayAll0 (Tr.dats ts) = true
  | [] => rfl
  | t :: ts => by rw [Tr.dats, PyData.canLayAll0, Tr.dat_ok t, Tr.dats_ok ts]; rfl
end
mutual
theorem Tr.dat_depth : ∀ t : Tr, t.dat.depth ≤ 2 * t.size
  | .mk n ks => by
    have := Tr.dats_depth ks
    rw [Tr.dat, Tr.size]
    simp only [PyData.depth, PyData.depthAll]; omega
theorem Tr.dats_depth : ∀ ts : List Tr, PyData.depthAll (Tr.dats ts) ≤ 2 * Tr.sizes ts
  | [] => Nat.le_refl _
  | t :: ts => by
    have := Tr.dat_depth t
    have := Tr.dats_depth ts
    rw [Tr.dats, PyData.depthAll, Tr.sizes]; omega
end
theorem ints_reads {h : Heap} {vs : List Value} {ns : List Int} (r : IntsAre vs ns) : ReadsAll h vs (ns.map PyData.int) [] := by
  induction r with
  | nil => exact .nil
  | cons n t r ih => exact ReadsAll.cons (Reads.int (h := h) n t) ih
theorem ints_ok : ∀ ns : List Int, PyData.canLayAll0 (ns.map PyData.int) = true
  | [] => rfl
  | n :: ns => by rw [List.map_cons, PyData.canLayAll0, ints_ok ns]; rfl
theorem ints_depth : ∀ ns : List Int, PyData.depthAll (ns.map PyData.int) = 0
  | [] => rfl
  | n :: ns => by rw [List.map_cons, PyData.depthAll, ints_depth ns]; rfl

section
variable {prog : Program} {w : World} {A : Around} {E : Value → Shared → Prop} {s : Shared} {Q : Value → Shared → Prop} {a b : Addr} {vs us : List Value} {e e' : Nat}
theorem v_ne_reads {ds : List PyData} {as bs : List Addr} (ha : s.heap.get? a = some (lstO vs e)) (hb : s.heap.get? b = some (lstO us e')) (ra : ReadsAll s.heap vs ds as) (rb : ReadsAll s.heap us ds bs) (ok : PyData.canLayAll0 ds = true) (hu : A.units + (PyData.depthAll ds + 1) < cLine) (h : Q (.bool false) s) :
    wpAny (model prog w) A (compareOp .NotEq (.ref a) (.ref b)) Q E s := by
  have ok' : (PyData.list ds).canLay0 = true := ok
  have := PySem.SeqAt.rcNeAt_reads (A := A) (s := s) (Reads.list ha rfl rfl (by simpa using ra)) (Reads.list hb rfl rfl (by simpa using rb)) ok' ok' (by rw [Nat.min_self]; exact hu)
  refine this prog w E Q ?_
  rw [PySem.SeqAt.eqv_refl _ ok']; exact h
theorem v_ne_told {S₁ S₂ : Heap} {ts : List Tr} (ha : s.heap.get? a = some (lstO vs e)) (hb : s.heap.get? b = some (lstO us e')) (k₁ : S₁.StaysIn s.heap) (k₂ : S₂.StaysIn s.heap) (ra : ToldsT S₁ vs ts) (rb : ToldsT S₂ us ts) (hu : A.units + (2 * Tr.sizes ts + 1) < cLine) (h : Q (.bool false) s) :
    wpAny (model prog w) A (compareOp .NotEq (.ref a) (.ref b)) Q E s := by
  obtain ⟨as, h1⟩ := ra.reads k₁
  obtain ⟨bs, h2⟩ := rb.reads k₂
  exact v_ne_reads ha hb h1 h2 (Tr.dats_ok ts) (by have := Tr.dats_depth ts; omega) h
theorem v_ne_ints {ns : List Int} (ha : s.heap.get? a = some (lstO vs e)) (hb : s.heap.get? b = some (lstO us e')) (ra : IntsAre vs ns) (rb : IntsAre us ns) (hu : A.units + 1 < cLine) (h : Q (.bool false) s) :
    wpAny (model prog w) A (compareOp .NotEq (.ref a) (.ref b)) Q E s :=
  v_ne_reads ha hb (ints_reads ra) (ints_reads rb) (ints_ok ns) (by rw [ints_depth]; omega) h
theorem v_eq_nil {A : Around} (ha : s.heap.get? a = some (lstO [] e)) (hb : s.heap.get? b = some (lstO [] e')) (hu : A.units < cLine) (h : Q (.bool true) s) : wpAny (model prog w) A (compareOp .Eq (.ref a) (.ref b)) Q E s :=
  PySem.SeqAt.RcAt.lists (e := fun _ => true) (isL ha) (isL hb) rfl hu (fun j h1 => absurd h1 (by simp)) prog w E Q (by simpa using h)
theorem strsAre_count {x : Str} {vs : List Value} {ss : List Str} (r : StrsAre vs ss) : vs.countP (fun v => match v with | .str y _ => y == x | _ => false) = ss.count x := by
  induction r with
  | nil => rfl
  | cons y t r ih => rw [List.countP_cons, List.count_cons, ih]
theorem strsAre_mem' {vs : List Value} {ss : List Str} (r : StrsAre vs ss) : ∀ v ∈ vs, ∃ y t, v = .str y t := by
  induction r with
  | nil => exact fun _ h => absurd h List.not_mem_nil
  | cons y t r ih => exact List.forall_mem_cons.mpr ⟨⟨y, t, rfl⟩, ih⟩
theorem v_count {l : Addr} {ss : List Str} {x : Str} {t : Nat} (hl : s.heap.get? l = some (lstO vs e)) (hs : StrsAre vs ss) (h : ∀ t, Q (.int ((ss.count x : Nat) : Int) t) { s with toks := s.toks + 1 }) :
    wpAny (model prog w) A (call (.builtin "list.count") [.ref l, .str x t]) Q E s := by
  refine call_meets F.slot_list_count (s := s) ⟨_, hl, rfl⟩ F.entry_list_count (F.args_list_count_2 _ _) (PySem.SeqAt.list_countAt l vs.toArray e none #[] (.str x t) (fun v => match v with | .str y _ => y == x | _ => false)) ⟨hl, fun y hy => ?_, ?_⟩
  · obtain ⟨z, u, rfl⟩ := strsAre_mem' hs y (by simpa using hy)
    exact PySem.SeqAt.EqAt.str_str z u x t
  · have e1 : (vs.toArray.toList.countP (fun v => match v with | .str y _ => y == x | _ => false)) = ss.count x := by simpa using strsAre_count hs
    rw [e1]
    exact h _
theorem v_getcount {pl : Sem Bool} {Q : Value × List Value → Shared → Prop} (hl : s.heap.get? a = some (lstO vs e)) (h : Q (.builtin "list.count", [.ref a]) s) : wpAny (model prog w) A (getMethod (.ref a) (Str.ofString "count") pl) Q E s :=
  getMethod_builtin ⟨_, hl, rfl⟩ F.plainAttrs_list F.slot_list_count F.type_list_count (fun b e => by cases e; exact ⟨_, hl, rfl⟩) h
end
end Mine
end

section
open PySem PySem.W PyProof.Rows PySem.Calls
namespace Mine
set_option maxRecDepth 100000
set_option maxHeartbeats 8000000
local macro_rules | `(tactic| k_inst) => `(tactic| with_reducible first | exact InstAt.of_view ‹_› ‹_› ‹_› (by walk_at "tb") ‹_› ‹_› | exact InstAt.of_viewN ‹_› ‹_› ‹_› (by walk_at "tb") ‹_› (by k_dflt k_mem))
local macro_rules | `(tactic| k_all) => `(tactic| first | assumption | (refine View.ne ‹_› ?_; assumption) | (refine List.forall_mem_append.mpr ⟨?_, ?_⟩ <;> k_all))
local macro_rules | `(tactic| k_ne) => `(tactic| ((try dsimp only); first | assumption | exact Ne.symm ‹_› | exact ad1 _ | exact ad2 _ | exact Ne.symm (ad1 _) | exact Ne.symm (ad2 _) | exact Nat.ne_of_gt ‹_› | exact Nat.ne_of_gt (And.left ‹_›) | exact Nat.ne_of_gt (And.left (And.right ‹_›)) | omega))
local macro_rules | `(tactic| walk_at "tb") => `(tactic| k_dflt (first | exact fun _ h => h | (k_whole; walk_at "lg") | exact fun _ h => List.mem_append_right _ h | exact fun _ h => List.mem_cons_of_mem _ h | exact fun _ h => List.mem_cons_of_mem _ (List.mem_cons_of_mem _ h) | exact fun _ h => List.mem_cons_of_mem _ (List.mem_cons_of_mem _ (List.mem_cons_of_mem _ h))))
local macro_rules | `(tactic| walk_at "lg") => `(tactic| with_reducible first | exact sub_refl | exact sub_nil | assumption | (refine sub_cons ?_ ?_; (focus (k_dflt k_mem)); walk_at "lg") | (refine sub_app ?_ ?_; (focus walk_at "lg"); walk_at "lg") | (refine sub_t ?_; walk_at "lg") | (refine sub_r ?_; walk_at "lg") | (refine sub_l ?_; walk_at "lg"))
local macro_rules | `(tactic| walk_at "off") => `(tactic| with_reducible first | assumption | exact off_nil | (refine off_cons ?_ ?_; (focus ((try dsimp only); first | assumption | (refine And.intro ?_ ?_; (focus assumption); walk_at "off"))); walk_at "off") | (refine off_app ?_ ?_; (focus walk_at "off"); walk_at "off"))
local macro_rules | `(tactic| walk_at "ab") => `(tactic| k_dflt (first | decide | omega))
local macro_rules | `(tactic| walk_at "ra") => `(tactic| k_dflt (first | rfl | assumption))
local macro_rules | `(tactic| walk_at "rl") => `(tactic| with_reducible (first | exact View.get ‹_› ‹_› ‹_› (by walk_at "tb") ‹_› | exact News.get ‹_› (by k_dflt k_mem) | exact Fr.keep ‹_› _ _ ‹_› | assumption))
local macro_rules | `(tactic| walk_at "dr") => `(tactic| k_dflt (first | k_asm | exact kda_dict (by k_asm) (by k_mem) (by k_asm) | exact Heap.DictOf.keep (by k_asm) (View.up (by k_asm) (by k_asm) (by k_asm) (by walk_at "tb"))))
local macro_rules | `(tactic| walk_at "un") => `(tactic| k_dflt (first | exact Nat.le_of_ble_eq_true rfl | (rw [sizeLine_eq]; walk_at "ln") | ktr_units))
local macro_rules | `(tactic| walk_at "ln") => `(tactic| k_dflt ((try simp only [List.length_append, List.length_cons, List.length_nil, List.length_reverse]); omega))
local macro_rules | `(tactic| walk_at "dp") => `(tactic| k_dflt ((try dsimp only [Ar]); first | exact dpa ‹_› (by walk_at "nb") | exact dpb ‹_› (by walk_at "nb") | exact dpc ‹_› (by walk_at "nb") | exact dpe ‹_› | omega))
local macro_rules | `(tactic| walk_at "nb") => `(tactic| k_dflt exact Nat.le_of_ble_eq_true rfl)
local macro_rules | `(tactic| walk_at "kl") => `(tactic| (intro D' h' F' N' l1'; (try k_lt l1')))
local macro_rules | `(tactic| walk_at "subscriptTail") => `(tactic| with_reducible (first
      | (refine v_rev ‹_› ‹_› (by walk_at "rl") (IsPart.int _ _) (by walk_at "un") ?_; walk_at "kl")
      | refine v_dict_str (by walk_at "dr") ‹_› ?_
      | (refine v_list_str4 (by walk_at "rl") (by k_dflt omega) (by k_dflt omega) ?_; intro t')
      | (refine v_list_str2 (by walk_at "rl") (by k_dflt omega) (by k_dflt omega) ?_; intro t')
      | refine v_list_int (by walk_at "rl") (by walk_at "ab") (by walk_at "ab") (by walk_at "ra") ?_
      | refine v_tup_int (by walk_at "rl") (by walk_at "ab") (by walk_at "ab") (by walk_at "ra") ?_
      | refine v_dict_int (by walk_at "dr") (by first | assumption | (simp only [*]; done)) ?_))
local macro_rules | `(tactic| walk_at "compareOp NotEq str str") => `(tactic| with_reducible (first | refine v_ne_str_t (by with_reducible assumption) ?_ | refine v_ne_str_f (by with_reducible assumption) ?_))
local macro_rules | `(tactic| walk_at "compareOp Eq str str") => `(tactic| with_reducible (first | refine v_eq_str_t (by with_reducible assumption) ?_ | refine v_eq_str_f (by with_reducible assumption) ?_))
local macro_rules | `(tactic| walk_at "exec For Tuple Call cons nil") => `(tactic| k_dflt (refine for_at ?_))
local macro_rules | `(tactic| walk_at "exec For Name Name cons nil") => `(tactic| k_dflt (refine for_at ?_))
local macro_rules | `(tactic| walk_at "exec For Name Call cons nil") => `(tactic| k_dflt (refine for_at ?_))
local macro_rules | `(tactic| walk_at "exec For Name IfExp cons nil") => `(tactic| k_dflt (refine for_at ?_))
local macro_rules | `(tactic| walk_at "exec While") => `(tactic| k_dflt (refine while_at ?_))
local macro_rules | `(tactic| walk_at "exec While Compare cons nil") => `(tactic| k_dflt (refine while_at ?_))
local macro_rules | `(tactic| walk_at "eval Name") => `(tactic| with_reducible (first
      | refine gn_local ‹_› (by k_dflt rfl) (by k_dflt rfl) (by k_dflt rfl) (by k_dflt rfl) ?_
      | refine gn_global ‹_› ‹_› ‹_› (by k_dflt rfl) (by k_dflt rfl) (by k_dflt rfl) (by k_dflt k_is) ?_
      | refine gn_builtin ‹_› ‹_› ‹_› (by k_dflt rfl) (by k_dflt rfl) (by k_dflt rfl) (by k_dflt rfl) (by k_dflt k_is) (by k_dflt boot_fast) (by decide) ?_
      | refine gn_cell ‹_› (by k_dflt rfl) (by k_dflt rfl) (by k_dflt rfl) ‹_› ‹_› ?_))
local macro_rules | `(tactic| walk_at "eval ListComp") => `(tactic| k_dflt (refine comp_at (by with_unfolding_all rfl) (by k_dflt rfl) (by decide) ?_))
local macro_rules | `(tactic| walk_at "call ref") => `(tactic| (k_dflt (refine make_node ‹_› ‹_› ‹_› ‹_› (by walk_at "dp") ?_); intro x' d' h' tk' a1' b1' a2' b2' F' N' l1' l2'; dsimp only))
local macro_rules | `(tactic| walk_at "newTuple") => `(tactic| (with_reducible (refine v_newTuple ‹_› ‹_› (by walk_at "un") ?_); walk_at "kl"))
local macro_rules | `(tactic| walk_at "newList") => `(tactic| (with_reducible (refine v_newList ‹_› ‹_› (by walk_at "un") ?_); walk_at "kl"))
local macro_rules | `(tactic| walk_at "binaryOp Add ref ref") => `(tactic| (with_reducible (refine v_add_list ‹_› ‹_› (by walk_at "rl") (by walk_at "rl") (by walk_at "un") ?_); walk_at "kl"))
local macro_rules | `(tactic| walk_at "call builtin:list.append") => `(tactic| (with_reducible (refine v_append ‹_› ‹_› (by k_dflt k_upd) (by walk_at "un") ?_); intro h' F' N'))
local macro_rules | `(tactic| walk_at "setItem ref int") => `(tactic| with_reducible (first
      | (refine v_setAt ‹_› ‹_› (by k_dflt k_upd) (by k_dflt omega) (by k_dflt omega) (by k_dflt omega) ?_; intro h' F' N')
      | (refine v_set_int ‹_› ‹_› (by k_dflt k_updF) ‹_› (by walk_at "un") ?_; intro h' o' F' N' hd'; (try dsimp only at N'))))
local macro_rules | `(tactic| walk_at "call builtin:len") => `(tactic| with_reducible (first | refine v_len (by walk_at "rl") (by walk_at "ln") ?_ | (refine v_len_dict ‹_› (by k_dflt k_mem) ‹_› ‹_› (by k_dflt omega) ?_; intro t')))
local macro_rules | `(tactic| walk_at "compareOp Eq int int") => `(tactic| with_reducible (first | refine v_eq_int_t (by with_reducible assumption) ?_ | refine v_eq_int_f (by with_reducible assumption) ?_))
local macro_rules | `(tactic| walk_at "exec Assign cons ListComp") => `(tactic| k_dflt (refine comp_assign_at (by with_unfolding_all rfl) (by with_unfolding_all rfl) (by k_dflt rfl) (by decide) ?_))
set_option hygiene false in
local macro_rules | `(tactic| walk_at "execs cons") => `(tactic| first | (with_reducible refine execs_last ?_) | ((try k_gentoks); (with_reducible refine execs_then ?_); intro Kq hKn hKr))

theorem fill (w : World) (h : Heap) : (Mine.grab.heap_1 w.params).In h → PySem.Challenge.rw_or0020_01 = PySem.Challenge.rw_or0020_01 := by
  k_fill
  intro _; rfl
section
theorem base_under_spec (w : World) {v : Value} {td : Addr} {t : Tr} {tab : Tab} (ok : RootOk tab t) :
    HSpec w 59 1 [v, .ref td] (fun G => NodeT G v t ∧ Tbl w G td tab) (fun _ r => ∃ tk, r = .str (base tab t) tk) := by
  rintro p loose mg mb dp un fr gd s Q E G hdp hun X T hG ⟨hN, hT⟩ hQ
  obtain ⟨kvs, hD, hE⟩ := hT.dict
  refine ex10 (hE _ ok) fun a l t0 t1 tz tb e' x0 x1 z hx9 => ?_
  refine ands2 hx9 fun hv ha => ?_
  clear hx9
  refine enter (binds := [(Str.ofString "node", v), (Str.ofString "table", .ref td)]) ‹_› ‹_› (by k_is) (by k_is) (by show _ < 1000; walk_at "dp") (by exact BindsTo.of_eq rfl) (by exact locs rfl) ?_ (by exact rfl) (by exact rfl) (by exact rfl) (by decide)
  intro L h₁ F N
  have V := View.start (L := L) hG F.above
  (first | ((try dsimp only); k_unmd; k_fold) | skip)
  cases hN with
  | @mk x d l n h1 h2 t1 t2 tn e vs ks gx gd gl gk =>
    by_cases h0 : n = 0
    · subst h0
      cases ks with
      | nil => exact absurd ok (by simp [RootOk, wtab, rep])
      | cons kk rest =>
        cases gk with
        | @cons v1 vs' _ _ gv gr =>
          cases gv with
          | @mk x' d' l' a' h1' h2' t1' t2' tn' e'' ws ks' gx' gd' gl' gk' =>
            have hrep : rep (.mk 0 (.mk a' ks' :: rest)) = a' := rfl
            rw [hrep] at hv
            have hpos : ¬ ((0 : Nat) : Int) > 0 := by omega
            (repeat' (first | ((with_reducible first | refine hKn _ ?_ | refine hKr _ _ retNe ?_ | refine hKr _ _ contNe ?_); (try clear hKn hKr Kq); (try dsimp only)) | (with_reducible first | refine v_gt_int_t (by with_reducible assumption) ?_ | refine v_gt_int_f (by with_reducible assumption) ?_) | (k_unfold; (try dsimp only)) | (k_end; wrow_close) | walk1 | (dsimp only; walk1) | (leave1; try dsimp only) | fail "no step"))
            exact hQ _ _ _ G F.keep (Grow.refl _ _) (V.up F N (by walk_at "tb")) ⟨_, rfl⟩
    · rw [rep_pos h0] at hv
      have hpos : (n : Int) > 0 := by omega
      (repeat' (first | ((with_reducible first | refine hKn _ ?_ | refine hKr _ _ retNe ?_ | refine hKr _ _ contNe ?_); (try clear hKn hKr Kq); (try dsimp only)) | (with_reducible first | refine v_gt_int_t (by with_reducible assumption) ?_ | refine v_gt_int_f (by with_reducible assumption) ?_) | (k_unfold; (try dsimp only)) | (k_end; wrow_close) | walk1 | (dsimp only; walk1) | (leave1; try dsimp only) | fail "no step"))
      exact hQ _ _ _ G F.keep (Grow.refl _ _) (V.up F N (by walk_at "tb")) ⟨_, rfl⟩

theorem is_better_spec (w : World) {v u : Value} {td : Addr} {t h : Tr} {tab : Tab} (okt : RootOk tab t) (okh : RootOk tab h) :
    HSpec w 66 1 [v, u, .ref td] (fun G => NodeT G v t ∧ NodeT G u h ∧ Tbl w G td tab) (fun _ r => r = .bool (better tab t h)) := by
  rintro p loose mg mb dp un fr gd s Q E G hdp hun X T hG ⟨hN, hH, hT⟩ hQ
  obtain ⟨kvs, hD, hE⟩ := hT.dict
  refine ex10 (hE _ okt) fun a l t0 t1 tz tb e' x0 x1 z hx9 => ?_
  refine ands2 hx9 fun hv ha => ?_
  clear hx9
  refine ex10 (hE _ okh) fun ax lx tx0 tx1 txz txb ex' xx0 xx1 zx hx9 => ?_
  refine ands2 hx9 fun hvx hax => ?_
  clear hx9
  refine enter (binds := [(Str.ofString "node", v), (Str.ofString "held", u), (Str.ofString "table", .ref td)]) ‹_› ‹_› (by k_is) (by k_is) (by show _ < 1000; walk_at "dp") (by exact BindsTo.of_eq rfl) (by exact locs rfl) ?_ (by exact rfl) (by exact rfl) (by exact rfl) (by decide)
  intro L h₁ F N
  have V := View.start (L := L) hG F.above
  (first | ((try dsimp only); k_unmd; k_fold) | skip)
  cases hN with
  | @mk x d l n h1 h2 t1 t2 tn e vs ks gx gd gl gk =>
    cases hH with
    | @mk x' d' l' a' h1' h2' t1' t2' tn' e'' ws ks' gx' gd' gl' gk' =>
      by_cases h0 : a' = 0
      · subst h0
        (repeat' (first | ((with_reducible first | refine hKn _ ?_ | refine hKr _ _ retNe ?_ | refine hKr _ _ contNe ?_); (try clear hKn hKr Kq); (try dsimp only)) | (with_reducible first | refine v_gt_int_t (by with_reducible assumption) ?_ | refine v_gt_int_f (by with_reducible assumption) ?_) | (k_unfold; (try dsimp only)) | (k_end; wrow_close) | walk1 | (dsimp only; walk1) | (leave1; try dsimp only) | fail "no step"))
        all_goals first | (exfalso; omega) | exact hQ _ _ _ G F.keep (Grow.refl _ _) (V.up F N (by walk_at "tb")) rfl
      · rw [rep_pos h0] at hvx hax
        have e1 : ¬ ((a' : Nat) : Int) = 0 := by omega
        by_cases h9 : n = 0
        · subst h9
          (repeat' (first | ((with_reducible first | refine hKn _ ?_ | refine hKr _ _ retNe ?_ | refine hKr _ _ contNe ?_); (try clear hKn hKr Kq); (try dsimp only)) | (with_reducible first | refine v_gt_int_t (by with_reducible assumption) ?_ | refine v_gt_int_f (by with_reducible assumption) ?_) | (k_unfold; (try dsimp only)) | (k_end; wrow_close) | walk1 | (dsimp only; walk1) | (leave1; try dsimp only) | fail "no step"))
          all_goals first | (exfalso; omega) | exact hQ _ _ _ G F.keep (Grow.refl _ _) (V.up F N (by walk_at "tb")) (by simp [better, Tr.num, h0])
        · rw [rep_pos h9] at hv ha
          have e2 : ¬ ((n : Nat) : Int) = 0 := by omega
          have q1 : better tab (.mk n ks) (.mk a' ks') = ((entry tab a').2 && !(entry tab n).2) := by simp [better, Tr.num, h0, h9]
          rw [q1] at hQ
          cases r1 : (entry tab a').2 <;> cases r2 : (entry tab n).2 <;> rw [r1] at hax <;> rw [r2] at ha <;> rw [r1, r2] at hQ
          all_goals (repeat' (first | ((with_reducible first | refine hKn _ ?_ | refine hKr _ _ retNe ?_ | refine hKr _ _ contNe ?_); (try clear hKn hKr Kq); (try dsimp only)) | (with_reducible first | refine v_gt_int_t (by with_reducible assumption) ?_ | refine v_gt_int_f (by with_reducible assumption) ?_) | (k_unfold; (try dsimp only)) | (k_end; wrow_close) | walk1 | (dsimp only; walk1) | (leave1; try dsimp only) | fail "no step"))
          all_goals first | (exfalso; omega) | exact hQ _ _ _ G F.keep (Grow.refl _ _) (V.up F N (by walk_at "tb")) rfl
end

section
local macro_rules | `(tactic| walk_at "call ref") => `(tactic| k_dflt (first
  | (refine' useR (base_under_spec _ ?ok) ‹_› ‹_› ‹_› (by walk_at "tb") ‹_› ‹_› (by walk_at "dp") (by walk_at "dp") (by exact ⟨‹_›, ‹_›⟩) ?_; (case ok => assumption); rintro r' h' tk' F' N' ⟨_, tb', er'⟩; subst er'; dsimp only)
  | (refine' useR (is_better_spec _ ?ok ?ok2) ‹_› ‹_› ‹_› (by walk_at "tb") ‹_› ‹_› (by walk_at "dp") (by walk_at "dp") (by exact ⟨‹_›, ‹_›, ‹_›⟩) ?_; (case ok => assumption); (case ok2 => assumption); rintro r' h' tk' F' N' ⟨_, er'⟩; subst er'; dsimp only)))

theorem subject_places_spec (w : World) {l td : Addr} {vs : List Value} {e : Nat} {ts : List Tr} {tab : Tab} (ok : ∀ t ∈ ts, RootOk tab t) (hsz : ts.length ≤ 1000) (G0 : Heap) :
    HSpec w 73 2 [.ref l, .ref td] (fun G => G = G0 ∧ G.get? l = some (lstO vs e) ∧ NodesT G vs ts ∧ Tbl w G td tab) (fun G r => ∃ d, r = .ref d ∧ G0.get? d = none ∧ PlD w G d (placesN tab ts ts.length)) := by
  rintro p loose mg mb dp un fr gd s Q E G hdp hun X T hG ⟨rfl, hl, hN, hT⟩ hQ
  refine enter (binds := [(Str.ofString "nodes", .ref l), (Str.ofString "table", .ref td)]) ‹_› ‹_› (by k_is) (by k_is) (by show _ < 1000; walk_at "dp") (by exact BindsTo.of_eq rfl) (by exact locs rfl) ?_ (by exact rfl) (by exact rfl) (by exact rfl) (by decide)
  intro L h₁ F N
  have V := View.start (L := L) hG F.above
  (first | ((try dsimp only); k_unmd; k_fold) | skip)
  (repeat' (first | ((with_reducible first | refine hKn _ ?_ | refine hKr _ _ retNe ?_ | refine hKr _ _ contNe ?_); (try clear hKn hKr Kq); (try dsimp only)) | ((with_reducible refine v_set_str ‹_› ‹_› (by k_dflt k_updF) ‹_› (by walk_at "un") ?_); intro _ _ _ _ _) | (with_reducible first | refine v_notin_str_t (by walk_at "dr") ‹_› ‹_› ?_ | refine v_notin_str_f (by walk_at "dr") ‹_› ‹_› ?_) | ((with_reducible refine call_enum_K (Q := ForAt _ _ _ _ _ _ _ _) ‹_› ‹_› (by walk_at "rl") ?_); intro _ _ _ _ _ _ _ _ _) | (k_unfold; (try dsimp only)) | (k_end; wrow_close) | walk1 | (dsimp only; walk1) | (leave1; try dsimp only) | fail "no step"))
  rename_i fd hA oD lo hsD fs hi fi l1 hB F2 N2 ee it hC F3 N3 hE hI hne hold
  have hfd0 : G.get? fd = none := V.notNew N2 (.head _) (fun _ h => nomatch h)
  have fe := fresh4 (mu := [(fd, oD)]) V F2 N2 fun b o x => (hold b o x).1
  have fi' := fresh4 (mu := [(fd, oD)]) V F2 N2 fun b o x => (hold b o x).2
  refine at_enum (L := L) (vs := vs) (ee := e) (S := G) (G := G) (mu := [(fd, oD)]) (tl := []) rfl rfl rfl rfl rfl V F3 N3 hl hE hI hne fe fi' ?mu
    (fun i m mu S' => S'.get? l = some (lstO vs e) ∧ NodesT S' vs ts ∧ Tbl w S' td tab ∧ Same [Str.ofString "place", Str.ofString "node", Str.ofString "base"] (fun y => if y = Str.ofString "found" then some (Value.ref fd) else List.lookup y [(Str.ofString "nodes", Value.ref l), (Str.ofString "table", Value.ref td)].reverse) m ∧
      ∃ o kvs, mu = [(fd, o)] ∧ o.IsDictOf (strKind Pg w) kvs ∧ PlRel (placesN tab ts i) kvs ∧ kvs.length ≤ i) ?h0 ?turn ?done
  case mu => 
    intro p hp
    rw [List.mem_singleton.mp hp]
    exact V.notNew N2 (.head _) (fun _ h => nomatch h)
  case h0 => exact ⟨hl, hN, hT, Same.refl, oD, [], rfl, hsD, fun b => ⟨fun _ => rfl, fun p hp => by cases hp⟩, Nat.le_refl _⟩
  case turn =>
    intro i v m₁ m₂ mu₁ S₁ tl₁ h tk own hi hP hJx1 V₁ hS hown hmu hJx2 F₁ N₁
    (first | ((try dsimp only); k_unmd; k_fold) | skip)
    refine hide fun Pq9 hq9 => ?_
    obtain ⟨hl₁, hN₁, hT₁, hm, o₁, kvs, rfl, hd, hpl, hlen⟩ := hJx1
    obtain ⟨tk', rfl⟩ := hJx2
    obtain ⟨u, rfl⟩ : ∃ u, m₁ = fun z => if [Str.ofString "place", Str.ofString "node", Str.ofString "base"].contains z then u z else (fun y => if y = Str.ofString "found" then some (Value.ref fd) else List.lookup y [(Str.ofString "nodes", Value.ref l), (Str.ofString "table", Value.ref td)].reverse) z := ⟨m₁, hm.eq⟩
    simp only [List.cons_append, List.nil_append] at N₁
    obtain ⟨t, ht, hv⟩ := hN₁.get hP
    have okt := ok t (List.mem_of_getElem? ht)
    have hfd := (hmu _ (.head _))
    obtain ⟨hSfd, hofd⟩ := hfd
    have hstep : placesN tab ts (i + 1) = stepP tab ts (placesN tab ts i) i t := by rw [placesN, ht]
    have hi' : i < ts.length := (List.getElem?_eq_some_iff.mp ht).1
    by_cases hb : base tab t = Str.ofString ""
    · have hst2 : placesN tab ts (i + 1) = placesN tab ts i := by rw [hstep]; unfold stepP; rw [if_neg (fun q => q.1 hb)]
      refine hq9 ?_; clear hq9 Pq9
      (first | ((try dsimp only); k_unmd; k_fold) | skip)
      (repeat' (first | ((with_reducible first | refine hKn _ ?_ | refine hKr _ _ retNe ?_ | refine hKr _ _ contNe ?_); (try clear hKn hKr Kq); (try dsimp only)) | ((with_reducible refine v_set_str ‹_› ‹_› (by k_dflt k_updF) ‹_› (by walk_at "un") ?_); intro _ _ _ _ _) | (with_reducible first | refine v_notin_str_t (by walk_at "dr") ‹_› ‹_› ?_ | refine v_notin_str_f (by walk_at "dr") ‹_› ‹_› ?_) | ((with_reducible refine call_enum_K (Q := ForAt _ _ _ _ _ _ _ _) ‹_› ‹_› (by walk_at "rl") ?_); intro _ _ _ _ _ _ _ _ _) | (k_unfold; (try dsimp only)) | (k_end; wrow_close) | walk1 | (dsimp only; walk1) | (leave1; try dsimp only) | fail "no step"))
      refine (TurnEnd.mk (mu' := [(fd, o₁)]) V₁ (fun _ _ e => e) hown hmu (by k_asm) (by k_asm) ⟨hl₁, hN₁, hT₁, by (repeat' (first | assumption | exact Same.nf | exact Same.refl | refine Same.set rfl ?_)), o₁, kvs, rfl, hd, by rw [hst2]; exact hpl, Nat.le_succ_of_le hlen⟩)
    · cases hq : placesN tab ts i (base tab t) with
      | none =>
        have hva := (hpl _).1 hq
        have hst2 : placesN tab ts (i + 1) = fun b => if b = base tab t then some i else placesN tab ts i b := by rw [hstep]; unfold stepP; rw [if_pos ⟨hb, by rw [hq]⟩]
        refine hq9 ?_; clear hq9 Pq9
        (first | ((try dsimp only); k_unmd; k_fold) | skip)
        (repeat' (first | ((with_reducible first | refine hKn _ ?_ | refine hKr _ _ retNe ?_ | refine hKr _ _ contNe ?_); (try clear hKn hKr Kq); (try dsimp only)) | ((with_reducible refine v_set_str ‹_› ‹_› (by k_dflt k_updF) ‹_› (by walk_at "un") ?_); intro _ _ _ _ _) | (with_reducible first | refine v_notin_str_t (by walk_at "dr") ‹_› ‹_› ?_ | refine v_notin_str_f (by walk_at "dr") ‹_› ‹_› ?_) | ((with_reducible refine call_enum_K (Q := ForAt _ _ _ _ _ _ _ _) ‹_› ‹_› (by walk_at "rl") ?_); intro _ _ _ _ _ _ _ _ _) | (k_unfold; (try dsimp only)) | (k_end; wrow_close) | walk1 | (dsimp only; walk1) | (leave1; try dsimp only) | fail "no step"))
        refine (TurnEnd.mk (mu' := [(fd, _)]) V₁ (fun _ _ e => e) hown (fun p hp => ?_) (by k_asm) (by k_asm) ⟨hl₁, hN₁, hT₁, by (repeat' (first | assumption | exact Same.nf | exact Same.refl | refine Same.set rfl ?_)), _, _, rfl, by k_asm, by rw [hst2]; exact hpl.put _ _ _, Nat.le_trans (stored_length_le _ _ _) (Nat.succ_le_succ hlen)⟩)
        rw [List.mem_singleton.mp hp]; exact ⟨hSfd, hofd⟩
      | some q =>
        obtain ⟨tq, hva⟩ := (hpl _).2 q hq
        have hqi := placesN_lt tab ts i _ _ hq
        obtain ⟨uu, hu⟩ : ∃ uu, ts[q]? = some uu := ⟨_, List.getElem?_eq_getElem (Nat.lt_trans hqi hi')⟩
        obtain ⟨vu, hvu, hvu'⟩ := hN₁.get' hu
        have oku := ok uu (List.mem_of_getElem? hu)
        cases hbt : better tab t uu with
        | true =>
          have hst2 : placesN tab ts (i + 1) = fun b => if b = base tab t then some i else placesN tab ts i b := by rw [hstep]; unfold stepP; rw [if_pos ⟨hb, by rw [hq]; dsimp only; rw [hu]; exact hbt⟩]
          refine hq9 ?_; clear hq9 Pq9
          (first | ((try dsimp only); k_unmd; k_fold) | skip)
          (repeat' (first | ((with_reducible first | refine hKn _ ?_ | refine hKr _ _ retNe ?_ | refine hKr _ _ contNe ?_); (try clear hKn hKr Kq); (try dsimp only)) | ((with_reducible refine v_set_str ‹_› ‹_› (by k_dflt k_updF) ‹_› (by walk_at "un") ?_); intro _ _ _ _ _) | (with_reducible first | refine v_notin_str_t (by walk_at "dr") ‹_› ‹_› ?_ | refine v_notin_str_f (by walk_at "dr") ‹_› ‹_› ?_) | ((with_reducible refine call_enum_K (Q := ForAt _ _ _ _ _ _ _ _) ‹_› ‹_› (by walk_at "rl") ?_); intro _ _ _ _ _ _ _ _ _) | (k_unfold; (try dsimp only)) | (k_end; wrow_close) | walk1 | (dsimp only; walk1) | (leave1; try dsimp only) | fail "no step"))
          all_goals first
            | (exfalso; simp_all; done)
            | (refine (TurnEnd.mk (mu' := [(fd, _)]) V₁ (fun _ _ e => e) hown (fun p hp => ?_) (by k_asm) (by k_asm) ⟨hl₁, hN₁, hT₁, by (repeat' (first | assumption | exact Same.nf | exact Same.refl | refine Same.set rfl ?_)), _, _, rfl, by k_asm, by rw [hst2]; exact hpl.put _ _ _, Nat.le_trans (stored_length_le _ _ _) (Nat.succ_le_succ hlen)⟩)
               rw [List.mem_singleton.mp hp]; exact ⟨hSfd, hofd⟩)
        | false =>
          have hst2 : placesN tab ts (i + 1) = placesN tab ts i := by rw [hstep]; unfold stepP; rw [if_neg (fun z => by have := z.2; rw [hq] at this; dsimp only at this; rw [hu] at this; dsimp only at this; rw [hbt] at this; cases this)]
          refine hq9 ?_; clear hq9 Pq9
          (first | ((try dsimp only); k_unmd; k_fold) | skip)
          (repeat' (first | ((with_reducible first | refine hKn _ ?_ | refine hKr _ _ retNe ?_ | refine hKr _ _ contNe ?_); (try clear hKn hKr Kq); (try dsimp only)) | ((with_reducible refine v_set_str ‹_› ‹_› (by k_dflt k_updF) ‹_› (by walk_at "un") ?_); intro _ _ _ _ _) | (with_reducible first | refine v_notin_str_t (by walk_at "dr") ‹_› ‹_› ?_ | refine v_notin_str_f (by walk_at "dr") ‹_› ‹_› ?_) | ((with_reducible refine call_enum_K (Q := ForAt _ _ _ _ _ _ _ _) ‹_› ‹_› (by walk_at "rl") ?_); intro _ _ _ _ _ _ _ _ _) | (k_unfold; (try dsimp only)) | (k_end; wrow_close) | walk1 | (dsimp only; walk1) | (leave1; try dsimp only) | fail "no step"))
          all_goals first
            | (refine (TurnEnd.mk (mu' := [(fd, o₁)]) V₁ (fun _ _ e => e) hown hmu (by k_asm) (by k_asm) ⟨hl₁, hN₁, hT₁, by (repeat' (first | assumption | exact Same.nf | exact Same.refl | refine Same.set rfl ?_)), o₁, kvs, rfl, hd, by rw [hst2]; exact hpl, Nat.le_succ_of_le hlen⟩))
            | (exfalso; simp_all; done)
  case done => 
    intro m₁ mu₁ S₁ tl₁ h tk hJx3 V₁ hS hmu F₁ N₁
    (first | ((try dsimp only); k_unmd; k_fold) | skip)
    refine hide fun Pq9 hq9 => ?_
    obtain ⟨hl₁, hN₁, hT₁, hm, o₁, kvs, rfl, hd, hpl, hlen⟩ := hJx3
    obtain ⟨u, rfl⟩ : ∃ u, m₁ = fun z => if [Str.ofString "place", Str.ofString "node", Str.ofString "base"].contains z then u z else (fun y => if y = Str.ofString "found" then some (Value.ref fd) else List.lookup y [(Str.ofString "nodes", Value.ref l), (Str.ofString "table", Value.ref td)].reverse) z := ⟨m₁, hm.eq⟩
    simp only [List.cons_append, List.nil_append] at N₁
    refine hq9 ?_; clear hq9 Pq9
    (first | ((try dsimp only); k_unmd; k_fold) | skip)
    (repeat' (first | ((with_reducible first | refine hKn _ ?_ | refine hKr _ _ retNe ?_ | refine hKr _ _ contNe ?_); (try clear hKn hKr Kq); (try dsimp only)) | ((with_reducible refine v_set_str ‹_› ‹_› (by k_dflt k_updF) ‹_› (by walk_at "un") ?_); intro _ _ _ _ _) | (with_reducible first | refine v_notin_str_t (by walk_at "dr") ‹_› ‹_› ?_ | refine v_notin_str_f (by walk_at "dr") ‹_› ‹_› ?_) | ((with_reducible refine call_enum_K (Q := ForAt _ _ _ _ _ _ _ _) ‹_› ‹_› (by walk_at "rl") ?_); intro _ _ _ _ _ _ _ _ _) | (k_unfold; (try dsimp only)) | (k_end; wrow_close) | walk1 | (dsimp only; walk1) | (leave1; try dsimp only) | fail "no step"))
    refine hide fun Pq9 hq9 => ?_
    obtain ⟨S', tl', V', hS', ha, _, _⟩ := V₁.adds F₁ N₁ (by walk_at "tb") [(fd, o₁)] (by simp)
    refine hq9 ?_; clear hq9 Pq9
    exact hQ _ _ _ S' F₁.keep V'.grow (V'.up F₁ (nw := (fd, o₁) :: tl₁) N₁ (by assumption)) ⟨fd, rfl, hfd0, kvs, Heap.dictOf_iff.mpr ⟨o₁, ha _ (.head _), hd⟩, by rw [← hN.length]; exact hpl⟩
end

section
theorem law_node_spec (w : World) : ∀ (n : Nat) (t : Tr), t.ht ≤ n → t.size ≤ 1000 → ∀ v, HSpec w 121 (3 * n + 3) [v] (fun G => TupT G v t) (fun G r => NodeT G r t) := by
  intro n
  induction n with
  | zero => intro t ht; cases t; simp [Tr.ht] at ht
  | succ n ih =>
    intro t ht hsz v
    rintro p loose mg mb dp un fr gd s Q E G hdp hun X T hG hN hQ
    cases hN with
    | @mk a l num tn e e' vs ks ga gl gk =>
      have hks : Tr.sizes ks < 1000 := by rw [Tr.size] at hsz; omega
      refine enter (binds := [(Str.ofString "tree", .ref a)]) ‹_› ‹_› (by k_is) (by k_is) (by show _ < 1000; walk_at "dp") (by exact BindsTo.of_eq rfl) (by exact locs rfl) ?_ (by exact rfl) (by exact rfl) (by exact rfl) (by decide)
      intro L h₁ F N
      have V := View.start (L := L) hG F.above
      (first | ((try dsimp only); k_unmd; k_fold) | skip)
      (repeat' (first | ((with_reducible first | refine hKn _ ?_ | refine hKr _ _ retNe ?_ | refine hKr _ _ contNe ?_); (try clear hKn hKr Kq); (try dsimp only)) | (k_unfold; (try dsimp only)) | (k_end; wrow_close) | walk1 | (dsimp only; walk1) | (leave1; try dsimp only) | fail "no step"))
      have X1 := X.keeps F.keep
      have T1 := T.keeps F.keep
      refine at_comp_list (L := L) (S := G) (G := G) (vs := vs) (e := e') (mu := []) (tl := []) rfl (by decide) rfl rfl V F N (fun _ h => nomatch h) gl (by rw [gk.length, sizeLine_eq]; have := Tr.len_le ks; omega)
        (fun i ys S' => TupsT S' vs ks ∧ NodesT S' ys (ks.take i)) ⟨gk, .nil⟩ (fun i ys S' hj => by rw [hj.2.length]; exact List.length_take_le _ _) ?turn ?done
      case turn =>
        rintro s' ⟨h9, rfl⟩
        intro i v ys S₁ tl₁ h tk C own m₀ hi hP hJx5 V₁ hS hown F₁ N₁
        obtain ⟨hT₁, hJ⟩ := hJx5
        obtain ⟨t, ht', hv⟩ := hT₁.get hP
        have hm := List.mem_of_getElem? ht'
        have ihv := ih t (Nat.le_trans (Tr.ht_le hm) (by rw [Tr.ht] at ht; omega)) (by have := Tr.size_le hm; omega) v
        refine tested_nil ?_
        (first | ((try dsimp only); k_unmd; k_fold) | skip)
        (repeat' (first | ((with_reducible first | refine hKn _ ?_ | refine hKr _ _ retNe ?_ | refine hKr _ _ contNe ?_); (try clear hKn hKr Kq); (try dsimp only)) | (k_unfold; (try dsimp only)) | (k_end; wrow_close) | walk1 | (dsimp only; walk1) | (leave1; try dsimp only) | fail "no step"))
        refine useS ihv V₁ F₁ N₁ (fun p hp => List.mem_append_right _ hp) X1 T1 (by walk_at "dp") (by walk_at "dp") hv ?_
        intro r h' tk' S' tl' F' N' V' hS' hold hr
        exact CEnd.mk V' hS' (fun q hq => hold _ _ (hown q hq) (N₁ q (List.mem_append_left _ hq)).1) F' (N' own fun p hp => List.mem_append_left _ hp) ⟨TupsT.mono hS' hT₁, by rw [take_snoc ht']; exact (NodesT.mono hS' hJ).snoc hr⟩
      case done =>
        intro D h tk ys S' tl' F' N' V' hS hD hmu hne hJ
        simp only [List.nil_append] at N'
        (first | ((try dsimp only); k_unmd; k_fold) | skip)
        (repeat' (first | ((with_reducible first | refine hKn _ ?_ | refine hKr _ _ retNe ?_ | refine hKr _ _ contNe ?_); (try clear hKn hKr Kq); (try dsimp only)) | (k_unfold; (try dsimp only)) | (k_end; wrow_close) | walk1 | (dsimp only; walk1) | (leave1; try dsimp only) | fail "no step"))
        rename_i x d h' tk' a1 b1 a2 b2 F2 N2 l1 l2
        obtain ⟨S2, tl2, V2, hS2, ha, _, hs2⟩ := V'.adds (nw := [(x, instObj 36 d), (d, dictOf [⟨a1, .str (Str.ofString "number") b1, .int (num : Int) tn⟩, ⟨a2, .str (Str.ofString "kids") b2, .ref D⟩] 2), (D, lstO ys ys.length)] ++ tl') F2 N2 (fun p hp => List.mem_append_right _ hp)
          [(x, instObj 36 d), (d, dictOf [⟨a1, .str (Str.ofString "number") b1, .int (num : Int) tn⟩, ⟨a2, .str (Str.ofString "kids") b2, .ref D⟩] 2), (D, lstO ys ys.length)] (fun p hp => List.mem_append_left _ hp)
        exact hQ _ _ _ S2 F2.keep V2.grow (V2.up F2 N2 hs2) (.mk (ha _ (.head _)) (ha _ (.tail _ (.head _))) (ha _ (.tail _ (.tail _ (.head _)))) (NodesT.mono hS2 (by have := hJ.2; rwa [List.take_of_length_le (by rw [gk.length]; exact Nat.le_refl _)] at this)))
end

section
theorem law_told_spec (w : World) : ∀ (n : Nat) (t : Tr), t.ht ≤ n → t.size ≤ 1000 → ∀ v, HSpec w 116 (3 * n + 3) [v] (fun G => TupT G v t) (fun G r => ToldT G r t) := by
  intro n
  induction n with
  | zero => intro t ht; cases t; simp [Tr.ht] at ht
  | succ n ih =>
    intro t ht hsz v
    rintro p loose mg mb dp un fr gd s Q E G hdp hun X T hG hN hQ
    cases hN with
    | @mk a l num tn e e' vs ks ga gl gk =>
      have hks : Tr.sizes ks < 1000 := by rw [Tr.size] at hsz; omega
      refine enter (binds := [(Str.ofString "tree", .ref a)]) ‹_› ‹_› (by k_is) (by k_is) (by show _ < 1000; walk_at "dp") (by exact BindsTo.of_eq rfl) (by exact locs rfl) ?_ (by exact rfl) (by exact rfl) (by exact rfl) (by decide)
      intro L h₁ F N
      have V := View.start (L := L) hG F.above
      (first | ((try dsimp only); k_unmd; k_fold) | skip)
      (repeat' (first | ((with_reducible first | refine hKn _ ?_ | refine hKr _ _ retNe ?_ | refine hKr _ _ contNe ?_); (try clear hKn hKr Kq); (try dsimp only)) | ((with_reducible refine v_tuple_list ‹_› ‹_› (by walk_at "rl") (by walk_at "un") ?_); walk_at "kl") | (k_unfold; (try dsimp only)) | (k_end; wrow_close) | walk1 | (dsimp only; walk1) | (leave1; try dsimp only) | fail "no step"))
      have X1 := X.keeps F.keep
      have T1 := T.keeps F.keep
      refine at_comp_list (L := L) (S := G) (G := G) (vs := vs) (e := e') (mu := []) (tl := []) rfl (by decide) rfl rfl V F N (fun _ h => nomatch h) gl (by rw [gk.length, sizeLine_eq]; have := Tr.len_le ks; omega)
        (fun i ys S' => TupsT S' vs ks ∧ ToldsT S' ys (ks.take i)) ⟨gk, .nil⟩ (fun i ys S' hj => by rw [hj.2.length]; exact List.length_take_le _ _) ?turn ?done
      case turn =>
        rintro s' ⟨h9, rfl⟩
        intro i v ys S₁ tl₁ h tk C own m₀ hi hP hJx7 V₁ hS hown F₁ N₁
        obtain ⟨hT₁, hJ⟩ := hJx7
        obtain ⟨t, ht', hv⟩ := hT₁.get hP
        have hm := List.mem_of_getElem? ht'
        have ihv := ih t (Nat.le_trans (Tr.ht_le hm) (by rw [Tr.ht] at ht; omega)) (by have := Tr.size_le hm; omega) v
        refine tested_nil ?_
        (first | ((try dsimp only); k_unmd; k_fold) | skip)
        (repeat' (first | ((with_reducible first | refine hKn _ ?_ | refine hKr _ _ retNe ?_ | refine hKr _ _ contNe ?_); (try clear hKn hKr Kq); (try dsimp only)) | ((with_reducible refine v_tuple_list ‹_› ‹_› (by walk_at "rl") (by walk_at "un") ?_); walk_at "kl") | (k_unfold; (try dsimp only)) | (k_end; wrow_close) | walk1 | (dsimp only; walk1) | (leave1; try dsimp only) | fail "no step"))
        refine useS ihv V₁ F₁ N₁ (fun p hp => List.mem_append_right _ hp) X1 T1 (by walk_at "dp") (by walk_at "dp") hv ?_
        intro r h' tk' S' tl' F' N' V' hS' hold hr
        exact CEnd.mk V' hS' (fun q hq => hold _ _ (hown q hq) (N₁ q (List.mem_append_left _ hq)).1) F' (N' own fun p hp => List.mem_append_left _ hp) ⟨TupsT.mono hS' hT₁, by rw [take_snoc ht']; exact (ToldsT.mono hS' hJ).snoc hr⟩
      case done =>
        intro D h tk ys S' tl' F' N' V' hS hD hmu hne hJ
        simp only [List.nil_append] at N'
        have hyl : ys.length ≤ 1000 := by have := hJ.2.length; rw [List.length_take] at this; have := Tr.len_le ks; omega
        (first | ((try dsimp only); k_unmd; k_fold) | skip)
        (repeat' (first | ((with_reducible first | refine hKn _ ?_ | refine hKr _ _ retNe ?_ | refine hKr _ _ contNe ?_); (try clear hKn hKr Kq); (try dsimp only)) | ((with_reducible refine v_tuple_list ‹_› ‹_› (by walk_at "rl") (by walk_at "un") ?_); walk_at "kl") | (k_unfold; (try dsimp only)) | (k_end; wrow_close) | walk1 | (dsimp only; walk1) | (leave1; try dsimp only) | fail "no step"))
        rename_i T hA FA NA lA r hB FB NB lB
        obtain ⟨S2, tl2, V2, hS2, ha, _, hs2⟩ := V'.adds (nw := [(r, tupO [.int (num : Int) tn, .ref T] 0), (T, tupO ys 0)] ++ ((D, lstO ys ys.length) :: tl')) FB NB (fun p hp => List.mem_append_right _ (.tail _ hp))
          [(r, tupO [.int (num : Int) tn, .ref T] 0), (T, tupO ys 0)] (fun p hp => List.mem_append_left _ hp)
        exact hQ _ _ _ S2 FB.keep V2.grow (V2.up FB NB hs2) (.mk (ha _ (.head _)) (ha _ (.tail _ (.head _))) (ToldsT.mono hS2 (by have := hJ.2; rwa [List.take_of_length_le (by rw [gk.length]; exact Nat.le_refl _)] at this)))
end

section
theorem law_base_spec (w : World) {v : Value} {td : Addr} {t : Tr} {tab : Tab} (ok : RootOk tab t) :
    HSpec w 99 1 [v, .ref td] (fun G => TupT G v t ∧ Tbl w G td tab) (fun _ r => ∃ tk, r = .str (base tab t) tk) := by
  rintro p loose mg mb dp un fr gd s Q E G hdp hun X T hG ⟨hN, hT⟩ hQ
  obtain ⟨kvs, hD, hE⟩ := hT.dict
  refine ex10 (hE _ ok) fun a l t0 t1 tz tb e' x0 x1 z hx9 => ?_
  refine ands2 hx9 fun hv ha => ?_
  clear hx9
  refine enter (binds := [(Str.ofString "tree", v), (Str.ofString "table", .ref td)]) ‹_› ‹_› (by k_is) (by k_is) (by show _ < 1000; walk_at "dp") (by exact BindsTo.of_eq rfl) (by exact locs rfl) ?_ (by exact rfl) (by exact rfl) (by exact rfl) (by decide)
  intro L h₁ F N
  have V := View.start (L := L) hG F.above
  (first | ((try dsimp only); k_unmd; k_fold) | skip)
  cases hN with
  | @mk x d n tn e e2 vs ks gx gl gk =>
    by_cases h0 : n = 0
    · subst h0
      cases ks with
      | nil => exact absurd ok (by simp [RootOk, wtab, rep])
      | cons kk rest =>
        cases gk with
        | @cons v1 vs' _ _ gv gr =>
          cases gv with
          | @mk x' d' n' tn' e'' e3 ws ks' gx' gl' gk' =>
            have hrep : rep (.mk 0 (.mk n' ks' :: rest)) = n' := rfl
            rw [hrep] at hv
            have hpos : ¬ ((0 : Nat) : Int) > 0 := by omega
            (repeat' (first | ((with_reducible first | refine hKn _ ?_ | refine hKr _ _ retNe ?_ | refine hKr _ _ contNe ?_); (try clear hKn hKr Kq); (try dsimp only)) | (with_reducible first | refine v_gt_int_t (by with_reducible assumption) ?_ | refine v_gt_int_f (by with_reducible assumption) ?_) | (k_unfold; (try dsimp only)) | (k_end; wrow_close) | walk1 | (dsimp only; walk1) | (leave1; try dsimp only) | fail "no step"))
            exact hQ _ _ _ G F.keep (Grow.refl _ _) (V.up F N (by walk_at "tb")) ⟨_, rfl⟩
    · rw [rep_pos h0] at hv
      have hpos : (n : Int) > 0 := by omega
      (repeat' (first | ((with_reducible first | refine hKn _ ?_ | refine hKr _ _ retNe ?_ | refine hKr _ _ contNe ?_); (try clear hKn hKr Kq); (try dsimp only)) | (with_reducible first | refine v_gt_int_t (by with_reducible assumption) ?_ | refine v_gt_int_f (by with_reducible assumption) ?_) | (k_unfold; (try dsimp only)) | (k_end; wrow_close) | walk1 | (dsimp only; walk1) | (leave1; try dsimp only) | fail "no step"))
      exact hQ _ _ _ G F.keep (Grow.refl _ _) (V.up F N (by walk_at "tb")) ⟨_, rfl⟩
end

section
theorem all_nodes_spec (w : World) {l : Addr} {vs : List Value} {e : Nat} {ts : List Tr} (hsz : Tr.sizes ts ≤ 1000) :
    HSpec w 47 2 [.ref l] (fun G => G.get? l = some (lstO vs e) ∧ NodesT G vs ts) (fun G r => ∃ d us e' , r = .ref d ∧ G.get? d = some (lstO us e') ∧ NodesT G us (flats ts)) := by
  rintro p loose mg mb dp un fr gd s Q E G hdp hun X T hG ⟨hl, hN⟩ hQ
  have hvl : vs.length ≤ 1000 := by rw [hN.length]; exact Nat.le_trans (Tr.len_le ts) hsz
  refine enter (binds := [(Str.ofString "nodes", .ref l)]) ‹_› ‹_› (by k_is) (by k_is) (by show _ < 1000; walk_at "dp") (by exact BindsTo.of_eq rfl) (by exact locs rfl) ?_ (by exact rfl) (by exact rfl) (by exact rfl) (by decide)
  intro L h₁ F N
  have V := View.start (L := L) hG F.above
  (first | ((try dsimp only); k_unmd; k_fold) | skip)
  (repeat' (first | ((with_reducible first | refine hKn _ ?_ | refine hKr _ _ retNe ?_ | refine hKr _ _ contNe ?_); (try clear hKn hKr Kq); (try dsimp only)) | ((with_reducible refine v_copy ‹_› ‹_› (by walk_at "rl") (by walk_at "un") ?_); intro _; walk_at "kl") | ((with_reducible refine v_extend ‹_› ‹_› (by k_dflt k_updF) (by walk_at "rl") (by walk_at "un") ?_); intro _ _ _ _) | (with_reducible first | refine v_ne_nil_t (by walk_at "rl") (by walk_at "rl") (by walk_at "ln") (by k_dflt (have hcL9 := cLine_is; dsimp only [Ar, Around.deeper]; omega)) ?_ | refine v_ne_nil_f (by walk_at "rl") (by walk_at "rl") (by k_dflt (have hcL9 := cLine_is; dsimp only [Ar, Around.deeper]; omega)) ?_) | ((with_reducible refine v_pop ‹_› ‹_› (by walk_at "ra") (by k_dflt k_upd) (by walk_at "un") ?_); intro _ _ _) | (k_unfold; (try dsimp only)) | (k_end; wrow_close) | walk1 | (dsimp only; walk1) | (leave1; try dsimp only) | fail "no step"))
  rename_i fd hA lA cd cc hB lB td hC lC td2 hD lD hE hF hH FF NF
  have hne : @Ne Nat td fd := Nat.ne_of_gt lC.2
  refine at_while (L := L) (S := G) (G := G) (mu := [(td, lstO vs.reverse 0), (fd, lstO [] 0)]) (tl := []) V FF (fun p hp => NF p ?sub) (fun p hp => ?mu)
    (fun k m mu S' => ∃ us uts fs fts e1 e2, k = Tr.sizes uts ∧ mu = [(td, lstO us.reverse e1), (fd, lstO fs e2)] ∧ NodesT S' us uts ∧ NodesT S' fs fts ∧ fts ++ flats uts = flats ts ∧
      Same [Str.ofString "node"] (fun y => if y = Str.ofString "found" then some (Value.ref fd) else if y = Str.ofString "todo" then some (Value.ref td) else List.lookup y [(Str.ofString "nodes", Value.ref l)].reverse) m) (Tr.sizes ts) ?h0 ?turn
  case sub =>
    rcases List.mem_cons.mp hp with rfl | hp
    · exact .tail _ (.head _)
    · rw [List.mem_singleton.mp hp]; exact .tail _ (.tail _ (.tail _ (.head _)))
  case mu =>
    rcases List.mem_cons.mp hp with rfl | hp
    · exact V.notNew NF (.tail _ (.head _)) (fun _ h => nomatch h)
    · rw [List.mem_singleton.mp hp]; exact V.notNew NF (.tail _ (.tail _ (.tail _ (.head _)))) (fun _ h => nomatch h)
  case h0 => exact ⟨vs, ts, [], [], 0, 0, rfl, rfl, hN, .nil, rfl, Same.refl⟩
  case turn =>
    intro k m₁ mu₁ S₁ tl₁ h tk hJx8 V₁ hS hmu F₁ N₁
    (first | ((try dsimp only); k_unmd; k_fold) | skip)
    refine hide fun Pq9 hq9 => ?_
    obtain ⟨us, uts, fs, fts, e1, e2, rfl, rfl, hx9⟩ := hJx8
    refine ands4 hx9 fun hus hfs heq hm => ?_
    clear hx9
    obtain ⟨u, rfl⟩ : ∃ u, m₁ = fun z => if [Str.ofString "node"].contains z then u z else (fun y => if y = Str.ofString "found" then some (Value.ref fd) else if y = Str.ofString "todo" then some (Value.ref td) else List.lookup y [(Str.ofString "nodes", Value.ref l)].reverse) z := ⟨m₁, hm.eq⟩
    simp only [List.cons_append, List.nil_append] at N₁
    have htd : S₁.get? td = none := hmu _ (.head _)
    have hfd : S₁.get? fd = none := hmu _ (.tail _ (.head _))
    have hlen := congrArg List.length heq
    rw [List.length_append, flats_length, flats_length, ← hfs.length] at hlen
    cases hus with
    | nil =>
      refine hq9 ?_; clear hq9 Pq9
      (first | ((try dsimp only); k_unmd; k_fold) | skip)
      (repeat' (first | ((with_reducible first | refine hKn _ ?_ | refine hKr _ _ retNe ?_ | refine hKr _ _ contNe ?_); (try clear hKn hKr Kq); (try dsimp only)) | ((with_reducible refine v_copy ‹_› ‹_› (by walk_at "rl") (by walk_at "un") ?_); intro _; walk_at "kl") | ((with_reducible refine v_extend ‹_› ‹_› (by k_dflt k_updF) (by walk_at "rl") (by walk_at "un") ?_); intro _ _ _ _) | (with_reducible first | refine v_ne_nil_t (by walk_at "rl") (by walk_at "rl") (by walk_at "ln") (by k_dflt (have hcL9 := cLine_is; dsimp only [Ar, Around.deeper]; omega)) ?_ | refine v_ne_nil_f (by walk_at "rl") (by walk_at "rl") (by k_dflt (have hcL9 := cLine_is; dsimp only [Ar, Around.deeper]; omega)) ?_) | ((with_reducible refine v_pop ‹_› ‹_› (by walk_at "ra") (by k_dflt k_upd) (by walk_at "un") ?_); intro _ _ _) | (k_unfold; (try dsimp only)) | (k_end; wrow_close) | walk1 | (dsimp only; walk1) | (leave1; try dsimp only) | fail "no step"))
      rename_i D' h' F' N' l1'
      refine hide fun Pq9 hq9 => ?_
      obtain ⟨S', tl', V', hS', ha, _, hs2⟩ := V₁.adds F' N' (by walk_at "tb") [(fd, lstO fs e2)] (fun p hp => by rw [List.mem_singleton.mp hp]; exact .tail _ (.tail _ (.head _)))
      refine hq9 ?_; clear hq9 Pq9
      exact hQ _ _ _ S' F'.keep V'.grow (V'.up F' N' hs2) ⟨fd, fs, e2, rfl, ha _ (.head _), by rw [← heq, flats, List.append_nil]; exact hfs.mono hS'⟩
    | @cons v us t uts hv hus =>
      cases hv with
      | @mk x d lk n h1 h2 t1 t2 tn ek' kvs ks gx gd gl gk =>
        rw [show (Value.ref x :: us).reverse = us.reverse ++ [Value.ref x] from List.reverse_cons] at N₁
        rw [Tr.sizes, Tr.size] at hlen
        have hus' := hus.length
        have hks' := gk.length
        have := Tr.len_le uts
        have := Tr.len_le ks
        refine hq9 ?_; clear hq9 Pq9
        (first | ((try dsimp only); k_unmd; k_fold) | skip)
        (repeat' (first | ((with_reducible first | refine hKn _ ?_ | refine hKr _ _ retNe ?_ | refine hKr _ _ contNe ?_); (try clear hKn hKr Kq); (try dsimp only)) | ((with_reducible refine v_copy ‹_› ‹_› (by walk_at "rl") (by walk_at "un") ?_); intro _; walk_at "kl") | ((with_reducible refine v_extend ‹_› ‹_› (by k_dflt k_updF) (by walk_at "rl") (by walk_at "un") ?_); intro _ _ _ _) | (with_reducible first | refine v_ne_nil_t (by walk_at "rl") (by walk_at "rl") (by walk_at "ln") (by k_dflt (have hcL9 := cLine_is; dsimp only [Ar, Around.deeper]; omega)) ?_ | refine v_ne_nil_f (by walk_at "rl") (by walk_at "rl") (by k_dflt (have hcL9 := cLine_is; dsimp only [Ar, Around.deeper]; omega)) ?_) | ((with_reducible refine v_pop ‹_› ‹_› (by walk_at "ra") (by k_dflt k_upd) (by walk_at "un") ?_); intro _ _ _) | (k_unfold; (try dsimp only)) | (k_end; wrow_close) | walk1 | (dsimp only; walk1) | (leave1; try dsimp only) | fail "no step"))
        rename_i h' n' F' N'
        refine WEnd.mk (k' := Tr.sizes (ks ++ uts)) (mu' := [(td, lstO (us.reverse ++ kvs.reverse) n'), (fd, lstO (fs ++ [Value.ref x]) (e2 + 1))]) ?_ V₁ (fun _ _ e => e) ?_ F' (fun p hp => N' p ?_) ⟨kvs ++ us, ks ++ uts, fs ++ [Value.ref x], fts ++ [.mk n ks], n', e2 + 1, rfl, ?_, gk.append hus, hfs.snoc (.mk gx gd gl gk), ?_, by (repeat' (first | assumption | exact Same.nf | exact Same.refl | refine Same.set rfl ?_))⟩
        · rw [Tr.sizes_append, Tr.sizes, Tr.size]; omega
        · exact off_cons htd (off_cons hfd off_nil)
        · exact .tail _ (.tail _ hp)
        · rw [List.reverse_append]
        · rw [← heq, flats, Tr.flat, flats_append]; simp
end

section
/-- the numbers above 0 of some nodes -/
noncomputable def numsOf' : List Tr → List Int
  | [] => []
  | t :: ts => if t.num = 0 then numsOf' ts else (t.num : Int) :: numsOf' ts
theorem numsOf'_append : ∀ ts us : List Tr, numsOf' (ts ++ us) = numsOf' ts ++ numsOf' us
  | [], us => rfl
  | t :: ts, us => by rw [List.cons_append, numsOf', numsOf', numsOf'_append ts us]; split <;> rfl
theorem IntsAre_snoc {vs : List Value} {ns : List Int} (h : IntsAre vs ns) (n : Int) (t : Nat) : IntsAre (vs ++ [.int n t]) (ns ++ [n]) := IntsAre.append h (.cons n t .nil)

theorem numbers_told_spec (w : World) {l : Addr} {vs : List Value} {e : Nat} {ts : List Tr} (hsz : Tr.sizes ts ≤ 1000) :
    HSpec w 52 4 [.ref l] (fun G => G.get? l = some (lstO vs e) ∧ NodesT G vs ts) (fun G r => ∃ d us e' , r = .ref d ∧ G.get? d = some (lstO us e') ∧ IntsAre us (numsOf' (flats ts))) := by
  rintro p loose mg mb dp un fr gd s Q E G hdp hun X T hG ⟨hl, hN⟩ hQ
  refine enter (binds := [(Str.ofString "nodes", .ref l)]) ‹_› ‹_› (by k_is) (by k_is) (by show _ < 1000; walk_at "dp") (by exact BindsTo.of_eq rfl) (by exact locs rfl) ?_ (by exact rfl) (by exact rfl) (by exact rfl) (by decide)
  intro L h₁ F N
  have V := View.start (L := L) hG F.above
  (first | ((try dsimp only); k_unmd; k_fold) | skip)
  (repeat' (first | ((with_reducible first | refine hKn _ ?_ | refine hKr _ _ retNe ?_ | refine hKr _ _ contNe ?_); (try clear hKn hKr Kq); (try dsimp only)) | (with_reducible first | refine v_gt_int_t (by with_reducible assumption) ?_ | refine v_gt_int_f (by with_reducible assumption) ?_) | (k_unfold; (try dsimp only)) | (k_end; wrow_close) | walk1 | (dsimp only; walk1) | (leave1; try dsimp only) | fail "no step"))
  refine useS (all_nodes_spec w (e := e) hsz) V F N (by walk_at "tb") X T (by walk_at "dp") (by walk_at "dp") ⟨hl, hN⟩ ?_
  rintro r h2 tk2 S2 tl2 F2 N2 V2 hS2 hold ⟨d, us, e2, rfl, hd, hus⟩
  have X1 := X.keeps F2.keep
  have T1 := T.keeps F2.keep
  have N2' := N2 [] (fun _ h => nomatch h)
  refine at_comp_list (L := L) (S := S2) (G := G) (vs := us) (e := e2) (mu := []) (tl := tl2) rfl (by decide) rfl rfl V2 F2 N2' (fun _ h => nomatch h) hd (by rw [hus.length, flats_length, sizeLine_eq]; omega)
    (fun i ys S' => NodesT S' us (flats ts) ∧ IntsAre ys (numsOf' ((flats ts).take i)) ∧ ys.length ≤ i) ⟨hus, .nil, Nat.le_refl _⟩ (fun i ys S' hj => hj.2.2) ?turn ?done
  case turn =>
    rintro s' ⟨h9, rfl⟩
    intro i v ys S₁ tl₁ h tk C own m₀ hi hP hJx10 V₁ hS hown F₁ N₁
    obtain ⟨hT₁, hJ, hlen⟩ := hJx10
    obtain ⟨t, ht', hv⟩ := hT₁.get hP
    have hm := List.mem_of_getElem? ht'
    cases hv with
    | @mk x d lk n h1 h2 t1 t2 tn ek' kvs ks gx gd gl gk =>
      refine tested_one ?_
      by_cases h0 : n = 0
      · have hnp : ¬ ((n : Nat) : Int) > 0 := by omega
        (first | ((try dsimp only); k_unmd; k_fold) | skip)
        (repeat' (first | ((with_reducible first | refine hKn _ ?_ | refine hKr _ _ retNe ?_ | refine hKr _ _ contNe ?_); (try clear hKn hKr Kq); (try dsimp only)) | (with_reducible first | refine v_gt_int_t (by with_reducible assumption) ?_ | refine v_gt_int_f (by with_reducible assumption) ?_) | (k_unfold; (try dsimp only)) | (k_end; wrow_close) | walk1 | (dsimp only; walk1) | (leave1; try dsimp only) | fail "no step"))
        exact CEnd.same V₁ hown F₁ N₁ ⟨hT₁, by rw [take_snoc ht', numsOf'_append, numsOf', if_pos (show Tr.num (.mk n ks) = 0 from h0), numsOf', List.append_nil]; exact hJ, Nat.le_succ_of_le hlen⟩
      · have hnp : ((n : Nat) : Int) > 0 := by omega
        (first | ((try dsimp only); k_unmd; k_fold) | skip)
        (repeat' (first | ((with_reducible first | refine hKn _ ?_ | refine hKr _ _ retNe ?_ | refine hKr _ _ contNe ?_); (try clear hKn hKr Kq); (try dsimp only)) | (with_reducible first | refine v_gt_int_t (by with_reducible assumption) ?_ | refine v_gt_int_f (by with_reducible assumption) ?_) | (k_unfold; (try dsimp only)) | (k_end; wrow_close) | walk1 | (dsimp only; walk1) | (leave1; try dsimp only) | fail "no step"))
        exact CEnd.same V₁ hown F₁ N₁ ⟨hT₁, by rw [take_snoc ht', numsOf'_append, numsOf', if_neg (show ¬ Tr.num (.mk n ks) = 0 from h0), numsOf']; exact IntsAre_snoc hJ _ _, by rw [List.length_append, List.length_singleton]; omega⟩
  case done =>
    intro D h tk ys S' tl' F' N' V' hS hD hmu hne hJ
    simp only [List.nil_append] at N'
    (first | ((try dsimp only); k_unmd; k_fold) | skip)
    (repeat' (first | ((with_reducible first | refine hKn _ ?_ | refine hKr _ _ retNe ?_ | refine hKr _ _ contNe ?_); (try clear hKn hKr Kq); (try dsimp only)) | (with_reducible first | refine v_gt_int_t (by with_reducible assumption) ?_ | refine v_gt_int_f (by with_reducible assumption) ?_) | (k_unfold; (try dsimp only)) | (k_end; wrow_close) | walk1 | (dsimp only; walk1) | (leave1; try dsimp only) | fail "no step"))
    obtain ⟨S3, tl3, V3, hS3, ha, _, hs3⟩ := V'.adds F' N' (by walk_at "tb") [(D, lstO ys ys.length)] (fun p hp => by rw [List.mem_singleton.mp hp]; exact .head _)
    exact hQ _ _ _ S3 F'.keep V3.grow (V3.up F' N' hs3) ⟨D, ys, _, rfl, ha _ (.head _), by have := hJ.2.1; rwa [List.take_of_length_le (by rw [hus.length]; exact Nat.le_refl _)] at this⟩
end

section
noncomputable def isNum0 (ts : List Tr) (i : Nat) : Bool := match ts[i]? with | some t => t.num == 0 | none => false
noncomputable def isFirst (tab : Tab) (ts : List Tr) (i : Nat) : Bool := match ts[i]? with | some t => !(entry tab t.num).2 | none => false
/-- the one that stands for a base, of the spots -/
noncomputable def standN (tab : Tab) (ts : List Tr) (spots : List Nat) : Nat :=
  match spots.find? (isNum0 ts) with
  | some i => i
  | none => match spots.find? (isFirst tab ts) with
    | some i => i
    | none => spots.headD 0
theorem find_at {α : Type} {p : α → Bool} {l : List α} {i : Nat} {a : α} (h : l[i]? = some a) (hp : p a = true) (hn : (l.take i).find? p = none) : l.find? p = some a := by
  have hl : l = l.take i ++ (a :: l.drop (i + 1)) := by
    rw [List.getElem?_eq_some_iff] at h
    obtain ⟨hi, rfl⟩ := h
    rw [List.getElem_cons_drop, List.take_append_drop]
  rw [hl, List.find?_append, hn]
  simp [hp]
theorem find_step {α : Type} {p : α → Bool} {l : List α} {i : Nat} {a : α} (h : l[i]? = some a) (hp : p a = false) (hn : (l.take i).find? p = none) : (l.take (i + 1)).find? p = none := by
  rw [take_snoc h, List.find?_append, hn]
  simp [hp]
theorem natsAt {vs : List Value} {ns : List Nat} (h : IntsAre vs (ns.map (fun n : Nat => (n : Int)))) {i : Nat} {v : Value} (hv : vs[i]? = some v) : ∃ (n : Nat) (t : Nat), v = .int (n : Int) t ∧ ns[i]? = some n := by
  obtain ⟨n, t, rfl, e⟩ := IntsAre.at h i v hv
  rw [List.getElem?_map] at e
  obtain ⟨m, h1, h2⟩ := Option.map_eq_some_iff.mp e
  exact ⟨m, t, by rw [← h2], h1⟩

theorem law_stands_spec (w : World) {l sl td : Addr} {vs sv : List Value} {e e0 : Nat} {ts : List Tr} {spots : List Nat} {tab : Tab} (ok : ∀ t ∈ ts, t.num = 0 ∨ wtab tab t.num) (hts : ts.length ≤ 1000) (hne : spots ≠ []) (hsp : ∀ i ∈ spots, i < ts.length) :
    HSpec w 106 2 [.ref l, .ref sl, .ref td] (fun G => G.get? l = some (lstO vs e) ∧ TupsT G vs ts ∧ G.get? sl = some (lstO sv e0) ∧ IntsAre sv (spots.map (fun n : Nat => (n : Int))) ∧ Tbl w G td tab) (fun _ r => ∃ tk, r = .int (standN tab ts spots : Int) tk) := by
  rintro p loose mg mb dp un fr gd s Q E G hdp hun X T hG ⟨hl, hN, hsl, hI, hT⟩ hQ
  refine enter (binds := [(Str.ofString "trees", .ref l), (Str.ofString "spots", .ref sl), (Str.ofString "table", .ref td)]) ‹_› ‹_› (by k_is) (by k_is) (by show _ < 1000; walk_at "dp") (by exact BindsTo.of_eq rfl) (by exact locs rfl) ?_ (by exact rfl) (by exact rfl) (by exact rfl) (by decide)
  intro L h₁ F N
  have V := View.start (L := L) hG F.above
  have hlen : sv.length = spots.length := by have := IntsAre.length hI; simpa using this
  (first | ((try dsimp only); k_unmd; k_fold) | skip)
  (repeat' (first | ((with_reducible first | refine hKn _ ?_ | refine hKr _ _ retNe ?_ | refine hKr _ _ contNe ?_); (try clear hKn hKr Kq); (try dsimp only)) | (k_unfold; (try dsimp only)) | (k_end; wrow_close) | walk1 | (dsimp only; walk1) | (leave1; try dsimp only) | fail "no step"))
  refine at_list (L := L) (vs := sv) (e := e0) (S := G) (G := G) (mu := []) (tl := []) rfl rfl rfl rfl V F N hsl (fun _ h => nomatch h)
    (fun i m mu S' => mu = [] ∧ (spots.take i).find? (isNum0 ts) = none ∧ TupsT S' vs ts ∧ Tbl w S' td tab ∧ S'.get? l = some (lstO vs e) ∧ S'.get? sl = some (lstO sv e0) ∧ Same [Str.ofString "spot"] (fun y => List.lookup y [(Str.ofString "trees", Value.ref l), (Str.ofString "spots", .ref sl), (Str.ofString "table", .ref td)].reverse) m) ?h0 ?turn ?done
  case h0 => exact ⟨rfl, rfl, hN, hT, hl, hsl, Same.refl⟩
  case turn =>
    rintro s' ⟨h9, rfl⟩
    intro i v m₁ m₂ mu₁ S₁ tl₁ h tk own hi hP hJx12 V₁ hS hown hmu hrf13 F₁ N₁
    (first | ((try dsimp only); k_unmd; k_fold) | skip)
    refine hide fun Pq9 hq9 => ?_
    obtain ⟨rfl, hx9⟩ := hJx12
    refine ands6 hx9 fun hnone hN₁ hT₁ hl₁ hsl₁ hm => ?_
    clear hx9
    subst hrf13
    obtain ⟨u, rfl⟩ : ∃ u, m₁ = fun z => if [Str.ofString "spot"].contains z then u z else (fun y => List.lookup y [(Str.ofString "trees", Value.ref l), (Str.ofString "spots", .ref sl), (Str.ofString "table", .ref td)].reverse) z := ⟨m₁, hm.eq⟩
    simp only [List.nil_append] at N₁
    obtain ⟨n, tn, rfl, hn⟩ := natsAt hI hP
    have hnl := hsp n (List.mem_of_getElem? hn)
    obtain ⟨t, ht⟩ : ∃ t, ts[n]? = some t := ⟨_, List.getElem?_eq_getElem hnl⟩
    obtain ⟨v, hv, hvt⟩ : ∃ v, vs[n]? = some v ∧ TupT S₁ v t := by
      have hlt : n < vs.length := by rw [hN₁.length]; exact hnl
      obtain ⟨t', h1, h2⟩ := hN₁.get (List.getElem?_eq_getElem hlt)
      rw [ht] at h1; cases h1
      exact ⟨_, List.getElem?_eq_getElem hlt, h2⟩
    cases hvt with
    | @mk a lk num tnn ea eb ks kts ga gl gk =>
      by_cases h0 : num = 0
      · subst h0
        have hz : isNum0 ts n = true := by unfold isNum0; rw [ht]; rfl
        have hst : standN tab ts spots = n := by unfold standN; rw [find_at hn hz hnone]
        have hz2 : ((0 : Nat) : Int) = 0 := rfl
        refine hq9 ?_; clear hq9 Pq9
        (first | ((try dsimp only); k_unmd; k_fold) | skip)
        (repeat' (first | ((with_reducible first | refine hKn _ ?_ | refine hKr _ _ retNe ?_ | refine hKr _ _ contNe ?_); (try clear hKn hKr Kq); (try dsimp only)) | (k_unfold; (try dsimp only)) | (k_end; wrow_close) | walk1 | (dsimp only; walk1) | (leave1; try dsimp only) | fail "no step"))
        first | exact hQ _ _ _ S₁ F₁.keep V₁.grow (V₁.up F₁ N₁ (by walk_at "tb")) ⟨_, by rw [hst]⟩ | exact hKr _ _ retNe (hQ _ _ _ S₁ F₁.keep V₁.grow (V₁.up F₁ N₁ (by walk_at "tb")) ⟨_, by rw [hst]⟩)
      · have hz : isNum0 ts n = false := by unfold isNum0; rw [ht]; simpa [Tr.num] using h0
        refine hq9 ?_; clear hq9 Pq9
        (first | ((try dsimp only); k_unmd; k_fold) | skip)
        (repeat' (first | ((with_reducible first | refine hKn _ ?_ | refine hKr _ _ retNe ?_ | refine hKr _ _ contNe ?_); (try clear hKn hKr Kq); (try dsimp only)) | (k_unfold; (try dsimp only)) | (k_end; wrow_close) | walk1 | (dsimp only; walk1) | (leave1; try dsimp only) | fail "no step"))
        · exact TurnEnd.nil V₁ (fun _ _ e => e) hown F₁ N₁ ⟨rfl, find_step hn hz hnone, hN₁, hT₁, hl₁, hsl₁, by (repeat' (first | assumption | exact Same.nf | exact Same.refl | refine Same.set rfl ?_))⟩
  case done =>
    intro m₁ mu₁ S₁ tl₁ h tk hJx14 V₁ hS hmu F₁ N₁
    (first | ((try dsimp only); k_unmd; k_fold) | skip)
    refine hide fun Pq9 hq9 => ?_
    obtain ⟨rfl, hx9⟩ := hJx14
    refine ands6 hx9 fun hnone hN₁ hT₁ hl₁ hsl₁ hm => ?_
    clear hx9
    obtain ⟨u, rfl⟩ : ∃ u, m₁ = fun z => if [Str.ofString "spot"].contains z then u z else (fun y => List.lookup y [(Str.ofString "trees", Value.ref l), (Str.ofString "spots", .ref sl), (Str.ofString "table", .ref td)].reverse) z := ⟨m₁, hm.eq⟩
    simp only [List.nil_append] at N₁
    rw [hlen, List.take_length] at hnone
    have hno : ∀ n ∈ spots, isNum0 ts n = false := fun n hn => by have := List.find?_eq_none.mp hnone n hn; simpa using this
    refine hq9 ?_; clear hq9 Pq9
    (first | ((try dsimp only); k_unmd; k_fold) | skip)
    (repeat' (first | ((with_reducible first | refine hKn _ ?_ | refine hKr _ _ retNe ?_ | refine hKr _ _ contNe ?_); (try clear hKn hKr Kq); (try dsimp only)) | (k_unfold; (try dsimp only)) | (k_end; wrow_close) | walk1 | (dsimp only; walk1) | (leave1; try dsimp only) | fail "no step"))
    refine at_list (L := L) (vs := sv) (e := e0) (S := S₁) (G := G) (mu := []) (tl := tl₁) rfl rfl rfl rfl V₁ F₁ N₁ hsl₁ (fun _ h => nomatch h)
      (fun i m mu S' => mu = [] ∧ (spots.take i).find? (isFirst tab ts) = none ∧ TupsT S' vs ts ∧ Tbl w S' td tab ∧ S'.get? l = some (lstO vs e) ∧ S'.get? sl = some (lstO sv e0) ∧ Same [Str.ofString "spot"] (fun y => List.lookup y [(Str.ofString "trees", Value.ref l), (Str.ofString "spots", .ref sl), (Str.ofString "table", .ref td)].reverse) m) ?h0 ?turn ?done
    case h0 => exact ⟨rfl, rfl, hN₁, hT₁, hl₁, hsl₁, by (repeat' (first | assumption | exact Same.nf | exact Same.refl | refine Same.set rfl ?_))⟩
    case turn =>
      clear hN₁ hT₁ hl₁ hsl₁ hm
      rintro s' ⟨h9, rfl⟩
      intro i v m₁ m₂ mu₁ S₂ tl₂ h tk own hi hP hJx16 V₂ hS2 hown hmu hrf17 F₂ N₂
      (first | ((try dsimp only); k_unmd; k_fold) | skip)
      refine hide fun Pq9 hq9 => ?_
      obtain ⟨rfl, hx9⟩ := hJx16
      refine ands6 hx9 fun hnone2 hN₂ hT₂ hl₂ hsl₂ hm => ?_
      clear hx9
      subst hrf17
      obtain ⟨u, rfl⟩ : ∃ u, m₁ = fun z => if [Str.ofString "spot"].contains z then u z else (fun y => List.lookup y [(Str.ofString "trees", Value.ref l), (Str.ofString "spots", .ref sl), (Str.ofString "table", .ref td)].reverse) z := ⟨m₁, hm.eq⟩
      simp only [List.nil_append] at N₂
      obtain ⟨n, tn, rfl, hn⟩ := natsAt hI hP
      have hmem := List.mem_of_getElem? hn
      have hnl := hsp n hmem
      obtain ⟨t, ht⟩ : ∃ t, ts[n]? = some t := ⟨_, List.getElem?_eq_getElem hnl⟩
      obtain ⟨v, hv, hvt⟩ : ∃ v, vs[n]? = some v ∧ TupT S₂ v t := by
        have hlt : n < vs.length := by rw [hN₂.length]; exact hnl
        obtain ⟨t', h1, h2⟩ := hN₂.get (List.getElem?_eq_getElem hlt)
        rw [ht] at h1; cases h1
        exact ⟨_, List.getElem?_eq_getElem hlt, h2⟩
      cases hvt with
      | @mk a lk num tnn ea eb ks kts ga gl gk =>
        have hz := hno n hmem
        have h0 : ¬ num = 0 := by unfold isNum0 at hz; rw [ht] at hz; simpa [Tr.num] using hz
        have okn : wtab tab num := (ok _ (List.mem_of_getElem? ht)).resolve_left h0
        obtain ⟨kvs, hD, hE⟩ := hT₂.dict
        refine ex10 (hE _ okn) fun a' l' t0 t1 tz tb e' x0 x1 z hx9 => ?_
        refine ands2 hx9 fun hvv ha => ?_
        clear hx9
        cases hb : (entry tab num).2 with
        | false =>
          have hz : isFirst tab ts n = true := by unfold isFirst; rw [ht]; simp [Tr.num, hb]
          have hst : standN tab ts spots = n := by unfold standN; rw [List.find?_eq_none.mpr (fun x hx => by simp [hno x hx])]; dsimp only; rw [find_at hn hz hnone2]
          rw [hb] at ha
          refine hq9 ?_; clear hq9 Pq9
          (first | ((try dsimp only); k_unmd; k_fold) | skip)
          (repeat' (first | ((with_reducible first | refine hKn _ ?_ | refine hKr _ _ retNe ?_ | refine hKr _ _ contNe ?_); (try clear hKn hKr Kq); (try dsimp only)) | (k_unfold; (try dsimp only)) | (k_end; wrow_close) | walk1 | (dsimp only; walk1) | (leave1; try dsimp only) | fail "no step"))
          first | exact hQ _ _ _ S₂ F₂.keep V₂.grow (V₂.up F₂ N₂ (by walk_at "tb")) ⟨_, by rw [hst]⟩ | exact hKr _ _ retNe (hQ _ _ _ S₂ F₂.keep V₂.grow (V₂.up F₂ N₂ (by walk_at "tb")) ⟨_, by rw [hst]⟩)
        | true =>
          have hz : isFirst tab ts n = false := by unfold isFirst; rw [ht]; simp [Tr.num, hb]
          rw [hb] at ha
          refine hq9 ?_; clear hq9 Pq9
          (first | ((try dsimp only); k_unmd; k_fold) | skip)
          (repeat' (first | ((with_reducible first | refine hKn _ ?_ | refine hKr _ _ retNe ?_ | refine hKr _ _ contNe ?_); (try clear hKn hKr Kq); (try dsimp only)) | (k_unfold; (try dsimp only)) | (k_end; wrow_close) | walk1 | (dsimp only; walk1) | (leave1; try dsimp only) | fail "no step"))
          exact TurnEnd.nil V₂ (fun _ _ e => e) hown F₂ N₂ ⟨rfl, find_step hn hz hnone2, hN₂, hT₂, hl₂, hsl₂, by (repeat' (first | assumption | exact Same.nf | exact Same.refl | refine Same.set rfl ?_))⟩
    case done =>
      clear hN₁ hT₁ hl₁ hsl₁ hm
      intro m₁ mu₁ S₂ tl₂ h tk hJx18 V₂ hS2 hmu F₂ N₂
      (first | ((try dsimp only); k_unmd; k_fold) | skip)
      refine hide fun Pq9 hq9 => ?_
      obtain ⟨rfl, hx9⟩ := hJx18
      refine ands6 hx9 fun hnone2 hN₂ hT₂ hl₂ hsl₂ hm => ?_
      clear hx9
      obtain ⟨u, rfl⟩ : ∃ u, m₁ = fun z => if [Str.ofString "spot"].contains z then u z else (fun y => List.lookup y [(Str.ofString "trees", Value.ref l), (Str.ofString "spots", .ref sl), (Str.ofString "table", .ref td)].reverse) z := ⟨m₁, hm.eq⟩
      simp only [List.nil_append] at N₂
      rw [hlen, List.take_length] at hnone2
      obtain ⟨v0, hv0⟩ : ∃ v, sv[0]? = some v := ⟨_, List.getElem?_eq_getElem (by rw [hlen]; exact List.length_pos_iff.mpr hne)⟩
      obtain ⟨n, tn, rfl, hn⟩ := natsAt hI hv0
      have hst : standN tab ts spots = n := by unfold standN; rw [List.find?_eq_none.mpr (fun x hx => by simp [hno x hx])]; dsimp only; rw [hnone2]; dsimp only; rw [List.headD_eq_head?_getD, List.head?_eq_getElem?, hn]; rfl
      refine hq9 ?_; clear hq9 Pq9
      (first | ((try dsimp only); k_unmd; k_fold) | skip)
      (repeat' (first | ((with_reducible first | refine hKn _ ?_ | refine hKr _ _ retNe ?_ | refine hKr _ _ contNe ?_); (try clear hKn hKr Kq); (try dsimp only)) | (k_unfold; (try dsimp only)) | (k_end; wrow_close) | walk1 | (dsimp only; walk1) | (leave1; try dsimp only) | fail "no step"))
      exact hQ _ _ _ S₂ F₂.keep V₂.grow (V₂.up F₂ N₂ (by walk_at "tb")) ⟨_, by rw [hst]⟩
end

section
/-- the lists of the kids' places -/
noncomputable def LinksOk (S : Heap) (lks : List Value) (lts : List Tr) : Prop :=
  ∀ (i : Nat) v, lks[i]? = some v → ∃ (b : Addr) (ps : List Nat) (e : Nat) (ws : List Value) (T : Tr), v = .ref b ∧ S.get? b = some (lstO ws e) ∧ IntsAre ws (ps.map fun n : Nat => (n : Int)) ∧ lts[i]? = some T ∧ ps.length = T.kids.length ∧ ps.length ≤ 1000 ∧
    ∀ (j p : Nat), ps[j]? = some p → i < p ∧ ∃ K, T.kids[j]? = some K ∧ lts[p]? = some K
theorem LinksOk.mono {S S' : Heap} (k : S.StaysIn S') {lks : List Value} {lts : List Tr} (h : LinksOk S lks lts) : LinksOk S' lks lts := fun i v hv => by
  obtain ⟨b, ps, e, ws, T, h1, h2, h3⟩ := h i v hv
  exact ⟨b, ps, e, ws, T, h1, k _ _ h2, h3⟩
theorem getApp {α : Type} {l r : List α} {i : Nat} {a : α} (h : l[i]? = some a) : (l ++ r)[i]? = some a := by
  rw [List.getElem?_append_left (List.getElem?_eq_some_iff.mp h).1]; exact h
theorem LinksOk.next {S : Heap} {lks : List Value} {lts ks : List Tr} {n e : Nat} {b : Addr} {ws : List Value} (hk : ks.length ≤ 1000) (h : LinksOk S lks lts) (hT : lts[lks.length]? = some (.mk n ks)) (hb : S.get? b = some (lstO ws e))
    (hw : IntsAre ws (((List.range ks.length).map fun j => lts.length + j).map fun n : Nat => (n : Int))) : LinksOk S (lks ++ [.ref b]) (lts ++ ks) := fun i v hv => by
  by_cases hi : i < lks.length
  · rw [List.getElem?_append_left hi] at hv
    obtain ⟨b', ps, e', ws', T, h1, h2, h3, h4, h5, h5', h6⟩ := h i v hv
    exact ⟨b', ps, e', ws', T, h1, h2, h3, getApp h4, h5, h5', fun j p hp => by obtain ⟨q1, K, q2, q3⟩ := h6 j p hp; exact ⟨q1, K, q2, getApp q3⟩⟩
  · have hi' : i = lks.length := by
      have := (List.getElem?_eq_some_iff.mp hv).1
      rw [List.length_append, List.length_singleton] at this; omega
    subst hi'
    rw [List.getElem?_concat_length] at hv
    cases hv
    refine ⟨b, _, e, ws, .mk n ks, rfl, hb, hw, getApp hT, by simp [Tr.kids], by simpa using hk, fun j p hp => ?_⟩
    rw [List.getElem?_map] at hp
    obtain ⟨q, h1, h2⟩ := Option.map_eq_some_iff.mp hp
    obtain ⟨hj, h3⟩ := List.getElem?_eq_some_iff.mp h1
    rw [List.getElem_range] at h3
    rw [List.length_range] at hj
    subst h3; subst h2
    have := (List.getElem?_eq_some_iff.mp hT).1
    refine ⟨by omega, ks[j], List.getElem?_eq_getElem hj, ?_⟩
    rw [List.getElem?_append_right (Nat.le_add_right _ _), Nat.add_sub_cancel_left]
    exact List.getElem?_eq_getElem hj
theorem IntsAre_range {f : Nat → Int} {ys : List Value} {i : Nat} (h : IntsAre ys ((List.range i).map f)) {k : Int} (t : Nat) (hk : k = f i) : IntsAre (ys ++ [.int k t]) ((List.range (i + 1)).map f) := by
  rw [List.range_succ, List.map_append, List.map_singleton, ← hk]; exact IntsAre.append h (.cons _ t .nil)

theorem AllLt.mem {d : Addr} {l : List (Addr × Obj)} (h : AllLt d l) : ∀ p ∈ l, p.1 < d := by
  induction l with
  | nil => intro p hp; exact absurd hp List.not_mem_nil
  | cons q r ih =>
    intro p hp
    rcases List.mem_cons.mp hp with rfl | hp
    · exact h.1
    · exact ih h.2 p hp

theorem pl_eq (p i : Nat) : ((p + (i + 1) : Nat) : Int) - 1 + (i : Int) * -1 = (p : Int) := by omega
theorem told_spec (w : World) {x : Addr} {t : Tr} (hsz : t.size ≤ 1000) :
    HSpec w 33 3 [.ref x] (fun G => NodeT G (.ref x) t) (fun G r => ToldT G r t) := by
  rintro p loose mg mb dp un fr gd s Q E G hdp hun X T hG hN hQ
  refine' enterC (binds := [(Str.ofString "self", .ref x)]) X T ?ho ?hcd ?hroom ?hb ?hkd ?hnd ?h ?c1 ?c2 ?c3
  case hroom => (show _ < 1000; walk_at "dp")
  case ho => k_is
  case hcd => k_is
  case hb => exact BindsTo.of_eq rfl
  case hkd => exact rfl
  case hnd => decide
  case c1 => exact rfl
  case c2 => exact rfl
  case c3 => exact rfl
  intro L h₁ tk0 cells F N hC
  have V := View.start (L := L) hG F.above
  refine hide fun Pq9 hq9 => ?_
  obtain ⟨o1, o2, rfl, ho1, ho2⟩ := CellsAre.two hC
  clear hC
  replace F : Fr s.heap L h₁ (fun y => if y = Str.ofString "self" then some (Value.ref x) else none) := F
  replace ho1 : o1.data = .cell none := ho1
  replace ho2 : o2.data = .cell none := ho2
  refine hq9 ?_; clear hq9 Pq9
  (first | ((try dsimp only); k_unmd; k_fold) | skip)
  clear hun hdp E
  (repeat' (first | ((with_reducible first | refine hKn _ ?_ | refine hKr _ _ retNe ?_ | refine hKr _ _ contNe ?_); (try clear hKn hKr Kq); (try dsimp only)) | (with_reducible first | refine v_lt_int_t (by with_reducible assumption) ?_ | refine v_lt_int_f (by with_reducible assumption) ?_) | ((with_reducible refine v_mul_none ‹_› ‹_› (by walk_at "rl") (by k_dflt omega) ?_); walk_at "kl") | ((with_reducible refine v_tuple_list ‹_› ‹_› (by walk_at "rl") (by walk_at "un") ?_); walk_at "kl") | (k_unfold; (try dsimp only)) | (k_end; wrow_close) | walk1 | (dsimp only; walk1) | (leave1; try dsimp only) | fail "no step"))
  rename_i la hA lA ld hB lB td2 hD lD hE hF oc hoc hH FF NF
  replace hoc : oc.data = .cell (some (.ref la)) := hoc
  refine hide fun Pq9 hq9 => ?_
  obtain ⟨S0, tl0, V0, hS0, ha0, hn0, hs0⟩ := V.adds FF NF (fun _ h => nomatch h) [(la, lstO [.ref x] 0)] (sub_cons (.tail _ (.tail _ (.head _))) sub_nil)
  have hnG : ∀ q : Addr, @LE.le Nat _ L q → G.get? q = none := fun q hq => by
    cases e : G.get? q with
    | none => rfl
    | some o => exact absurd (Nat.lt_of_lt_of_le (Heap.lt_size (hG _ _ e)) (Nat.le_trans FF.above hq)) (Nat.lt_irrefl _)
  have sub0 : ∀ p ∈ [(ld, lstO [] 0), (L + 1 + 1, o1), (L + 1, oc)] ++ tl0, p ∈ [(td2, tupO [Value.ref la, Value.ref ld] 0), (ld, lstO [] 0), (la, lstO [Value.ref x] 0), (L + 1 + 1, o1), (L + 1, oc)] :=
    sub_app (sub_cons (.tail _ (.head _)) (sub_t (sub_t (sub_t sub_refl)))) hs0
  have mu0 : ∀ p ∈ [(ld, lstO [] 0), (L + 1 + 1, o1), (L + 1, oc)], S0.get? p.1 = none :=
    off_cons (hn0 _ (hnG _ (by dsimp only; omega)) (off_cons (by dsimp only; exact Nat.ne_of_lt (by omega)) off_nil))
      (off_cons (hn0 _ (hnG _ (by dsimp only; omega)) (off_cons (by dsimp only; exact Nat.ne_of_gt (by omega)) off_nil))
      (off_cons (hn0 _ (hnG _ (by dsimp only; omega)) (off_cons (by dsimp only; exact Nat.ne_of_gt (by omega)) off_nil)) off_nil))
  have d1 : @LT.lt Nat _ (L + 1 + 1) ld := by omega
  refine hq9 ?_; clear hq9 Pq9
  refine at_while (L := L) (S := S0) (G := G) (mu := [(ld, lstO [] 0), (L + 1 + 1, o1), (L + 1, oc)]) (tl := tl0) V0 FF (fun p hp => NF p (sub0 p hp)) mu0
    (fun k m mu S' => ∃ (la : Addr) (vs : List Value) (ev : Nat) (lts : List Tr) (lks : List Value) (el : Nat) (oc : Obj), k = Tr.sizes (lts.drop lks.length) ∧ mu = [(ld, lstO lks el), (L + 1 + 1, o1), (L + 1, oc)] ∧ oc.data = .cell (some (.ref la)) ∧ S'.get? la = some (lstO vs ev) ∧ NodesT S' vs lts ∧
      LinksOk S' lks lts ∧ lks.length + Tr.sizes (lts.drop lks.length) = t.size ∧ lts[0]? = some t ∧ lks.length ≤ lts.length ∧ Same [Str.ofString "node"] (fun y => if y = Str.ofString "links" then some (Value.ref ld) else if y = Str.ofString "self" then some (Value.ref x) else none) m) (Tr.sizes [t]) ?h0 ?turn
  case h0 =>
    exact ⟨la, [.ref x], 0, [t], [], 0, oc, rfl, rfl, hoc, ha0 _ (.head _), .cons (hN.mono hS0) .nil, fun i v hv => by simp at hv, by simp [Tr.sizes], rfl, Nat.zero_le _, Same.refl⟩
  case turn =>
    clear hoc ha0 sub0 mu0
    intro k m₁ mu₁ S₁ tl₁ h tk hJx19 V₁ hS hmu F₁ N₁
    (first | ((try dsimp only); k_unmd; k_fold) | skip)
    refine hide fun Pq9 hq9 => ?_
    obtain ⟨la, vs, ev, lts, lks, el, oc, rfl, rfl, hx9⟩ := hJx19
    refine ands8 hx9 fun hoc hla hvs hlk hsum ht0 hle hm => ?_
    clear hx9
    obtain ⟨u, rfl⟩ : ∃ u, m₁ = fun z => if [Str.ofString "node"].contains z then u z else (fun y => if y = Str.ofString "links" then some (Value.ref ld) else if y = Str.ofString "self" then some (Value.ref x) else none) z := ⟨m₁, hm.eq⟩
    simp only [List.cons_append, List.nil_append] at N₁
    have hld : S₁.get? ld = none := hmu _ (.head _)
    have hc2 : S₁.get? (L + 1 + 1) = none := hmu _ (.tail _ (.head _))
    have hc1 : S₁.get? (L + 1) = none := hmu _ (.tail _ (.tail _ (.head _)))
    have hvl := hvs.length
    have hdl := Tr.len_le (lts.drop lks.length)
    rw [List.length_drop] at hdl
    have hb1 : vs.length ≤ 1000 := by omega
    have hb2 : lks.length ≤ 1000 := by omega
    by_cases hlt : lks.length < vs.length
    · have hltI : ((lks.length : Nat) : Int) < ((vs.length : Nat) : Int) := by omega
      obtain ⟨v, hv⟩ : ∃ v, vs[lks.length]? = some v := ⟨_, List.getElem?_eq_getElem hlt⟩
      obtain ⟨T1, hT1, hvT⟩ := hvs.get hv
      cases hvT with
      | @mk xx d lk n h1 h2 t1 t2 tn ek' kvs ks gx gd gl gk =>
        have hgl := gk.length
        have e : lts.drop lks.length = .mk n ks :: lts.drop (lks.length + 1) := by rw [← List.getElem_cons_drop (List.getElem?_eq_some_iff.mp hT1).1, (List.getElem?_eq_some_iff.mp hT1).2]
        have hsum2 := hsum
        rw [e, Tr.sizes, Tr.size] at hsum2
        have := Tr.len_le ks
        have hkb : kvs.length ≤ 1000 := by omega
        refine hq9 ?_; clear hq9 Pq9
        (first | ((try dsimp only); k_unmd; k_fold) | skip)
        clear hb2 hc1 hc2 hld hS d1 hnG hs0 hn0 hS0 V0 tl0 S0 NF FF hF hE lD td2 lA ho2 ho1 o2 V tk0 h₁ hQ hN hG
        (repeat' (first | ((with_reducible first | refine hKn _ ?_ | refine hKr _ _ retNe ?_ | refine hKr _ _ contNe ?_); (try clear hKn hKr Kq); (try dsimp only)) | (with_reducible first | refine v_lt_int_t (by with_reducible assumption) ?_ | refine v_lt_int_f (by with_reducible assumption) ?_) | ((with_reducible refine v_mul_none ‹_› ‹_› (by walk_at "rl") (by k_dflt omega) ?_); walk_at "kl") | ((with_reducible refine v_tuple_list ‹_› ‹_› (by walk_at "rl") (by walk_at "un") ?_); walk_at "kl") | (k_unfold; (try dsimp only)) | (k_end; wrow_close) | walk1 | (dsimp only; walk1) | (leave1; try dsimp only) | fail "no step"))
        rename_i hA FA NA tkA hB tkB rt ru rv hR FR NR kR
        have X1 := X.keeps FR.keep
        have T1 := T.keeps FR.keep
        have hcl1 := (NR (L + 1, oc) (by k_mem)).1
        have hrs : Builtin.Range.rangeSize 0 (kvs.length : Int) 1 = (kvs.length : Int) := by rw [rangeSize_nat]; omega
        have hsm : Builtin.Range.small 0 (kvs.length : Int) 1 = true := small_one (by omega) (by omega) (by omega) (by omega)
        refine at_comp (L := L) (S := S₁) (G := G) (mu := [(ld, lstO lks el), (L + 1 + 1, o1), (L + 1, oc)]) (tl := tl₁) (walks_range hR hsm hrs) (Walks.range rfl _ 0 1 kvs.length) (fun _ _ st => ⟨_, st⟩) (fun b hb hbI => absurd (List.mem_singleton.mp hb) hbI) walks_range0 (by decide) rfl rfl V₁ FR NR hmu (by rw [sizeLine_eq]; omega)
          (fun i ys S' => S'.get? la = some (lstO vs ev) ∧ IntsAre ys ((List.range i).map fun j => ((lts.length + j : Nat) : Int)) ∧ ys.length ≤ i) ⟨hla, .nil, Nat.le_refl _⟩ (fun i ys S' hj => hj.2.2) ?cturn ?cdone
        case cturn =>
          rintro s' ⟨h9, rfl⟩
          intro i v ys S₂ tl₂ h tk C own m₀ hi hJx21 hJx22 V₂ hS2 hown F₂ N₂
          refine hide fun Pq9 hq9 => ?_
          obtain ⟨t9, rfl⟩ := hJx21
          obtain ⟨hla2, hys, hyl⟩ := hJx22
          refine hq9 ?_; clear hq9 Pq9
          refine tested_nil ?_
          (first | ((try dsimp only); k_unmd; k_fold) | skip)
          clear hS2 hi h9 hsm hrs kR hR rv ru rt tkA NA hA hkb this hsum2 e hgl hT1 hv gk gl gd gx ks kvs ek' tn t2 t1 h2 h1 n lk d hltI hlt hm ht0 hlk hla hmu V₁ hD lB
          (repeat' (first | ((with_reducible first | refine hKn _ ?_ | refine hKr _ _ retNe ?_ | refine hKr _ _ contNe ?_); (try clear hKn hKr Kq); (try dsimp only)) | (with_reducible first | refine v_lt_int_t (by with_reducible assumption) ?_ | refine v_lt_int_f (by with_reducible assumption) ?_) | ((with_reducible refine v_mul_none ‹_› ‹_› (by walk_at "rl") (by k_dflt omega) ?_); walk_at "kl") | ((with_reducible refine v_tuple_list ‹_› ‹_› (by walk_at "rl") (by walk_at "un") ?_); walk_at "kl") | (k_unfold; (try dsimp only)) | (k_end; wrow_close) | walk1 | (dsimp only; walk1) | (leave1; try dsimp only) | fail "no step"))
          exact CEnd.same V₂ hown F₂ N₂ ⟨hla2, IntsAre_range hys _ (by rw [hvl]; push_cast; omega), by rw [List.length_append, List.length_singleton]; omega⟩
        case cdone =>
          intro D h tk ys S' tl' F' N' V' hS2 hD hmu2 hne hJ
          simp only [List.cons_append, List.nil_append] at N'
          have hDld : @Ne Nat D ld := fun q => hne _ _ (NR (ld, lstO lks el) (by k_mem)).1 q.symm
          have hD1 : @Ne Nat D (L + 1) := fun q => hne _ _ (NR (L + 1, oc) (by k_mem)).1 q.symm
          have hD2 : @Ne Nat D (L + 1 + 1) := fun q => hne _ _ (NR (L + 1 + 1, o1) (by k_mem)).1 q.symm
          have hyl := IntsAre.length hJ.2.1
          have gx' := hS2 _ _ gx
          have gd' := hS2 _ _ gd
          have gl' := hS2 _ _ gl
          have hla' := hJ.1
          have hld' : S'.get? ld = none := hmu2 _ (.head _)
          have hc2' : S'.get? (L + 1 + 1) = none := hmu2 _ (.tail _ (.head _))
          have hc1' : S'.get? (L + 1) = none := hmu2 _ (.tail _ (.tail _ (.head _)))
          rw [List.length_map, List.length_range] at hyl
          (first | ((try dsimp only); k_unmd; k_fold) | skip)
          clear hyl hmu2 hD hsm hrs hcl1 kR hR rv ru rt tkA NA hA hv gl gd gx hltI hla hmu V₁
          (repeat' (first | ((with_reducible first | refine hKn _ ?_ | refine hKr _ _ retNe ?_ | refine hKr _ _ contNe ?_); (try clear hKn hKr Kq); (try dsimp only)) | (with_reducible first | refine v_lt_int_t (by with_reducible assumption) ?_ | refine v_lt_int_f (by with_reducible assumption) ?_) | ((with_reducible refine v_mul_none ‹_› ‹_› (by walk_at "rl") (by k_dflt omega) ?_); walk_at "kl") | ((with_reducible refine v_tuple_list ‹_› ‹_› (by walk_at "rl") (by walk_at "un") ?_); walk_at "kl") | (k_unfold; (try dsimp only)) | (k_end; wrow_close) | walk1 | (dsimp only; walk1) | (leave1; try dsimp only) | fail "no step"))
          rename_i hE1 D2 hE2 l2 hE3 oc2 F3 N3 d3
          refine hide fun Pq9 hq9 => ?_
          obtain ⟨S3, tl3, V3, hS3, ha3, hn3, hs3⟩ := V'.adds F3 N3 (by walk_at "tb") [(D2, lstO (vs ++ kvs) 0), (D, lstO ys ys.length)] (sub_cons (.head _) (sub_cons (.tail _ (.head _)) sub_nil))
          have ne3 : ∀ q : Addr, D2 ≠ q → D ≠ q → ∀ p ∈ [(D2, lstO (vs ++ kvs) 0), (D, lstO ys ys.length)], p.1 ≠ q := fun q h1 h2 => off_cons h1 (off_cons h2 off_nil)
          have e2 : (lts ++ ks).drop (lks ++ [Value.ref D]).length = lts.drop (lks.length + 1) ++ ks := by
            rw [List.length_append, List.length_singleton, List.drop_append_of_le_length (by omega)]
          refine hq9 ?_; clear hq9 Pq9
          refine WEnd.mk (k' := Tr.sizes ((lts ++ ks).drop (lks ++ [Value.ref D]).length)) (mu' := [(ld, lstO (lks ++ [Value.ref D]) (el + 1)), (L + 1 + 1, o1), (L + 1, oc2)]) ?_ V3 (fun b o h => hS3 b o (hS2 b o h)) ?_ F3 (News.sub N3 ?_)
            ⟨D2, vs ++ kvs, 0, lts ++ ks, lks ++ [.ref D], el + 1, oc2, rfl, rfl, d3, ha3 _ (.head _), ((hvs.mono hS2).append (gk.mono hS2)).mono hS3, LinksOk.next (by omega) (LinksOk.mono hS3 (LinksOk.mono hS2 hlk)) hT1 (ha3 _ (.tail _ (.head _))) (by have := hJ.2.1; rw [hgl] at this; rw [List.map_map]; exact this), ?_, getApp ht0, ?_, by (repeat' (first | assumption | exact Same.nf | exact Same.refl | refine Same.set rfl ?_))⟩
          · rw [e2, e, Tr.sizes_append, Tr.sizes, Tr.size]; omega
          · exact off_cons (hn3 _ hld' (ne3 _ (Nat.ne_of_gt l2.2.1) hDld)) (off_cons (hn3 _ hc2' (ne3 _ (Nat.ne_of_gt l2.2.2.1) hD2)) (off_cons (hn3 _ hc1' (ne3 _ (Nat.ne_of_gt l2.2.2.2.1) hD1)) off_nil))
          · exact sub_app (sub_cons (.tail _ (.tail _ (.head _))) (sub_cons (.tail _ (.tail _ (.tail _ (.head _)))) (sub_cons (.tail _ (.tail _ (.tail _ (.tail _ (.head _))))) sub_nil))) hs3
          · rw [e2, Tr.sizes_append, List.length_append, List.length_singleton]; omega
          · rw [List.length_append, List.length_append, List.length_singleton]; omega
    · have hltI : ¬ ((lks.length : Nat) : Int) < ((vs.length : Nat) : Int) := by omega
      refine hq9 ?_; clear hq9 Pq9
      (first | ((try dsimp only); k_unmd; k_fold) | skip)
      clear hb2 hS hnG hs0 hn0 hS0 V0 tl0 S0 NF FF hF hE lD td2 ho2 o2 V tk0 h₁ hN hG
      (repeat' (first | ((with_reducible first | refine hKn _ ?_ | refine hKr _ _ retNe ?_ | refine hKr _ _ contNe ?_); (try clear hKn hKr Kq); (try dsimp only)) | (with_reducible first | refine v_lt_int_t (by with_reducible assumption) ?_ | refine v_lt_int_f (by with_reducible assumption) ?_) | ((with_reducible refine v_mul_none ‹_› ‹_› (by walk_at "rl") (by k_dflt omega) ?_); walk_at "kl") | ((with_reducible refine v_tuple_list ‹_› ‹_› (by walk_at "rl") (by walk_at "un") ?_); walk_at "kl") | (k_unfold; (try dsimp only)) | (k_end; wrow_close) | walk1 | (dsimp only; walk1) | (leave1; try dsimp only) | fail "no step"))
      rename_i nd hA lA rd hB lB hC orw FC NC dR hR tkR rt ru rv hRR FR NR kR
      have hlen : lks.length = lts.length := by omega
      have hpos : 0 < vs.length := by have := (List.getElem?_eq_some_iff.mp ht0).1; omega
      have hrs : Builtin.Range.rangeSize ((vs.length : Int) - 1) (-1) (-1) = (vs.length : Int) := by
        unfold Builtin.Range.rangeSize
        rw [if_neg (by decide), if_pos (by omega), show (-(-1 : Int)) = 1 from rfl, Int.ediv_one]
        omega
      have hsm : Builtin.Range.small ((vs.length : Int) - 1) (-1) (-1) = true := by
        unfold Builtin.Range.small
        rw [hrs]
        simp only [Builtin.Range.rangeFitsLong, Bool.and_eq_true, Bool.or_eq_true, decide_eq_true_eq, beq_iff_eq, show ¬ ((-1 : Int) > 0) by decide, if_false]
        omega
      have nrd : S₁.get? rd = none := V₁.notNew (nw := [(rd, lstO (List.replicate vs.length Value.none) 0)]) (fun p hp => by rw [List.mem_singleton.mp hp]; exact NR _ (.head _)) (.head _) (AllLt.mem lB.2.2.2.2)
      refine at_range (L := L) (S := S₁) (G := G) (mu := [(rd, lstO (List.replicate vs.length Value.none) 0), (ld, lstO lks el), (L + 1 + 1, orw), (L + 1, oc)]) (tl := tl₁) rfl rfl rfl rfl hRR hsm hrs V₁ FR (News.sub NR ?sub) ?mu
        (fun i m mu S' => ∃ rvs e, mu = [(rd, lstO rvs e), (ld, lstO lks el), (L + 1 + 1, orw), (L + 1, oc)] ∧ rvs.length = vs.length ∧ (∀ j, vs.length - i ≤ j → j < vs.length → ∃ v K, rvs[j]? = some v ∧ lts[j]? = some K ∧ ToldT S' v K) ∧
          S'.get? la = some (lstO vs ev) ∧ NodesT S' vs lts ∧ LinksOk S' lks lts ∧ Same [Str.ofString "place"] (fun z => if [Str.ofString "node"].contains z then u z else (fun y => if y = Str.ofString "links" then some (Value.ref ld) else if y = Str.ofString "self" then some (Value.ref x) else none) z) m) ?h0 ?rturn ?rdone
      case sub => exact sub_app (sub_cons (.head _) (sub_cons (.tail _ (.tail _ (.head _))) (sub_cons (.tail _ (.tail _ (.tail _ (.head _)))) (sub_cons (.tail _ (.tail _ (.tail _ (.tail _ (.head _))))) sub_nil)))) (sub_t (sub_t (sub_t (sub_t (sub_t sub_refl)))))
      case mu => exact off_cons nrd (off_cons hld (off_cons hc2 (off_cons hc1 off_nil)))
      case h0 => exact ⟨_, 0, rfl, by simp, fun j h1 h2 => by omega, hla, hvs, hlk, Same.refl⟩
      case rturn =>
        clear hmu hvs hla hlk hm hRR FC NC nrd hld hc2 hc1
        rintro s' ⟨h9, rfl⟩
        intro i v m₁ m₂ mu₁ S₂ tl₂ h tk own hi hJx24 hJx25 V₂ hS2 hown hmu hrf26 F₂ N₂
        (first | ((try dsimp only); k_unmd; k_fold) | skip)
        refine hide fun Pq9 hq9 => ?_
        obtain ⟨t9, hv9⟩ := hJx24
        obtain ⟨rvs, er, rfl, hx9⟩ := hJx25
        refine ands6 hx9 fun hrl hdone hla hvs hlk hm => ?_
        clear hx9
        subst hrf26
        obtain ⟨u', rfl⟩ : ∃ u', m₁ = fun z => if [Str.ofString "place"].contains z then u' z else (fun z => if [Str.ofString "node"].contains z then u z else (fun y => if y = Str.ofString "links" then some (Value.ref ld) else if y = Str.ofString "self" then some (Value.ref x) else none) z) z := ⟨m₁, hm.eq⟩
        obtain ⟨pl, hpl⟩ : ∃ pl : Nat, vs.length = pl + (i + 1) := ⟨vs.length - (i + 1), (Nat.sub_add_cancel hi).symm⟩
        have hplv : pl < vs.length := by rw [hpl]; exact Nat.lt_add_of_pos_right (Nat.succ_pos i)
        rw [show ((vs.length : Int) - 1 + (i : Int) * -1) = (pl : Int) by rw [hpl]; exact pl_eq pl i] at hv9
        subst hv9
        simp only [List.cons_append, List.nil_append] at N₂
        obtain ⟨hrd, hrdo⟩ := hmu _ (.head _)
        obtain ⟨v, hv⟩ : ∃ v, vs[pl]? = some v := ⟨_, List.getElem?_eq_getElem (by omega)⟩
        obtain ⟨T1, hT1, hvT⟩ := hvs.get hv
        obtain ⟨lv, hlv⟩ : ∃ v, lks[pl]? = some v := ⟨_, List.getElem?_eq_getElem (by omega)⟩
        obtain ⟨b, ps, eb, ws, T2, rfl, hx9⟩ := hlk pl lv hlv
        refine ands6 hx9 fun hb hws hT2 hpsl hpsb hps => ?_
        clear hx9
        rw [hT1] at hT2; cases hT2
        cases hvT with
        | @mk xx d lk n h1 h2 t1 t2 tn ek' kvs ks gx gd gl gk =>
          have hpsw : ws.length = ps.length := by have := IntsAre.length hws; simpa using this
          have hgl := gk.length
          have hpk : ps.length = kvs.length := by rw [hpsl, hgl]; rfl
          have hkl : kvs.length ≤ 1000 := by omega
          refine hq9 ?_; clear hq9 Pq9
          (first | ((try dsimp only); k_unmd; k_fold) | skip)
          clear hkl gl ek' hrd hS2 hsm hrs hpos hlen kR NR FR rv ru rt tkR hR hC hB lA hA hltI ht0 V₁ d1 ho1 hQ
          (repeat' (first | ((with_reducible first | refine hKn _ ?_ | refine hKr _ _ retNe ?_ | refine hKr _ _ contNe ?_); (try clear hKn hKr Kq); (try dsimp only)) | (with_reducible first | refine v_lt_int_t (by with_reducible assumption) ?_ | refine v_lt_int_f (by with_reducible assumption) ?_) | ((with_reducible refine v_mul_none ‹_› ‹_› (by walk_at "rl") (by k_dflt omega) ?_); walk_at "kl") | ((with_reducible refine v_tuple_list ‹_› ‹_› (by walk_at "rl") (by walk_at "un") ?_); walk_at "kl") | (k_unfold; (try dsimp only)) | (k_end; wrow_close) | walk1 | (dsimp only; walk1) | (leave1; try dsimp only) | fail "no step"))
          have X1 := X.keeps F₂.keep
          have T1 := T.keeps F₂.keep
          have hcr := (N₂ (L + 1 + 1, orw) (by k_mem)).1
          have hrh := (N₂ (rd, lstO rvs er) (.head _)).1
          have nld : S₂.get? ld = none := (hmu _ (.tail _ (.head _))).1
          have nc2 : S₂.get? (L + 1 + 1) = none := (hmu _ (.tail _ (.tail _ (.head _)))).1
          have nc1 : S₂.get? (L + 1) = none := (hmu _ (.tail _ (.tail _ (.tail _ (.head _))))).1
          refine at_comp_list (L := L) (S := S₂) (G := G) (vs := ws) (e := eb) (mu := [(rd, lstO rvs er), (ld, lstO lks el), (L + 1 + 1, orw), (L + 1, oc)] ++ own) (tl := tl₂) rfl (by decide) rfl rfl V₂ F₂ (fun p hp => N₂ p (by simpa [or_assoc] using hp)) ?cmu hb (by rw [sizeLine_eq]; omega)
            (fun i ys S' => ToldsT S' ys (ks.take i)) .nil (fun i ys S' hj => by rw [hj.length]; exact List.length_take_le _ _) ?cturn ?cdone
          case cmu => exact off_app (fun p hp => (hmu p hp).1) hown
          case cturn =>
            rintro s' ⟨h9, rfl⟩
            intro j v ys S₃ tl₃ h tk C own m₀ hj hPj hys V₃ hS3 hown F₃ N₃
            refine hide fun Pq9 hq9 => ?_
            obtain ⟨q, tq, rfl, hq⟩ := natsAt hws hPj
            obtain ⟨hlq, K, hK1, hK2⟩ := hps j q hq
            have hql := (List.getElem?_eq_some_iff.mp hK2).1
            obtain ⟨vv, K', hvv, hK', hvK⟩ := hdone q (by omega) (by omega)
            rw [hK2] at hK'; cases hK'
            have hq1 : q ≤ 1000 := by omega
            refine hq9 ?_; clear hq9 Pq9
            refine tested_nil ?_
            (first | ((try dsimp only); k_unmd; k_fold) | skip)
            clear hq1 hPj hq hj h9 nc1 nc2 nld hpk hgl hpsw hps hpsl hT1 hv gk gd gx kvs tn t2 t1 h2 h1 lk d xx hpsb hws hb hlv ws eb ps b hrdo hplv hm hlk hvs hla hdone hrl hmu V₂ lB nd hoc tl₁ hD
            (repeat' (first | ((with_reducible first | refine hKn _ ?_ | refine hKr _ _ retNe ?_ | refine hKr _ _ contNe ?_); (try clear hKn hKr Kq); (try dsimp only)) | (with_reducible first | refine v_lt_int_t (by with_reducible assumption) ?_ | refine v_lt_int_f (by with_reducible assumption) ?_) | ((with_reducible refine v_mul_none ‹_› ‹_› (by walk_at "rl") (by k_dflt omega) ?_); walk_at "kl") | ((with_reducible refine v_tuple_list ‹_› ‹_› (by walk_at "rl") (by walk_at "un") ?_); walk_at "kl") | (k_unfold; (try dsimp only)) | (k_end; wrow_close) | walk1 | (dsimp only; walk1) | (leave1; try dsimp only) | fail "no step"))
            exact CEnd.same V₃ hown F₃ N₃ (by rw [take_snoc (show ks[j]? = some K from hK1)]; exact hys.snoc (hvK.mono hS3))
          case cdone =>
            intro D h tk ys S' tl' F' N' V' hS3 hD hmu2 hne hJ
            simp only [List.cons_append, List.nil_append, List.append_assoc] at N'
            rw [List.take_of_length_le (by omega)] at hJ
            have hDrd : @Ne Nat D rd := fun q => hne _ _ hrh q.symm
            have hyl := hJ.length
            have nrd' : S'.get? rd = none := hmu2 _ (List.mem_append_left _ (.head _))
            (first | ((try dsimp only); k_unmd; k_fold) | skip)
            clear hD nc1 nc2 nld hcr hpsw gd gx t2 t1 lk d hws hb ws eb hown V₂ h9 hoc
            (repeat' (first | ((with_reducible first | refine hKn _ ?_ | refine hKr _ _ retNe ?_ | refine hKr _ _ contNe ?_); (try clear hKn hKr Kq); (try dsimp only)) | (with_reducible first | refine v_lt_int_t (by with_reducible assumption) ?_ | refine v_lt_int_f (by with_reducible assumption) ?_) | ((with_reducible refine v_mul_none ‹_› ‹_› (by walk_at "rl") (by k_dflt omega) ?_); walk_at "kl") | ((with_reducible refine v_tuple_list ‹_› ‹_› (by walk_at "rl") (by walk_at "un") ?_); walk_at "kl") | (k_unfold; (try dsimp only)) | (k_end; wrow_close) | walk1 | (dsimp only; walk1) | (leave1; try dsimp only) | fail "no step"))
            rename_i D3 hA1 F31 N31 l3 D4 hA2 F41 N41 l4 hA3 F5 N5
            refine hide fun Pq9 hq9 => ?_
            obtain ⟨S4, tl4, V4, hS4, ha4, hn4, hs4⟩ := V'.adds F5 N5 (by walk_at "tb") [(D4, tupO [Value.int (n : Int) tn, Value.ref D3] 0), (D3, tupO ys 0)] (sub_cons (.head _) (sub_cons (.tail _ (.head _)) sub_nil))
            have ne4 : ∀ q : Addr, D4 ≠ q → D3 ≠ q → ∀ p ∈ [(D4, tupO [Value.int (n : Int) tn, Value.ref D3] 0), (D3, tupO ys 0)], p.1 ≠ q := fun q h1 h2 => off_cons h1 (off_cons h2 off_nil)
            have ho4 : ∀ q ∈ own, S4.get? q.1 = none := fun q hq => hn4 _ (hmu2 q (List.mem_append_right _ hq)) (ne4 _ (Nat.ne_of_gt (AllLt.mem l4.2.2.2.2.2.2 q (List.mem_append_left _ hq))) (Nat.ne_of_gt (AllLt.mem l3.2.2.2.2.2 q (List.mem_append_left _ hq))))
            have m1 := hn4 _ nrd' (ne4 _ (Nat.ne_of_gt l4.2.2.1) (Nat.ne_of_gt l3.2.1))
            have m2 := hn4 _ (hmu2 _ (List.mem_append_left _ (.tail _ (.head _)))) (ne4 _ (Nat.ne_of_gt l4.2.2.2.1) (Nat.ne_of_gt l3.2.2.1))
            have m3 := hn4 _ (hmu2 _ (List.mem_append_left _ (.tail _ (.tail _ (.head _))))) (ne4 _ (Nat.ne_of_gt l4.2.2.2.2.1) (Nat.ne_of_gt l3.2.2.2.1))
            have m4 := hn4 _ (hmu2 _ (List.mem_append_left _ (.tail _ (.tail _ (.tail _ (.head _)))))) (ne4 _ (Nat.ne_of_gt l4.2.2.2.2.2.1) (Nat.ne_of_gt l3.2.2.2.2.1))
            refine hq9 ?_; clear hq9 Pq9
            refine TurnEnd.mk (mu' := [(rd, lstO (rvs.set pl (Value.ref D4)) er), (ld, lstO lks el), (L + 1 + 1, orw), (L + 1, oc)]) V4 (fun b o h => hS4 b o (hS3 b o h)) ho4 ?_ F5 (News.sub N5 ?_)
              ⟨rvs.set pl (Value.ref D4), er, rfl, by rw [List.length_set]; exact hrl, fun j h1 h2 => ?_, hS4 _ _ (hS3 _ _ hla), (hvs.mono hS3).mono hS4, (hlk.mono hS3).mono hS4, by (repeat' (first | assumption | exact Same.nf | exact Same.refl | refine Same.set rfl ?_))⟩
            · exact off_cons ⟨m1, hrdo⟩ (off_cons ⟨m2, (hmu _ (.tail _ (.head _))).2⟩ (off_cons ⟨m3, (hmu _ (.tail _ (.tail _ (.head _)))).2⟩ (off_cons ⟨m4, (hmu _ (.tail _ (.tail _ (.tail _ (.head _))))).2⟩ off_nil)))
            · exact sub_app (sub_t (sub_t (sub_t (sub_cons (.head _) (sub_cons (.tail _ (.head _)) (sub_cons (.tail _ (.tail _ (.head _))) (sub_cons (.tail _ (.tail _ (.tail _ (.head _)))) sub_nil))))))) (sub_app (sub_t (sub_t (sub_t (sub_t (sub_t (sub_t (sub_t (sub_l sub_refl)))))))) hs4)
            · by_cases hjp : j = pl
              · subst hjp
                exact ⟨.ref D4, .mk n ks, by rw [List.getElem?_set_self (by omega)], hT1, .mk (ha4 _ (.head _)) (ha4 _ (.tail _ (.head _))) (hJ.mono hS4)⟩
              · refine hide fun Pq9 hq9 => ?_
                obtain ⟨v, K, q1, q2, q3⟩ := hdone j (by omega) h2
                refine hq9 ?_; clear hq9 Pq9
                exact ⟨v, K, by rw [List.getElem?_set_ne (Ne.symm hjp)]; exact q1, q2, (q3.mono hS3).mono hS4⟩
      case rdone =>
        clear hmu hvs hla hlk hm hRR FC NC nrd hld hc2 hc1
        intro m₁ mu₁ S₂ tl₂ h tk hJx28 V₂ hS2 hmu F₂ N₂
        (first | ((try dsimp only); k_unmd; k_fold) | skip)
        refine hide fun Pq9 hq9 => ?_
        obtain ⟨rvs, er, rfl, hx9⟩ := hJx28
        refine ands6 hx9 fun hrl hdone hla hvs hlk hm => ?_
        clear hx9
        obtain ⟨u', rfl⟩ : ∃ u', m₁ = fun z => if [Str.ofString "place"].contains z then u' z else (fun z => if [Str.ofString "node"].contains z then u z else (fun y => if y = Str.ofString "links" then some (Value.ref ld) else if y = Str.ofString "self" then some (Value.ref x) else none) z) z := ⟨m₁, hm.eq⟩
        simp only [List.cons_append, List.nil_append] at N₂
        obtain ⟨v, K, hv, hK, hvK⟩ := hdone 0 (by omega) hpos
        rw [ht0] at hK; cases hK
        refine hq9 ?_; clear hq9 Pq9
        (first | ((try dsimp only); k_unmd; k_fold) | skip)
        clear hm hlk hvs hla hdone hrl hmu hS2 hsm hrs hpos hlen kR NR FR rv ru rt lB hB lA hA nd hltI hlt hb1 hdl hvl hle ht0 hsum hoc qk lts ev vs la ek V₁ tl₁ S₁ d1 hH hD ho1 o1 hsz
        (repeat' (first | ((with_reducible first | refine hKn _ ?_ | refine hKr _ _ retNe ?_ | refine hKr _ _ contNe ?_); (try clear hKn hKr Kq); (try dsimp only)) | (with_reducible first | refine v_lt_int_t (by with_reducible assumption) ?_ | refine v_lt_int_f (by with_reducible assumption) ?_) | ((with_reducible refine v_mul_none ‹_› ‹_› (by walk_at "rl") (by k_dflt omega) ?_); walk_at "kl") | ((with_reducible refine v_tuple_list ‹_› ‹_› (by walk_at "rl") (by walk_at "un") ?_); walk_at "kl") | (k_unfold; (try dsimp only)) | (k_end; wrow_close) | walk1 | (dsimp only; walk1) | (leave1; try dsimp only) | fail "no step"))
        exact hQ _ _ _ S₂ F₂.keep V₂.grow (V₂.up F₂ N₂ (by walk_at "tb")) hvK
end

section
local macro_rules | `(tactic| walk_at "call builtin:abs") => `(tactic| (k_dflt (refine v_abs ?_); intro t' tk'))
local macro_rules | `(tactic| walk_at "binaryOp Mod int int") => `(tactic| (k_dflt (first | refine v_mod_nat (k := 4) rfl rfl (by decide) ?_ | refine v_mod_nat (k := 3) rfl rfl (by decide) ?_ | refine v_mod_nat (k := 2) rfl rfl (by decide) ?_); intro t'))
local macro_rules | `(tactic| walk_at "binaryOp FloorDiv int int") => `(tactic| (k_dflt (first | refine v_div_nat (k := 4) (by decide) rfl rfl (by decide) ?_ | refine v_div_nat (k := 12) (by decide) rfl rfl (by decide) ?_ | refine v_div_nat (k := 48) (by decide) rfl rfl (by decide) ?_ | refine v_div_nat (k := 96) (by decide) rfl rfl (by decide) ?_); intro t'))

noncomputable def cBase (r : Nat) : Str := pick4 (Str.ofString "") (Str.ofString "TEA") (Str.ofString "BOAT") (Str.ofString "TEA") (((r % 4 : Nat) : Int)).toNat
noncomputable def cRep (r : Nat) : Bool := ((r / 4 % 3 : Nat) : Int) == 0
noncomputable def cShape (r : Nat) : Nat := r / 12 % 4
noncomputable def cTold (r : Nat) : Str := if ((r / 48 % 2 : Nat) : Int) = 0 then Str.ofString "X" else cBase r
noncomputable def cTab (r : Nat) : Tab := if cShape r < 2 then [(cBase r, cRep r)] else [(cBase r, cRep r), (cTold r, true)]
noncomputable def cTree (r first : Nat) : Tr := if cShape r < 2 then .mk first [] else if cShape r = 2 then .mk first [.mk (first + 1) []] else .mk 0 [.mk first [], .mk (first + 1) []]
noncomputable def cStep (st : List Tr × Tab) (n : Int) : List Tr × Tab := (st.1 ++ [cTree n.natAbs (st.2.length + 1)], st.2 ++ cTab n.natAbs)
/-- the roots and the table that some cells make -/
noncomputable def rootsN (ns : List Int) : List Tr × Tab := ns.foldl cStep ([], [])
theorem rootsN_snoc (ns : List Int) (n : Int) : rootsN (ns ++ [n]) = cStep (rootsN ns) n := by unfold rootsN; rw [List.foldl_append]; rfl

/-- the table's pairs -/
noncomputable def TblK (S : Heap) (kvs : List (Int × Value)) (tab : Tab) : Prop :=
  kvs.map (·.1) = (List.range tab.length).map (fun i : Nat => (i : Int) + 1) ∧
    ∀ (i : Nat) b r, tab[i]? = some (b, r) → ∃ a l t0 t1 tz tb e x0 x1, ∃ z : Int, valueAt kvs ((i : Int) + 1) = some (.ref a) ∧ S.get? a = some (tupO [.int x0 t0, .str x1 t1, .ref l, .int z tz, .str b tb, .bool r] e)
theorem TblK.mono {S S' : Heap} {kvs : List (Int × Value)} {tab : Tab} (k : S.StaysIn S') (h : TblK S kvs tab) : TblK S' kvs tab :=
  ⟨h.1, fun i b r e => by obtain ⟨a, l, t0, t1, tz, tb, e', x0, x1, z, q1, q2⟩ := h.2 i b r e; exact ⟨a, l, t0, t1, tz, tb, e', x0, x1, z, q1, k _ _ q2⟩⟩

noncomputable abbrev mbR (fd dd l : Addr) : Str → Option Value := fun y => if y = Str.ofString "trees" then some (Value.ref fd) else if y = Str.ofString "table" then some (Value.ref dd) else List.lookup y [(Str.ofString "cells", Value.ref l)].reverse


theorem TblK.len {S : Heap} {kvs : List (Int × Value)} {tab : Tab} (h : TblK S kvs tab) : kvs.length = tab.length := by have := congrArg List.length h.1; simpa using this
theorem TblK.put {S : Heap} {kvs : List (Int × Value)} {tab : Tab} (h : TblK S kvs tab) {k : Int} {a l : Addr} {t0 t1 tz tb e : Nat} {x0 : Int} {x1 : Str} {z : Int} {b : Str} {r : Bool} (hk : k = (tab.length : Int) + 1)
    (ha : S.get? a = some (tupO [.int x0 t0, .str x1 t1, .ref l, .int z tz, .str b tb, .bool r] e)) : TblK S (stored kvs k (.ref a)) (tab ++ [(b, r)]) := by
  have hn : kvs.any (fun kv => decide (kv.1 = k)) = false := by
    rw [List.any_eq_false]
    intro x hx q
    have : x.1 ∈ kvs.map (·.1) := List.mem_map_of_mem hx
    rw [h.1] at this
    obtain ⟨i, hi, e⟩ := List.mem_map.mp this
    have := List.mem_range.mp hi
    simp only [decide_eq_true_eq] at q
    omega
  have hs : stored kvs k (.ref a) = kvs ++ [(k, .ref a)] := by unfold stored; rw [hn]; rfl
  refine ⟨?_, fun i b' r' e' => ?_⟩
  · rw [hs, List.map_append, h.1, List.length_append, List.length_singleton, List.range_succ, List.map_append, hk]; rfl
  · rw [valueAt_stored]
    by_cases hi : i < tab.length
    · rw [List.getElem?_append_left hi] at e'
      rw [if_neg (by omega)]
      exact h.2 i b' r' e'
    · have hi2 : i = tab.length := by
        have := (List.getElem?_eq_some_iff.mp e').1
        rw [List.length_append, List.length_singleton] at this; omega
      subst hi2
      rw [List.getElem?_append_right (Nat.le_refl _), Nat.sub_self] at e'
      cases e'
      rw [if_pos hk.symm]
      exact ⟨a, l, t0, t1, tz, tb, e, x0, x1, z, rfl, ha⟩

theorem cTab_len (r : Nat) : (cTab r).length = if cShape r < 2 then 1 else 2 := by unfold cTab; split <;> rfl
theorem v_ite_int {M : Model} {A : Around} {E : Value → Shared → Prop} {s : Shared} {env : Env} {Q : Value → Shared → Prop} {c : Bool} {a b z : Int} {k k' : Nat} {p p' : Pos} (hc : (if c = true then a else b) = z) (h : ∀ t, Q (.int z t) { s with toks := s.toks + 1 }) :
    if c = true then wpAny M A (eval (.Constant (.int a) k p) env) Q E s else wpAny M A (eval (.Constant (.int b) k' p') env) Q E s := by
  cases c with
  | true => simp only [if_true] at hc ⊢; subst hc; exact wpAny_Constant_int (h _)
  | false => simp only [Bool.false_eq_true, if_false] at hc ⊢; subst hc; exact wpAny_Constant_int (h _)
local macro_rules | `(tactic| walk_at "ite") => `(tactic| (k_dflt (refine v_ite_int ‹_› ?_); intro t'))

theorem law_roots_spec (w : World) {l : Addr} {vs : List Value} {e : Nat} {ns : List Int} (hlen : vs.length ≤ 10) (hI : IntsAre vs ns) :
    HSpec w 92 1 [.ref l] (fun G => G.get? l = some (lstO vs e)) (fun G r => ∃ D fd dd tvs et e2, r = .ref D ∧ G.get? D = some (tupO [.ref fd, .ref dd] e2) ∧ G.get? fd = some (lstO tvs et) ∧ TupsT G tvs (rootsN ns).1 ∧ Tbl w G dd (rootsN ns).2) := by
  rintro p loose mg mb dp un fr gd s Q E G hdp hun X T hG hl hQ
  refine enter (binds := [(Str.ofString "cells", .ref l)]) ‹_› ‹_› (by k_is) (by k_is) (by show _ < 1000; walk_at "dp") (by exact BindsTo.of_eq rfl) (by exact locs rfl) ?_ (by exact rfl) (by exact rfl) (by exact rfl) (by decide)
  intro L h₁ F N
  have V := View.start (L := L) hG F.above
  (first | ((try dsimp only); k_unmd; k_fold) | skip)
  clear hun hdp E
  (repeat' (first | ((with_reducible first | refine hKn _ ?_ | refine hKr _ _ retNe ?_ | refine hKr _ _ contNe ?_); (try clear hKn hKr Kq); (try dsimp only)) | (with_reducible first | refine v_lt_int_t (by with_reducible assumption) ?_ | refine v_lt_int_f (by with_reducible assumption) ?_) | (k_unfold; (try dsimp only)) | (k_end; wrow_close) | walk1 | (dsimp only; walk1) | (leave1; try dsimp only) | fail "no step"))
  rename_i fd hA lA dd hB od lo hs0 fs0 hi0 fi0 lB td hC lC hD hE hF FF NF
  have hsdd : G.get? dd = none := V.notNew NF (by k_mem) (fun _ h => absurd h List.not_mem_nil)
  have hsfd : G.get? fd = none := V.notNew NF (by k_mem) (fun _ h => absurd h List.not_mem_nil)
  have hdf : @Ne Nat dd fd := Nat.ne_of_gt lB
  refine at_list (L := L) (vs := vs) (e := e) (S := G) (G := G) (mu := [(dd, od), (fd, lstO [] 0)]) (tl := []) rfl rfl rfl rfl V FF (fun p hp => NF p (List.mem_cons_of_mem _ (by simpa using hp))) hl ?mu
    (fun i m mu S' => ∃ o kvs tvs et, mu = [(dd, o), (fd, lstO tvs et)] ∧ o.IsDictOf (intKind Pg w) kvs ∧ TupsT S' tvs (rootsN (ns.take i)).1 ∧ TblK S' kvs (rootsN (ns.take i)).2 ∧ (rootsN (ns.take i)).2.length ≤ 2 * i ∧ tvs.length ≤ i ∧
      Same [Str.ofString "cell", Str.ofString "rest", Str.ofString "first", Str.ofString "base", Str.ofString "is_reply", Str.ofString "shape", Str.ofString "number", Str.ofString "told"] (mbR fd dd l) m) ?h0 ?turn ?done
  case mu => walk_at "off"
  case h0 => exact ⟨od, [], [], 0, rfl, hi0, .nil, ⟨rfl, fun i b r h => by simp [rootsN] at h⟩, Nat.le_refl _, Nat.le_refl _, Same.refl⟩
  case turn =>
    rintro s' ⟨h9, rfl⟩
    intro i v m₁ m₂ mu₁ S₁ tl₁ h tk own hi hP hJx30 V₁ hS hown hmu hrf31 F₁ N₁
    (first | ((try dsimp only); k_unmd; k_fold) | skip)
    refine hide fun Pq9 hq9 => ?_
    obtain ⟨o, kvs, tvs, et, rfl, hx9⟩ := hJx30
    refine ands6 hx9 fun hd htv htb hb1 hb2 hm => ?_
    clear hx9
    subst hrf31
    obtain ⟨u, rfl⟩ : ∃ u, m₁ = fun z => if [Str.ofString "cell", Str.ofString "rest", Str.ofString "first", Str.ofString "base", Str.ofString "is_reply", Str.ofString "shape", Str.ofString "number", Str.ofString "told"].contains z then u z else mbR fd dd l z := ⟨m₁, hm.eq⟩
    simp only [List.cons_append, List.nil_append] at N₁
    obtain ⟨n, t9, rfl, hn⟩ := IntsAre.at hI i v hP
    have hkl : kvs.length = (rootsN (ns.take i)).2.length := htb.len
    have hdd : S₁.get? dd = none := (hmu _ (.head _)).1
    have hddo : ∀ q ∈ own, q.1 ≠ dd := (hmu _ (.head _)).2
    have hfd : S₁.get? fd = none := (hmu _ (.tail _ (.head _))).1
    have hfdo : ∀ q ∈ own, q.1 ≠ fd := (hmu _ (.tail _ (.head _))).2
    clear hmu hm
    have hsh : n.natAbs / 12 % 4 < 4 := Nat.mod_lt _ (by decide)
    have hstep : rootsN (ns.take (i + 1)) = cStep (rootsN (ns.take i)) n := by rw [take_snoc hn, rootsN_snoc]
    have hln := cTab_len n.natAbs
    obtain ⟨cn, hcn⟩ : ∃ cn : Nat, cn = (cTab n.natAbs).length := ⟨_, rfl⟩
    rw [← hcn] at hln
    have hct : (cTab n.natAbs).length = cn := hcn.symm
    have hcn2 : cn ≤ 2 := by rw [hln]; split <;> omega
    have hcn1 : 1 ≤ cn := by rw [hln]; split <;> omega
    have hif : (if decide (((n.natAbs / 12 % 4 : Nat) : Int) < 2) = true then (1 : Int) else 2) = (cn : Int) := by
      rw [hln]; unfold cShape
      by_cases q : n.natAbs / 12 % 4 < 2
      · rw [if_pos q, if_pos (by rw [decide_eq_true_eq]; omega)]; rfl
      · rw [if_neg q, if_neg (by rw [decide_eq_true_eq]; omega)]; rfl
    refine hq9 ?_; clear hq9 Pq9
    (first | ((try dsimp only); k_unmd; k_fold) | skip)
    clear hP hS hsfd hsdd NF FF hF hD lC hC td fi0 hi0 fs0 hs0 od hB lA hA V h₁ hQ hl hG hI
    (repeat' (first | ((with_reducible first | refine hKn _ ?_ | refine hKr _ _ retNe ?_ | refine hKr _ _ contNe ?_); (try clear hKn hKr Kq); (try dsimp only)) | (with_reducible first | refine v_lt_int_t (by with_reducible assumption) ?_ | refine v_lt_int_f (by with_reducible assumption) ?_) | (k_unfold; (try dsimp only)) | (k_end; wrow_close) | walk1 | (dsimp only; walk1) | (leave1; try dsimp only) | fail "no step"))
    rename_i hR tkR rt ru rv hRR FR NR kR
    have hrs : Builtin.Range.rangeSize ((kvs.length : Int) + 1) ((kvs.length : Int) + 1 + (cn : Int)) 1 = ((cn : Nat) : Int) := by rw [rangeSize_nat]; omega
    have hsm : Builtin.Range.small ((kvs.length : Int) + 1) ((kvs.length : Int) + 1 + (cn : Int)) 1 = true := small_one (by omega) (by omega) (by omega) (by omega)
    refine hide fun Pq9 hq9 => ?_
    obtain ⟨mB, hmB, FB⟩ := Fr.named FR
    refine hq9 ?_; clear hq9 Pq9
    refine at_range (L := L) (S := S₁) (G := G) (mu := (dd, o) :: (fd, lstO tvs et) :: own) (tl := tl₁) rfl rfl rfl rfl hRR hsm hrs V₁ FB (News.sub NR (by simp only [List.cons_append]; walk_at "lg")) (by walk_at "off")
      (fun j m mu S' => ∃ o kvs', mu = (dd, o) :: (fd, lstO tvs et) :: own ∧ o.IsDictOf (intKind Pg w) kvs' ∧ TupsT S' tvs (rootsN (ns.take i)).1 ∧ TblK S' kvs' ((rootsN (ns.take i)).2 ++ (cTab n.natAbs).take j) ∧ kvs'.length = kvs.length + j ∧ Same [Str.ofString "number", Str.ofString "told"] mB m) ?ih0 ?iturn ?idone
    case ih0 => exact ⟨o, kvs, rfl, hd, htv, by rw [List.take_zero, List.append_nil]; exact htb, rfl, Same.refl⟩
    case iturn =>
      clear hd htv htb hRR FR NR kR FB hrs hsm
      rintro s' ⟨h9, rfl⟩
      intro j v m₁ m₂ mu₁ S₂ tl₂ h tk own2 hj hJx38 hJx39 V₂ hS2 hown2 hmu hrf40 F₂ N₂
      (first | ((try dsimp only); k_unmd; k_fold) | skip)
      refine hide fun Pq9 hq9 => ?_
      obtain ⟨t9, hv⟩ := hJx38
      obtain ⟨o, kvs', rfl, hx9⟩ := hJx39
      refine ands5 hx9 fun hd htv htb hb3 hm => ?_
      clear hx9
      subst hrf40
      obtain ⟨u', rfl⟩ : ∃ u', m₁ = fun z => if [Str.ofString "number", Str.ofString "told"].contains z then u' z else mB z := ⟨m₁, hm.eq⟩
      subst hmB
      simp only [List.cons_append, List.nil_append] at N₂
      have hdd2 : S₂.get? dd = none := (hmu _ (.head _)).1
      have hddo2 : ∀ q ∈ own2, q.1 ≠ dd := (hmu _ (.head _)).2
      have hfd2 : S₂.get? fd = none := (hmu _ (.tail _ (.head _))).1
      have hfdo2 : ∀ q ∈ own2, q.1 ≠ fd := (hmu _ (.tail _ (.head _))).2
      have hmo : ∀ p ∈ own, S₂.get? p.1 = none ∧ ∀ q ∈ own2, q.1 ≠ p.1 := fun p hp => hmu p (List.mem_cons_of_mem _ (List.mem_cons_of_mem _ hp))
      clear hmu hm
      have hj2 : j = 0 ∨ j = 1 := by omega
      refine hq9 ?_; clear hq9 Pq9
      rcases hj2 with rfl | rfl
      · rw [show ((kvs.length : Int) + 1 + ((0 : Nat) : Int) * 1) = (kvs.length : Int) + 1 by omega] at hv
        subst hv
        have hE : ((kvs.length : Int) + 1) = (kvs.length : Int) + 1 := rfl
        have hc : (cTab n.natAbs)[0]? = some (cBase n.natAbs, cRep n.natAbs) := by unfold cTab; split <;> rfl
        (first | ((try dsimp only); k_unmd; k_fold) | skip)
        clear hj hS2 h9 rv ru rt tkR hR hif hcn2 hct hstep hsh hfdo hfd hdd hn hb2 hown V₁ lo
        (repeat' (first | ((with_reducible first | refine hKn _ ?_ | refine hKr _ _ retNe ?_ | refine hKr _ _ contNe ?_); (try clear hKn hKr Kq); (try dsimp only)) | (with_reducible first | refine v_lt_int_t (by with_reducible assumption) ?_ | refine v_lt_int_f (by with_reducible assumption) ?_) | (k_unfold; (try dsimp only)) | (k_end; wrow_close) | walk1 | (dsimp only; walk1) | (leave1; try dsimp only) | fail "no step"))
        rename_i D1 hA1 FA1 NA1 lA1 ta tb D2 hA2 FA2 NA2 lA2 hA3 o3 FA3 NA3 hd3
        have ow1 : ∀ p ∈ own, D1 ≠ p.1 ∧ D2 ≠ p.1 := fun p hp => ⟨allLt_ne lA1.2.2 (List.mem_append_left _ hp), allLt_ne lA2.2.2.2 (List.mem_append_left _ hp)⟩
        have ow2 : ∀ p ∈ own2, D1 ≠ p.1 ∧ D2 ≠ p.1 := fun p hp => ⟨allLt_ne lA1.2.2 (List.mem_append_right _ (List.mem_append_left _ hp)), allLt_ne lA2.2.2.2 (List.mem_append_right _ (List.mem_append_left _ hp))⟩
        refine hide fun Pq9 hq9 => ?_
        obtain ⟨S3, tl3, V3, st3, ha3, of3, sb3⟩ := V₂.adds FA3 NA3 (by walk_at "lg") _ (sub_cons (.head _) (sub_cons (.tail _ (.head _)) sub_nil))
        have of4 : ∀ b, S₂.get? b = none → D1 ≠ b → D2 ≠ b → S3.get? b = none := fun b e a c => of3 b e (off_cons c (off_cons a off_nil))
        have tb' : TblK S3 (stored kvs' ((kvs.length : Int) + 1) (.ref D2)) ((rootsN (ns.take i)).2 ++ (cTab n.natAbs).take (0 + 1)) := by
          rw [take_snoc hc, ← List.append_assoc]
          exact (htb.mono st3).put (b := cBase n.natAbs) (r := cRep n.natAbs) (by have := htb.len; omega) (ha3 _ (.head _))
        refine hq9 ?_; clear hq9 Pq9
        exact TurnEnd.mk (mu' := (dd, o3) :: (fd, lstO tvs et) :: own) V3 st3 (fun q hq => of4 _ (hown2 q hq) (ow2 q hq).1 (ow2 q hq).2) (off_cons ⟨of4 _ hdd2 (by k_ne) (by k_ne), hddo2⟩ (off_cons ⟨of4 _ hfd2 (by k_ne) (by k_ne), hfdo2⟩ (fun p hp => ⟨of4 _ (hmo p hp).1 (ow1 p hp).1 (ow1 p hp).2, (hmo p hp).2⟩))) FA3 (News.sub NA3 (by simp only [List.cons_append]; walk_at "lg")) ⟨_, _, rfl, hd3, TupsT.mono st3 htv, tb', (by have := tb'.len; rw [List.length_append, List.length_take] at this; omega), by (repeat' (first | assumption | exact Same.nf | exact Same.refl | refine Same.set rfl ?_))⟩
      · rw [show ((kvs.length : Int) + 1 + ((1 : Nat) : Int) * 1) = (kvs.length : Int) + 1 + 1 by omega] at hv
        subst hv
        have hE : ((kvs.length : Int) + 1 + 1) ≠ (kvs.length : Int) + 1 := by omega
        have hc : (cTab n.natAbs)[1]? = some (cTold n.natAbs, true) := by
            unfold cTab
            rw [if_neg (fun q => by rw [if_pos q] at hln; omega)]; rfl
        (first | ((try dsimp only); k_unmd; k_fold) | skip)
        clear hS2 h9 rv ru rt tkR hR hif hcn1 hct hstep hsh hfdo hfd hdd hn hb2 hown V₁ lo
        (repeat' (first | ((with_reducible first | refine hKn _ ?_ | refine hKr _ _ retNe ?_ | refine hKr _ _ contNe ?_); (try clear hKn hKr Kq); (try dsimp only)) | (with_reducible first | refine v_lt_int_t (by with_reducible assumption) ?_ | refine v_lt_int_f (by with_reducible assumption) ?_) | (k_unfold; (try dsimp only)) | (k_end; wrow_close) | walk1 | (dsimp only; walk1) | (leave1; try dsimp only) | fail "no step"))
        rename_i D1 hA1 FA1 NA1 lA1 ta tb D2 hA2 FA2 NA2 lA2 hA3 o3 FA3 NA3 hd3
        have ow1 : ∀ p ∈ own, D1 ≠ p.1 ∧ D2 ≠ p.1 := fun p hp => ⟨allLt_ne lA1.2.2.2 (List.mem_append_left _ hp), allLt_ne lA2.2.2.2.2 (List.mem_append_left _ hp)⟩
        have ow2 : ∀ p ∈ own2, D1 ≠ p.1 ∧ D2 ≠ p.1 := fun p hp => ⟨allLt_ne lA1.2.2.2 (List.mem_append_right _ (List.mem_append_left _ hp)), allLt_ne lA2.2.2.2.2 (List.mem_append_right _ (List.mem_append_left _ hp))⟩
        refine hide fun Pq9 hq9 => ?_
        obtain ⟨S3, tl3, V3, st3, ha3, of3, sb3⟩ := V₂.adds FA3 NA3 (by walk_at "lg") _ (sub_cons (.head _) (sub_cons (.tail _ (.head _)) sub_nil))
        have of4 : ∀ b, S₂.get? b = none → D1 ≠ b → D2 ≠ b → S3.get? b = none := fun b e a c => of3 b e (off_cons c (off_cons a off_nil))
        have tb' : TblK S3 (stored kvs' ((kvs.length : Int) + 1 + 1) (.ref D2)) ((rootsN (ns.take i)).2 ++ (cTab n.natAbs).take (1 + 1)) := by
          rw [take_snoc hc, ← List.append_assoc]
          exact (htb.mono st3).put (b := cTold n.natAbs) (r := true) (by have := htb.len; omega) (ha3 _ (.head _))
        refine hq9 ?_; clear hq9 Pq9
        exact TurnEnd.mk (mu' := (dd, o3) :: (fd, lstO tvs et) :: own) V3 st3 (fun q hq => of4 _ (hown2 q hq) (ow2 q hq).1 (ow2 q hq).2) (off_cons ⟨of4 _ hdd2 (by k_ne) (by k_ne), hddo2⟩ (off_cons ⟨of4 _ hfd2 (by k_ne) (by k_ne), hfdo2⟩ (fun p hp => ⟨of4 _ (hmo p hp).1 (ow1 p hp).1 (ow1 p hp).2, (hmo p hp).2⟩))) FA3 (News.sub NA3 (by simp only [List.cons_append]; walk_at "lg")) ⟨_, _, rfl, hd3, TupsT.mono st3 htv, tb', (by have := tb'.len; rw [List.length_append, List.length_take] at this; omega), by (repeat' (first | assumption | exact Same.nf | exact Same.refl | refine Same.set rfl ?_))⟩
    case idone =>
      clear hd htv htb hRR FR NR kR FB hrs hsm
      intro m₁ mu₁ S₂ tl₂ h tk hJx41 V₂ hS2 hmu F₂ N₂
      (first | ((try dsimp only); k_unmd; k_fold) | skip)
      refine hide fun Pq9 hq9 => ?_
      obtain ⟨o, kvs', rfl, hx9⟩ := hJx41
      refine ands5 hx9 fun hd htv htb hb3 hm => ?_
      clear hx9
      obtain ⟨u', rfl⟩ : ∃ u', m₁ = fun z => if [Str.ofString "number", Str.ofString "told"].contains z then u' z else mB z := ⟨m₁, hm.eq⟩
      subst hmB
      simp only [List.cons_append, List.nil_append, List.append_assoc] at N₂
      have hdd2 : S₂.get? dd = none := hmu _ (.head _)
      have hfd2 : S₂.get? fd = none := hmu _ (.tail _ (.head _))
      have hown2 : ∀ p ∈ own, S₂.get? p.1 = none := fun p hp => hmu p (List.mem_cons_of_mem _ (List.mem_cons_of_mem _ hp))
      clear hmu hm
      rw [show (cTab n.natAbs).take cn = cTab n.natAbs from List.take_of_length_le (by omega)] at htb
      by_cases hs : ((n.natAbs / 12 % 4 : Nat) : Int) < 2
      · have hcl : (cTab n.natAbs).length = 1 := by rw [hct, hln, if_pos (by unfold cShape; omega)]
        refine hq9 ?_; clear hq9 Pq9
        (first | ((try dsimp only); k_unmd; k_fold) | skip)
        clear hcl hb3 rv ru rt hcn1 hcn2 hsh hfd hdd hown V₁ h9 hE lo
        (repeat' (first | ((with_reducible first | refine hKn _ ?_ | refine hKr _ _ retNe ?_ | refine hKr _ _ contNe ?_); (try clear hKn hKr Kq); (try dsimp only)) | (with_reducible first | refine v_lt_int_t (by with_reducible assumption) ?_ | refine v_lt_int_f (by with_reducible assumption) ?_) | (k_unfold; (try dsimp only)) | (k_end; wrow_close) | walk1 | (dsimp only; walk1) | (leave1; try dsimp only) | fail "no step"))
        rename_i D1 hD1 FD1 ND1 lD1 D2 hD2 FD2 ND2 lD2 hZ FZ NZ
        have ow : ∀ p ∈ own, D1 ≠ p.1 ∧ D2 ≠ p.1 := fun p hp => ⟨allLt_ne lD1.2.2 (List.mem_append_left _ hp), allLt_ne lD2.2.2.2 (List.mem_append_left _ hp)⟩
        refine hide fun Pq9 hq9 => ?_
        obtain ⟨S3, tl3, V3, st3, ha3, of3, sb3⟩ := V₂.adds FZ NZ (by walk_at "lg") _ (sub_cons (.head _) (sub_cons (.tail _ (.head _)) sub_nil))
        have of4 : ∀ b, S₂.get? b = none → D1 ≠ b → D2 ≠ b → S3.get? b = none := fun b e nD1 nD2 => of3 b e (off_cons nD2 (off_cons nD1 off_nil))
        have ht : cTree n.natAbs ((rootsN (ns.take i)).2.length + 1) = .mk (kvs.length + 1) [] := by unfold cTree; rw [if_pos (by unfold cShape; omega), ← hkl]
        refine hq9 ?_; clear hq9 Pq9
        refine TurnEnd.mk (mu' := [(dd, o), (fd, lstO (tvs ++ [.ref D2]) (et + 1))]) V3 (fun b o e => st3 b o (hS2 b o e)) (fun q hp => of4 _ (hown2 q hp) (ow q hp).1 (ow q hp).2) (off_cons ⟨of4 _ hdd2 (by k_ne) (by k_ne), hddo⟩ (off_cons ⟨of4 _ hfd2 (by k_ne) (by k_ne), hfdo⟩ off_nil)) FZ (News.sub NZ (by simp only [List.cons_append, List.nil_append]; walk_at "lg")) ⟨_, _, _, _, rfl, hd, ?_, ?_, ?_, ?_, ?_⟩
        · rw [hstep]
          show TupsT S3 _ ((rootsN (ns.take i)).1 ++ [cTree n.natAbs ((rootsN (ns.take i)).2.length + 1)])
          rw [ht]
          exact (TupsT.mono st3 htv).snoc (.mk (n := kvs.length + 1) (ha3 _ (.head _)) (ha3 _ (.tail _ (.head _))) .nil)
        · rw [hstep]; exact htb.mono st3
        · rw [hstep]
          show ((rootsN (ns.take i)).2 ++ cTab n.natAbs).length ≤ _
          rw [List.length_append, hct]; omega
        · rw [List.length_append, List.length_singleton]; omega
        · first | (repeat' (first | assumption | exact Same.nf | exact Same.refl | refine Same.set rfl ?_)); done | (refine Same.step rfl ?_; (repeat' (first | assumption | exact Same.nf | exact Same.refl | refine Same.set rfl ?_)))
      · by_cases hs2 : ((n.natAbs / 12 % 4 : Nat) : Int) = 2
        · have hcl : (cTab n.natAbs).length = 2 := by rw [hct, hln, if_neg (by unfold cShape; omega)]
          refine hq9 ?_; clear hq9 Pq9
          (first | ((try dsimp only); k_unmd; k_fold) | skip)
          clear hcl hb3 rv ru rt hcn1 hcn2 hsh hfd hdd hown V₁ h9 hE lo
          (repeat' (first | ((with_reducible first | refine hKn _ ?_ | refine hKr _ _ retNe ?_ | refine hKr _ _ contNe ?_); (try clear hKn hKr Kq); (try dsimp only)) | (with_reducible first | refine v_lt_int_t (by with_reducible assumption) ?_ | refine v_lt_int_f (by with_reducible assumption) ?_) | (k_unfold; (try dsimp only)) | (k_end; wrow_close) | walk1 | (dsimp only; walk1) | (leave1; try dsimp only) | fail "no step"))
          rename_i D1 hD1 FD1 ND1 lD1 D2 hD2 FD2 ND2 lD2 D3 hD3 FD3 ND3 lD3 D4 hD4 FD4 ND4 lD4 hZ FZ NZ
          have ow : ∀ p ∈ own, D1 ≠ p.1 ∧ D2 ≠ p.1 ∧ D3 ≠ p.1 ∧ D4 ≠ p.1 := fun p hp => ⟨allLt_ne lD1.2.2 (List.mem_append_left _ hp), allLt_ne lD2.2.2.2 (List.mem_append_left _ hp), allLt_ne lD3.2.2.2.2 (List.mem_append_left _ hp), allLt_ne lD4.2.2.2.2.2 (List.mem_append_left _ hp)⟩
          refine hide fun Pq9 hq9 => ?_
          obtain ⟨S3, tl3, V3, st3, ha3, of3, sb3⟩ := V₂.adds FZ NZ (by walk_at "lg") _ (sub_cons (.head _) (sub_cons (.tail _ (.head _)) (sub_cons (.tail _ (.tail _ (.head _))) (sub_cons (.tail _ (.tail _ (.tail _ (.head _)))) sub_nil))))
          have of4 : ∀ b, S₂.get? b = none → D1 ≠ b → D2 ≠ b → D3 ≠ b → D4 ≠ b → S3.get? b = none := fun b e nD1 nD2 nD3 nD4 => of3 b e (off_cons nD4 (off_cons nD3 (off_cons nD2 (off_cons nD1 off_nil))))
          have ht : cTree n.natAbs ((rootsN (ns.take i)).2.length + 1) = .mk (kvs.length + 1) [.mk (kvs.length + 1 + 1) []] := by unfold cTree; rw [if_neg (by unfold cShape; omega), if_pos (by unfold cShape; omega), ← hkl]
          refine hq9 ?_; clear hq9 Pq9
          refine TurnEnd.mk (mu' := [(dd, o), (fd, lstO (tvs ++ [.ref D4]) (et + 1))]) V3 (fun b o e => st3 b o (hS2 b o e)) (fun q hp => of4 _ (hown2 q hp) (ow q hp).1 (ow q hp).2.1 (ow q hp).2.2.1 (ow q hp).2.2.2) (off_cons ⟨of4 _ hdd2 (by k_ne) (by k_ne) (by k_ne) (by k_ne), hddo⟩ (off_cons ⟨of4 _ hfd2 (by k_ne) (by k_ne) (by k_ne) (by k_ne), hfdo⟩ off_nil)) FZ (News.sub NZ (by simp only [List.cons_append, List.nil_append]; walk_at "lg")) ⟨_, _, _, _, rfl, hd, ?_, ?_, ?_, ?_, ?_⟩
          · rw [hstep]
            show TupsT S3 _ ((rootsN (ns.take i)).1 ++ [cTree n.natAbs ((rootsN (ns.take i)).2.length + 1)])
            rw [ht]
            exact (TupsT.mono st3 htv).snoc (.mk (n := kvs.length + 1) (ha3 _ (.head _)) (ha3 _ (.tail _ (.head _))) (.cons (.mk (n := kvs.length + 1 + 1) (ha3 _ (.tail _ (.tail _ (.head _)))) (ha3 _ (.tail _ (.tail _ (.tail _ (.head _))))) .nil) .nil))
          · rw [hstep]; exact htb.mono st3
          · rw [hstep]
            show ((rootsN (ns.take i)).2 ++ cTab n.natAbs).length ≤ _
            rw [List.length_append, hct]; omega
          · rw [List.length_append, List.length_singleton]; omega
          · first | (repeat' (first | assumption | exact Same.nf | exact Same.refl | refine Same.set rfl ?_)); done | (refine Same.step rfl ?_; (repeat' (first | assumption | exact Same.nf | exact Same.refl | refine Same.set rfl ?_)))
        · have hcl : (cTab n.natAbs).length = 2 := by rw [hct, hln, if_neg (by unfold cShape; omega)]
          refine hq9 ?_; clear hq9 Pq9
          (first | ((try dsimp only); k_unmd; k_fold) | skip)
          clear hcl hb3 rv ru rt hcn1 hcn2 hfd hdd hown V₁ h9 hE lo
          (repeat' (first | ((with_reducible first | refine hKn _ ?_ | refine hKr _ _ retNe ?_ | refine hKr _ _ contNe ?_); (try clear hKn hKr Kq); (try dsimp only)) | (with_reducible first | refine v_lt_int_t (by with_reducible assumption) ?_ | refine v_lt_int_f (by with_reducible assumption) ?_) | (k_unfold; (try dsimp only)) | (k_end; wrow_close) | walk1 | (dsimp only; walk1) | (leave1; try dsimp only) | fail "no step"))
          rename_i D1 hD1 FD1 ND1 lD1 D2 hD2 FD2 ND2 lD2 D3 hD3 FD3 ND3 lD3 D4 hD4 FD4 ND4 lD4 D5 hD5 FD5 ND5 lD5 D6 hD6 FD6 ND6 lD6 hZ FZ NZ
          have ow : ∀ p ∈ own, D1 ≠ p.1 ∧ D2 ≠ p.1 ∧ D3 ≠ p.1 ∧ D4 ≠ p.1 ∧ D5 ≠ p.1 ∧ D6 ≠ p.1 := fun p hp => ⟨allLt_ne lD1.2.2 (List.mem_append_left _ hp), allLt_ne lD2.2.2.2 (List.mem_append_left _ hp), allLt_ne lD3.2.2.2.2 (List.mem_append_left _ hp), allLt_ne lD4.2.2.2.2.2 (List.mem_append_left _ hp), allLt_ne lD5.2.2.2.2.2.2 (List.mem_append_left _ hp), allLt_ne lD6.2.2.2.2.2.2.2 (List.mem_append_left _ hp)⟩
          refine hide fun Pq9 hq9 => ?_
          obtain ⟨S3, tl3, V3, st3, ha3, of3, sb3⟩ := V₂.adds FZ NZ (by walk_at "lg") _ (sub_cons (.head _) (sub_cons (.tail _ (.head _)) (sub_cons (.tail _ (.tail _ (.head _))) (sub_cons (.tail _ (.tail _ (.tail _ (.head _)))) (sub_cons (.tail _ (.tail _ (.tail _ (.tail _ (.head _))))) (sub_cons (.tail _ (.tail _ (.tail _ (.tail _ (.tail _ (.head _)))))) sub_nil))))))
          have of4 : ∀ b, S₂.get? b = none → D1 ≠ b → D2 ≠ b → D3 ≠ b → D4 ≠ b → D5 ≠ b → D6 ≠ b → S3.get? b = none := fun b e nD1 nD2 nD3 nD4 nD5 nD6 => of3 b e (off_cons nD6 (off_cons nD5 (off_cons nD4 (off_cons nD3 (off_cons nD2 (off_cons nD1 off_nil))))))
          have ht : cTree n.natAbs ((rootsN (ns.take i)).2.length + 1) = .mk 0 [.mk (kvs.length + 1) [], .mk (kvs.length + 1 + 1) []] := by unfold cTree; rw [if_neg (by unfold cShape; omega), if_neg (by unfold cShape; omega), ← hkl]
          refine hq9 ?_; clear hq9 Pq9
          refine TurnEnd.mk (mu' := [(dd, o), (fd, lstO (tvs ++ [.ref D6]) (et + 1))]) V3 (fun b o e => st3 b o (hS2 b o e)) (fun q hp => of4 _ (hown2 q hp) (ow q hp).1 (ow q hp).2.1 (ow q hp).2.2.1 (ow q hp).2.2.2.1 (ow q hp).2.2.2.2.1 (ow q hp).2.2.2.2.2) (off_cons ⟨of4 _ hdd2 (by k_ne) (by k_ne) (by k_ne) (by k_ne) (by k_ne) (by k_ne), hddo⟩ (off_cons ⟨of4 _ hfd2 (by k_ne) (by k_ne) (by k_ne) (by k_ne) (by k_ne) (by k_ne), hfdo⟩ off_nil)) FZ (News.sub NZ (by simp only [List.cons_append, List.nil_append]; walk_at "lg")) ⟨_, _, _, _, rfl, hd, ?_, ?_, ?_, ?_, ?_⟩
          · rw [hstep]
            show TupsT S3 _ ((rootsN (ns.take i)).1 ++ [cTree n.natAbs ((rootsN (ns.take i)).2.length + 1)])
            rw [ht]
            exact (TupsT.mono st3 htv).snoc (.mk (n := 0) (ha3 _ (.head _)) (ha3 _ (.tail _ (.head _))) (.cons (.mk (n := kvs.length + 1) (ha3 _ (.tail _ (.tail _ (.tail _ (.tail _ (.head _)))))) (ha3 _ (.tail _ (.tail _ (.tail _ (.tail _ (.tail _ (.head _))))))) .nil) (.cons (.mk (n := kvs.length + 1 + 1) (ha3 _ (.tail _ (.tail _ (.head _)))) (ha3 _ (.tail _ (.tail _ (.tail _ (.head _))))) .nil) .nil)))
          · rw [hstep]; exact htb.mono st3
          · rw [hstep]
            show ((rootsN (ns.take i)).2 ++ cTab n.natAbs).length ≤ _
            rw [List.length_append, hct]; omega
          · rw [List.length_append, List.length_singleton]; omega
          · first | (repeat' (first | assumption | exact Same.nf | exact Same.refl | refine Same.set rfl ?_)); done | (refine Same.step rfl ?_; (repeat' (first | assumption | exact Same.nf | exact Same.refl | refine Same.set rfl ?_)))
  case done =>
    intro m₁ mu₁ S₁ tl₁ h tk hJx47 V₁ hS hmu F₁ N₁
    (first | ((try dsimp only); k_unmd; k_fold) | skip)
    refine hide fun Pq9 hq9 => ?_
    obtain ⟨o, kvs, tvs, et, rfl, hx9⟩ := hJx47
    refine ands6 hx9 fun hd htv htb hb1 hb2 hm => ?_
    clear hx9
    obtain ⟨u, rfl⟩ : ∃ u, m₁ = fun z => if [Str.ofString "cell", Str.ofString "rest", Str.ofString "first", Str.ofString "base", Str.ofString "is_reply", Str.ofString "shape", Str.ofString "number", Str.ofString "told"].contains z then u z else mbR fd dd l z := ⟨m₁, hm.eq⟩
    simp only [List.cons_append, List.nil_append] at N₁
    have hns := IntsAre.length hI
    rw [List.take_of_length_le (by omega)] at htv htb
    refine hq9 ?_; clear hq9 Pq9
    (first | ((try dsimp only); k_unmd; k_fold) | skip)
    clear hns hm hb2 hb1 hmu hS hdf hsfd hsdd NF FF hE hD lC hC td lB fi0 hi0 fs0 hs0 od hB lA hA V h₁ hl hG hI hlen e vs
    (repeat' (first | ((with_reducible first | refine hKn _ ?_ | refine hKr _ _ retNe ?_ | refine hKr _ _ contNe ?_); (try clear hKn hKr Kq); (try dsimp only)) | (with_reducible first | refine v_lt_int_t (by with_reducible assumption) ?_ | refine v_lt_int_f (by with_reducible assumption) ?_) | (k_unfold; (try dsimp only)) | (k_end; wrow_close) | walk1 | (dsimp only; walk1) | (leave1; try dsimp only) | fail "no step"))
    rename_i D hZ FZ NZ lZ
    refine hide fun Pq9 hq9 => ?_
    obtain ⟨S3, tl3, V3, st3, ha3, of3, sb3⟩ := V₁.adds FZ NZ (by walk_at "lg") _ (sub_cons (.head _) (sub_cons (.tail _ (.head _)) (sub_cons (.tail _ (.tail _ (.head _))) sub_nil)))
    refine hq9 ?_; clear hq9 Pq9
    exact hQ _ _ _ S3 FZ.keep V3.grow (V3.up FZ NZ (by walk_at "lg")) ⟨D, fd, dd, tvs, et, 0, rfl, ha3 _ (.head _), ha3 _ (.tail _ (.tail _ (.head _))), TupsT.mono st3 htv, kvs, Heap.dictOf_iff.mpr ⟨o, ha3 _ (.tail _ (.head _)), hd⟩, lo, (htb.mono st3).1, (htb.mono st3).2⟩
end

section
noncomputable def spotsN (tab : Tab) (ts : List Tr) (n : Nat) (b : Str) : List Nat := (List.range n).filter fun p => decide (bA tab ts p = b)
theorem mem_spotsN {tab : Tab} {ts : List Tr} {n : Nat} {b : Str} {p : Nat} : p ∈ spotsN tab ts n b ↔ p < n ∧ bA tab ts p = b := by unfold spotsN; simp
theorem standN_mem {tab : Tab} {ts : List Tr} {l : List Nat} (h : l ≠ []) : standN tab ts l ∈ l := by
  unfold standN
  cases e : l.find? (isNum0 ts) with
  | some i => exact List.mem_of_find?_eq_some e
  | none =>
    cases e2 : l.find? (isFirst tab ts) with
    | some i => exact List.mem_of_find?_eq_some e2
    | none =>
      cases l with
      | nil => exact absurd rfl h
      | cons a r => exact .head _
theorem isNum0_get {ts : List Tr} {i : Nat} (h : i < ts.length) : isNum0 ts i = ((tsA ts i).num == 0) := by unfold isNum0; rw [tsA_get h]
theorem isFirst_get {tab : Tab} {ts : List Tr} {i : Nat} (h : i < ts.length) : isFirst tab ts i = !(entry tab (tsA ts i).num).2 := by unfold isFirst; rw [tsA_get h]
theorem standN_one {tab : Tab} {ts : List Tr} {x : Nat} : standN tab ts [x] = x := by
  unfold standN
  cases e : isNum0 ts x <;> cases e2 : isFirst tab ts x <;> simp [e, e2]
theorem standN_snoc {tab : Tab} {ts : List Tr} {l : List Nat} {x : Nat} (h : l ≠ []) (hl : ∀ i ∈ l, i < ts.length) (hx : x < ts.length) :
    standN tab ts (l ++ [x]) = if better tab (tsA ts x) (tsA ts (standN tab ts l)) = true then x else standN tab ts l := by
  have hm := standN_mem (tab := tab) (ts := ts) h
  cases e : l.find? (isNum0 ts) with
  | some i =>
    have h1 : standN tab ts l = i := by unfold standN; rw [e]
    have h2 : standN tab ts (l ++ [x]) = i := by unfold standN; rw [List.find?_append, e]; rfl
    have h3 := List.find?_some e
    rw [isNum0_get (hl i (List.mem_of_find?_eq_some e))] at h3
    rw [h1, h2, if_neg]
    unfold better
    rw [if_pos (by simpa using h3)]; decide
  | none =>
    have hn : ∀ i ∈ l, (tsA ts i).num ≠ 0 := fun i hi => by
      have := List.find?_eq_none.mp e i hi
      rw [isNum0_get (hl i hi)] at this
      simpa using this
    by_cases e0 : (tsA ts x).num = 0
    · have h2 : standN tab ts (l ++ [x]) = x := by unfold standN; rw [List.find?_append, e]; simp [isNum0_get hx, e0]
      rw [h2, if_pos]
      unfold better
      rw [if_neg (hn _ hm), if_pos e0]
    · have hx0 : isNum0 ts x = false := by rw [isNum0_get hx]; simpa using e0
      have hz : (l ++ [x]).find? (isNum0 ts) = none := by rw [List.find?_append, e]; simp [hx0]
      have hb : better tab (tsA ts x) (tsA ts (standN tab ts l)) = ((entry tab (tsA ts (standN tab ts l)).num).2 && !(entry tab (tsA ts x).num).2) := by unfold better; rw [if_neg (hn _ hm), if_neg e0]
      cases e2 : l.find? (isFirst tab ts) with
      | some i =>
        have h1 : standN tab ts l = i := by unfold standN; rw [e]; dsimp only; rw [e2]
        have h2 : standN tab ts (l ++ [x]) = i := by unfold standN; rw [hz]; dsimp only; rw [List.find?_append, e2]; rfl
        have h3 := List.find?_some e2
        rw [isFirst_get (hl i (List.mem_of_find?_eq_some e2))] at h3
        rw [h1] at hb
        rw [h1, h2, hb, if_neg]
        simp at h3; rw [h3]; simp
      | none =>
        have hr : ∀ i ∈ l, (entry tab (tsA ts i).num).2 = true := fun i hi => by
          have := List.find?_eq_none.mp e2 i hi
          rw [isFirst_get (hl i hi)] at this
          simpa using this
        rw [hb, hr _ hm, Bool.true_and]
        cases e3 : (entry tab (tsA ts x).num).2 with
        | true =>
          have hx1 : isFirst tab ts x = false := by rw [isFirst_get hx, e3]; rfl
          have hz1 : (l ++ [x]).find? (isFirst tab ts) = none := by rw [List.find?_append, e2]; simp [hx1]
          rw [if_neg (by decide)]
          unfold standN; rw [hz, e]; dsimp only; rw [hz1, e2]
          cases l with
          | nil => exact absurd rfl h
          | cons a r => rfl
        | false =>
          have hx1 : isFirst tab ts x = true := by rw [isFirst_get hx, e3]; rfl
          rw [if_pos (by decide)]
          unfold standN; rw [hz]; dsimp only; rw [List.find?_append, e2]; simp [hx1]
theorem spotsN_succ {tab : Tab} {ts : List Tr} {n : Nat} {b : Str} : spotsN tab ts (n + 1) b = spotsN tab ts n b ++ (if bA tab ts n = b then [n] else []) := by
  unfold spotsN
  rw [List.range_succ, List.filter_append]
  by_cases h : bA tab ts n = b <;> simp [h]
theorem ite_app {α β : Type} {c : Prop} [Decidable c] {f g : α → β} {a : α} : (if c then f else g) a = if c then f a else g a := by split <;> rfl
theorem placesN_eq {tab : Tab} {ts : List Tr} : ∀ {n : Nat}, n ≤ ts.length → ∀ b, placesN tab ts n b = if b = noS ∨ spotsN tab ts n b = [] then none else some (standN tab ts (spotsN tab ts n b))
  | 0, _, b => by
    show none = _
    rw [if_pos (.inr rfl)]
  | n + 1, hn, b => by
    have hlt : n < ts.length := hn
    have ih := placesN_eq (tab := tab) (ts := ts) (n := n) (Nat.le_of_lt hlt)
    have hstep : placesN tab ts (n + 1) = stepP tab ts (placesN tab ts n) n (tsA ts n) := by rw [placesN, tsA_get hlt]
    rw [hstep, spotsN_succ]
    by_cases hb : bA tab ts n = b
    · rw [if_pos hb]
      have hb' : base tab (tsA ts n) = b := hb
      by_cases h0 : b = noS
      · rw [if_pos (.inl h0)]
        unfold stepP
        rw [if_neg (fun q => q.1 (hb'.trans h0)), ih b, if_pos (.inl h0)]
      · rw [if_neg (by rintro (q | q); exact h0 q; simp at q)]
        unfold stepP
        rw [hb']
        by_cases hs : spotsN tab ts n b = []
        · have hi : placesN tab ts n b = none := by rw [ih b, if_pos (.inr hs)]
          rw [hi, if_pos ⟨h0, rfl⟩, if_pos rfl, hs]
          rw [List.nil_append, standN_one]
        · have hi : placesN tab ts n b = some (standN tab ts (spotsN tab ts n b)) := by rw [ih b, if_neg (by rintro (q | q); exact h0 q; exact hs q)]
          have hm := mem_spotsN.mp (standN_mem (tab := tab) (ts := ts) hs)
          have hg := tsA_get (ts := ts) (Nat.lt_trans hm.1 hlt)
          rw [standN_snoc hs (fun i hi => Nat.lt_trans (mem_spotsN.mp hi).1 hlt) hlt]
          cases hbt : better tab (tsA ts n) (tsA ts (standN tab ts (spotsN tab ts n b))) with
          | true =>
            rw [if_pos ⟨h0, by rw [hi]; dsimp only; rw [hg]; exact hbt⟩, if_pos rfl]; rfl
          | false =>
            rw [if_neg (fun q => by have := q.2; rw [hi] at this; dsimp only at this; rw [hg] at this; dsimp only at this; rw [hbt] at this; cases this), hi]; rfl
    · rw [if_neg hb, List.append_nil]
      have hb' : ¬ b = base tab (tsA ts n) := fun e => hb e.symm
      rw [← ih b]
      unfold stepP
      simp only [ite_app, if_neg hb', ite_self]
section
variable {tab : Tab} {ts : List Tr}
noncomputable abbrev stA (tab : Tab) (ts : List Tr) : Str → Option Nat := placesN tab ts ts.length
theorem stA_some {b : Str} {q : Nat} (h : stA tab ts b = some q) : q < ts.length ∧ bA tab ts q = b ∧ b ≠ noS ∧ q = standN tab ts (spotsN tab ts ts.length b) := by
  have e := placesN_eq (tab := tab) (ts := ts) (Nat.le_refl _) b
  rw [show placesN tab ts ts.length b = some q from h] at e
  split at e
  · cases e
  · rename_i hn
    cases e
    have hs : spotsN tab ts ts.length b ≠ [] := fun q => hn (.inr q)
    have := mem_spotsN.mp (standN_mem (tab := tab) (ts := ts) hs)
    exact ⟨this.1, this.2, fun q => hn (.inl q), rfl⟩
theorem stA_ex {p : Nat} (hp : p < ts.length) (hb : bA tab ts p ≠ noS) : stA tab ts (bA tab ts p) = some (standN tab ts (spotsN tab ts ts.length (bA tab ts p))) := by
  have e := placesN_eq (tab := tab) (ts := ts) (Nat.le_refl _) (bA tab ts p)
  rw [if_neg] at e
  · exact e
  · rintro (q | q)
    · exact hb q
    · have : p ∈ spotsN tab ts ts.length (bA tab ts p) := mem_spotsN.mpr ⟨hp, rfl⟩
      rw [q] at this; exact absurd this List.not_mem_nil
theorem stA_num {b : Str} {q p : Nat} (h : stA tab ts b = some q) (hq : (tsA ts q).num ≠ 0) (hp : p < ts.length) (hb : bA tab ts p = b) : (tsA ts p).num ≠ 0 := by
  obtain ⟨h1, h2, h3, h4⟩ := stA_some h
  intro h0
  have hz : ∀ i ∈ spotsN tab ts ts.length b, isNum0 ts i = false := by
    cases e : (spotsN tab ts ts.length b).find? (isNum0 ts) with
    | none => intro i hi; have := List.find?_eq_none.mp e i hi; simpa using this
    | some i =>
      have : q = i := by rw [h4]; unfold standN; rw [e]
      have h5 := List.find?_some e
      rw [← this, isNum0_get h1] at h5
      exact absurd (by simpa using h5) hq
  have := hz p (mem_spotsN.mpr ⟨hp, hb⟩)
  rw [isNum0_get hp, h0] at this
  cases this
end
end

section
/-- a root whose dict may still change -/
structure Rt where
  x : Addr
  d : Addr
  l : Addr
  n : Nat
  tn : Nat
  t1 : Nat
  t2 : Nat
  e : Nat
  h1 : Int
  h2 : Int
  vs : List Value
  ks : List Tr
noncomputable abbrev Rt.obj (r : Rt) : Obj := rootO r.n r.tn r.h1 r.t1 r.h2 r.t2 r.l
noncomputable abbrev Rt.tree (r : Rt) : Tr := .mk r.n r.ks
noncomputable def Rt.Ok (S : Heap) (r : Rt) : Prop := S.get? r.x = some (instObj 36 r.d) ∧ S.get? r.l = some (lstO r.vs r.e) ∧ NodesT S r.vs r.ks
theorem Rt.Ok.mono {S S' : Heap} {r : Rt} (k : S.StaysIn S') (h : r.Ok S) : r.Ok S' := ⟨k _ _ h.1, k _ _ h.2.1, NodesT.mono k h.2.2⟩
theorem Rt.Ok.node {S h : Heap} {r : Rt} (ok : r.Ok S) (k : S.StaysIn h) (hd : h.get? r.d = some r.obj) : NodeT h (.ref r.x) r.tree := .mk (k _ _ ok.1) hd (k _ _ ok.2.1) (NodesT.mono k ok.2.2)
noncomputable abbrev Slots := List (Option Rt)
noncomputable def ents (rs : Slots) : Ledg := rs.filterMap fun o => o.map fun r => (r.d, r.obj)
theorem mem_ents {rs : Slots} {p : Addr × Obj} : p ∈ ents rs ↔ ∃ (k : Nat) (r : Rt), rs[k]? = some (some r) ∧ p = (r.d, r.obj) := by
  unfold ents
  rw [List.mem_filterMap]
  constructor
  · rintro ⟨o, ho, e⟩
    obtain ⟨k, hk⟩ := List.mem_iff_getElem?.mp ho
    cases o with
    | none => cases e
    | some r => exact ⟨k, r, hk, (Option.some.inj e).symm⟩
  · rintro ⟨k, r, hk, rfl⟩
    exact ⟨some r, List.mem_of_getElem? hk, rfl⟩
noncomputable def sval : Option Rt → Value
  | some r => .ref r.x
  | none => .none
noncomputable def svals (rs : Slots) : List Value := rs.map sval
theorem svals_get {rs : Slots} {k : Nat} {r : Rt} (h : rs[k]? = some (some r)) : (svals rs)[k]? = some (.ref r.x) := by unfold svals; rw [List.getElem?_map, h]; rfl
theorem svals_set {rs : Slots} {k : Nat} {o : Option Rt} : svals (rs.set k o) = (svals rs).set k (sval o) := by unfold svals; rw [List.map_set]
theorem svals_length {rs : Slots} : (svals rs).length = rs.length := by unfold svals; simp
noncomputable def DD (rs : Slots) : Prop := ∀ (k k' : Nat) (r r' : Rt), rs[k]? = some (some r) → rs[k']? = some (some r') → r.d = r'.d → k = k'
theorem set2_get {rs : Slots} {q i k : Nat} {o : Option Rt} (hq : q < rs.length) (hi : i < rs.length) : ((rs.set q o).set i none)[k]? = if k = i then some none else if k = q then some o else rs[k]? := by
  rw [List.getElem?_set, List.getElem?_set]
  by_cases h1 : k = i
  · rw [if_pos h1, if_pos h1.symm, List.length_set, if_pos (by omega)]
  · rw [if_neg h1, if_neg (show ¬ i = k from fun e => h1 e.symm)]
    by_cases h2 : k = q
    · rw [if_pos h2, if_pos h2.symm, if_pos (by omega)]
    · rw [if_neg h2, if_neg (show ¬ q = k from fun e => h2 e.symm)]
section
variable {rs : Slots} {q i : Nat} (hq : q < rs.length) (hi : i < rs.length)
include hq hi
theorem mem_two {p : Addr × Obj} : p ∈ ents ((rs.set q none).set i none) ↔ ∃ (k : Nat) (r : Rt), k ≠ q ∧ k ≠ i ∧ rs[k]? = some (some r) ∧ p = (r.d, r.obj) := by
  rw [mem_ents]
  constructor
  · rintro ⟨k, r, h, rfl⟩
    rw [set2_get hq hi] at h
    by_cases h1 : k = i
    · rw [if_pos h1] at h; cases h
    · rw [if_neg h1] at h
      by_cases h2 : k = q
      · rw [if_pos h2] at h; cases h
      · rw [if_neg h2] at h; exact ⟨k, r, h2, h1, h, rfl⟩
  · rintro ⟨k, r, h1, h2, h, rfl⟩
    exact ⟨k, r, by rw [set2_get hq hi, if_neg h2, if_neg h1]; exact h, rfl⟩
theorem ents_set2 {r2 : Rt} : ∀ p ∈ ents ((rs.set q (some r2)).set i none), p = (r2.d, r2.obj) ∨ p ∈ ents ((rs.set q none).set i none) := by
  intro p hp
  obtain ⟨k, r, h, rfl⟩ := mem_ents.mp hp
  rw [set2_get hq hi] at h
  by_cases h1 : k = i
  · rw [if_pos h1] at h; cases h
  · rw [if_neg h1] at h
    by_cases h2 : k = q
    · rw [if_pos h2] at h; cases h; exact .inl rfl
    · rw [if_neg h2] at h; exact .inr ((mem_two hq hi).mpr ⟨k, r, h2, h1, h, rfl⟩)
theorem two_sub : ∀ p ∈ ents ((rs.set q none).set i none), p ∈ ents rs := by
  intro p hp
  obtain ⟨k, r, _, _, h, rfl⟩ := (mem_two hq hi).mp hp
  exact mem_ents.mpr ⟨k, r, h, rfl⟩
end
theorem useH {w : World} {f : Addr} {n dp un : Nat} {fr : Option (List Env)} {gd : Option (List Code)} {vals : List Value} {Pre : Heap → Prop} {Post : Heap → Value → Prop} {p : Program} {loose : List Str} {mg mb : Str → Option Value} {h₀ : Heap} {L : Addr} {m : Str → Option Value} {nw : Ledg} {s : Shared} {Q E : Value → Shared → Prop}
    (Sp : HSpec w f n vals Pre Post) (F : Fr h₀ L s.heap m) (N : News h₀ L s.heap nw) (X : (grab.heap_1 w.params).In h₀) (T : TopRead p loose mg mb h₀)
    (hd : dp + n < 1000) (hu : un + 8 * n + 100 < 9900) (hp : Pre s.heap)
    (h : ∀ r h' tk, Fr h₀ L h' m → News h₀ L h' nw → (∃ G', Post G' r) → Q r { s with heap := h', toks := tk }) : wpAny (model Pg w) (Ar dp un fr gd) (call (.ref f) vals) Q E s :=
  Sp p loose mg mb dp un fr gd s Q E s.heap hd hu (X.keeps F.keep) (T.keeps F.keep) (fun _ _ e => e) hp fun r h' tk G' st _ _ hr => h r h' tk (F.keeps st) (N.grown st) ⟨G', hr⟩
theorem mems_none {tab : Tab} {ts : List Tr} {P : Nat → Bool} (h : ∀ p, P p = false) (k : Nat) : mems tab ts P k = [] := by
  unfold mems; rw [List.filter_eq_nil_iff]; intro p _; rw [h p]; simp
theorem slotP_none {tab : Tab} {ts : List Tr} {st : Str → Option Nat} {P : Nat → Bool} (h : ∀ p, P p = false) (k : Nat) : slotP tab ts st P k = some (tsA ts k) := by
  unfold slotP; rw [mems_none h, h k]; simp [foldJ]
theorem ltS (i p : Nat) : decide (p < i + 1) = (decide (p < i) || p == i) := by
  by_cases h : p = i
  · subst h; simp
  · have : (p == i) = false := by simpa using h
    rw [this, Bool.or_false]; congr 1; apply propext; omega
theorem slotP_congr {tab : Tab} {ts : List Tr} {st : Str → Option Nat} {P P' : Nat → Bool} (h : ∀ p < ts.length, P p = P' p) {k : Nat} (hk : k < ts.length) : slotP tab ts st P k = slotP tab ts st P' k := by
  have : mems tab ts P k = mems tab ts P' k := by
    unfold mems
    exact List.filter_congr fun p hp => by rw [h p (List.mem_range.mp hp)]
  unfold slotP; rw [this, h k hk]
theorem slots_all {tab : Tab} {ts : List Tr} {st : Str → Option Nat} {R : Slots} {P : Nat → Bool} {n : Nat} (hl : R.length = n) (h : ∀ k < n, ∃ o, R[k]? = some o ∧ o.map Rt.tree = slotP tab ts st P k) : R.filterMap (Option.map Rt.tree) = (List.range n).filterMap (slotP tab ts st P) := by
  have : R.map (Option.map Rt.tree) = (List.range n).map (slotP tab ts st P) := by
    apply List.ext_getElem?
    intro k
    rw [List.getElem?_map, List.getElem?_map]
    by_cases hk : k < n
    · obtain ⟨o, h1, h2⟩ := h k hk
      rw [h1, List.getElem?_range hk]; simp [h2]
    · rw [List.getElem?_eq_none (by omega), List.getElem?_eq_none (by simpa using hk)]; rfl
  have e1 : R.filterMap (Option.map Rt.tree) = (R.map (Option.map Rt.tree)).filterMap id := by rw [List.filterMap_map]; rfl
  rw [e1, this, List.filterMap_map]; rfl
end

section

/-- a dict of the places that hold something, in their order -/
noncomputable def kvsOf (g : Nat → Option Value) (n : Nat) : List (Int × Value) := (List.range n).filterMap fun (k : Nat) => (g k).map fun v => ((k : Int), v)
theorem kvsOf_succ (g : Nat → Option Value) (n : Nat) : kvsOf g (n + 1) = kvsOf g n ++ ((g n).map fun v => ((n : Int), v)).toList := by
  unfold kvsOf; rw [List.range_succ, List.filterMap_append]
  cases h : g n <;> simp [h]
theorem kvsOf_enum (vl : Nat → Value) (n : Nat) : enumKvs vl n = kvsOf (fun k => some (vl k)) n := by
  induction n with
  | zero => rfl
  | succ n ih => rw [kvsOf_succ, ← ih]; unfold enumKvs; rw [List.range_succ, List.map_append]; rfl
theorem kvsOf_len (g : Nat → Option Value) (n : Nat) : (kvsOf g n).length ≤ n := by
  unfold kvsOf; have := List.length_filterMap_le (fun (k : Nat) => (g k).map fun v => ((k : Int), v)) (List.range n); simpa using this
theorem kvsOf_keys (g : Nat → Option Value) (n : Nat) : (kvsOf g n).map (·.1) = ((List.range n).filter fun k => (g k).isSome).map fun (k : Nat) => (k : Int) := by
  induction n with
  | zero => rfl
  | succ n ih => rw [kvsOf_succ, List.map_append, ih, List.range_succ, List.filter_append, List.map_append]; cases h : g n <;> simp [h]
theorem kvsOf_fst {g : Nat → Option Value} {n : Nat} {q : Int × Value} (h : q ∈ kvsOf g n) : ∃ k : Nat, k < n ∧ q.1 = (k : Int) ∧ g k = some q.2 := by
  unfold kvsOf at h
  obtain ⟨k, hk, e⟩ := List.mem_filterMap.mp h
  obtain ⟨v, hv, e2⟩ := Option.map_eq_some_iff.mp e
  exact ⟨k, List.mem_range.mp hk, by rw [← e2], by rw [← e2]; exact hv⟩
theorem kvsOf_at {g : Nat → Option Value} : ∀ {n k : Nat}, k < n → valueAt (kvsOf g n) (k : Int) = g k
  | n + 1, k, hk => by
    rw [kvsOf_succ]
    unfold valueAt
    rw [List.find?_append]
    by_cases h : k = n
    · subst h
      have : (kvsOf g k).find? (fun kv => decide (kv.1 = (k : Int))) = none := by
        rw [List.find?_eq_none]; intro q hq e
        obtain ⟨j, hj, e2, _⟩ := kvsOf_fst hq
        have e3 : q.1 = (k : Int) := by simpa using e
        omega
      rw [this]
      cases h : g k <;> simp
    · have ih := kvsOf_at (g := g) (n := n) (k := k) (by omega)
      unfold valueAt at ih
      have h2 : (((g n).map fun v => ((n : Int), v)).toList).find? (fun kv => decide (kv.1 = (k : Int))) = none := by
        cases g n with
        | none => rfl
        | some v =>
          have : ¬ ((n : Int) = (k : Int)) := by omega
          simp [this]
      rw [h2, Option.or_none]; exact ih
theorem kvsOf_without {g g' : Nat → Option Value} {n k : Nat} (hk : ∀ j, g' j = if j = k then none else g j) : without (kvsOf g n) (k : Int) = kvsOf g' n := by
  induction n with
  | zero => rfl
  | succ n ih =>
    rw [kvsOf_succ, kvsOf_succ, ← ih]
    unfold without
    rw [List.filter_append]
    congr 1
    rw [hk n]
    by_cases h : n = k
    · subst h; cases g n <;> simp
    · have : ¬ ((n : Int) = (k : Int)) := by omega
      cases g n <;> simp [h, this]
theorem kvsOf_stored {g g' : Nat → Option Value} {n k : Nat} {v : Value} (hlt : k < n) (hs : ∃ u, g k = some u) (hk : ∀ j, g' j = if j = k then some v else g j) : stored (kvsOf g n) (k : Int) v = kvsOf g' n := by
  obtain ⟨u, hu⟩ := hs
  have hany : (kvsOf g n).any (fun kv => decide (kv.1 = (k : Int))) = true := by
    rw [List.any_eq_true]
    refine ⟨((k : Int), u), ?_, by simp⟩
    unfold kvsOf
    exact List.mem_filterMap.mpr ⟨k, List.mem_range.mpr hlt, by rw [hu]; rfl⟩
  unfold stored
  rw [if_pos hany]
  clear hany hlt
  induction n with
  | zero => rfl
  | succ n ih =>
    rw [kvsOf_succ, kvsOf_succ, List.map_append, ih]
    congr 1
    rw [hk n]
    by_cases h : n = k
    · subst h; rw [hu]; simp
    · have : ¬ ((n : Int) = (k : Int)) := by omega
      cases g n <;> simp [h, this]

/-- the slots' values stand for the trees -/
noncomputable def SlotV (S : Heap) (g : Nat → Option Value) (f : Nat → Option Tr) (n : Nat) : Prop := ∀ k < n, (g k = none ∧ f k = none) ∨ ∃ v t, g k = some v ∧ f k = some t ∧ TupT S v t
theorem SlotV.mono {S S' : Heap} (k : S.StaysIn S') {g : Nat → Option Value} {f : Nat → Option Tr} {n : Nat} (h : SlotV S g f n) : SlotV S' g f n := fun j hj => by
  rcases h j hj with a | ⟨v, t, a, b, c⟩
  · exact .inl a
  · exact .inr ⟨v, t, a, b, c.mono k⟩
theorem SlotV.at {S : Heap} {g : Nat → Option Value} {f : Nat → Option Tr} {n k : Nat} (h : SlotV S g f n) (hk : k < n) {t : Tr} (e : f k = some t) : ∃ v, g k = some v ∧ TupT S v t := by
  rcases h k hk with ⟨_, b⟩ | ⟨v, u, a, b, c⟩
  · rw [e] at b; cases b
  · rw [e] at b; cases b; exact ⟨v, a, c⟩
theorem SlotV.congr {S : Heap} {g : Nat → Option Value} {f f' : Nat → Option Tr} {n : Nat} (h : SlotV S g f n) (e : ∀ k < n, f' k = f k) : SlotV S g f' n := fun k hk => by rw [e k hk]; exact h k hk
theorem SlotV.list {S : Heap} {g : Nat → Option Value} {f : Nat → Option Tr} : ∀ {n : Nat}, SlotV S g f n → TupsT S ((List.range n).filterMap g) ((List.range n).filterMap f)
  | 0, _ => .nil
  | n + 1, h => by
    have ih := SlotV.list (n := n) fun k hk => h k (Nat.lt_succ_of_lt hk)
    rw [List.range_succ, List.filterMap_append, List.filterMap_append]
    rcases h n (Nat.lt_succ_self n) with ⟨a, b⟩ | ⟨v, t, a, b, c⟩
    · simpa [a, b] using ih
    · have : TupsT S ((List.range n).filterMap g ++ [v]) ((List.range n).filterMap f ++ [t]) := ih.snoc c
      simpa [a, b] using this

theorem slotP_noS {tab : Tab} {ts : List Tr} {st : Str → Option Nat} {P P' : Nat → Bool} (h : ∀ p < ts.length, bA tab ts p ≠ noS → P p = P' p) {k : Nat} (hk : k < ts.length) : slotP tab ts st P k = slotP tab ts st P' k := by
  unfold slotP
  by_cases h1 : bA tab ts k = noS
  · rw [if_pos h1, if_pos h1]
  · rw [if_neg h1, if_neg h1]
    have : mems tab ts P k = mems tab ts P' k := by
      unfold mems
      refine List.filter_congr fun p hp => ?_
      by_cases h2 : bA tab ts p = bA tab ts k
      · rw [h p (List.mem_range.mp hp) (by rw [h2]; exact h1)]
      · simp [h2]
    rw [this, h k hk h1]
/-- the places gone through: of the first i bases -/
noncomputable def PO (tab : Tab) (ts : List Tr) (ss : List Str) (i : Nat) (p : Nat) : Bool := decide (bA tab ts p ≠ noS ∧ bA tab ts p ∈ ss.take i)
/-- .. and of the first j places of the next -/
noncomputable def PI (tab : Tab) (ts : List Tr) (ss : List Str) (i : Nat) (b : Str) (j : Nat) (p : Nat) : Bool := PO tab ts ss i p || decide (p ∈ (spotsN tab ts ts.length b).take j)
section
variable {tab : Tab} {ts : List Tr} {ss : List Str} {i : Nat} {b : Str}
theorem PI_zero : PI tab ts ss i b 0 = PO tab ts ss i := by funext p; simp [PI]
theorem PO_skip (hb : ss[i]? = some noS) : PO tab ts ss (i + 1) = PO tab ts ss i := by
  funext p; unfold PO; rw [take_snoc hb]
  congr 1; apply propext
  constructor
  · rintro ⟨h1, h2⟩
    refine ⟨h1, ?_⟩
    rcases List.mem_append.mp h2 with h2 | h2
    · exact h2
    · exact absurd (List.mem_singleton.mp h2) h1
  · rintro ⟨h1, h2⟩; exact ⟨h1, List.mem_append_left _ h2⟩
theorem PI_all (hb : ss[i]? = some b) (hb0 : b ≠ noS) {p : Nat} (hp : p < ts.length) : PI tab ts ss i b (spotsN tab ts ts.length b).length p = PO tab ts ss (i + 1) p := by
  unfold PI PO
  rw [List.take_length, take_snoc hb]
  by_cases h : bA tab ts p = b
  · have : p ∈ spotsN tab ts ts.length b := mem_spotsN.mpr ⟨hp, h⟩
    simp [this, h, hb0]
  · have : p ∉ spotsN tab ts ts.length b := fun q => h (mem_spotsN.mp q).2
    simp [this, h]
theorem spotsN_sorted {n : Nat} : (spotsN tab ts n b).Pairwise (· < ·) := (List.pairwise_lt_range).filter _
theorem PI_step {j p0 : Nat} (h0 : (spotsN tab ts ts.length b)[j]? = some p0) (p : Nat) : PI tab ts ss i b (j + 1) p = (PI tab ts ss i b j p || p == p0) := by
  unfold PI
  rw [take_snoc h0, Bool.or_assoc]
  congr 1
  by_cases h : p = p0
  · subst h; simp
  · have : (p == p0) = false := by simpa using h
    rw [this, Bool.or_false]; congr 1; apply propext; simp [h]
theorem take_lt {l : List Nat} (hs : l.Pairwise (· < ·)) {j p0 : Nat} (h0 : l[j]? = some p0) {p : Nat} (hp : p ∈ l.take j) : p < p0 := by
  obtain ⟨k, hk⟩ := List.mem_iff_getElem?.mp hp
  have hkj : k < j := by
    have := (List.getElem?_eq_some_iff.mp hk).1
    rw [List.length_take] at this; omega
  rw [List.getElem?_take_of_lt hkj] at hk
  obtain ⟨a1, a2⟩ := List.getElem?_eq_some_iff.mp hk
  obtain ⟨b1, b2⟩ := List.getElem?_eq_some_iff.mp h0
  rw [← a2, ← b2]
  exact (List.pairwise_iff_getElem.mp hs) k j a1 b1 hkj
theorem nodup_take {l : List Str} (hn : l.Nodup) (hb : l[i]? = some b) : b ∉ l.take i := fun h => by
  obtain ⟨k, hk⟩ := List.mem_iff_getElem?.mp h
  have hki : k < i := by
    have := (List.getElem?_eq_some_iff.mp hk).1
    rw [List.length_take] at this; omega
  rw [List.getElem?_take_of_lt hki] at hk
  obtain ⟨a1, a2⟩ := List.getElem?_eq_some_iff.mp hk
  obtain ⟨b1, b2⟩ := List.getElem?_eq_some_iff.mp hb
  exact absurd (a2.trans b2.symm) ((List.pairwise_iff_getElem.mp hn) k i a1 b1 hki)
section
variable {j p0 : Nat} (hn : ss.Nodup) (hb : ss[i]? = some b) (h0 : (spotsN tab ts ts.length b)[j]? = some p0)
include hn hb h0
theorem PI_fresh : PI tab ts ss i b j p0 = false := by
  have hm := mem_spotsN.mp (List.mem_of_getElem? h0)
  unfold PI PO
  rw [hm.2]
  have h1 := nodup_take hn hb
  have h2 : p0 ∉ (spotsN tab ts ts.length b).take j := fun h => absurd (take_lt spotsN_sorted h0 h) (Nat.lt_irrefl _)
  simp [h1, h2]
theorem PI_before {p : Nat} (hp : bA tab ts p = bA tab ts p0) (h : PI tab ts ss i b j p = true) : p < p0 := by
  have hm := mem_spotsN.mp (List.mem_of_getElem? h0)
  unfold PI PO at h
  rw [hp, hm.2] at h
  have h1 := nodup_take hn hb
  have h2 : p ∈ (spotsN tab ts ts.length b).take j := by simpa [h1] using h
  exact take_lt spotsN_sorted h0 h2
end
end
end

section

/-- what the made roots and table are like -/
structure RootsOk (ts : List Tr) (tab : Tab) : Prop where
  ok : ∀ t ∈ ts, RootOk tab t
  size : ∀ t ∈ ts, t.size ≤ 3 ∧ t.ht ≤ 2
  nums : numsOf' (flats ts) = (List.range tab.length).map fun i : Nat => (i : Int) + 1
  len : tab.length ≤ 2 * ts.length
theorem wtab_app {tab u : Tab} {n : Nat} (h : wtab tab n) : wtab (tab ++ u) n := by unfold wtab at *; rw [List.length_append]; omega

theorem cTree_ok (r : Nat) (tab : Tab) : RootOk (tab ++ cTab r) (cTree r (tab.length + 1)) := by
  have h1 : wtab (tab ++ cTab r) (tab.length + 1) := by
    unfold wtab; rw [List.length_append, cTab_len]; split <;> omega
  unfold RootOk cTree
  split
  · exact h1
  · split
    · exact h1
    · exact h1
theorem cTree_size (r n : Nat) : (cTree r n).size ≤ 3 ∧ (cTree r n).ht ≤ 2 := by
  unfold cTree
  split
  · simp [Tr.size, Tr.sizes, Tr.ht, Tr.hts]
  · split <;> simp [Tr.size, Tr.sizes, Tr.ht, Tr.hts]
theorem cTree_nums (r n : Nat) : numsOf' (flats [cTree r (n + 1)]) = (List.range (cTab r).length).map fun i : Nat => ((n + i : Nat) : Int) + 1 := by
  rw [cTab_len]
  unfold cTree
  split
  · simp [flats, Tr.flat, numsOf', Tr.num, List.range_succ]
  · split
    · simp [flats, Tr.flat, numsOf', Tr.num, List.range_succ]
    · simp [flats, Tr.flat, numsOf', Tr.num, List.range_succ]
theorem rangeMap_app (a b : Nat) : (List.range (a + b)).map (fun i : Nat => (i : Int) + 1) = (List.range a).map (fun i : Nat => (i : Int) + 1) ++ (List.range b).map (fun i : Nat => ((a + i : Nat) : Int) + 1) := by
  rw [List.range_add, List.map_append, List.map_map]; rfl
theorem roots_ok : ∀ ns : List Int, RootsOk (rootsN ns).1 (rootsN ns).2 ∧ (rootsN ns).1.length = ns.length := by
  intro ns
  have key : ∀ (ns : List Int) (st : List Tr × Tab), RootsOk st.1 st.2 → RootsOk (ns.foldl cStep st).1 (ns.foldl cStep st).2 ∧ (ns.foldl cStep st).1.length = st.1.length + ns.length := by
    intro ns
    induction ns with
    | nil => exact fun st h => ⟨h, rfl⟩
    | cons n ns ih =>
      intro st h
      have h' : RootsOk (cStep st n).1 (cStep st n).2 := by
        refine ⟨fun t ht => ?_, fun t ht => ?_, ?_, ?_⟩
        · rcases List.mem_append.mp ht with ht | ht
          · exact wtab_app (h.ok t ht)
          · rw [List.mem_singleton.mp ht]; exact cTree_ok _ _
        · rcases List.mem_append.mp ht with ht | ht
          · exact h.size t ht
          · rw [List.mem_singleton.mp ht]; exact cTree_size _ _
        · show numsOf' (flats (st.1 ++ [cTree n.natAbs (st.2.length + 1)])) = (List.range (st.2 ++ cTab n.natAbs).length).map _
          rw [flats_append, numsOf'_append, h.nums, cTree_nums, List.length_append, rangeMap_app]
        · show (st.2 ++ cTab n.natAbs).length ≤ 2 * (st.1 ++ [_]).length
          rw [List.length_append, List.length_append, cTab_len, List.length_singleton]
          have := h.len
          split <;> omega
      obtain ⟨a, b⟩ := ih _ h'
      refine ⟨a, ?_⟩
      rw [List.foldl_cons, b]
      show (st.1 ++ [_]).length + ns.length = _
      rw [List.length_append, List.length_singleton, List.length_cons]; omega
  obtain ⟨a, b⟩ := key ns ([], []) ⟨fun t h => absurd h List.not_mem_nil, fun t h => absurd h List.not_mem_nil, rfl, Nat.le_refl _⟩
  exact ⟨a, by rw [show rootsN ns = ns.foldl cStep ([], []) from rfl, b]; simp⟩
theorem sizes_le {k : Nat} : ∀ {ts : List Tr}, (∀ t ∈ ts, t.size ≤ k) → Tr.sizes ts ≤ k * ts.length
  | [], _ => Nat.zero_le _
  | t :: ts, h => by
    have h1 := h t (.head _)
    have h2 := sizes_le (ts := ts) fun u hu => h u (.tail _ hu)
    rw [Tr.sizes, List.length_cons, Nat.mul_add]; omega

section
variable {tab : Tab} {ts : List Tr}
/-- the threads behind the joining -/
noncomputable def gath (tab : Tab) (ts : List Tr) : List Tr := (List.range ts.length).filterMap (slotP tab ts (stA tab ts) fun _ => true)
noncomputable def numsF (ts : List Tr) : List Int := numsOf' (flats ts)
theorem numsF_append (a b : List Tr) : numsF (a ++ b) = numsF a ++ numsF b := by unfold numsF; rw [flats_append, numsOf'_append]
theorem numsF_mk (n : Nat) (ks : List Tr) : numsF [.mk n ks] = (if n = 0 then [] else [(n : Int)]) ++ numsF ks := by
  unfold numsF
  simp only [flats, Tr.flat, List.append_nil, numsOf', Tr.num]
  by_cases h : n = 0 <;> simp [h]
theorem joinT_nums (h n : Tr) : (numsF [joinT tab h n]).Perm (numsF [h] ++ numsF [n]) := by
  cases h with
  | mk a ks =>
    cases n with
    | mk b us =>
      unfold joinT
      by_cases h0 : a = 0
      · rw [if_pos (by exact h0)]
        subst h0
        show (numsF [Tr.mk 0 (ks ++ if b = 0 then us else [Tr.mk b us])]).Perm _
        rw [numsF_mk, numsF_mk, numsF_append]
        by_cases h1 : b = 0
        · subst h1; rw [if_pos rfl, numsF_mk]; simp
        · rw [if_neg h1]; simp
      · rw [if_neg (by exact h0)]
        split
        · show (numsF [Tr.mk a (ks ++ [Tr.mk b us])]).Perm _
          rw [numsF_mk, numsF_append, numsF_mk a ks, List.append_assoc]
        · rw [numsF_mk]
          show ([] ++ numsF ([Tr.mk a ks] ++ [Tr.mk b us])).Perm _
          rw [numsF_append]; simp
theorem foldJ_nums (t : Tr) : ∀ l : List Nat, (numsF [foldJ tab ts t l]).Perm (numsF [t] ++ (l.flatMap fun p => numsF [tsA ts p])) := by
  intro l
  induction l generalizing t with
  | nil => simp [foldJ]
  | cons p r ih =>
    have := ih (joinT tab t (tsA ts p))
    rw [List.flatMap_cons, ← List.append_assoc]
    exact this.trans (List.Perm.append_right _ (joinT_nums t (tsA ts p)))
theorem numsF_flatMap (l : List Tr) : numsF l = l.flatMap fun t => numsF [t] := by
  induction l with
  | nil => rfl
  | cons t l ih => rw [show t :: l = [t] ++ l from rfl, numsF_append, ih, List.flatMap_append]; simp
/-- the places whose letters come to stand at place k -/
noncomputable def idx (tab : Tab) (ts : List Tr) (k : Nat) : List Nat := if bA tab ts k = noS then [k] else if stA tab ts (bA tab ts k) = some k then k :: mems tab ts (fun _ => true) k else []
theorem mem_idx {k p : Nat} (hk : k < ts.length) : p ∈ idx tab ts k ↔ p < ts.length ∧ ((bA tab ts p = noS ∧ p = k) ∨ (bA tab ts p ≠ noS ∧ stA tab ts (bA tab ts p) = some k)) := by
  unfold idx
  by_cases h1 : bA tab ts k = noS
  · rw [if_pos h1, List.mem_singleton]
    constructor
    · rintro rfl; exact ⟨hk, .inl ⟨h1, rfl⟩⟩
    · rintro ⟨_, ⟨_, h⟩ | ⟨h2, h3⟩⟩
      · exact h
      · exact absurd ((stA_some h3).2.1.symm.trans h1) h2
  · rw [if_neg h1]
    by_cases h2 : stA tab ts (bA tab ts k) = some k
    · rw [if_pos h2, List.mem_cons]
      constructor
      · rintro (rfl | h)
        · exact ⟨hk, .inr ⟨h1, h2⟩⟩
        · unfold mems at h
          rw [List.mem_filter, List.mem_range] at h
          have h3 : bA tab ts p = bA tab ts k := by have := h.2; simp at this; exact this.2
          exact ⟨h.1, .inr ⟨by rw [h3]; exact h1, by rw [h3]; exact h2⟩⟩
      · rintro ⟨hp, ⟨h3, rfl⟩ | ⟨h3, h4⟩⟩
        · exact absurd h3 h1
        · by_cases e : p = k
          · exact .inl e
          · refine .inr ?_
            unfold mems
            rw [List.mem_filter, List.mem_range]
            exact ⟨hp, by simp [e, (stA_some h4).2.1]⟩
    · rw [if_neg h2]
      refine ⟨fun h => absurd h List.not_mem_nil, ?_⟩
      rintro ⟨hp, ⟨h3, rfl⟩ | ⟨h3, h4⟩⟩
      · exact absurd h3 h1
      · exact absurd (by rw [(stA_some h4).2.1]; exact h4) h2
theorem idx_perm : ((List.range ts.length).flatMap (idx tab ts)).Perm (List.range ts.length) := by
  rw [List.perm_ext_iff_of_nodup]
  · intro p
    rw [List.mem_flatMap, List.mem_range]
    constructor
    · rintro ⟨k, hk, hp⟩
      exact ((mem_idx (List.mem_range.mp hk)).mp hp).1
    · intro hp
      by_cases h1 : bA tab ts p = noS
      · exact ⟨p, List.mem_range.mpr hp, (mem_idx hp).mpr ⟨hp, .inl ⟨h1, rfl⟩⟩⟩
      · have h2 := stA_ex hp h1
        have h3 := (stA_some h2).1
        exact ⟨_, List.mem_range.mpr h3, (mem_idx h3).mpr ⟨hp, .inr ⟨h1, h2⟩⟩⟩
  · unfold List.Nodup
    rw [List.pairwise_flatMap]
    refine ⟨fun k hk => ?_, ?_⟩
    · unfold idx
      split
      · simp
      · split
        · refine List.pairwise_cons.mpr ⟨fun p hp => ?_, ?_⟩
          · unfold mems at hp
            have := (List.mem_filter.mp hp).2
            simp at this
            exact fun e => this.1 e.symm
          · unfold mems
            exact (List.nodup_range.filter _)
        · exact .nil
    · refine List.Pairwise.imp_of_mem (R := fun a b => a ≠ b) (fun {a b} ha hb hab x hx y hy e => ?_) List.nodup_range
      subst e
      obtain ⟨_, h1⟩ := (mem_idx (List.mem_range.mp ha)).mp hx
      obtain ⟨_, h2⟩ := (mem_idx (List.mem_range.mp hb)).mp hy
      rcases h1 with ⟨h1, e1⟩ | ⟨h1, e1⟩ <;> rcases h2 with ⟨h2, e2⟩ | ⟨h2, e2⟩
      · exact hab (e1.symm.trans e2)
      · exact h2 h1
      · exact h1 h2
      · rw [e1] at e2; exact hab (Option.some.inj e2)
  · exact List.nodup_range
theorem slot_nums {k : Nat} : (match slotP tab ts (stA tab ts) (fun _ => true) k with | some t => numsF [t] | none => []).Perm ((idx tab ts k).flatMap fun p => numsF [tsA ts p]) := by
  unfold slotP idx
  by_cases h1 : bA tab ts k = noS
  · rw [if_pos h1, if_pos h1]; simp
  · rw [if_neg h1, if_neg h1]
    by_cases h2 : stA tab ts (bA tab ts k) = some k
    · rw [if_pos h2, if_pos h2, List.flatMap_cons]; exact foldJ_nums _ _
    · rw [if_neg h2, if_neg h2, if_pos rfl]; exact .nil
theorem gath_nums : (numsF (gath tab ts)).Perm (numsF ts) := by
  have e1 : numsF (gath tab ts) = (List.range ts.length).flatMap fun k => match slotP tab ts (stA tab ts) (fun _ => true) k with | some t => numsF [t] | none => [] := by
    unfold gath
    induction List.range ts.length with
    | nil => rfl
    | cons k r ih =>
      rw [List.filterMap_cons, List.flatMap_cons, ← ih]
      cases slotP tab ts (stA tab ts) (fun _ => true) k with
      | none => rfl
      | some t => exact numsF_append [t] _
  have e2 : ∀ l : List Nat, (l.flatMap fun k => match slotP tab ts (stA tab ts) (fun _ => true) k with | some t => numsF [t] | none => []).Perm (l.flatMap fun k => (idx tab ts k).flatMap fun p => numsF [tsA ts p]) := by
    intro l
    induction l with
    | nil => exact .nil
    | cons k r ih => rw [List.flatMap_cons, List.flatMap_cons]; exact slot_nums.append ih
  rw [e1]
  refine (e2 _).trans ?_
  rw [← List.flatMap_assoc]
  refine (idx_perm.flatMap_right _).trans ?_
  have e3 : (List.range ts.length).flatMap (fun p => numsF [tsA ts p]) = numsF ts := by
    rw [numsF_flatMap ts]
    conv => rhs; rw [← range_tsA ts]
    rw [List.flatMap_map]
  rw [e3]
theorem gath_bases (ok : ∀ t ∈ ts, RootOk tab t) : (gath tab ts).map (base tab) = ((List.range ts.length).filter fun k => (slotP tab ts (stA tab ts) (fun _ => true) k).isSome).map (bA tab ts) := by
  unfold gath
  have key : ∀ l : List Nat, (∀ k ∈ l, k < ts.length) → (l.filterMap (slotP tab ts (stA tab ts) fun _ => true)).map (base tab) = (l.filter fun k => (slotP tab ts (stA tab ts) (fun _ => true) k).isSome).map (bA tab ts) := by
    intro l
    induction l with
    | nil => exact fun _ => rfl
    | cons k r ih =>
      intro hl
      have ih := ih fun j hj => hl j (.tail _ hj)
      have hk := hl k (.head _)
      cases h : slotP tab ts (stA tab ts) (fun _ => true) k with
      | none => simp [h, ih]
      | some t =>
        have := (slot_rep (ok _ (List.mem_of_getElem? (tsA_get hk))) h).1
        have hb : base tab t = bA tab ts k := by unfold bA base; rw [this]
        simp [h, ih, hb]
  exact key _ fun k hk => List.mem_range.mp hk
theorem gath_once (ok : ∀ t ∈ ts, RootOk tab t) {b : Str} (hb : b ≠ noS) : ((gath tab ts).map (base tab)).count b ≤ 1 := by
  rw [gath_bases ok, List.count_eq_countP, List.countP_map, List.countP_filter, List.countP_eq_length_filter]
  have hn : ((List.range ts.length).filter fun k => ((fun x => x == b) ∘ bA tab ts) k && (slotP tab ts (stA tab ts) (fun _ => true) k).isSome).Nodup := List.nodup_range.filter _
  have hm : ∀ k ∈ (List.range ts.length).filter fun k => ((fun x => x == b) ∘ bA tab ts) k && (slotP tab ts (stA tab ts) (fun _ => true) k).isSome, stA tab ts b = some k := fun k hk => by
    rw [List.mem_filter] at hk
    have h1 := hk.2
    simp only [Function.comp, Bool.and_eq_true, beq_iff_eq] at h1
    obtain ⟨h1, h2⟩ := h1
    unfold slotP at h2
    rw [h1, if_neg hb] at h2
    by_cases h3 : stA tab ts b = some k
    · exact h3
    · rw [if_neg h3] at h2; simp at h2
  generalize (List.range ts.length).filter (fun k => ((fun x => x == b) ∘ bA tab ts) k && (slotP tab ts (stA tab ts) (fun _ => true) k).isSome) = l at hn hm
  cases l with
  | nil => simp
  | cons a r =>
    cases r with
    | nil => simp
    | cons c r =>
      have h1 := hm a (.head _)
      have h2 := hm c (.tail _ (.head _))
      rw [h1] at h2
      exact absurd (Option.some.inj h2) ((List.pairwise_cons.mp hn).1 c (.head _))
end
end

section
mutual
theorem Tr.ht_size : ∀ t : Tr, t.ht ≤ t.size
  | .mk n ks => by rw [Tr.ht, Tr.size]; have := Tr.hts_sizes ks; omega
theorem Tr.hts_sizes : ∀ ts : List Tr, Tr.hts ts ≤ Tr.sizes ts
  | [] => Nat.le_refl _
  | t :: ts => by rw [Tr.hts, Tr.sizes]; have := Tr.ht_size t; have := Tr.hts_sizes ts; omega
end
theorem gath_mem {tab : Tab} {ts : List Tr} (ok : ∀ t ∈ ts, RootOk tab t) {t : Tr} (h : t ∈ gath tab ts) : t.size ≤ 2 * Tr.sizes ts + ts.length ∧ RootOk tab t := by
  unfold gath at h
  obtain ⟨k, hk, e⟩ := List.mem_filterMap.mp h
  have hk := List.mem_range.mp hk
  exact ⟨slot_size hk e, (slot_rep (ok _ (List.mem_of_getElem? (tsA_get hk))) e).2.1⟩
theorem gath_len {tab : Tab} {ts : List Tr} : (gath tab ts).length ≤ ts.length := by
  unfold gath
  have := List.length_filterMap_le (slotP tab ts (stA tab ts) fun _ => true) (List.range ts.length)
  rwa [List.length_range] at this
/-- the sizes of this law -/
theorem law_sizes {ts : List Tr} {tab : Tab} (R : RootsOk ts tab) (hl : ts.length ≤ 7) : Tr.sizes ts ≤ 21 ∧ tab.length ≤ 14 ∧ (gath tab ts).length ≤ 7 ∧ (∀ t ∈ gath tab ts, t.size ≤ 49 ∧ t.ht ≤ 49) ∧ Tr.sizes (gath tab ts) ≤ 343 := by
  have h1 : Tr.sizes ts ≤ 3 * ts.length := sizes_le fun t ht => (R.size t ht).1
  have h2 := R.len
  have h3 := gath_len (tab := tab) (ts := ts)
  have h4 : ∀ t ∈ gath tab ts, t.size ≤ 49 ∧ t.ht ≤ 49 := fun t ht => by
    have a := (gath_mem R.ok ht).1
    have b := Tr.ht_size t
    exact ⟨by omega, by omega⟩
  have h5 : Tr.sizes (gath tab ts) ≤ 49 * (gath tab ts).length := sizes_le fun t ht => (h4 t ht).1
  exact ⟨by omega, by omega, by omega, h4, by omega⟩
theorem count_once {tab : Tab} {ts : List Tr} (ok : ∀ t ∈ ts, RootOk tab t) {i : Nat} {b : Str} (h : ((gath tab ts).map (base tab))[i]? = some b) : b = noS ∨ ¬ ((((gath tab ts).map (base tab)).count b : Nat) : Int) > 1 := by
  by_cases hb : b = noS
  · exact .inl hb
  · have := gath_once (tab := tab) (ts := ts) ok hb
    exact .inr (by omega)
theorem sorted_eq {a b : List Int} (p : a.Perm b) (ha : a.Pairwise (· ≤ ·)) (hb : b.Pairwise (· ≤ ·)) : a = b :=
  List.Perm.eq_of_pairwise (le := (· ≤ ·)) (fun _ _ _ _ h1 h2 => Int.le_antisymm h1 h2) ha hb p
end


section
theorem View.callee {h₀ G S g h₁ : Heap} {L L' : Addr} {tl nw : Ledg} {m' : Str → Option Value} (V : View h₀ G L S tl) (sub : ∀ p ∈ tl, p ∈ nw) (st : h₀.StaysIn g) (FG : Fr g L' h₁ m') (NG : News g L' h₁ nw) : View g G L' S tl := by
  refine ⟨V.stays, fun b o e => ?_, fun b o e => st b o (V.sub b o e), ?_, fun a o => ⟨fun h => ⟨(NG _ (sub _ h)).2.2, ((V.snap a o).mp h).2⟩, fun ⟨h1, h2⟩ => (V.snap a o).mpr ⟨?_, h2⟩⟩⟩
  · rcases V.src b o e with q | q
    · exact .inl q
    · exact .inr (NG (b, o) (sub _ ((V.snap b o).mpr ⟨q, e⟩))).2.2
  · cases e : S.get? L' with
    | none => rfl
    | some o =>
      rcases V.src _ _ e with q | q
      · exact absurd (Heap.lt_size (st _ _ (V.sub _ _ q))) (Nat.not_lt.mpr FG.above)
      · exact absurd rfl (NG (L', o) (sub _ ((V.snap L' o).mpr ⟨q, e⟩))).2.1
  · cases e : h₀.get? a with
    | none => rfl
    | some o' => have := st _ _ e; rw [h1] at this; cases this


theorem joined_at {w : World} {dp un : Nat} {fr : Option (List Env)} {gd : Option (List Code)} {p : Program} {loose : List Str} {mg mb : Str → Option Value} {h₀ G S : Heap} {L : Addr} {m : Str → Option Value} {tl rest : Ledg} {s : Shared} {Q E : Value → Shared → Prop}
    {x d l x' d' l' td : Addr} {n n' tn t1 t2 tn' t1' t2' e e' : Nat} {h1 h2 h1' h2' : Int} {vs vs' : List Value} {ks ks' : List Tr} {tab : Tab}
    (V : View h₀ G L S tl) (F : Fr h₀ L s.heap m) (N : News h₀ L s.heap ((d, rootO n tn h1 t1 h2 t2 l) :: (d', rootO n' tn' h1' t1' h2' t2' l') :: (rest ++ tl))) (X : (grab.heap_1 w.params).In h₀) (T : TopRead p loose mg mb h₀)
    (hdp : dp + 4 < 1000) (hun : un + 132 < 9900) (hx : S.get? x = some (instObj 36 d)) (hl : S.get? l = some (lstO vs e)) (hk : NodesT S vs ks) (hx' : S.get? x' = some (instObj 36 d')) (hl' : S.get? l' = some (lstO vs' e')) (hk' : NodesT S vs' ks')
    (hT : Tbl w S td tab) (ok : RootOk tab (.mk n ks)) (ok' : RootOk tab (.mk n' ks')) (hcan : n ≠ 0 → n' ≠ 0) (hS : S.get? d = none) (hS' : S.get? d' = none) (hne : @Ne Nat d d') (hr : ∀ p ∈ rest, p.1 ≠ d) (hr' : ∀ p ∈ rest, p.1 ≠ d') (hro : ∀ p ∈ rest, S.get? p.1 = none)
    (hsz : vs.length + vs'.length + 1 ≤ 1000)
    (h : ∀ h' tk S' tl' x2 d2 l2 n2 a1 b1 a2 b2 tn2 e2 vs2 ks2, Fr h₀ L h' m → News h₀ L h' ((d2, rootO n2 tn2 a1 b1 a2 b2 l2) :: (rest ++ tl')) → View h₀ G L S' tl' → S.StaysIn S' → S'.get? x2 = some (instObj 36 d2) → S'.get? l2 = some (lstO vs2 e2) → NodesT S' vs2 ks2 →
      Tr.mk n2 ks2 = joinT tab (.mk n ks) (.mk n' ks') → S'.get? d2 = none → (∀ p ∈ rest, S'.get? p.1 = none ∧ p.1 ≠ d2) → ((x2 = x ∧ d2 = d) ∨ NodeT S' (.ref x) (.mk n ks)) →
      (∀ b o, S.get? b = none → s.heap.get? b = some o → b ≠ d → b ≠ d' → S'.get? b = none) → (d2 = d ∨ s.heap.get? d2 = none) → Q (.ref x2) { s with heap := h', toks := tk }) :
    wpAny (model Pg w) (Ar dp un fr gd) (call (.ref 80) [.ref x, .ref x', .ref td]) Q E s := by
  refine wpAny_call ?_
  refine' enterN (binds := [(Str.ofString "held", .ref x), (Str.ofString "node", .ref x'), (Str.ofString "table", .ref td)]) F X T N ?ho ?hcd ?hroom ?hb ?hl ?h ?c1 ?c2 ?c3 ?c4
  case hroom => (show _ < 1000; walk_at "dp")
  case ho => k_is
  case hcd => k_is
  case hb => exact BindsTo.of_eq rfl
  case hl => exact locs rfl
  case c1 => exact rfl
  case c2 => exact rfl
  case c3 => exact rfl
  case c4 => decide
  intro g L' h₁ FG NG XG TG st keep
  have VG := V.callee (by walk_at "lg") st FG NG
  refine hide fun Pq9 hq9 => ?_
  obtain ⟨kvs, hD, hE⟩ := hT.dict
  by_cases h0 : n = 0
  · subst h0
    by_cases h0' : n' = 0
    · subst h0'
      refine hq9 ?_; clear hq9 Pq9
      (first | ((try dsimp only); k_unmd; k_fold) | skip)
      (repeat' (first | ((with_reducible first | refine hKn _ ?_ | refine hKr _ _ retNe ?_ | refine hKr _ _ contNe ?_); (try clear hKn hKr Kq); (try dsimp only)) | (k_unfold; (try dsimp only)) | (k_end; wrow_close) | walk1 | (dsimp only; walk1) | (leave1; try dsimp only) | fail "no step"))
      rename_i D1 hA1 lD1 hZ FZ NZ kF kN kX
      have fD1 : ∀ b o, s.heap.get? b = some o → D1 ≠ b := by
        intro b o e0 q
        subst q
        by_cases hb : D1 ∈ List.map (fun x => x.1) ((d, rootO 0 tn h1 t1 h2 t2 l) :: (d', rootO 0 tn' h1' t1' h2' t2' l') :: (rest ++ tl))
        · obtain ⟨q, hq, e1⟩ := List.mem_map.mp hb
          exact allLt_ne (show AllLt D1 ((d, rootO 0 tn h1 t1 h2 t2 l) :: (d', rootO 0 tn' h1' t1' h2' t2' l') :: (rest ++ tl)) from lD1) hq e1.symm
        · have := keep _ _ e0 hb
          rw [(NZ _ (.head _)).2.2] at this; cases this
      refine hide fun Pq9 hq9 => ?_
      obtain ⟨S3, tl3, V3, st3, ha3, of3, sb3⟩ := V.adds kF kN (by walk_at "lg") _ (sub_cons (.head _) sub_nil)
      refine hq9 ?_; clear hq9 Pq9
      exact h _ _ S3 tl3 x d D1 0 _ _ _ _ _ _ _ _ kF (News.sub kN (by walk_at "lg")) V3 st3 (st3 _ _ hx) (ha3 _ (.head _)) (NodesT.append (NodesT.mono st3 hk) (NodesT.mono st3 hk')) (by simp [joinT, Tr.num, Tr.kids]) (of3 _ hS (off_cons (by k_ne) off_nil)) (fun p hp => ⟨of3 _ (hro p hp) (off_cons (allLt_ne lD1.2.2 (List.mem_append_left _ hp)) off_nil), hr p hp⟩) (.inl ⟨rfl, rfl⟩) (fun b o e1 e2 _ _ => of3 b e1 (off_cons (fD1 _ _ e2) off_nil)) (.inl rfl)
    · have e2 : ¬ ((n' : Nat) : Int) = 0 := by omega
      refine hq9 ?_; clear hq9 Pq9
      (first | ((try dsimp only); k_unmd; k_fold) | skip)
      (repeat' (first | ((with_reducible first | refine hKn _ ?_ | refine hKr _ _ retNe ?_ | refine hKr _ _ contNe ?_); (try clear hKn hKr Kq); (try dsimp only)) | (k_unfold; (try dsimp only)) | (k_end; wrow_close) | walk1 | (dsimp only; walk1) | (leave1; try dsimp only) | fail "no step"))
      rename_i D1 hA1 lD1 D2 hA2 lD2 hZ FZ NZ kF kN kX
      have fD2 : ∀ b o, s.heap.get? b = some o → D2 ≠ b := by
        intro b o e0 q
        subst q
        by_cases hb : D2 ∈ List.map (fun x => x.1) ((d, rootO 0 tn h1 t1 h2 t2 l) :: (d', rootO n' tn' h1' t1' h2' t2' l') :: (rest ++ tl))
        · obtain ⟨q, hq, e1⟩ := List.mem_map.mp hb
          exact allLt_ne (show AllLt D2 ((d, rootO 0 tn h1 t1 h2 t2 l) :: (d', rootO n' tn' h1' t1' h2' t2' l') :: (rest ++ tl)) from lD2.2) hq e1.symm
        · have := keep _ _ e0 hb
          rw [(NZ _ (.head _)).2.2] at this; cases this
      refine hide fun Pq9 hq9 => ?_
      obtain ⟨S3, tl3, V3, st3, ha3, of3, sb3⟩ := V.adds kF kN (by walk_at "lg") _ (sub_cons (.head _) (sub_cons (a := (d', rootO n' tn' h1' t1' h2' t2' l')) (by k_mem) sub_nil))
      have nd : NodeT S3 (.ref x') (.mk n' ks') := .mk (st3 _ _ hx') (ha3 _ (.tail _ (.head _))) (st3 _ _ hl') (NodesT.mono st3 hk')
      refine hq9 ?_; clear hq9 Pq9
      exact h _ _ S3 tl3 x d D2 0 _ _ _ _ _ _ _ _ kF (News.sub kN (by walk_at "lg")) V3 st3 (st3 _ _ hx) (ha3 _ (.head _)) ((NodesT.mono st3 hk).snoc nd) (by simp [joinT, Tr.num, Tr.kids, h0']) (of3 _ hS (off_cons (by k_ne) (off_cons (by k_ne) off_nil))) (fun p hp => ⟨of3 _ (hro p hp) (off_cons (allLt_ne (allLt_app (k := tl) lD2.2.2.2).1 hp) (off_cons (hr' p hp).symm off_nil)), hr p hp⟩) (.inl ⟨rfl, rfl⟩) (fun b o e1 e2 _ e4 => of3 b e1 (off_cons (fD2 _ _ e2) (off_cons e4.symm off_nil))) (.inl rfl)
  · have h0' := hcan h0
    have e1 : ¬ ((n : Nat) : Int) = 0 := by omega
    refine hq9 ?_; clear hq9 Pq9
    unfold RootOk at ok ok'
    rw [rep_pos h0] at ok
    rw [rep_pos h0'] at ok'
    refine hide fun Pq9 hq9 => ?_
    refine ex10 (hE _ ok) fun a l9 t0 t9 tz tb e9 x0 x1 z hx9 => ?_
    refine ands2 hx9 fun hv ha => ?_
    clear hx9
    refine ex10 (hE _ ok') fun ax lx tx0 tx1 txz txb ex' xx0 xx1 zx hx9 => ?_
    refine ands2 hx9 fun hvx hax => ?_
    clear hx9
    refine hq9 ?_; clear hq9 Pq9
    cases r1 : (entry tab n').2
    · rw [r1] at hax
      (first | ((try dsimp only); k_unmd; k_fold) | skip)
      (repeat' (first | ((with_reducible first | refine hKn _ ?_ | refine hKr _ _ retNe ?_ | refine hKr _ _ contNe ?_); (try clear hKn hKr Kq); (try dsimp only)) | (k_unfold; (try dsimp only)) | (k_end; wrow_close) | walk1 | (dsimp only; walk1) | (leave1; try dsimp only) | fail "no step"))
      rename_i D1 hA1 FA1 NA1 lD1 x2 d2 hA2 tk2 a1 b1 a2 b2 FA2 NA2 l1 l2 kF kN kX
      have fD1 : ∀ b o, s.heap.get? b = some o → D1 ≠ b := by
        intro b o e0 q
        subst q
        by_cases hb : D1 ∈ List.map (fun x => x.1) ((d, rootO n tn h1 t1 h2 t2 l) :: (d', rootO n' tn' h1' t1' h2' t2' l') :: (rest ++ tl))
        · obtain ⟨q, hq, e1⟩ := List.mem_map.mp hb
          exact allLt_ne (show AllLt D1 ((d, rootO n tn h1 t1 h2 t2 l) :: (d', rootO n' tn' h1' t1' h2' t2' l') :: (rest ++ tl)) from lD1) hq e1.symm
        · have := keep _ _ e0 hb
          rw [(NA2 _ (.tail _ (.tail _ (.head _)))).2.2] at this; cases this
      have fx2 : ∀ b o, s.heap.get? b = some o → x2 ≠ b := by
        intro b o e0 q
        subst q
        by_cases hb : x2 ∈ List.map (fun x => x.1) ((d, rootO n tn h1 t1 h2 t2 l) :: (d', rootO n' tn' h1' t1' h2' t2' l') :: (rest ++ tl))
        · obtain ⟨q, hq, e1⟩ := List.mem_map.mp hb
          exact absurd (Nat.lt_trans (l1 q (List.mem_cons_of_mem _ hq)) l2) (by rw [e1]; exact Nat.lt_irrefl _)
        · have := keep _ _ e0 hb
          rw [(NA2 _ (.head _)).2.2] at this; cases this
      have fd2 : s.heap.get? d2 = none := by
        cases e0 : s.heap.get? d2 with
        | none => rfl
        | some o =>
          by_cases hb : d2 ∈ List.map (fun x => x.1) ((d, rootO n tn h1 t1 h2 t2 l) :: (d', rootO n' tn' h1' t1' h2' t2' l') :: (rest ++ tl))
          · obtain ⟨q, hq, e1⟩ := List.mem_map.mp hb
            exact absurd (l1 q (List.mem_cons_of_mem _ hq)) (by rw [e1]; exact Nat.lt_irrefl _)
          · have := keep _ _ e0 hb
            rw [(NA2 _ (.tail _ (.head _))).2.2] at this; cases this
      have s2 : S.get? d2 = none := V.notNew kN (.tail _ (.head _)) (fun p hp => l1 p (.tail _ (.tail _ (.tail _ (List.mem_append_right _ hp)))))
      have lr : ∀ p ∈ rest, @LT.lt Nat _ p.1 d2 := fun p hp => l1 p (.tail _ (.tail _ (.tail _ (List.mem_append_left _ hp))))
      have ld1 : @LT.lt Nat _ D1 d2 := l1 _ (.head _)
      have ld : @LT.lt Nat _ d d2 := l1 _ (.tail _ (.head _))
      have ld' : @LT.lt Nat _ d' d2 := l1 _ (.tail _ (.tail _ (.head _)))
      refine hide fun Pq9 hq9 => ?_
      obtain ⟨S3, tl3, V3, st3, ha3, of3, sb3⟩ := V.adds kF kN (by walk_at "lg") _ (sub_cons (.head _) (sub_cons (a := (D1, _)) (.tail _ (.tail _ (.head _))) (sub_cons (a := (d, _)) (.tail _ (.tail _ (.tail _ (.head _)))) (sub_cons (a := (d', _)) (.tail _ (.tail _ (.tail _ (.tail _ (.head _))))) sub_nil))))
      have nh : NodeT S3 (.ref x) (.mk n ks) := .mk (st3 _ _ hx) (ha3 _ (.tail _ (.tail _ (.head _)))) (st3 _ _ hl) (NodesT.mono st3 hk)
      have nd : NodeT S3 (.ref x') (.mk n' ks') := .mk (st3 _ _ hx') (ha3 _ (.tail _ (.tail _ (.tail _ (.head _))))) (st3 _ _ hl') (NodesT.mono st3 hk')
      refine hq9 ?_; clear hq9 Pq9
      exact h _ _ S3 tl3 x2 d2 D1 0 _ _ _ _ _ _ _ _ kF (News.sub kN (by walk_at "lg")) V3 st3 (ha3 _ (.head _)) (ha3 _ (.tail _ (.head _))) (.cons nh (.cons nd .nil)) (by simp [joinT, h0, Tr.num, r1]) (of3 _ s2 (off_cons (Nat.ne_of_gt l2) (off_cons (Nat.ne_of_lt ld1) (off_cons (Nat.ne_of_lt ld) (off_cons (Nat.ne_of_lt ld') off_nil)))))
        (fun p hp => ⟨of3 _ (hro p hp) (off_cons (Nat.ne_of_gt (Nat.lt_trans (lr p hp) l2)) (off_cons (allLt_ne lD1.2.2 (List.mem_append_left _ hp)) (off_cons (hr p hp).symm (off_cons (hr' p hp).symm off_nil)))), Nat.ne_of_lt (lr p hp)⟩) (.inr nh)
        (fun b o e1 e2 e3 e4 => of3 b e1 (off_cons (fx2 _ _ e2) (off_cons (fD1 _ _ e2) (off_cons e3.symm (off_cons e4.symm off_nil))))) (.inr fd2)
    · rw [r1] at hax
      cases r2 : (entry tab n).2
      · rw [r2] at ha
        (first | ((try dsimp only); k_unmd; k_fold) | skip)
        (repeat' (first | ((with_reducible first | refine hKn _ ?_ | refine hKr _ _ retNe ?_ | refine hKr _ _ contNe ?_); (try clear hKn hKr Kq); (try dsimp only)) | (k_unfold; (try dsimp only)) | (k_end; wrow_close) | walk1 | (dsimp only; walk1) | (leave1; try dsimp only) | fail "no step"))
        rename_i D1 hA1 lD1 D2 hA2 lD2 hZ FZ NZ kF kN kX
        have fD2 : ∀ b o, s.heap.get? b = some o → D2 ≠ b := by
          intro b o e0 q
          subst q
          by_cases hb : D2 ∈ List.map (fun x => x.1) ((d, rootO n tn h1 t1 h2 t2 l) :: (d', rootO n' tn' h1' t1' h2' t2' l') :: (rest ++ tl))
          · obtain ⟨q, hq, e1⟩ := List.mem_map.mp hb
            exact allLt_ne (show AllLt D2 ((d, rootO n tn h1 t1 h2 t2 l) :: (d', rootO n' tn' h1' t1' h2' t2' l') :: (rest ++ tl)) from lD2.2) hq e1.symm
          · have := keep _ _ e0 hb
            rw [(NZ _ (.head _)).2.2] at this; cases this
        refine hide fun Pq9 hq9 => ?_
        obtain ⟨S3, tl3, V3, st3, ha3, of3, sb3⟩ := V.adds kF kN (by walk_at "lg") _ (sub_cons (.head _) (sub_cons (a := (d', rootO n' tn' h1' t1' h2' t2' l')) (by k_mem) sub_nil))
        have nd : NodeT S3 (.ref x') (.mk n' ks') := .mk (st3 _ _ hx') (ha3 _ (.tail _ (.head _))) (st3 _ _ hl') (NodesT.mono st3 hk')
        refine hq9 ?_; clear hq9 Pq9
        exact h _ _ S3 tl3 x d D2 n _ _ _ _ _ _ _ _ kF (News.sub kN (by walk_at "lg")) V3 st3 (st3 _ _ hx) (ha3 _ (.head _)) ((NodesT.mono st3 hk).snoc nd) (by simp [joinT, Tr.num, Tr.kids, h0, r1, r2]) (of3 _ hS (off_cons (by k_ne) (off_cons (by k_ne) off_nil))) (fun p hp => ⟨of3 _ (hro p hp) (off_cons (allLt_ne (allLt_app (k := tl) lD2.2.2.2).1 hp) (off_cons (hr' p hp).symm off_nil)), hr p hp⟩) (.inl ⟨rfl, rfl⟩) (fun b o e1 e2 _ e4 => of3 b e1 (off_cons (fD2 _ _ e2) (off_cons e4.symm off_nil))) (.inl rfl)
      · rw [r2] at ha
        (first | ((try dsimp only); k_unmd; k_fold) | skip)
        (repeat' (first | ((with_reducible first | refine hKn _ ?_ | refine hKr _ _ retNe ?_ | refine hKr _ _ contNe ?_); (try clear hKn hKr Kq); (try dsimp only)) | (k_unfold; (try dsimp only)) | (k_end; wrow_close) | walk1 | (dsimp only; walk1) | (leave1; try dsimp only) | fail "no step"))
        rename_i D1 hA1 FA1 NA1 lD1 x2 d2 hA2 tk2 a1 b1 a2 b2 FA2 NA2 l1 l2 kF kN kX
        have fD1 : ∀ b o, s.heap.get? b = some o → D1 ≠ b := by
          intro b o e0 q
          subst q
          by_cases hb : D1 ∈ List.map (fun x => x.1) ((d, rootO n tn h1 t1 h2 t2 l) :: (d', rootO n' tn' h1' t1' h2' t2' l') :: (rest ++ tl))
          · obtain ⟨q, hq, e1⟩ := List.mem_map.mp hb
            exact allLt_ne (show AllLt D1 ((d, rootO n tn h1 t1 h2 t2 l) :: (d', rootO n' tn' h1' t1' h2' t2' l') :: (rest ++ tl)) from lD1) hq e1.symm
          · have := keep _ _ e0 hb
            rw [(NA2 _ (.tail _ (.tail _ (.head _)))).2.2] at this; cases this
        have fx2 : ∀ b o, s.heap.get? b = some o → x2 ≠ b := by
          intro b o e0 q
          subst q
          by_cases hb : x2 ∈ List.map (fun x => x.1) ((d, rootO n tn h1 t1 h2 t2 l) :: (d', rootO n' tn' h1' t1' h2' t2' l') :: (rest ++ tl))
          · obtain ⟨q, hq, e1⟩ := List.mem_map.mp hb
            exact absurd (Nat.lt_trans (l1 q (List.mem_cons_of_mem _ hq)) l2) (by rw [e1]; exact Nat.lt_irrefl _)
          · have := keep _ _ e0 hb
            rw [(NA2 _ (.head _)).2.2] at this; cases this
        have fd2 : s.heap.get? d2 = none := by
          cases e0 : s.heap.get? d2 with
          | none => rfl
          | some o =>
            by_cases hb : d2 ∈ List.map (fun x => x.1) ((d, rootO n tn h1 t1 h2 t2 l) :: (d', rootO n' tn' h1' t1' h2' t2' l') :: (rest ++ tl))
            · obtain ⟨q, hq, e1⟩ := List.mem_map.mp hb
              exact absurd (l1 q (List.mem_cons_of_mem _ hq)) (by rw [e1]; exact Nat.lt_irrefl _)
            · have := keep _ _ e0 hb
              rw [(NA2 _ (.tail _ (.head _))).2.2] at this; cases this
        have s2 : S.get? d2 = none := V.notNew kN (.tail _ (.head _)) (fun p hp => l1 p (.tail _ (.tail _ (.tail _ (List.mem_append_right _ hp)))))
        have lr : ∀ p ∈ rest, @LT.lt Nat _ p.1 d2 := fun p hp => l1 p (.tail _ (.tail _ (.tail _ (List.mem_append_left _ hp))))
        have ld1 : @LT.lt Nat _ D1 d2 := l1 _ (.head _)
        have ld : @LT.lt Nat _ d d2 := l1 _ (.tail _ (.head _))
        have ld' : @LT.lt Nat _ d' d2 := l1 _ (.tail _ (.tail _ (.head _)))
        refine hide fun Pq9 hq9 => ?_
        obtain ⟨S3, tl3, V3, st3, ha3, of3, sb3⟩ := V.adds kF kN (by walk_at "lg") _ (sub_cons (.head _) (sub_cons (a := (D1, _)) (.tail _ (.tail _ (.head _))) (sub_cons (a := (d, _)) (.tail _ (.tail _ (.tail _ (.head _)))) (sub_cons (a := (d', _)) (.tail _ (.tail _ (.tail _ (.tail _ (.head _))))) sub_nil))))
        have nh : NodeT S3 (.ref x) (.mk n ks) := .mk (st3 _ _ hx) (ha3 _ (.tail _ (.tail _ (.head _)))) (st3 _ _ hl) (NodesT.mono st3 hk)
        have nd : NodeT S3 (.ref x') (.mk n' ks') := .mk (st3 _ _ hx') (ha3 _ (.tail _ (.tail _ (.tail _ (.head _))))) (st3 _ _ hl') (NodesT.mono st3 hk')
        refine hq9 ?_; clear hq9 Pq9
        exact h _ _ S3 tl3 x2 d2 D1 0 _ _ _ _ _ _ _ _ kF (News.sub kN (by walk_at "lg")) V3 st3 (ha3 _ (.head _)) (ha3 _ (.tail _ (.head _))) (.cons nh (.cons nd .nil)) (by simp [joinT, h0, Tr.num, r2]) (of3 _ s2 (off_cons (Nat.ne_of_gt l2) (off_cons (Nat.ne_of_lt ld1) (off_cons (Nat.ne_of_lt ld) (off_cons (Nat.ne_of_lt ld') off_nil)))))
          (fun p hp => ⟨of3 _ (hro p hp) (off_cons (Nat.ne_of_gt (Nat.lt_trans (lr p hp) l2)) (off_cons (allLt_ne lD1.2.2 (List.mem_append_left _ hp)) (off_cons (hr p hp).symm (off_cons (hr' p hp).symm off_nil)))), Nat.ne_of_lt (lr p hp)⟩) (.inr nh)
          (fun b o e1 e2 e3 e4 => of3 b e1 (off_cons (fx2 _ _ e2) (off_cons (fD1 _ _ e2) (off_cons e3.symm (off_cons e4.symm off_nil))))) (.inr fd2)
end

section
theorem fm_congr {α β : Type} {f g : α → Option β} : ∀ {l : List α}, (∀ x ∈ l, f x = g x) → l.filterMap f = l.filterMap g := by
  intro l
  induction l with
  | nil => exact fun _ => rfl
  | cons a l ih => exact fun h => by rw [List.filterMap_cons, List.filterMap_cons, h a (.head _), ih fun x hx => h x (.tail _ hx)]

theorem base_under_as {w : World} {v : Value} {td : Addr} {t : Tr} {tab : Tab} {b : Str} (ok : RootOk tab t) (hb : base tab t = b) :
    HSpec w 59 1 [v, .ref td] (fun G => NodeT G v t ∧ Tbl w G td tab) (fun _ r => ∃ tk, r = .str b tk) := by subst hb; exact base_under_spec w ok

noncomputable def rts (rs : List Rt) : List Tr := rs.map Rt.tree
noncomputable abbrev gFr (pd sl l td : Addr) (u : Str → Option Value) : Str → Option Value := u

local macro_rules | `(tactic| walk_at "call ref") => `(tactic| k_dflt (refine' useH (base_under_as ?ok ?b) ‹_› ‹_› ‹_› ‹_› (by walk_at "dp") (by walk_at "dp") (by exact ⟨‹_›, ‹_›⟩) ?_; (case ok => assumption); (case b => assumption); rintro r' h' tk' F' N' ⟨_, tb', er'⟩; subst er'; dsimp only))

theorem gathered_at {w : World} {dp un : Nat} {fr : Option (List Env)} {gd : Option (List Code)} {p : Program} {loose : List Str} {mg mb : Str → Option Value} {h₀ G S : Heap} {L : Addr} {m : Str → Option Value} {tl rest : Ledg} {s : Shared} {Q E : Value → Shared → Prop}
    {l td : Addr} {e : Nat} {rs : List Rt} {tab : Tab}
    (V : View h₀ G L S tl) (F : Fr h₀ L s.heap m) (N : News h₀ L s.heap (ents (rs.map some) ++ (rest ++ tl))) (X : (grab.heap_1 w.params).In h₀) (T : TopRead p loose mg mb h₀)
    (hdp : dp + 10 < 1000) (hun : un + 200 < 9900) (hl : S.get? l = some (lstO (rs.map fun r => .ref r.x) e)) (hok : ∀ r ∈ rs, r.Ok S) (hT : Tbl w S td tab) (ok : ∀ t ∈ rts rs, RootOk tab t)
    (hdd : DD (rs.map some)) (hS : ∀ r ∈ rs, S.get? r.d = none) (hro : ∀ q ∈ rest, S.get? q.1 = none ∧ ∀ r ∈ rs, q.1 ≠ r.d) (hsz : Tr.sizes (rts rs) ≤ 100)
    (h : ∀ D h' tk S' tl' ys e', Fr h₀ L h' m → News h₀ L h' (rest ++ tl') → View h₀ G L S' tl' → S.StaysIn S' → (∀ q ∈ rest, S'.get? q.1 = none) → S'.get? D = some (lstO ys e') →
      NodesT S' ys ((List.range rs.length).filterMap (slotP tab (rts rs) (stA tab (rts rs)) fun _ => true)) → Q (.ref D) { s with heap := h', toks := tk }) :
    wpAny (model Pg w) (Ar dp un fr gd) (call (.ref 85) [.ref l, .ref td]) Q E s := by
  refine wpAny_call ?_
  refine' enterN (binds := [(Str.ofString "nodes", .ref l), (Str.ofString "table", .ref td)]) F X T N ?ho ?hcd ?hroom ?hb ?hl ?h ?c1 ?c2 ?c3 ?c4
  case hroom => (show _ < 1000; walk_at "dp")
  case ho => k_is
  case hcd => k_is
  case hb => exact BindsTo.of_eq rfl
  case hl => exact locs rfl
  case c1 => exact rfl
  case c2 => exact rfl
  case c3 => exact rfl
  case c4 => decide
  intro g L' h₁ FG NG XG TG st keep
  have VG := V.callee (by walk_at "lg") st FG NG
  have hn : (rts rs).length = rs.length := by simp [rts]
  have hn2 : rs.length ≤ 100 := by have := Tr.len_le (rts rs); omega
  refine hide fun Pq9 hq9 => ?_
  obtain ⟨Sp, tlp, Vp, stp, hap, ofp, sbp⟩ := VG.adds FG NG (by walk_at "lg") (ents (rs.map some)) (by walk_at "lg")
  have hNp : NodesT Sp (rs.map fun r => .ref r.x) (rts rs) := by
    have hall : ∀ r ∈ rs, NodeT Sp (.ref r.x) r.tree := fun r hr => (hok r hr).node stp (hap (r.d, r.obj) (by
      obtain ⟨k, hk⟩ := List.mem_iff_getElem?.mp hr
      exact mem_ents.mpr ⟨k, r, by rw [List.getElem?_map, hk]; rfl, rfl⟩))
    clear hap ofp sbp hok hdd hS hro hsz h N NG ok hl keep hn hn2
    induction rs with
    | nil => exact .nil
    | cons r rs ih => exact .cons (hall r (.head _)) (ih fun r hr => hall r (.tail _ hr))
  refine hq9 ?_; clear hq9 Pq9
  (first | ((try dsimp only); k_unmd; k_fold) | skip)
  clear ofp keep N F
  (repeat' (first | ((with_reducible first | refine hKn _ ?_ | refine hKr _ _ retNe ?_ | refine hKr _ _ contNe ?_); (try clear hKn hKr Kq); (try dsimp only)) | ((with_reducible refine v_copy ‹_› ‹_› (by walk_at "rl") (by walk_at "un") ?_); intro _; walk_at "kl") | (with_reducible first | refine v_ne_int_t (by with_reducible assumption) ?_ | refine v_ne_int_f (by with_reducible assumption) ?_) | ((with_reducible refine call_enum_K (Q := ForAt _ _ _ _ _ _ _ _) ‹_› ‹_› (by walk_at "rl") ?_); intro _ _ _ _ _ _ _ _ _) | (k_unfold; (try dsimp only)) | (k_end; wrow_close) | walk1 | (dsimp only; walk1) | (leave1; try dsimp only) | fail "no step"))
  refine subject_places_spec w (l := l) (td := td) (e := e) ok (by have := Tr.len_le (rts rs); omega) Sp p loose mg mb _ _ _ _ _ _ _ Sp (by walk_at "dp") (by walk_at "dp") (XG.keeps FG.keep) (TG.keeps FG.keep) (Vp.up FG NG sbp) ⟨rfl, stp _ _ hl, hNp, hT.mono stp⟩ ?_
  rintro r h' tk' G' st1 gr1 hG1 ⟨pd, rfl, hd0, kvs, hkv, hpl⟩
  refine hide fun Pq9 hq9 => ?_
  obtain ⟨o, ho, hko⟩ := Heap.dictOf_iff.mp hkv
  have hnew : h₁.get? pd = none := (gr1.2 pd o ho).elim (fun q => by rw [hd0] at q; cases q) id
  have F1 := FG.keeps st1
  have N1 : News g L' h' ((pd, o) :: (ents (rs.map some) ++ (rest ++ tl))) := fun q hq => by
    rcases List.mem_cons.mp hq with rfl | hq
    · refine ⟨hG1 _ _ ho, fun q => ?_, ?_⟩
      · obtain ⟨oL, es, ep, hL, _⟩ := id FG.ns
        rw [show pd = L' from q, hL] at hnew; cases hnew
      · cases q : g.get? pd with
        | none => rfl
        | some o' => have := FG.keep _ _ q; rw [hnew] at this; cases this
    · exact NG.grown st1 q hq
  obtain ⟨S1, tl1, V1, st2, ha1, of1, sb1⟩ := VG.adds F1 N1 (by walk_at "lg") _ (sub_cons (.head _) sub_nil)
  have hof : ∀ b, S.get? b = none → (∃ o, h₁.get? b = some o) → S1.get? b = none := fun b e1 ⟨o', e2⟩ => of1 b e1 (off_cons (fun q => by rw [show pd = b from q, e2] at hnew; cases hnew) off_nil)
  have hS1 : ∀ r ∈ rs, S1.get? r.d = none := fun r hr => hof _ (hS r hr) (by
    obtain ⟨k, hk⟩ := List.mem_iff_getElem?.mp hr
    exact ⟨_, (NG (r.d, r.obj) (List.mem_append_left _ (mem_ents.mpr ⟨k, r, by rw [List.getElem?_map, hk]; rfl, rfl⟩))).1⟩)
  have hro1 : ∀ q ∈ rest, S1.get? q.1 = none := fun q hq => hof _ (hro q hq).1 ⟨_, (NG q (List.mem_append_right _ (List.mem_append_left _ hq))).1⟩
  have hkv1 : S1.DictOf (strKind Pg w) pd kvs := Heap.dictOf_iff.mpr ⟨o, ha1 _ (.head _), hko⟩
  have hl1 := st2 _ _ hl
  have hT1 := hT.mono st2
  have hok1 : ∀ r ∈ rs, r.Ok S1 := fun r hr => (hok r hr).mono st2
  have N2 : News g L' h' (ents (rs.map some) ++ (rest ++ tl1)) := News.sub N1 (by walk_at "lg")
  obtain ⟨vs, hvs⟩ : ∃ vs : List Value, vs = rs.map fun r => .ref r.x := ⟨_, rfl⟩
  have hvl : vs.length = rs.length := by rw [hvs, List.length_map]
  rw [← hvs] at hl1
  clear hl
  clear hkv hnew hof Vp stp hap sbp hNp ho hG1 gr1 N1 sb1 of1 ha1 hd0
  have hTS : ∀ r ∈ rs, RootOk tab r.tree := fun r hr => ok _ (List.mem_map_of_mem hr)
  refine hq9 ?_; clear hq9 Pq9
  clear hTS G' tlp Sp
  (repeat' (first | ((with_reducible first | refine hKn _ ?_ | refine hKr _ _ retNe ?_ | refine hKr _ _ contNe ?_); (try clear hKn hKr Kq); (try dsimp only)) | ((with_reducible refine v_copy ‹_› ‹_› (by walk_at "rl") (by walk_at "un") ?_); intro _; walk_at "kl") | (with_reducible first | refine v_ne_int_t (by with_reducible assumption) ?_ | refine v_ne_int_f (by with_reducible assumption) ?_) | ((with_reducible refine call_enum_K (Q := ForAt _ _ _ _ _ _ _ _) ‹_› ‹_› (by walk_at "rl") ?_); intro _ _ _ _ _ _ _ _ _) | (k_unfold; (try dsimp only)) | (k_end; wrow_close) | walk1 | (dsimp only; walk1) | (leave1; try dsimp only) | fail "no step"))
  rename_i sl c hh5 lsl Dt hh4 lt9 hh3 hh2 hh1 F8 N8 ee it hh0 F9 N9 he hit hne hold
  generalize hts : rts rs = ts at *
  have N8' : News g L' hh1 (((sl, lstO vs c) :: (ents (rs.map some) ++ rest)) ++ tl1) := News.sub N8 (by simp only [List.cons_append]; walk_at "lg")
  have N9' : News g L' hh0 (((sl, lstO vs c) :: (ents (rs.map some) ++ rest)) ++ tl1) := News.sub N9 (by simp only [List.cons_append]; walk_at "lg")
  have hsl1 : S1.get? sl = none := V1.notNew N8' (.head _) (fun q hq => lsl q (List.mem_append_right _ (List.mem_append_right _ hq)))
  have fe := fresh4 V1 F8 N8' fun b o x => (hold b o x).1
  have fi := fresh4 V1 F8 N8' fun b o x => (hold b o x).2
  refine hide fun Pq9 hq9 => ?_
  obtain ⟨mB, hmB, FB⟩ := Fr.named F9
  have hmem0 : ∀ q ∈ ents (rs.map some), ∃ r ∈ rs, q = (r.d, r.obj) := fun q hq => by
    obtain ⟨k, r, hk, e⟩ := mem_ents.mp hq
    rw [List.getElem?_map] at hk
    obtain ⟨r', h1, h2⟩ := Option.map_eq_some_iff.mp hk
    cases h2
    exact ⟨r, List.mem_of_getElem? h1, e⟩
  have hget0 : ∀ (k : Nat) (r : Rt), (rs.map some)[k]? = some (some r) → rs[k]? = some r := fun k r hk => by
    rw [List.getElem?_map] at hk
    obtain ⟨r', h1, h2⟩ := Option.map_eq_some_iff.mp hk
    cases h2; exact h1
  refine hq9 ?_; clear hq9 Pq9
  refine at_enum (L := L') (vs := vs) (ee := e) (S := S1) (G := G) (mu := (sl, lstO vs c) :: (ents (rs.map some) ++ rest)) (tl := tl1) rfl rfl rfl rfl rfl V1 FB N9' hl1 he hit hne fe fi ?mu
    (fun i m mu S' => ∃ R : Slots, mu = (sl, lstO (svals R) c) :: (ents R ++ rest) ∧ R.length = rs.length ∧ DD R ∧ (∀ (k : Nat) (r : Rt), R[k]? = some (some r) → r.Ok S') ∧
      (∀ k < rs.length, ∃ o, R[k]? = some o ∧ o.map Rt.tree = slotP tab ts (stA tab ts) (fun p => decide (p < i)) k) ∧ (∀ (k : Nat) (r : Rt), R[k]? = some (some r) → @Ne Nat r.d sl ∧ ∀ q ∈ rest, q.1 ≠ r.d) ∧
      (∀ (k : Nat) (v : Value), i ≤ k → vs[k]? = some v → (∃ r, R[k]? = some (some r) ∧ v = .ref r.x) ∨ (stA tab ts (bA tab ts k) = some k ∧ ∃ u, NodeT S' v u ∧ rep u = rep (tsA ts k) ∧ RootOk tab u)) ∧
      Same [Str.ofString "place", Str.ofString "node", Str.ofString "base"] mB m) ?h0 ?turn ?done
  case mu => exact off_cons hsl1 (off_app (fun q hq => by obtain ⟨r, hr, rfl⟩ := hmem0 q hq; exact hS1 r hr) hro1)
  case h0 =>
    refine ⟨rs.map some, by rw [hvs]; simp [svals, sval], by simp, hdd, fun k r hk => hok1 r (List.mem_of_getElem? (hget0 k r hk)), fun k hk => ?_, fun k r hk => ?_, fun k v _ hv => ?_, Same.refl⟩
    · refine ⟨some rs[k], by rw [List.getElem?_map, List.getElem?_eq_getElem hk]; rfl, ?_⟩
      rw [slotP_none (by simp)]
      have : ts[k]? = some (rs[k]).tree := by rw [← hts]; unfold rts; rw [List.getElem?_map, List.getElem?_eq_getElem hk]; rfl
      rw [tsA_some this]; rfl
    · have hr := List.mem_of_getElem? (hget0 k r hk)
      refine ⟨Nat.ne_of_lt (lsl (r.d, r.obj) (List.mem_append_left _ (mem_ents.mpr ⟨k, r, hk, rfl⟩))), fun q hq => (hro q hq).2 r hr⟩
    · rw [hvs, List.getElem?_map] at hv
      refine hide fun Pq9 hq9 => ?_
      obtain ⟨r, h1, h2⟩ := Option.map_eq_some_iff.mp hv
      refine hq9 ?_; clear hq9 Pq9
      exact .inl ⟨r, by rw [List.getElem?_map, h1]; rfl, h2.symm⟩
  case turn =>
    clear F8 N8 N8' N9' F9 N9 FB he hit hne hold fe fi hS1 hok1 hok hS
    intro i v m₁ m₂ mu₁ S₁ tl₁ h tk own hi hP hJx48 V₁ hS hown hmu hJx49 F₁ N₁
    (first | ((try dsimp only); k_unmd; k_fold) | skip)
    refine hide fun Pq9 hq9 => ?_
    obtain ⟨R, rfl, hx9⟩ := hJx48
    refine ands7 hx9 fun hRl hRd hRo hRs hRr hRn hm => ?_
    clear hx9
    obtain ⟨tk', rfl⟩ := hJx49
    obtain ⟨u, rfl⟩ : ∃ u, m₁ = fun z => if [Str.ofString "place", Str.ofString "node", Str.ofString "base"].contains z then u z else mB z := ⟨m₁, hm.eq⟩
    subst hmB
    simp only [List.cons_append, List.append_assoc] at N₁
    have up := V₁.up F₁ N₁ (by walk_at "lg")
    have hi' : i < ts.length := by omega
    have hnode : ∃ u, NodeT h v u ∧ base tab u = bA tab ts i ∧ RootOk tab u := by
      rcases hRn i v (Nat.le_refl _) hP with ⟨r, h1, rfl⟩ | ⟨_, u, h1, h2, h3⟩
      · obtain ⟨o, ho, ho2⟩ := hRs i (by omega)
        rw [h1] at ho; cases ho
        have := slot_rep (ok _ (List.mem_of_getElem? (tsA_get hi'))) ho2.symm
        exact ⟨r.tree, (hRo i r h1).node up (N₁ (r.d, r.obj) (List.mem_cons_of_mem _ (List.mem_append_left _ (mem_ents.mpr ⟨i, r, h1, rfl⟩)))).1, by unfold bA base; rw [this.1], this.2.1⟩
      · exact ⟨u, NodeT.mono up h1, by unfold bA base; rw [h2], h3⟩
    obtain ⟨un, hn1, hn2, hn3⟩ := hnode
    have hTh : Tbl w h td tab := (hT1.mono hS).mono up
    have hkv2 : S₁.DictOf (strKind Pg w) pd kvs := Heap.DictOf.keep hkv1 hS
    have hsk : ∀ m', Same [Str.ofString "place", Str.ofString "node", Str.ofString "base"] (fun y => if y = Str.ofString "places" then some (Value.ref pd) else if y = Str.ofString "slots" then some (Value.ref sl) else List.lookup y [(Str.ofString "nodes", Value.ref l), (Str.ofString "table", Value.ref td)].reverse) m' → (bA tab ts i = noS ∨ stA tab ts (bA tab ts i) = some i) →
      ∃ R' : Slots, (sl, lstO (svals R) c) :: (ents R ++ rest) = (sl, lstO (svals R') c) :: (ents R' ++ rest) ∧ R'.length = rs.length ∧ DD R' ∧ (∀ (k : Nat) (r : Rt), R'[k]? = some (some r) → r.Ok S₁) ∧
      (∀ k < rs.length, ∃ o, R'[k]? = some o ∧ o.map Rt.tree = slotP tab ts (stA tab ts) (fun p => decide (p < i + 1)) k) ∧ (∀ (k : Nat) (r : Rt), R'[k]? = some (some r) → @Ne Nat r.d sl ∧ ∀ q ∈ rest, q.1 ≠ r.d) ∧
      (∀ (k : Nat) (v : Value), i + 1 ≤ k → vs[k]? = some v → (∃ r, R'[k]? = some (some r) ∧ v = .ref r.x) ∨ (stA tab ts (bA tab ts k) = some k ∧ ∃ u, NodeT S₁ v u ∧ rep u = rep (tsA ts k) ∧ RootOk tab u)) ∧
      Same [Str.ofString "place", Str.ofString "node", Str.ofString "base"] (fun y => if y = Str.ofString "places" then some (Value.ref pd) else if y = Str.ofString "slots" then some (Value.ref sl) else List.lookup y [(Str.ofString "nodes", Value.ref l), (Str.ofString "table", Value.ref td)].reverse) m' := fun m' hm' hs' =>
      ⟨R, rfl, hRl, hRd, hRo, fun k hk => by obtain ⟨o, h1, h2⟩ := hRs k hk; exact ⟨o, h1, by rw [h2, slot_skip' (P := fun p => decide (p < i)) (p0 := i) (fun p _ => ltS i p) hs' (by omega)]⟩, hRr, fun k v hk => hRn k v (by omega), hm'⟩
    refine hq9 ?_; clear hq9 Pq9
    (first | ((try dsimp only); k_unmd; k_fold) | skip)
    repeat' (first | ((fail_if_success (with_reducible show wpAny _ _ (execs (PySem.Stmt.If _ _ _ _ :: _) _) _ _ _)); first | ((with_reducible refine v_copy ‹_› ‹_› (by walk_at "rl") (by walk_at "un") ?_); intro _; walk_at "kl") | (with_reducible first | refine v_ne_int_t (by with_reducible assumption) ?_ | refine v_ne_int_f (by with_reducible assumption) ?_) | (k_unfold; (try dsimp only)) | (k_end; wrow_close) | walk1 | (dsimp only; walk1) | (leave1; try dsimp only)) | fail "no step")
    rename_i h5 F5 N5
    refine hide fun Pq9 hq9 => ?_
    by_cases hb : bA tab ts i = noS
    · refine hq9 ?_; clear hq9 Pq9
      clear hkv2 hTh hn3 hn2 hn1 un hi' up hS hP hi hget0 hmem0 hsl1 hpl hsz ok hts hh0 it ee hh1 hh2 hh3 lt9 hh4 Dt lsl hh5 hvl hvs hl1 hT1 hkv1 hro1 st2 V1 tl1 S1 hko o kvs st1 h' VG st TG XG h₁ hro hdd hT hun hdp V tl
      (repeat' (first | ((with_reducible first | refine hKn _ ?_ | refine hKr _ _ retNe ?_ | refine hKr _ _ contNe ?_); (try clear hKn hKr Kq); (try dsimp only)) | ((with_reducible refine v_copy ‹_› ‹_› (by walk_at "rl") (by walk_at "un") ?_); intro _; walk_at "kl") | (with_reducible first | refine v_ne_int_t (by with_reducible assumption) ?_ | refine v_ne_int_f (by with_reducible assumption) ?_) | ((with_reducible refine call_enum_K (Q := ForAt _ _ _ _ _ _ _ _) ‹_› ‹_› (by walk_at "rl") ?_); intro _ _ _ _ _ _ _ _ _) | (k_unfold; (try dsimp only)) | (k_end; wrow_close) | walk1 | (dsimp only; walk1) | (leave1; try dsimp only) | fail "no step"))
      refine TurnEnd.mk (mu' := (sl, lstO (svals R) c) :: (ents R ++ rest)) V₁ (fun _ _ e => e) hown hmu (by k_asm) (by simp only [List.cons_append, List.append_assoc]; k_asm) (hsk _ (by (repeat' (first | assumption | exact Same.nf | exact Same.refl | refine Same.set rfl ?_))) (.inl hb))
    · have hst := stA_ex hi' hb
      generalize hq : standN tab ts (spotsN tab ts ts.length (bA tab ts i)) = q at hst
      obtain ⟨tq, hva⟩ := (hpl _).2 q hst
      by_cases hqi : q = i
      · have hqi' : ((q : Nat) : Int) = ((i : Nat) : Int) := by rw [hqi]
        refine hq9 ?_; clear hq9 Pq9
        clear hq hTh hn3 hn2 hn1 un hi' up hP hi hget0 hmem0 hsl1 hpl hsz ok hts hh0 it ee hh1 hh2 hh3 lt9 hh4 Dt lsl hh5 hvl hvs hl1 hT1 hro1 st2 V1 tl1 st1 h' VG st TG XG h₁ hro hdd hT hun hdp V tl
        (repeat' (first | ((with_reducible first | refine hKn _ ?_ | refine hKr _ _ retNe ?_ | refine hKr _ _ contNe ?_); (try clear hKn hKr Kq); (try dsimp only)) | ((with_reducible refine v_copy ‹_› ‹_› (by walk_at "rl") (by walk_at "un") ?_); intro _; walk_at "kl") | (with_reducible first | refine v_ne_int_t (by with_reducible assumption) ?_ | refine v_ne_int_f (by with_reducible assumption) ?_) | ((with_reducible refine call_enum_K (Q := ForAt _ _ _ _ _ _ _ _) ‹_› ‹_› (by walk_at "rl") ?_); intro _ _ _ _ _ _ _ _ _) | (k_unfold; (try dsimp only)) | (k_end; wrow_close) | walk1 | (dsimp only; walk1) | (leave1; try dsimp only) | fail "no step"))
        exact TurnEnd.mk (mu' := (sl, lstO (svals R) c) :: (ents R ++ rest)) V₁ (fun _ _ e => e) hown hmu (by k_asm) (by simp only [List.cons_append, List.append_assoc]; k_asm) (hsk _ (by (repeat' (first | assumption | exact Same.nf | exact Same.refl | refine Same.set rfl ?_))) (.inr (by rw [hst, hqi])))
      · have hqi' : ((q : Nat) : Int) ≠ ((i : Nat) : Int) := by omega
        have hqs := stA_some hst
        obtain ⟨oq, hoq, hoq2⟩ := hRs q (by omega)
        obtain ⟨oi, hoi, hoi2⟩ := hRs i (by omega)
        obtain ⟨th, j1, j2, j3, j4⟩ := slot_join (tab := tab) (ts := ts) (st := stA tab ts) (P := fun p => decide (p < i)) (P' := fun p => decide (p < i + 1)) (p0 := i) (q := q) hi' (fun p _ => ltS i p) (by simp) (fun p _ _ hp => by simpa using hp) hb hst hqi hqs.2.1
        rw [j1] at hoq2
        rw [j2] at hoi2
        obtain ⟨rh, rfl, hrh⟩ : ∃ r, oq = some r ∧ r.tree = th := by
          cases oq with
          | none => cases hoq2
          | some r => exact ⟨r, rfl, Option.some.inj hoq2⟩
        obtain ⟨rn, rfl, hrn⟩ : ∃ r, oi = some r ∧ r.tree = tsA ts i := by
          cases oi with
          | none => cases hoi2
          | some r => exact ⟨r, rfl, Option.some.inj hoi2⟩
        have hvn : v = .ref rn.x := by
          rcases hRn i v (Nat.le_refl _) hP with ⟨r, h1, h2⟩ | ⟨h1, _⟩
          · rw [hoi] at h1; cases h1; exact h2
          · rw [hst] at h1; exact absurd (Option.some.inj h1) hqi
        subst hvn
        have hqR : q < R.length := by omega
        have hiR : i < R.length := by omega
        have hsv := svals_get hoq
        have hsvq : (svals R)[((q : Nat) : Int).toNat]? = some (.ref rh.x) := hsv
        obtain ⟨ro, hro⟩ : ∃ ro : Ledg, ro = ents ((R.set q none).set i none) ++ (rest ++ own) := ⟨_, rfl⟩
        have N2 : News g L' h5 ((rh.d, rootO rh.n rh.tn rh.h1 rh.t1 rh.h2 rh.t2 rh.l) :: (rn.d, rootO rn.n rn.tn rn.h1 rn.t1 rn.h2 rn.t2 rn.l) :: (sl, lstO (svals R) c) :: (ro ++ tl₁)) := News.sub N5 (by
          refine sub_cons (.tail _ (List.mem_append_left _ (mem_ents.mpr ⟨q, rh, hoq, rfl⟩))) (sub_cons (.tail _ (List.mem_append_left _ (mem_ents.mpr ⟨i, rn, hoi, rfl⟩))) (sub_cons (.head _) ?_))
          rw [hro]
          have := two_sub hqR hiR
          refine sub_app (sub_app (sub_t (sub_l this)) ?_) ?_ <;> walk_at "lg")
        clear N5
        have mq : (rh.d, rh.obj) ∈ ents R := mem_ents.mpr ⟨q, rh, hoq, rfl⟩
        have mi : (rn.d, rn.obj) ∈ ents R := mem_ents.mpr ⟨i, rn, hoi, rfl⟩
        have inE : ∀ p ∈ ents R, S₁.get? p.1 = none ∧ ∀ z ∈ own, z.1 ≠ p.1 := fun p hp => hmu p (List.mem_cons_of_mem _ (List.mem_append_left _ hp))
        have inR : ∀ p ∈ rest, S₁.get? p.1 = none ∧ ∀ z ∈ own, z.1 ≠ p.1 := fun p hp => hmu p (List.mem_cons_of_mem _ (List.mem_append_right _ hp))
        have inS := hmu (sl, lstO (svals R) c) (.head _)
        have neD : ∀ (k k' : Nat) (r r' : Rt), R[k]? = some (some r) → R[k']? = some (some r') → k ≠ k' → r.d ≠ r'.d := fun k k' r r' h1 h2 h3 h4 => h3 (hRd k k' r r' h1 h2 h4)
        have roNe : ∀ (k : Nat) (r : Rt), (k = q ∨ k = i) → R[k]? = some (some r) → ∀ p ∈ (sl, lstO (svals R) c) :: ro, p.1 ≠ r.d := fun k r hk hr => by
          rw [hro]
          refine off_cons (Ne.symm (hRr k r hr).1) (off_app (fun p hp => ?_) (off_app (hRr k r hr).2 (fun p hp => (inE (r.d, r.obj) (mem_ents.mpr ⟨k, r, hr, rfl⟩)).2 p hp)))
          obtain ⟨k', r', h1, h2, h3, rfl⟩ := (mem_two hqR hiR).mp hp
          exact neD _ _ _ _ h3 hr (by rcases hk with rfl | rfl <;> assumption)
        have roS : ∀ p ∈ (sl, lstO (svals R) c) :: ro, S₁.get? p.1 = none := by
          rw [hro]
          exact off_cons inS.1 (off_app (fun p hp => (inE p (two_sub hqR hiR p hp)).1) (off_app (fun p hp => (inR p hp).1) hown))
        have roL : ∀ p ∈ ro, p.1 ≠ sl := by
          rw [hro]
          refine off_app (fun p hp => ?_) (off_app (fun p hp => Nat.ne_of_lt (lsl p (List.mem_append_right _ (List.mem_append_left _ hp)))) (fun p hp => inS.2 p hp))
          obtain ⟨k', r', h1, h2, h3, rfl⟩ := (mem_two hqR hiR).mp hp
          exact (hRr k' r' h3).1
        have okq : RootOk tab (tsA ts q) := ok _ (List.mem_of_getElem? (tsA_get hqs.1))
        have oki : RootOk tab (tsA ts i) := ok _ (List.mem_of_getElem? (tsA_get hi'))
        have rq := slot_rep okq j1
        have sq := slot_size hqs.1 j1
        have si := slot_size hi' j2
        rw [← hrh] at rq sq
        rw [← hrn] at si
        have zq : rh.vs.length ≤ 300 := by have := Tr.len_le rh.ks; rw [Tr.size] at sq; rw [(hRo q rh hoq).2.2.length]; omega
        have zi : rn.vs.length ≤ 300 := by have := Tr.len_le rn.ks; rw [Tr.size] at si; rw [(hRo i rn hoi).2.2.length]; omega
        refine hq9 ?_; clear hq9 Pq9
        clear hn1 hoq2 hTh hn3 up hget0 hmem0 hsl1 hpl hts hh0 it ee hh1 hh2 hh3 lt9 hh4 Dt hh5 hvs hl1 hro1 V1 st1 VG h₁ hdd V tl
        (repeat' (first | ((with_reducible first | refine hKn _ ?_ | refine hKr _ _ retNe ?_ | refine hKr _ _ contNe ?_); (try clear hKn hKr Kq); (try dsimp only)) | ((with_reducible refine v_copy ‹_› ‹_› (by walk_at "rl") (by walk_at "un") ?_); intro _; walk_at "kl") | (with_reducible first | refine v_ne_int_t (by with_reducible assumption) ?_ | refine v_ne_int_f (by with_reducible assumption) ?_) | ((with_reducible refine call_enum_K (Q := ForAt _ _ _ _ _ _ _ _) ‹_› ‹_› (by walk_at "rl") ?_); intro _ _ _ _ _ _ _ _ _) | (k_unfold; (try dsimp only)) | (k_end; wrow_close) | walk1 | (dsimp only; walk1) | (leave1; try dsimp only) | fail "no step"))
        refine joined_at (rest := (sl, lstO (svals R) c) :: ro) V₁ (by k_asm) (by k_asm) XG TG (by walk_at "dp") (by walk_at "dp") (hRo q rh hoq).1 (hRo q rh hoq).2.1 (hRo q rh hoq).2.2 (hRo i rn hoi).1 (hRo i rn hoi).2.1 (hRo i rn hoi).2.2
          (hT1.mono hS) rq.2.1 (by rw [show Tr.mk rn.n rn.ks = tsA ts i from hrn]; exact oki) (fun z => by have := stA_num hst (rq.2.2 z) hi' rfl; rw [← hrn] at this; exact this) (inE _ mq).1 (inE _ mi).1 (neD _ _ _ _ hoq hoi hqi) (roNe q rh (.inl rfl) hoq) (roNe i rn (.inr rfl) hoi) roS (by omega) ?_
        intro h' tk S' tl' x2 d2 l2 n2 a1 b1 a2 b2 tn2 e2 vs2 ks2 F3 N3 V3 st3 hx2 hl2 hk2 hj hd2 hro2 hor hold3 hd2f
        have hkv3 : S'.DictOf (strKind Pg w) pd kvs := Heap.DictOf.keep hkv2 st3
        simp only [List.cons_append] at N3
        have hne2 : @Ne Nat sl d2 := (hro2 (sl, lstO (svals R) c) (.head _)).2
        have hsl3 : S'.get? sl = none := (hro2 (sl, lstO (svals R) c) (.head _)).1
        have hlsv : (svals R).length = R.length := svals_length
        clear hd2f hold3 zi zq si sq oki roS mi mq N2 hown V₁ tl₁ hsz hT1 st2 TG XG hT hun hdp
        (repeat' (first | ((with_reducible first | refine hKn _ ?_ | refine hKr _ _ retNe ?_ | refine hKr _ _ contNe ?_); (try clear hKn hKr Kq); (try dsimp only)) | ((with_reducible refine v_copy ‹_› ‹_› (by walk_at "rl") (by walk_at "un") ?_); intro _; walk_at "kl") | (with_reducible first | refine v_ne_int_t (by with_reducible assumption) ?_ | refine v_ne_int_f (by with_reducible assumption) ?_) | ((with_reducible refine call_enum_K (Q := ForAt _ _ _ _ _ _ _ _) ‹_› ‹_› (by walk_at "rl") ?_); intro _ _ _ _ _ _ _ _ _) | (k_unfold; (try dsimp only)) | (k_end; wrow_close) | walk1 | (dsimp only; walk1) | (leave1; try dsimp only) | fail "no step"))
        rename_i hA FA NA hB FB2 NB
        have eqs : ((svals R).set ((q : Nat) : Int).toNat (.ref x2)).set ((i : Nat) : Int).toNat .none = svals ((R.set q (some ⟨x2, d2, l2, n2, tn2, b1, b2, e2, a1, a2, vs2, ks2⟩)).set i none) := by
          rw [svals_set, svals_set]; rfl
        rw [eqs] at NB
        generalize hr2 : (⟨x2, d2, l2, n2, tn2, b1, b2, e2, a1, a2, vs2, ks2⟩ : Rt) = r2 at NB
        have g2 : ∀ k, ((R.set q (some r2)).set i none)[k]? = if k = i then some none else if k = q then some (some r2) else R[k]? := fun k => set2_get hqR hiR
        have gk : ∀ (k : Nat) (r : Rt), ((R.set q (some r2)).set i none)[k]? = some (some r) → k ≠ i ∧ ((k = q ∧ r = r2) ∨ (k ≠ q ∧ R[k]? = some (some r))) := fun k r hk => by
          rw [g2] at hk
          by_cases e1 : k = i
          · rw [if_pos e1] at hk; cases hk
          · rw [if_neg e1] at hk
            by_cases e2 : k = q
            · rw [if_pos e2] at hk; cases hk; exact ⟨e1, .inl ⟨e2, rfl⟩⟩
            · rw [if_neg e2] at hk; exact ⟨e1, .inr ⟨e2, hk⟩⟩
        have hd2' : r2.d = d2 := by rw [← hr2]
        have ne2 : ∀ (k : Nat) (r : Rt), k ≠ q → k ≠ i → R[k]? = some (some r) → r.d ≠ d2 := fun k r h1 h2 h3 => (hro2 (r.d, r.obj) (.tail _ (by rw [hro]; exact List.mem_append_left _ ((mem_two hqR hiR).mpr ⟨k, r, h1, h2, h3, rfl⟩)))).2
        have ro3 : ∀ p ∈ ro, S'.get? p.1 = none ∧ p.1 ≠ d2 := fun p hp => hro2 p (.tail _ hp)
        have rr : ∀ p ∈ rest, S'.get? p.1 = none ∧ p.1 ≠ d2 := fun p hp => ro3 p (by rw [hro]; exact List.mem_append_right _ (List.mem_append_left _ hp))
        have rw' : ∀ p ∈ own, S'.get? p.1 = none ∧ p.1 ≠ d2 := fun p hp => ro3 p (by rw [hro]; exact List.mem_append_right _ (List.mem_append_right _ hp))
        have re : ∀ p ∈ ents ((R.set q (some r2)).set i none), p = (d2, r2.obj) ∨ p ∈ ents ((R.set q none).set i none) := fun p hp => by
          rcases ents_set2 hqR hiR p hp with e | e
          · exact .inl (by rw [e, hd2'])
          · exact .inr e
        refine TurnEnd.mk (mu' := (sl, lstO (svals ((R.set q (some r2)).set i none)) c) :: (ents ((R.set q (some r2)).set i none) ++ rest)) V3 st3 (fun p hp => (rw' p hp).1) ?m1 FB2 ?m2
          ⟨(R.set q (some r2)).set i none, rfl, by rw [List.length_set, List.length_set, hRl], ?m3, ?m4, ?m5, ?m6, ?m7, by (repeat' (first | assumption | exact Same.nf | exact Same.refl | refine Same.set rfl ?_))⟩
        case m1 =>
          refine off_cons ⟨hsl3, inS.2⟩ (off_app (fun p hp => ?_) (fun p hp => ⟨(rr p hp).1, (inR p hp).2⟩))
          rcases re p hp with rfl | hp
          · exact ⟨hd2, fun z hz => (rw' z hz).2⟩
          · exact ⟨(ro3 p (by rw [hro]; exact List.mem_append_left _ hp)).1, (inE p (two_sub hqR hiR p hp)).2⟩
        case m2 =>
          refine News.sub NB ?_
          simp only [List.cons_append, List.append_assoc]
          refine sub_cons (.tail _ (.head _)) (sub_app (fun p hp => ?_) (sub_t (sub_t ?_)))
          · rcases re p hp with rfl | hp
            · rw [← hr2]; exact .head _
            · exact .tail _ (.tail _ (List.mem_append_left _ (by rw [hro]; exact List.mem_append_left _ hp)))
          · rw [hro]; walk_at "lg"
        case m3 =>
          intro k k' r r' h1 h2 h3
          refine hide fun Pq9 hq9 => ?_
          obtain ⟨a1', b1'⟩ := gk k r h1
          obtain ⟨a2', b2'⟩ := gk k' r' h2
          refine hq9 ?_; clear hq9 Pq9
          rcases b1' with ⟨rfl, rfl⟩ | ⟨c1, e1⟩
          · rcases b2' with ⟨rfl, rfl⟩ | ⟨c2, e2⟩
            · rfl
            · exact absurd (h3.symm.trans hd2') (ne2 k' r' c2 a2' e2)
          · rcases b2' with ⟨rfl, rfl⟩ | ⟨c2, e2⟩
            · exact absurd (h3.trans hd2') (ne2 k r c1 a1' e1)
            · exact hRd k k' r r' e1 e2 h3
        case m4 =>
          intro k r h1
          refine hide fun Pq9 hq9 => ?_
          obtain ⟨a1', b1'⟩ := gk k r h1
          refine hq9 ?_; clear hq9 Pq9
          rcases b1' with ⟨rfl, rfl⟩ | ⟨c1, e1⟩
          · rw [← hr2]; exact ⟨hx2, hl2, hk2⟩
          · exact (hRo k r e1).mono st3
        case m5 =>
          intro k hk
          rw [g2]
          by_cases e1 : k = i
          · rw [if_pos e1]; exact ⟨none, rfl, by rw [e1, j4]; rfl⟩
          · rw [if_neg e1]
            by_cases e2 : k = q
            · rw [if_pos e2]
              refine ⟨some r2, rfl, ?_⟩
              rw [e2, j3, ← hr2]
              show some (Tr.mk n2 ks2) = _
              rw [hj, ← hrn, ← hrh]
            · rw [if_neg e2]
              refine hide fun Pq9 hq9 => ?_
              obtain ⟨o, h1, h2⟩ := hRs k hk
              refine hq9 ?_; clear hq9 Pq9
              refine ⟨o, h1, ?_⟩
              rw [h2]
              exact (slot_other (tab := tab) (ts := ts) (st := stA tab ts) (P := fun p => decide (p < i)) (P' := fun p => decide (p < i + 1)) (p0 := i) (q := q) hi' (fun p _ => ltS i p) (by simp) (fun p _ _ hp => by simpa using hp) hb hst hqi hqs.2.1 (by omega) e2 e1).symm
        case m6 =>
          intro k r h1
          refine hide fun Pq9 hq9 => ?_
          obtain ⟨a1', b1'⟩ := gk k r h1
          refine hq9 ?_; clear hq9 Pq9
          rcases b1' with ⟨rfl, rfl⟩ | ⟨c1, e1⟩
          · rw [hd2']; exact ⟨hne2.symm, fun p hp => (rr p hp).2⟩
          · exact hRr k r e1
        case m7 =>
          intro k v hk hv
          rw [g2, if_neg (by omega)]
          by_cases e2 : k = q
          · rw [if_pos e2]
            subst e2
            rcases hRn k v (by omega) hv with ⟨r, h1, h2⟩ | ⟨h1, u, h2, h3⟩
            · rw [hoq] at h1; cases h1
              rcases hor with ⟨w1, w2⟩ | w1
              · exact .inl ⟨r2, rfl, by rw [h2, ← hr2, w1]⟩
              · exact .inr ⟨by rw [hqs.2.1]; exact hst, rh.tree, by rw [h2]; exact w1, rq.1, rq.2.1⟩
            · exact .inr ⟨h1, u, NodeT.mono st3 h2, h3⟩
          · rw [if_neg e2]
            rcases hRn k v (by omega) hv with h1 | ⟨h1, u, h2, h3⟩
            · exact .inl h1
            · exact .inr ⟨h1, u, NodeT.mono st3 h2, h3⟩
  case done =>
    clear F8 N8 N8' N9' F9 N9 FB he hit hne hold fe fi hS1 hok1 hok hS
    intro m₁ mu₁ S₁ tl₁ h9 tk hJx50 V₁ hS hmu F₁ N₁
    (first | ((try dsimp only); k_unmd; k_fold) | skip)
    refine hide fun Pq9 hq9 => ?_
    obtain ⟨R, rfl, hx9⟩ := hJx50
    refine ands7 hx9 fun hRl hRd hRo hRs hRr hRn hm => ?_
    clear hx9
    obtain ⟨u, rfl⟩ : ∃ u, m₁ = fun z => if [Str.ofString "place", Str.ofString "node", Str.ofString "base"].contains z then u z else mB z := ⟨m₁, hm.eq⟩
    subst hmB
    simp only [List.cons_append, List.append_assoc] at N₁
    refine hq9 ?_; clear hq9 Pq9
    (first | ((try dsimp only); k_unmd; k_fold) | skip)
    clear hm hRn hRd hget0 hmem0 hsl1 hpl hsz ok hts it ee hh2 hh3 lt9 hh4 Dt hh5 hvs hl1 hT1 hkv1 hro1 V1 hko kvs st1 tk' TG XG hdd hT hun hdp
    (repeat' (first | ((with_reducible first | refine hKn _ ?_ | refine hKr _ _ retNe ?_ | refine hKr _ _ contNe ?_); (try clear hKn hKr Kq); (try dsimp only)) | ((with_reducible refine v_copy ‹_› ‹_› (by walk_at "rl") (by walk_at "un") ?_); intro _; walk_at "kl") | (with_reducible first | refine v_ne_int_t (by with_reducible assumption) ?_ | refine v_ne_int_f (by with_reducible assumption) ?_) | ((with_reducible refine call_enum_K (Q := ForAt _ _ _ _ _ _ _ _) ‹_› ‹_› (by walk_at "rl") ?_); intro _ _ _ _ _ _ _ _ _) | (k_unfold; (try dsimp only)) | (k_end; wrow_close) | walk1 | (dsimp only; walk1) | (leave1; try dsimp only) | fail "no step"))
    have hlR : R.length ≤ 100 := by omega
    have hnt : ∀ (k : Nat) (r : Rt), R[k]? = some (some r) → ∀ q ∈ rest, sl ≠ q.1 ∧ r.d ≠ q.1 := fun k r hk q hq => ⟨Nat.ne_of_gt (lsl q (List.mem_append_right _ (List.mem_append_left _ hq))), Ne.symm ((hRr k r hk).2 q hq)⟩
    refine hide fun Pq9 hq9 => ?_
    obtain ⟨S2, tl2, V2, st3, ha2, of2, sb2⟩ := V₁.adds F₁ N₁ (by walk_at "lg") ((sl, lstO (svals R) c) :: ents R) (sub_cons (.head _) (sub_t (sub_l sub_refl)))
    have hr2 : ∀ q ∈ rest, S2.get? q.1 = none := fun q hq => of2 _ (hmu q (List.mem_cons_of_mem _ (List.mem_append_right _ hq))) (off_cons (Nat.ne_of_gt (lsl q (List.mem_append_right _ (List.mem_append_left _ hq)))) (fun p hp => by
      obtain ⟨k, r, hk, rfl⟩ := mem_ents.mp hp
      exact Ne.symm ((hRr k r hk).2 q hq)))
    have hN2 : ∀ (k : Nat) (r : Rt), R[k]? = some (some r) → NodeT S2 (.ref r.x) r.tree := fun k r hk => (hRo k r hk).node st3 (ha2 (r.d, r.obj) (List.mem_cons_of_mem _ (mem_ents.mpr ⟨k, r, hk, rfl⟩)))
    have hsl2 := ha2 (sl, lstO (svals R) c) (.head _)
    have N3 : News g L' h9 (rest ++ tl2) := News.sub N₁ (by walk_at "lg")
    clear N₁ ha2 of2 sb2 V₁ hmu
    refine hq9 ?_; clear hq9 Pq9
    refine at_comp_list (L := L') (S := S2) (G := G) (vs := svals R) (e := c) (mu := rest) (tl := tl2) rfl (by decide) rfl rfl V2 F₁ N3 hr2 hsl2 (by rw [svals_length, sizeLine_eq]; omega)
      (fun i ys S' => NodesT S2 ys ((R.take i).filterMap (Option.map Rt.tree)) ∧ ys.length ≤ i) ⟨.nil, Nat.le_refl _⟩ (fun i ys S' hj => hj.2) ?turn2 ?done2
    case turn2 =>
      clear N3
      rintro s' ⟨h8, rfl⟩
      intro i v ys S₃ tl₃ h tk C own m₀ hi hP hJ V₃ hS3 hown F₃ N₃
      have hv : ∃ o, R[i]? = some o ∧ v = sval o := by
        unfold svals at hP
        rw [List.getElem?_map] at hP
        obtain ⟨o, h1, h2⟩ := Option.map_eq_some_iff.mp hP
        exact ⟨o, h1, h2.symm⟩
      refine hide fun Pq9 hq9 => ?_
      obtain ⟨o, ho, rfl⟩ := hv
      refine hq9 ?_; clear hq9 Pq9
      refine tested_one ?_
      refine hide fun Pq9 hq9 => ?_
      cases o with
      | none =>
        rw [show sval none = Value.none from rfl] at F₃
        have hJ' : NodesT S2 ys ((R.take (i + 1)).filterMap (Option.map Rt.tree)) ∧ ys.length ≤ i + 1 := by
          rw [take_snoc ho, List.filterMap_append]; simpa using ⟨hJ.1, Nat.le_succ_of_le hJ.2⟩
        refine hq9 ?_; clear hq9 Pq9
        (first | ((try dsimp only); k_unmd; k_fold) | skip)
        clear hP hS3 hi h8 hsl2 hN2 hr2 st3 V2 tl2 hnt hlR F₁ u hRr hRs hRo hRl hS tl₁ S₁ hn hh0 hh1 lsl c sl hvl vs st2 tl1 S1 o pd h' hn2 VG st h₁ hro V e td l tl
        (repeat' (first | ((with_reducible first | refine hKn _ ?_ | refine hKr _ _ retNe ?_ | refine hKr _ _ contNe ?_); (try clear hKn hKr Kq); (try dsimp only)) | ((with_reducible refine v_copy ‹_› ‹_› (by walk_at "rl") (by walk_at "un") ?_); intro _; walk_at "kl") | (with_reducible first | refine v_ne_int_t (by with_reducible assumption) ?_ | refine v_ne_int_f (by with_reducible assumption) ?_) | ((with_reducible refine call_enum_K (Q := ForAt _ _ _ _ _ _ _ _) ‹_› ‹_› (by walk_at "rl") ?_); intro _ _ _ _ _ _ _ _ _) | (k_unfold; (try dsimp only)) | (k_end; wrow_close) | walk1 | (dsimp only; walk1) | (leave1; try dsimp only) | fail "no step"))
        exact CEnd.same V₃ hown F₃ N₃ hJ'
      | some r =>
        rw [show sval (some r) = Value.ref r.x from rfl] at F₃
        have hJ' : NodesT S2 (ys ++ [.ref r.x]) ((R.take (i + 1)).filterMap (Option.map Rt.tree)) ∧ (ys ++ [Value.ref r.x]).length ≤ i + 1 := by
          rw [take_snoc ho, List.filterMap_append]
          exact ⟨hJ.1.snoc (hN2 i r ho), by rw [List.length_append, List.length_singleton]; exact Nat.succ_le_succ hJ.2⟩
        refine hq9 ?_; clear hq9 Pq9
        (first | ((try dsimp only); k_unmd; k_fold) | skip)
        clear hP hS3 hi h8 hsl2 hr2 V2 tl2 hnt hlR F₁ u hRr hRs hRl hS tl₁ hn hh0 hh1 lsl hvl vs st2 tl1 S1 o pd h' hn2 VG st h₁ hro V e td l tl
        (repeat' (first | ((with_reducible first | refine hKn _ ?_ | refine hKr _ _ retNe ?_ | refine hKr _ _ contNe ?_); (try clear hKn hKr Kq); (try dsimp only)) | ((with_reducible refine v_copy ‹_› ‹_› (by walk_at "rl") (by walk_at "un") ?_); intro _; walk_at "kl") | (with_reducible first | refine v_ne_int_t (by with_reducible assumption) ?_ | refine v_ne_int_f (by with_reducible assumption) ?_) | ((with_reducible refine call_enum_K (Q := ForAt _ _ _ _ _ _ _ _) ‹_› ‹_› (by walk_at "rl") ?_); intro _ _ _ _ _ _ _ _ _) | (k_unfold; (try dsimp only)) | (k_end; wrow_close) | walk1 | (dsimp only; walk1) | (leave1; try dsimp only) | fail "no step"))
        exact CEnd.same V₃ hown F₃ N₃ hJ'
    case done2 =>
      intro D h' tk ys S' tl' F' N' V' hS3 hD hmu hne hJ
      rw [svals_length] at hJ
      rw [List.take_of_length_le (Nat.le_refl _), slots_all (P := fun p => decide (p < ts.length)) hRl (fun k hk => by have := hRs k hk; rw [hvl, ← hn] at this; exact this)] at hJ
      clear hD hsl2 hN2 hr2 V2 hnt hlR F₁ hRr hRs hRo hRl hh0 hh1 lsl hvl vs tl1 ek hn2 e gd fr un dp
      (repeat' (first | ((with_reducible first | refine hKn _ ?_ | refine hKr _ _ retNe ?_ | refine hKr _ _ contNe ?_); (try clear hKn hKr Kq); (try dsimp only)) | ((with_reducible refine v_copy ‹_› ‹_› (by walk_at "rl") (by walk_at "un") ?_); intro _; walk_at "kl") | (with_reducible first | refine v_ne_int_t (by with_reducible assumption) ?_ | refine v_ne_int_f (by with_reducible assumption) ?_) | ((with_reducible refine call_enum_K (Q := ForAt _ _ _ _ _ _ _ _) ‹_› ‹_› (by walk_at "rl") ?_); intro _ _ _ _ _ _ _ _ _) | (k_unfold; (try dsimp only)) | (k_end; wrow_close) | walk1 | (dsimp only; walk1) | (leave1; try dsimp only) | fail "no step"))
      rename_i kF kN kX
      have sS : S.StaysIn S' := fun b o e0 => hS3 _ _ (st3 _ _ (hS _ _ (st2 _ _ e0)))
      have stl : ∀ q ∈ tl, q ∈ tl' := fun q hq => (V'.snap q.1 q.2).mpr ⟨((VG.snap q.1 q.2).mp hq).1, sS _ _ ((VG.snap q.1 q.2).mp hq).2⟩
      have ltl : ∀ q ∈ tl', S'.get? q.1 = some q.2 := fun q hq => ((V'.snap q.1 q.2).mp hq).2
      refine hide fun Pq9 hq9 => ?_
      obtain ⟨S4, tl4, V4, st4, ha4, of4, sb4⟩ := V.adds kF kN (sub_t (sub_r stl)) ((D, lstO ys ys.length) :: tl') (sub_cons (.head _) (sub_t (sub_r sub_refl)))
      have s24 : S2.StaysIn S4 := fun b o e0 => by
        have e1 := hS3 _ _ e0
        rcases V'.src b o e1 with q | q
        · exact st4 _ _ (V.stays _ _ q)
        · exact ha4 (b, o) (List.mem_cons_of_mem _ ((V'.snap b o).mpr ⟨q, e1⟩))
      refine hq9 ?_; clear hq9 Pq9
      refine h D h' tk S4 tl4 ys ys.length kF (News.sub kN (by walk_at "lg")) V4 st4 (fun q hq => ?_) (ha4 _ (.head _)) ?_
      · refine of4 _ (hro q hq).1 (off_cons (fun q1 => ?_) (fun p hp q1 => ?_))
        · exact hne q.1 q.2 (N3 q (List.mem_append_left _ hq)).1 q1.symm
        · have e1 := ltl p hp
          rw [q1, hmu q hq] at e1; cases e1
      · have := NodesT.mono s24 hJ.1
        rwa [fm_congr (g := slotP tab ts (stA tab ts) fun _ => true) (fun k hk => slotP_congr (fun p hp => by simp [hp]) (by rw [hn]; exact List.mem_range.mp hk))] at this
end

section
/-- a call's contract, when the call may draw -/
noncomputable def HSpecD (w : World) (f : Addr) (n : Nat) (vals : List Value) (Pre : Heap → Prop) (Post : Heap → Value → Prop) : Prop :=
  ∀ (p : Program) (loose : List Str) (mg mb : Str → Option Value) (dp un : Nat) (fr : Option (List Env)) (gd : Option (List Code)) (s : Shared) (Q E : Value → Shared → Prop) (G : Heap),
    dp + n < 1000 → un + 8 * n + 100 < 9900 → (grab.heap_1 w.params).In s.heap → TopRead p loose mg mb s.heap → G.StaysIn s.heap → Pre G →
    (∀ r h' tk dr G', s.heap.StaysIn h' → Grow s.heap G G' → G'.StaysIn h' → Post G' r → Q r { s with heap := h', toks := tk, drawn := dr }) →
    wpAny (model Pg w) (Ar dp un fr gd) (call (.ref f) vals) Q E s




theorem law_gathered_spec (w : World) {l td : Addr} {vs : List Value} {e : Nat} {ts : List Tr} {tab : Tab} (ok : ∀ t ∈ ts, RootOk tab t) (hsz : Tr.sizes ts ≤ 100) (hsz2 : ts.length < 60) (hne0 : ts ≠ []) :
    HSpecD w 111 10 [.ref l, .ref td] (fun G => G.get? l = some (lstO vs e) ∧ TupsT G vs ts ∧ Tbl w G td tab)
      (fun G r => ∃ D ys e', r = .ref D ∧ G.get? D = some (lstO ys e') ∧ TupsT G ys ((List.range ts.length).filterMap (slotP tab ts (stA tab ts) fun _ => true))) := by
  rintro p loose mg mb dp un fr gd s Q E G hdp hun X T hG ⟨hl, hN, hT⟩ hQ
  refine' enterC (binds := [(Str.ofString "trees", .ref l), (Str.ofString "table", .ref td)]) X T ?ho ?hcd ?hroom ?hb ?hkd ?hnd ?h ?c1 ?c2 ?c3
  case hroom => (show _ < 1000; walk_at "dp")
  case ho => k_is
  case hcd => k_is
  case hb => exact BindsTo.of_eq rfl
  case hkd => exact rfl
  case hnd => decide
  case c1 => exact rfl
  case c2 => exact rfl
  case c3 => exact rfl
  intro L h₁ tk0 cells F N hC
  have V := View.start (L := L) hG F.above
  refine hide fun Pq9 hq9 => ?_
  obtain ⟨o1, o2, o3, o4, rfl, ho1, ho2, ho3, ho4⟩ := CellsAre.four hC
  clear hC
  replace F : Fr s.heap L h₁ (fun y => if y = Str.ofString "trees" then some (Value.ref l) else none) := F
  replace ho1 : o1.data = .cell none := ho1
  replace ho2 : o2.data = .cell none := ho2
  replace ho3 : o3.data = .cell none := ho3
  replace ho4 : o4.data = .cell (some (.ref td)) := ho4
  have hvl : vs.length = ts.length := hN.length
  refine hq9 ?_; clear hq9 Pq9
  (first | ((try dsimp only); k_unmd; k_fold) | skip)
  (repeat' (first | ((with_reducible first | refine hKn _ ?_ | refine hKr _ _ retNe ?_ | refine hKr _ _ contNe ?_); (try clear hKn hKr Kq); (try dsimp only)) | ((with_reducible refine v_dpop ‹_› ‹_› (by k_dflt k_updF) ‹_› ‹_› (by walk_at "un") ?_); intro _ _ _ _ _) | (k_unfold; (try dsimp only)) | (k_end; wrow_close) | walk1 | (dsimp only; walk1) | (leave1; try dsimp only) | fail "no step"))
  have hGn : ∀ q : Addr, @LE.le Nat _ L q → G.get? q = none := fun q hq => by
    cases e : G.get? q with
    | none => rfl
    | some o => exact absurd (Nat.lt_of_lt_of_le (Heap.lt_size (hG _ _ e)) (Nat.le_trans F.above hq)) (Nat.lt_irrefl _)
  have hmu0 : ∀ q ∈ [(L + 1 + 1 + 1 + 1, o1), (L + 1 + 1 + 1, o2), (L + 1 + 1, o3), (L + 1, o4)], G.get? q.1 = none :=
    off_cons (hGn _ (by dsimp only; omega)) (off_cons (hGn _ (by dsimp only; omega)) (off_cons (hGn _ (by dsimp only; omega)) (off_cons (hGn _ (by dsimp only; omega)) off_nil)))
  refine call_enum_K F N (V.get F N (by walk_at "lg") hl) ?_
  intro ee it h2 F2 N2 he hit hne hold
  have fe := fresh4 (mu := [(L + 1 + 1 + 1 + 1, o1), (L + 1 + 1 + 1, o2), (L + 1 + 1, o3), (L + 1, o4)]) V F N fun b o x => (hold b o x).1
  have fi := fresh4 (mu := [(L + 1 + 1 + 1 + 1, o1), (L + 1 + 1 + 1, o2), (L + 1 + 1, o3), (L + 1, o4)]) V F N fun b o x => (hold b o x).2
  refine at_comp_enum (L := L) (S := G) (G := G) (mu := [(L + 1 + 1 + 1 + 1, o1), (L + 1 + 1 + 1, o2), (L + 1 + 1, o3), (L + 1, o4)]) (tl := []) (vs := vs) (ee := e) rfl (by decide) rfl rfl rfl V F2 N2 hmu0 hl (by rw [sizeLine_eq]; omega) he hit hne fe fi
    (fun i ys S' => ys.length = i ∧ ∀ (q : Nat) (v : Value), ys[q]? = some v → ∃ (a : Addr) (t e : Nat), v = .ref a ∧ S'.get? a = some (tupO [.int (q : Int) t, vs.getD q .none] e)) ⟨rfl, fun q v hq => by simp at hq⟩ (fun i ys S' hj => Nat.le_of_eq hj.1) ?turn1 ?done1
  case turn1 =>
    intro H hHe i v ti ys S₁ tl₁ h tk C own m₀ hi hP hJx52 V₁ hS hown F₁ N₁
    refine hide fun Pq9 hq9 => ?_
    obtain ⟨hyl, hys⟩ := hJx52
    clear hHe
    refine hq9 ?_; clear hq9 Pq9
    (first | ((try dsimp only); k_unmd; k_fold) | skip)
    (repeat' (first | ((with_reducible first | refine hKn _ ?_ | refine hKr _ _ retNe ?_ | refine hKr _ _ contNe ?_); (try clear hKn hKr Kq); (try dsimp only)) | ((with_reducible refine v_dpop ‹_› ‹_› (by k_dflt k_updF) ‹_› ‹_› (by walk_at "un") ?_); intro _ _ _ _ _) | (k_unfold; (try dsimp only)) | (k_end; wrow_close) | walk1 | (dsimp only; walk1) | (leave1; try dsimp only) | fail "no step"))
    rename_i D9 h9 F9 N9 l9
    refine hide fun Pq9 hq9 => ?_
    obtain ⟨S2, tl2, V2, st2, ha2, of2, sb2⟩ := V₁.adds F9 N9 (by walk_at "lg") [(D9, tupO [.int (i : Int) ti, v] 0)] (sub_cons (.head _) sub_nil)
    refine hq9 ?_; clear hq9 Pq9
    refine CEnd.mk V2 st2 (fun q hq => of2 _ (hown q hq) (off_cons (Nat.ne_of_gt (l9 q (List.mem_append_left _ hq))) off_nil)) F9 (News.sub N9 (sub_app (sub_t (sub_l sub_refl)) sb2)) ⟨by simp [hyl], fun q u hq => ?_⟩
    by_cases hqi : q < ys.length
    · rw [List.getElem?_append_left hqi] at hq
      refine hide fun Pq9 hq9 => ?_
      obtain ⟨a, t, e9, r1, r2⟩ := hys q u hq
      refine hq9 ?_; clear hq9 Pq9
      exact ⟨a, t, e9, r1, st2 _ _ r2⟩
    · rw [List.getElem?_append_right (by omega)] at hq
      have hz : q = i := by
        have := (List.getElem?_eq_some_iff.mp hq).1
        simp at this; omega
      subst hz
      rw [hyl, Nat.sub_self] at hq
      simp at hq
      subst hq
      exact ⟨D9, ti, 0, rfl, by rw [List.getD_eq_getElem?_getD, hP]; exact ha2 _ (.head _)⟩
  case done1 =>
    intro D h' tk ys S' tl' F' N' V' hS hD hmu hne2 hJ
    (first | ((try dsimp only); k_unmd; k_fold) | skip)
    (repeat' (first | ((with_reducible first | refine hKn _ ?_ | refine hKr _ _ retNe ?_ | refine hKr _ _ contNe ?_); (try clear hKn hKr Kq); (try dsimp only)) | ((with_reducible refine v_dpop ‹_› ‹_› (by k_dflt k_updF) ‹_› ‹_› (by walk_at "un") ?_); intro _ _ _ _ _) | (k_unfold; (try dsimp only)) | (k_end; wrow_close) | walk1 | (dsimp only; walk1) | (leave1; try dsimp only) | fail "no step"))
    have hbig : 111 < s.heap.objs.size := Heap.lt_size (X 111 _ (by k_is))
    refine call_dict_pairs (n := ts.length) (vl := fun q => vs.getD q .none) rfl (N' _ (.head _)).1 (hJ.1.trans hvl) (by rw [sizeLine_eq]; omega) (fun q v hq => ?_) ?_
    · refine hide fun Pq9 hq9 => ?_
      obtain ⟨a, t, e9, r1, r2⟩ := hJ.2 q v hq
      refine hq9 ?_; clear hq9 Pq9
      exact ⟨a, t, e9, r1, V'.get F' N' (by walk_at "lg") r2⟩
    intro dd h4 tk4 hsz4 hfr hk4 hD4
    refine hide fun Pq9 hq9 => ?_
    obtain ⟨oD, hoD, hkD⟩ := Heap.dictOf_iff.mp hD4
    have F4 := F'.keeps hk4
    obtain ⟨oL, esL, epL, hLL, _⟩ := id F'.ns
    have hdL : L < dd := Nat.lt_of_lt_of_le (Heap.lt_size hLL) hsz4
    have lo : (dd == sysModules) = false := beq_eq_false_iff_ne.mpr (Nat.ne_of_gt (Nat.lt_trans (Nat.lt_of_lt_of_le (Nat.lt_trans (by decide) hbig) F.above) hdL))
    have N4 : News s.heap L h4 ((dd, oD) :: ((L + 1 + 1 + 1 + 1, o1) :: (L + 1 + 1 + 1, o2) :: (L + 1 + 1, o3) :: (L + 1, o4) :: tl')) := fun q hq => by
      rcases List.mem_cons.mp hq with rfl | hq
      · refine ⟨hoD, Nat.ne_of_gt hdL, ?_⟩
        cases q : s.heap.get? dd with
        | none => rfl
        | some o => exact absurd rfl (hfr _ _ (F'.keep _ _ q))
      · exact (N'.grown hk4) q (.tail _ hq)
    have l4 : ∀ q ∈ ((L + 1 + 1 + 1 + 1, o1) :: (L + 1 + 1 + 1, o2) :: (L + 1 + 1, o3) :: (L + 1, o4) :: tl'), q.1 < dd := fun q hq => Nat.lt_of_lt_of_le (Heap.lt_size (N' q (.tail _ hq)).1) hsz4
    clear hD4 hk4 hfr hJ N' F' N2 F2 he hit fe fi hold
    have lt4 : @LT.lt Nat _ (L + 1 + 1 + 1 + 1) dd := l4 _ (.head _)
    have n1 : @Ne Nat dd (L + 1) := by omega
    have n2 : @Ne Nat dd (L + 1 + 1) := by omega
    have n3 : @Ne Nat dd (L + 1 + 1 + 1) := by omega
    have n4 : @Ne Nat dd (L + 1 + 1 + 1 + 1) := by omega
    have z4 : S'.get? (L + 1 + 1 + 1 + 1) = none := hmu _ (.head _)
    have z3 : S'.get? (L + 1 + 1 + 1) = none := hmu _ (.tail _ (.head _))
    have z2 : S'.get? (L + 1 + 1) = none := hmu _ (.tail _ (.tail _ (.head _)))
    have z1 : S'.get? (L + 1) = none := hmu _ (.tail _ (.tail _ (.tail _ (.head _))))
    have z5 : S'.get? dd = none := V'.notNew N4 (.head _) fun q hq => l4 q (.tail _ (.tail _ (.tail _ (.tail _ hq))))
    refine hq9 ?_; clear hq9 Pq9
    (first | ((try dsimp only); k_unmd; k_fold) | skip)
    (repeat' (first | ((with_reducible first | refine hKn _ ?_ | refine hKr _ _ retNe ?_ | refine hKr _ _ contNe ?_); (try clear hKn hKr Kq); (try dsimp only)) | ((with_reducible refine v_dpop ‹_› ‹_› (by k_dflt k_updF) ‹_› ‹_› (by walk_at "un") ?_); intro _ _ _ _ _) | (k_unfold; (try dsimp only)) | (k_end; wrow_close) | walk1 | (dsimp only; walk1) | (leave1; try dsimp only) | fail "no step"))
    rename_i hA oS FA NA dS
    have hl' : S'.get? l = some (lstO vs e) := hS _ _ hl
    have hN' := TupsT.mono hS hN
    have hT' := hT.mono hS
    have X1 := X.keeps FA.keep
    have T1 := T.keeps FA.keep
    have hc1 : hA.get? (L + 1) = some o4 := (NA (L + 1, o4) (by k_mem)).1
    have hmu2 : ∀ q ∈ [(dd, oD), (L + 1 + 1 + 1 + 1, o1), (L + 1 + 1 + 1, o2), (L + 1 + 1, oS), (L + 1, o4)], S'.get? q.1 = none := off_cons z5 (off_cons z4 (off_cons z3 (off_cons z2 (off_cons z1 off_nil))))
    refine at_comp_list (L := L) (S := S') (G := G) (vs := vs) (e := e) (mu := [(dd, oD), (L + 1 + 1 + 1 + 1, o1), (L + 1 + 1 + 1, o2), (L + 1 + 1, oS), (L + 1, o4)]) (tl := tl') rfl (by decide) rfl rfl V' FA NA hmu2 hl' (by rw [sizeLine_eq]; omega)
      (fun i ys S' => StrsAre ys ((ts.take i).map (base tab)) ∧ ys.length ≤ i) ⟨.nil, Nat.le_refl _⟩ (fun i ys S' hj => hj.2) ?turn2 ?done2
    case turn2 =>
      rintro s' ⟨h9, rfl⟩
      intro i v ys S₁ tl₁ h tk C own m₀ hi hP hJx54 V₁ hS1 hown F₁ N₁
      refine hide fun Pq9 hq9 => ?_
      obtain ⟨hys, hyl⟩ := hJx54
      obtain ⟨t, ht, hv⟩ := (hN'.mono hS1).get hP
      have okt := ok t (List.mem_of_getElem? ht)
      refine hq9 ?_; clear hq9 Pq9
      refine tested_nil ?_
      (first | ((try dsimp only); k_unmd; k_fold) | skip)
      clear hP hi h9 hmu2 hN' hl' dS z5 z1 z2 z3 z4 n4 n3 n2 n1 lt4 l4 lo hdL hLL hkD hoD hsz4 h4 hbig hne2 hmu hD V' h' hne h2 it ee hmu0 hGn hvl ho3 ho2 ho1 o3 V tk0 h₁ hQ hN hl hG E hne0 hsz2 hsz e vs
      (repeat' (first | ((with_reducible first | refine hKn _ ?_ | refine hKr _ _ retNe ?_ | refine hKr _ _ contNe ?_); (try clear hKn hKr Kq); (try dsimp only)) | ((with_reducible refine v_dpop ‹_› ‹_› (by k_dflt k_updF) ‹_› ‹_› (by walk_at "un") ?_); intro _ _ _ _ _) | (k_unfold; (try dsimp only)) | (k_end; wrow_close) | walk1 | (dsimp only; walk1) | (leave1; try dsimp only) | fail "no step"))
      refine useR (law_base_spec w okt) V₁ F₁ N₁ (by walk_at "lg") X1 T1 (by walk_at "dp") (by walk_at "dp") ⟨hv, hT'.mono hS1⟩ ?_
      rintro r h7 tk7 F7 N7 ⟨_, tb, rfl⟩
      exact CEnd.same V₁ hown F7 N7 ⟨by rw [take_snoc ht, List.map_append]; exact strsAre_app hys (.cons _ tb .nil), by rw [List.length_append, List.length_singleton]; omega⟩
    case done2 =>
      intro D2 h5 tk5 bs S5 tl5 F5 N5 V5 hS5 hD5 hmu5 hne5 hJ5
      have y5 : S5.get? dd = none := hmu5 _ (.head _)
      have y4 : S5.get? (L + 1 + 1 + 1 + 1) = none := hmu5 _ (.tail _ (.head _))
      have y3 : S5.get? (L + 1 + 1 + 1) = none := hmu5 _ (.tail _ (.tail _ (.head _)))
      have y2 : S5.get? (L + 1 + 1) = none := hmu5 _ (.tail _ (.tail _ (.tail _ (.head _))))
      have y1 : S5.get? (L + 1) = none := hmu5 _ (.tail _ (.tail _ (.tail _ (.tail _ (.head _)))))
      have m5 : @Ne Nat D2 dd := Ne.symm (hne5 _ _ (NA (dd, oD) (.head _)).1)
      have m4 : @Ne Nat D2 (L + 1 + 1 + 1 + 1) := Ne.symm (hne5 _ _ (NA (L + 1 + 1 + 1 + 1, o1) (.tail _ (.head _))).1)
      have m3 : @Ne Nat D2 (L + 1 + 1 + 1) := Ne.symm (hne5 _ _ (NA (L + 1 + 1 + 1, o2) (.tail _ (.tail _ (.head _)))).1)
      have m2 : @Ne Nat D2 (L + 1 + 1) := Ne.symm (hne5 _ _ (NA (L + 1 + 1, oS) (.tail _ (.tail _ (.tail _ (.head _))))).1)
      have m1 : @Ne Nat D2 (L + 1) := Ne.symm (hne5 _ _ (NA (L + 1, o4) (.tail _ (.tail _ (.tail _ (.tail _ (.head _)))))).1)
      simp only [List.cons_append, List.nil_append] at N5
      (first | ((try dsimp only); k_unmd; k_fold) | skip)
      clear hD5 hc1 hoD hne2 hmu0 hGn ho3 V tk0 hG E
      (repeat' (first | ((with_reducible first | refine hKn _ ?_ | refine hKr _ _ retNe ?_ | refine hKr _ _ contNe ?_); (try clear hKn hKr Kq); (try dsimp only)) | ((with_reducible refine v_dpop ‹_› ‹_› (by k_dflt k_updF) ‹_› ‹_› (by walk_at "un") ?_); intro _ _ _ _ _) | (k_unfold; (try dsimp only)) | (k_end; wrow_close) | walk1 | (dsimp only; walk1) | (leave1; try dsimp only) | fail "no step"))
      rename_i hB oB FB NB dB
      have hbs : StrsAre bs (ts.map (base tab)) := by have := hJ5.1; rwa [hvl, List.take_length] at this
      have hbl : bs.length = ts.length := by rw [hbs.length, List.length_map]
      refine call_set_strs (l := D2) (items := bs.toArray) (ss := ts.map (base tab)) rfl (isL (NB _ (.head _)).1) (by simpa using hbs) (by rw [List.size_toArray]; unfold scanBound; omega) ?_
      intro hC tkC hSA hkC
      have hkC' : ∀ b o, hB.get? b = some o → hC.get? b = some o := fun b o x => hkC b o (Heap.lt_size x) x
      have FC := FB.keeps hkC'
      have NC := NB.grown hkC'
      clear hkC hkC' FB NB
      (first | ((try dsimp only); k_unmd; k_fold) | skip)
      clear h5 ho2
      (repeat' (first | ((with_reducible first | refine hKn _ ?_ | refine hKr _ _ retNe ?_ | refine hKr _ _ contNe ?_); (try clear hKn hKr Kq); (try dsimp only)) | ((with_reducible refine v_dpop ‹_› ‹_› (by k_dflt k_updF) ‹_› ‹_› (by walk_at "un") ?_); intro _ _ _ _ _) | (k_unfold; (try dsimp only)) | (k_end; wrow_close) | walk1 | (dsimp only; walk1) | (leave1; try dsimp only) | fail "no step"))
      refine hide fun Pq9 hq9 => ?_
      refine ex5 hSA fun oZ es ep tz ks hx9 => ?_
      refine ands4 hx9 fun hZ1 hZ2 hZ3 hZ4 => ?_
      clear hx9
      have hkm : ∀ x, x ∈ ks ↔ ∃ j, j < ts.length ∧ bA tab ts j = x := fun x => by
        rw [hZ3]
        have e1 : ∀ j, j < ts.length → (ts.map (base tab)).getD j noS' = bA tab ts j := fun j hj => by
          rw [List.getD_eq_getElem?_getD, List.getElem?_map, tsA_get hj]; rfl
        constructor
        · rintro ⟨j, h1, h2⟩
          have h3 : j < ts.length := by rw [List.size_toArray, hbl] at h1; exact h1
          exact ⟨j, h3, (e1 j h3).symm.trans h2⟩
        · rintro ⟨j, h1, h2⟩
          exact ⟨j, by rw [List.size_toArray, hbl]; exact h1, (e1 j h1).trans h2⟩
      have hes : es.size = ks.length := by rw [← hZ2.keys.length, List.length_map, Array.length_toList]
      have hne : es.size ≠ 0 := fun q => by
        have h0 : 0 < ts.length := List.length_pos_iff.mpr hne0
        have := (hkm (bA tab ts 0)).mpr ⟨0, h0, rfl⟩
        rw [hes] at q
        rw [List.eq_nil_of_length_eq_zero q] at this
        exact absurd this List.not_mem_nil
      have hes2 : es.size < 64 := by have e0 : bs.toArray.size = bs.length := List.size_toArray; omega
      refine hq9 ?_; clear hq9 Pq9
      refine sorted_set FC NC rfl hZ1 hZ2 hne hes2 ?_
      intro D3 hE dr tkE svs ss e3 FE NE lE hsv hsp
      have hssn : ss.Nodup := hsp.nodup_iff.mpr hZ2.nd
      have hssm : ∀ x, x ∈ ss ↔ ∃ j, j < ts.length ∧ bA tab ts j = x := fun x => by rw [hsp.mem_iff]; exact hkm x
      have lD3 : ∀ q ∈ (D2, lstO bs bs.length) :: (dd, oD) :: (L + 1 + 1 + 1 + 1, o1) :: (L + 1 + 1 + 1, oB) :: (L + 1 + 1, oS) :: (L + 1, o4) :: tl5, @LT.lt Nat _ q.1 D3 := fun q hq => lE _ _ (NC q hq).1
      clear hkm hsp hZ4 hZ3 hZ2 hZ1 NC FC hne hes hes2 lE
      refine hide fun Pq9 hq9 => ?_
      obtain ⟨S6, tl6, V6, st6, ha6, of6, sb6⟩ := V5.adds FE NE (by walk_at "lg") [(D2, lstO bs bs.length), (D3, lstO svs e3)] (sub_cons (.tail _ (.head _)) (sub_cons (.head _) sub_nil))
      have hl6 : S6.get? l = some (lstO vs e) := st6 _ _ (hS5 _ _ hl')
      have hN6 := TupsT.mono st6 (TupsT.mono hS5 hN')
      have hT6 := (hT'.mono hS5).mono st6
      have hD26 : S6.get? D2 = some (lstO bs bs.length) := ha6 _ (.head _)
      have hD36 : S6.get? D3 = some (lstO svs e3) := ha6 _ (.tail _ (.head _))
      have q1 : @LT.lt Nat _ (L + 1) D3 := lD3 _ (.tail _ (.tail _ (.tail _ (.tail _ (.tail _ (.head _))))))
      have q2 : @LT.lt Nat _ (L + 1 + 1) D3 := lD3 _ (.tail _ (.tail _ (.tail _ (.tail _ (.head _)))))
      have q3 : @LT.lt Nat _ (L + 1 + 1 + 1) D3 := lD3 _ (.tail _ (.tail _ (.tail _ (.head _))))
      have q4 : @LT.lt Nat _ (L + 1 + 1 + 1 + 1) D3 := lD3 _ (.tail _ (.tail _ (.head _)))
      have q5 : @LT.lt Nat _ dd D3 := lD3 _ (.tail _ (.head _))
      have x1 : S6.get? (L + 1) = none := of6 _ y1 (off_cons m1 (off_cons (Nat.ne_of_gt q1) off_nil))
      have x2 : S6.get? (L + 1 + 1) = none := of6 _ y2 (off_cons m2 (off_cons (Nat.ne_of_gt q2) off_nil))
      have x3 : S6.get? (L + 1 + 1 + 1) = none := of6 _ y3 (off_cons m3 (off_cons (Nat.ne_of_gt q3) off_nil))
      have x4 : S6.get? (L + 1 + 1 + 1 + 1) = none := of6 _ y4 (off_cons m4 (off_cons (Nat.ne_of_gt q4) off_nil))
      have x5 : S6.get? dd = none := of6 _ y5 (off_cons m5 (off_cons (Nat.ne_of_gt q5) off_nil))
      have N6 : News s.heap L hE ((L + 1 + 1 + 1 + 1, o1) :: ([(dd, oD), (L + 1 + 1 + 1, oB), (L + 1 + 1, oS), (L + 1, o4)] ++ tl6)) := News.sub NE (by simp only [List.cons_append, List.nil_append]; walk_at "lg")
      have hg0 : SlotV S6 (fun k => some (vs.getD k .none)) (slotP tab ts (stA tab ts) (PO tab ts ss 0)) ts.length := fun k hk => by
        obtain ⟨v, hv1⟩ : ∃ v, vs[k]? = some v := ⟨_, List.getElem?_eq_getElem (by omega)⟩
        obtain ⟨t, ht1, ht2⟩ := hN6.get hv1
        exact .inr ⟨v, t, by show some (vs.getD k .none) = some v; rw [List.getD_eq_getElem?_getD, hv1]; rfl, by rw [slotP_none (by intro p; simp [PO]), tsA_some ht1], ht2⟩
      clear of6 ha6 sb6 lD3 NE
      obtain ⟨mB, hmB, FB⟩ := Fr.named FE
      have hcm0 : ∀ o : Obj, ∀ p ∈ [(dd, o), (L + 1 + 1 + 1, oB), (L + 1 + 1, oS), (L + 1, o4)], p.1 ≠ L + 1 + 1 + 1 + 1 := fun o => off_cons (by dsimp only; exact n4) (off_cons (by dsimp only; exact Nat.ne_of_lt (by omega)) (off_cons (by dsimp only; exact Nat.ne_of_lt (by omega)) (off_cons (by dsimp only; exact Nat.ne_of_lt (by omega)) off_nil)))
      refine hq9 ?_; clear hq9 Pq9
      refine at_list_cell (L := L) (c := L + 1 + 1 + 1 + 1) (oc := o1) (vs := svs) (e := e3) (S := S6) (G := G) (mu := [(dd, oD), (L + 1 + 1 + 1, oB), (L + 1 + 1, oS), (L + 1, o4)]) (tl := tl6) rfl rfl rfl rfl rfl V6 FB N6 ⟨_, ho1⟩ hD36 x4 (off_cons x5 (off_cons x3 (off_cons x2 (off_cons x1 off_nil)))) ?hcm
        (fun i m mu S' => ∃ g oD, mu = [(dd, oD), (L + 1 + 1 + 1, oB), (L + 1 + 1, oS), (L + 1, o4)] ∧ oD.IsDictOf (intKind Pg w) (kvsOf g ts.length) ∧ SlotV S' g (slotP tab ts (stA tab ts) (PO tab ts ss i)) ts.length ∧
          Same [Str.ofString "spots", Str.ofString "stand", Str.ofString "spot", Str.ofString "held", Str.ofString "here"] mB m)
        ⟨_, oD, rfl, by rw [← kvsOf_enum]; exact hkD, hg0, Same.refl⟩ ?turn3 ?done3
      case hcm => exact hcm0 oD
      case turn3 =>
        rintro s' ⟨h9, rfl⟩
        intro i v m₁ mu₁ S₁ tl₁ h tk own oc hi hP hJx56 V₁ hS1 hown hcS hmu1 hoc F₁ N₁
        (first | ((try dsimp only); k_unmd; k_fold) | skip)
        refine hide fun Pq9 hq9 => ?_
        obtain ⟨g, oD, rfl, hkD, hg, hm⟩ := hJx56
        obtain ⟨u, rfl⟩ : ∃ u, m₁ = fun z => if [Str.ofString "spots", Str.ofString "stand", Str.ofString "spot", Str.ofString "held", Str.ofString "here"].contains z then u z else mB z := ⟨m₁, hm.eq⟩
        subst hmB
        obtain ⟨tb, rfl⟩ := strsAre_at hsv i v hP
        have hsl : svs.length = ss.length := hsv.length
        obtain ⟨b, hb⟩ : ∃ b, ss[i]? = some b := ⟨_, List.getElem?_eq_getElem (by omega)⟩
        rw [List.getD_eq_getElem?_getD, hb, Option.getD_some] at hoc
        simp only [List.cons_append, List.nil_append] at N₁
        have hl1 : S₁.get? l = some (lstO vs e) := hS1 _ _ hl6
        have hN1 := TupsT.mono hS1 hN6
        have hT1 := hT6.mono hS1
        have hD21 := hS1 _ _ hD26
        have w5 : S₁.get? dd = none := (hmu1 _ (.head _)).1
        have w3 : S₁.get? (L + 1 + 1 + 1) = none := (hmu1 _ (.tail _ (.head _))).1
        have w2 : S₁.get? (L + 1 + 1) = none := (hmu1 _ (.tail _ (.tail _ (.head _)))).1
        have w1 : S₁.get? (L + 1) = none := (hmu1 _ (.tail _ (.tail _ (.tail _ (.head _))))).1
        have v5 : ∀ q ∈ own, q.1 ≠ dd := (hmu1 _ (.head _)).2.2
        have v3 : ∀ q ∈ own, q.1 ≠ L + 1 + 1 + 1 := (hmu1 _ (.tail _ (.head _))).2.2
        have v2 : ∀ q ∈ own, q.1 ≠ L + 1 + 1 := (hmu1 _ (.tail _ (.tail _ (.head _)))).2.2
        have v1 : ∀ q ∈ own, q.1 ≠ L + 1 := (hmu1 _ (.tail _ (.tail _ (.tail _ (.head _))))).2.2
        have v4 : ∀ q ∈ own, q.1 ≠ L + 1 + 1 + 1 + 1 := fun q hq => (hown q hq).2
        have hown' : ∀ q ∈ own, S₁.get? q.1 = none := fun q hq => (hown q hq).1
        clear hP hmu1 hown hN hT hl hJ5 FB N6 FE
        refine hq9 ?_; clear hq9 Pq9
        (first | ((try dsimp only); k_unmd; k_fold) | skip)
        clear hsl hg0 x5 x4 x3 x2 x1 q5 q4 q3 q2 q1 hD36 V6 tl6 hsv tkE hSA tkC hC m1 m3 m4 m5 y1 y2 y3 y4 y5 hmu5 V5 tl5 tk5 lo hdL hLL hbig hD hne it ee ho1 h₁ hQ hne0
        (repeat' (first | ((with_reducible first | refine hKn _ ?_ | refine hKr _ _ retNe ?_ | refine hKr _ _ contNe ?_); (try clear hKn hKr Kq); (try dsimp only)) | ((with_reducible refine v_dpop ‹_› ‹_› (by k_dflt k_updF) ‹_› ‹_› (by walk_at "un") ?_); intro _ _ _ _ _) | (k_unfold; (try dsimp only)) | (k_end; wrow_close) | walk1 | (dsimp only; walk1) | (leave1; try dsimp only) | fail "no step"))
        rename_i hR tkR tr ur vr hRr FR NR kR
        have X2 := X.keeps FR.keep
        have T2 := T.keeps FR.keep
        have hcB := (NR (L + 1 + 1 + 1, oB) (.tail _ (.tail _ (.head _)))).1
        have hcb := (NR (L + 1 + 1 + 1 + 1, oc) (.head _)).1
        have hrs : Builtin.Range.rangeSize 0 (vs.length : Int) 1 = (vs.length : Int) := by rw [rangeSize_nat]; omega
        have hsm : Builtin.Range.small 0 (vs.length : Int) 1 = true := small_one (by omega) (by omega) (by omega) (by omega)
        have hmuR : ∀ q ∈ (L + 1 + 1 + 1 + 1, oc) :: (dd, oD) :: (L + 1 + 1 + 1, oB) :: (L + 1 + 1, oS) :: (L + 1, o4) :: own, S₁.get? q.1 = none := off_cons hcS (off_cons w5 (off_cons w3 (off_cons w2 (off_cons w1 hown'))))
        refine at_comp_use (L := L) (S := S₁) (G := G) (mu := (L + 1 + 1 + 1 + 1, oc) :: (dd, oD) :: (L + 1 + 1 + 1, oB) :: (L + 1 + 1, oS) :: (L + 1, o4) :: own) (tl := tl₁) rfl rfl rfl (walks_range hRr hsm hrs) (Walks.range rfl _ 0 1 vs.length) (fun _ _ st => ⟨_, st⟩) (fun b hb hbI => absurd (List.mem_singleton.mp hb) hbI) walks_range0 (by decide) rfl rfl V₁ FR (News.sub NR (by simp only [List.cons_append]; walk_at "lg")) hmuR (by rw [sizeLine_eq]; omega)
          (fun j ys S' => IntsAre ys ((spotsN tab ts j b).map fun n : Nat => (n : Int)) ∧ ys.length ≤ j) ⟨.nil, Nat.le_refl _⟩ (fun i ys S' hj => hj.2) ?turn4 ?done4
        case turn4 =>
          rintro s' ⟨h9, rfl⟩
          intro j v ys S₂ tl₂ h tk C own2 m₀ hj hJx58 hJx59 V₂ hS2 hown2 F₂ N₂
          refine hide fun Pq9 hq9 => ?_
          obtain ⟨t9, rfl⟩ := hJx58
          obtain ⟨hys, hyl⟩ := hJx59
          obtain ⟨vb, hvb⟩ : ∃ vb, bs[j]? = some vb := ⟨_, List.getElem?_eq_getElem (by omega)⟩
          obtain ⟨tj, rfl⟩ := strsAre_at hbs j vb hvb
          have hjt : j < ts.length := by omega
          rw [show (ts.map (base tab)).getD j noS' = bA tab ts j by rw [List.getD_eq_getElem?_getD, List.getElem?_map, tsA_get hjt]; rfl] at hvb
          have hD22 := hS2 _ _ hD21
          rw [show ((0 : Int) + ((j : Nat) : Int) * 1) = ((j : Nat) : Int) by omega] at F₂
          have hvb' : bs[((j : Nat) : Int).toNat]? = some (.str (bA tab ts j) tj) := hvb
          refine hq9 ?_; clear hq9 Pq9
          refine tested_one ?_
          by_cases hcmp : bA tab ts j = b
          · (first | ((try dsimp only); k_unmd; k_fold) | skip)
            clear hjt hS2 h9 hmuR hsm hrs kR hRr vr ur tr hown' v4 v1 v2 v3 v5 w1 w2 w3 w5 hD21 hT1 hN1 hl1 hb hm hg hkD g hcS hS1 V₁ hi hcm0 hD26 hT6 hN6 hl6 st6 S6 hssm hssn e3 svs hE D3 ks tz ep es oZ hbl hbs m2 hne5 hS5 S5 hmu2 hT' hN' hl' dS z5 z1 z2 z3 z4 n4 n3 n2 n1 lt4 l4 hsz4 tk4 h4 hmu hS V' tl' S' h' h2 ho4 o3 o2 o1 hun hdp hsz ok e td
            (repeat' (first | ((with_reducible first | refine hKn _ ?_ | refine hKr _ _ retNe ?_ | refine hKr _ _ contNe ?_); (try clear hKn hKr Kq); (try dsimp only)) | ((with_reducible refine v_dpop ‹_› ‹_› (by k_dflt k_updF) ‹_› ‹_› (by walk_at "un") ?_); intro _ _ _ _ _) | (k_unfold; (try dsimp only)) | (k_end; wrow_close) | walk1 | (dsimp only; walk1) | (leave1; try dsimp only) | fail "no step"))
            exact CEnd.same V₂ hown2 F₂ N₂ ⟨by rw [spotsN_succ, if_pos hcmp, List.map_append]; exact IntsAre.append hys (.cons _ t9 .nil), by rw [List.length_append, List.length_singleton]; omega⟩
          · (first | ((try dsimp only); k_unmd; k_fold) | skip)
            clear hjt hS2 h9 hmuR hsm hrs kR hRr vr ur tr hown' v4 v1 v2 v3 v5 w1 w2 w3 w5 hD21 hT1 hN1 hl1 hb hm hg hkD g hcS hS1 V₁ hi hcm0 hD26 hT6 hN6 hl6 st6 S6 hssm hssn e3 svs hE D3 ks tz ep es oZ hbl hbs m2 hne5 hS5 S5 hmu2 hT' hN' hl' dS z5 z1 z2 z3 z4 n4 n3 n2 n1 lt4 l4 hsz4 tk4 h4 hmu hS V' tl' S' h' h2 ho4 o3 o2 o1 hun hdp hsz ok e td
            (repeat' (first | ((with_reducible first | refine hKn _ ?_ | refine hKr _ _ retNe ?_ | refine hKr _ _ contNe ?_); (try clear hKn hKr Kq); (try dsimp only)) | ((with_reducible refine v_dpop ‹_› ‹_› (by k_dflt k_updF) ‹_› ‹_› (by walk_at "un") ?_); intro _ _ _ _ _) | (k_unfold; (try dsimp only)) | (k_end; wrow_close) | walk1 | (dsimp only; walk1) | (leave1; try dsimp only) | fail "no step"))
            exact CEnd.same V₂ hown2 F₂ N₂ ⟨by rw [spotsN_succ, if_neg hcmp, List.append_nil]; exact hys, by omega⟩
        case done4 =>
          intro D4 h5' tk5' sv S7 tl7 F5' N5' V7 hS7 hD7 hmu7 hne7 hJ7
          simp only [List.cons_append] at N5'
          refine hide fun Pq9 hq9 => ?_
          obtain ⟨sps, hsps⟩ : ∃ sps, sps = spotsN tab ts ts.length b := ⟨_, rfl⟩
          have hI7 : IntsAre sv (sps.map fun n : Nat => (n : Int)) := by rw [hsps, ← hvl]; exact hJ7.1
          have hsvl : sv.length = sps.length := by have := IntsAre.length hI7; simpa using this
          have hsvn : sv.length ≤ ts.length := by rw [← hvl]; exact hJ7.2
          have hbm := (hssm b).mp (List.mem_of_getElem? hb)
          have hspne : sps ≠ [] := fun q => by
            obtain ⟨j, h1, h2⟩ := hbm
            have : j ∈ sps := by rw [hsps]; exact mem_spotsN.mpr ⟨h1, h2⟩
            rw [q] at this; exact absurd this List.not_mem_nil
          have hspl : ∀ i ∈ sps, i < ts.length := fun i hi => by rw [hsps] at hi; exact (mem_spotsN.mp hi).1
          have hneD : ∀ q ∈ (L + 1 + 1 + 1 + 1, oc) :: (dd, oD) :: (L + 1 + 1 + 1, oB) :: (L + 1 + 1, oS) :: (L + 1, o4) :: own, D4 ≠ q.1 := fun q hq => Ne.symm (hne7 _ _ (NR q (by
            have : ∀ p ∈ (L + 1 + 1 + 1 + 1, oc) :: (dd, oD) :: (L + 1 + 1 + 1, oB) :: (L + 1 + 1, oS) :: (L + 1, o4) :: own, p ∈ (L + 1 + 1 + 1 + 1, oc) :: (dd, oD) :: (L + 1 + 1 + 1, oB) :: (L + 1 + 1, oS) :: (L + 1, o4) :: (own ++ tl₁) := by walk_at "lg"
            exact this q hq)).1)
          obtain ⟨S8, tl8, V8, st8, ha8, of8, sb8⟩ := V7.adds F5' N5' (by walk_at "lg") [(D4, lstO sv sv.length)] (sub_cons (.head _) sub_nil)
          have hD48 : S8.get? D4 = some (lstO sv sv.length) := ha8 _ (.head _)
          have hmu8 : ∀ q ∈ (L + 1 + 1 + 1 + 1, oc) :: (dd, oD) :: (L + 1 + 1 + 1, oB) :: (L + 1 + 1, oS) :: (L + 1, o4) :: own, S8.get? q.1 = none := fun q hq => of8 _ (hmu7 q hq) (off_cons (hneD q hq) off_nil)
          have hl8 := st8 _ _ (hS7 _ _ hl1)
          have hN8 := TupsT.mono st8 (TupsT.mono hS7 hN1)
          have hT8 := (hT1.mono hS7).mono st8
          have hg8 := (hg.mono hS7).mono st8
          have N8 : News s.heap L h5' ((L + 1 + 1 + 1 + 1, oc) :: (dd, oD) :: (L + 1 + 1 + 1, oB) :: (L + 1 + 1, oS) :: (L + 1, o4) :: (own ++ tl8)) := News.sub N5' (by walk_at "lg")
          have s4 : S8.get? (L + 1 + 1 + 1 + 1) = none := hmu8 _ (.head _)
          have s5 : S8.get? dd = none := hmu8 _ (.tail _ (.head _))
          have s3 : S8.get? (L + 1 + 1 + 1) = none := hmu8 _ (.tail _ (.tail _ (.head _)))
          have s2 : S8.get? (L + 1 + 1) = none := hmu8 _ (.tail _ (.tail _ (.tail _ (.head _))))
          have s1 : S8.get? (L + 1) = none := hmu8 _ (.tail _ (.tail _ (.tail _ (.tail _ (.head _)))))
          clear hJ7 hneD N5' hne7 hmu7 of8 ha8 sb8 NR FR X2 T2 hcB hcb hmuR
          refine hq9 ?_; clear hq9 Pq9
          (first | ((try dsimp only); k_unmd; k_fold) | skip)
          clear s1 s2 s3 s5 s4 hsvn hD7 V7 hsm hrs kR hRr vr ur tr hown' w1 w2 w3 w5 hD21 hcS V₁ hD26 D3 hbl hbs dB bs
          (repeat' (first | ((with_reducible first | refine hKn _ ?_ | refine hKr _ _ retNe ?_ | refine hKr _ _ contNe ?_); (try clear hKn hKr Kq); (try dsimp only)) | ((with_reducible refine v_dpop ‹_› ‹_› (by k_dflt k_updF) ‹_› ‹_› (by walk_at "un") ?_); intro _ _ _ _ _) | (k_unfold; (try dsimp only)) | (k_end; wrow_close) | walk1 | (dsimp only; walk1) | (leave1; try dsimp only) | fail "no step"))
          refine useR (law_stands_spec w (ts := ts) (spots := sps) (tab := tab) ?okk (by omega) hspne hspl) V8 F5' N8 (by walk_at "lg") X T (by walk_at "dp") (by walk_at "dp") ⟨hl8, hN8, hD48, hI7, hT8⟩ ?_
          case okk =>
            intro t ht
            by_cases h0 : t.num = 0
            · exact .inl h0
            · have := ok t ht
              refine hide fun Pq9 hq9 => ?_
              cases t with
              | mk n kk => refine hq9 ?_; clear hq9 Pq9; rw [RootOk, rep_pos (show n ≠ 0 from h0)] at this; exact .inr this
          rintro r h8 tk8 F8 N8' ⟨_, ts8, rfl⟩
          generalize hst : standN tab ts sps = st
          clear F5' N8
          by_cases hb0 : b = noS
          · (first | ((try dsimp only); k_unmd; k_fold) | skip)
            clear hst hT8 hN8 hl8 hD48 hspl hspne hbm hsvl hI7 hsps sps tl7 tk5' h5' tkR hR hT1 hN1 hl1 hS1 h9 hT6 hN6 hl6 st6 S6 hssm hssn e3 hE ks tz ep es oZ hS5 S5 hmu2 hT' hN' hl' dS z5 z1 z2 z3 z4 n3 n2 n1 h4 hmu hS V' hvl ho4 hun hdp hsz2 hsz ok td
            (repeat' (first | ((with_reducible first | refine hKn _ ?_ | refine hKr _ _ retNe ?_ | refine hKr _ _ contNe ?_); (try clear hKn hKr Kq); (try dsimp only)) | ((with_reducible refine v_dpop ‹_› ‹_› (by k_dflt k_updF) ‹_› ‹_› (by walk_at "un") ?_); intro _ _ _ _ _) | (k_unfold; (try dsimp only)) | (k_end; wrow_close) | walk1 | (dsimp only; walk1) | (leave1; try dsimp only) | fail "no step"))
            rename_i D9 hZ FZ NZ lZ
            refine hide fun Pq9 hq9 => ?_
            obtain ⟨z4', z5', z3', z2', z1', zo⟩ := lZ
            have hlt9 : ∀ q ∈ (L + 1 + 1 + 1 + 1, oc) :: (dd, oD) :: (L + 1 + 1 + 1, oB) :: (L + 1 + 1, oS) :: (L + 1, o4) :: own, D9 ≠ q.1 :=
              off_cons (Nat.ne_of_gt z4') (off_cons (Nat.ne_of_gt z5') (off_cons (Nat.ne_of_gt z3') (off_cons (Nat.ne_of_gt z2') (off_cons (Nat.ne_of_gt z1') (fun q hq => allLt_ne (allLt_app zo).1 hq)))))
            obtain ⟨S9, tl9, V9, st9, ha9, of9, sb9⟩ := V8.adds FZ NZ (by walk_at "lg") [(D9, lstO [] 0)] (sub_cons (.head _) sub_nil)
            have hmu9 : ∀ q ∈ (L + 1 + 1 + 1 + 1, oc) :: (dd, oD) :: (L + 1 + 1 + 1, oB) :: (L + 1 + 1, oS) :: (L + 1, o4) :: own, S9.get? q.1 = none := fun q hq => of9 _ (hmu8 q hq) (off_cons (hlt9 q hq) off_nil)
            have N9 : News s.heap L hZ (((L + 1 + 1 + 1 + 1, oc) :: (dd, oD) :: (L + 1 + 1 + 1, oB) :: (L + 1 + 1, oS) :: (L + 1, o4) :: own) ++ tl9) := News.sub NZ (by simp only [List.cons_append]; walk_at "lg")
            have hD99 : S9.get? D9 = some (lstO [] 0) := ha9 _ (.head _)
            clear of9 ha9 sb9 hlt9 NZ
            refine hq9 ?_; clear hq9 Pq9
            refine at_list (L := L) (vs := []) (e := 0) (S := S9) (G := G) (mu := (L + 1 + 1 + 1 + 1, oc) :: (dd, oD) :: (L + 1 + 1 + 1, oB) :: (L + 1 + 1, oS) :: (L + 1, o4) :: own) (tl := tl9) rfl rfl rfl rfl V9 FZ N9 hD99 hmu9
              (fun _ m mu S' => mu = (L + 1 + 1 + 1 + 1, oc) :: (dd, oD) :: (L + 1 + 1 + 1, oB) :: (L + 1 + 1, oS) :: (L + 1, o4) :: own ∧ Same [Str.ofString "spots", Str.ofString "stand", Str.ofString "spot", Str.ofString "held", Str.ofString "here"] (fun y => if y = Str.ofString "trees" then some (Value.ref l) else none) m) ⟨rfl, by (repeat' (first | assumption | exact Same.nf | exact Same.refl | refine Same.set rfl ?_))⟩ ?turn5 ?done5
            case turn5 => intro s' _ i v m₁ m₂ mu₁ S₁ tl₁ h tk own hi; exact absurd hi (Nat.not_lt_zero _)
            case done5 =>
              intro m2 mu2 S2 tl2 h2 tk2 hJx60 V2 st2 hmu2' F2 N2
              (first | ((try dsimp only); k_unmd; k_fold) | skip)
              refine hide fun Pq9 hq9 => ?_
              obtain ⟨rfl, hm2⟩ := hJx60
              simp only [List.cons_append] at N2
              refine hq9 ?_; clear hq9 Pq9
              (first | ((try dsimp only); k_unmd; k_fold) | skip)
              clear hD99 N9 hmu9 V9 tl9 zo z1' z2' z3' z5' z4' FZ D9 ek qk h8 hmu8 V8 sv hm hi tl₁ svs S'
              (repeat' (first | ((with_reducible first | refine hKn _ ?_ | refine hKr _ _ retNe ?_ | refine hKr _ _ contNe ?_); (try clear hKn hKr Kq); (try dsimp only)) | ((with_reducible refine v_dpop ‹_› ‹_› (by k_dflt k_updF) ‹_› ‹_› (by walk_at "un") ?_); intro _ _ _ _ _) | (k_unfold; (try dsimp only)) | (k_end; wrow_close) | walk1 | (dsimp only; walk1) | (leave1; try dsimp only) | fail "no step"))
              refine TurnEnd.mk (mu' := [(L + 1 + 1 + 1 + 1, oc), (dd, oD), (L + 1 + 1 + 1, oB), (L + 1 + 1, oS), (L + 1, o4)]) V2 (fun _ _ e => st2 _ _ (st9 _ _ (st8 _ _ (hS7 _ _ e)))) (fun q hq => hmu2' q (.tail _ (.tail _ (.tail _ (.tail _ (.tail _ hq))))))
                (off_cons ⟨hmu2' _ (.head _), v4⟩ (off_cons ⟨hmu2' _ (.tail _ (.head _)), v5⟩ (off_cons ⟨hmu2' _ (.tail _ (.tail _ (.head _))), v3⟩ (off_cons ⟨hmu2' _ (.tail _ (.tail _ (.tail _ (.head _)))), v2⟩ (off_cons ⟨hmu2' _ (.tail _ (.tail _ (.tail _ (.tail _ (.head _))))), v1⟩ off_nil)))))
                F2 (by simp only [List.cons_append, List.nil_append]; exact N2) ⟨oc, _, rfl, ⟨_, hoc⟩, hcm0 oD, g, oD, rfl, hkD, ?_, hm2⟩
              rw [PO_skip (by rw [hb, hb0])]
              exact (hg8.mono st9).mono st2
          · have hbN : ∀ p ∈ sps, bA tab ts p = b := fun p hp => by rw [hsps] at hp; exact (mem_spotsN.mp hp).2
            have hstA : stA tab ts b = some st := by
              obtain ⟨j, h1, h2⟩ := hbm
              have := stA_ex (tab := tab) h1 (by rw [h2]; exact hb0)
              rw [h2, ← hsps, hst] at this; exact this
            have hsts := stA_some hstA
            (first | ((try dsimp only); k_unmd; k_fold) | skip)
            clear hN8 hl8 hspne tl7 tk5' h5' tkR hN1 hl1 hi hN6 hl6 svs hN' hl' hun hdp
            (repeat' (first | ((with_reducible first | refine hKn _ ?_ | refine hKr _ _ retNe ?_ | refine hKr _ _ contNe ?_); (try clear hKn hKr Kq); (try dsimp only)) | ((with_reducible refine v_dpop ‹_› ‹_› (by k_dflt k_updF) ‹_› ‹_› (by walk_at "un") ?_); intro _ _ _ _ _) | (k_unfold; (try dsimp only)) | (k_end; wrow_close) | walk1 | (dsimp only; walk1) | (leave1; try dsimp only) | fail "no step"))
            rename_i hY FY NY
            have N9 : News s.heap L hY (((L + 1 + 1 + 1 + 1, oc) :: (dd, oD) :: (L + 1 + 1 + 1, oB) :: (L + 1 + 1, oS) :: (L + 1, o4) :: own) ++ tl8) := News.sub NY (by simp only [List.cons_append]; walk_at "lg")
            clear NY
            refine hide fun Pq9 hq9 => ?_
            obtain ⟨mY, hmY, FY2⟩ := Fr.named FY
            refine hq9 ?_; clear hq9 Pq9
            refine at_list (L := L) (vs := sv) (e := sv.length) (S := S8) (G := G) (mu := (L + 1 + 1 + 1 + 1, oc) :: (dd, oD) :: (L + 1 + 1 + 1, oB) :: (L + 1 + 1, oS) :: (L + 1, o4) :: own) (tl := tl8) rfl rfl rfl rfl V8 FY2 N9 hD48 hmu8
              (fun j m mu S' => ∃ g oD, mu = (L + 1 + 1 + 1 + 1, oc) :: (dd, oD) :: (L + 1 + 1 + 1, oB) :: (L + 1 + 1, oS) :: (L + 1, o4) :: own ∧ oD.IsDictOf (intKind Pg w) (kvsOf g ts.length) ∧ SlotV S' g (slotP tab ts (stA tab ts) (PI tab ts ss i b j)) ts.length ∧
                Same [Str.ofString "spot", Str.ofString "held", Str.ofString "here"] mY m)
              ⟨g, oD, rfl, hkD, by rw [PI_zero]; exact hg8, Same.refl⟩ ?turn5 ?done5
            case turn5 =>
              clear N9 hkD hg hg8
              rintro s' ⟨h9, rfl⟩
              intro j v m₁ m₂ mu₁ S2 tl2 h2 tk2 own2 hj hP hJx62 V2 hS2 hown2 hmu2 hrf63 F2 N2
              (try dsimp only); k_unmd
              refine via fun T E9 hT => ?_
              obtain ⟨g, oD, rfl, hkD, hg, hm⟩ := hJx62
              subst hrf63
              obtain ⟨Sm, hSm⟩ : ∃ Sm : (Str → Option Value) → Prop, Sm = Same [Str.ofString "spot", Str.ofString "held", Str.ofString "here"] mY := ⟨_, rfl⟩
              obtain ⟨u2, rfl⟩ : ∃ u2, m₁ = fun z => if [Str.ofString "spot", Str.ofString "held", Str.ofString "here"].contains z then u2 z else mY z := ⟨m₁, hm.eq⟩
              subst hmY
              obtain ⟨p0, tp, rfl, hp0⟩ := natsAt hI7 hP
              have hp0' : (spotsN tab ts ts.length b)[j]? = some p0 := by rw [← hsps]; exact hp0
              have hp0l := hspl p0 (List.mem_of_getElem? hp0)
              have hp0b := hbN p0 (List.mem_of_getElem? hp0)
              simp only [List.cons_append, List.append_assoc] at N2
              by_cases hq : st = p0
              · have hq' : ((p0 : Nat) : Int) = ((st : Nat) : Int) := by rw [hq]
                clear hp0l hP hSm FY2 Sm hS2 hj h9 FY hY ek qk hsts tk8 h8 hT8 hmu8 hD48 st8 V8 tl8 S8 hspl hsvl hI7 hS7 S7 sv hR v4 v1 v2 v3 v5 hT1 hoc tb hS1 tl₁ hcm0 hT6 st6 S6 hssn e3 hE tz ep es oZ m2 hne5 hS5 S5 D2 hT' dS n4 n3 n2 n1 lt4 tk4 hS hvl ho4 hsz2 hsz ok td
                (repeat' (first | ((with_reducible first | refine hKn _ ?_ | refine hKr _ _ retNe ?_ | refine hKr _ _ contNe ?_); (try clear hKn hKr Kq); (try dsimp only)) | ((with_reducible refine v_dpop ‹_› ‹_› (by k_dflt k_updF) ‹_› ‹_› (by walk_at "un") ?_); intro _ _ _ _ _) | (k_unfold; (try dsimp only)) | (k_end; wrow_close) | walk1 | (dsimp only; walk1) | (leave1; try dsimp only) | fail "no step"))
                refine hT _ _ (TurnEnd.cont (TurnEnd.mk (mu' := (L + 1 + 1 + 1 + 1, oc) :: (dd, oD) :: (L + 1 + 1 + 1, oB) :: (L + 1 + 1, oS) :: (L + 1, o4) :: own) V2 (fun _ _ e => e) hown2 hmu2 (by k_asm) (by simp only [List.cons_append, List.append_assoc]; k_asm) ⟨g, oD, rfl, hkD, ?_, by (repeat' (first | assumption | exact Same.nf | exact Same.refl | refine Same.set rfl ?_))⟩))
                exact hg.congr fun k hk => slot_skip' (P := PI tab ts ss i b j) (P' := PI tab ts ss i b (j + 1)) (p0 := p0) (fun p _ => PI_step hp0' p) (.inr (by rw [hp0b, hstA, hq])) hk
              · have hq' : ((p0 : Nat) : Int) ≠ ((st : Nat) : Int) := by omega
                have P0 := PI_fresh hssn hb hp0'
                have PB : ∀ p < ts.length, bA tab ts p = bA tab ts p0 → PI tab ts ss i b j p = true → p < p0 := fun p _ h1 h2 => PI_before hssn hb hp0' h1 h2
                have hbp : bA tab ts p0 ≠ noS := by rw [hp0b]; exact hb0
                have hsq : stA tab ts (bA tab ts p0) = some st := by rw [hp0b]; exact hstA
                obtain ⟨th, j1, j2, j3, j4⟩ := slot_join (P := PI tab ts ss i b j) (P' := PI tab ts ss i b (j + 1)) (p0 := p0) (q := st) hp0l (fun p _ => PI_step hp0' p) P0 PB hbp hsq hq (hsts.2.1.trans hp0b.symm)
                obtain ⟨vh, gh1, gh2⟩ := hg.at hsts.1 j1
                obtain ⟨vn, gn1, gn2⟩ := hg.at hp0l j2
                have rq := slot_rep (ok _ (List.mem_of_getElem? (tsA_get hsts.1))) j1
                have oki := ok _ (List.mem_of_getElem? (tsA_get hp0l))
                have hnz : th.num ≠ 0 → (tsA ts p0).num ≠ 0 := fun z => stA_num hstA (rq.2.2 z) hp0l hp0b
                have okh := rq.2.1
                have close : ∀ (S' : Heap) (R : Addr) (o : Obj), S2.StaysIn S' → TupT S' (.ref R) (joinT tab th (tsA ts p0)) → o.IsDictOf (intKind Pg w) (stored (without (kvsOf g ts.length) (p0 : Int)) (st : Int) (.ref R)) →
                    ∃ g', o.IsDictOf (intKind Pg w) (kvsOf g' ts.length) ∧ SlotV S' g' (slotP tab ts (stA tab ts) (PI tab ts ss i b (j + 1))) ts.length := fun S' R o st' hR ho => by
                  refine ⟨fun k => if k = st then some (.ref R) else if k = p0 then none else g k, ?_, fun k hk => ?_⟩
                  · rw [kvsOf_without (g' := fun k => if k = p0 then none else g k) (fun _ => rfl), kvsOf_stored (g' := fun k => if k = st then some (.ref R) else if k = p0 then none else g k) hsts.1 ⟨vh, by rw [if_neg hq]; exact gh1⟩ (fun _ => rfl)] at ho
                    exact ho
                  · dsimp only
                    by_cases e1 : k = st
                    · subst e1
                      exact .inr ⟨.ref R, _, if_pos rfl, j3, hR⟩
                    · by_cases e2 : k = p0
                      · subst e2
                        exact .inl ⟨by rw [if_neg e1, if_pos rfl], j4⟩
                      · have e3 := slot_other (P := PI tab ts ss i b j) (P' := PI tab ts ss i b (j + 1)) (p0 := p0) (q := st) hp0l (fun p _ => PI_step hp0' p) P0 PB hbp hsq hq (hsts.2.1.trans hp0b.symm) hk e1 e2
                        have := (hg.mono st') k hk
                        rw [if_neg e1, if_neg e2, e3]
                        exact this
                have sq := slot_size hsts.1 j1
                have si := slot_size hp0l j2
                generalize htn : tsA ts p0 = tn at *
                clear P0 PB rq j1 j2 j3 j4
                cases gh2 with
                | @mk ah lh nh tnh eh eh' vsh ksh ha hlh hkh =>
                  cases gn2 with
                  | @mk an ln nn tnn en en' vsn ksn hna hnl hnk =>
                    have hv1 : valueAt (kvsOf g ts.length) ((st : Nat) : Int) = some (.ref ah) := (kvsOf_at hsts.1).trans gh1
                    have hv2 : valueAt (kvsOf g ts.length) ((p0 : Nat) : Int) = some (.ref an) := (kvsOf_at hp0l).trans gn1
                    have hkl := kvsOf_len g ts.length
                    have hkw : (without (kvsOf g ts.length) (p0 : Int)).length ≤ 100 := by
                      have := List.length_filter_le (fun kv : Int × Value => decide (kv.1 ≠ (p0 : Int))) (kvsOf g ts.length)
                      unfold without; omega
                    have hT2 := hT8.mono hS2
                    obtain ⟨kvT, hDT, hE⟩ := hT2.dict
                    have zh : vsh.length ≤ 300 := by have := Tr.len_le ksh; rw [Tr.size] at sq; rw [hkh.length]; omega
                    have zn : vsn.length ≤ 300 := by have := Tr.len_le ksn; rw [Tr.size] at si; rw [hnk.length]; omega
                    have r5 : S2.get? dd = none := (hmu2 _ (.tail _ (.head _))).1
                    have g5 : ∀ q ∈ own2, q.1 ≠ dd := (hmu2 _ (.tail _ (.head _))).2
                    have fin : ∀ (hN : Heap) (tkN : Nat) (mN : Str → Option Value) (R LL : Addr) (o : Obj) (ki : Int) (kk tkk : Nat) (items : List Value) (kds : List Tr) (big : Ledg), Fr s.heap L hN mN → Sm mN → News s.heap L hN big →
                        (∀ p ∈ (R, tupO [.int ki tkk, .ref LL] 0) :: (LL, lstO items 0) :: (L + 1 + 1 + 1 + 1, oc) :: (dd, o) :: (L + 1 + 1 + 1, oB) :: (L + 1 + 1, oS) :: (L + 1, o4) :: (own ++ (own2 ++ tl2)), p ∈ big) →
                        AllLt R ((L + 1 + 1 + 1 + 1, oc) :: (dd, o) :: (L + 1 + 1 + 1, oB) :: (L + 1 + 1, oS) :: (L + 1, o4) :: (own ++ (own2 ++ tl2))) → AllLt LL ((L + 1 + 1 + 1 + 1, oc) :: (dd, o) :: (L + 1 + 1 + 1, oB) :: (L + 1 + 1, oS) :: (L + 1, o4) :: (own ++ (own2 ++ tl2))) →
                        ki = (kk : Int) → TupsT S2 items kds → joinT tab (.mk nh ksh) (.mk nn ksn) = .mk kk kds → o.IsDictOf (intKind Pg w) (stored (without (kvsOf g ts.length) (p0 : Int)) (st : Int) (.ref R)) →
                        T .next { heap := hN, gens := s.gens, drawn := dr, toks := tkN, os := s.os } := by
                      intro hN tkN mN R LL o ki kk tkk items kds big FN hs9 NN hsub lR lL hki hit hjo hdo
                      subst hki
                      obtain ⟨S3, tl3, V3, st3, ha3, of3, sb3⟩ := V2.adds FN NN (fun p hp => hsub p (.tail _ (.tail _ (.tail _ (.tail _ (.tail _ (.tail _ (.tail _ (List.mem_append_right _ (List.mem_append_right _ hp)))))))))) [(R, tupO [.int (kk : Int) tkk, .ref LL] 0), (LL, lstO items 0)] (sub_cons (hsub _ (.head _)) (sub_cons (hsub _ (.tail _ (.head _))) sub_nil))
                      have hR3 : TupT S3 (.ref R) (joinT tab (.mk nh ksh) (.mk nn ksn)) := by rw [hjo]; exact .mk (ha3 _ (.head _)) (ha3 _ (.tail _ (.head _))) (TupsT.mono st3 hit)
                      obtain ⟨g', hg1, hg2⟩ := close S3 R o st3 hR3 hdo
                      have mR := allLt_mem lR
                      have mL := allLt_mem lL
                      have nn3 : ∀ p ∈ (L + 1 + 1 + 1 + 1, oc) :: (dd, o) :: (L + 1 + 1 + 1, oB) :: (L + 1 + 1, oS) :: (L + 1, o4) :: (own ++ (own2 ++ tl2)), S2.get? p.1 = none → S3.get? p.1 = none := fun p hp e0 => of3 _ e0 (off_cons (Nat.ne_of_gt (mR p hp)) (off_cons (Nat.ne_of_gt (mL p hp)) off_nil))
                      refine hT _ _ ?_
                      refine TurnEnd.mk (mu' := (L + 1 + 1 + 1 + 1, oc) :: (dd, o) :: (L + 1 + 1 + 1, oB) :: (L + 1 + 1, oS) :: (L + 1, o4) :: own) V3 st3 (fun q hq => nn3 q (.tail _ (.tail _ (.tail _ (.tail _ (.tail _ (List.mem_append_right _ (List.mem_append_left _ hq))))))) (hown2 q hq)) ?_ FN ?_ ⟨g', o, rfl, hg1, hg2, by rw [hSm] at hs9; exact hs9⟩
                      · have a0 := hmu2 _ (.head _)
                        have a1 := hmu2 _ (.tail _ (.head _))
                        have a2 := hmu2 _ (.tail _ (.tail _ (.head _)))
                        have a3 := hmu2 _ (.tail _ (.tail _ (.tail _ (.head _))))
                        have a4 := hmu2 _ (.tail _ (.tail _ (.tail _ (.tail _ (.head _)))))
                        refine off_cons ⟨nn3 (_, oc) (.head _) a0.1, a0.2⟩ (off_cons ⟨nn3 (_, o) (.tail _ (.head _)) a1.1, a1.2⟩ (off_cons ⟨nn3 (_, oB) (.tail _ (.tail _ (.head _))) a2.1, a2.2⟩ (off_cons ⟨nn3 (_, oS) (.tail _ (.tail _ (.tail _ (.head _)))) a3.1, a3.2⟩ (off_cons ⟨nn3 (_, o4) (.tail _ (.tail _ (.tail _ (.tail _ (.head _))))) a4.1, a4.2⟩ fun p hp => ?_))))
                        have a5 := hmu2 p (.tail _ (.tail _ (.tail _ (.tail _ (.tail _ hp)))))
                        exact ⟨nn3 p (.tail _ (.tail _ (.tail _ (.tail _ (.tail _ (List.mem_append_left _ hp)))))) a5.1, a5.2⟩
                      · refine News.sub NN (sub_app (fun p hp => hsub p (.tail _ (.tail _ ?_))) (sub_app (fun p hp => hsub p (.tail _ (.tail _ (.tail _ (.tail _ (.tail _ (.tail _ (.tail _ (List.mem_append_right _ (List.mem_append_left _ hp)))))))))) sb3))
                        have : ∀ p ∈ (L + 1 + 1 + 1 + 1, oc) :: (dd, o) :: (L + 1 + 1 + 1, oB) :: (L + 1 + 1, oS) :: (L + 1, o4) :: own, p ∈ (L + 1 + 1 + 1 + 1, oc) :: (dd, o) :: (L + 1 + 1 + 1, oB) :: (L + 1 + 1, oS) :: (L + 1, o4) :: (own ++ (own2 ++ tl2)) :=
                          sub_cons (.head _) (sub_cons (.tail _ (.head _)) (sub_cons (.tail _ (.tail _ (.head _))) (sub_cons (.tail _ (.tail _ (.tail _ (.head _)))) (sub_cons (.tail _ (.tail _ (.tail _ (.tail _ (.head _))))) (sub_t (sub_t (sub_t (sub_t (sub_t (sub_l sub_refl))))))))))
                        exact this p hp
                    have hTn : TupT S2 (.ref an) (.mk nn ksn) := .mk hna hnl hnk
                    have hTh : TupT S2 (.ref ah) (.mk nh ksh) := .mk ha hlh hkh
                    repeat' (first | ((fail_if_success (with_reducible show wpAny _ _ (execs (PySem.Stmt.If (PySem.Expr.Compare (PySem.Expr.Subscript _ _ _) _ _ _) _ _ _ :: _) _) _ _ _)); first | ((with_reducible refine v_dpop ‹_› ‹_› (by k_dflt k_updF) ‹_› ‹_› (by walk_at "un") ?_); intro _ _ _ _ _) | (k_unfold; (try dsimp only)) | (k_end; wrow_close) | walk1 | (dsimp only; walk1) | (leave1; try dsimp only)) | fail "no step")
                    refine hide fun Pq9 hq9 => ?_
                    by_cases h0 : nh = 0
                    · have h0' : ((nh : Nat) : Int) = 0 := by omega
                      by_cases h1 : nn = 0
                      · have h1' : ((nn : Nat) : Int) = 0 := by omega
                        refine hq9 ?_; clear hq9 Pq9
                        clear hTh hTn hE hDT kvT hT2 hnz oki htn okh hsq hbp hq' hq hp0b hp0' hP FY2 hg hS2 hj h9 FY hY ek qk hbN tk8 h8 hT8 hmu8 hD48 st8 V8 tl8 S8 hsvl hI7 hS7 S7 sv hR v4 v1 v2 v3 hT1 hoc tb hS1 tl₁ hcm0 hT6 st6 S6 hssn e3 tz ep es m2 hne5 hS5 S5 D2 hT' tk4 hS hvl ho4 ok e td
                        (repeat' (first | ((with_reducible first | refine hKn _ ?_ | refine hKr _ _ retNe ?_ | refine hKr _ _ contNe ?_); (try clear hKn hKr Kq); (try dsimp only)) | ((with_reducible refine v_dpop ‹_› ‹_› (by k_dflt k_updF) ‹_› ‹_› (by walk_at "un") ?_); intro _ _ _ _ _) | (k_unfold; (try dsimp only)) | (k_end; wrow_close) | walk1 | (dsimp only; walk1) | (leave1; try dsimp only) | fail "no step"))
                        rename_i LL _ _ _ lL R _ _ _ lR hZ oZ FZ NZ hdo
                        exact fin hZ _ _ R LL oZ 0 0 _ (vsh ++ vsn) (ksh ++ ksn) _ FZ (by rw [hSm]; (repeat' (first | assumption | exact Same.nf | exact Same.refl | refine Same.set rfl ?_))) NZ (sub_cons (.head _) (sub_cons (.tail _ (.head _)) (sub_t (sub_t (sub_t sub_refl))))) lR.2.2 lL.2 rfl (hkh.append hnk) (by unfold joinT; rw [if_pos (show (Tr.mk nh ksh).num = 0 from h0), if_pos (show (Tr.mk nn ksn).num = 0 from h1)]; rfl) hdo
                      · have h1' : ((nn : Nat) : Int) ≠ 0 := by omega
                        refine hq9 ?_; clear hq9 Pq9
                        clear hTh zn hE hDT kvT hT2 hnz si oki htn okh hsq hbp hq' hq hp0b hp0' hP FY2 hg hS2 hj h9 FY hY ek qk hbN tk8 h8 hT8 hmu8 hD48 st8 V8 tl8 S8 hsvl hI7 hS7 S7 sv hR v4 v1 v2 v3 hT1 hoc tb hS1 tl₁ hcm0 hT6 st6 S6 hssn e3 tz ep es m2 hne5 hS5 S5 D2 hT' tk4 hS hvl ho4 ok e td
                        (repeat' (first | ((with_reducible first | refine hKn _ ?_ | refine hKr _ _ retNe ?_ | refine hKr _ _ contNe ?_); (try clear hKn hKr Kq); (try dsimp only)) | ((with_reducible refine v_dpop ‹_› ‹_› (by k_dflt k_updF) ‹_› ‹_› (by walk_at "un") ?_); intro _ _ _ _ _) | (k_unfold; (try dsimp only)) | (k_end; wrow_close) | walk1 | (dsimp only; walk1) | (leave1; try dsimp only) | fail "no step"))
                        rename_i LL _ _ _ lL R _ _ _ lR hZ oZ FZ NZ hdo
                        exact fin hZ _ _ R LL oZ 0 0 _ (vsh ++ [.ref an]) (ksh ++ [.mk nn ksn]) _ FZ (by rw [hSm]; (repeat' (first | assumption | exact Same.nf | exact Same.refl | refine Same.set rfl ?_))) NZ (sub_cons (.head _) (sub_cons (.tail _ (.head _)) (sub_t (sub_t (sub_t (sub_t sub_refl)))))) lR.2.2.2 lL.2.2 rfl (hkh.snoc hTn) (by unfold joinT; rw [if_pos (show (Tr.mk nh ksh).num = 0 from h0), if_neg (show (Tr.mk nn ksn).num ≠ 0 from h1)]; rfl) hdo
                    · have h0' : ((nh : Nat) : Int) ≠ 0 := by omega
                      have h1 : nn ≠ 0 := hnz h0
                      have wn : wtab tab nn := by have := oki; rwa [RootOk, rep_pos h1] at this
                      have wh : wtab tab nh := by have := okh; rwa [RootOk, rep_pos h0] at this
                      refine ex10 (hE nn wn) fun a1 l1 t01 t11 tz1 tb1 e1' x01 x11 z1' hx9 => ?_
                      refine ands2 hx9 fun hvN haN => ?_
                      clear hx9
                      refine ex10 (hE nh wh) fun a2 l2 t02 t12 tz2 tb2 e2' x02 x12 z2' hx9 => ?_
                      refine ands2 hx9 fun hvH haH => ?_
                      clear hx9
                      have n0 : (Tr.mk nh ksh).num ≠ 0 := h0
                      cases hbn : (entry tab nn).2 with
                      | false =>
                        rw [hbn] at haN
                        refine hq9 ?_; clear hq9 Pq9
                        clear haH hvH z2' x12 x02 e2' tb2 tz2 t12 t02 l2 a2 wh wn h1 zn zh hE hT2 hnz si oki htn sq okh hsq hbp hq' hq hp0b hp0' hP FY2 hg hS2 hj h9 FY hY ek qk hbN tk8 h8 hT8 hmu8 hD48 st8 V8 tl8 S8 hsvl hI7 hS7 S7 sv hR v4 v1 v2 v3 hT1 hoc tb hS1 tl₁ hcm0 hT6 st6 S6 hssn e3 tz ep es m2 hne5 hS5 S5 D2 hT' tk4 hS hvl hsz ok e
                        (repeat' (first | ((with_reducible first | refine hKn _ ?_ | refine hKr _ _ retNe ?_ | refine hKr _ _ contNe ?_); (try clear hKn hKr Kq); (try dsimp only)) | ((with_reducible refine v_dpop ‹_› ‹_› (by k_dflt k_updF) ‹_› ‹_› (by walk_at "un") ?_); intro _ _ _ _ _) | (k_unfold; (try dsimp only)) | (k_end; wrow_close) | walk1 | (dsimp only; walk1) | (leave1; try dsimp only) | fail "no step"))
                        rename_i LL _ _ _ lL R _ _ _ lR hZ oZ FZ NZ hdo
                        exact fin hZ _ _ R LL oZ 0 0 _ [.ref ah, .ref an] [.mk nh ksh, .mk nn ksn] _ FZ (by rw [hSm]; (repeat' (first | assumption | exact Same.nf | exact Same.refl | refine Same.set rfl ?_))) NZ (sub_cons (.head _) (sub_cons (.tail _ (.head _)) (sub_t (sub_t (sub_t sub_refl))))) lR.2.2 lL.2 rfl (.cons hTh (.cons hTn .nil)) (by unfold joinT; rw [if_neg n0, if_neg (fun q => by have := q.1; rw [show (Tr.mk nn ksn).num = nn from rfl, hbn] at this; cases this)]) hdo
                      | true =>
                        rw [hbn] at haN
                        cases hbh : (entry tab nh).2 with
                        | true =>
                          rw [hbh] at haH
                          refine hq9 ?_; clear hq9 Pq9
                          clear hbn wh wn h1 zn zh hE hT2 hnz si oki htn sq okh hsq hbp hq' hq hp0b hp0' hP FY2 hg hS2 hj h9 FY hY ek qk hbN tk8 h8 hT8 hmu8 hD48 st8 V8 tl8 S8 hsvl hI7 hS7 S7 sv hR v4 v1 v2 v3 hT1 hoc tb hS1 tl₁ hcm0 hT6 st6 S6 hssn e3 tz ep es m2 hne5 hS5 S5 D2 hT' tk4 hS hvl hsz ok e
                          (repeat' (first | ((with_reducible first | refine hKn _ ?_ | refine hKr _ _ retNe ?_ | refine hKr _ _ contNe ?_); (try clear hKn hKr Kq); (try dsimp only)) | ((with_reducible refine v_dpop ‹_› ‹_› (by k_dflt k_updF) ‹_› ‹_› (by walk_at "un") ?_); intro _ _ _ _ _) | (k_unfold; (try dsimp only)) | (k_end; wrow_close) | walk1 | (dsimp only; walk1) | (leave1; try dsimp only) | fail "no step"))
                          rename_i LL _ _ _ lL R _ _ _ lR hZ oZ FZ NZ hdo
                          exact fin hZ _ _ R LL oZ 0 0 _ [.ref ah, .ref an] [.mk nh ksh, .mk nn ksn] _ FZ (by rw [hSm]; (repeat' (first | assumption | exact Same.nf | exact Same.refl | refine Same.set rfl ?_))) NZ (sub_cons (.head _) (sub_cons (.tail _ (.head _)) (sub_t (sub_t (sub_t sub_refl))))) lR.2.2 lL.2 rfl (.cons hTh (.cons hTn .nil)) (by unfold joinT; rw [if_neg n0, if_neg (fun q => by have := q.2; rw [show (Tr.mk nh ksh).num = nh from rfl, hbh] at this; cases this)]) hdo
                        | false =>
                          rw [hbh] at haH
                          refine hq9 ?_; clear hq9 Pq9
                          clear wh wn h1 hTh zn hE hT2 hnz si oki htn okh hsq hbp hq' hq hp0b hp0' hP FY2 hg hS2 hj h9 FY hY ek qk hbN tk8 h8 hT8 hmu8 hD48 st8 V8 tl8 S8 hsvl hI7 hS7 S7 sv hR v4 v1 v2 v3 hT1 hoc tb hS1 tl₁ hcm0 hT6 st6 S6 hssn e3 tz ep es m2 hne5 hS5 S5 D2 hT' tk4 hS hvl ok e
                          (repeat' (first | ((with_reducible first | refine hKn _ ?_ | refine hKr _ _ retNe ?_ | refine hKr _ _ contNe ?_); (try clear hKn hKr Kq); (try dsimp only)) | ((with_reducible refine v_dpop ‹_› ‹_› (by k_dflt k_updF) ‹_› ‹_› (by walk_at "un") ?_); intro _ _ _ _ _) | (k_unfold; (try dsimp only)) | (k_end; wrow_close) | walk1 | (dsimp only; walk1) | (leave1; try dsimp only) | fail "no step"))
                          rename_i LL _ _ _ lL R _ _ _ lR hZ oZ FZ NZ hdo
                          exact fin hZ _ _ R LL oZ (nh : Int) nh _ (vsh ++ [.ref an]) (ksh ++ [.mk nn ksn]) _ FZ (by rw [hSm]; (repeat' (first | assumption | exact Same.nf | exact Same.refl | refine Same.set rfl ?_))) NZ (sub_cons (.head _) (sub_cons (.tail _ (.head _)) (sub_t (sub_t (sub_t (sub_t sub_refl)))))) lR.2.2.2 lL.2.2 rfl (hkh.snoc hTn) (by unfold joinT; rw [if_neg n0, if_pos ⟨hbn, hbh⟩]; rfl) hdo
            case done5 =>
              intro m2 mu2 S2 tl2 h2 tk2 hJx64 V2 hS2 hmu2 F2 N2
              (first | ((try dsimp only); k_unmd; k_fold) | skip)
              refine hide fun Pq9 hq9 => ?_
              obtain ⟨g, oD, rfl, hkD, hg, hm⟩ := hJx64
              simp only [List.cons_append] at N2
              rw [hsvl, hsps] at hg
              refine hq9 ?_; clear hq9 Pq9
              (first | ((try dsimp only); k_unmd; k_fold) | skip)
              clear FY2 N9 FY ek qk hsts hstA hbN hst h8 hg8 hT8 hmu8 hD48 V8 tl8 hspl hbm hsvl hI7 hsps sps sv hR hT1 hS1 tl₁ h9 hT6 st6 S6 hssm hssn e3 hE ks tz ep es oZ hS5 S5 hT' dS n3 n2 n1 hS hvl ho4 hsz2 hsz ok td
              (repeat' (first | ((with_reducible first | refine hKn _ ?_ | refine hKr _ _ retNe ?_ | refine hKr _ _ contNe ?_); (try clear hKn hKr Kq); (try dsimp only)) | ((with_reducible refine v_dpop ‹_› ‹_› (by k_dflt k_updF) ‹_› ‹_› (by walk_at "un") ?_); intro _ _ _ _ _) | (k_unfold; (try dsimp only)) | (k_end; wrow_close) | walk1 | (dsimp only; walk1) | (leave1; try dsimp only) | fail "no step"))
              refine TurnEnd.mk (mu' := [(L + 1 + 1 + 1 + 1, oc), (dd, oD), (L + 1 + 1 + 1, oB), (L + 1 + 1, oS), (L + 1, o4)]) V2 (fun _ _ e => hS2 _ _ (st8 _ _ (hS7 _ _ e))) (fun q hq => hmu2 q (.tail _ (.tail _ (.tail _ (.tail _ (.tail _ hq))))))
                (off_cons ⟨hmu2 _ (.head _), v4⟩ (off_cons ⟨hmu2 _ (.tail _ (.head _)), v5⟩ (off_cons ⟨hmu2 _ (.tail _ (.tail _ (.head _))), v3⟩ (off_cons ⟨hmu2 _ (.tail _ (.tail _ (.tail _ (.head _)))), v2⟩ (off_cons ⟨hmu2 _ (.tail _ (.tail _ (.tail _ (.tail _ (.head _))))), v1⟩ off_nil)))))
                F2 (by simp only [List.cons_append, List.nil_append]; exact N2) ⟨oc, _, rfl, ⟨_, hoc⟩, hcm0 oD, g, oD, rfl, hkD, hg.congr (fun k hk => slotP_congr (fun p hp => (PI_all hb hb0 hp).symm) hk), ?_⟩
              rw [hm.eq, hmY]
              exact Same.step rfl (by (repeat' (first | assumption | exact Same.nf | exact Same.refl | refine Same.set rfl ?_)))
      case done3 =>
        intro m₁ mu₁ S₁ tl₁ h tk oc hJx65 V₁ hS1 hcS hmu1 F₁ N₁
        (first | ((try dsimp only); k_unmd; k_fold) | skip)
        refine hide fun Pq9 hq9 => ?_
        obtain ⟨g, oD, rfl, hkD, hg, hm⟩ := hJx65
        obtain ⟨u, rfl⟩ : ∃ u, m₁ = fun z => if [Str.ofString "spots", Str.ofString "stand", Str.ofString "spot", Str.ofString "held", Str.ofString "here"].contains z then u z else mB z := ⟨m₁, hm.eq⟩
        subst hmB
        simp only [List.cons_append, List.nil_append] at N₁
        refine hq9 ?_; clear hq9 Pq9
        (first | ((try dsimp only); k_unmd; k_fold) | skip)
        clear hm FB hmu1 hcS hS1 hcm0 hg0 N6 x5 x4 x3 x2 x1 q5 q4 q3 q2 q1 hD36 hD26 hT6 hN6 hl6 st6 V6 tl6 S6 hssn FE e3 D3 tz ep es oZ ek qk hSA hbl hbs dB hB m1 m2 m3 m4 m5 y1 y2 y3 y4 y5 hJ5 hne5 hmu5 hS5 V5 tl5 S5 bs tk5 D2 hmu2 hT' hN' hl' z5 z1 z2 z3 z4 n4 n3 n2 n1 lt4 l4 tk4 h4 hS hvl ho4 ho1 hT hN hl hun hdp hne0 hsz ok td
        (repeat' (first | ((with_reducible first | refine hKn _ ?_ | refine hKr _ _ retNe ?_ | refine hKr _ _ contNe ?_); (try clear hKn hKr Kq); (try dsimp only)) | ((with_reducible refine v_dpop ‹_› ‹_› (by k_dflt k_updF) ‹_› ‹_› (by walk_at "un") ?_); intro _ _ _ _ _) | (k_unfold; (try dsimp only)) | (k_end; wrow_close) | walk1 | (dsimp only; walk1) | (leave1; try dsimp only) | fail "no step"))
        have hkl := kvsOf_len g ts.length
        refine v_sorted_dict rfl F₁ N₁ (kda_dict N₁ (.tail _ (.head _)) hkD) lo (by omega) ?_
        intro D9 h9 tk9 vs9 ns9 e9 F9 N9 l9 hI9 hp9 ho9
        have hns9 : ns9 = ((List.range ts.length).filter fun k => (g k).isSome).map fun n : Nat => (n : Int) := by
          rw [kvsOf_keys] at hp9
          refine List.Perm.eq_of_pairwise (le := (· ≤ ·)) (fun a b _ _ h1 h2 => Int.le_antisymm h1 h2) ho9 ?_ hp9
          rw [List.pairwise_map]
          refine List.Pairwise.imp (R := (· < ·)) (fun {a b} (hab : a < b) => ?_) (List.pairwise_lt_range.filter _)
          omega
        subst hns9
        refine hide fun Pq9 hq9 => ?_
        obtain ⟨kl, hkl2⟩ : ∃ kl, kl = (List.range ts.length).filter fun k => (g k).isSome := ⟨_, rfl⟩
        rw [← hkl2] at hI9
        have hvl9 : vs9.length = kl.length := by have := IntsAre.length hI9; simpa using this
        have hkl3 : kl.length ≤ 60 := by
          have := List.length_filter_le (fun k => (g k).isSome) (List.range ts.length)
          rw [← hkl2, List.length_range] at this; omega
        obtain ⟨SA, tlA, VA, stA', haA, ofA, sbA⟩ := V₁.adds F9 N9 (by walk_at "lg") [(D9, lstO vs9 e9), (dd, oD)] (sub_cons (.head _) (sub_cons (.tail _ (.tail _ (.head _))) sub_nil))
        have hDA : SA.DictOf (intKind Pg w) dd (kvsOf g ts.length) := Heap.dictOf_iff.mpr ⟨oD, haA _ (.tail _ (.head _)), hkD⟩
        have hD9A : SA.get? D9 = some (lstO vs9 e9) := haA _ (.head _)
        have hgA := hg.mono stA'
        have NA9 : News s.heap L h9 ([] ++ tlA) := News.sub N9 (by walk_at "lg")
        have hcS9 : h9.get? (L + 1 + 1) = some oS := (N9 (L + 1 + 1, oS) (.tail _ (.tail _ (.tail _ (.tail _ (.head _)))))).1
        have X3 := X.keeps F9.keep
        have T3 := T.keeps F9.keep
        clear N9 haA ofA
        refine hq9 ?_; clear hq9 Pq9
        refine at_comp_list (L := L) (S := SA) (G := G) (vs := vs9) (e := e9) (mu := []) (tl := tlA) rfl (by decide) rfl rfl VA F9 NA9 off_nil hD9A (by rw [sizeLine_eq]; omega)
          (fun i ys S' => ys = (kl.take i).map (fun k => (g k).getD .none) ∧ ys.length ≤ i) ⟨rfl, Nat.le_refl _⟩ (fun i ys S' hj => hj.2) ?turn6 ?done6
        case turn6 =>
          rintro s' ⟨h8, rfl⟩
          intro i v ys S₂ tl₂ h tk C own2 m₀ hi hP hJx67 V₂ hS2 hown2 F₂ N₂
          refine hide fun Pq9 hq9 => ?_
          obtain ⟨hys, hyl⟩ := hJx67
          obtain ⟨k, tk', rfl, hk⟩ := natsAt hI9 hP
          have hkm := List.mem_of_getElem? hk
          rw [hkl2, List.mem_filter, List.mem_range] at hkm
          obtain ⟨v, hv⟩ := Option.isSome_iff_exists.mp hkm.2
          have hva : valueAt (kvsOf g ts.length) ((k : Nat) : Int) = some v := (kvsOf_at hkm.1).trans hv
          have hD2 : S₂.DictOf (intKind Pg w) dd (kvsOf g ts.length) := Heap.DictOf.keep hDA hS2
          refine hq9 ?_; clear hq9 Pq9
          refine tested_nil ?_
          (first | ((try dsimp only); k_unmd; k_fold) | skip)
          clear hP hi h8 T3 X3 NA9 hgA hD9A sbA stA' VA tlA hkl3 hvl9 hkl2 hI9 ho9 hp9 l9 F9 hkl F₁ u hg N₁ V₁ S₁ hssm hsv ss svs tkE hE ks tkC hC lo hdL hLL hsz4 hbig hmu hD V' tl' S' h' hne h2 it ee o3 o2 o1 h₁ hQ G hsz2 tab e
          (repeat' (first | ((with_reducible first | refine hKn _ ?_ | refine hKr _ _ retNe ?_ | refine hKr _ _ contNe ?_); (try clear hKn hKr Kq); (try dsimp only)) | ((with_reducible refine v_dpop ‹_› ‹_› (by k_dflt k_updF) ‹_› ‹_› (by walk_at "un") ?_); intro _ _ _ _ _) | (k_unfold; (try dsimp only)) | (k_end; wrow_close) | walk1 | (dsimp only; walk1) | (leave1; try dsimp only) | fail "no step"))
          exact CEnd.same V₂ hown2 F₂ N₂ ⟨by rw [take_snoc hk, List.map_append, ← hys, List.map_singleton, hv]; rfl, by rw [List.length_append, List.length_singleton]; omega⟩
        case done6 =>
          intro D h' tk ys S' tl' F' N' V' hS' hD hmu hne hJ
          simp only [List.nil_append] at N'
          have hys : ys = (List.range ts.length).filterMap g := by
            rw [hJ.1, hvl9, List.take_length, hkl2]
            induction (List.range ts.length) with
            | nil => rfl
            | cons a r ih => cases hga : g a <;> simp [List.filter_cons, hga, ih]
          (first | ((try dsimp only); k_unmd; k_fold) | skip)
          clear hne hmu hD T3 X3 hcS9 NA9 hD9A hDA sbA VA tlA hkl3 ho9 hp9 l9 F9 e9 D9 hkl F₁ hkD N₁ oD V₁ oc tl₁ tkE hE tkC hC oB dS oS lo hdL hLL hsz4 dd hbig h2 h₁ hsz2 e
          (repeat' (first | ((with_reducible first | refine hKn _ ?_ | refine hKr _ _ retNe ?_ | refine hKr _ _ contNe ?_); (try clear hKn hKr Kq); (try dsimp only)) | ((with_reducible refine v_dpop ‹_› ‹_› (by k_dflt k_updF) ‹_› ‹_› (by walk_at "un") ?_); intro _ _ _ _ _) | (k_unfold; (try dsimp only)) | (k_end; wrow_close) | walk1 | (dsimp only; walk1) | (leave1; try dsimp only) | fail "no step"))
          refine hide fun Pq9 hq9 => ?_
          obtain ⟨SF, tlF, VF, stF, haF, _, sbF⟩ := V'.adds F' N' (by walk_at "lg") [(D, lstO ys ys.length)] (sub_cons (.head _) sub_nil)
          have hTF : TupsT SF ys ((List.range ts.length).filterMap (slotP tab ts (stA tab ts) fun _ => true)) := by
            rw [hys]
            refine SlotV.list (((hgA.mono hS').mono stF).congr fun k hk => slotP_noS (fun p hp hbp => ?_) hk)
            have e1 : bA tab ts p ∈ ss.take svs.length := by rw [hsv.length, List.take_length]; exact (hssm _).mpr ⟨p, hp, rfl⟩
            simp [PO, hbp, e1]
          refine hq9 ?_; clear hq9 Pq9
          exact hQ _ _ _ _ SF F'.keep VF.grow (VF.up F' N' sbF) ⟨D, ys, _, rfl, haF _ (.head _), hTF⟩
end

section
/-- a root made anew: its dict stands apart -/
theorem law_node_root (w : World) {n : Nat} {t : Tr} (ht : t.ht ≤ n) (hsz : t.size ≤ 1000) (v : Value) (GA : Heap) : HSpec w 121 (3 * n + 3) [v] (fun G => G = GA ∧ TupT G v t)
    (fun G' r => ∃ (G0 : Heap) (rt : Rt), GA.StaysIn G0 ∧ G0.StaysIn G' ∧ rt.tree = t ∧ r = .ref rt.x ∧ rt.Ok G0 ∧ G0.get? rt.d = none ∧ G'.get? rt.d = some rt.obj) := by
  rintro p loose mg mb dp un fr gd s Q E G hdp hun X T hG ⟨rfl, hN⟩ hQ
  cases hN with
  | @mk a l num tn e e' vs ks ga gl gk =>
    have hks : Tr.sizes ks < 1000 := by rw [Tr.size] at hsz; omega
    have hn1 : 1 ≤ n := by rw [Tr.ht] at ht; omega
    refine enter (binds := [(Str.ofString "tree", .ref a)]) ‹_› ‹_› (by k_is) (by k_is) (by show _ < 1000; walk_at "dp") (by exact BindsTo.of_eq rfl) (by exact locs rfl) ?_ (by exact rfl) (by exact rfl) (by exact rfl) (by decide)
    intro L h₁ F N
    have V := View.start (L := L) hG F.above
    (first | ((try dsimp only); k_unmd; k_fold) | skip)
    (repeat' (first | ((with_reducible first | refine hKn _ ?_ | refine hKr _ _ retNe ?_ | refine hKr _ _ contNe ?_); (try clear hKn hKr Kq); (try dsimp only)) | (k_unfold; (try dsimp only)) | (k_end; wrow_close) | walk1 | (dsimp only; walk1) | (leave1; try dsimp only) | fail "no step"))
    have X1 := X.keeps F.keep
    have T1 := T.keeps F.keep
    refine at_comp_list (L := L) (S := G) (G := G) (vs := vs) (e := e') (mu := []) (tl := []) rfl (by decide) rfl rfl V F N off_nil gl (by rw [gk.length, sizeLine_eq]; have := Tr.len_le ks; omega)
      (fun i ys S' => TupsT S' vs ks ∧ NodesT S' ys (ks.take i)) ⟨gk, .nil⟩ (fun i ys S' hj => by rw [hj.2.length]; exact List.length_take_le _ _) ?turn ?done
    case turn =>
      rintro s' ⟨h9, rfl⟩
      intro i v ys S₁ tl₁ h tk C own m₀ hi hP hJx77 V₁ hS hown F₁ N₁
      obtain ⟨hT₁, hJ⟩ := hJx77
      obtain ⟨t, ht', hv⟩ := hT₁.get hP
      have hm := List.mem_of_getElem? ht'
      have ihv := law_node_spec w (n - 1) t (Nat.le_trans (Tr.ht_le hm) (by rw [Tr.ht] at ht; omega)) (by have := Tr.size_le hm; omega) v
      refine tested_nil ?_
      (first | ((try dsimp only); k_unmd; k_fold) | skip)
      (repeat' (first | ((with_reducible first | refine hKn _ ?_ | refine hKr _ _ retNe ?_ | refine hKr _ _ contNe ?_); (try clear hKn hKr Kq); (try dsimp only)) | (k_unfold; (try dsimp only)) | (k_end; wrow_close) | walk1 | (dsimp only; walk1) | (leave1; try dsimp only) | fail "no step"))
      refine useS ihv V₁ F₁ N₁ (by walk_at "lg") X1 T1 (by walk_at "dp") (by walk_at "dp") hv ?_
      intro r h' tk' S' tl' F' N' V' hS' hold hr
      exact CEnd.mk V' hS' (fun q hq => hold _ _ (hown q hq) (N₁ q (List.mem_append_left _ hq)).1) F' (N' own fun p hp => List.mem_append_left _ hp) ⟨TupsT.mono hS' hT₁, by rw [take_snoc ht']; exact (NodesT.mono hS' hJ).snoc hr⟩
    case done =>
      intro D h tk ys S' tl' F' N' V' hS hD hmu hne hJ
      simp only [List.nil_append] at N'
      (first | ((try dsimp only); k_unmd; k_fold) | skip)
      (repeat' (first | ((with_reducible first | refine hKn _ ?_ | refine hKr _ _ retNe ?_ | refine hKr _ _ contNe ?_); (try clear hKn hKr Kq); (try dsimp only)) | (k_unfold; (try dsimp only)) | (k_end; wrow_close) | walk1 | (dsimp only; walk1) | (leave1; try dsimp only) | fail "no step"))
      rename_i x d h' tk' a1 b1 a2 b2 F2 N2 l1 l2
      have hdD : S'.get? d = none := V'.notNew N2 (.tail _ (.head _)) fun q hq => by
        have := l1
        exact allLt_mem (l := tl') (by first | exact this.2 | exact allLt_of fun q hq => this q (.tail _ hq)) q hq
      obtain ⟨S2, tl2, V2, hS2, ha, of2, hs2⟩ := V'.adds F2 N2 (by walk_at "lg") [(x, instObj 36 d), (D, lstO ys ys.length)] (sub_cons (.head _) (sub_cons (.tail _ (.tail _ (.head _))) sub_nil))
      have hdx : @Ne Nat x d := Nat.ne_of_gt (by first | exact l2 | exact l2.1)
      have hDd : @Ne Nat D d := Nat.ne_of_lt (by have := l1; first | exact this.1 | exact this _ (.head _))
      have hd2 : S2.get? d = none := of2 _ hdD (off_cons hdx (off_cons hDd off_nil))
      obtain ⟨S3, tl3, V3, hS3, ha3, of3, hs3⟩ := V2.adds F2 N2 hs2 [(d, dictOf [⟨a1, .str (Str.ofString "number") b1, .int (num : Int) tn⟩, ⟨a2, .str (Str.ofString "kids") b2, .ref D⟩] 2)] (sub_cons (.tail _ (.head _)) sub_nil)
      have hkk : NodesT S2 ys ks := NodesT.mono hS2 (by have := hJ.2; rwa [List.take_of_length_le (by rw [gk.length]; exact Nat.le_refl _)] at this)
      exact hQ _ _ _ S3 F2.keep V3.grow (V3.up F2 N2 hs3) ⟨S2, ⟨x, d, D, num, tn, b1, b2, ys.length, a1, a2, ys, ks⟩, V2.stays, hS3, rfl, rfl, ⟨ha _ (.head _), ha _ (.tail _ (.head _)), hkk⟩, hd2, ha3 _ (.head _)⟩
end

section
local macro_rules | `(tactic| walk_at "getMethod ref") => `(tactic| ((with_reducible show wpAny _ _ (getMethod _ (PySem.Str.ofString "count") _) _ _ _); k_dflt (refine v_getcount (by walk_at "rl") ?_)))

theorem sub_fn {K : Frag} {f : Addr} {name qual name' qual' : Str} {params params' : Arguments} {body body' : List Stmt} {scope scope' : Scope} {dV kV doc pm cdv ct oc dV' kV' doc' pm' cdv' ct' oc' : Value} {an od an' od' : Option Addr} {osl osl' : Array (Option Value)}
    {P : Str → List Stmt → Scope → Prop} (e0 : K.lookup f = some ⟨oc, od, .func (fnOf name qual params body scope dV kV doc pm an cdv ct), osl⟩)
    (e1 : K.lookup f = some ⟨oc', od', .func (fnOf name' qual' params' body' scope' dV' kV' doc' pm' an' cdv' ct'), osl'⟩) (h : P qual' body' scope') : P qual body scope := by
  rw [e0] at e1
  have := Option.some.inj e1
  simp only [fnOf, Obj.mk.injEq, Data.func.injEq, FuncData.mk.injEq] at this
  obtain ⟨_, _, h3, _⟩ := this
  simp_all

theorem v_unpack_lc {prog : Program} {w : World} {A : Around} {E : Value → Shared → Prop} {s : Shared} {env : Env} {a b : Str} {pa pb tp : Pos} {kk : Nat} {T c : Addr} {x y : Value} {h₀ : Heap} {L : Addr} {m : Str → Option Value} {news : Ledg} {g : Obj → Ledg} {o : Obj} {xv : Option Value} {e : Nat} {Q : Unit → Shared → Prop} (hh : A.handled = none) (hLe : env.locals = L)
    (ht : s.heap.get? T = some (tupO [x, y] e)) (ha : env.kindOf a = some .local) (hk : env.scope.kind = .function) (hb : env.kindOf b = some .cell) (hc : env.cells.lookup b = some c) (hp : (env.scope.kind == .class || (env.scope.kind == .module && env.locals != env.globals)) = false)
    (F : Fr h₀ L s.heap m) (N : News h₀ L s.heap news) (U : UpdF c o news g) (hd : o.data = .cell xv)
    (h : ∀ h' tk o', Fr h₀ L h' (fun z => if z = a then some x else m z) → News h₀ L h' (g o') → o'.data = .cell (some y) → Q () { s with heap := h', toks := tk }) :
    wpAny (model prog w) A (assign (.Tuple [.Name a pa, .Name b pb] kk tp) env (.ref T)) Q E s := by
  subst hLe
  have ht' : s.heap.IsTuple T #[x, y] := ⟨_, ht, rfl, _, rfl⟩
  refine wpAny_assign_Tuple hh ht' rfl rfl fun h₁ he₁ => ?_
  have up₁ : ∀ b o, s.heap.get? b = some o → h₁.get? b = some o := fun b o e => he₁ b o (Nat.ne_of_lt (Heap.lt_size e)) e
  have F₁ := F.keeps up₁
  have N₁ := N.grown up₁
  show wpAny _ _ (assignInOrder [assign (.Name a pa) env, assign (.Name b pb) env] [x, y]) _ _ _
  refine assignInOrder_cons ?_
  refine wpAny_assign_Name (wpAny_storeName_local ha F₁.ns (fun h₂ hn₂ hs₂ => ?_) hp)
  replace hs₂ : Heap.SameBut env.locals h₁ h₂ := hs₂
  have F₂ := F₁.set hn₂ hs₂
  have N₂ := N₁.set hs₂
  refine assignInOrder_cons ?_
  obtain ⟨pre, post, rfl, hg, q1, q2⟩ := U.split
  have zc := N₂ (c, o) (List.mem_append_right _ (.head _))
  refine wpAny_assign_Name (wpAny_storeName_cell hk hb hc ⟨o, zc.1, hd⟩ fun h₃ hc₃ hs₃ => ?_)
  replace hs₃ : Heap.SameBut c h₂ h₃ := hs₃
  obtain ⟨o', ho', hd'⟩ := hc₃
  refine assignInOrder_nil ?_
  exact h h₃ _ o' (F₂.change hs₃ zc.2.1 zc.2.2) (hg o' ▸ N₂.setIn q1 q2 hs₃ ho') hd'

/-- the roots made so far: their dicts stand apart -/
structure NodesJ (S : Heap) (ts : List Tr) (i : Nat) (ys : List Value) (S' S0 : Heap) (rs : List Rt) : Prop where
  low : S.StaysIn S0
  up : S0.StaysIn S'
  trees : rs.map Rt.tree = ts.take i
  vals : ys = rs.map fun r => .ref r.x
  ok : ∀ r ∈ rs, r.Ok S0
  off : ∀ r ∈ rs, S0.get? r.d = none
  here : ∀ r ∈ rs, S'.get? r.d = some r.obj
  dd : rs.Pairwise fun a b => a.d ≠ b.d
theorem NodesJ.len {S : Heap} {ts : List Tr} {i : Nat} {ys : List Value} {S' S0 : Heap} {rs : List Rt} (h : NodesJ S ts i ys S' S0 rs) : ys.length ≤ i := by
  rw [h.vals, List.length_map]
  have := congrArg List.length h.trees
  rw [List.length_map] at this
  rw [this]; exact List.length_take_le _ _
/-- one more -/
theorem NodesJ.step {S : Heap} {ts : List Tr} {i : Nat} {ys : List Value} {S₁ S0 : Heap} {rs : List Rt} (J : NodesJ S ts i ys S₁ S0 rs) {t : Tr} (ht : ts[i]? = some t)
    {H h h' G' : Heap} {C : Addr} {tl₁ own : Ledg} {m m' : Str → Option Value} (V : View H S C S₁ tl₁) (F : Fr H C h m) (N : News H C h (own ++ tl₁)) (hown : ∀ q ∈ own, S₁.get? q.1 = none) (st : h.StaysIn h') (F' : Fr H C h' m') (gr : Grow h S0 G') (hG' : G'.StaysIn h')
    {r : Value} (P : ∃ (G0 : Heap) (rt : Rt), S0.StaysIn G0 ∧ G0.StaysIn G' ∧ rt.tree = t ∧ r = .ref rt.x ∧ rt.Ok G0 ∧ G0.get? rt.d = none ∧ G'.get? rt.d = some rt.obj) :
    ∃ S' tl' S0' rs', View H S C S' tl' ∧ S₁.StaysIn S' ∧ (∀ q ∈ own, S'.get? q.1 = none) ∧ News H C h' (own ++ tl') ∧ NodesJ S ts (i + 1) (ys ++ [r]) S' S0' rs' := by
  obtain ⟨G0, rt, p1, p2, rfl, rfl, p5, p6, p7⟩ := P
  obtain ⟨tlG, htG⟩ := snap_ex h G'
  have up1 := V.up F N fun p hp => List.mem_append_right _ hp
  obtain ⟨oL, es, ep, hL, _⟩ := id F.ns
  have hH : ∀ b, h.get? b = none → H.get? b = none := fun b q => by
    cases z : H.get? b with
    | none => rfl
    | some o => have := F.keep _ _ z; rw [q] at this; cases this
  have N' : News H C h' (own ++ (tlG ++ tl₁)) := fun p hp => by
    rcases List.mem_append.mp hp with hp | hp
    · have := N p (List.mem_append_left _ hp); exact ⟨st _ _ this.1, this.2⟩
    · rcases List.mem_append.mp hp with hp | hp
      · obtain ⟨q1, q2⟩ := (htG p.1 p.2).mp hp
        exact ⟨hG' _ _ q2, fun e => (by rw [e, hL] at q1; cases q1), hH _ q1⟩
      · have := N p (List.mem_append_right _ hp); exact ⟨st _ _ this.1, this.2⟩
  obtain ⟨S2, tl2, V2, st2, ha2, of2, sb2⟩ := V.adds F' N' (sub_r (sub_r sub_refl)) tlG (sub_r (sub_l sub_refl))
  have hG2 : G'.StaysIn S2 := fun b o e => by
    rcases gr.2 b o e with q | q
    · exact st2 _ _ (J.up _ _ q)
    · exact ha2 (b, o) ((htG b o).mpr ⟨q, e⟩)
  have hold : ∀ b o, S₁.get? b = some o → S0.get? b = none → G'.get? b = none := fun b o e1 e2 => by
    cases z : G'.get? b with
    | none => rfl
    | some o' =>
      rcases gr.2 b o' z with q | q
      · rw [e2] at q; cases q
      · rw [up1 _ _ e1] at q; cases q
  refine ⟨S2, tl2, G0, rs ++ [rt], V2, st2, fun q hq => of2 _ (hown q hq) fun p hp e => ?_, News.sub N' (sub_app (sub_l sub_refl) sb2), ⟨fun b o e => p1 _ _ (J.low _ _ e), fun b o e => hG2 _ _ (p2 _ _ e), by rw [List.map_append, J.trees, take_snoc ht]; rfl, by rw [J.vals, List.map_append]; rfl, fun r hr => ?_, fun r hr => ?_, fun r hr => ?_, ?_⟩⟩
  · have := ((htG p.1 p.2).mp hp).1
    rw [e, (N q (List.mem_append_left _ hq)).1] at this; cases this
  · rcases List.mem_append.mp hr with hr | hr
    · exact (J.ok r hr).mono p1
    · rw [List.mem_singleton.mp hr]; exact p5
  · rcases List.mem_append.mp hr with hr | hr
    · cases z : G0.get? r.d with
      | none => rfl
      | some o => have := p2 _ _ z; rw [hold _ _ (J.here r hr) (J.off r hr)] at this; cases this
    · rw [List.mem_singleton.mp hr]; exact p6
  · rcases List.mem_append.mp hr with hr | hr
    · exact st2 _ _ (J.here r hr)
    · rw [List.mem_singleton.mp hr]; exact hG2 _ _ p7
  · rw [List.pairwise_append]
    refine ⟨J.dd, by simp, fun a ha b hb e => ?_⟩
    rw [List.mem_singleton.mp hb] at e
    have := hold _ _ (J.here a ha) (J.off a ha)
    rw [e, p7] at this; cases this

theorem useD {w : World} {f : Addr} {n dp un : Nat} {fr : Option (List Env)} {gd : Option (List Code)} {vals : List Value} {Pre : Heap → Prop} {Post : Heap → Value → Prop} {p : Program} {loose : List Str} {mg mb : Str → Option Value} {h₀ G S : Heap} {L : Addr} {tl nw : Ledg} {m : Str → Option Value} {s : Shared} {Q E : Value → Shared → Prop}
    (Sp : HSpecD w f n vals Pre Post) (V : View h₀ G L S tl) (F : Fr h₀ L s.heap m) (N : News h₀ L s.heap nw) (sub : ∀ p ∈ tl, p ∈ nw) (X : (grab.heap_1 w.params).In h₀) (T : TopRead p loose mg mb h₀)
    (hd : dp + n < 1000) (hu : un + 8 * n + 100 < 9900) (hp : Pre S)
    (h : ∀ r h' tk dr S' tl', Fr h₀ L h' m → (∀ mu, (∀ p ∈ mu, p ∈ nw) → News h₀ L h' (mu ++ tl')) → View h₀ G L S' tl' → S.StaysIn S' → (∀ b o, S.get? b = none → s.heap.get? b = some o → S'.get? b = none) → Post S' r → Q r { s with heap := h', toks := tk, drawn := dr }) :
    wpAny (model Pg w) (Ar dp un fr gd) (call (.ref f) vals) Q E s :=
  Sp p loose mg mb dp un fr gd s Q E S hd hu (X.keeps F.keep) (T.keeps F.keep) (V.up F N sub) hp fun r h' tk dr G' st gr hG' hr => by
    have none_of : ∀ b, s.heap.get? b = none → h₀.get? b = none := fun b q => by
      cases z : h₀.get? b with
      | none => rfl
      | some o => have := F.keep b o z; rw [q] at this; cases this
    have old : ∀ b o, S.get? b = none → s.heap.get? b = some o → G'.get? b = none := fun b o h1 h2 => by
      cases z : G'.get? b with
      | none => rfl
      | some o' =>
        rcases gr.2 b o' z with q | q
        · rw [h1] at q; cases q
        · rw [h2] at q; cases q
    obtain ⟨oL, es, ep, hL, _⟩ := id F.ns
    obtain ⟨tl', ht⟩ := snap_ex h₀ G'
    have V' : View h₀ G L G' tl' := ⟨fun b o e => gr.1 b o (V.stays b o e), fun b o e => (gr.2 b o e).elim (V.src b o) fun q => .inr (none_of b q), V.sub, old L oL V.notL hL, ht⟩
    refine h r h' tk dr G' tl' (F.keeps st) (fun mu hmu p hp => ?_) V' gr.1 old hr
    rcases List.mem_append.mp hp with hp | hp
    · have := N p (hmu p hp)
      exact ⟨st _ _ this.1, this.2⟩
    · obtain ⟨p1, p2⟩ := p
      obtain ⟨q1, q2⟩ := (ht p1 p2).mp hp
      refine ⟨hG' _ _ q2, fun q => ?_, q1⟩
      have := V'.notL
      rw [← show p1 = L from q, q2] at this; cases this

theorem law_body {w : World} {dp un : Nat} {fr : Option (List Env)} {gd : Option (List Code)} {p : Program} {loose : List Str} {mg mb : Str → Option Value} {s : Shared} {Q : Flow → Shared → Prop} {E : Value → Shared → Prop} {l fa : Addr} {vs : List Value} {ns : List Int} {h₁ : Heap} {tk₀ : Nat} {o1 o2 : Obj} {cdv' : Value}
    {name qual : Str} {params : Arguments} {body : List Stmt} {scope : Scope} {dV kV doc pm cdv ct oc : Value} {an od : Option Addr} {osl : Array (Option Value)}
    (hlook : ∀ p, (grab.heap_1 p).lookup 126 = some ⟨oc, od, .func (fnOf name qual params body scope dV kV doc pm an cdv ct), osl⟩)
    (X : (grab.heap_1 w.params).In s.heap) (T : TopRead p loose mg mb s.heap) (hdp : dp + 300 < 1000) (hun : un + 3000 < 9900) (hL : s.heap.IsList l vs.toArray) (hI : IntsAre vs ns) (hn : ns.length ≤ 63)
    (F : Fr s.heap s.heap.objs.size h₁ (fun y => if y = Str.ofString "script" then some (.ref l) else none)) (N : News s.heap s.heap.objs.size h₁ [(s.heap.objs.size + 1 + 1, o1), (s.heap.objs.size + 1, o2)]) (ho1 : o1.data = .cell none) (ho2 : o2.data = .cell none)
    (h : ∀ h' tk dr, s.heap.StaysIn h' → Q (.ret (.bool true)) { s with heap := h', toks := tk, drawn := dr }) :
    wpAny (model Pg w) ((Ar dp un fr gd).deeper (envOfC qual scope s.heap.objs.size fa cdv')) (execs body (envOfC qual scope s.heap.objs.size fa cdv')) Q E { s with heap := h₁, toks := tk₀ } := by
  refine' sub_fn (P := fun qual body scope => wpAny (model Pg w) ((Ar dp un fr gd).deeper (envOfC qual scope s.heap.objs.size fa cdv')) (execs body (envOfC qual scope s.heap.objs.size fa cdv')) Q E { s with heap := h₁, toks := tk₀ }) (hlook w.params) ?e1 ?_
  case e1 => k_is
  generalize hLL : s.heap.objs.size = L at *
  (first | ((try dsimp only); k_unmd; k_fold) | skip)
  clear hlook osl od an oc ct cdv pm doc kV dV scope body params qual name
  (repeat' (first | ((with_reducible first | refine hKn _ ?_ | refine hKr _ _ retNe ?_ | refine hKr _ _ contNe ?_); (try clear hKn hKr Kq); (try dsimp only)) | ((with_reducible refine v_copy ‹_› ‹_› (by walk_at "rl") (by walk_at "un") ?_); intro _; walk_at "kl") | (with_reducible first | refine v_gt_int_t (by with_reducible assumption) ?_ | refine v_gt_int_f (by with_reducible assumption) ?_) | ((with_reducible refine v_count (by walk_at "rl") ‹_› ?_); intro _) | (k_unfold; (try dsimp only)) | (k_end; wrow_close) | walk1 | (dsimp only; walk1) | (leave1; try dsimp only) | fail "no step"))
  rename_i la ws hA FA NA hIA lA
  have V := View.start (h₀ := s.heap) (G := s.heap) (L := L) (fun _ _ e => e) (Nat.le_of_eq hLL)
  have hfr : ∀ b : Addr, @LE.le Nat _ L b → s.heap.get? b = none := fun b hb => by
    cases q : s.heap.get? b with
    | none => rfl
    | some o => exact absurd (Heap.lt_size q) (Nat.not_lt.mpr (by rw [hLL]; exact hb))
  refine hide fun Pq9 hq9 => ?_
  obtain ⟨S1, tl1, V1, st1, ha1, of1, sb1⟩ := V.adds FA NA off_nil [(la, lstO ws 0)] (sub_cons (.head _) sub_nil)
  have hwl : ws.length ≤ 10 := by
    have := IntsAre.length hIA
    rw [List.length_append, List.length_singleton, List.length_take] at this
    omega
  have n1 : @Ne Nat la (L + 1) := Nat.ne_of_gt (by omega)
  have n2 : @Ne Nat la (L + 1 + 1) := Nat.ne_of_gt (by omega)
  have y1 : S1.get? (L + 1) = none := of1 _ (hfr _ (by omega)) (off_cons n1 off_nil)
  have y2 : S1.get? (L + 1 + 1) = none := of1 _ (hfr _ (by omega)) (off_cons n2 off_nil)
  refine hq9 ?_; clear hq9 Pq9
  generalize hns : List.take 6 ns ++ [((ns.length : Nat) : Int) * 41 + 1] = ns7 at *
  refine useS (law_roots_spec w (l := la) (vs := ws) (e := 0) hwl hIA) V1 FA NA sb1 X T (by walk_at "dp") (by walk_at "dp") (ha1 _ (.head _)) ?_
  rintro r hB tkB S2 tl2 FB NB V2 st2 old2 ⟨Dr, fd, dd, tvs, et, e2, rfl, hDr, hfd, hTs, hTb⟩
  have k1 := old2 _ _ y1 (NA (L + 1, o2) (by simp)).1
  have k2 := old2 _ _ y2 (NA (L + 1 + 1, o1) (by simp)).1
  have NB' := NB [(L + 1 + 1, o1), (L + 1, o2)] (sub_cons (by simp) (sub_cons (by simp) sub_nil))
  simp only [List.cons_append, List.nil_append] at NB'
  clear NB NA FA lA
  refine v_unpack_lc rfl rfl (V2.get FB NB' (by walk_at "lg") hDr) rfl rfl rfl rfl rfl FB NB' (UpdF.tail (by k_ne) (UpdF.head (by k_all))) ho2 ?_
  intro hC tkC oT FC NC dT
  clear FB NB'
  (first | ((try dsimp only); k_unmd; k_fold) | skip)
  clear st2 hIA hwl sb1 ha1 st1 V1 tl1 V ho2 hn hL h₁
  (repeat' (first | ((with_reducible first | refine hKn _ ?_ | refine hKr _ _ retNe ?_ | refine hKr _ _ contNe ?_); (try clear hKn hKr Kq); (try dsimp only)) | ((with_reducible refine v_copy ‹_› ‹_› (by walk_at "rl") (by walk_at "un") ?_); intro _; walk_at "kl") | (with_reducible first | refine v_gt_int_t (by with_reducible assumption) ?_ | refine v_gt_int_f (by with_reducible assumption) ?_) | ((with_reducible refine v_count (by walk_at "rl") ‹_› ?_); intro _) | (k_unfold; (try dsimp only)) | (k_end; wrow_close) | walk1 | (dsimp only; walk1) | (leave1; try dsimp only) | fail "no step"))
  refine hide fun Pq9 hq9 => ?_
  obtain ⟨hR, hRl⟩ := roots_ok ns7
  refine hq9 ?_; clear hq9 Pq9
  generalize hrt : rootsN ns7 = RT at *
  refine hide fun Pq9 hq9 => ?_
  obtain ⟨ts, tab⟩ := RT
  have hlen7 : ns7.length ≤ 7 ∧ 0 < ns7.length := by rw [← hns, List.length_append, List.length_singleton, List.length_take]; omega
  replace hTs : TupsT S2 tvs ts := hTs
  replace hTb : Tbl w S2 dd tab := hTb
  replace hR : RootsOk ts tab := hR
  replace hRl : ts.length = ns7.length := hRl
  obtain ⟨z1, z2, z3, z4, z5⟩ := law_sizes hR (by omega)
  have hvt : tvs.length = ts.length := hTs.length
  replace FC : Fr s.heap L hC (fun z => if z = Str.ofString "trees" then some (Value.ref fd) else if z = Str.ofString "script" then some (Value.ref l) else none) := FC
  replace NC : News s.heap L hC ([(L + 1 + 1, o1), (L + 1, oT)] ++ tl2) := NC
  have hmu2 : ∀ q ∈ [(L + 1 + 1, o1), (L + 1, oT)], S2.get? q.1 = none := off_cons k2 (off_cons k1 off_nil)
  have X1 := X.keeps FC.keep
  have T1 := T.keeps FC.keep
  refine hq9 ?_; clear hq9 Pq9
  refine at_comp_list (L := L) (S := S2) (G := s.heap) (vs := tvs) (e := et) (mu := [(L + 1 + 1, o1), (L + 1, oT)]) (tl := tl2) rfl (by decide) rfl rfl V2 FC NC hmu2 hfd (by rw [sizeLine_eq]; omega)
    (fun i ys S' => ∃ S0 rs, NodesJ S2 ts i ys S' S0 rs) ⟨S2, [], fun _ _ e => e, fun _ _ e => e, rfl, rfl, fun _ h => absurd h List.not_mem_nil, fun _ h => absurd h List.not_mem_nil, fun _ h => absurd h List.not_mem_nil, .nil⟩ (fun i ys S' ⟨_, _, hj⟩ => hj.len) ?turn1 ?done1
  case turn1 =>
    rintro s' ⟨h9, rfl⟩
    intro i v ys S₁ tl₁ h tk C own m₀ hi hP hJx69 V₁ hS hown F₁ N₁
    refine hide fun Pq9 hq9 => ?_
    obtain ⟨S0, rs, J⟩ := hJx69
    obtain ⟨t, ht, hv⟩ := (hTs.mono J.low).get hP
    have hm := List.mem_of_getElem? ht
    refine hq9 ?_; clear hq9 Pq9
    refine tested_nil ?_
    (first | ((try dsimp only); k_unmd; k_fold) | skip)
    clear hS hP hi h9 hmu2 NC hvt z5 z4 z3 z2 z1 hRl hTb hTs hlen7 hrt dT oT k2 k1 hfd hDr e2 et tvs dd Dr old2 V2 tl2 tkB hB hns ns7 y2 y1 n2 n1 of1 S1 hfr hA ws la hLL ho1 hI o2 o1 tk₀ vs
    (repeat' (first | ((with_reducible first | refine hKn _ ?_ | refine hKr _ _ retNe ?_ | refine hKr _ _ contNe ?_); (try clear hKn hKr Kq); (try dsimp only)) | ((with_reducible refine v_copy ‹_› ‹_› (by walk_at "rl") (by walk_at "un") ?_); intro _; walk_at "kl") | (with_reducible first | refine v_gt_int_t (by with_reducible assumption) ?_ | refine v_gt_int_f (by with_reducible assumption) ?_) | ((with_reducible refine v_count (by walk_at "rl") ‹_› ?_); intro _) | (k_unfold; (try dsimp only)) | (k_end; wrow_close) | walk1 | (dsimp only; walk1) | (leave1; try dsimp only) | fail "no step"))
    have hup : S0.StaysIn h := fun b o e => V₁.up F₁ N₁ (fun p hp => List.mem_append_right _ hp) _ _ (J.up _ _ e)
    refine law_node_root w (n := 2) (hR.size t hm).2 (by have := (hR.size t hm).1; omega) v S0 p loose mg mb _ _ _ _ _ _ _ S0 (by walk_at "dp") (by walk_at "dp") (X1.keeps F₁.keep) (T1.keeps F₁.keep) hup ⟨rfl, hv⟩ ?_
    intro r h' tk' G' st gr hG' hP'
    refine hide fun Pq9 hq9 => ?_
    obtain ⟨S', tl', S0', rs', V', st', ho', N', J'⟩ := J.step ht V₁ F₁ N₁ hown st (F₁.keeps st) gr hG' hP'
    refine hq9 ?_; clear hq9 Pq9
    exact CEnd.mk V' st' ho' (F₁.keeps st) N' ⟨S0', rs', J'⟩
  case done1 =>
    rintro D hD0 tkD ys S' tl' FD ND VD hSD hDn hmuD hneD ⟨S0, rs, J⟩
    rw [hvt] at J
    (first | ((try dsimp only); k_unmd; k_fold) | skip)
    clear hSD hmu2 hvt hrt k2 k1 old2 tkB hB y2 y1 n2 n1 of1 S1 hfr la hLL o2 tk₀
    (repeat' (first | ((with_reducible first | refine hKn _ ?_ | refine hKr _ _ retNe ?_ | refine hKr _ _ contNe ?_); (try clear hKn hKr Kq); (try dsimp only)) | ((with_reducible refine v_copy ‹_› ‹_› (by walk_at "rl") (by walk_at "un") ?_); intro _; walk_at "kl") | (with_reducible first | refine v_gt_int_t (by with_reducible assumption) ?_ | refine v_gt_int_f (by with_reducible assumption) ?_) | ((with_reducible refine v_count (by walk_at "rl") ‹_› ?_); intro _) | (k_unfold; (try dsimp only)) | (k_end; wrow_close) | walk1 | (dsimp only; walk1) | (leave1; try dsimp only) | fail "no step"))
    have hrs : rts rs = ts := by unfold rts; rw [J.trees, List.take_length]
    have hrl : rs.length = ts.length := by rw [← hrs]; unfold rts; rw [List.length_map]
    refine hide fun Pq9 hq9 => ?_
    obtain ⟨tl0, ht0⟩ := snap_ex s.heap S0
    have V0 : View s.heap s.heap L S0 tl0 := ⟨fun b o e => J.low _ _ (V2.stays _ _ e), fun b o e => VD.src b o (J.up _ _ e), fun _ _ e => e, (by
      cases z : S0.get? L with
      | none => rfl
      | some o => have := J.up _ _ z; rw [VD.notL] at this; cases this), ht0⟩
    have sub0 : ∀ q ∈ tl0, q ∈ tl' := fun q hq => (VD.snap q.1 q.2).mpr ⟨((ht0 q.1 q.2).mp hq).1, J.up _ _ ((ht0 q.1 q.2).mp hq).2⟩
    have hrsm : ∀ q ∈ ents (rs.map some), ∃ r ∈ rs, q = (r.d, r.obj) := fun q hq => by
      obtain ⟨k, r, hk, e⟩ := mem_ents.mp hq
      rw [List.getElem?_map] at hk
      obtain ⟨r', h1, h2⟩ := Option.map_eq_some_iff.mp hk
      cases h2
      exact ⟨r, List.mem_of_getElem? h1, e⟩
    have subE : ∀ q ∈ ents (rs.map some), q ∈ tl' := fun q hq => by
      obtain ⟨r, hr, rfl⟩ := hrsm q hq
      refine (VD.snap _ _).mpr ⟨?_, J.here r hr⟩
      cases z : s.heap.get? r.d with
      | none => rfl
      | some o => have := J.low _ _ (V2.stays _ _ z); rw [J.off r hr] at this; cases this
    have N0 : News s.heap L hD0 (ents (rs.map some) ++ ((D, lstO ys ys.length) :: ([(L + 1 + 1, o1), (L + 1, oT)] ++ tl0))) := News.sub ND (sub_app (sub_t (sub_r subE)) (sub_cons (.head _) (sub_app (sub_t (sub_l sub_refl)) (sub_t (sub_r sub0)))))
    obtain ⟨SG, tlG, VG, stG, haG, ofG, sbG⟩ := V0.adds FD N0 (sub_r (sub_t (sub_r sub_refl))) [(D, lstO ys ys.length)] (sub_cons (List.mem_append_right _ (.head _)) sub_nil)
    have NG : News s.heap L hD0 (ents (rs.map some) ++ ([(L + 1 + 1, o1), (L + 1, oT)] ++ tlG)) := News.sub N0 (sub_app (sub_l sub_refl) (sub_app (sub_r (sub_t (sub_l sub_refl))) sbG))
    have hlD : SG.get? D = some (lstO (rs.map fun r => Value.ref r.x) ys.length) := by rw [← J.vals]; exact haG _ (.head _)
    have hDr : ∀ r ∈ rs, D ≠ r.d := fun r hr e => by have := J.here r hr; rw [← e, hDn] at this; cases this
    have hdd : DD (rs.map some) := fun k k' r r' h1 h2 e => by
      rw [List.getElem?_map] at h1 h2
      obtain ⟨a, a1, a2⟩ := Option.map_eq_some_iff.mp h1
      obtain ⟨b, b1, b2⟩ := Option.map_eq_some_iff.mp h2
      cases a2; cases b2
      obtain ⟨c1, c2⟩ := List.getElem?_eq_some_iff.mp a1
      obtain ⟨d1, d2⟩ := List.getElem?_eq_some_iff.mp b1
      have hp := List.pairwise_iff_getElem.mp J.dd
      rcases Nat.lt_trichotomy k k' with q | q | q
      · exact absurd (by rw [c2, d2]; exact e) (hp k k' c1 d1 q)
      · exact q
      · exact absurd (by rw [c2, d2]; exact e.symm) (hp k' k d1 c1 q)
    refine hq9 ?_; clear hq9 Pq9
    refine gathered_at (rest := [(L + 1 + 1, o1), (L + 1, oT)]) VG FD NG X T (by walk_at "dp") (by walk_at "dp") hlD (fun r hr => (J.ok r hr).mono stG) ((hTb.mono J.low).mono stG) (by rw [hrs]; exact hR.ok) hdd (fun r hr => ofG _ (J.off r hr) (off_cons (hDr r hr) off_nil))
      (fun q hq => ⟨ofG _ (by
        cases z : S0.get? q.1 with
        | none => rfl
        | some o => have := J.up _ _ z; rw [hmuD q hq] at this; cases this) (off_cons (fun e => hneD _ _ (NC q (List.mem_append_left _ hq)).1 e.symm) off_nil), fun r hr e => by have := J.here r hr; rw [← e, hmuD q hq] at this; cases this⟩) (by rw [hrs]; omega) ?_
    intro F1 hF tkF S3 tl3 fs ef FF NF V3 st3 hro3 hF1 hNf
    rw [hrs, hrl] at hNf
    replace hNf : NodesT S3 fs (gath tab ts) := hNf
    have hT3 : Tbl w S3 dd tab := ((hTb.mono J.low).mono stG).mono st3
    have htv3 : S3.get? fd = some (lstO tvs et) := st3 _ _ (stG _ _ (J.low _ _ hfd))
    have hTs3 : TupsT S3 tvs ts := ((hTs.mono J.low).mono stG).mono st3
    have k13 : S3.get? (L + 1) = none := hro3 _ (.tail _ (.head _))
    have k23 : S3.get? (L + 1 + 1) = none := hro3 _ (.head _)
    clear hdd hDr hlD NG sbG ofG haG N0 subE hrsm sub0 V0 ht0 J VD ND FD NC hneD hmuD V2 hrs hrl
    simp only [List.cons_append, List.nil_append] at NF
    (first | ((try dsimp only); k_unmd; k_fold) | skip)
    clear k23 k13 VG tlG tl0 hDn tkD hD0 tkC hDr e2 Dr tl2
    (repeat' (first | ((with_reducible first | refine hKn _ ?_ | refine hKr _ _ retNe ?_ | refine hKr _ _ contNe ?_); (try clear hKn hKr Kq); (try dsimp only)) | ((with_reducible refine v_copy ‹_› ‹_› (by walk_at "rl") (by walk_at "un") ?_); intro _; walk_at "kl") | (with_reducible first | refine v_gt_int_t (by with_reducible assumption) ?_ | refine v_gt_int_f (by with_reducible assumption) ?_) | ((with_reducible refine v_count (by walk_at "rl") ‹_› ?_); intro _) | (k_unfold; (try dsimp only)) | (k_end; wrow_close) | walk1 | (dsimp only; walk1) | (leave1; try dsimp only) | fail "no step"))
    rename_i hA FA NA
    have hfl : fs.length = (gath tab ts).length := hNf.length
    have X2 := X.keeps FA.keep
    have T2 := T.keeps FA.keep
    replace NA : News s.heap L hA ([(L + 1 + 1, o1), (L + 1, oT)] ++ tl3) := NA
    refine at_comp_list (L := L) (S := S3) (G := s.heap) (vs := fs) (e := ef) (mu := [(L + 1 + 1, o1), (L + 1, oT)]) (tl := tl3) rfl (by decide) rfl rfl V3 FA NA hro3 hF1 (by rw [sizeLine_eq]; omega)
      (fun i ys S' => ToldsT S' ys ((gath tab ts).take i)) .nil (fun i ys S' hj => by rw [hj.length]; exact List.length_take_le _ _) ?turn2 ?done2
    case turn2 =>
      rintro s' ⟨h9, rfl⟩
      intro i v ys S₁ tl₁ h tk C own m₀ hi hP J V₁ hS hown F₁ N₁
      refine hide fun Pq9 hq9 => ?_
      obtain ⟨t, ht, hv⟩ := (hNf.mono hS).get hP
      have hm := List.mem_of_getElem? ht
      have hsz := (z4 t hm).1
      refine hq9 ?_; clear hq9 Pq9
      refine tested_nil ?_
      refine hide fun Pq9 hq9 => ?_
      cases hv with
      | @mk x d l2 n h1 h2 t1 t2 tn e vs ks gx gd gl gk =>
        refine hq9 ?_; clear hq9 Pq9
        (first | ((try dsimp only); k_unmd; k_fold) | skip)
        clear hm hP hS hi h9 NA hfl hTs3 htv3 hT3 hNf hF1 hro3 st3 V3 ef fs tl3 tkF hF stG SG rs S0 z5 z4 z3 z2 z1 hRl hR hTb hTs hlen7 dT oT hfd et tvs dd S2 hns ns7 ws ho1 hI o1
        (repeat' (first | ((with_reducible first | refine hKn _ ?_ | refine hKr _ _ retNe ?_ | refine hKr _ _ contNe ?_); (try clear hKn hKr Kq); (try dsimp only)) | ((with_reducible refine v_copy ‹_› ‹_› (by walk_at "rl") (by walk_at "un") ?_); intro _; walk_at "kl") | (with_reducible first | refine v_gt_int_t (by with_reducible assumption) ?_ | refine v_gt_int_f (by with_reducible assumption) ?_) | ((with_reducible refine v_count (by walk_at "rl") ‹_› ?_); intro _) | (k_unfold; (try dsimp only)) | (k_end; wrow_close) | walk1 | (dsimp only; walk1) | (leave1; try dsimp only) | fail "no step"))
        show wpAny _ _ (call (.ref 33) [.ref x]) _ _ _
        refine useS (told_spec w (x := x) (t := .mk n ks) (by omega)) V₁ F₁ N₁ (by walk_at "lg") X2 T2 (by walk_at "dp") (by walk_at "dp") (.mk gx gd gl gk) ?_
        intro r h' tk' S' tl' F' N' V' hS' hold hr
        exact CEnd.mk V' hS' (fun q hq => hold _ _ (hown q hq) (N₁ q (List.mem_append_left _ hq)).1) F' (N' own fun p hp => List.mem_append_left _ hp) (by rw [take_snoc ht]; exact (ToldsT.mono hS' J).snoc hr)
    case done2 =>
      rintro D2 hD2 tkD2 us S4 tl4 F4 N4 V4 hS4 hDn4 hmu4 hne4 J4
      rw [hfl, List.take_length] at J4
      simp only [List.cons_append, List.nil_append] at N4
      have m1 : D2 ≠ L + 1 := Ne.symm (hne4 _ _ (NA (L + 1, oT) (.tail _ (.head _))).1)
      have m2 : D2 ≠ L + 1 + 1 := Ne.symm (hne4 _ _ (NA (L + 1 + 1, o1) (.head _)).1)
      refine hide fun Pq9 hq9 => ?_
      obtain ⟨S5, tl5, V5, st5, ha5, of5, sb5⟩ := V4.adds F4 N4 (sub_t (sub_t (sub_t sub_refl))) [(D2, lstO us us.length)] (sub_cons (.head _) sub_nil)
      have k15 : S5.get? (L + 1) = none := of5 _ (hmu4 _ (.tail _ (.head _))) (off_cons m1 off_nil)
      have k25 : S5.get? (L + 1 + 1) = none := of5 _ (hmu4 _ (.head _)) (off_cons m2 off_nil)
      have N5 : News s.heap L hD2 ((L + 1 + 1, o1) :: (L + 1, oT) :: tl5) := News.sub N4 (sub_cons (.tail _ (.head _)) (sub_cons (.tail _ (.tail _ (.head _))) sb5))
      have hD25 : S5.get? D2 = some (lstO us us.length) := ha5 _ (.head _)
      have J5 := ToldsT.mono st5 J4
      have s35 : S3.StaysIn S5 := fun b o e => st5 _ _ (hS4 _ _ e)
      clear N4 NA ha5 of5 sb5
      refine hq9 ?_; clear hq9 Pq9
      (first | ((try dsimp only); k_unmd; k_fold) | skip)
      clear hDn4 V4 hro3 V3 tkF hF
      (repeat' (first | ((with_reducible first | refine hKn _ ?_ | refine hKr _ _ retNe ?_ | refine hKr _ _ contNe ?_); (try clear hKn hKr Kq); (try dsimp only)) | ((with_reducible refine v_copy ‹_› ‹_› (by walk_at "rl") (by walk_at "un") ?_); intro _; walk_at "kl") | (with_reducible first | refine v_gt_int_t (by with_reducible assumption) ?_ | refine v_gt_int_f (by with_reducible assumption) ?_) | ((with_reducible refine v_count (by walk_at "rl") ‹_› ?_); intro _) | (k_unfold; (try dsimp only)) | (k_end; wrow_close) | walk1 | (dsimp only; walk1) | (leave1; try dsimp only) | fail "no step"))
      refine useD (law_gathered_spec w (l := fd) (td := dd) (vs := tvs) (e := et) hR.ok (by omega) (by omega) (fun q => by have h0 := congrArg List.length q; simp only [List.length_nil] at h0; omega)) V5 F4 N5 (sub_t (sub_t sub_refl)) X T (by walk_at "dp") (by walk_at "dp") ⟨s35 _ _ htv3, TupsT.mono s35 hTs3, hT3.mono s35⟩ ?_
      rintro r hG tkG dr S6 tl6 F6 N6 V6 st6 old6 ⟨D6, gs, e6, rfl, hD6, hgs⟩
      have k16 := old6 _ _ k15 (N5 (L + 1, oT) (.tail _ (.head _))).1
      have k26 := old6 _ _ k25 (N5 (L + 1 + 1, o1) (.head _)).1
      have N6' := N6 [(L + 1 + 1, o1), (L + 1, oT)] (sub_cons (.head _) (sub_cons (.tail _ (.head _)) sub_nil))
      clear N6 N5 old6
      have X3 := X.keeps F6.keep
      have T3 := T.keeps F6.keep
      replace hgs : TupsT S6 gs (gath tab ts) := hgs
      have hgl : gs.length = (gath tab ts).length := hgs.length
      refine at_comp_list (L := L) (S := S6) (G := s.heap) (vs := gs) (e := e6) (mu := [(L + 1 + 1, o1), (L + 1, oT)]) (tl := tl6) rfl (by decide) rfl rfl V6 F6 N6' (off_cons k26 (off_cons k16 off_nil)) hD6 (by rw [sizeLine_eq]; omega)
        (fun i ys S' => ToldsT S' ys ((gath tab ts).take i)) .nil (fun i ys S' hj => by rw [hj.length]; exact List.length_take_le _ _) ?turn3 ?done3
      case turn3 =>
        rintro s' ⟨h9, rfl⟩
        intro i v ys S₁ tl₁ h tk C own m₀ hi hP J V₁ hS hown F₁ N₁
        refine hide fun Pq9 hq9 => ?_
        obtain ⟨t, ht, hv⟩ := (hgs.mono hS).get hP
        have hm := List.mem_of_getElem? ht
        have hsz := z4 t hm
        refine hq9 ?_; clear hq9 Pq9
        refine tested_nil ?_
        (first | ((try dsimp only); k_unmd; k_fold) | skip)
        clear hS hP hi h9 hgl hgs N6' k26 k16 hD6 e6 gs D6 st6 V6 tl6 s35 J5 hD25 k25 k15 st5 V5 tl5 S5 m2 m1 J4 hne4 hmu4 hS4 F4 tl4 S4 us hfl hTs3 htv3 hT3 hNf hF1 st3 ef fs tl3 S3 stG SG rs S0 z5 z3 z2 z1 hRl hR hTb hTs hlen7 dT oT hfd et tvs dd S2 hns ns7 ws ho1 hI o1 vs
        (repeat' (first | ((with_reducible first | refine hKn _ ?_ | refine hKr _ _ retNe ?_ | refine hKr _ _ contNe ?_); (try clear hKn hKr Kq); (try dsimp only)) | ((with_reducible refine v_copy ‹_› ‹_› (by walk_at "rl") (by walk_at "un") ?_); intro _; walk_at "kl") | (with_reducible first | refine v_gt_int_t (by with_reducible assumption) ?_ | refine v_gt_int_f (by with_reducible assumption) ?_) | ((with_reducible refine v_count (by walk_at "rl") ‹_› ?_); intro _) | (k_unfold; (try dsimp only)) | (k_end; wrow_close) | walk1 | (dsimp only; walk1) | (leave1; try dsimp only) | fail "no step"))
        refine useS (law_told_spec w 49 t hsz.2 (by omega) v) V₁ F₁ N₁ (by walk_at "lg") X3 T3 (by walk_at "dp") (by walk_at "dp") hv ?_
        intro r h' tk' S' tl' F' N' V' hS' hold hr
        exact CEnd.mk V' hS' (fun q hq => hold _ _ (hown q hq) (N₁ q (List.mem_append_left _ hq)).1) F' (N' own fun p hp => List.mem_append_left _ hp) (by rw [take_snoc ht]; exact (ToldsT.mono hS' J).snoc hr)
      case done3 =>
        rintro D7 hD7 tkD7 us7 S7 tl7 F7 N7 V7 hS7 hDn7 hmu7 hne7 J7
        rw [hgl, List.take_length] at J7
        simp only [List.cons_append, List.nil_append] at N7
        have hcL9 := cLine_is
        have up7 := V7.up F7 N7 (sub_t (sub_t (sub_t sub_refl)))
        have s57 : S5.StaysIn S7 := fun b o e => hS7 _ _ (st6 _ _ e)
        have s37 : S3.StaysIn S7 := fun b o e => s57 _ _ (s35 _ _ e)
        (first | ((try dsimp only); k_unmd; k_fold) | skip)
        clear hne7 hDn7 hgl hgs T3 N6' k26 k16 hD6 e6 gs D6 V6 tl6 ek k25 k15 V5 tl5 m2 m1 hne4 hmu4 F4 tl4 hTs3 htv3 tl3 tl' z4 z1 hRl hTs hlen7 hfd et tvs hns ns7
        (repeat' (first | ((with_reducible first | refine hKn _ ?_ | refine hKr _ _ retNe ?_ | refine hKr _ _ contNe ?_); (try clear hKn hKr Kq); (try dsimp only)) | ((with_reducible refine v_copy ‹_› ‹_› (by walk_at "rl") (by walk_at "un") ?_); intro _; walk_at "kl") | (with_reducible first | refine v_gt_int_t (by with_reducible assumption) ?_ | refine v_gt_int_f (by with_reducible assumption) ?_) | ((with_reducible refine v_count (by walk_at "rl") ‹_› ?_); intro _) | (k_unfold; (try dsimp only)) | (k_end; wrow_close) | walk1 | (dsimp only; walk1) | (leave1; try dsimp only) | fail "no step"))
        refine v_ne_told (S₁ := S7) (S₂ := S7) (up7 _ _ (s57 _ _ hD25)) (N7 _ (.head _)).1 up7 up7 (ToldsT.mono s57 J5) J7 (by dsimp only [Ar, Around.deeper]; omega) ?_
        have k17 : S7.get? (L + 1) = none := hmu7 _ (.tail _ (.head _))
        have k27 : S7.get? (L + 1 + 1) = none := hmu7 _ (.head _)
        replace N7 : News s.heap L hD7 ((L + 1 + 1, o1) :: (L + 1, oT) :: tl7) := News.sub N7 (sub_t sub_refl)
        clear up7 J7 qk J5 hD25 J4 us D2
        (repeat' (first | ((with_reducible first | refine hKn _ ?_ | refine hKr _ _ retNe ?_ | refine hKr _ _ contNe ?_); (try clear hKn hKr Kq); (try dsimp only)) | ((with_reducible refine v_copy ‹_› ‹_› (by walk_at "rl") (by walk_at "un") ?_); intro _; walk_at "kl") | (with_reducible first | refine v_gt_int_t (by with_reducible assumption) ?_ | refine v_gt_int_f (by with_reducible assumption) ?_) | ((with_reducible refine v_count (by walk_at "rl") ‹_› ?_); intro _) | (k_unfold; (try dsimp only)) | (k_end; wrow_close) | walk1 | (dsimp only; walk1) | (leave1; try dsimp only) | fail "no step"))
        refine useS (numbers_told_spec w (l := F1) (vs := fs) (e := ef) (ts := gath tab ts) (by omega)) V7 F7 N7 (sub_t (sub_t sub_refl)) X T (by walk_at "dp") (by walk_at "dp") ⟨s37 _ _ hF1, NodesT.mono s37 hNf⟩ ?_
        rintro r hH tkH S8 tl8 F8 N8 V8 st8 old8 ⟨D8, ws8, e8, rfl, hD8, hI8⟩
        have k18 := old8 _ _ k17 (N7 (L + 1, oT) (.tail _ (.head _))).1
        have k28 := old8 _ _ k27 (N7 (L + 1 + 1, o1) (.head _)).1
        have N8' := N8 [(L + 1 + 1, o1), (L + 1, oT)] (sub_cons (.head _) (sub_cons (.tail _ (.head _)) sub_nil))
        simp only [List.cons_append, List.nil_append] at N8'
        clear N8 N7 old8
        have s38 : S3.StaysIn S8 := fun b o e => st8 _ _ (s37 _ _ e)
        have hnl : (numsF (gath tab ts)).length = tab.length := by
          have h1 := (gath_nums (tab := tab) (ts := ts)).length_eq
          rw [h1]; unfold numsF; rw [hR.nums, List.length_map, List.length_range]
        have hwl8 : ws8.length = tab.length := by rw [IntsAre.length hI8]; exact hnl
        (first | ((try dsimp only); k_unmd; k_fold) | skip)
        clear V7 F7 us7 tkD7 D7 X3 F6 tkG hG tkD2 hD2 z5 hdp
        (repeat' (first | ((with_reducible first | refine hKn _ ?_ | refine hKr _ _ retNe ?_ | refine hKr _ _ contNe ?_); (try clear hKn hKr Kq); (try dsimp only)) | ((with_reducible refine v_copy ‹_› ‹_› (by walk_at "rl") (by walk_at "un") ?_); intro _; walk_at "kl") | (with_reducible first | refine v_gt_int_t (by with_reducible assumption) ?_ | refine v_gt_int_f (by with_reducible assumption) ?_) | ((with_reducible refine v_count (by walk_at "rl") ‹_› ?_); intro _) | (k_unfold; (try dsimp only)) | (k_end; wrow_close) | walk1 | (dsimp only; walk1) | (leave1; try dsimp only) | fail "no step"))
        refine v_sorted_ints F8 N8' (V8.get F8 N8' (sub_t (sub_t sub_refl)) hD8) hI8 (by omega) ?_
        intro D9 hI ws9 ns9 e9 F9 N9 l9 hI9 hp9 ho9
        (first | ((try dsimp only); k_unmd; k_fold) | skip)
        clear l9 hwl8 hnl N8' hI8 hD8 e8 ws8 F8 hH
        (repeat' (first | ((with_reducible first | refine hKn _ ?_ | refine hKr _ _ retNe ?_ | refine hKr _ _ contNe ?_); (try clear hKn hKr Kq); (try dsimp only)) | ((with_reducible refine v_copy ‹_› ‹_› (by walk_at "rl") (by walk_at "un") ?_); intro _; walk_at "kl") | (with_reducible first | refine v_gt_int_t (by with_reducible assumption) ?_ | refine v_gt_int_f (by with_reducible assumption) ?_) | ((with_reducible refine v_count (by walk_at "rl") ‹_› ?_); intro _) | (k_unfold; (try dsimp only)) | (k_end; wrow_close) | walk1 | (dsimp only; walk1) | (leave1; try dsimp only) | fail "no step"))
        refine hide fun Pq9 hq9 => ?_
        obtain ⟨kvs, hDk, hlo, hky, hent⟩ := hT3.mono s38
        have hkl : kvs.length = tab.length := by have := congrArg List.length hky; simpa using this
        refine hq9 ?_; clear hq9 Pq9
        refine v_sorted_dict rfl F9 N9 (Heap.DictOf.keep hDk (V8.up F9 N9 (sub_t (sub_t (sub_t sub_refl))))) hlo (by omega) ?_
        intro D10 hJ tk10 ws10 ns10 e10 F10 N10 l10 hI10 hp10 ho10
        have heq : ns10 = ns9 := by
          refine sorted_eq (hp10.trans ?_) ho10 ho9
          rw [hky, ← hR.nums]
          exact (hp9.trans gath_nums).symm
        rw [heq] at hI10
        have c1 : News s.heap L hJ ((L + 1 + 1, o1) :: (L + 1, oT) :: tl8) := News.sub N10 (sub_t (sub_t sub_refl))
        refine v_ne_ints (N10 _ (.tail _ (.head _))).1 (N10 _ (.head _)).1 hI9 hI10 (by dsimp only [Ar, Around.deeper]; omega) ?_
        have hF18 := s38 _ _ hF1
        have hNf8 := NodesT.mono s38 hNf
        have hT8 := hT3.mono s38
        clear N9 N10 hI9 hI10 hp9 hp10 ho9 ho10 heq hDk hky hent F9
        clear l10 ns10 hkl hlo kvs ek qk ns9 z2
        (repeat' (first | ((with_reducible first | refine hKn _ ?_ | refine hKr _ _ retNe ?_ | refine hKr _ _ contNe ?_); (try clear hKn hKr Kq); (try dsimp only)) | ((with_reducible refine v_copy ‹_› ‹_› (by walk_at "rl") (by walk_at "un") ?_); intro _; walk_at "kl") | (with_reducible first | refine v_gt_int_t (by with_reducible assumption) ?_ | refine v_gt_int_f (by with_reducible assumption) ?_) | ((with_reducible refine v_count (by walk_at "rl") ‹_› ?_); intro _) | (k_unfold; (try dsimp only)) | (k_end; wrow_close) | walk1 | (dsimp only; walk1) | (leave1; try dsimp only) | fail "no step"))
        replace c1 : News s.heap L hJ ([(L + 1 + 1, o1), (L + 1, oT)] ++ tl8) := c1
        have X4 := X.keeps F10.keep
        have T4 := T.keeps F10.keep
        have hcT : hJ.get? (L + 1) = some oT := (c1 (L + 1, oT) (.tail _ (.head _))).1
        refine at_comp_list (L := L) (S := S8) (G := s.heap) (vs := fs) (e := ef) (mu := [(L + 1 + 1, o1), (L + 1, oT)]) (tl := tl8) rfl (by decide) rfl rfl V8 F10 c1 (off_cons k28 (off_cons k18 off_nil)) hF18 (by rw [sizeLine_eq]; omega)
          (fun i ys S' => StrsAre ys (((gath tab ts).take i).map (base tab)) ∧ ys.length ≤ i) ⟨.nil, Nat.le_refl _⟩ (fun i ys S' hj => hj.2) ?turn4 ?done4
        case turn4 =>
          rintro s' ⟨h9, rfl⟩
          intro i v ys S₁ tl₁ h tk C own m₀ hi hP hJx73 V₁ hS hown F₁ N₁
          refine hide fun Pq9 hq9 => ?_
          obtain ⟨hys, hyl⟩ := hJx73
          obtain ⟨t, ht, hv⟩ := (hNf8.mono hS).get hP
          have okt := (gath_mem hR.ok (List.mem_of_getElem? ht)).2
          have hT1 := hT8.mono hS
          obtain ⟨kvT, hDT, hE⟩ := hT1.dict
          refine ex10 (hE _ okt) fun ax lx tx0 tx1 txz txb ex' xx0 xx1 zx hx9 => ?_
          refine ands2 hx9 fun hvx hax => ?_
          clear hx9
          have fin : ∀ tb, StrsAre (ys ++ [.str (base tab t) tb]) (((gath tab ts).take (i + 1)).map (base tab)) ∧ (ys ++ [Value.str (base tab t) tb]).length ≤ i + 1 := fun tb =>
            ⟨by rw [take_snoc ht, List.map_append]; exact strsAre_app hys (.cons _ tb .nil), by rw [List.length_append, List.length_singleton]; omega⟩
          refine hq9 ?_; clear hq9 Pq9
          refine tested_nil ?_
          refine hide fun Pq9 hq9 => ?_
          cases hv with
          | @mk x d l2 n h1 h2 t1 t2 tn e vs ks gx gd gl gk =>
            by_cases h0 : n = 0
            · subst h0
              cases ks with
              | nil => refine hq9 ?_; clear hq9 Pq9; exact absurd okt (by simp [RootOk, wtab, rep])
              | cons kk rest =>
                cases gk with
                | @cons v1 vs' _ _ gv gr =>
                  cases gv with
                  | @mk x' d' l' a' h1' h2' t1' t2' tn' e'' ws ks' gx' gd' gl' gk' =>
                    have hrep : rep (.mk 0 (.mk a' ks' :: rest)) = a' := rfl
                    rw [hrep] at hvx
                    have hpos : ¬ ((0 : Nat) : Int) > 0 := by omega
                    refine hq9 ?_; clear hq9 Pq9
                    (first | ((try dsimp only); k_unmd; k_fold) | skip)
                    clear hrep okt ht gk' gl' ws e'' gr hP hE hT1 hyl hys hS hi h9 T4 hT8 hNf8 hF18 e10 ws10 D10 e9 ws9 hI s38 k28 k18 st8 V8 tkH k27 k17 s37 s57 hcL9 hmu7 hS7 tl7 S7 hD7 st6 S6 s35 st5 S5 hS4 S4 hfl hT3 hNf hF1 st3 ef fs S3 stG SG rs S0 S' z3 hR hTb S2 ho1 hun
                    (repeat' (first | ((with_reducible first | refine hKn _ ?_ | refine hKr _ _ retNe ?_ | refine hKr _ _ contNe ?_); (try clear hKn hKr Kq); (try dsimp only)) | ((with_reducible refine v_copy ‹_› ‹_› (by walk_at "rl") (by walk_at "un") ?_); intro _; walk_at "kl") | (with_reducible first | refine v_gt_int_t (by with_reducible assumption) ?_ | refine v_gt_int_f (by with_reducible assumption) ?_) | ((with_reducible refine v_count (by walk_at "rl") ‹_› ?_); intro _) | (k_unfold; (try dsimp only)) | (k_end; wrow_close) | walk1 | (dsimp only; walk1) | (leave1; try dsimp only) | fail "no step"))
                    exact CEnd.same V₁ hown F₁ N₁ (fin _)
            · rw [rep_pos h0] at hvx
              have hpos : (n : Int) > 0 := by omega
              refine hq9 ?_; clear hq9 Pq9
              (first | ((try dsimp only); k_unmd; k_fold) | skip)
              clear okt ht hP gk gl vs e hE hT1 hyl hys hS hi h9 T4 hT8 hNf8 hF18 e10 ws10 D10 e9 ws9 hI s38 k28 k18 st8 V8 tkH k27 k17 s37 s57 hcL9 hmu7 hS7 tl7 S7 hD7 st6 S6 s35 st5 S5 hS4 S4 hfl hT3 hNf hF1 st3 ef fs S3 stG SG rs S0 S' z3 hR hTb S2 ws ho1 hun
              (repeat' (first | ((with_reducible first | refine hKn _ ?_ | refine hKr _ _ retNe ?_ | refine hKr _ _ contNe ?_); (try clear hKn hKr Kq); (try dsimp only)) | ((with_reducible refine v_copy ‹_› ‹_› (by walk_at "rl") (by walk_at "un") ?_); intro _; walk_at "kl") | (with_reducible first | refine v_gt_int_t (by with_reducible assumption) ?_ | refine v_gt_int_f (by with_reducible assumption) ?_) | ((with_reducible refine v_count (by walk_at "rl") ‹_› ?_); intro _) | (k_unfold; (try dsimp only)) | (k_end; wrow_close) | walk1 | (dsimp only; walk1) | (leave1; try dsimp only) | fail "no step"))
              exact CEnd.same V₁ hown F₁ N₁ (fin _)
        case done4 =>
          rintro DB hL0 tkB9 bs SB tlB FB9 NB9 VB hSB hDnB hmuB hneB ⟨hbs, hbl⟩
          rw [hfl, List.take_length] at hbs
          simp only [List.cons_append, List.nil_append] at NB9
          have m1' : @Ne Nat DB (L + 1) := Ne.symm (hneB _ _ (c1 (L + 1, oT) (.tail _ (.head _))).1)
          have m2' : @Ne Nat DB (L + 1 + 1) := Ne.symm (hneB _ _ (c1 (L + 1 + 1, o1) (.head _)).1)
          have kB1 : SB.get? (L + 1) = none := hmuB _ (.tail _ (.head _))
          have kB2 : SB.get? (L + 1 + 1) = none := hmuB _ (.head _)
          have hbl' : bs.length = (gath tab ts).length := by rw [hbs.length, List.length_map]
          (first | ((try dsimp only); k_unmd; k_fold) | skip)
          clear hbl' hDnB hSB hcT T4 X4 hT8 hNf8 hF18 F10 e10 ws10 D10 e9 ws9 hI s38 k28 k18 st8 V8 S8 tkH k27 k17 s37 s57 hmu7 hS7 tl7 S7 hD7 st6 S6 s35 st5 S5 hS4 S4 hT3 hF1 st3 ef stG SG rs S0 hTb dT dd S2 ws
          (repeat' (first | ((with_reducible first | refine hKn _ ?_ | refine hKr _ _ retNe ?_ | refine hKr _ _ contNe ?_); (try clear hKn hKr Kq); (try dsimp only)) | ((with_reducible refine v_copy ‹_› ‹_› (by walk_at "rl") (by walk_at "un") ?_); intro _; walk_at "kl") | (with_reducible first | refine v_gt_int_t (by with_reducible assumption) ?_ | refine v_gt_int_f (by with_reducible assumption) ?_) | ((with_reducible refine v_count (by walk_at "rl") ‹_› ?_); intro _) | (k_unfold; (try dsimp only)) | (k_end; wrow_close) | walk1 | (dsimp only; walk1) | (leave1; try dsimp only) | fail "no step"))
          rename_i hM oB FM NM dB
          refine hide fun Pq9 hq9 => ?_
          obtain ⟨SC, tlC, VC, stC, haC, ofC, sbC⟩ := VB.adds FM NM (sub_t (sub_t (sub_t sub_refl))) [(DB, lstO bs bs.length)] (sub_cons (.head _) sub_nil)
          have hDBC : SC.get? DB = some (lstO bs bs.length) := haC _ (.head _)
          have NC' : News s.heap L hM ([(L + 1 + 1, oB), (L + 1, oT)] ++ tlC) := News.sub NM (sub_cons (.tail _ (.head _)) (sub_cons (.tail _ (.tail _ (.head _))) sbC))
          have kC1 : SC.get? (L + 1) = none := ofC _ kB1 (off_cons m1' off_nil)
          have kC2 : SC.get? (L + 1 + 1) = none := ofC _ kB2 (off_cons m2' off_nil)
          have X5 := X.keeps FM.keep
          have T5 := T.keeps FM.keep
          have hcB : hM.get? (L + 1 + 1) = some oB := (NM (L + 1 + 1, oB) (.tail _ (.head _))).1
          clear NM haC ofC sbC
          refine hq9 ?_; clear hq9 Pq9
          refine at_comp_list (L := L) (S := SC) (G := s.heap) (vs := bs) (e := bs.length) (mu := [(L + 1 + 1, oB), (L + 1, oT)]) (tl := tlC) rfl (by decide) rfl rfl VC FM NC' (off_cons kC2 (off_cons kC1 off_nil)) hDBC (by rw [sizeLine_eq]; omega)
            (fun i ys S' => ys = []) rfl (fun i ys S' hj => by rw [hj]; exact Nat.zero_le _) ?turn5 ?done5
          case turn5 =>
            rintro s' ⟨h9, rfl⟩
            intro i v ys S₁ tl₁ h tk C own m₀ hi hP hrf75 V₁ hS hown F₁ N₁
            subst hrf75
            refine hide fun Pq9 hq9 => ?_
            obtain ⟨tb, rfl⟩ := strsAre_at hbs i v hP
            obtain ⟨b, hb⟩ : ∃ b, ((gath tab ts).map (base tab))[i]? = some b := ⟨_, List.getElem?_eq_getElem (by rw [List.length_map]; omega)⟩
            rw [List.getD_eq_getElem?_getD, hb, Option.getD_some] at F₁
            have hDB1 := hS _ _ hDBC
            refine hq9 ?_; clear hq9 Pq9
            refine tested_one ?_
            by_cases hb0 : b = Str.ofString ""
            · (first | ((try dsimp only); k_unmd; k_fold) | skip)
              clear hDB1 hb hP hS hi i h9 hcB T5 X5 kC2 kC1 NC' hDBC stC VC tlC dB FM oB kB2 kB1 m2' m1' hbl hbs hneB hmuB VB tlB SB bs hL0 DB tk10 hJ tl8 hcL9 hfl hNf fs S3 S' ys z3 hR tab ts oT ho1 hun o1
              (repeat' (first | ((with_reducible first | refine hKn _ ?_ | refine hKr _ _ retNe ?_ | refine hKr _ _ contNe ?_); (try clear hKn hKr Kq); (try dsimp only)) | ((with_reducible refine v_copy ‹_› ‹_› (by walk_at "rl") (by walk_at "un") ?_); intro _; walk_at "kl") | (with_reducible first | refine v_gt_int_t (by with_reducible assumption) ?_ | refine v_gt_int_f (by with_reducible assumption) ?_) | ((with_reducible refine v_count (by walk_at "rl") ‹_› ?_); intro _) | (k_unfold; (try dsimp only)) | (k_end; wrow_close) | walk1 | (dsimp only; walk1) | (leave1; try dsimp only) | fail "no step"))
              exact CEnd.same V₁ hown F₁ N₁ rfl
            · have hc : ¬ ((((gath tab ts).map (base tab)).count b : Nat) : Int) > 1 := (count_once hR.ok hb).resolve_left hb0
              (first | ((try dsimp only); k_unmd; k_fold) | skip)
              clear hP hi h9 T5 X5 kC2 kC1 NC' stC VC tlC FM kB2 kB1 m2' m1' hbl hneB hmuB VB SB hL0 tk10 hJ tl8 hcL9 hfl hNf fs S3 S' ys z3 ho1 hun o1
              (repeat' (first | ((with_reducible first | refine hKn _ ?_ | refine hKr _ _ retNe ?_ | refine hKr _ _ contNe ?_); (try clear hKn hKr Kq); (try dsimp only)) | ((with_reducible refine v_copy ‹_› ‹_› (by walk_at "rl") (by walk_at "un") ?_); intro _; walk_at "kl") | (with_reducible first | refine v_gt_int_t (by with_reducible assumption) ?_ | refine v_gt_int_f (by with_reducible assumption) ?_) | ((with_reducible refine v_count (by walk_at "rl") ‹_› ?_); intro _) | (k_unfold; (try dsimp only)) | (k_end; wrow_close) | walk1 | (dsimp only; walk1) | (leave1; try dsimp only) | fail "no step"))
              exact CEnd.same V₁ hown F₁ N₁ rfl
          case done5 =>
            rintro DZ hN0 tkZ zs SZ tlZ FZ NZ VZ hSZ hDnZ hmuZ hneZ rfl
            (first | ((try dsimp only); k_unmd; k_fold) | skip)
            clear hneZ hmuZ hDnZ hSZ VZ SZ hcB T5 X5 kC2 kC1 NC' hDBC stC VC tlC SC dB FM hM kB2 kB1 m2' m1' hbl hbs hneB hmuB VB tlB SB bs tkB9 hL0 DB tk10 hJ tl8 hfl tk hNf fs S3 S' ys z3 hR tab ts ho1 o1
            (repeat' (first | ((with_reducible first | refine hKn _ ?_ | refine hKr _ _ retNe ?_ | refine hKr _ _ contNe ?_); (try clear hKn hKr Kq); (try dsimp only)) | ((with_reducible refine v_copy ‹_› ‹_› (by walk_at "rl") (by walk_at "un") ?_); intro _; walk_at "kl") | (with_reducible first | refine v_gt_int_t (by with_reducible assumption) ?_ | refine v_gt_int_f (by with_reducible assumption) ?_) | ((with_reducible refine v_count (by walk_at "rl") ‹_› ?_); intro _) | (k_unfold; (try dsimp only)) | (k_end; wrow_close) | walk1 | (dsimp only; walk1) | (leave1; try dsimp only) | fail "no step"))
            rename_i FY NY lY
            exact h _ _ _ FY.keep
end

section
theorem law_top : PySem.Challenge.rw_or0020_01.Holds := hd (by
  k_go0
  all_goals try k_fold
  rename_i w s0 s1 mg mb G Y fa o pm doc ho hg KX XM VL GL T B TE TW w11 w10 M w9 w8 hcd ns hs hlay0 hL1 hr1 hl2 w6 w5 l vs w2 hL ra w1 r0 hI hr hc1 hc2 K0 hD h1 tk1 F o1 o2 lf rt N0 X0
  refine' law_body (w := w) (s := s1) (l := l) (vs := vs) (ns := ns) (h₁ := h1) (o1 := o1) (o2 := o2) ?look KX (topRead_of T) ?dp ?un hL hI ?n ?F ?N ?o1 ?o2 ?h
  case look => intro p; k_is
  case dp => decide
  case un => decide
  case n => omega
  case F => exact F
  case N => exact N0
  case o1 => exact lf
  case o2 => exact rt
  case h =>
    intro h' tk dr st
    show GoodW _ _ _ _ _ (.ok (.ret (.bool _))) _
    refine ⟨.inl ⟨.bool true, .bool true, [], rfl, raisesW_false ?_, .bool true, ?_, fun _ => ⟨.nil, fun _ h => absurd h List.not_mem_nil⟩⟩, st, rfl, hg⟩
    · wrow_none_raised
    · wrow_post)
end

end Mine
end
theorem PySem.Challenge.cw_or0020_01_holds : PySem.Challenge.rw_or0020_01.Holds := by
  exact Mine.law_top
