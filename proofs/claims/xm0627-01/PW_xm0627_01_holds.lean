import PyProof.Rows.All
import Wide.All
import OpenK.AllK
import Wide.FinOn
import PySem.Challenge.RW_xm0627_01
set_option Elab.async false
set_option maxRecDepth 100000
set_option maxHeartbeats 8000000
set_option linter.unusedVariables false
set_option compiler.extract_closed false
set_option genInjectivity false
set_option genSizeOf false
open PySem PySem.W PyProof.Rows
namespace Mine
noncomputable abbrev HdR (_ : Hook) (P : Prop) : Prop := P
theorem hdr {H : Hook} {P : Prop} (h : P) : HdR H P := h
section
local macro_rules | `(tactic| o_head $H) => `(tactic| exact hdr (H := $H) (by assumption))
noncomputable def HK : Hook := by
  refine' (fun (H : Hook) (_ : PySem.Challenge.rw_xm0627_01.row.Holds → HdR H PySem.Challenge.rw_xm0627_01.row.Holds) => H) _ (fun hyp => ?hold)
  case hold => km_head
end
open PySem.Calls PySem.Spec
noncomputable abbrev Led := List (Addr × Obj)
theorem fmc {α : Type} {p : α → Prop} {a : α} {l : List α} (h : p a) (t : ∀ x ∈ l, p x) : ∀ x ∈ a :: l, p x := List.forall_mem_cons.2 ⟨h, t⟩

/-- the world a contract stands in -/
structure Wd (w : World) (b₀ : Heap) : Prop where
  X : (HK.heap_1 w.params).In b₀
  T : ∃ (p : Program) (loose : List Str) (mean : ExcName → Option Value) (mg mb : Str → Option Value), Top p loose mean mg mb b₀

theorem Wd.keeps {w : World} {b₀ h : Heap} (W : Wd w b₀) (k : b₀.StaysIn h) : Wd w h :=
  ⟨W.X.keeps k, let ⟨p, l, m, mg, mb, T⟩ := W.T; ⟨p, l, m, mg, mb, T.keeps k⟩⟩

/-- room on the stack -/
structure Room (A : Around) (k : Nat) : Prop where
  hh : A.handled = none
  hd : A.depth + k < 900
  hu : A.units + 8 * k < 2000

theorem Room.deeper {A : Around} {k : Nat} (r : Room A (k + 1)) (env : Env) : Room (A.deeper env) k :=
  ⟨r.hh, by rw [depth_deeper]; have := r.hd; omega, by rw [units_deeper]; have := r.hu; omega⟩
theorem Room.in1 {A : Around} {k : Nat} (r : Room A (k + 1)) : Room A.in1 k :=
  ⟨r.hh, by rw [depth_in1]; have := r.hd; omega, by rw [units_in1]; have := r.hu; omega⟩
theorem Room.le {A : Around} {k j : Nat} (r : Room A k) (h : j ≤ k) : Room A j :=
  ⟨r.hh, by have := r.hd; omega, by have := r.hu; omega⟩
theorem Room.lim {A : Around} {k : Nat} (r : Room A k) : A.depth < recursionLimit := by
  have := r.hd
  have e : recursionLimit = 1000 := rfl
  omega
theorem Room.units {A : Around} {k : Nat} (r : Room A k) : A.units ≤ 2000 := by have := r.hu; omega

/-- all but some objects stand as they stood -/
noncomputable def Kept (ch : List Addr) (h h' : Heap) : Prop := ∀ b, b ∉ ch → ∀ o, h.get? b = some o → h'.get? b = some o

/-- what a call leaves: some objects (ch) turned, new ones made -/
noncomputable def Out (ch : List Addr) (s : Shared) (R : Value → Led → Prop) (v : Value) (s' : Shared) : Prop :=
  ∃ h' tk' led, s' = { s with heap := h', toks := tk' } ∧ Kept ch s.heap h' ∧ (∀ p ∈ led, h'.get? p.1 = some p.2 ∧ (p.1 ∈ ch ∨ s.heap.get? p.1 = none)) ∧ R v led

noncomputable abbrev OutR (ch : List Addr) (s : Shared) (R : Value → Led → Prop) (E : Value → Shared → Prop) : Result → Shared → Prop := fun r s' => match r with | .ok (.ret v) => Out ch s R v s' | .ok _ => False | .error e => E e s'
/-- what stands at the end of a body -/
noncomputable def Lv (g : Heap) (s : Shared) (R : Value → Led → Prop) (v : Value) (s' : Shared) : Prop :=
  ∃ L m led, Fr g L s'.heap m ∧ News g L s'.heap led ∧ R v led ∧ ∃ h' tk', s' = { s with heap := h', toks := tk' }

/-- a body's end, for the hand -/
noncomputable def EndAt (news : Led) (R : Value → Led → Prop) (v : Value) : Prop := ∃ led : Led, (∀ p ∈ led, p ∈ news) ∧ R v led
theorem lv_ {g : Heap} {s : Shared} {R : Value → Led → Prop} {v : Value} {h' : Heap} {tk' : Nat} {L : Addr} {m : Str → Option Value} {news : Led} (F : Fr g L h' m) (N : News g L h' news)
    (h : EndAt news R v) : Lv g s R v { s with heap := h', toks := tk' } :=
  let ⟨led, hs, hr⟩ := h
  ⟨L, m, led, F, fun p hp => N p (hs p hp), hr, h', tk', rfl⟩

section
variable {prog : Program} {w : World} {A : Around} {s : Shared} {b₀ : Heap}
  {name qual : Str} {params : Arguments} {body : List Stmt} {scope : Scope} {dV kV doc pm cdv ct oc : Value} {an od : Option Addr} {osl : Array (Option Value)} {f : Addr} {args : List Value}
  {R : Value → Led → Prop} {E : Value → Shared → Prop}

theorem stays_hide {ch : List Addr} {h : Heap} (hb : b₀.StaysIn h) (hm : ∀ a ∈ ch, b₀.get? a = none) : b₀.StaysIn (hideAll h ch) := fun b o e =>
  hideAll_get _ (hb b o e) fun q => by rw [hm b q] at e; cases e

theorem out_of_lv {ch : List Addr} {v : Value} {s' : Shared} (h : Lv (hideAll s.heap ch) s R v s') : Out ch s R v s' := by
  obtain ⟨L, m, led, F, N, hr, h', tk', rfl⟩ := h
  refine ⟨h', tk', led, rfl, fun b hb o e => F.keep b o (hideAll_get _ e hb), fun p hp => ⟨(N p hp).1, ?_⟩, hr⟩
  by_cases hc : p.1 ∈ ch
  · exact .inl hc
  · right
    cases q : s.heap.get? p.1 with
    | none => rfl
    | some o => have := (N p hp).2.2; rw [hideAll_get _ q hc] at this; cases this

theorem enterDc (ch : List Addr) (led₀ : Led) (binds : List (Str × Value)) (W : Wd w b₀) (hb : b₀.StaysIn s.heap) (hm : ∀ a ∈ ch, b₀.get? a = none) (hl : ∀ p ∈ led₀, s.heap.get? p.1 = some p.2 ∧ p.1 ∈ ch)
    (ho : (HK.heap_1 w.params).lookup f = some ⟨oc, od, .func (fnOf name qual params body scope dV kV doc pm an cdv ct), osl⟩) (hcd : codeIn (HK.heap_1 w.params) cdv qual = true) {k : Nat} (r : Room A (k + 1))
    (hbind : BindsTo s (fnOf name qual params body scope dV kV doc pm an cdv ct) ⟨args, []⟩ binds) (hloc : ∀ y ∈ binds, scope.names.lookup y.1 = some .local)
    (h : ∀ g L h₁ tk p loose mean mg mb (dp : Nat) (fr : Option (List Env)) (gd : Option (List Code)) (un : Nat), (HK.heap_1 w.params).In g → Top p loose mean mg mb g → Wd w g → (∀ b, b ∉ ch → ∀ o, s.heap.get? b = some o → g.get? b = some o) → Fr g L h₁ (fun y => binds.reverse.lookup y) →
      News g L h₁ led₀ → Room ⟨none, dp, fr, gd, un⟩ k → (⟨none, dp, fr, gd, un⟩ : Around).units ≤ 2000 →
      wpAny (model prog w) ⟨none, dp, fr, gd, un⟩ (execs body (envOf qual scope L f cdv))
        (fun fl s' => Lv g s R (match fl with | .ret v => v | _ => .none) s') (fun _ _ => False) { s with heap := h₁, toks := tk })
    (hco : scope.isCoroutine = false) (hgen : scope.isGenerator = false) (hk : scope.kind = .function)
    (hcell : ∀ x ∈ scope.names, x.2 ≠ .cell) : codeAny (model prog w) A (.call (.ref f) ⟨args, []⟩) (OutR ch s R E) s := by
  have X : (HK.heap_1 w.params).In s.heap := W.X.keeps hb
  have st := stays_hide hb hm
  have W' := W.keeps st
  obtain ⟨p, loose, mean, mg, mb, T₀⟩ := W.T
  refine (codeAny_call_def (fd := fnOf name qual params body scope dV kV doc pm an cdv ct) (body := body) (binds := binds) r.lim (X _ _ ho) rfl (T₀.nolimit.keeps hb) (codeRec_of X hcd) rfl hbind hcell hloc (fun h₁ hns hk₁ => ?_) hco hgen hk)
  have rd := r.deeper (callEnv (fnOf name qual params body scope dV kV doc pm an cdv ct) s.heap.objs.size f)
  have ed : A.deeper (callEnv (fnOf name qual params body scope dV kV doc pm an cdv ct) s.heap.objs.size f) = ⟨none, A.depth + 1, A.frames.map (callEnv (fnOf name qual params body scope dV kV doc pm an cdv ct) s.heap.objs.size f :: ·), A.guards, A.units + 3⟩ := by
    rw [← r.hh]; rfl
  rw [ed] at rd ⊢
  refine wpAny_mono (h (hideAll s.heap ch) s.heap.objs.size h₁ _ p loose mean mg mb _ _ _ _ W'.X (T₀.keeps st) W' (fun b hb o e => hideAll_get _ e hb)
    ⟨hns, fun b o e => hk₁ b o (of_hideAll _ e), Nat.le_of_eq (hideAll_size _ _)⟩ (fun q hq => ?_) rd rd.units) (fun fl s' hl => ?_) fun _ _ y => y.elim
  · obtain ⟨e, hc⟩ := hl q hq
    exact ⟨hk₁ _ _ e, Nat.ne_of_lt (Heap.lt_size e), hideAll_none _ hc⟩
  · exact out_of_lv hl
theorem enterD (ch : List Addr) (led₀ : Led) (binds : List (Str × Value)) (W : Wd w b₀) (hb : b₀.StaysIn s.heap) (hm : ∀ a ∈ ch, b₀.get? a = none) (hl : ∀ p ∈ led₀, s.heap.get? p.1 = some p.2 ∧ p.1 ∈ ch)
    (ho : (HK.heap_1 w.params).lookup f = some ⟨oc, od, .func (fnOf name qual params body scope dV kV doc pm an cdv ct), osl⟩) (hcd : codeIn (HK.heap_1 w.params) cdv qual = true) {k : Nat} (r : Room A (k + 1))
    (hbind : BindsTo s (fnOf name qual params body scope dV kV doc pm an cdv ct) ⟨args, []⟩ binds) (hloc : ∀ y ∈ binds, scope.names.lookup y.1 = some .local)
    (h : ∀ g L h₁ tk p loose mean mg mb (dp : Nat) (fr : Option (List Env)) (gd : Option (List Code)) (un : Nat), (HK.heap_1 w.params).In g → Top p loose mean mg mb g → Wd w g → (∀ b, b ∉ ch → ∀ o, s.heap.get? b = some o → g.get? b = some o) → Fr g L h₁ (fun y => binds.reverse.lookup y) →
      News g L h₁ led₀ → Room ⟨none, dp, fr, gd, un⟩ k → (⟨none, dp, fr, gd, un⟩ : Around).units ≤ 2000 →
      wpAny (model prog w) ⟨none, dp, fr, gd, un⟩ (execs body (envOf qual scope L f cdv))
        (fun fl s' => Lv g s R (match fl with | .ret v => v | _ => .none) s') (fun _ _ => False) { s with heap := h₁, toks := tk })
    (hco : scope.isCoroutine = false) (hgen : scope.isGenerator = false) (hk : scope.kind = .function)
    (hcell : ∀ x ∈ scope.names, x.2 ≠ .cell) : wpAny (model prog w) A (call (.ref f) args) (Out ch s R) E s := wpAny_call (enterDc ch led₀ binds W hb hm hl ho hcd r hbind hloc h hco hgen hk hcell)
end

section
variable {M : Model} {A : Around} {s : Shared} {t : Sem Value} {R : Value → Led → Prop} {E : Value → Shared → Prop} {Q : Value → Shared → Prop} {g : Heap} {L : Addr} {m : Str → Option Value} {news : Led}

/-- a contract that turns nothing and hands back no object -/
theorem use0 (C : wpAny M A t (Out [] s R) E s) (F : Fr g L s.heap m) (N : News g L s.heap news)
    (k : ∀ v h' tk' led, R v led → Fr g L h' m → News g L h' news → Q v { s with heap := h', toks := tk' }) : wpAny M A t Q E s := by
  refine wpAny_mono C (fun v s' hl => ?_) fun _ _ y => y
  obtain ⟨h', tk', led, rfl, hk, _, hr⟩ := hl
  have hk' : ∀ b o, s.heap.get? b = some o → h'.get? b = some o := fun b o e => hk b (by simp) o e
  exact k v h' tk' led hr (F.keeps hk') (fun q hq => ⟨hk' _ _ (N q hq).1, (N q hq).2⟩)

/-- a contract in full -/
theorem useC {ch : List Addr} {rest : Led} (C : wpAny M A t (Out ch s R) E s) (F : Fr g L s.heap m) (N : News g L s.heap news) (hs : ∀ p ∈ rest, p ∈ news ∧ p.1 ∉ ch) (hc : ∀ a ∈ ch, a ≠ L ∧ g.get? a = none)
    (k : ∀ v h' tk' led, R v led → Fr g L h' m → News g L h' (led ++ rest) → (∀ p ∈ led, p.1 ∈ ch ∨ ∀ q ∈ news, q.1 ≠ p.1) → Q v { s with heap := h', toks := tk' }) : wpAny M A t Q E s := by
  refine wpAny_mono C (fun v s' hl => ?_) fun _ _ y => y
  obtain ⟨h', tk', led, rfl, hk, hled, hr⟩ := hl
  obtain ⟨oL, es, ep, hL, hLd, hLk, hLf⟩ := F.ns
  have hLc : L ∉ ch := fun q => (hc L q).1 rfl
  have hgk : ∀ b o, g.get? b = some o → h'.get? b = some o := fun b o e => hk b (fun q => by rw [(hc b q).2] at e; cases e) o (F.keep b o e)
  refine k v h' tk' led hr ⟨⟨oL, es, ep, hk L hLc _ hL, hLd, hLk, hLf⟩, hgk, F.above⟩ (fun p hp => ?_) (fun p hp => ?_)
  · rcases List.mem_append.mp hp with hp | hp
    · obtain ⟨e, hq⟩ := hled p hp
      refine ⟨e, ?_⟩
      rcases hq with hq | hq
      · exact hc _ hq
      · refine ⟨fun z => ?_, ?_⟩
        · rw [z, hL] at hq; cases hq
        · cases z : g.get? p.1 with
          | none => rfl
          | some o => rw [F.keep _ _ z] at hq; cases hq
    · obtain ⟨h1, h2⟩ := hs p hp
      exact ⟨hk _ h2 _ (N p h1).1, (N p h1).2⟩
  · rcases (hled p hp).2 with hq | hq
    · exact .inl hq
    · right
      intro q hq' z
      rw [← z, (N q hq').1] at hq
      cases hq
end
theorem passes_false {M : Model} {A : Around} {env : Env} : PassesOwn M A env (fun _ _ => False) := fun _ _ h => h.elim
theorem tnS {x : Int} (h : 0 < x) : x.toNat = (x - 1).toNat + 1 := by
  obtain ⟨m, rfl⟩ := Int.eq_succ_of_zero_lt h
  rw [Int.add_sub_cancel]; rfl
theorem tnDown {B a : Int} (h : a < B) : (B - a).toNat = (B - (a + 1)).toNat + 1 := by rw [tnS (Int.sub_pos_of_lt h), Int.sub_sub]
theorem tnUp {c a : Int} (h : a < c) : (c - a).toNat = (c - 1 - a).toNat + 1 := by rw [tnS (Int.sub_pos_of_lt h), Int.sub_sub, Int.sub_sub, Int.add_comm a 1]
theorem nsub1 {n i k : Nat} (h : n - i = k + 1) : n - (i + 1) = k := by rw [Nat.sub_add_eq, h]; rfl
theorem nsubL {n i k : Nat} (h : n - i = k + 1) : i < n := Nat.lt_of_sub_pos (by rw [h]; exact Nat.succ_pos _)
theorem nsub0 {n i : Nat} (h : n - i = 0) (h2 : i ≤ n) : i = n := Nat.le_antisymm h2 (Nat.le_of_sub_eq_zero h)
theorem nless {n i : Nat} (h : i < n) : n + 1 - (i + 1) < n + 1 - i := Nat.sub_succ_lt_self (n + 1) i (Nat.lt_succ_of_lt h)
theorem le7 : ∀ n : Nat, n < 8 → n = 0 ∨ n = 1 ∨ n = 2 ∨ n = 3 ∨ n = 4 ∨ n = 5 ∨ n = 6 ∨ n = 7 := by decide
local macro_rules | `(tactic| next $h:ident => $t) => `(tactic| first | (fail_if_success case' $h:ident => skip) | (case $h:ident => $t))
local macro_rules | `(tactic| walk_at "flat") => `(tactic| try (set_option simprocs false in dsimp only))
local macro_rules | `(tactic| walk_at "noeq") => `(tactic| (repeat (with_reducible rename @Eq Nat _ _ => z9; clear z9); repeat (with_reducible rename @Eq Int _ _ => z9; clear z9)))
local macro_rules | `(tactic| walk_at "num") => `(tactic| first | decide | exact Nat.lt_of_le_of_lt (by with_reducible assumption) (by decide) | exact Nat.le_trans (by with_reducible assumption) (by decide) | exact Nat.lt_trans (by with_reducible assumption) (by decide) | exact Int.lt_of_le_of_lt (by with_reducible assumption) (by decide) | exact Int.lt_trans (by with_reducible assumption) (by decide) | exact Int.lt_of_lt_of_le (by decide) (by with_reducible assumption) | exact Int.le_of_lt (by with_reducible assumption) | exact Nat.le_of_lt (by with_reducible assumption))
local macro_rules | `(tactic| walk_at "om") => `(tactic| first | with_reducible assumption | walk_at "num" | (walk_at "noeq"; omega) | omega | walk_at "small")
local macro_rules | `(tactic| walk_at "std") => `(tactic| ((next W => assumption); (next hT => assumption); (next F => k_asm); (next N => k_asm); (next C => assumption); (next hb => exact Fr.keep (by assumption)); (next hh => exact Room.hh (by assumption)); (next U => first | k_upd | k_updF); (next hm => k_mem); (next ma => k_mem); (next mb => k_mem); (next hsub => walk_at "sub"); (next hi => first | with_reducible assumption | omega); (next hx => assumption); (next hs => with_unfolding_all rfl); (next hne => k_ne); (next a4 => assumption); (next r => walk_at "room"); (next hl => walk_at "om"); (next hlen => walk_at "om"); (next hfit => walk_at "om"); (next hz => walk_at "om"); (next h0 => walk_at "om"); (next h1 => walk_at "om"); (next h2 => walk_at "om"); (next hq => walk_at "om"); (next hn => walk_at "om"); (next hab => walk_at "om")))
local macro_rules | `(tactic| specialize $t) => `(tactic| (k_here; k_dflt (apply $t); k_dflt (walk_at "std"); intros; walk_at "flat"; (try k_sweep)))
local macro_rules | `(tactic| specialize ($t, $n)) => `(tactic| ((with_reducible show wpAny _ _ (call (Value.ref $n) _) _ _ _); specialize $t))
local macro_rules | `(tactic| specialize [$t]) => `(tactic| ((with_reducible show wpAny _ _ (subscriptTail _ _ (Value.ref _) (Value.int _ _)) _ _ _); specialize $t))
local macro_rules | `(tactic| walk_at "kenter") => `(tactic| ((case ho => k_is); (case hcd => k_is); (case hbind => first | exact BindsTo.of_eq rfl | exact binds_K (Frag.In.keeps (Wd.X (by assumption)) (by assumption)) rfl (by k_is) rfl rfl rfl); (next hkind => exact rfl); (next hnd => decide +kernel); (next hloc => exact locs rfl); (case c1 => rfl); (case c2 => rfl); (case c3 => rfl); (next c4 => decide)))
section
variable {M : Model} {A : Around} {s : Shared} {t : Sem Value} {E : Value → Shared → Prop} {Q : Value → Shared → Prop} {g : Heap} {L : Addr} {m : Str → Option Value} {news : Led}
theorem useV {x : Value} (C : wpAny M A t (Out [] s (fun v _ => v = x)) E s) (F : Fr g L s.heap m) (N : News g L s.heap news) (k : ∀ h' tk', Fr g L h' m → News g L h' news → Q x { s with heap := h', toks := tk' }) : wpAny M A t Q E s :=
  use0 C F N fun v h' tk' led e F' N' => e ▸ k h' tk' F' N'
theorem useE {f : Tok → Value} (C : wpAny M A t (Out [] s (fun v _ => ∃ tk, v = f tk)) E s) (F : Fr g L s.heap m) (N : News g L s.heap news) (k : ∀ tk h' tk', Fr g L h' m → News g L h' news → Q (f tk) { s with heap := h', toks := tk' }) : wpAny M A t Q E s :=
  use0 C F N fun v h' tk' led e F' N' => e.elim fun tk e => e ▸ k tk h' tk' F' N'
end
/-- a table's places -/
structure TabS where
  t : Addr
  d : Addr
  la : Addr
  ln : Addr
  tk : Nat → Nat
  vs : Nat → Value
  n : Nat
  en : Nat
noncomputable abbrev tabEs (w : World) (T : TabS) : List DictEntry := [
  ⟨PyData.keyHash w.params (Str.ofString "number"), .str (Str.ofString "number") (T.tk 0), T.vs 0⟩,
  ⟨PyData.keyHash w.params (Str.ofString "mark"), .str (Str.ofString "mark") (T.tk 1), T.vs 1⟩,
  ⟨PyData.keyHash w.params (Str.ofString "size"), .str (Str.ofString "size") (T.tk 2), T.vs 2⟩,
  ⟨PyData.keyHash w.params (Str.ofString "meta"), .str (Str.ofString "meta") (T.tk 3), T.vs 3⟩,
  ⟨PyData.keyHash w.params (Str.ofString "flags"), .str (Str.ofString "flags") (T.tk 4), T.vs 4⟩,
  ⟨PyData.keyHash w.params (Str.ofString "weak"), .str (Str.ofString "weak") (T.tk 5), T.vs 5⟩,
  ⟨PyData.keyHash w.params (Str.ofString "array"), .str (Str.ofString "array") (T.tk 6), .ref T.la⟩,
  ⟨PyData.keyHash w.params (Str.ofString "nodes"), .str (Str.ofString "nodes") (T.tk 7), .ref T.ln⟩,
  ⟨PyData.keyHash w.params (Str.ofString "log_nodes"), .str (Str.ofString "log_nodes") (T.tk 8), T.vs 8⟩,
  ⟨PyData.keyHash w.params (Str.ofString "free"), .str (Str.ofString "free") (T.tk 9), T.vs 9⟩]
noncomputable abbrev tled (w : World) (T : TabS) (arr : List Value) (e : Nat) : Led := [(T.t, instObj 424 T.d), (T.d, dictOf (tabEs w T) 10), (T.la, W.listOf arr.toArray e), (T.ln, W.listOf #[] T.en)]
noncomputable abbrev TabS.ch (T : TabS) : List Addr := [T.t, T.d, T.la, T.ln]
structure TabOk (b₀ : Heap) (T : TabS) : Prop where
  h1 : @LT.lt Nat _ T.d T.t
  h2 : @LT.lt Nat _ T.t T.la
  h3 : @LT.lt Nat _ T.la T.ln
  n1 : b₀.get? T.t = none
  n2 : b₀.get? T.d = none
  n3 : b₀.get? T.la = none
  n4 : b₀.get? T.ln = none
theorem TabOk.hm {b₀ : Heap} {T : TabS} (o : TabOk b₀ T) : ∀ a ∈ T.ch, b₀.get? a = none := by
  intro a ha
  simp only [TabS.ch, List.mem_cons, List.not_mem_nil, or_false] at ha
  rcases ha with rfl | rfl | rfl | rfl
  · exact o.n1
  · exact o.n2
  · exact o.n3
  · exact o.n4
noncomputable abbrev Has (h : Heap) (l : Led) : Prop := ∀ p ∈ l, h.get? p.1 = some p.2
theorem hl_tab {w : World} {h : Heap} {T : TabS} {arr : List Value} {e : Nat} (H : Has h (tled w T arr e)) : ∀ p ∈ tled w T arr e, h.get? p.1 = some p.2 ∧ p.1 ∈ T.ch := by
  intro p hp
  refine ⟨H p hp, ?_⟩
  simp only [tled, List.mem_cons, List.not_mem_nil, or_false] at hp
  rcases hp with rfl | rfl | rfl | rfl <;> simp [TabS.ch]

local macro_rules | `(tactic| walk_at "kfill") => `(tactic| (have X9 := Wd.X (by assumption); revert X9; k_fill; intro X9; clear X9))
local macro_rules | `(tactic| walk_at "Lv") => `(tactic| (refine lv_ (by assumption) (by assumption) ?_))
local macro_rules | `(tactic| walk_at "room") => `(tactic| first | assumption | exact Room.le (by assumption) (by decide) | exact Room.le (Room.in1 (by assumption)) (by decide))

section
variable {w : World} {A : Around} {s : Shared} {b₀ : Heap} {E : Value → Shared → Prop} (W : Wd w b₀) (hb : b₀.StaysIn s.heap)
include W hb
theorem is_number_int (r : Room A 1) (i : Int) (t : Tok) : wpAny (model PySem.Challenge.rw_xm0627_01.row.prog w) A (call (.ref 106) [.int i t]) (Out [] s (fun v _ => v = .bool true)) E s := by
  walk_at "kfill"
  refine' enterD [] [] [(Str.ofString "value", .int i t)] W hb (fun _ h => nomatch h) (fun _ h => nomatch h) ?ho ?hcd r ?hbind ?hloc ?_ ?c1 ?c2 ?c3 ?c4
  walk_at "kenter"
  intro g L h₁ tk p loose mean mg mb dp fr gd un X TP W' hg F N r' hU
  k_fold
  k_steps
  exact ⟨[], (fun _ h => nomatch h), rfl⟩
end
local macro_rules | `(tactic| walk_at "call ref") => `(tactic| specialize (Mine.useV (Mine.is_number_int ?W ?hb ?r _ _), 106))

section
variable {w : World} {A : Around} {s : Shared} {b₀ : Heap} {E : Value → Shared → Prop} (W : Wd w b₀) (hb : b₀.StaysIn s.heap)
include W hb
theorem array_index_int (r : Room A 2) (i : Int) (t : Tok) : wpAny (model PySem.Challenge.rw_xm0627_01.row.prog w) A (call (.ref 204) [.int i t]) (Out [] s (fun v _ => v = .int i t)) E s := by
  walk_at "kfill"
  refine' enterD [] [] [(Str.ofString "key", .int i t)] W hb (fun _ h => nomatch h) (fun _ h => nomatch h) ?ho ?hcd r ?hbind ?hloc ?_ ?c1 ?c2 ?c3 ?c4
  walk_at "kenter"
  intro g L h₁ tk p loose mean mg mb dp fr gd un X TP W' hg F N r' hU
  k_fold
  k_steps
  exact ⟨[], (fun _ h => nomatch h), rfl⟩
theorem find_node_nil (T : TabS) (arr : List Value) (e : Nat) (hT : TabOk b₀ T) (H : Has s.heap (tled w T arr e)) (r : Room A 2) (i : Int) (t : Tok) :
    wpAny (model PySem.Challenge.rw_xm0627_01.row.prog w) A (call (.ref 247) [.ref T.t, .int i t]) (Out T.ch s (fun v led => led = tled w T arr e ∧ ∃ tk, v = .int (-1) tk)) E s := by
  walk_at "kfill"
  refine' enterD T.ch (tled w T arr e) [(Str.ofString "self", .ref T.t), (Str.ofString "key", .int i t)] W hb hT.hm (hl_tab H) ?ho ?hcd r ?hbind ?hloc ?_ ?c1 ?c2 ?c3 ?c4
  walk_at "kenter"
  intro g L h₁ tk p loose mean mg mb dp fr gd un X TP W' hg F N r' hU
  k_fold
  k_steps
  exact ⟨tled w T arr e, (fun _ h => h), rfl, _, rfl⟩
end
local macro_rules | `(tactic| walk_at "call ref") => `(tactic| specialize (Mine.useV (Mine.array_index_int ?W ?hb ?r _ _), 204))
/-- facts on addresses that omega does not see -/
noncomputable def ALt (a b : Nat) : Prop := a < b
noncomputable def ANe (a b : Nat) : Prop := a ≠ b
theorem ALt.lt {a b : Nat} (h : ALt a b) : a < b := h
theorem ANe.ne {a b : Nat} (h : ANe a b) : a ≠ b := h
noncomputable def AllLt2 (d : Nat) : Led → Prop
  | [] => True
  | [p] => ALt p.1 d
  | p :: q :: r => ALt p.1 d ∧ AllLt2 d (q :: r)
noncomputable def AllNe2 (d : Nat) : Led → Prop
  | [] => True
  | [p] => ANe p.1 d
  | p :: q :: r => ANe p.1 d ∧ AllNe2 d (q :: r)
theorem allLt2_of {d : Addr} : ∀ {l : Led}, (∀ p ∈ l, p.1 < d) → AllLt2 d l
  | [], _ => trivial
  | [p], h => h p (.head _)
  | p :: q :: r, h => ⟨h p (.head _), allLt2_of fun x hx => h x (.tail _ hx)⟩
theorem allNe2_of {d : Addr} : ∀ {l : Led}, (∀ p ∈ l, p.1 ≠ d) → AllNe2 d l
  | [], _ => trivial
  | [p], h => h p (.head _)
  | p :: q :: r, h => ⟨h p (.head _), allNe2_of fun x hx => h x (.tail _ hx)⟩
theorem ltOfA {x D a : Nat} {P : Prop} (h : ALt x D ∧ P) (f : ALt x D ∧ P → ALt a D) : a < D := f h
theorem neOfA {x D a : Nat} {P : Prop} (h : ANe x D ∧ P) (f : ANe x D ∧ P → ANe a D) : a ≠ D := f h
theorem ltOf {x D a : Nat} {P : Prop} (h : x < D ∧ P) (f : x < D ∧ P → a < D) : a < D := f h
theorem neOf {x D a : Nat} {P : Prop} (h : x ≠ D ∧ P) (f : x ≠ D ∧ P → a ≠ D) : a ≠ D := f h
theorem neOfL {y D a : Nat} {P : Prop} (h : a ≠ y ∧ P) (f : a ≠ y ∧ P → a ≠ D) : a ≠ D := f h
theorem pjS {A B C : Prop} (f : B → C) (h : A ∧ B) : C := f h.2
theorem subCons {α : Type} {a : α} {l news : List α} (h : a ∈ news) (r : ∀ p ∈ l, p ∈ news) : ∀ p ∈ a :: l, p ∈ news := (fmc h r)
local macro_rules | `(tactic| k_lt $h:ident) => `(tactic| (replace $h := allLt2_of $h; dsimp only [AllLt2] at $h:ident))
local macro_rules | `(tactic| kl_some) => `(tactic| first | exact And.left | exact And.right | (refine pjS ?_; kl_some))
local macro_rules | `(tactic| kl_no) => `(tactic| first | with_reducible assumption | exact ALt.lt (by with_reducible assumption) | (refine ltOfA (by with_reducible assumption) ?_; kl_some) | (refine ltOf (by with_reducible assumption) ?_; kl_some) | ((show @LT.lt Nat _ _ (@HAdd.hAdd Nat Nat Nat _ _ _)); exact Nat.lt_succ_self _) | ((show @LT.lt Nat _ _ (@HAdd.hAdd Nat Nat Nat _ _ _)); refine Nat.lt_succ_of_lt ?_; kl_no))
local macro_rules | `(tactic| ksw_less) => `(tactic| first | kl_no | (refine Nat.lt_trans ?_ (by with_reducible assumption); ksw_less) | (refine Nat.lt_trans ?_ (ALt.lt (by with_reducible assumption)); ksw_less) | omega)
local macro_rules | `(tactic| walk_at "ne1") => `(tactic| first | with_reducible assumption | exact ANe.ne (by with_reducible assumption) | (refine neOfA (by with_reducible assumption) ?_; kl_some) | (refine neOf (by with_reducible assumption) ?_; kl_some) | (refine neOfL (by with_reducible assumption) ?_; kl_some) | exact Nat.ne_of_lt (by kl_no) | exact Nat.ne_of_gt (by kl_no))
local macro_rules | `(tactic| k_ne) => `(tactic| (refine neN ?_; (try dsimp only); first | walk_at "ne1" | (refine Ne.symm ?_; walk_at "ne1") | exact Nat.ne_of_lt (by ksw_less) | exact Nat.ne_of_gt (by ksw_less) | omega))
local macro_rules | `(tactic| ksw_same) => `(tactic| first | exact List.forall_mem_nil _ | (refine subCons (by k_mem) ?_; ksw_same) | (intro _ hp; repeat (first | exact hp | refine List.Mem.tail _ ?_)))
section
variable {prog : Program} {w : World} {A : Around} {E : Value → Shared → Prop} {s : Shared} {h₀ : Heap} {L D : Addr} {m : Str → Option Value} {news news' : Led} {vs : List Value} {n : Nat} {k : Int} {t : Tok} {v : Value}
theorem len_any {Q : Value → Shared → Prop} (N : News h₀ L s.heap news) (hm : (D, W.listOf vs.toArray n) ∈ news) (hfit : vs.length < 2 ^ 62)
    (h : Q (.int vs.length (s.toks + 1)) { s with toks := s.toks + 1 + 1 }) : wpAny (model prog w) A (call (.builtin "len") [.ref D]) Q E s :=
  PyProof.Rows.len_list (PySem.IsL.isList (n := n) (N _ hm).1) (by rw [List.size_toArray]; omega) (by rw [List.size_toArray]; exact h)
theorem sub_any {value slice : PySem.Expr} {Q : Value → Shared → Prop} (N : News h₀ L s.heap news) (hm : (D, W.listOf vs.toArray n) ∈ news) (h0 : 0 ≤ k) (hfit : k < 2 ^ 63) (hx : vs[k.toNat]? = some v) (h : Q v s)
    (hs : subscripted slice false (.ref D) (.int k t) = operate [.ref D, .int k t] (getItem (.ref D) (.int k t)) := by with_unfolding_all rfl) :
    wpAny (model prog w) A (subscriptTail value slice (.ref D) (.int k t)) Q E s :=
  have hl := PySem.IsL.isList (n := n) (N _ hm).1
  tail_any hl.typeIs slot_list_getitem.lookup (wpAny_getItem_list hl h0 hfit (by simpa using hx) h) hs
theorem set_any {Q : Unit → Shared → Prop} (F : Fr h₀ L s.heap m) (N : News h₀ L s.heap news) (U : Upd D (W.listOf vs.toArray n) (W.listOf (vs.set k.toNat v).toArray n) news news') (h0 : 0 ≤ k) (h1 : k < vs.length) (hfit : k < 2 ^ 63)
    (h : ∀ h', Fr h₀ L h' m → News h₀ L h' news' → Q () { s with heap := h' }) :
    wpAny (model prog w) A (setItem (.ref D) (.int k t) v) Q E s := by
  obtain ⟨pre, post, rfl, rfl, a, b⟩ := U.split
  have z := N (D, W.listOf vs.toArray n) (List.mem_append.mpr (.inr (.head _)))
  have hs : vs.toArray.size = vs.length := by rw [List.size_toArray]
  refine ki_setAt z.1 h0 hfit (by omega) (h _ (F.change (Heap.SameBut.update ..) z.2.1 z.2.2) (ki_turn _ N a b ?_ ?_))
  · show vs.toArray.setIfInBounds k.toNat v = (vs.set k.toNat v).toArray
    apply Array.toList_inj.mp
    simp
  · simp
end
local macro_rules | `(tactic| walk_at "small") => `(tactic| ((try simp only [List.length_set, List.length_replicate, List.length_append, List.length_cons, List.length_nil]); omega))
local macro_rules | `(tactic| walk_at "call builtin:len") => `(tactic| specialize Mine.len_any)
local macro_rules | `(tactic| walk_at "subscriptTail") => `(tactic| specialize [Mine.sub_any])
local macro_rules | `(tactic| walk_at "setItem ref int") => `(tactic| specialize Mine.set_any)
local macro_rules | `(tactic| walk_at "sub") => `(tactic| exact (fmc (by k_mem) ((fmc (by k_mem) ((fmc (by k_mem) ((fmc (by k_mem) (List.forall_mem_nil _)))))))))
local macro_rules | `(tactic| walk_at "ksame") => `(tactic| (intro z h2 h3; (simp only [List.forall_mem_cons, List.not_mem_nil, false_implies, implies_true, and_true, ne_eq] at h2); (simp only [List.contains_cons, List.contains_nil, Bool.or_false, Bool.or_eq_false_iff, beq_eq_false_iff_ne, ne_eq] at h3); (simp [kstB, h2, h3]; done)))

section
variable {w : World} {A : Around} {s : Shared} {b₀ : Heap} {E : Value → Shared → Prop} (W : Wd w b₀) (hb : b₀.StaysIn s.heap)
include W hb
theorem get_int_in_c (T : TabS) (arr : List Value) (e : Nat) (hT : TabOk b₀ T) (H : Has s.heap (tled w T arr e)) (hlen : arr.length < 1000) (r : Room A 3) (i : Int) (t : Tok) (h1 : 1 ≤ i) (h2 : i ≤ arr.length) (v : Value) (hv : arr[(i - 1).toNat]? = some v) :
    codeAny (model PySem.Challenge.rw_xm0627_01.row.prog w) A (.call (.ref 261) ⟨[.ref T.t, .int i t], []⟩) (OutR T.ch s (fun x led => led = tled w T arr e ∧ x = v) E) s := by
  walk_at "kfill"
  refine' enterDc T.ch (tled w T arr e) [(Str.ofString "self", .ref T.t), (Str.ofString "n", .int i t)] W hb hT.hm (hl_tab H) ?ho ?hcd r ?hbind ?hloc ?_ ?c1 ?c2 ?c3 ?c4
  walk_at "kenter"
  intro g L h₁ tk p loose mean mg mb dp fr gd un X TP W' hg F N r' hU
  k_fold
  k_steps
  exact ⟨tled w T arr e, (fun _ h => h), rfl, rfl⟩
theorem get_int_in (T : TabS) (arr : List Value) (e : Nat) (hT : TabOk b₀ T) (H : Has s.heap (tled w T arr e)) (hlen : arr.length < 1000) (r : Room A 3) (i : Int) (t : Tok) (h1 : 1 ≤ i) (h2 : i ≤ arr.length) (v : Value) (hv : arr[(i - 1).toNat]? = some v) :
    wpAny (model PySem.Challenge.rw_xm0627_01.row.prog w) A (call (.ref 261) [.ref T.t, .int i t]) (Out T.ch s (fun x led => led = tled w T arr e ∧ x = v)) E s := wpAny_call (get_int_in_c W hb T arr e hT H hlen r i t h1 h2 v hv)
theorem put_in (T : TabS) (arr : List Value) (e : Nat) (hT : TabOk b₀ T) (H : Has s.heap (tled w T arr e)) (hlen : arr.length < 1000) (r : Room A 3) (i : Int) (t : Tok) (h1 : 1 ≤ i) (h2 : i ≤ arr.length) (v : Value) :
    wpAny (model PySem.Challenge.rw_xm0627_01.row.prog w) A (call (.ref 303) [.ref T.t, .int i t, v, .none]) (Out T.ch s (fun x led => led = tled w T (arr.set (i - 1).toNat v) e ∧ x = .none)) E s := by
  walk_at "kfill"
  refine' enterD T.ch (tled w T arr e) [(Str.ofString "self", .ref T.t), (Str.ofString "key", .int i t), (Str.ofString "value", v), (Str.ofString "heap", .none)] W hb hT.hm (hl_tab H) ?ho ?hcd r ?hbind ?hloc ?_ ?c1 ?c2 ?c3 ?c4
  walk_at "kenter"
  have o1 := hT.h1
  have o2 := hT.h2
  have o3 := hT.h3
  intro g L h₁ tk p loose mean mg mb dp fr gd un X TP W' hg F N r' hU
  k_fold
  k_steps
  exact ⟨tled w T (arr.set (i - 1).toNat v) e, (fun _ h => h), rfl, rfl⟩
end
section
variable {M : Model} {A : Around} {s : Shared} {t : Sem Value} {R : Value → Prop} {E : Value → Shared → Prop} {Q : Value → Shared → Prop} {g b₀ : Heap} {L : Addr} {m : Str → Option Value} {news rest : Led} {w : World} {T : TabS} {arr arr' : List Value} {e e' : Nat}
theorem tabOk_news (hT : TabOk b₀ T) {h : Heap} (N : News g L h news) (hsub : ∀ p ∈ tled w T arr e, p ∈ news) : TabOk g T :=
  ⟨hT.h1, hT.h2, hT.h3, (N _ (hsub (T.t, instObj 424 T.d) (by simp [tled]))).2.2, (N _ (hsub (T.d, dictOf (tabEs w T) 10) (by simp [tled]))).2.2,
    (N _ (hsub (T.la, W.listOf arr.toArray e) (by simp [tled]))).2.2, (N _ (hsub (T.ln, W.listOf #[] T.en) (by simp [tled]))).2.2⟩
/-- a table's contract in a caller whose ledger holds the table -/
theorem useT (C : g.StaysIn s.heap → TabOk g T → Has s.heap (tled w T arr e) → wpAny M A t (Out T.ch s (fun v led => led = tled w T arr' e' ∧ R v)) E s) (hT : TabOk b₀ T) (F : Fr g L s.heap m) (N : News g L s.heap news)
    (hsub : ∀ p ∈ tled w T arr e, p ∈ news) (hs : ∀ p ∈ rest, p ∈ news ∧ p.1 ∉ T.ch) (k : ∀ v h' tk', R v → Fr g L h' m → News g L h' (tled w T arr' e' ++ rest) → Q v { s with heap := h', toks := tk' }) : wpAny M A t Q E s := by
  refine useC (ch := T.ch) (rest := rest) (C F.keep (tabOk_news hT N hsub) fun p hp => (N p (hsub p hp)).1) F N hs (fun a ha => ?_) fun v h' tk' led hr F' N' _ => ?_
  · have key : ∀ p ∈ tled w T arr e, p.1 ≠ L ∧ g.get? p.1 = none := fun p hp => (N p (hsub p hp)).2
    simp only [TabS.ch, List.mem_cons, List.not_mem_nil, or_false] at ha
    rcases ha with rfl | rfl | rfl | rfl
    · exact key (T.t, instObj 424 T.d) (by simp [tled])
    · exact key (T.d, dictOf (tabEs w T) 10) (by simp [tled])
    · exact key (T.la, W.listOf arr.toArray e) (by simp [tled])
    · exact key (T.ln, W.listOf #[] T.en) (by simp [tled])
  · obtain ⟨rfl, hr⟩ := hr
    exact k v h' tk' hr F' N'
end
section
variable {prog : Program} {w : World} {A : Around} {E : Value → Shared → Prop} {s : Shared} {h₀ : Heap} {L D : Addr} {news : Led} {vs : List Value} {ns : List Int} {n j : Nat} {k : Int} {t : Tok}
theorem ints_at {vs : List Value} {ns : List Int} (hi : IntsAre vs ns) {i : Nat} (h : i < ns.length) : ∃ t, vs[i]? = some (.int (ns[i]) t) := hi.get i _ (by simp [h])
/-- an item of the ints ahead or of the nones behind -/
theorem sub_split {value slice : PySem.Expr} {Q : Value → Shared → Prop} (N : News h₀ L s.heap news) (hm : (D, W.listOf (vs ++ List.replicate j Value.none).toArray n) ∈ news) (hi : IntsAre vs ns) (h0 : 0 ≤ k) (h1 : k < ns.length + j) (hfit : k < 2 ^ 63)
    (ha : ∀ x u, k < ns.length → Q (.int x u) s) (hb : (ns.length : Int) ≤ k → Q .none s)
    (hs : subscripted slice false (.ref D) (.int k t) = operate [.ref D, .int k t] (getItem (.ref D) (.int k t)) := by with_unfolding_all rfl) :
    wpAny (model prog w) A (subscriptTail value slice (.ref D) (.int k t)) Q E s := by
  have hl : vs.length = ns.length := hi.length
  by_cases q : k < ns.length
  · obtain ⟨u, hu⟩ := ints_at hi (i := k.toNat) (by omega)
    exact sub_any N hm h0 hfit (by rw [List.getElem?_append_left (by omega)]; exact hu) (ha _ u q) hs
  · refine sub_any (v := .none) N hm h0 hfit ?_ (hb (by omega)) hs
    rw [List.getElem?_append_right (by omega), List.getElem?_replicate, if_pos (by omega)]
end
theorem int_eq {a b : Int} {t : Tok} (h : a = b) : ∃ tk, Value.int a t = Value.int b tk := ⟨t, by rw [h]⟩
theorem fd2 (a : Int) : a.fdiv 2 = a / 2 := Int.fdiv_eq_ediv_of_nonneg _ (by decide)
/-- a halt for the walk -/
noncomputable def Stop (P : Prop) : Prop := P
theorem stopHere {P : Prop} (h : Stop P) : P := h
section
variable {w : World} {A : Around} {s : Shared} {E : Value → Shared → Prop} {Q : Value → Shared → Prop} {b₀ g : Heap} {L : Addr} {m : Str → Option Value} {news : Led} {T : TabS} {arr : List Value} {e : Nat} {i : Int} {t : Tok}
theorem use_find (W : Wd w g) (hT : TabOk b₀ T) (F : Fr g L s.heap m) (N : News g L s.heap news) (hsub : ∀ p ∈ tled w T arr e, p ∈ news) (r : Room A 2)
    (k : ∀ tk h' tk', Fr g L h' m → News g L h' (tled w T arr e) → Q (.int (-1) tk) { s with heap := h', toks := tk' }) : wpAny (model PySem.Challenge.rw_xm0627_01.row.prog w) A (call (.ref 247) [.ref T.t, .int i t]) Q E s :=
  useT (rest := []) (R := fun v => ∃ tk, v = .int (-1) tk) (fun x1 x2 x3 => find_node_nil W x1 _ _ _ x2 x3 r _ _) hT F N hsub (fun _ h => nomatch h) fun v h' tk' hv F' N' => hv.elim fun tk e => e ▸ k tk h' tk' F' (List.append_nil (tled w T arr _) ▸ N')
theorem use_put {v : Value} (W : Wd w g) (hT : TabOk b₀ T) (F : Fr g L s.heap m) (N : News g L s.heap news) (hsub : ∀ p ∈ tled w T arr e, p ∈ news) (hlen : arr.length < 1000) (r : Room A 3) (h1 : 1 ≤ i) (h2 : i ≤ arr.length)
    (k : ∀ h' tk', Fr g L h' m → News g L h' (tled w T (arr.set (i - 1).toNat v) e) → Q .none { s with heap := h', toks := tk' }) : wpAny (model PySem.Challenge.rw_xm0627_01.row.prog w) A (call (.ref 303) [.ref T.t, .int i t, v, .none]) Q E s :=
  useT (rest := []) (R := fun x => x = .none) (fun x1 x2 x3 => put_in W x1 _ _ _ x2 x3 hlen r _ _ h1 h2 _) hT F N hsub (fun _ h => nomatch h) fun v' h' tk' e F' N' => e ▸ k h' tk' F' (List.append_nil (tled w T (arr.set (i - 1).toNat v) _) ▸ N')
end
local macro_rules | `(tactic| walk_at "call ref") => `(tactic| specialize (Mine.use_find, 247))
local macro_rules | `(tactic| walk_at $k:str) => if ["exec While Compare cons nil", "KswEnd", "eval ListComp"].contains k.getString then `(tactic| refine stopHere ?_) else Lean.Macro.throwUnsupported

local macro_rules | `(tactic| walk_at "call ref") => `(tactic| specialize (Mine.use_put, 303))
section
variable {w : World} {A : Around} {s : Shared} {b₀ : Heap} {E : Value → Shared → Prop} (W : Wd w b₀) (hb : b₀.StaysIn s.heap)
include W hb
theorem get_int_out_c (T : TabS) (arr : List Value) (e : Nat) (hT : TabOk b₀ T) (H : Has s.heap (tled w T arr e)) (hlen : arr.length < 1000) (r : Room A 3) (i : Int) (t : Tok) (h1 : arr.length < i) :
    codeAny (model PySem.Challenge.rw_xm0627_01.row.prog w) A (.call (.ref 261) ⟨[.ref T.t, .int i t], []⟩) (OutR T.ch s (fun x led => led = tled w T arr e ∧ x = .none) E) s := by
  walk_at "kfill"
  refine' enterDc T.ch (tled w T arr e) [(Str.ofString "self", .ref T.t), (Str.ofString "n", .int i t)] W hb hT.hm (hl_tab H) ?ho ?hcd r ?hbind ?hloc ?_ ?c1 ?c2 ?c3 ?c4
  walk_at "kenter"
  intro g L h₁ tk p loose mean mg mb dp fr gd un X TP W' hg F N r' hU
  k_fold
  k_steps
  exact ⟨tled w T arr e, (fun _ h => h), rfl, rfl⟩
theorem get_int_out (T : TabS) (arr : List Value) (e : Nat) (hT : TabOk b₀ T) (H : Has s.heap (tled w T arr e)) (hlen : arr.length < 1000) (r : Room A 3) (i : Int) (t : Tok) (h1 : arr.length < i) :
    wpAny (model PySem.Challenge.rw_xm0627_01.row.prog w) A (call (.ref 261) [.ref T.t, .int i t]) (Out T.ch s (fun x led => led = tled w T arr e ∧ x = .none)) E s := wpAny_call (get_int_out_c W hb T arr e hT H hlen r i t h1)
theorem set_int_in (T : TabS) (arr : List Value) (e : Nat) (hT : TabOk b₀ T) (H : Has s.heap (tled w T arr e)) (hlen : arr.length < 1000) (r : Room A 4) (i : Int) (t : Tok) (h1 : 1 ≤ i) (h2 : i ≤ arr.length) (v : Value) :
    wpAny (model PySem.Challenge.rw_xm0627_01.row.prog w) A (call (.ref 289) [.ref T.t, .int i t, v, .none]) (Out T.ch s (fun x led => led = tled w T (arr.set (i - 1).toNat v) e ∧ x = .none)) E s := by
  walk_at "kfill"
  refine' enterD T.ch (tled w T arr e) [(Str.ofString "self", .ref T.t), (Str.ofString "n", .int i t), (Str.ofString "value", v), (Str.ofString "heap", .none)] W hb hT.hm (hl_tab H) ?ho ?hcd r ?hbind ?hloc ?_ ?c1 ?c2 ?c3 ?c4
  walk_at "kenter"
  intro g L h₁ tk p loose mean mg mb dp fr gd un X TP W' hg F N r' hU
  k_fold
  k_steps
  exact ⟨tled w T (arr.set (i - 1).toNat v) e, (fun _ h => h), rfl, rfl⟩
end
section
variable {prog : Program} {w : World} {A : Around} {E : Value → Shared → Prop} {s : Shared} {h₀ : Heap} {L D : Addr} {news : Led} {vs : List Value} {ns : List Int} {n j : Nat}
theorem len_split {Q : Value → Shared → Prop} (N : News h₀ L s.heap news) (hm : (D, W.listOf (vs ++ List.replicate j Value.none).toArray n) ∈ news) (hi : IntsAre vs ns) (hfit : ns.length + j < 1000)
    (h : ∀ z : Int, z = ns.length + j → Q (.int z (s.toks + 1)) { s with toks := s.toks + 1 + 1 }) : wpAny (model prog w) A (call (.builtin "len") [.ref D]) Q E s := by
  have hl : vs.length = ns.length := hi.length
  have e : ((vs ++ List.replicate j Value.none).length : Int) = ns.length + j := by simp [hl]
  refine len_any N hm (by simp [hl]; omega) (h _ e)
end
section
variable {w : World} {A : Around} {s : Shared} {b₀ : Heap} {E : Value → Shared → Prop} (W : Wd w b₀) (hb : b₀.StaysIn s.heap)
local macro_rules | `(tactic| walk_at "call builtin:len") => `(tactic| specialize Mine.len_split)
local macro_rules | `(tactic| walk_at "subscriptTail") => `(tactic| (k_here; (with_reducible show wpAny _ _ (subscriptTail _ _ (Value.ref _) (Value.int _ _)) _ _ _); k_dflt (refine' sub_split ?k1 ?k2 ?k3 ?k4 ?k5 ?k6 ?_ ?_ ?k7; (case k1 => k_asm); (case k2 => k_mem); (case k3 => assumption); (case k4 => first | omega | (rw [fd2]; omega)); (case k5 => first | omega | (rw [fd2]; omega)); (case k6 => first | omega | (rw [fd2]; omega)); (case k7 => with_unfolding_all rfl)); (try intro x' u'); intro hk'))
include W hb
theorem length_spec (T : TabS) (vs : List Value) (ns : List Int) (j : Nat) (hi : IntsAre vs ns) (e : Nat) (hT : TabOk b₀ T) (H : Has s.heap (tled w T (vs ++ List.replicate j Value.none) e)) (hlen : ns.length + j < 1000) (r : Room A 3) :
    wpAny (model PySem.Challenge.rw_xm0627_01.row.prog w) A (call (.ref 393) [.ref T.t]) (Out T.ch s (fun x led => led = tled w T (vs ++ List.replicate j Value.none) e ∧ ∃ tk, x = .int ns.length tk)) E s := by
  walk_at "kfill"
  refine' enterD T.ch (tled w T (vs ++ List.replicate j Value.none) e) [(Str.ofString "self", .ref T.t)] W hb hT.hm (hl_tab H) ?ho ?hcd r ?hbind ?hloc ?_ ?c1 ?c2 ?c3 ?c4
  walk_at "kenter"
  intro g L h₁ tk p loose mean mg mb dp fr gd un X TP W' hg F N r' hU
  k_fold
  k_steps
  · exact ⟨_, (fun _ h => h), rfl, int_eq (by omega)⟩
  · unfold Stop
    rename Fr _ _ _ _ => F1
    rename News _ _ _ _ => N1
    refine ksw_while (σ := Int × Int × Tok × Tok) (fun _ => tled w T (vs ++ List.replicate j Value.none) e) (fun c => [(Str.ofString "low", .int c.1 c.2.2.1), (Str.ofString "last", .int c.2.1 c.2.2.2)]) (fun _ => True) [Str.ofString "middle"]
      (fun c => 0 ≤ c.1 ∧ c.1 ≤ ns.length ∧ ns.length < c.2.1 ∧ c.2.1 ≤ ns.length + j) (fun c => (c.2.1 - c.1).toNat) (_, _, _, _) F1 N1 trivial (by kst_all) ?_ ?_ passes_false
    · dsimp only
      omega
    · rintro ⟨lo, hi', t1, t2⟩ u h tk9 _ ⟨i1, i2, i3, i4⟩ F2 N2
      dsimp only at i1 i2 i3 i4 ⊢
      k_fold
      k_steps
      · refine ksw_end (_, _, _, _) (by assumption) (by assumption) (fun _ h => h) trivial (by kst_all) (by walk_at "ksame") ?_ ?_ <;> (dsimp only; simp only [fd2] at *; omega)
      · refine ksw_end (_, _, _, _) (by assumption) (by assumption) (fun _ h => h) trivial (by kst_all) (by walk_at "ksame") ?_ ?_ <;> (dsimp only; simp only [fd2] at *; omega)
      · exact ⟨_, (fun _ h => h), rfl, int_eq (by omega)⟩
  · exact ⟨_, (fun _ h => h), rfl, int_eq (by omega)⟩
end
/-- something that may be called -/
noncomputable def Cb (w : World) (g : Heap) (q : Addr) : Prop := ∀ h : Heap, g.StaysIn h → ∃ k, (k = Keeper.frame ∨ k = Keeper.machine ∨ k = Keeper.boundFrame) ∧ Looks (model PySem.Challenge.rw_xm0627_01.row.prog w) h (keeperOf (.ref q)) k
theorem Cb.mono {w : World} {g g' : Heap} {q : Addr} (C : Cb w g q) (k : g.StaysIn g') : Cb w g' q := fun h hs => C h fun b o e => hs b o (k b o e)
theorem Cb.fn {w : World} {g : Heap} {q : Addr} (X : FnAt q g) : Cb w g q := fun h hs => keeps_F h (let ⟨a, b, c, d, e⟩ := X; ⟨a, b, c, d, hs _ _ e⟩)
theorem Cb.meth {w : World} {g : Heap} {q f : Addr} {self : Value} (X : g.get? q = some (methodObj (.ref f) self)) (Y : (HK.heap_1 w.params).In g) (hf : fnIn (HK.heap_1 w.params) f = true) : Cb w g q :=
  fun h hs => keeps_M hf h ⟨hs _ _ X, Y.keeps hs⟩
section
variable {w : World} {A : Around} {E : Value → Shared → Prop} {s : Shared} {env : Env} {pos : Pos} {first : List Value} {Q : Value → Shared → Prop} {q : Addr} {g : Heap}
theorem callWith_C {e : PySem.Expr} {rest : List PySem.Expr} (C : Cb w g q) (h : wpAny (model PySem.Challenge.rw_xm0627_01.row.prog w) A (spliced (backTo pos (starEach (e :: rest) env))) (fun vs s₁ => g.StaysIn s₁.heap ∧ wpAny (model PySem.Challenge.rw_xm0627_01.row.prog w) A (call (.ref q) (first ++ vs)) Q E s₁) E s)
    (he : starEach (e :: rest) env = (false, eval e env) :: starEach rest env := by rfl) (hplain : (backTo pos (starEach rest env)).any (·.1) = false := by rfl) :
    wpAny (model PySem.Challenge.rw_xm0627_01.row.prog w) A (callWith pos (.ref q) first (backTo pos (starEach (e :: rest) env)) []) Q E s := by
  rw [he] at h ⊢
  exact callWith_of (P := g.StaysIn) (by show ((false || (backTo pos (starEach rest env)).any (·.1)) || false) = false; rw [hplain]; rfl) C (evalArgs_plain h)
theorem callWith_C0 (C : Cb w g q) (X : g.StaysIn s.heap) (h : wpAny (model PySem.Challenge.rw_xm0627_01.row.prog w) A (call (.ref q) (first ++ [])) Q E s) : wpAny (model PySem.Challenge.rw_xm0627_01.row.prog w) A (callWith pos (.ref q) first (backTo pos (starEach [] env)) []) Q E s :=
  callWith_of (P := g.StaysIn) rfl C (evalArgs_nil3 ⟨X, h⟩)
end
section
variable {M : Model} {A : Around} {s : Shared} {t : Sem Value} {R : Value → Prop} {E : Value → Shared → Prop} {Q : Value → Shared → Prop} {g : Heap} {L : Addr} {m : Str → Option Value} {news led1 led2 : Led} {ch : List Addr}
/-- a contract over a ledger that stands whole in the caller's -/
theorem useL (C : g.StaysIn s.heap → Has s.heap led1 → wpAny M A t (Out ch s (fun v l => l = led2 ∧ R v)) E s) (F : Fr g L s.heap m) (N : News g L s.heap news) (hsub : ∀ p ∈ led1, p ∈ news) (hcov : ∀ a ∈ ch, ∃ o, (a, o) ∈ led1)
    (k : ∀ v h' tk', R v → Fr g L h' m → News g L h' led2 → Q v { s with heap := h', toks := tk' }) : wpAny M A t Q E s := by
  refine useC (ch := ch) (rest := []) (C F.keep fun p hp => (N p (hsub p hp)).1) F N (fun _ h => nomatch h) (fun a ha => ?_) fun v h' tk' led hr F' N' _ => ?_
  · obtain ⟨o, ho⟩ := hcov a ha
    exact (N _ (hsub _ ho)).2
  · obtain ⟨rfl, hr⟩ := hr
    rw [List.append_nil] at N'
    exact k v h' tk' hr F' N'
end
/-- the three callbacks of a move, over whatever they turn -/
structure Cbs (w : World) (g : Heap) (ch : List Addr) (led : List Value → Nat → Led) (len : Nat) (qg qp qt : Addr) : Prop where
  kg : Cb w g qg
  kp : Cb w g qp
  kt : Cb w g qt
  sub : ∀ arr n, ∀ p ∈ led arr n, p.1 ∈ ch
  cov : ∀ arr n, ∀ a ∈ ch, ∃ o, (a, o) ∈ led arr n
  get : ∀ {s : Shared} {A : Around} {E : Value → Shared → Prop} {arr : List Value} {n : Nat} {i : Int} {t : Tok}, g.StaysIn s.heap → Has s.heap (led arr n) → Room A 6 → arr.length = len → 1 ≤ i → i ≤ len →
    wpAny (model PySem.Challenge.rw_xm0627_01.row.prog w) A (call (.ref qg) [.int i t]) (Out ch s (fun x l => l = led arr n ∧ x = arr.getD (i - 1).toNat .none)) E s
  put : ∀ {s : Shared} {A : Around} {E : Value → Shared → Prop} {arr : List Value} {n : Nat} {i : Int} {t : Tok} {v : Value}, g.StaysIn s.heap → Has s.heap (led arr n) → Room A 6 → arr.length = len → 1 ≤ i → i ≤ len →
    wpAny (model PySem.Challenge.rw_xm0627_01.row.prog w) A (call (.ref qp) [.int i t, v]) (Out ch s (fun _ l => l = led (arr.set (i - 1).toNat v) n ∧ True)) E s
  tick : ∀ {s : Shared} {A : Around} {E : Value → Shared → Prop} {arr : List Value} {n : Nat}, g.StaysIn s.heap → Has s.heap (led arr n) → Room A 6 → n < 100000 →
    wpAny (model PySem.Challenge.rw_xm0627_01.row.prog w) A (call (.ref qt) []) (Out ch s (fun _ l => l = led arr (n + 1) ∧ True)) E s
theorem Cbs.mono {w : World} {g g' : Heap} {ch : List Addr} {led : List Value → Nat → Led} {len : Nat} {qg qp qt : Addr} (C : Cbs w g ch led len qg qp qt) (k : g.StaysIn g') : Cbs w g' ch led len qg qp qt :=
  ⟨C.kg.mono k, C.kp.mono k, C.kt.mono k, C.sub, C.cov, fun h => C.get (fun b o e => h b o (k b o e)), fun h => C.put (fun b o e => h b o (k b o e)), fun h => C.tick (fun b o e => h b o (k b o e))⟩
/-- the loop of a taking-out, from place i on, k steps -/
noncomputable def down : Nat → List Value → Nat → List Value
  | 0, arr, _ => arr
  | k + 1, arr, i => down k (arr.set i (arr.getD (i + 1) .none)) (i + 1)
/-- the loop of a putting-in, from place i downwards, k steps -/
noncomputable def up : Nat → List Value → Nat → List Value
  | 0, arr, _ => arr
  | k + 1, arr, i => up k (arr.set i (arr.getD (i - 1) .none)) (i - 1)
theorem max_left {prog : Program} {w : World} {A : Around} {E : Value → Shared → Prop} {s : Shared} {h₀ : Heap} {L : Addr} {m : Str → Option Value} {news : Led} {a b : Int} {t u : Tok} {Q : Value → Shared → Prop} (hh : A.handled = none) (hab : b ≤ a) (F : Fr h₀ L s.heap m) (N : News h₀ L s.heap news)
    (h : ∀ h' tk, Fr h₀ L h' m → News h₀ L h' news → Q (.int a t) { s with heap := h', toks := tk }) : wpAny (model prog w) A (call (.builtin "max") [.int a t, .int b u]) Q E s :=
  max_two_N hh F N fun h' tk F' N' => by
    rw [if_neg (by omega), if_neg (by omega)]
    exact h h' tk F' N'
theorem up_step {a c : Int} {arr' : List Value} (h : a < c) (h1 : 1 ≤ a) : up (c - 1 - a).toNat (arr'.set (c - 1).toNat (arr'.getD (c - 1 - 1).toNat .none)) (c - 1 - 1).toNat = up (c - a).toNat arr' (c - 1).toNat := by
  have e1 : (c - a).toNat = (c - 1 - a).toNat + 1 := tnUp h
  have e2 : (c - 1 - 1).toNat = (c - 1).toNat - 1 := Int.pred_toNat _
  rw [e1, e2]; rfl
theorem down_step {B a' : Int} {arr' : List Value} (h : a' < B) (h1 : 1 ≤ a') : down (B - (a' + 1)).toNat (arr'.set (a' - 1).toNat (arr'.getD (a' + 1 - 1).toNat .none)) (a' + 1 - 1).toNat = down (B - a').toNat arr' (a' - 1).toNat := by
  have e1 : (B - a').toNat = (B - (a' + 1)).toNat + 1 := tnDown h
  have e2 : (a' + 1 - 1).toNat = (a' - 1).toNat + 1 := by rw [Int.add_sub_cancel]; exact tnS h1
  rw [e1, e2]; rfl
section
variable {w : World} {A : Around} {s : Shared} {E : Value → Shared → Prop} {Q : Value → Shared → Prop} {g : Heap} {L : Addr} {m : Str → Option Value} {ch : List Addr} {led : List Value → Nat → Led} {len : Nat} {qg qp qt : Addr} {arr : List Value} {n : Nat} {i : Int} {t : Tok}
theorem use_cget (C : Cbs w g ch led len qg qp qt) (F : Fr g L s.heap m) (N : News g L s.heap (led arr n)) (r : Room A 6) (hl : arr.length = len) (h1 : 1 ≤ i) (h2 : i ≤ len)
    (k : ∀ h' tk', Fr g L h' m → News g L h' (led arr n) → Q (arr.getD (i - 1).toNat .none) { s with heap := h', toks := tk' }) : wpAny (model PySem.Challenge.rw_xm0627_01.row.prog w) A (call (.ref qg) [.int i t]) Q E s :=
  useL (R := fun v => v = arr.getD (i - 1).toNat .none) (fun x1 x2 => C.get x1 x2 r hl h1 h2) F N (fun _ h => h) (C.cov _ _) fun v h' tk' e F' N' => e ▸ k h' tk' F' N'
theorem use_cput {v : Value} (C : Cbs w g ch led len qg qp qt) (F : Fr g L s.heap m) (N : News g L s.heap (led arr n)) (r : Room A 6) (hl : arr.length = len) (h1 : 1 ≤ i) (h2 : i ≤ len)
    (k : ∀ u h' tk', Fr g L h' m → News g L h' (led (arr.set (i - 1).toNat v) n) → Q u { s with heap := h', toks := tk' }) : wpAny (model PySem.Challenge.rw_xm0627_01.row.prog w) A (call (.ref qp) [.int i t, v]) Q E s :=
  useL (R := fun _ => True) (fun x1 x2 => C.put x1 x2 r hl h1 h2) F N (fun _ h => h) (C.cov _ _) fun v h' tk' _ F' N' => k v h' tk' F' N'
theorem use_ctick (C : Cbs w g ch led len qg qp qt) (F : Fr g L s.heap m) (N : News g L s.heap (led arr n)) (r : Room A 6) (hl : n < 100000)
    (k : ∀ v h' tk', Fr g L h' m → News g L h' (led arr (n + 1)) → Q v { s with heap := h', toks := tk' }) : wpAny (model PySem.Challenge.rw_xm0627_01.row.prog w) A (call (.ref qt) []) Q E s :=
  useL (R := fun _ => True) (fun x1 x2 => C.tick x1 x2 r hl) F N (fun _ h => h) (C.cov _ _) fun v h' tk' _ F' N' => k v h' tk' F' N'
end
local macro_rules | `(tactic| walk_at "callWith ref") => `(tactic| (k_here; k_dflt (refine callWith_C (by first | exact Cbs.kg (by assumption) | exact Cbs.kp (by assumption)) ?_; k_whole)))
local macro_rules | `(tactic| walk_at "callWith ref") => `(tactic| (k_here; k_dflt (refine callWith_C0 (Cbs.kt (by assumption)) (Fr.keep (by assumption)) ?_; k_whole)))
local macro_rules | `(tactic| walk_at "And") => `(tactic| ((with_reducible show Heap.StaysIn _ _ ∧ _); k_dflt (refine ⟨Fr.keep (by k_asm), ?_⟩); try dsimp only [List.nil_append, List.cons_append]))
local macro_rules | `(tactic| walk_at "call ref") => `(tactic| specialize Mine.use_cget)
local macro_rules | `(tactic| walk_at "call ref") => `(tactic| specialize Mine.use_cput)
local macro_rules | `(tactic| walk_at "call ref") => `(tactic| specialize Mine.use_ctick)

section
variable {w : World} {A : Around} {s : Shared} {b₀ : Heap} {E : Value → Shared → Prop} (W : Wd w b₀) (hb : b₀.StaysIn s.heap)
include W hb
theorem remove_at_spec {ch : List Addr} {led : List Value → Nat → Led} {len : Nat} {qg qp qt : Addr} (C : Cbs w b₀ ch led len qg qp qt) (hm : ∀ a ∈ ch, b₀.get? a = none) (arr : List Value) (n : Nat) (H : Has s.heap (led arr n)) (hlen : arr.length = len) (r : Room A 8)
    (B a : Int) (tb ta : Tok) (h1 : 1 ≤ a) (h2 : a ≤ B) (h3 : B ≤ len) (hn : n + (B - a).toNat < 100000) :
    wpAny (model PySem.Challenge.rw_xm0627_01.row.prog w) A (call (.ref 37) [.ref qg, .ref qp, .int B tb, .int a ta, .ref qt])
      (Out ch s (fun x l => ∃ q, x = .ref q ∧ q ∉ ch ∧ l = (q, { cls := .type "tuple", data := .seq [Value.bool true, arr.getD (a - 1).toNat .none].toArray }) :: led ((down (B - a).toNat arr (a - 1).toNat).set (B - 1).toNat .none) (n + (B - a).toNat))) E s := by
  walk_at "kfill"
  refine' enterD ch (led arr n) [(Str.ofString "get", .ref qg), (Str.ofString "put", .ref qp), (Str.ofString "border", .int B tb), (Str.ofString "at", .int a ta), (Str.ofString "tick", .ref qt)] W hb hm (fun p hp => ⟨H p hp, C.sub _ _ p hp⟩) ?ho ?hcd r ?hbind ?hloc ?_ ?c1 ?c2 ?c3 ?c4
  walk_at "kenter"
  intro g L h₁ tk p loose mean mg mb dp fr gd un X TP W' hg F N r' hU
  k_fold
  have hk : b₀.StaysIn g := fun b o e => hg b (fun q => by rw [hm b q] at e; cases e) o (hb b o e)
  have C' := C.mono hk
  clear C
  k_steps
  unfold Stop
  rename Fr _ _ _ _ => F1
  rename News _ _ _ _ => N1
  refine ksw_while (σ := Int × Tok × List Value × Nat) (fun c => led c.2.2.1 c.2.2.2) (fun c => [(Str.ofString "at", .int c.1 c.2.1)]) (fun c => c.2.2.1.length = len) []
      (fun c => a ≤ c.1 ∧ c.1 ≤ B ∧ down (B - c.1).toNat c.2.2.1 (c.1 - 1).toNat = down (B - a).toNat arr (a - 1).toNat ∧ c.2.2.2 + (B - c.1).toNat = n + (B - a).toNat) (fun c => (B - c.1).toNat) (_, _, _, _) F1 N1 ?_ (by kst_all) ?_ ?_ passes_false
  · exact hlen
  · exact ⟨Int.le_refl _, h2, rfl, rfl⟩
  · rintro ⟨a', t', arr', n'⟩ u h tk9 hl' ⟨i1, i2, i3, i4⟩ F2 N2
    dsimp only at hl' i1 i2 i3 i4 N2 ⊢
    clear F1 N1
    k_fold
    k_steps
    · unfold Stop
      refine ksw_end (a' + 1, _, _, n' + 1) (by assumption) (by assumption) (fun _ h => h) ?_ (by kst_all) (by walk_at "ksame") ?_ ?_
      · simpa using hl'
      · exact ⟨by dsimp only; omega, by dsimp only; omega, (down_step (by omega) (by omega)).trans i3, by dsimp only; omega⟩
      · dsimp only; omega
    · rename_i l1
      obtain rfl : a' = B := by omega
      have e0 : (a' - a').toNat = 0 := by omega
      rw [e0] at i3 i4
      refine ⟨_, fun _ h => h, _, rfl, fun hq => ?_, ?_⟩
      · obtain ⟨o, ho⟩ := C'.cov (arr'.set (a' - 1).toNat Value.none) n' _ hq
        exact absurd (l1 _ ho) (Nat.lt_irrefl _)
      · rw [← i3, ← i4]; rfl
end
local macro_rules | `(tactic| walk_at "call builtin:max") => `(tactic| specialize Mine.max_left)
section
variable {w : World} {A : Around} {s : Shared} {b₀ : Heap} {E : Value → Shared → Prop} (W : Wd w b₀) (hb : b₀.StaysIn s.heap)
include W hb
theorem insert_at_spec {ch : List Addr} {led : List Value → Nat → Led} {len : Nat} {qg qp qt : Addr} (C : Cbs w b₀ ch led len qg qp qt) (hm : ∀ a ∈ ch, b₀.get? a = none) (arr : List Value) (n : Nat) (H : Has s.heap (led arr n)) (hlen : arr.length = len) (r : Room A 8)
    (B a : Int) (tb ta : Tok) (v : Value) (h1 : 1 ≤ a) (h2 : a ≤ B + 1) (h3 : B + 1 ≤ len) (hn : n + (B + 1 - a).toNat < 100000) :
    wpAny (model PySem.Challenge.rw_xm0627_01.row.prog w) A (call (.ref 29) [.ref qg, .ref qp, .int B tb, .int a ta, v, .ref qt])
      (Out ch s (fun x l => l = led ((up (B + 1 - a).toNat arr B.toNat).set (a - 1).toNat v) (n + (B + 1 - a).toNat) ∧ True)) E s := by
  walk_at "kfill"
  refine' enterD ch (led arr n) [(Str.ofString "get", .ref qg), (Str.ofString "put", .ref qp), (Str.ofString "border", .int B tb), (Str.ofString "at", .int a ta), (Str.ofString "value", v), (Str.ofString "tick", .ref qt)] W hb hm (fun p hp => ⟨H p hp, C.sub _ _ p hp⟩) ?ho ?hcd r ?hbind ?hloc ?_ ?c1 ?c2 ?c3 ?c4
  walk_at "kenter"
  intro g L h₁ tk p loose mean mg mb dp fr gd un X TP W' hg F N r' hU
  k_fold
  have hk : b₀.StaysIn g := fun b o e => hg b (fun q => by rw [hm b q] at e; cases e) o (hb b o e)
  have C' := C.mono hk
  clear C
  k_steps
  unfold Stop
  rename Fr _ _ _ _ => F1
  rename News _ _ _ _ => N1
  refine ksw_while (σ := Int × Tok × List Value × Nat) (fun c => led c.2.2.1 c.2.2.2) (fun c => [(Str.ofString "slot", .int c.1 c.2.1)]) (fun c => c.2.2.1.length = len) []
      (fun c => a ≤ c.1 ∧ c.1 ≤ B + 1 ∧ up (c.1 - a).toNat c.2.2.1 (c.1 - 1).toNat = up (B + 1 - a).toNat arr B.toNat ∧ c.2.2.2 + (c.1 - a).toNat = n + (B + 1 - a).toNat) (fun c => (c.1 - a).toNat) (_, _, _, _) F1 N1 ?_ (by kst_all) ?_ ?_ passes_false
  · exact hlen
  · exact ⟨by dsimp only; omega, Int.le_refl _, by simp, rfl⟩
  · rintro ⟨c, t', arr', n'⟩ u h tk9 hl' ⟨i1, i2, i3, i4⟩ F2 N2
    dsimp only at hl' i1 i2 i3 i4 N2 ⊢
    clear F1 N1
    k_fold
    k_steps
    · unfold Stop
      refine ksw_end (c - 1, _, _, n' + 1) (by assumption) (by assumption) (fun _ h => h) ?_ (by kst_all) (by walk_at "ksame") ?_ ?_
      · simpa using hl'
      · exact ⟨by dsimp only; omega, by dsimp only; omega, (up_step (by omega) (by omega)).trans i3, by dsimp only; omega⟩
      · dsimp only; omega
    · obtain rfl : c = a := by omega
      have e0 : (c - c).toNat = 0 := by omega
      rw [e0] at i3 i4
      refine ⟨_, fun _ h => h, ?_, trivial⟩
      rw [← i3, ← i4]; rfl
end
section
variable {prog : Program} {w : World} {A : Around} {s : Shared} {b₀ : Heap}
  {name qual : Str} {params : Arguments} {body : List Stmt} {scope : Scope} {dV kV doc pm cdv ct oc : Value} {an od : Option Addr} {osl : Array (Option Value)} {f : Addr} {args : List Value}
  {R : Value → Led → Prop} {E : Value → Shared → Prop}
/-- a def with cells -/
theorem enterCc (ch : List Addr) (led₀ : Led) (binds : List (Str × Value)) (W : Wd w b₀) (hb : b₀.StaysIn s.heap) (hm : ∀ a ∈ ch, b₀.get? a = none) (hl : ∀ p ∈ led₀, s.heap.get? p.1 = some p.2 ∧ p.1 ∈ ch)
    (ho : (HK.heap_1 w.params).lookup f = some ⟨oc, od, .func (fnOf name qual params body scope dV kV doc pm an cdv ct), osl⟩) (hcd : codeIn (HK.heap_1 w.params) cdv qual = true) {k : Nat} (r : Room A (k + 1))
    (hbind : BindsTo s (fnOf name qual params body scope dV kV doc pm an cdv ct) ⟨args, []⟩ binds) (hkind : (binds.all fun y => scope.names.lookup y.1 == some .local || scope.names.lookup y.1 == some .cell) = true)
    (hnd : ((cellsFrom 0 scope.names []).map (·.1)).Nodup)
    (h : ∀ g L h₁ tk cells p loose mean mg mb (dp : Nat) (fr : Option (List Env)) (gd : Option (List Code)) (un : Nat), (HK.heap_1 w.params).In g → Top p loose mean mg mb g → Wd w g → (∀ b, b ∉ ch → ∀ o, s.heap.get? b = some o → g.get? b = some o) → Fr g L h₁ (bindL (envOfC qual scope L f cdv).kindOf binds fun _ => none) →
      News g L h₁ (cells ++ led₀) → CellsAre (bindC (envOfC qual scope L f cdv).kindOf binds fun _ => none) (cellsFrom (L + 1) scope.names []) cells → (∀ p ∈ led₀, p.1 < L) → Room ⟨none, dp, fr, gd, un⟩ k → (⟨none, dp, fr, gd, un⟩ : Around).units ≤ 2000 →
      wpAny (model prog w) ⟨none, dp, fr, gd, un⟩ (execs body (envOfC qual scope L f cdv))
        (fun fl s' => Lv g s R (match fl with | .ret v => v | _ => .none) s') (fun _ _ => False) { s with heap := h₁, toks := tk })
    (hco : scope.isCoroutine = false) (hgen : scope.isGenerator = false) (hk : scope.kind = .function) : codeAny (model prog w) A (.call (.ref f) ⟨args, []⟩) (OutR ch s R E) s := by
  have X : (HK.heap_1 w.params).In s.heap := W.X.keeps hb
  have st := stays_hide hb hm
  have W' := W.keeps st
  obtain ⟨p, loose, mean, mg, mb, T₀⟩ := W.T
  refine (codeAny_call_function (fd := fnOf name qual params body scope dV kV doc pm an cdv ct) r.lim (X _ _ ho) rfl hco hgen rfl (codeRec_of X hcd) (hbind _ _ _ _ ?_))
  refine wpAny_newFunctionEnv_cells hk (kindsX hkind _) fun env' he s' x => ?_
  subst he
  refine ⟨(T₀.nolimit.keeps hb).keeps x.toInCall.keep, codeAny_func ?_⟩
  obtain ⟨h₁, tk, rfl, _⟩ := x.done
  have hk₁ := x.toInCall.keep
  obtain ⟨cells, NC, Y⟩ := Cl.news (h₀ := s.heap) (Nat.le_refl _) fun n c hm => ⟨x.cell n c (lookup_of_mem_nodup (cellsFrom_names scope.names 0 (s.heap.objs.size + 1) [] [] rfl ▸ hnd) hm), x.above n c hm⟩
  have rd := r.deeper (envOfC qual scope s.heap.objs.size f cdv)
  have ed : A.deeper (envOfC qual scope s.heap.objs.size f cdv) = ⟨none, A.depth + 1, A.frames.map (envOfC qual scope s.heap.objs.size f cdv :: ·), A.guards, A.units + 3⟩ := by
    rw [← r.hh]; rfl
  show wpAny _ (A.deeper (envOfC qual scope s.heap.objs.size f cdv)) _ _ _ _
  rw [ed] at rd ⊢
  refine wpAny_mono (h (hideAll s.heap ch) s.heap.objs.size h₁ tk cells p loose mean mg mb _ _ _ _ W'.X (T₀.keeps st) W' (fun b hb o e => hideAll_get _ e hb)
    ⟨x.toInCall.ns, fun b o e => hk₁ b o (of_hideAll _ e), Nat.le_of_eq (hideAll_size _ _)⟩ (fun q hq => ?_) Y (fun q hq => Heap.lt_size (hl q hq).1) rd rd.units) (fun fl s' hl => ?_) fun _ _ y => y.elim
  · rcases List.mem_append.mp hq with hq | hq
    · refine ⟨(NC q hq).1, (NC q hq).2.1, ?_⟩
      cases z : (hideAll s.heap ch).get? q.1 with
      | none => rfl
      | some o => have := of_hideAll _ z; rw [(NC q hq).2.2] at this; cases this
    · obtain ⟨e, hc⟩ := hl q hq
      exact ⟨hk₁ _ _ e, Nat.ne_of_lt (Heap.lt_size e), hideAll_none _ hc⟩
  · exact out_of_lv hl
theorem enterC (ch : List Addr) (led₀ : Led) (binds : List (Str × Value)) (W : Wd w b₀) (hb : b₀.StaysIn s.heap) (hm : ∀ a ∈ ch, b₀.get? a = none) (hl : ∀ p ∈ led₀, s.heap.get? p.1 = some p.2 ∧ p.1 ∈ ch)
    (ho : (HK.heap_1 w.params).lookup f = some ⟨oc, od, .func (fnOf name qual params body scope dV kV doc pm an cdv ct), osl⟩) (hcd : codeIn (HK.heap_1 w.params) cdv qual = true) {k : Nat} (r : Room A (k + 1))
    (hbind : BindsTo s (fnOf name qual params body scope dV kV doc pm an cdv ct) ⟨args, []⟩ binds) (hkind : (binds.all fun y => scope.names.lookup y.1 == some .local || scope.names.lookup y.1 == some .cell) = true)
    (hnd : ((cellsFrom 0 scope.names []).map (·.1)).Nodup)
    (h : ∀ g L h₁ tk cells p loose mean mg mb (dp : Nat) (fr : Option (List Env)) (gd : Option (List Code)) (un : Nat), (HK.heap_1 w.params).In g → Top p loose mean mg mb g → Wd w g → (∀ b, b ∉ ch → ∀ o, s.heap.get? b = some o → g.get? b = some o) → Fr g L h₁ (bindL (envOfC qual scope L f cdv).kindOf binds fun _ => none) →
      News g L h₁ (cells ++ led₀) → CellsAre (bindC (envOfC qual scope L f cdv).kindOf binds fun _ => none) (cellsFrom (L + 1) scope.names []) cells → (∀ p ∈ led₀, p.1 < L) → Room ⟨none, dp, fr, gd, un⟩ k → (⟨none, dp, fr, gd, un⟩ : Around).units ≤ 2000 →
      wpAny (model prog w) ⟨none, dp, fr, gd, un⟩ (execs body (envOfC qual scope L f cdv))
        (fun fl s' => Lv g s R (match fl with | .ret v => v | _ => .none) s') (fun _ _ => False) { s with heap := h₁, toks := tk })
    (hco : scope.isCoroutine = false) (hgen : scope.isGenerator = false) (hk : scope.kind = .function) : wpAny (model prog w) A (call (.ref f) args) (Out ch s R) E s := wpAny_call (enterCc ch led₀ binds W hb hm hl ho hcd r hbind hkind hnd h hco hgen hk)
end
section
variable {prog : Program} {w : World} {A : Around} {E : Value → Shared → Prop} {s : Shared} {g : Heap} {L : Addr} {m : Str → Option Value} {env : Env} {news : Led}
/-- a comprehension's source stands: what is asked of the rest -/
noncomputable def CompAt (prog : Program) (w : World) (A : Around) (env : Env) (elt : PySem.Expr) (x : Str) (ifs : List PySem.Expr) (scope : Scope) (cl : List (Str × Addr)) (p : Value → Bool) (G : Int → Value → Prop) (E : Value → Shared → Prop) (Q : Value → Shared → Prop) (xv : Value) (s₁ : Shared) : Prop :=
  wpAny (model prog w) A (pyIter xv) (fun it s₂ => ∃ I fp wr n P St, it = .ref I ∧ Walks prog w A I fp wr n P St ∧ n ≤ sizeLine ∧ St 0 s₂.heap ∧ (∀ b ∈ fp, b < s₂.heap.objs.size) ∧
      QuietOnC prog w A env scope cl x ifs elt wr P p (fun v y => ∃ i t, v = .int i t ∧ G i y) s₂ ∧
      (∀ D h' tk ys (vs : List Value), s₂.heap.get? D = none → h'.IsList D ys → h'.PlainList D ys → vs.length = n → (∀ j v, vs[j]? = some v → P j v) → Paired (fun v y => ∃ i t, v = .int i t ∧ G i y) (vs.filter p) ys.toList →
        (∀ b o, b ∉ wr → s₂.heap.get? b = some o → h'.get? b = some o) → Q (.ref D) { s₂ with heap := h', toks := tk })) E s₁
theorem comp_open {elt iter : PySem.Expr} {x : Str} {px : Pos} {ifs : List PySem.Expr} {scope : Scope} {cl : List (Str × Addr)} {pos : Pos} {Q : Value → Shared → Prop} (p : Value → Bool) (G : Int → Value → Prop)
    (h : wpAny (model prog w) A (eval iter env) (CompAt prog w A env elt x ifs scope cl p G E Q) E s)
    (hclos : closureFor scope env = pure cl) (hcell : ∀ y ∈ scope.names, y.2 ≠ .cell) (hkind : scope.kind = .function)
    (hnames : ∀ y ∈ scope.names, y.2 = .local → scope.names.lookup y.1 = some .local) (hx : scope.names.lookup x = some .local)
    (hs : ∀ x, foldedSetIterable iter env x = pure x) :
    wpAny (model prog w) A (eval (.ListComp elt [⟨.Name x px, iter, ifs, 0⟩] scope pos) env) Q E s :=
  wpAny_ListComp_free p (fun v y => ∃ i t, v = .int i t ∧ G i y) hclos hcell hkind hnames hx h hs

theorem paired_get {α β : Type} {F : α → β → Prop} : ∀ {vs : List α} {ys : List β}, Paired F vs ys → ∀ (j : Nat) (v : α), vs[j]? = some v → ∃ y, ys[j]? = some y ∧ F v y
  | _, _, .nil, _, _, h => by simp at h
  | _, _, .cons h _, 0, _, e => by simp at e; subst e; exact ⟨_, rfl, h⟩
  | _, _, .cons _ r, j + 1, v, e => by simpa using paired_get r j v (by simpa using e)

theorem comp_range {elt : PySem.Expr} {x : Str} {scope : Scope} {cl : List (Str × Addr)} {G : Int → Value → Prop} {Q : Value → Shared → Prop} {rg : Addr} {a₀ b₀ : Int} {t₀ u₀ v₀ : Tok} {n : Nat} (hh : A.handled = none)
    (hr : IsRange s.heap rg a₀ b₀ 1 t₀ u₀ v₀) (hsmall : Builtin.Range.small a₀ b₀ 1 = true) (hn : Builtin.Range.rangeSize a₀ b₀ 1 = (n : Int)) (hsz : n ≤ sizeLine) (F : Fr g L s.heap m) (N : News g L s.heap news)
    (helt : ∀ (C : Addr) (i : Nat) (t : Tok) (s₂ : Shared) (m₂ : Str → Option Value) (E' : Value → Shared → Prop), s.heap.objs.size ≤ C → i < n → s₂.heap.Ns C m₂ → m₂ x = some (.int (a₀ + i) t) → (∀ b o, s.heap.get? b = some o → s₂.heap.get? b = some o) →
      wpAny (model prog w) A (eval elt (compEnvC scope cl C env)) (fun y s₃ => G (a₀ + i) y ∧ Keeps s₂ s₃) E' s₂)
    (hQ : ∀ D (ys : List Value) e h' tk, Fr g L h' m → News g L h' ((D, W.listOf ys.toArray e) :: news) → (∀ p ∈ news, p.1 ≠ D) → ys.length = n → (∀ i : Nat, i < n → ∃ y, ys[i]? = some y ∧ G (a₀ + i) y) → Q (.ref D) { s with heap := h', toks := tk }) :
    CompAt prog w A env elt x [] scope cl (fun _ => true) G E Q (.ref rg) s := by
  unfold CompAt
  have up : ∀ (s₃ : Shared), (∀ b o, b ∉ [s.heap.objs.size] → (s.heap.push { cls := .type "range_iterator", data := .fields #[rawInt a₀, rawInt (Builtin.Range.rangeSize a₀ b₀ 1), rawInt 1] }).get? b = some o → s₃.heap.get? b = some o) → ∀ b o, s.heap.get? b = some o → s₃.heap.get? b = some o :=
    fun s₃ hk b o e => hk b o (fun hm => by rcases List.mem_cons.mp hm with rfl | hm; exact Nat.lt_irrefl _ (Heap.lt_size e); cases hm) (Heap.get?_push_of_some _ e)
  refine wpAny_pyIter_range hr hsmall ⟨s.heap.objs.size, [s.heap.objs.size], [s.heap.objs.size], n, _, _, rfl, (Walks.range hh _ a₀ 1 n).bound, hsz, (by show IsRangeIter _ _ _ _ _; rw [hn]; simpa using Heap.get?_push_size _ rfl), ?_, ⟨?_, ?_⟩, ?_⟩
  · intro b hb
    show b < (s.heap.push _).objs.size
    rw [Heap.size_push]
    rcases List.mem_cons.mp hb with rfl | hb
    · exact Nat.lt_succ_self _
    · cases hb
  · intro C i v s₃ m₃ E' hC hP hn' hm hk _
    exact wpAny_pure ⟨rfl, s₃.heap, s₃.toks, rfl, fun _ _ e => e⟩
  · intro C i v s₃ m₃ E' hC hP hp hn' hm hk _
    obtain ⟨hi, t, rfl⟩ := hP
    rw [Int.mul_one] at hm ⊢
    exact wpAny_mono (helt C i t s₃ m₃ E' (Nat.le_of_succ_le (by simpa [Heap.size_push] using hC)) hi hn' hm (up s₃ hk)) (fun y s₄ h₄ => ⟨⟨_, _, rfl, h₄.1⟩, h₄.2⟩) fun _ _ e => e
  · intro D h' tk ys vs' hnew hlD hplD hlen hP hF hk
    have keep : ∀ b o, s.heap.get? b = some o → h'.get? b = some o := up { s with heap := h' } hk
    have hft : vs'.filter (fun _ => true) = vs' := List.filter_eq_self.mpr fun _ _ => rfl
    rw [hft] at hF
    obtain ⟨e, he⟩ := hplD
    have hold : s.heap.get? D = none := by
      cases q : s.heap.get? D with
      | none => rfl
      | some o => rw [Heap.get?_push_of_some _ q] at hnew; cases hnew
    have hne : ∀ q ∈ news, q.1 ≠ D := fun q hq z => by rw [← z, (N q hq).1] at hold; cases hold
    obtain ⟨oL, es, ep, hL, _⟩ := id F.ns
    refine hQ D ys.toList e h' tk (F.keeps keep) ?_ hne ?_ ?_
    · intro q hq
      rcases List.mem_cons.mp hq with rfl | hq
      · refine ⟨by show h'.get? D = some (W.listOf ys.toList.toArray e); rw [Array.toArray_toList]; exact he, fun z => ?_, ?_⟩
        · have z : D = L := z
          rw [z, hL] at hold; cases hold
        · cases q : g.get? D with
          | none => rfl
          | some o => rw [F.keep _ _ q] at hold; cases hold
      · exact ⟨keep _ _ (N q hq).1, (N q hq).2⟩
    · rw [← hlen, hF.length]
    · intro i hi
      have hi' : i < vs'.length := by omega
      obtain ⟨y, hy, j, t, hj, hG⟩ := paired_get hF i vs'[i] (List.getElem?_eq_getElem hi')
      obtain ⟨_, t', hv⟩ := hP i vs'[i] (List.getElem?_eq_getElem hi')
      rw [hv] at hj
      injection hj with hj
      rw [Int.mul_one] at hj
      subst hj
      exact ⟨y, hy, hG⟩
end
section
variable {M : Model} {A : Around} {s : Shared} {t : Sem Value} {R : Value → Prop} {E : Value → Shared → Prop} {ch : List Addr} {led : Led}
/-- a contract that leaves what it may turn as it was -/
theorem keeps_of_out (C : wpAny M A t (Out ch s (fun v l => l = led ∧ R v)) E s) (H : Has s.heap led) (hcov : ∀ a ∈ ch, ∃ o, (a, o) ∈ led) : wpAny M A t (fun v s' => R v ∧ Keeps s s') E s := by
  refine wpAny_mono C (fun v s' hl => ?_) fun _ _ y => y
  obtain ⟨h', tk', l, rfl, hk, hl, rfl, hr⟩ := hl
  refine ⟨hr, h', tk', rfl, fun b o e => ?_⟩
  by_cases hb : b ∈ ch
  · obtain ⟨o', ho'⟩ := hcov b hb
    have := H _ ho'
    rw [e] at this
    cases this
    exact (hl _ ho').1
  · exact hk b hb o e
end
section
variable {M : Model} {A : Around} {s : Shared} {E : Value → Shared → Prop} {Q : Value → Shared → Prop} {g : Heap} {L c : Addr} {m mg : Str → Option Value} {news : Led} {env : Env} {x : Str} {pos : Pos} {v : Value} {o : Obj}
/-- a name of the block's own -/
theorem name_loc (F : Fr g L s.heap m) (hL : env.locals = L) (hv : m x = some v) (h : Q v s) (hk : env.scope.kind = .function) (hl : env.kindOf x = some .local) (hd : (x == ("__debug__" : Str)) = false) : wpAny M A (eval (.Name x pos) env) Q E s :=
  wpAny_Name (wpAny_loadName_local hk hl (hL ▸ F.ns) hv h) hd
/-- a captured name -/
theorem name_cel (N : News g L s.heap news) (hc : env.cells.lookup x = some c) (hm : (c, o) ∈ news) (hd : o.data = .cell (some v)) (h : Q v s) (hk : env.scope.kind = .function) (hx : env.kindOf x = some .cell) (hb : (x == ("__debug__" : Str)) = false) : wpAny M A (eval (.Name x pos) env) Q E s :=
  wpAny_Name (wpAny_loadName_cell hk hx hc ⟨o, N.get hm, hd⟩ h) hb
/-- the block's ground: the frame and the ledger, seen from the block's own dict -/
theorem block_ground {h₁ h₂ : Heap} {C : Addr} {m₂ : Str → Option Value} (F : Fr g L h₁ m) (N : News g L h₁ news) (hC : h₁.objs.size ≤ C) (hn : h₂.Ns C m₂) (hk : ∀ b o, h₁.get? b = some o → h₂.get? b = some o) : Fr g C h₂ m₂ ∧ News g C h₂ news :=
  ⟨⟨hn, fun b o e => hk b o (F.keep b o e), Nat.le_trans F.above (Nat.le_trans (Nat.le_of_lt F.ns.lt) hC)⟩, fun p hp => ⟨hk _ _ (N p hp).1, Nat.ne_of_lt (Nat.lt_of_lt_of_le (Heap.lt_size (N p hp).1) hC), (N p hp).2.2⟩⟩
theorem useK {t : Sem Value} {R : Value → Prop} (C : wpAny M A t (fun v s' => R v ∧ Keeps s s') E s) (F : Fr g L s.heap m) (N : News g L s.heap news)
    (k : ∀ v h' tk', R v → Fr g L h' m → News g L h' news → (∀ b o, s.heap.get? b = some o → h'.get? b = some o) → Q v { s with heap := h', toks := tk' }) : wpAny M A t Q E s := by
  refine wpAny_mono C (fun v s' hl => ?_) fun _ _ y => y
  obtain ⟨hr, h', tk', rfl, hk⟩ := hl
  exact k v h' tk' hr (F.keeps hk) (fun q hq => ⟨hk _ _ (N q hq).1, (N q hq).2⟩) hk
end
section
variable {w : World} {A : Around} {s : Shared} {b₀ : Heap} {E : Value → Shared → Prop} (W : Wd w b₀) (hb : b₀.StaysIn s.heap)
include W hb
theorem get_int_any_c (T : TabS) (arr : List Value) (e : Nat) (hT : TabOk b₀ T) (H : Has s.heap (tled w T arr e)) (hlen : arr.length < 1000) (r : Room A 3) (i : Int) (t : Tok) (h1 : 1 ≤ i) :
    codeAny (model PySem.Challenge.rw_xm0627_01.row.prog w) A (.call (.ref 261) ⟨[.ref T.t, .int i t], []⟩) (OutR T.ch s (fun x led => led = tled w T arr e ∧ x = arr.getD (i - 1).toNat .none) E) s := by
  by_cases h2 : i ≤ arr.length
  · refine get_int_in_c W hb T arr e hT H hlen r i t h1 h2 _ ?_
    have hlt : (i - 1).toNat < arr.length := by omega
    rw [List.getD_eq_getElem?_getD, List.getElem?_eq_getElem hlt]; rfl
  · have := get_int_out_c (E := E) W hb T arr e hT H hlen r i t (by omega)
    rwa [List.getD_eq_getElem?_getD, List.getElem?_eq_none (by omega)]
theorem get_int_any (T : TabS) (arr : List Value) (e : Nat) (hT : TabOk b₀ T) (H : Has s.heap (tled w T arr e)) (hlen : arr.length < 1000) (r : Room A 3) (i : Int) (t : Tok) (h1 : 1 ≤ i) :
    wpAny (model PySem.Challenge.rw_xm0627_01.row.prog w) A (call (.ref 261) [.ref T.t, .int i t]) (Out T.ch s (fun x led => led = tled w T arr e ∧ x = arr.getD (i - 1).toNat .none)) E s := wpAny_call (get_int_any_c W hb T arr e hT H hlen r i t h1)
end
theorem tled_cov {w : World} {T : TabS} {arr : List Value} {e : Nat} : ∀ a ∈ T.ch, ∃ o, (a, o) ∈ tled w T arr e := by
  intro a ha
  simp only [TabS.ch, List.mem_cons, List.not_mem_nil, or_false] at ha
  rcases ha with rfl | rfl | rfl | rfl
  · exact ⟨_, .head _⟩
  · exact ⟨_, .tail _ (.head _)⟩
  · exact ⟨_, .tail _ (.tail _ (.head _))⟩
  · exact ⟨_, .tail _ (.tail _ (.tail _ (.head _)))⟩
theorem use_get {w : World} {A : Around} {s : Shared} {b₀ g : Heap} {E : Value → Shared → Prop} {Q : Value → Shared → Prop} {L : Addr} {m : Str → Option Value} {news : Led} {T : TabS} {arr : List Value} {e : Nat} {i : Int} {t : Tok} (W : Wd w g) (hT : TabOk b₀ T) (F : Fr g L s.heap m) (N : News g L s.heap news) (hsub : ∀ p ∈ tled w T arr e, p ∈ news)
    (hlen : arr.length < 1000) (r : Room A 3) (h1 : 1 ≤ i) (k : ∀ h' tk', Fr g L h' m → News g L h' news → (∀ b o, s.heap.get? b = some o → h'.get? b = some o) → Q (arr.getD (i - 1).toNat .none) { s with heap := h', toks := tk' }) :
    wpAny (model PySem.Challenge.rw_xm0627_01.row.prog w) A (call (.ref 261) [.ref T.t, .int i t]) Q E s :=
  have H : Has s.heap (tled w T arr e) := fun p hp => (N p (hsub p hp)).1
  useK (keeps_of_out (get_int_any W F.keep T arr e (tabOk_news hT N hsub) H hlen r i t h1) H tled_cov) F N fun v h' tk' hv F' N' hk => by
    subst hv
    exact k h' tk' F' N' hk
theorem list_eq_map {n : Nat} {ys : List Value} {f : Nat → Value} (hl : ys.length = n) (h : ∀ i : Nat, i < n → ∃ y, ys[i]? = some y ∧ y = f i) : ys = (List.range n).map f := by
  apply List.ext_getElem?
  intro i
  by_cases hi : i < n
  · obtain ⟨y, e, rfl⟩ := h i hi
    rw [e, List.getElem?_map, List.getElem?_range hi]; rfl
  · rw [List.getElem?_eq_none (by omega), List.getElem?_eq_none (by simp; omega)]
theorem range_size {n : Nat} : Builtin.Range.rangeSize 0 (n : Int) 1 = (n : Int) := by
  unfold Builtin.Range.rangeSize; simp; intro h; simp [h]
theorem range_small {n : Nat} (h : n < 1000) : Builtin.Range.small 0 (n : Int) 1 = true := by
  unfold Builtin.Range.small
  rw [range_size]
  simp [Builtin.Range.rangeFitsLong]
  omega
local macro_rules | `(tactic| walk_at "ename") => `(tactic| first | refine name_loc (by assumption) (by rfl) (by assumption) ?_ (by rfl) (by rfl) (by decide) | refine name_cel (by assumption) (by rfl) (by k_mem) (by assumption) ?_ (by rfl) (by rfl) (by decide))

local macro_rules | `(tactic| walk_at "eval Name") => `(tactic| (k_here; k_dflt (walk_at "ename")))
local macro_rules | `(tactic| walk_at "call ref") => `(tactic| specialize (Mine.use_get, 261))
section
variable {w : World} {A : Around} {s : Shared} {b₀ : Heap} {E : Value → Shared → Prop} (W : Wd w b₀) (hb : b₀.StaysIn s.heap)
include W hb
theorem row_spec (T : TabS) (arr : List Value) (e : Nat) (hT : TabOk b₀ T) (H : Has s.heap (tled w T arr e)) (hlen : arr.length < 1000) (r : Room A 8) (n : Nat) (tn : Tok) (hn : n < 1000) :
    wpAny (model PySem.Challenge.rw_xm0627_01.row.prog w) A (call (.ref 445) [.ref T.t, .int n tn])
      (Out T.ch s (fun x l => ∃ q ys e', x = .ref q ∧ q ∉ T.ch ∧ l = (q, PySem.W.listOf ys.toArray e') :: tled w T arr e ∧ ys = (List.range n).map fun i => arr.getD i .none)) E s := by
  walk_at "kfill"
  refine' enterC T.ch (tled w T arr e) [(Str.ofString "t", .ref T.t), (Str.ofString "many", .int n tn)] W hb hT.hm (hl_tab H) ?ho ?hcd r ?hbind ?hkind ?hnd ?_ ?c1 ?c2 ?c3
  walk_at "kenter"
  intro g L h₁ tk cells p loose mean mg mb dp fr gd un X TP W' hg F N Y l1 r' hU
  k_fold
  k_cells Y
  dsimp only [List.cons_append, List.nil_append] at N
  k_steps
  unfold Stop
  refine comp_open (fun _ => true) (fun i y => y = arr.getD i.toNat .none) ?_ rfl ?_ ?_ ?_ ?_ ?_
  · k_steps
    rename IsRange _ _ _ _ _ _ _ _ => rg
    rename Fr _ _ _ _ => F1
    rename News _ _ _ _ => N1
    rename Obj.data _ = _ => d1
    refine comp_range r'.hh rg ?_ ?_ ?_ F1 N1 ?_ ?_ (n := n)
    · exact range_small hn
    · exact range_size
    · rw [sizeLine_eq]; walk_at "om"
    · intro C i t s₂ m₂ E' hC hi hn2 hx hk
      obtain ⟨F2, N2⟩ := block_ground F1 N1 hC hn2 hk
      clear F1 N1
      k_fold
      k_steps
      · rw [show (0 + (i : Int) + 1 - 1) = 0 + i by walk_at "om"]
      · exact ⟨_, _, rfl, by assumption⟩
    · intro D ys e' h' tk' F2 N2 hne hlen' hys
      k_steps
      refine ⟨_ :: tled w T arr e, ?_, D, ys, e', rfl, ?_, rfl, ?_⟩
      · intro p hp
        rcases List.mem_cons.mp hp with rfl | hp
        · exact .head _
        · exact .tail _ (.tail _ hp)
      · intro hD
        obtain ⟨o, ho⟩ := tled_cov (w := w) (arr := arr) (e := e) D hD
        exact hne _ (.tail _ ho) rfl
      · exact list_eq_map hlen' fun i hi => by simpa using hys i hi
  · decide
  · rfl
  · decide
  · rfl
  · intro _; rfl
end
section
variable {prog : Program} {w : World} {A : Around} {E : Value → Shared → Prop} {s : Shared} {env : Env} {h₀ : Heap} {target : PySem.Expr} {body : List Stmt} {Q : Flow → Shared → Prop}
/-- a turn's end, for the hand -/
noncomputable def TurnEnd (h₀ : Heap) (L I : Addr) (o : Obj) (s : Shared) (Inv : (Str → Option Value) → Led → Prop) (s₃ : Shared) : Prop :=
  ∃ h' tk' m' news', s₃ = { s with heap := h', toks := tk' } ∧ Fr h₀ L h' m' ∧ News h₀ L h' ((I, o) :: news') ∧ (∀ p ∈ news', p.1 ≠ I) ∧ Inv m' news'
noncomputable def TurnPost (h₀ : Heap) (L I : Addr) (o : Obj) (s : Shared) (Inv : (Str → Option Value) → Led → Prop) (Q : Flow → Shared → Prop) (f : Flow) (s₃ : Shared) : Prop :=
  match f with
  | .ret v => Q (.ret v) s₃
  | .brk => Q .next s₃
  | _ => TurnEnd h₀ L I o s Inv s₃
/-- a for over a list of the ledger -/
theorem for_list {ax : Addr} {vs : List Value} {n : Nat} {m₀ : Str → Option Value} {news : Led} (Inv : Addr → List Value → (Str → Option Value) → Led → Prop)
    (hh : A.handled = none) (F : Fr h₀ env.locals s.heap m₀) (N : News h₀ env.locals s.heap news) (hm : (ax, PySem.W.listOf vs.toArray n) ∈ news)
    (hi : ∀ I : Addr, (∀ p ∈ news, p.1 < I) → Inv I vs m₀ news)
    (hnil : ∀ I m₁ news₁ h tk, Inv I [] m₁ news₁ → Fr h₀ env.locals h m₁ → News h₀ env.locals h news₁ → Q .next { s with heap := h, toks := tk })
    (hcons : ∀ I v r m₁ news₁ h tk o, Inv I (v :: r) m₁ news₁ → Fr h₀ env.locals h m₁ → o.cls = .type "list_iterator" → News h₀ env.locals h ((I, o) :: news₁) →
      wpAny (model prog w) A (assign target env v) (fun _ s₂ => wpAny (model prog w) A (execs body env) (TurnPost h₀ env.locals I o { s with heap := h, toks := tk } (fun m' news' => (ax, PySem.W.listOf vs.toArray n) ∈ news' ∧ Inv I r m' news') Q) E s₂) E { s with heap := h, toks := tk }) :
    wpAny (model prog w) A (pyIter (.ref ax)) (fun it s₂ => TurnsAt prog w A h₀ env target body Q E it s₂) E s := by
  refine iter_listTurns (lo := PySem.W.listOf vs.toArray n) (vs := vs) (n := n) hh F N hm rfl rfl fun I hlt => ?_
  have key : ∀ (r : List Value) (m₁ : Str → Option Value) (news₁ : Led), Inv I r m₁ news₁ → ItemsRest prog w A E h₀ env target body Q s [(I, "list_iterator")] [(ax, PySem.W.listOf vs.toArray n)] (r.map .val) m₁ news₁ := by
    intro r
    induction r with
    | nil => exact fun m₁ news₁ hI => ItemsRest.zero fun h tk F₁ N₁ => hnil I m₁ news₁ h tk hI F₁ N₁
    | cons v r ih =>
      intro m₁ news₁ hI
      refine ItemsRest.val fun h tk F₁ => AllObj.cons fun o hc => AllObj.nil fun N₁ => ?_
      refine wpAny_mono (hcons I v r m₁ news₁ h tk o hI F₁ hc N₁) (fun _ s₂ h₂ => wpAny_mono h₂ (fun f s₃ q => ?_) fun _ _ e => e) fun _ _ e => e
      cases f with
      | ret v => exact q
      | brk => exact q
      | next =>
        obtain ⟨h', tk', m', news', rfl, F', N', hne, hk, hI'⟩ := q
        exact ⟨h', tk', m', news', rfl, F', N', fun p hp q hq => by rw [List.mem_singleton.mp hq]; exact hne p hp, ⟨hk, trivial⟩, ih m' news' hI'⟩
      | cont =>
        obtain ⟨h', tk', m', news', rfl, F', N', hne, hk, hI'⟩ := q
        exact ⟨h', tk', m', news', rfl, F', N', fun p hp q hq => by rw [List.mem_singleton.mp hq]; exact hne p hp, ⟨hk, trivial⟩, ih m' news' hI'⟩
  exact key vs m₀ news (hi I hlt)
end
section
variable {prog : Program} {w : World} {A : Around} {s : Shared} {b₀ : Heap}
  {name qual : Str} {params : Arguments} {body : PySem.Expr} {scope : Scope} {cl : List (Str × Addr)} {pm ctv : Value} {c' f : Addr} {args : List Value}
  {R : Value → Led → Prop} {E : Value → Shared → Prop}
/-- a lambda of the base is called -/
theorem enterLam (ch : List Addr) (led₀ : Led) (binds : List (Str × Value)) (W : Wd w b₀) (hb : b₀.StaysIn s.heap) (hm : ∀ a ∈ ch, b₀.get? a = none) (hl : ∀ p ∈ led₀, s.heap.get? p.1 = some p.2 ∧ p.1 ∈ ch)
    (ho : b₀.get? f = some (kla_obj name qual params body scope cl pm c' ctv)) (hcd : b₀.CodeRec (.ref c') qual) {k : Nat} (r : Room A (k + 1))
    (hbind : bindArgs (kla_fn name qual params body scope cl pm (.ref c') ctv) ⟨args, []⟩ = pure binds) (hloc : ∀ y ∈ binds, scope.names.lookup y.1 = some .local)
    (h : ∀ g L h₁ tk p loose mean mg mb (dp : Nat) (fr : Option (List Env)) (gd : Option (List Code)) (un : Nat), (HK.heap_1 w.params).In g → Top p loose mean mg mb g → Wd w g → b₀.StaysIn g → Fr g L h₁ (fun y => binds.reverse.lookup y) →
      News g L h₁ led₀ → Room ⟨none, dp, fr, gd, un⟩ k → (⟨none, dp, fr, gd, un⟩ : Around).units ≤ 2000 →
      wpAny (model prog w) ⟨none, dp, fr, gd, un⟩ (eval body (envX qual scope L f (.ref c') cl))
        (fun v s' => Lv g s R v s') (fun _ _ => False) { s with heap := h₁, toks := tk })
    (hco : scope.isCoroutine = false) (hgen : scope.isGenerator = false) (hk : scope.kind = .function)
    (hcell : ∀ x ∈ scope.names, x.2 ≠ .cell) : wpAny (model prog w) A (call (.ref f) args) (Out ch s R) E s := by
  have st := stays_hide hb hm
  have W' := W.keeps st
  obtain ⟨p, loose, mean, mg, mb, T₀⟩ := W.T
  refine wpAny_call (kla_callFunE r.lim (hb _ _ ho) rfl hco hgen rfl (hcd.keeps hb) ?_)
  rw [hbind]
  refine wpAny_pure (wpAny_newFunctionEnv hcell hloc (fun h₁ hns hsb => ⟨((T₀.nolimit).keeps hb).fresh _ hsb, ?_⟩) hk)
  show codeAny _ _ (.expr body (envX qual scope s.heap.objs.size f (.ref c') cl)) _ _
  have hk₁ : ∀ b o, s.heap.get? b = some o → h₁.get? b = some o := fun b o e => hsb.extBut b o (Nat.ne_of_lt (Heap.lt_size e)) (Heap.get?_push_of_some _ e)
  have rd := r.deeper (envX qual scope s.heap.objs.size f (.ref c') cl)
  have ed : A.deeper (envX qual scope s.heap.objs.size f (.ref c') cl) = ⟨none, A.depth + 1, A.frames.map (envX qual scope s.heap.objs.size f (.ref c') cl :: ·), A.guards, A.units + 3⟩ := by
    rw [← r.hh]; rfl
  refine kla_codeExpr ?_
  rw [ed] at rd ⊢
  refine wpAny_mono (h (hideAll s.heap ch) s.heap.objs.size h₁ _ p loose mean mg mb _ _ _ _ W'.X (T₀.keeps st) W' st
    ⟨hns, fun b o e => hk₁ b o (of_hideAll _ e), Nat.le_of_eq (hideAll_size _ _)⟩ (fun q hq => ?_) rd rd.units) (fun v s' hl => ?_) fun _ _ y => y.elim
  · obtain ⟨e, hc⟩ := hl q hq
    exact ⟨hk₁ _ _ e, Nat.ne_of_lt (Heap.lt_size e), hideAll_none _ hc⟩
  · exact out_of_lv hl
end
section
variable {prog : Program} {w : World} {A : Around} {E : Value → Shared → Prop} {s : Shared} {a b : Addr} {xs ys : List Value} {ns : List Int} {Q : Value → Shared → Prop} {h₀ : Heap} {L : Addr} {news : Led}
noncomputable abbrev rowData (ns : List Int) : List PyData := ns.map PyData.int ++ [PyData.none]
theorem row_carried : ∀ {vs : List Value} {ns : List Int}, IntsAre vs ns → CarriedAll (vs ++ [Value.none]) (rowData ns)
  | _, _, .nil => .cons .none .nil
  | _, _, .cons _ t r => .cons (.int _ t) (row_carried r)
theorem row_eqv : ∀ ns : List Int, PyData.eqvAll (rowData ns) (rowData ns) = true
  | [] => by simp [rowData, PyData.eqvAll, PyData.eqv]
  | a :: r => by
    have := row_eqv r
    simp only [rowData] at this
    simp [rowData, PyData.eqvAll, PyData.eqv, this]
theorem row_lay : ∀ ns : List Int, PyData.canLayAll0 (rowData ns) = true
  | [] => by simp [rowData, PyData.canLayAll0, PyData.canLay0]
  | a :: r => by
    have := row_lay r
    simp only [rowData] at this
    simp [rowData, PyData.canLayAll0, PyData.canLay0, this]
theorem row_depth : ∀ ns : List Int, PyData.depthAll (rowData ns) = 0
  | [] => by simp [rowData, PyData.depthAll, PyData.depth]
  | a :: r => by
    have := row_depth r
    simp only [rowData] at this
    simp [rowData, PyData.depthAll, PyData.depth, this]
theorem row_shaped (ns : List Int) : SeqAt.shaped (.list (rowData ns)) = true := by
  simp only [SeqAt.shaped, PyData.canLay0, PyData.depth, row_lay, row_depth]
  decide
/-- two rows of the same ints and a none behind -/
theorem ne_row (ha : s.heap.IsList a (xs ++ [Value.none]).toArray) (hb : s.heap.IsList b (ys ++ [Value.none]).toArray) (hi : IntsAre xs ns) (hj : IntsAre ys ns) (hu : A.units + 64 < cLine) (h : Q (.bool false) s) :
    wpAny (model prog w) A (compareOp .NotEq (.ref a) (.ref b)) Q E s :=
  ne_dataH (reads_newData ha (row_carried hi)) (reads_newData hb (row_carried hj)) (row_shaped _) (row_shaped _) hu (by
    rw [show PyData.eqv (.list (rowData ns)) (.list (rowData ns)) = true by simp only [PyData.eqv]; exact row_eqv ns]
    exact h)
end
section
variable {M : Model} {A : Around} {s : Shared} {t : Sem Value} {R : Value → Led → Prop} {E : Value → Shared → Prop} {Q : Value → Shared → Prop} {g : Heap} {L : Addr} {m : Str → Option Value} {news led1 : Led} {ch : List Addr}
/-- a contract in full, over a ledger that stands whole in the caller's; what it makes is apart from all -/
theorem useN (C : Has s.heap led1 → wpAny M A t (Out ch s R) E s) (F : Fr g L s.heap m) (N : News g L s.heap news) (hsub : ∀ p ∈ led1, p ∈ news) (hcov : ∀ a ∈ ch, ∃ o, (a, o) ∈ led1) (rest : Led) (hs : ∀ p ∈ rest, p ∈ news ∧ p.1 ∉ ch)
    (k : ∀ v h' tk' led, R v led → Fr g L h' m → News g L h' (led ++ rest) → (∀ p ∈ led, p.1 ∈ ch ∨ ∀ q ∈ news, q.1 ≠ p.1) → Q v { s with heap := h', toks := tk' }) : wpAny M A t Q E s :=
  useC (ch := ch) (rest := rest) (C fun p hp => (N p (hsub p hp)).1) F N hs (fun a ha => by
    obtain ⟨o, ho⟩ := hcov a ha
    exact (N _ (hsub _ ho)).2) k
end
theorem fr_st {g h : Heap} {L : Addr} {m : Str → Option Value} (ps : List (Str × Value)) (F : Fr g L h m) (h1 : ∀ p ∈ ps, m p.1 = some p.2) : Fr g L h (kstB m ps) := by
  have em : kstB m ps = m := funext fun y => kstB_eq h1 fun _ => rfl
  rw [em]; exact F
theorem news_tl {g h : Heap} {L : Addr} {p : Addr × Obj} {news : Led} (N : News g L h (p :: news)) : News g L h news := fun q hq => N q (.tail _ hq)
theorem cut_at {vs : List Value} {k : Nat} (h : k < vs.length) : kl_cut vs k = some (vs.take k, vs[k], vs.drop (k + 1)) := by
  induction vs generalizing k with
  | nil => simp at h
  | cons x r ih =>
    cases k with
    | zero => rfl
    | succ k =>
      have h' : k < r.length := by simpa using h
      show (match kl_cut r k with | some (p, y, q) => some (x :: p, y, q) | none => none) = _
      rw [ih h']
      rfl
section
variable {w : World} {A : Around} {s : Shared} {b₀ g : Heap} {E : Value → Shared → Prop} {Q : Value → Shared → Prop} {L : Addr} {m : Str → Option Value} {news : Led} {T : TabS}
theorem use_len {us : List Value} {ns : List Int} {j e : Nat} (W : Wd w g) (hT : TabOk b₀ T) (F : Fr g L s.heap m) (N : News g L s.heap news) (hsub : ∀ p ∈ tled w T (us ++ List.replicate j Value.none) e, p ∈ news) (hi : IntsAre us ns)
    (hlen : ns.length + j < 1000) (r : Room A 3) (k : ∀ tk h' tk', Fr g L h' m → News g L h' news → (∀ b o, s.heap.get? b = some o → h'.get? b = some o) → Q (.int ns.length tk) { s with heap := h', toks := tk' }) :
    wpAny (model PySem.Challenge.rw_xm0627_01.row.prog w) A (call (.ref 393) [.ref T.t]) Q E s :=
  have H : Has s.heap (tled w T (us ++ List.replicate j Value.none) e) := fun p hp => (N p (hsub p hp)).1
  useK (keeps_of_out (length_spec W F.keep T us ns j hi e (tabOk_news hT N hsub) H hlen r) H tled_cov) F N fun v h' tk' hv F' N' hk => by
    obtain ⟨tk, rfl⟩ := hv
    exact k tk h' tk' F' N' hk
theorem use_row {arr : List Value} {e n : Nat} {tn : Tok} (W : Wd w g) (hT : TabOk b₀ T) (F : Fr g L s.heap m) (N : News g L s.heap news) (hsub : ∀ p ∈ tled w T arr e, p ∈ news)
    (hlen : arr.length < 1000) (hn : n < 1000) (r : Room A 8) (k : ∀ q e' h' tk', Fr g L h' m → News g L h' ((q, PySem.W.listOf ((List.range n).map fun i => arr.getD i .none).toArray e') :: news) → (∀ z ∈ news, z.1 ≠ q) → Q (.ref q) { s with heap := h', toks := tk' }) :
    wpAny (model PySem.Challenge.rw_xm0627_01.row.prog w) A (call (.ref 445) [.ref T.t, .int n tn]) Q E s := by
  have H : Has s.heap (tled w T arr e) := fun p hp => (N p (hsub p hp)).1
  refine wpAny_mono (row_spec W F.keep T arr e (tabOk_news hT N hsub) H hlen r n tn hn) (fun v s' hl => ?_) fun _ _ y => y
  obtain ⟨h', tk', l, rfl, hk, hl, q, ys, e', rfl, hq, rfl, rfl⟩ := hl
  have hold : s.heap.get? q = none := (hl _ (.head _)).2.resolve_left hq
  have keep : ∀ b o, s.heap.get? b = some o → h'.get? b = some o := fun b o e9 => by
    by_cases hb : b ∈ T.ch
    · obtain ⟨o', ho'⟩ := tled_cov (w := w) (arr := arr) (e := e) b hb
      have := H _ ho'
      rw [e9] at this
      cases this
      exact (hl _ (.tail _ ho')).1
    · exact hk b hb o e9
  have hne : ∀ z ∈ news, z.1 ≠ q := fun z hz y => by
    have := (N z hz).1
    rw [y, hold] at this; cases this
  refine k q e' h' tk' (F.keeps keep) (fun p hp => ?_) hne
  rcases List.mem_cons.mp hp with rfl | hp
  · refine ⟨(hl _ (.head _)).1, fun y => ?_, ?_⟩
    · have y : q = L := y
      obtain ⟨o, es, ep, hL, _⟩ := F.ns
      rw [y, hL] at hold; cases hold
    · cases y : g.get? q with
      | none => rfl
      | some o => rw [F.keep _ _ y] at hold; cases hold
  · exact ⟨keep _ _ (N p hp).1, (N p hp).2⟩
end
section
variable {prog : Program} {w : World} {A : Around} {E : Value → Shared → Prop} {s : Shared} {h₀ : Heap} {L D : Addr} {m : Str → Option Value} {news news' : Led} {n : Nat}
theorem ints_erase : ∀ {us : List Value} {l : List Int}, IntsAre us l → ∀ k, IntsAre (us.eraseIdx k) (l.eraseIdx k)
  | _, _, .nil, _ => by simpa using IntsAre.nil
  | _, _, .cons _ _ r, 0 => r
  | _, _, .cons a t r, k + 1 => .cons a t (ints_erase r k)
theorem pop_int {us : List Value} {l : List Int} {k : Int} {u : Tok} {Q : Value → Shared → Prop} (F : Fr h₀ L s.heap m) (N : News h₀ L s.heap news) (U : Upd D (PySem.W.listOf us.toArray n) (PySem.W.listOf (us.eraseIdx k.toNat).toArray (n + 1)) news news')
    (hi : IntsAre us l) (h0 : 0 ≤ k) (h1 : k < l.length) (hz : l.length < 1000) (h : ∀ h' t, Fr h₀ L h' m → News h₀ L h' news' → Q (.int (l.getD k.toNat 0) t) { s with heap := h' }) : wpAny (model prog w) A (call (.builtin "list.pop") [.ref D, .int k u]) Q E s := by
  have hlen := hi.length
  have hlt : k.toNat < us.length := by omega
  obtain ⟨t, ht⟩ := ints_at hi (i := k.toNat) (by omega)
  have hx : us[k.toNat] = .int (l.getD k.toNat 0) t := by
    rw [List.getElem?_eq_getElem hlt] at ht
    rw [Option.some.inj ht, List.getD_eq_getElem?_getD, List.getElem?_eq_getElem (by omega)]; rfl
  refine kl_popAt (its := us.toArray) (n := n) (k := k.toNat) (p := us.take k.toNat) (q := us.drop (k.toNat + 1)) (y := .int (l.getD k.toNat 0) t) F N ?_ ?_ ?_ (news' := news') ?_ ?_ (fun h' F' N' => h h' t F' N')
  · simp only [Builtin.List.listFitsIndex, Bool.and_eq_true, decide_eq_true_eq]; omega
  · have e1 : (if k < 0 then k + (us.length : Int) else k) = k := if_neg (by omega)
    simp only [seqIndex?, List.size_toArray, e1]
    exact if_pos (by simp; omega)
  · rw [← hx]; simpa using cut_at hlt
  · rw [← List.eraseIdx_eq_take_drop_succ]; exact U
  · rw [sizeLine_eq]; simp; omega
end
theorem down_pre {tail : List Value} : ∀ (r pre : List Value) (y : Value), ∃ z, down r.length (pre ++ y :: (r ++ tail)) pre.length = pre ++ r ++ z :: tail
  | [], pre, y => ⟨y, by simp [down]⟩
  | u :: r, pre, y => by
    obtain ⟨z, hz⟩ := down_pre (tail := tail) r (pre ++ [u]) u
    refine ⟨z, ?_⟩
    show down r.length ((pre ++ y :: (u :: r ++ tail)).set pre.length ((pre ++ y :: (u :: r ++ tail)).getD (pre.length + 1) .none)) (pre.length + 1) = _
    have e1 : (pre ++ y :: (u :: r ++ tail)).getD (pre.length + 1) .none = u := by
      rw [List.getD_eq_getElem?_getD, List.getElem?_append_right (by omega)]
      simp
    have e2 : (pre ++ y :: (u :: r ++ tail)).set pre.length u = (pre ++ [u]) ++ u :: (r ++ tail) := by
      rw [List.set_append_right _ _ (Nat.le_refl _)]
      simp
    rw [e1, e2, show pre.length + 1 = (pre ++ [u]).length by simp, hz]
    simp
theorem down_erase {us : List Value} {k j : Nat} (h : k < us.length) : (down (us.length - (k + 1)) (us ++ List.replicate j Value.none) k).set (us.length - 1) .none = us.eraseIdx k ++ List.replicate (j + 1) Value.none := by
  have hp : (us.take k).length = k := by simp; omega
  have hr : (us.drop (k + 1)).length = us.length - (k + 1) := by simp
  obtain ⟨z, hz⟩ := down_pre (tail := List.replicate j Value.none) (us.drop (k + 1)) (us.take k) us[k]
  have e : us.take k ++ us[k] :: (us.drop (k + 1) ++ List.replicate j Value.none) = us ++ List.replicate j Value.none := by
    rw [← List.cons_append, ← List.append_assoc, List.getElem_cons_drop, List.take_append_drop]
  rw [e, hr, hp] at hz
  rw [hz, ← List.eraseIdx_eq_take_drop_succ]
  have hl : (us.eraseIdx k).length = us.length - 1 := by rw [List.length_eraseIdx, if_pos h]
  rw [List.set_append_right _ _ (by omega), hl, Nat.sub_self]
  rfl
theorem ints_getD {us : List Value} {ns : List Int} (hi : IntsAre us ns) {k : Nat} (h : k < ns.length) (tail : List Value) : ∃ t, (us ++ tail).getD k .none = .int (ns.getD k 0) t := by
  have hl := hi.length
  obtain ⟨t, ht⟩ := ints_at hi h
  refine ⟨t, ?_⟩
  rw [List.getD_eq_getElem?_getD, List.getElem?_append_left (by omega), ht, List.getD_eq_getElem?_getD, List.getElem?_eq_getElem h]; rfl
theorem row_erase {us : List Value} {ns : List Int} (hi : IntsAre us ns) {j n : Nat} (h : ns.length + 1 = n) : (List.range n).map (fun i => (us ++ List.replicate (j + 1) Value.none).getD i .none) = us ++ [Value.none] := by
  have hl := hi.length
  apply List.ext_getElem?
  intro i
  by_cases h1 : i < us.length
  · rw [List.getElem?_map, List.getElem?_range (by omega), List.getElem?_append_left h1]
    simp only [Option.map_some]
    rw [List.getD_eq_getElem?_getD, List.getElem?_append_left h1, List.getElem?_eq_getElem h1]; rfl
  · by_cases h2 : i = us.length
    · subst h2
      rw [List.getElem?_map, List.getElem?_range (by omega)]
      simp [List.replicate_succ]
    · rw [List.getElem?_eq_none (by simp; omega), List.getElem?_eq_none (by simp; omega)]
theorem out_more {ch : List Addr} {s s' : Shared} {led : Led} {R : Value → Prop} {v : Value} {p : Addr × Obj} (h : s.heap.get? p.1 = some p.2) (hp : p.1 ∉ ch) (o : Out ch s (fun x l => l = led ∧ R x) v s') : Out (p.1 :: ch) s (fun x l => l = p :: led ∧ R x) v s' := by
  obtain ⟨h', tk', l, rfl, hk, hl, rfl, hr⟩ := o
  refine ⟨h', tk', p :: l, rfl, fun b hb => hk b fun q => hb (.tail _ q), fun z hz => ?_, rfl, hr⟩
  rcases List.mem_cons.mp hz with rfl | hz
  · exact ⟨hk _ hp _ h, .inl (.head _)⟩
  · exact ⟨(hl z hz).1, (hl z hz).2.imp (.tail _) id⟩
noncomputable abbrev cled (w : World) (T : TabS) (lt : Addr) (ts : List Value) (x0 : Value) (f3 f4 : Nat) (arr : List Value) (n : Nat) : Led := (lt, PySem.W.listOf (ts ++ List.replicate n x0).toArray (f3 + n)) :: tled w T arr f4
theorem cled_cov {w : World} {T : TabS} {lt : Addr} {ts : List Value} {x0 : Value} {f3 f4 : Nat} {arr : List Value} {n : Nat} : ∀ a ∈ lt :: T.ch, ∃ o, (a, o) ∈ cled w T lt ts x0 f3 f4 arr n := by
  intro a ha
  rcases List.mem_cons.mp ha with rfl | ha
  · exact ⟨_, .head _⟩
  · obtain ⟨o, ho⟩ := tled_cov (w := w) (arr := arr) (e := f4) a ha
    exact ⟨o, .tail _ ho⟩
section
variable {w : World} {b : Heap} {T : TabS} {lt q f1 f2 : Addr} {ts : List Value} {x0 : Value} {f3 f4 len : Nat}
/-- what the two lambdas must do -/
noncomputable def PutOk (w : World) (b : Heap) (T : TabS) (lt : Addr) (ts : List Value) (x0 : Value) (f3 f4 len : Nat) (f1 : Addr) : Prop :=
  ∀ {s : Shared} {A : Around} {E : Value → Shared → Prop} {arr : List Value} {n : Nat} {i : Int} {t : Tok} {v : Value}, b.StaysIn s.heap → Has s.heap (cled w T lt ts x0 f3 f4 arr n) → Room A 6 → arr.length = len → 1 ≤ i → i ≤ len →
    wpAny (model PySem.Challenge.rw_xm0627_01.row.prog w) A (call (.ref f1) [.int i t, v]) (Out (lt :: T.ch) s (fun _ l => l = cled w T lt ts x0 f3 f4 (arr.set (i - 1).toNat v) n ∧ True)) E s
noncomputable def TickOk (w : World) (b : Heap) (T : TabS) (lt : Addr) (ts : List Value) (x0 : Value) (f3 f4 : Nat) (f2 : Addr) : Prop :=
  ∀ {s : Shared} {A : Around} {E : Value → Shared → Prop} {arr : List Value} {n : Nat}, b.StaysIn s.heap → Has s.heap (cled w T lt ts x0 f3 f4 arr n) → Room A 6 → n < 100000 →
    wpAny (model PySem.Challenge.rw_xm0627_01.row.prog w) A (call (.ref f2) []) (Out (lt :: T.ch) s (fun _ l => l = cled w T lt ts x0 f3 f4 arr (n + 1) ∧ True)) E s
theorem cbs_of (W : Wd w b) (hT : TabOk b T) (a4 : lt ∉ T.ch) (X1 : b.get? q = some (methodObj (.ref 261) (.ref T.t))) (Y1 : FnAt f1 b) (Y2 : FnAt f2 b) (hlen : len < 1000)
    (put : PutOk w b T lt ts x0 f3 f4 len f1) (tick : TickOk w b T lt ts x0 f3 f4 f2) (hf : fnIn (HK.heap_1 w.params) 261 = true) : Cbs w b (lt :: T.ch) (cled w T lt ts x0 f3 f4) len q f1 f2 where
  kg := Cb.meth X1 W.X hf
  kp := Cb.fn Y1
  kt := Cb.fn Y2
  sub := fun arr n p hp => by
    rcases List.mem_cons.mp hp with rfl | hp
    · exact .head _
    · simp only [tled, List.mem_cons, List.not_mem_nil, or_false] at hp
      rcases hp with rfl | rfl | rfl | rfl <;> simp [TabS.ch]
  cov := fun arr n => cled_cov
  get := fun {s A E arr n i t} hb H r hl h1 h2 => by
    refine wpAny_mono (wpAny_call (E := E) (method_call (hb _ _ X1) (get_int_any_c W hb T arr f4 hT (fun p hp => H p (.tail _ hp)) (by omega) (r.le (by decide)) i t h1))) (fun v s' o => ?_) fun _ _ e => e
    exact out_more (p := (lt, PySem.W.listOf (ts ++ List.replicate n x0).toArray (f3 + n))) (H _ (.head _)) a4 o
  put := fun hb H r hl h1 h2 => put hb H r hl h1 h2
  tick := fun hb H r hn => tick hb H r hn
end
section
variable {w : World} {A : Around} {s : Shared} {b₀ g : Heap} {E : Value → Shared → Prop} {Q : Value → Shared → Prop} {L : Addr} {m : Str → Option Value} {news : Led} {T : TabS}
/-- the ground of the callbacks -/
theorem ground_b {ch : List Addr} (F : Fr g L s.heap m) (N : News g L s.heap news) (hc : ∀ a ∈ ch, ∃ o, (a, o) ∈ news) :
    g.StaysIn (hideAll s.heap ch) ∧ (hideAll s.heap ch).StaysIn s.heap ∧ (∀ a ∈ ch, (hideAll s.heap ch).get? a = none) ∧ ∀ p ∈ news, p.1 ∉ ch → (hideAll s.heap ch).get? p.1 = some p.2 :=
  ⟨fun a o e => hideAll_get _ (F.keep _ _ e) fun q => by
      obtain ⟨o', h⟩ := hc a q
      exact absurd e (by rw [(N _ h).2.2]; exact nofun),
    fun a o e => of_hideAll _ e, fun a ha => hideAll_none _ ha, fun p hp hn => hideAll_get _ (N p hp).1 hn⟩
theorem nr1 {n : Nat} {k : Int} (h0 : 0 ≤ k) (h1 : k < n) : ((n : Int) - (k + 1)).toNat = n - (k.toNat + 1) ∧ (k + 1 - 1).toNat = k.toNat ∧ ((n : Int) - 1).toNat = n - 1 ∧ k.toNat < n := by
  obtain ⟨m, rfl⟩ := Int.eq_ofNat_of_zero_le h0
  exact ⟨Int.toNat_sub n (m + 1), congrArg Int.toNat (Int.add_sub_cancel _ 1), Int.toNat_sub n 1, Int.ofNat_lt.mp h1⟩
theorem use_remove {lt q f1 f2 : Addr} {ts us : List Value} {ns : List Int} {j f3 f4 : Nat} {k : Int} {tb ta : Tok} {x0 : Value} {rest : Led} (W : Wd w g) (hT : TabOk b₀ T) (F : Fr g L s.heap m) (N : News g L s.heap news)
    (mq : (q, methodObj (.ref 261) (.ref T.t)) ∈ news) (mt : (lt, PySem.W.listOf ts.toArray f3) ∈ news) (hsub : ∀ p ∈ tled w T (us ++ List.replicate j Value.none) f4, p ∈ news)
    (a1 : q ∉ lt :: T.ch) (a4 : lt ∉ T.ch) (hi : IntsAre us ns) (hlen : ns.length + j < 1000) (r : Room A 8) (h0 : 0 ≤ k) (h1 : k < ns.length)
    (lam : ∀ b : Heap, Wd w b → TabOk b T → b.get? lt = none → g.StaysIn b → (∀ p ∈ news, p.1 ∉ lt :: T.ch → b.get? p.1 = some p.2) → FnAt f1 b ∧ FnAt f2 b ∧ PutOk w b T lt ts x0 f3 f4 (ns.length + j) f1 ∧ TickOk w b T lt ts x0 f3 f4 f2)
    (hs : ∀ p ∈ rest, p ∈ news ∧ p.1 ∉ lt :: T.ch) (hf : fnIn (HK.heap_1 w.params) 261 = true)
    (K : ∀ q' h' tk' t', Fr g L h' m → News g L h' ((q', { cls := .type "tuple", data := .seq [Value.bool true, .int (ns.getD k.toNat 0) t'].toArray }) :: (lt, PySem.W.listOf (ts ++ List.replicate (ns.length - (k.toNat + 1)) x0).toArray (f3 + (ns.length - (k.toNat + 1)))) :: tled w T (us.eraseIdx k.toNat ++ List.replicate (j + 1) Value.none) f4 ++ rest) →
      (∀ z ∈ news, z.1 ≠ q') → Q (.ref q') { s with heap := h', toks := tk' }) :
    wpAny (model PySem.Challenge.rw_xm0627_01.row.prog w) A (call (.ref 37) [.ref q, .ref f1, .int ns.length tb, .int (k + 1) ta, .ref f2]) Q E s := by
  have hul := hi.length
  have hc : ∀ a ∈ lt :: T.ch, ∃ o, (a, o) ∈ news := fun a ha => by
    rcases List.mem_cons.mp ha with rfl | ha
    · exact ⟨_, mt⟩
    · obtain ⟨o, ho⟩ := tled_cov (w := w) (arr := us ++ List.replicate j Value.none) (e := f4) a ha
      exact ⟨o, hsub _ ho⟩
  obtain ⟨g1, g2, g3, g4⟩ := ground_b F N hc
  have Wb := W.keeps g1
  have Tb : TabOk (hideAll s.heap (lt :: T.ch)) T := ⟨hT.h1, hT.h2, hT.h3, g3 _ (.tail _ (.head _)), g3 _ (.tail _ (.tail _ (.head _))), g3 _ (.tail _ (.tail _ (.tail _ (.head _)))), g3 _ (.tail _ (.tail _ (.tail _ (.tail _ (.head _)))))⟩
  obtain ⟨Y1, Y2, put, tick⟩ := lam _ Wb Tb (g3 _ (.head _)) g1 g4
  have C := cbs_of (q := q) Wb Tb a4 (g4 (q, methodObj (.ref 261) (.ref T.t)) mq a1) Y1 Y2 hlen put tick hf
  have H0 : Has s.heap (cled w T lt ts x0 f3 f4 (us ++ List.replicate j Value.none) 0) := by
    intro p hp
    rcases List.mem_cons.mp hp with rfl | hp
    · simpa using (N _ mt).1
    · exact (N _ (hsub p hp)).1
  refine useC (ch := lt :: T.ch) (rest := rest) (remove_at_spec Wb g2 C g3 (us ++ List.replicate j Value.none) 0 H0 (by simp; omega) r ns.length (k + 1) tb ta (by omega) (by omega) (by omega) (by omega)) F N hs (fun a ha => ?_) fun v h' tk' led hr F' N' hn => ?_
  · obtain ⟨o, ho⟩ := hc a ha
    exact (N _ ho).2
  · obtain ⟨q', rfl, hq', rfl⟩ := hr
    obtain ⟨e1, e2, e3, b1⟩ := nr1 h0 h1
    obtain ⟨t', ht'⟩ := ints_getD hi (k := k.toNat) b1 (List.replicate j Value.none)
    have e4 := down_erase (us := us) (k := k.toNat) (j := j) (hul ▸ b1)
    rw [hul] at e4
    rw [e1, e2, e3, ht', e4, Nat.zero_add] at N'
    exact K q' h' tk' t' F' N' ((hn _ (.head _)).resolve_left hq')
end
theorem notin5 {a b c d e f : Addr} (h1 : a ≠ b) (h2 : a ≠ c) (h3 : a ≠ d) (h4 : a ≠ e) (h5 : a ≠ f) : a ∉ [b, c, d, e, f] := by simp [h1, h2, h3, h4, h5]
theorem notin4 {a b c d e : Addr} (h1 : a ≠ b) (h2 : a ≠ c) (h3 : a ≠ d) (h4 : a ≠ e) : a ∉ [b, c, d, e] := by simp [h1, h2, h3, h4]
section
variable {M : Model} {A : Around} {s : Shared} {E : Value → Shared → Prop} {Q : Value → Shared → Prop} {g : Heap} {L c : Addr} {m : Str → Option Value} {env : Env} {x : Str} {pos : Pos} {v : Value} {o : Obj}
/-- a free name of the base -/
theorem name_fre (F : Fr g L s.heap m) (hc : env.cells.lookup x = some c) (ho : g.get? c = some o) (hd : o.data = .cell (some v)) (h : Q v s) (hk : env.scope.kind = .function) (hx : env.kindOf x = some .free) (hb : (x == ("__debug__" : Str)) = false) (hn : (x == ("__classdict__" : Str)) = false) :
    wpAny M A (eval (.Name x pos) env) Q E s := wpAny_Name (wpAny_loadName_free hk hx hc ⟨o, F.keep _ _ ho, hd⟩ h hn) hb
end
theorem cled_next {w : World} {T : TabS} {lt : Addr} {ts : List Value} {x0 : Value} {f3 f4 : Nat} {arr : List Value} {n : Nat} : (lt, PySem.W.listOf ((ts ++ List.replicate n x0).toArray.push x0) (f3 + n + 1)) :: tled w T arr f4 = cled w T lt ts x0 f3 f4 arr (n + 1) := by
  simp [cled, List.replicate_succ', Nat.add_assoc]
theorem cled_mem {w : World} {T : TabS} {lt : Addr} {ts : List Value} {x0 : Value} {f3 f4 : Nat} {arr : List Value} {n : Nat} {h : Heap} (H : Has h (cled w T lt ts x0 f3 f4 arr n)) : ∀ p ∈ cled w T lt ts x0 f3 f4 arr n, h.get? p.1 = some p.2 ∧ p.1 ∈ lt :: T.ch := by
  intro p hp
  refine ⟨H p hp, ?_⟩
  rcases List.mem_cons.mp hp with rfl | hp
  · exact .head _
  · exact .tail _ (hl_tab (fun q hq => H _ (.tail _ hq)) p hp).2
section
variable {w : World} {A : Around} {s : Shared} {b₀ g : Heap} {E : Value → Shared → Prop} {Q : Value → Shared → Prop} {L : Addr} {m : Str → Option Value} {T : TabS} {lt : Addr} {ts arr : List Value} {x0 v : Value} {f3 f4 n : Nat} {i : Int} {t : Tok}
theorem use_set (W : Wd w g) (hT : TabOk b₀ T) (F : Fr g L s.heap m) (N : News g L s.heap (cled w T lt ts x0 f3 f4 arr n)) (a4 : lt ∉ T.ch) (hlen : arr.length < 1000) (r : Room A 4) (h1 : 1 ≤ i) (h2 : i ≤ arr.length)
    (k : ∀ h' tk', Fr g L h' m → News g L h' (cled w T lt ts x0 f3 f4 (arr.set (i - 1).toNat v) n) → Q .none { s with heap := h', toks := tk' }) :
    wpAny (model PySem.Challenge.rw_xm0627_01.row.prog w) A (call (.ref 289) [.ref T.t, .int i t, v, .none]) Q E s :=
  useT (rest := [(lt, PySem.W.listOf (ts ++ List.replicate n x0).toArray (f3 + n))]) (R := fun x => x = .none) (fun x1 x2 x3 => set_int_in W x1 T arr f4 x2 x3 hlen r i t h1 h2 v) hT F N (fun p hp => .tail _ hp)
    (fun p hp => by rw [List.mem_singleton.mp hp]; exact ⟨.head _, a4⟩) fun v' h' tk' hv F' N' => by
      subst hv
      refine k h' tk' F' fun p hp => N' p ?_
      rcases List.mem_cons.mp hp with rfl | hp
      · exact List.mem_append_right _ (.head _)
      · exact List.mem_append_left _ hp
end
theorem neAll {q : Addr} {news : Led} (h : ∀ z ∈ news, z.1 ≠ q) : ∀ z ∈ news, @Ne Nat z.1 q := h
section
variable {prog : Program} {w : World} {A : Around} {E : Value → Shared → Prop} {s : Shared} {h₀ : Heap} {L a b : Addr} {m : Str → Option Value} {news : Led} {xs ys : List Value} {n1 n2 : Nat} {Q : Value → Shared → Prop}
theorem add_any (F : Fr h₀ L s.heap m) (N : News h₀ L s.heap news) (ma : (a, PySem.W.listOf xs.toArray n1) ∈ news) (mb : (b, PySem.W.listOf ys.toArray n2) ∈ news) (hz : xs.length + ys.length < 100000)
    (h : ∀ D h', Fr h₀ L h' m → News h₀ L h' ((D, PySem.W.listOf (xs ++ ys).toArray 0) :: news) → (∀ p ∈ news, p.1 < D) → Q (.ref D) { s with heap := h' }) : wpAny (model prog w) A (binaryOp .Add (.ref a) (.ref b)) Q E s :=
  kmk_add_lit F N (PySem.IsL.isList (n := n1) (N _ ma).1) (PySem.IsL.isList (n := n2) (N _ mb).1) rfl (fun D h' F' N' l1 => h D h' F' N' l1) (by rw [sizeLine_eq]; simp; omega)
end
theorem ltA {a b : Addr} (h : @LT.lt Nat _ a b) : a < b := h
theorem turn_end {h₀ : Heap} {L I : Addr} {o : Obj} {s : Shared} {Inv : (Str → Option Value) → Led → Prop} {h' : Heap} {tk' : Nat} {m' : Str → Option Value} {all news' : Led} (F : Fr h₀ L h' m') (N : News h₀ L h' all) (hs : SubL ((I, o) :: news') all) (hlt : ∀ p ∈ news', p.1 < I)
    (hI : (∀ p ∈ news', p.1 < I) → Inv m' news') : TurnEnd h₀ L I o s Inv { s with heap := h', toks := tk' } :=
  ⟨h', tk', m', news', rfl, F, fun p hp => N p (hs.mem p hp), fun p hp => Nat.ne_of_lt (hlt p hp), hI hlt⟩
/-- what is left, who goes, how many values are moved -/
noncomputable def goneL : List Int → List Int → List Int
  | ls, [] => ls
  | ls, k :: r => goneL (ls.eraseIdx k.toNat) r
noncomputable def goneO : List Int → List Int → List Int
  | _, [] => []
  | ls, k :: r => ls.getD k.toNat 0 :: goneO (ls.eraseIdx k.toNat) r
noncomputable def goneN : List Int → List Int → Nat
  | _, [] => 0
  | ls, k :: r => (ls.length - (k.toNat + 1)) + goneN (ls.eraseIdx k.toNat) r
theorem goneO_len : ∀ (ls r : List Int), (goneO ls r).length = r.length
  | _, [] => rfl
  | ls, k :: r => by simp [goneO, goneO_len _ r]
theorem gone_olen {os : List Value} {ons ls r ls0 r0 : List Int} (hi : IntsAre os ons) (h : ons ++ goneO ls r = goneO ls0 r0) : os.length ≤ r0.length := by
  have e := congrArg List.length h
  rw [List.length_append, goneO_len, goneO_len] at e
  have := hi.length
  omega
/-- places within the row -/
noncomputable def okP : Nat → List Int → Prop
  | _, [] => True
  | b, k :: r => 0 ≤ k ∧ k < b ∧ okP (b - 1) r
theorem notin6 {a b c d e f g : Addr} (h1 : a ≠ b) (h2 : a ≠ c) (h3 : a ≠ d) (h4 : a ≠ e) (h5 : a ≠ f) (h6 : a ≠ g) : a ∉ [b, c, d, e, f, g] := by simp [h1, h2, h3, h4, h5, h6]
section
variable {M : Model} {A : Around} {s : Shared} {t : Sem Value} {E : Value → Shared → Prop} {Q : Value → Shared → Prop} {g : Heap} {L : Addr} {m : Str → Option Value} {news : Led}
def isStop (n : Nat) : Bool := [29, 37, 71, 211, 218, 289, 303, 310, 317, 324, 331, 338, 346, 358, 372, 424, 440, 445, 452, 459, 464].contains n
theorem stopCall {n : Addr} {a : List Value} {k : List (Str × Value)} (_ : isStop n = true) (h : Stop (wpAny M A (call (.ref n) a k) Q E s)) : wpAny M A (call (.ref n) a k) Q E s := h
end
noncomputable def pickV : List Value → Nat → Value
  | [], _ => .none
  | v :: _, 0 => v
  | _ :: r, n + 1 => pickV r n
/-- a table's places, whatever the order -/
structure TabHm (b₀ : Heap) (T : TabS) : Prop where
  h1 : @LT.lt Nat _ T.d T.t
  h2 : @LT.lt Nat _ T.t T.la
  h3 : @LT.lt Nat _ T.t T.ln
  h4 : @Ne Nat T.la T.ln
  hm : ∀ a ∈ T.ch, b₀.get? a = none
/-- the same table, its array in its place -/
structure TabSame (T T' : TabS) : Prop where
  t : T'.t = T.t
  d : T'.d = T.d
  la : T'.la = T.la
section
variable {w : World} {A : Around} {s : Shared} {b₀ : Heap} {E : Value → Shared → Prop} (W : Wd w b₀) (hb : b₀.StaysIn s.heap)
include W hb
theorem count_nodes_spec (T : TabS) (arr : List Value) (e : Nat) (hT : TabOk b₀ T) (cl : Addr) (H : Has s.heap (tled w T arr e)) (r : Room A 2) :
    wpAny (model PySem.Challenge.rw_xm0627_01.row.prog w) A (call (.ref 331) [.ref T.t, .ref cl]) (Out T.ch s (fun v l => ∃ q t1 t2, v = .ref q ∧ q ∉ T.ch ∧ l = (q, { cls := .type "tuple", data := .seq #[.int 0 t1, .int 0 t2] }) :: tled w T arr e)) E s := by
  walk_at "kfill"
  refine' enterD T.ch (tled w T arr e) [(Str.ofString "self", .ref T.t), (Str.ofString "counts", .ref cl)] W hb hT.hm (hl_tab H) ?ho ?hcd r ?hbind ?hloc ?_ ?c1 ?c2 ?c3 ?c4
  walk_at "kenter"
  intro g L h₁ tk p loose mean mg mb dp fr gd un X TP W' hg F N r' hU
  k_fold
  have t1 := hT.h1
  have t2 := hT.h2
  have t3 := hT.h3
  k_steps
  exact ⟨_, fun _ h => h, _, _, _, rfl, by simp only [TabS.ch, List.mem_cons, List.not_mem_nil, or_false, not_or]; exact ⟨by k_ne, by k_ne, by k_ne, by k_ne⟩, rfl⟩
theorem make_nodes_spec (T : TabS) (arr : List Value) (e : Nat) (hT : TabHm b₀ T) (H : Has s.heap (tled w T arr e)) (r : Room A 2) (z : Int) (tz : Tok) (hz : z ≤ 0) :
    wpAny (model PySem.Challenge.rw_xm0627_01.row.prog w) A (call (.ref 358) [.ref T.t, .int z tz]) (Out T.ch s (fun v l => v = .none ∧ ∃ T' : TabS, TabSame T T' ∧ @LT.lt Nat _ T.t T'.ln ∧ @LT.lt Nat _ T.la T'.ln ∧ @LT.lt Nat _ T.ln T'.ln ∧ l = (T.ln, PySem.W.listOf #[] T.en) :: tled w T' arr e)) E s := by
  obtain ⟨Tt, Td, Tla, Tln, Ttk, Tvs, Tn, Ten⟩ := T
  walk_at "kfill"
  refine' enterD (TabS.ch (⟨Tt, Td, Tla, Tln, Ttk, Tvs, Tn, Ten⟩ : TabS)) (tled w (⟨Tt, Td, Tla, Tln, Ttk, Tvs, Tn, Ten⟩ : TabS) arr e) [(Str.ofString "self", .ref Tt), (Str.ofString "hash_size", .int z tz)] W hb hT.hm (hl_tab H) ?ho ?hcd r ?hbind ?hloc ?_ ?c1 ?c2 ?c3 ?c4
  walk_at "kenter"
  intro g L h₁ tk p loose mean mg mb dp fr gd un X TP W' hg F N r' hU
  k_fold
  have t1 := hT.h1
  have t2 := hT.h2
  have t3 := hT.h3
  have t4 := hT.h4
  dsimp only [tled, tabEs] at N t1 t2 t3 t4 ⊢
  k_steps
  refine ⟨(Tln, PySem.W.listOf #[] Ten) :: tled w ⟨Tt, Td, Tla, _, Ttk, pickV [_, _, _, _, _, _, .none, .none, _, _], Tn, _⟩ arr e, (fmc ?_ ((fmc (.tail _ (.head _)) ((fmc (.tail _ (.tail _ (.head _))) ((fmc (.tail _ (.tail _ (.tail _ (.head _)))) ((fmc (.head _) (List.forall_mem_nil _)))))))))), rfl, _, ?same, ?_, ?_, ?_, rfl⟩
  case same => exact ⟨rfl, rfl, rfl⟩
  · exact .tail _ (.tail _ (.tail _ (.tail _ (.head _))))
  · dsimp only; ksw_less
  · dsimp only; ksw_less
  · dsimp only; ksw_less
theorem weigh_spec (T : TabS) (arr : List Value) (e : Nat) (hT : TabHm b₀ T) (hlen : arr.length < 1000) (H : Has s.heap (tled w T arr e)) (r : Room A 2) :
    wpAny (model PySem.Challenge.rw_xm0627_01.row.prog w) A (call (.ref 372) [.ref T.t, .none]) (Out T.ch s (fun v l => v = .none ∧ ∃ T' : TabS, TabSame T T' ∧ T'.ln = T.ln ∧ l = tled w T' arr e)) E s := by
  obtain ⟨Tt, Td, Tla, Tln, Ttk, Tvs, Tn, Ten⟩ := T
  walk_at "kfill"
  refine' enterD (TabS.ch (⟨Tt, Td, Tla, Tln, Ttk, Tvs, Tn, Ten⟩ : TabS)) (tled w (⟨Tt, Td, Tla, Tln, Ttk, Tvs, Tn, Ten⟩ : TabS) arr e) [(Str.ofString "self", .ref Tt), (Str.ofString "heap", .none)] W hb hT.hm (hl_tab H) ?ho ?hcd r ?hbind ?hloc ?_ ?c1 ?c2 ?c3 ?c4
  walk_at "kenter"
  intro g L h₁ tk p loose mean mg mb dp fr gd un X TP W' hg F N r' hU
  k_fold
  have t1 := hT.h1
  have t2 := hT.h2
  have t3 := hT.h3
  have t4 := hT.h4
  dsimp only [tled, tabEs] at N t1 t2 t3 t4 ⊢
  k_steps
  refine ⟨tled w ⟨Tt, Td, Tla, _, Ttk, pickV [_, _, _, _, _, _, .none, .none, _, _], Tn, _⟩ arr e, (fmc (.head _) ((fmc (.tail _ (.head _)) ((fmc (.tail _ (.tail _ (.head _))) ((fmc (.tail _ (.tail _ (.tail _ (.head _)))) (List.forall_mem_nil _)))))))), rfl, _, ?same, ?_, rfl⟩
  case same => exact ⟨rfl, rfl, rfl⟩
  · rfl
end
theorem pick_from {vs : List Value} {x : Int} (h : (vs.length : Int) ≤ x) : (slicePick vs.toArray (some x) none none).toList = [] := by
  have e : sliceBounds (some x) none none vs.toArray.size = (((min x.toNat vs.toArray.size : Nat) : Int), ((vs.toArray.size : Nat) : Int), 1) := by
    simp only [sliceBounds, Option.getD_none, show (1 : Int) > 0 by decide, if_true, if_neg (show ¬ (x < 0) by walk_at "om")]
    congr 1
    walk_at "om"
  rw [kmk_pick_nat _ e]
  show (vs.drop (min x.toNat vs.toArray.size)).take (vs.toArray.size - min x.toNat vs.toArray.size) = []
  rw [List.size_toArray, kmk_drop_min, List.drop_eq_nil_of_le (by walk_at "om"), List.take_nil]
theorem pick_upto {vs : List Value} {y : Int} (h : (vs.length : Int) ≤ y) : (slicePick vs.toArray none (some y) none).toList = vs := by
  have e : sliceBounds none (some y) none vs.toArray.size = (((0 : Nat) : Int), ((min y.toNat vs.toArray.size : Nat) : Int), 1) := by
    simp only [sliceBounds, Option.getD_none, show (1 : Int) > 0 by decide, if_true, if_neg (show ¬ (y < 0) by walk_at "om")]
    congr 1
    congr 1
    walk_at "om"
  rw [kmk_pick_nat _ e]
  show (vs.drop 0).take (min y.toNat vs.toArray.size - 0) = vs
  rw [List.drop_zero, Nat.sub_zero, List.size_toArray, kmk_take_min, List.take_of_length_le (by walk_at "om")]
section
variable {w : World} {A : Around} {s : Shared} {g : Heap} {E : Value → Shared → Prop} {Q : Value → Shared → Prop} {L : Addr} {m : Str → Option Value} {news : Led} {T : TabS} {arr : List Value} {e : Nat}
theorem tabHm_news (N : News g L s.heap news) (hsub : ∀ p ∈ tled w T arr e, p ∈ news) (o1 : @LT.lt Nat _ T.d T.t) (o2 : @LT.lt Nat _ T.t T.la) (o3 : @LT.lt Nat _ T.t T.ln) (o4 : @Ne Nat T.la T.ln) : TabHm g T :=
  ⟨o1, o2, o3, o4, fun a ha => by
    obtain ⟨o, ho⟩ := tled_cov (w := w) (arr := arr) (e := e) a ha
    exact (N _ (hsub _ ho)).2.2⟩
theorem use_make {z : Int} {tz : Tok} (W : Wd w g) (F : Fr g L s.heap m) (N : News g L s.heap news) (hsub : ∀ p ∈ tled w T arr e, p ∈ news) (o1 : @LT.lt Nat _ T.d T.t) (o2 : @LT.lt Nat _ T.t T.la) (o3 : @LT.lt Nat _ T.t T.ln) (o4 : @Ne Nat T.la T.ln)
    (hz : z ≤ 0) (r : Room A 2) (rest : Led) (hs : ∀ p ∈ rest, p ∈ news ∧ p.1 ∉ T.ch)
    (k : ∀ h' tk' T', TabSame T T' → @LT.lt Nat _ T.t T'.ln → @LT.lt Nat _ T.la T'.ln → @LT.lt Nat _ T.ln T'.ln → Fr g L h' m → News g L h' ((T.ln, PySem.W.listOf #[] T.en) :: tled w T' arr e ++ rest) → (∀ q ∈ news, q.1 ≠ T'.ln) → Q .none { s with heap := h', toks := tk' }) :
    wpAny (model PySem.Challenge.rw_xm0627_01.row.prog w) A (call (.ref 358) [.ref T.t, .int z tz]) Q E s := by
  refine useN (ch := T.ch) (fun H => make_nodes_spec W F.keep T arr e (tabHm_news N hsub o1 o2 o3 o4) H r z tz hz) F N hsub tled_cov rest hs fun v h' tk' led hr F' N' hf => ?_
  obtain ⟨rfl, T', sm, p1, p2, p3, rfl⟩ := hr
  refine k h' tk' T' sm p1 p2 p3 F' N' fun q hq => ?_
  have h1 := hf (T'.ln, PySem.W.listOf #[] T'.en) (by simp [tled])
  refine h1.resolve_left (fun hm => ?_) q hq
  have hm : T'.ln ∈ T.ch := hm
  simp only [TabS.ch, List.mem_cons, List.not_mem_nil, or_false] at hm
  have n1 : @LT.lt Nat _ T.d T'.ln := Nat.lt_trans o1 p1
  rcases hm with h | h | h | h
  · exact absurd p1 (h ▸ Nat.lt_irrefl _)
  · exact absurd n1 (h ▸ Nat.lt_irrefl _)
  · exact absurd p2 (h ▸ Nat.lt_irrefl _)
  · exact absurd p3 (h ▸ Nat.lt_irrefl _)
theorem use_weigh (W : Wd w g) (F : Fr g L s.heap m) (N : News g L s.heap news) (hsub : ∀ p ∈ tled w T arr e, p ∈ news) (o1 : @LT.lt Nat _ T.d T.t) (o2 : @LT.lt Nat _ T.t T.la) (o3 : @LT.lt Nat _ T.t T.ln) (o4 : @Ne Nat T.la T.ln)
    (hlen : arr.length < 1000) (r : Room A 2) (rest : Led) (hs : ∀ p ∈ rest, p ∈ news ∧ p.1 ∉ T.ch)
    (k : ∀ h' tk' T', TabSame T T' → T'.ln = T.ln → Fr g L h' m → News g L h' (tled w T' arr e ++ rest) → Q .none { s with heap := h', toks := tk' }) :
    wpAny (model PySem.Challenge.rw_xm0627_01.row.prog w) A (call (.ref 372) [.ref T.t, .none]) Q E s := by
  refine useN (ch := T.ch) (fun H => weigh_spec W F.keep T arr e (tabHm_news N hsub o1 o2 o3 o4) hlen H r) F N hsub tled_cov rest hs fun v h' tk' led hr F' N' hf => ?_
  obtain ⟨rfl, T', sm, p1, rfl⟩ := hr
  exact k h' tk' T' sm p1 F' N'
end
local macro_rules | `(tactic| walk_at "subscriptTail") => `(tactic| (k_here; (with_reducible show wpAny _ _ (subscriptTail _ (PySem.Expr.Slice _ _ none _) (Value.ref _) (Value.ref _)) _ _ _); refine stopHere ?_))
local macro_rules | `(tactic| walk_at "call ref") => `(tactic| (k_here; refine stopCall rfl ?_))
section
variable {w : World} {A : Around} {s : Shared} {b₀ : Heap} {E : Value → Shared → Prop} (W : Wd w b₀) (hb : b₀.StaysIn s.heap)
include W hb
theorem resize_spec (T : TabS) (vs : List Value) (ns : List Int) (hi : IntsAre vs ns) (e : Nat) (hT : TabOk b₀ T) (H : Has s.heap (tled w T vs e)) (r : Room A 4) (z hz : Int) (tz tz2 : Tok) (hz0 : hz ≤ 0) (hz1 : ns.length ≤ z) (hz2 : z ≤ 8)
    (args : List Value) (ha : args = [.ref T.t, .int z tz, .int hz tz2] ∨ args = [.ref T.t, .int z tz, .int hz tz2, .none]) :
    wpAny (model PySem.Challenge.rw_xm0627_01.row.prog w) A (call (.ref 346) args) (Out T.ch s (fun v l => v = .none ∧ ∃ (T' : TabS) (e' : Nat), T'.t = T.t ∧ T'.d = T.d ∧ @LT.lt Nat _ T.t T'.la ∧ @LT.lt Nat _ T'.la T'.ln ∧ @LT.lt Nat _ T.ln T'.la ∧ l = tled w T' (vs ++ List.replicate (z.toNat - ns.length) Value.none) e')) E s := by
  obtain ⟨Tt, Td, Tla, Tln, Ttk, Tvs, Tn, Ten⟩ := T
  walk_at "kfill"
  refine' enterD (TabS.ch (⟨Tt, Td, Tla, Tln, Ttk, Tvs, Tn, Ten⟩ : TabS)) (tled w (⟨Tt, Td, Tla, Tln, Ttk, Tvs, Tn, Ten⟩ : TabS) vs e) [(Str.ofString "self", .ref Tt), (Str.ofString "array_size", .int z tz), (Str.ofString "hash_size", .int hz tz2), (Str.ofString "heap", .none)] W hb hT.hm (hl_tab H) ?ho ?hcd r ?hbind ?hloc ?_ ?c1 ?c2 ?c3 ?c4
  (case ho => k_is); (case hcd => k_is); (case hloc => exact locs rfl); (case c1 => rfl); (case c2 => rfl); (case c3 => rfl); (case c4 => decide)
  case hbind =>
    rcases ha with rfl | rfl <;> first | exact BindsTo.of_eq rfl | exact binds_K (Frag.In.keeps (Wd.X (by assumption)) (by assumption)) rfl (by k_is) rfl rfl rfl
  intro g L h₁ tk p loose mean mg mb dp fr gd un X TP W' hg F N r' hU
  k_fold
  have t1 := hT.h1
  have t2 := hT.h2
  have t3 := hT.h3
  have hlen := hi.length
  clear H ha
  dsimp only [tled, tabEs] at N t1 t2 t3 ⊢
  k_steps
  unfold Stop
  show wpAny _ _ _ _ _ _
  k_dflt (refine kba_turn (value' := PySem.Expr.Name (PySem.Str.ofString "_") ⟨0, 0, 0, 0⟩) (fun _ => rfl) ?_)
  k_dflt (refine' kmk_slice_lit ?F9 ?N9 ?l9 ?p9 ?q9 ?e9 ?_ ?s9 ?t9 ?z9)
  case F9 => k_asm
  case N9 => k_asm
  case l9 => k_dflt kmk_list
  case p9 => k_dflt kmk_part
  case q9 => k_dflt kmk_part
  case e9 => first | exact pick_from (by walk_at "om") | exact pick_upto (by walk_at "om")
  case s9 => with_unfolding_all rfl
  case t9 => k_dflt kmk_pure
  case z9 => rw [List.size_toArray, PySem.sizeLine_eq]; walk_at "om"
  intro D1 q1 F8 N8 o1
  k_lt o1
  k_sweep
  k_steps
  unfold Stop
  show wpAny _ _ _ _ _ _
  k_dflt (refine kba_turn (value' := PySem.Expr.Name (PySem.Str.ofString "_") ⟨0, 0, 0, 0⟩) (fun _ => rfl) ?_)
  k_dflt (refine' kmk_slice_lit ?F9 ?N9 ?l9 ?p9 ?q9 ?e9 ?_ ?s9 ?t9 ?z9)
  case F9 => k_asm
  case N9 => k_asm
  case l9 => k_dflt kmk_list
  case p9 => k_dflt kmk_part
  case q9 => k_dflt kmk_part
  case e9 => first | exact pick_from (by walk_at "om") | exact pick_upto (by walk_at "om")
  case s9 => with_unfolding_all rfl
  case t9 => k_dflt kmk_pure
  case z9 => rw [List.size_toArray, PySem.sizeLine_eq]; walk_at "om"
  intro D2 q3 F9 N9 o2
  k_lt o2
  k_sweep
  k_steps
  unfold Stop
  rename Fr _ _ _ _ => F1
  rename News _ _ _ _ => N1
  refine ksw_while (σ := Nat) (fun c => (D2, PySem.W.listOf (vs ++ List.replicate c Value.none).toArray c) :: (D1, PySem.W.listOf #[] 0) :: (Tt, instObj 424 Td) :: (Td, dictOf (tabEs w ⟨Tt, Td, D2, Tln, Ttk, Tvs, Tn, Ten⟩) 10) :: (Tln, PySem.W.listOf #[] Ten) :: []) (fun c => []) (fun _ => True) []
        (fun c => ns.length + c ≤ z) (fun c => (z - ns.length - c).toNat) 0 F1 (fun p hp => ?_) trivial (by kst_all) (by simpa using hz1) ?_ passes_false
  · refine N1 p ?_
    rw [List.replicate_zero, List.append_nil] at hp
    revert p
    exact (fmc (by k_mem) ((fmc (by k_mem) ((fmc (by k_mem) ((fmc (by k_mem) ((fmc (by k_mem) (List.forall_mem_nil _))))))))))
  · intro c u h tk9 _ i1 F2 N2
    dsimp only at i1 N2 ⊢
    clear F1 N1
    k_fold
    have hl9 : (vs ++ List.replicate c Value.none).length = vs.length + c := by simp
    k_steps
    · unfold Stop
      rename Fr _ _ _ _ => F3
      rename News _ _ _ _ => N3
      have e9 : (vs ++ List.replicate c Value.none).toArray.push Value.none = (vs ++ List.replicate (c + 1) Value.none).toArray := by
        rw [List.push_toArray, List.append_assoc, List.replicate_succ']
      rw [e9] at N3
      refine ksw_end (c + 1) F3 N3 ?_ trivial (by kst_all) (by walk_at "ksame") ?_ ?_
      · exact (fmc (by k_mem) ((fmc (by k_mem) ((fmc (by k_mem) ((fmc (by k_mem) ((fmc (by k_mem) (List.forall_mem_nil _))))))))))
      · walk_at "om"
      · walk_at "om"
    · unfold Stop
      rename Fr _ _ _ _ => F3
      rename News _ _ _ _ => N3
      have hc : (z.toNat - ns.length) = c := by walk_at "om"
      refine use_make (T := ⟨Tt, Td, D2, Tln, Ttk, Tvs, Tn, Ten⟩) (arr := vs ++ List.replicate c Value.none) (e := c) W' F3 N3 ?hsub t1 ?o2 ?o3 ?o4 hz0 ?r [(D1, PySem.W.listOf #[] 0)] ?hs ?k
      case hsub => walk_at "sub"
      case o2 => dsimp only; ksw_less
      case o3 => dsimp only; ksw_less
      case o4 => dsimp only; first | k_ne | ksw_less
      case r => walk_at "room"
      case hs => intro p hp; rw [List.mem_singleton.mp hp]; exact ⟨by k_mem, notin4 (by k_ne) (by k_ne) (by k_ne) (by k_ne)⟩
      case k =>
        rintro h5 tk5 ⟨Tt', Td', Tla', Tln', Ttk', Tvs', Tn', Ten'⟩ ⟨e1, e2, e3⟩ p1 p2 p3 F5 N5 hfr
        dsimp only at e1 e2 e3 p1 p2 p3 hfr
        subst e1 e2 e3
        dsimp only [List.cons_append, List.nil_append] at N5
        replace hfr := allNe2_of hfr
        dsimp only [AllNe2] at hfr
        clear F3 N3
        k_steps
        unfold Stop
        rename Fr _ _ _ _ => F6
        rename News _ _ _ _ => N6
        refine use_weigh (T := ⟨Tt', Td', Tla', Tln', Ttk', Tvs', Tn', Ten'⟩) (arr := vs ++ List.replicate c Value.none) (e := c) W' F6 N6 ?hsub t1 ?o2 ?o3 ?o4 ?hl ?r [] ?hs ?k
        case hsub => walk_at "sub"
        case o2 => dsimp only; ksw_less
        case o3 => dsimp only; ksw_less
        case o4 => dsimp only; first | k_ne | ksw_less
        case hl => walk_at "om"
        case r => walk_at "room"
        case hs => exact fun _ h => nomatch h
        case k =>
          rintro h7 tk7 ⟨Tt6, Td6, Tla6, Tln6, Ttk6, Tvs6, Tn6, Ten6⟩ ⟨e1, e2, e3⟩ e4 F7 N7
          dsimp only at e1 e2 e3 e4
          subst e1 e2 e3 e4
          rw [List.append_nil] at N7
          clear F6 N6
          k_steps
          rw [hc]
          refine ⟨_, fun _ h => h, rfl, _, _, ?g1, ?g2, ?g3, ?g4, ?g5, rfl⟩
          case g1 => rfl
          case g2 => rfl
          case g3 => dsimp only; ksw_less
          case g4 => dsimp only; ksw_less
          case g5 => dsimp only; ksw_less
end
section
variable {prog : Program} {w : World} {A : Around} {E : Value → Shared → Prop} {s : Shared} {env : Env} {h₀ : Heap} {target : PySem.Expr} {body : List Stmt} {Q : Flow → Shared → Prop}
theorem letGo_rangeit {I : Addr} {a l c : Int} {v : Value} {Q' : Unit → Shared → Prop} {s' : Shared} (hit : IsRangeIter s'.heap I a l c) (h : Q' () s') : wpAny (model prog w) A (letOwnedTupleGo target (.ref I) v) Q' E s' := by
  unfold letOwnedTupleGo
  cases target <;> first
    | exact wpAny_pure h
    | (cases v <;> first
        | exact wpAny_pure h
        | exact wpAny_bind (wpAny_load hit (wpAny_pure h)))
/-- a for over a range -/
theorem for_range {rg : Addr} {a b c : Int} {t₀ u₀ v₀ : Tok} {n : Nat} {m₀ : Str → Option Value} {news : Led} (Inv : Addr → Nat → (Str → Option Value) → Led → Prop)
    (hh : A.handled = none) (hr : IsRange s.heap rg a b c t₀ u₀ v₀) (hsmall : Builtin.Range.small a b c = true) (hn : Builtin.Range.rangeSize a b c = (n : Int)) (F : Fr h₀ env.locals s.heap m₀) (N : News h₀ env.locals s.heap news)
    (hi : ∀ I : Addr, (∀ p ∈ news, p.1 < I) → Inv I 0 m₀ news)
    (hdone : ∀ I m₁ news₁ h tk, Inv I n m₁ news₁ → Fr h₀ env.locals h m₁ → News h₀ env.locals h news₁ → Q .next { s with heap := h, toks := tk })
    (hstep : ∀ I i m₁ news₁ h tk o t, i < n → Inv I i m₁ news₁ → Fr h₀ env.locals h m₁ → o.cls = .type "range_iterator" → News h₀ env.locals h ((I, o) :: news₁) →
      wpAny (model prog w) A (assign target env (.int (a + (i : Nat) * c) t)) (fun _ s₂ => wpAny (model prog w) A (execs body env) (TurnPost h₀ env.locals I o { s with heap := h, toks := tk } (fun m' news' => Inv I (i + 1) m' news') Q) E s₂) E { s with heap := h, toks := tk }) :
    wpAny (model prog w) A (pyIter (.ref rg)) (fun it s₂ => TurnsAt prog w A h₀ env target body Q E it s₂) E s := by
  have hI : ∀ i : Nat, i ≤ n → ∀ (m₁ : Str → Option Value) (news₁ : Led), Inv s.heap.objs.size i m₁ news₁ →
      ItemsRest prog w A E h₀ env target body Q s [(s.heap.objs.size, "range_iterator")] [] (((List.range n).map fun i => Itm.tok fun t => .int (a + (i : Nat) * c) t).drop i) m₁ news₁ := by
    intro i hin
    generalize hk : n - i = k
    induction k generalizing i with
    | zero =>
      obtain rfl : i = n := nsub0 (by assumption) (by assumption)
      intro m₁ news₁ hI
      rw [List.drop_eq_nil_of_le (by simp)]
      exact ItemsRest.zero fun h tk F₁ N₁ => hdone _ m₁ news₁ h tk hI F₁ N₁
    | succ k ih =>
      intro m₁ news₁ hI
      have hlt : i < n := nsubL (by assumption)
      rw [List.drop_eq_getElem_cons (by simpa using hlt)]
      simp only [List.getElem_map, List.getElem_range]
      refine ItemsRest.tok fun t h tk F₁ => AllObj.cons fun o hc => AllObj.nil fun N₁ => ?_
      refine wpAny_mono (hstep _ i m₁ news₁ h tk o t hlt hI F₁ hc N₁) (fun _ s₂ h₂ => wpAny_mono h₂ (fun f s₃ q => ?_) fun _ _ e => e) fun _ _ e => e
      cases f with
      | ret v => exact q
      | brk => exact q
      | next =>
        obtain ⟨h', tk', m', news', rfl, F', N', hne, hI'⟩ := q
        exact ⟨h', tk', m', news', rfl, F', N', fun p hp q hq => by rw [List.mem_singleton.mp hq]; exact hne p hp, trivial, ih (i + 1) hlt (nsub1 (by assumption)) m' news' hI'⟩
      | cont =>
        obtain ⟨h', tk', m', news', rfl, F', N', hne, hI'⟩ := q
        exact ⟨h', tk', m', news', rfl, F', N', fun p hp q hq => by rw [List.mem_singleton.mp hq]; exact hne p hp, trivial, ih (i + 1) hlt (nsub1 (by assumption)) m' news' hI'⟩
  refine wpAny_pyIter_range hr hsmall ?_
  refine ktu_core (tk0 := s.toks) (xs := (List.range n).map fun i => Itm.tok fun t => .int (a + (i : Nat) * c) t) (keep := []) (ws := [(s.heap.objs.size, "range_iterator")]) (KTurns.ofWalks (Walks.range hh s.heap.objs.size a c n).bound fun i v s Q E st q => letGo_rangeit st q) (by simp) (fun i v h hp => ?_) (fun i h st => ?_) (fun b hb => ?_) (fun b hb => by simpa using hb) (fun b hb => ?_) ?_ (fun p hp hI => ?_) ?_ (F.push _) (fun p hp => ⟨Heap.get?_push_of_some _ (N p hp).1, (N p hp).2⟩) trivial (by have := hI 0 (Nat.zero_le _) m₀ news (hi _ fun p hp => Heap.lt_size (N p hp).1); simpa using this)
  · obtain ⟨hlt, t, rfl⟩ := hp
    exact ⟨Itm.tok fun t => .int (a + (i : Nat) * c) t, by rw [List.getElem?_map, List.getElem?_range hlt]; rfl, t, rfl⟩
  · exact ⟨[(s.heap.objs.size, _)], ⟨⟨rfl, rfl⟩, trivial⟩, fun p hp => by rw [List.mem_singleton.mp hp]; exact st⟩
  · have hb' : b = s.heap.objs.size := by simpa using hb
    rw [hb']
    exact ⟨List.mem_cons_self .., next_is_new F⟩
  · exact .inl (by simpa using hb)
  · intro hI
    exact absurd F.ns.lt ((List.mem_singleton.mp hI) ▸ Nat.lt_irrefl _)
  · exact absurd (Heap.lt_size (N p hp).1) ((List.mem_singleton.mp hI) ▸ Nat.lt_irrefl _)
  · show IsRangeIter _ _ _ _ _
    rw [hn]; simpa using Heap.get?_push_size _ rfl
end
local macro_rules | `(tactic| walk_at "TurnPost") => `(tactic| (dsimp only [TurnPost]))
local macro_rules | `(tactic| walk_at $k:str) => if ["TurnEnd", "exec For", "exec For Name Call cons nil", "pyIter ref", "eval Lambda"].contains k.getString then `(tactic| refine stopHere ?_) else Lean.Macro.throwUnsupported

theorem rsize {a b : Int} (h : a ≤ b) : Builtin.Range.rangeSize a b 1 = b - a := by
  unfold Builtin.Range.rangeSize
  rw [if_pos (by decide)]
  by_cases q : a < b
  · rw [if_pos q, Int.ediv_one]; walk_at "om"
  · rw [if_neg q]; walk_at "om"
theorem rsmall {a b : Int} (h : a ≤ b) (h1 : -1000 < a) (h2 : b < 100000) : Builtin.Range.small a b 1 = true := by
  unfold Builtin.Range.small
  rw [rsize h]
  simp [Builtin.Range.rangeFitsLong]
  walk_at "om"
theorem rsizeD {a : Int} (h : 0 ≤ a) : Builtin.Range.rangeSize a 0 (-1) = a := by
  unfold Builtin.Range.rangeSize
  rw [if_neg (by decide)]
  by_cases q : a > 0
  · rw [if_pos q]; simp
  · rw [if_neg q]; walk_at "om"
theorem rsmallD {a : Int} (h : 0 ≤ a) (h2 : a < 100000) : Builtin.Range.small a 0 (-1) = true := by
  unfold Builtin.Range.small
  rw [rsizeD h]
  simp [Builtin.Range.rangeFitsLong]
  walk_at "om"
/-- the recurrence of the ring -/
noncomputable def ring (m e t : Int) : Nat → Int
  | 0 => (e - 1).fmod (m - t + 1)
  | i + 1 => (ring m e t i + e).fmod (m - t + 2 + i)
section
variable {w : World} {A : Around} {s : Shared} {b₀ : Heap} {E : Value → Shared → Prop} (W : Wd w b₀) (hb : b₀.StaysIn s.heap)
include W hb
theorem goes_spec (m e t : Int) (tm te tt : Tok) (h1 : 1 ≤ t) (h2 : t ≤ m) (h3 : m < 1000) (r : Room A 4) :
    wpAny (model PySem.Challenge.rw_xm0627_01.row.prog w) A (call (.ref 471) [.int m tm, .int e te, .int t tt]) (Out [] s (fun v _ => ∃ tk, v = .int (ring m e t (t - 1).toNat) tk)) E s := by
  walk_at "kfill"
  refine' enterD [] [] [(Str.ofString "many", .int m tm), (Str.ofString "every", .int e te), (Str.ofString "turn", .int t tt)] W hb (fun _ h => nomatch h) (fun _ h => nomatch h) ?ho ?hcd r ?hbind ?hloc ?_ ?c1 ?c2 ?c3 ?c4
  walk_at "kenter"
  intro g L h₁ tk p loose mean mg mb dp fr gd un X TP W' hg F N r' hU
  k_fold
  k_steps
  unfold Stop
  rename Fr _ _ _ _ => F1
  rename News _ _ _ _ => N1
  refine For_turns F1 ?_
  k_whole
  k_steps
  unfold Stop
  rename IsRange _ _ _ _ _ _ _ _ => rg
  rename Fr _ _ _ _ => F2
  rename News _ _ _ _ => N2
  refine for_range (n := (t - 1).toNat) (news := []) (fun I i m₁ news => news = [] ∧ m₁ (Str.ofString "every") = some (.int e te) ∧ ∃ tk, m₁ (Str.ofString "found") = some (.int (ring m e t i) tk)) r'.hh rg ?_ ?_ F2 (fun _ h => nomatch h) ?_ ?_ ?_
  · exact rsmall (by walk_at "om") (by walk_at "om") (by walk_at "om")
  · rw [rsize (by walk_at "om")]; walk_at "om"
  · intro I hI
    exact ⟨rfl, (by with_unfolding_all rfl), _, (by with_unfolding_all rfl)⟩
  · rintro I m₁ news₁ h tk ⟨e1, e2, tk9, e3⟩ F N
    subst e1
    have F0 := fr_st [(Str.ofString "every", _), (Str.ofString "found", _)] F ((fmc e2 ((fmc e3 (List.forall_mem_nil _)))))
    clear F F2 N2
    dsimp only
    k_steps
    exact ⟨[], (fun _ h => nomatch h), _, rfl⟩
  · rintro I i m₁ news₁ h tk o tt hlt ⟨e1, e2, tk9, e3⟩ F hc N
    k_fold
    subst e1
    have F0 := fr_st [(Str.ofString "every", _), (Str.ofString "found", _)] F ((fmc e2 ((fmc e3 (List.forall_mem_nil _)))))
    clear F F2 N2
    rw [Int.mul_one]
    k_steps
    unfold Stop
    exact ⟨_, _, _, [], rfl, (by assumption), (by assumption), (fun _ h => nomatch h), rfl, (by with_unfolding_all rfl), _, (by with_unfolding_all rfl)⟩
end
theorem val_of {a b : Int} {t : Tok} (h : a = b) : Value.int a t = Value.int b t := by rw [h]
/-- a drawn value -/
noncomputable def caught (sn : List Int) (p m : Int) : Int := if p < sn.length then (sn.getD p.toNat 0).fmod m else (p * p + 2 * p + 3).fmod m
section
variable {w : World} {A : Around} {s : Shared} {b₀ : Heap} {E : Value → Shared → Prop} (W : Wd w b₀) (hb : b₀.StaysIn s.heap)
include W hb
theorem caught_spec (nt sc : Addr) (hnt : b₀.get? nt = none) (scv : List Value) (sn : List Int) (e1 e2 : Nat) (hi : IntsAre scv sn) (hl : sn.length < 1000) (hsc : b₀.get? sc = some (PySem.W.listOf scv.toArray e1)) (p m : Int) (tp tm : Tok) (h0 : 0 ≤ p) (h1 : p < 1000) (hm : 0 < m)
    (H : Has s.heap [(nt, PySem.W.listOf #[.int p tp, .ref sc] e2)]) (r : Room A 4) :
    wpAny (model PySem.Challenge.rw_xm0627_01.row.prog w) A (call (.ref 433) [.ref nt, .int m tm]) (Out [nt] s (fun v l => ∃ tk tk2, v = .int (caught sn p m) tk ∧ l = [(nt, PySem.W.listOf #[.int (p + 1) tk2, .ref sc] e2)])) E s := by
  walk_at "kfill"
  refine' enterD [nt] [(nt, PySem.W.listOf #[.int p tp, .ref sc] e2)] [(Str.ofString "net", .ref nt), (Str.ofString "many", .int m tm)] W hb (fun a ha => by rw [List.mem_singleton.mp ha]; exact hnt) (fun p hp => by rw [List.mem_singleton.mp hp]; exact ⟨H _ (.head _), .head _⟩) ?ho ?hcd r ?hbind ?hloc ?_ ?c1 ?c2 ?c3 ?c4
  walk_at "kenter"
  intro g L h₁ tk p' loose mean mg mb dp fr gd un X TP W' hg F N r' hU
  k_fold
  have hsc0 : g.get? sc = some (PySem.W.listOf scv.toArray e1) := hg sc (fun q => by rw [List.mem_singleton.mp q, hnt] at hsc; cases hsc) _ (hb _ _ hsc)
  have hsc' : g.IsList sc scv.toArray := ⟨_, hsc0, rfl, e1, rfl⟩
  have hlen := hi.length
  k_steps
  · refine ⟨_, fun _ h => h, _, _, val_of ?_, rfl⟩
    unfold caught
    rw [if_pos (by walk_at "om")]
  · refine ⟨_, fun _ h => h, _, _, val_of ?_, rfl⟩
    unfold caught
    rw [if_neg (by walk_at "om")]
end
noncomputable def bits (n : Int) : Int := if n ≤ 0 then 0 else if n < 2 then 1 else if n < 4 then 2 else 3
theorem bits_half {n : Int} (h0 : 0 < n) (h1 : n < 8) : bits n = bits (n / 2) + 1 := by
  obtain ⟨m, rfl⟩ := Int.eq_ofNat_of_zero_le (Int.le_of_lt h0)
  have key : ∀ m : Nat, m < 8 → 0 < m → bits (m : Int) = bits ((m : Int) / 2) + 1 := by decide
  exact key m (Int.ofNat_lt.mp h1) (Int.ofNat_lt.mp h0)
section
variable {w : World} {A : Around} {s : Shared} {b₀ : Heap} {E : Value → Shared → Prop} (W : Wd w b₀) (hb : b₀.StaysIn s.heap)
include W hb
theorem log2_spec (n : Int) (t : Tok) (h0 : 0 ≤ n) (h1 : n < 8) (r : Room A 2) : wpAny (model PySem.Challenge.rw_xm0627_01.row.prog w) A (call (.ref 141) [.int n t]) (Out [] s (fun v _ => ∃ tk, v = .int (bits n - 1) tk)) E s := by
  walk_at "kfill"
  refine' enterD [] [] [(Str.ofString "n", .int n t)] W hb (fun _ h => nomatch h) (fun _ h => nomatch h) ?ho ?hcd r ?hbind ?hloc ?_ ?c1 ?c2 ?c3 ?c4
  walk_at "kenter"
  intro g L h₁ tk p loose mean mg mb dp fr gd un X TP W' hg F N r' hU
  k_fold
  k_steps
  unfold Stop
  rename Fr _ _ _ _ => F1
  refine ksw_while (σ := Int × Tok × Int × Tok) (fun _ => []) (fun c => [(Str.ofString "n", .int c.1 c.2.1), (Str.ofString "found", .int c.2.2.1 c.2.2.2)]) (fun _ => True) []
      (fun c => 0 ≤ c.1 ∧ c.1 < 8 ∧ c.2.2.1 + bits c.1 = bits n - 1) (fun c => c.1.toNat) (_, _, _, _) F1 (fun _ h => nomatch h) trivial (by kst_all) ?_ ?_ passes_false
  · refine ⟨h0, h1, ?_⟩
    dsimp only
    walk_at "om"
  · rintro ⟨n', t', f', u'⟩ u h tk9 _ ⟨i1, i2, i3⟩ F2 N2
    dsimp only at i1 i2 i3 N2 ⊢
    clear F1
    k_fold
    k_steps
    · unfold Stop
      refine ksw_end (news' := []) (n'.fdiv (2 ^ Int.toNat 1), _, f' + 1, _) (by assumption) (fun _ h => nomatch h) (fun _ h => h) trivial (by kst_all) (by walk_at "ksame") ?_ ?_
      · have e2 : n'.fdiv (2 ^ Int.toNat 1) = n' / 2 := fd2 n'
        dsimp only
        rw [e2]
        have e3 := bits_half (n := n') (by walk_at "om") i2
        exact ⟨by walk_at "om", by walk_at "om", by walk_at "om"⟩
      · have e2 : n'.fdiv (2 ^ Int.toNat 1) = n' / 2 := fd2 n'
        dsimp only
        rw [e2]
        walk_at "om"
    · refine ⟨[], (fun _ h => nomatch h), _, val_of ?_⟩
      dsimp only
      unfold bits at i3
      rw [if_pos (by walk_at "om")] at i3
      unfold bits
      walk_at "om"
end
local macro_rules | `(tactic| walk_at "call ref") => `(tactic| specialize (Mine.useE (Mine.log2_spec ?W ?hb _ _ ?h0 ?h1 ?r), 141))
section
variable {w : World} {A : Around} {s : Shared} {b₀ : Heap} {E : Value → Shared → Prop} (W : Wd w b₀) (hb : b₀.StaysIn s.heap)
include W hb
theorem ceil_spec (n : Int) (t : Tok) (h0 : 1 ≤ n) (h1 : n ≤ 8) (r : Room A 3) : wpAny (model PySem.Challenge.rw_xm0627_01.row.prog w) A (call (.ref 148) [.int n t]) (Out [] s (fun v _ => ∃ tk, v = .int (bits (n - 1)) tk)) E s := by
  walk_at "kfill"
  refine' enterD [] [] [(Str.ofString "n", .int n t)] W hb (fun _ h => nomatch h) (fun _ h => nomatch h) ?ho ?hcd r ?hbind ?hloc ?_ ?c1 ?c2 ?c3 ?c4
  walk_at "kenter"
  intro g L h₁ tk p loose mean mg mb dp fr gd un X TP W' hg F N r' hU
  k_fold
  k_steps
  exact ⟨[], (fun _ h => nomatch h), _, val_of (by walk_at "om")⟩
end
local macro_rules | `(tactic| walk_at "call ref") => `(tactic| specialize (Mine.useE (Mine.ceil_spec ?W ?hb _ _ ?h0 ?h1 ?r), 148))
section
variable {w : World} {A : Around} {s : Shared} {b₀ : Heap} {E : Value → Shared → Prop} (W : Wd w b₀) (hb : b₀.StaysIn s.heap)
include W hb
theorem count_key_spec (n : Int) (t : Tok) (h0 : 1 ≤ n) (h1 : n ≤ 8) (cl : Addr) (hcl : b₀.get? cl = none) (cvs : List Value) (cns : List Int) (hci : IntsAre cvs cns) (hcn : cns.length = 27) (ec : Nat) (H : Has s.heap [(cl, PySem.W.listOf cvs.toArray ec)]) (r : Room A 4) :
    wpAny (model PySem.Challenge.rw_xm0627_01.row.prog w) A (call (.ref 218) [.int n t, .ref cl]) (Out [cl] s (fun v l => ∃ tk t2, v = .int 1 tk ∧ l = [(cl, PySem.W.listOf (cvs.set (bits (n - 1)).toNat (.int (cns.getD (bits (n - 1)).toNat 0 + 1) t2)).toArray ec)])) E s := by
  have hb0 : 0 ≤ bits (n - 1) ∧ bits (n - 1) < 4 := by unfold bits; split <;> (try split) <;> (try split) <;> walk_at "om"
  have hcl2 := hci.length
  obtain ⟨t9, ht9⟩ := ints_at hci (i := (bits (n - 1)).toNat) (by walk_at "om")
  have ht8 : cvs[(bits (n - 1)).toNat]? = some (.int (cns.getD (bits (n - 1)).toNat 0) t9) := by
    rw [ht9, List.getD_eq_getElem?_getD, List.getElem?_eq_getElem (by walk_at "om")]; rfl
  walk_at "kfill"
  refine' enterD [cl] [(cl, PySem.W.listOf cvs.toArray ec)] [(Str.ofString "key", .int n t), (Str.ofString "counts", .ref cl)] W hb (fun a ha => by rw [List.mem_singleton.mp ha]; exact hcl) (fun p hp => by rw [List.mem_singleton.mp hp]; exact ⟨H _ (.head _), .head _⟩) ?ho ?hcd r ?hbind ?hloc ?_ ?c1 ?c2 ?c3 ?c4
  walk_at "kenter"
  intro g L h₁ tk p loose mean mg mb dp fr gd un X TP W' hg F N r' hU
  k_fold
  k_steps
  exact ⟨_, fun _ h => h, _, _, rfl, rfl⟩
end
local macro_rules | `(tactic| walk_at "subscriptTail") => `(tactic| specialize [Mine.sub_int])
local macro_rules | `(tactic| walk_at "call builtin:min") => `(tactic| specialize Mine.min_any)
section
variable {prog : Program} {w : World} {A : Around} {E : Value → Shared → Prop} {s : Shared} {h₀ : Heap} {L : Addr} {m : Str → Option Value} {news : Led} {a b : Int} {t u : Tok} {Q : Value → Shared → Prop}
theorem min_any (hh : A.handled = none) (F : Fr h₀ L s.heap m) (N : News h₀ L s.heap news) (h : ∀ t' h' tk, Fr h₀ L h' m → News h₀ L h' news → Q (.int (min a b) t') { s with heap := h', toks := tk }) :
    wpAny (model prog w) A (call (.builtin "min") [.int a t, .int b u]) Q E s :=
  min_two_N hh F N fun h' tk F' N' => by
    have e : (if b < a then b else a) = min a b := by split <;> walk_at "om"
    rw [e]
    exact h _ h' tk F' N'
end
local macro_rules | `(tactic| walk_at "ltall") => `(tactic| first | exact List.forall_mem_nil _ | (refine (fmc (ltA (by dsimp only; ksw_less)) ?_); walk_at "ltall"))
theorem ne_of_all {news : Led} {I : Addr} (h : ∀ p ∈ news, p.1 < I) : ∀ p ∈ news, p.1 ≠ I := fun p hp => Nat.ne_of_lt (h p hp)
theorem ints_set {us : List Value} {l : List Int} {a : Int} {t : Tok} (h : IntsAre us l) (k : Nat) : IntsAre (us.set k (.int a t)) (l.set k a) := by
  induction h generalizing k with
  | nil => exact .nil
  | cons b u r ih =>
    cases k with
    | zero => exact .cons a t r
    | succ k => exact .cons b u (ih k)
/-- what count_array counts, where all places hold a number -/
noncomputable def ca (n : Int) : Nat → Nat → Int → Int → Int → List Int → Int × List Int
  | 0, _, _, _, total, cns => (total, cns)
  | f + 1, i, at_, limit, total, cns => if at_ > min limit n then (total, cns) else ca n f (i + 1) (min limit n + 1) (limit * 2) (total + (min limit n + 1 - at_)) (cns.set i (cns.getD i 0 + (min limit n + 1 - at_)))
section
variable {prog : Program} {w : World} {A : Around} {E : Value → Shared → Prop} {s : Shared} {h₀ : Heap} {L D : Addr} {news : Led} {vs : List Value} {ns : List Int} {n : Nat} {k : Int} {t : Tok}
theorem sub_int {value slice : PySem.Expr} {Q : Value → Shared → Prop} (N : News h₀ L s.heap news) (hm : (D, PySem.W.listOf vs.toArray n) ∈ news) (hi : IntsAre vs ns) (h0 : 0 ≤ k) (h1 : k < ns.length) (hfit : ns.length < 1000)
    (ha : ∀ u, Q (.int (ns.getD k.toNat 0) u) s)
    (hs : subscripted slice false (.ref D) (.int k t) = operate [.ref D, .int k t] (getItem (.ref D) (.int k t)) := by with_unfolding_all rfl) :
    wpAny (model prog w) A (subscriptTail value slice (.ref D) (.int k t)) Q E s := by
  obtain ⟨u, hu⟩ := ints_at hi (i := k.toNat) (by walk_at "om")
  refine sub_any (v := .int (ns.getD k.toNat 0) u) N hm h0 (by walk_at "om") ?_ (ha u) hs
  rw [hu, List.getD_eq_getElem?_getD, List.getElem?_eq_getElem (by walk_at "om")]; rfl
end
inductive CaInv (w : World) (T : TabS) (vs : List Value) (e : Nat) (cl : Addr) (ec : Nat) (n : Int) (cns : List Int) (I : Addr) (i : Nat) (m : Str → Option Value) (news : Led) : Prop
  | mk (at_ limit total : Int) (cns' : List Int) (cvs' : List Value) (ta tl tt : Tok) (e1 : m (Str.ofString "self") = some (.ref T.t)) (e2 : m (Str.ofString "counts") = some (.ref cl)) (e3 : m (Str.ofString "at") = some (.int at_ ta)) (e4 : m (Str.ofString "limit") = some (.int limit tl)) (e5 : m (Str.ofString "total") = some (.int total tt))
    (e6 : news = (cl, PySem.W.listOf cvs'.toArray ec) :: tled w T vs e) (e7 : IntsAre cvs' cns') (e8 : cns'.length = 27) (e9 : 1 ≤ at_) (e10 : at_ ≤ 10000) (e11 : 1 ≤ limit) (e12 : ca n (27 - i) i at_ limit total cns' = ca n 27 0 1 1 0 cns) (e13 : ∀ p ∈ news, p.1 < I) : CaInv w T vs e cl ec n cns I i m news
section
variable {w : World} {A : Around} {s : Shared} {b₀ : Heap} {E : Value → Shared → Prop} (W : Wd w b₀) (hb : b₀.StaysIn s.heap)
include W hb
theorem count_array_spec (T : TabS) (vs : List Value) (ns : List Int) (e : Nat) (hi : IntsAre vs ns) (hlen : ns.length < 1000) (hT : TabOk b₀ T) (cl : Addr) (hcl : b₀.get? cl = none) (hcT : @LT.lt Nat _ T.ln cl) (cvs : List Value) (cns : List Int) (hci : IntsAre cvs cns) (hcn : cns.length = 27) (ec : Nat)
    (H : Has s.heap ((cl, PySem.W.listOf cvs.toArray ec) :: tled w T vs e)) (r : Room A 4) :
    wpAny (model PySem.Challenge.rw_xm0627_01.row.prog w) A (call (.ref 324) [.ref T.t, .ref cl]) (Out (cl :: T.ch) s (fun v l => ∃ tk cvs', v = .int (ca ns.length 27 0 1 1 0 cns).1 tk ∧ IntsAre cvs' (ca ns.length 27 0 1 1 0 cns).2 ∧ l = (cl, PySem.W.listOf cvs'.toArray ec) :: tled w T vs e)) E s := by
  walk_at "kfill"
  refine' enterD (cl :: T.ch) ((cl, PySem.W.listOf cvs.toArray ec) :: tled w T vs e) [(Str.ofString "self", .ref T.t), (Str.ofString "counts", .ref cl)] W hb ((fmc hcl hT.hm)) ((fmc (⟨H _ (.head _), .head _⟩) (fun p hp => ⟨H _ (.tail _ hp), .tail _ (hl_tab (fun q hq => H _ (.tail _ hq)) p hp).2⟩))) ?ho ?hcd r ?hbind ?hloc ?_ ?c1 ?c2 ?c3 ?c4
  walk_at "kenter"
  intro g L h₁ tk p loose mean mg mb dp fr gd un X TP W' hg F N r' hU
  k_fold
  have t1 := hT.h1
  have t2 := hT.h2
  have t3 := hT.h3
  have hlv := hi.length
  clear H
  walk_at "flat"
  k_steps
  unfold Stop
  rename Fr _ _ _ _ => F1
  refine For_turns F1 ?_
  k_whole
  walk_at "flat"
  k_steps
  unfold Stop
  rename IsRange _ _ _ _ _ _ _ _ => rg
  rename Fr _ _ _ _ => F2
  rename News _ _ _ _ => N2
  refine for_range (n := 27) (news := (cl, PySem.W.listOf cvs.toArray ec) :: tled w T vs e) (CaInv w T vs e cl ec ns.length cns) r'.hh rg ?_ ?_ F2 ?_ ?_ ?_ ?_
  · decide
  · decide
  · exact N2
  · intro I hI
    exact ⟨1, 1, 0, cns, cvs, _, _, _, (by with_unfolding_all rfl), (by with_unfolding_all rfl), (by with_unfolding_all rfl), (by with_unfolding_all rfl), (by with_unfolding_all rfl), rfl, hci, hcn, by walk_at "om", by walk_at "om", by walk_at "om", rfl, hI⟩
  · rintro I m₁ news₁ h tk ⟨at_, limit, total, cns', cvs', ta, tl, tt', e1, e2, e3, e4, e5, e6, e7, e8, e9, e10, e11, e12, e13⟩ F N
    subst e6
    have F0 := fr_st [(Str.ofString "total", _)] F ((fmc e5 (List.forall_mem_nil _)))
    clear F F2 N2 e1 e2 e3 e4 e5
    dsimp only
    walk_at "flat"
    k_steps
    have e14 : ca ns.length 27 0 1 1 0 cns = (total, cns') := by rw [← e12]; rfl
    refine ⟨_, fun p hp => hp, _, cvs', val_of (by rw [e14]), by rw [e14]; exact e7, rfl⟩
  · rintro I i m₁ news₁ h tk o tt hlt ⟨at_, limit, total, cns', cvs', ta, tl, tt', e1, e2, e3, e4, e5, e6, e7, e8, e9, e10, e11, e12, e13⟩ F hc N
    k_fold
    subst e6
    have F0 := fr_st [(Str.ofString "self", _), (Str.ofString "counts", _), (Str.ofString "at", _), (Str.ofString "limit", _), (Str.ofString "total", _)] F ((fmc e1 ((fmc e2 ((fmc e3 ((fmc e4 ((fmc e5 (List.forall_mem_nil _)))))))))))
    clear F F2 N2 e1 e2 e3 e4 e5
    have hlc := e7.length
    k_lt e13
    rw [show (0 : Int) + (i : Int) * 1 = (i : Int) by walk_at "om"]
    walk_at "flat"
    k_steps
    · have e14 : ca ns.length 27 0 1 1 0 cns = (total, cns') := by
        rw [← e12, show 27 - i = (26 - i) + 1 by walk_at "om"]
        exact if_pos (by walk_at "om")
      refine ⟨_, fun p hp => .tail _ hp, _, cvs', val_of (by rw [e14]), by rw [e14]; exact e7, rfl⟩
    · unfold Stop
      rename Fr _ _ _ _ => F3
      rename News _ _ _ _ => N3
      refine ksw_while (σ := Int × Tok × Int × Tok) (fun _ => (I, o) :: (cl, PySem.W.listOf cvs'.toArray ec) :: tled w T vs e) (fun c => [(Str.ofString "at", .int c.1 c.2.1), (Str.ofString "here", .int c.2.2.1 c.2.2.2)]) (fun _ => True) []
        (fun c => at_ ≤ c.1 ∧ c.1 ≤ min limit ns.length + 1 ∧ c.2.2.1 = c.1 - at_) (fun c => (min limit ns.length + 1 - c.1).toNat) (_, _, _, _) F3 N3 trivial (by kst_all) ?_ ?_ passes_false
      · exact ⟨by dsimp only; ksw_less, by dsimp only; ksw_less, by dsimp only; ksw_less⟩
      · rintro ⟨a', t', f', u'⟩ u h tk9 _ ⟨i1, i2, i3⟩ F4 N4
        dsimp only at i1 i2 i3 N4 ⊢
        clear F3 N3 N
        k_fold
        have elast : (if (vs.length : Int) < limit then (vs.length : Int) else limit) = min limit ns.length := by split <;> walk_at "om"
        walk_at "flat"
        k_steps
        · unfold Stop
          refine ksw_end (a' + 1, _, f' + 1, _) (by assumption) (by assumption) (fun _ h => h) trivial (by kst_all) (by walk_at "ksame") ?_ ?_
          · exact ⟨by dsimp only; ksw_less, by dsimp only; ksw_less, by dsimp only; ksw_less⟩
          · dsimp only; ksw_less
        · unfold Stop
          rename Fr _ _ _ _ => F9
          rename News _ _ _ _ => N9
          have ea : a' = min limit ns.length + 1 := by walk_at "om"
          refine ⟨_, _, _, _, rfl, F9, N9, ?g0, a', limit * 2, total + f', cns'.set i (cns'.getD i 0 + f'), _, _, _, _, (by with_unfolding_all rfl), (by with_unfolding_all rfl), (by with_unfolding_all rfl), (by with_unfolding_all rfl), (by with_unfolding_all rfl), rfl, ?g1, ?g2, by walk_at "om", by walk_at "om", by walk_at "om", ?g3, ?g4⟩
          case g0 => exact ne_of_all (by walk_at "ltall")
          case g1 => exact ints_set e7 i
          case g2 => rw [List.length_set]; exact e8
          case g3 =>
            rw [← e12, show 27 - i = (27 - (i + 1)) + 1 by walk_at "om"]
            show _ = if at_ > min limit ns.length then _ else _
            rw [if_neg (by walk_at "om"), ← ea, show f' = a' - at_ from i3]
          case g4 => walk_at "ltall"
end
local macro_rules | `(tactic| walk_at $k:str) => if ["exec For Name Name cons nil", "exec For Tuple Call cons nil", "call type:enumerate", "TurnPost2"].contains k.getString then `(tactic| refine stopHere ?_) else Lean.Macro.throwUnsupported
theorem ints_cons {v : Value} {r : List Value} {l : List Int} (h : IntsAre (v :: r) l) : ∃ k rn t, v = .int k t ∧ l = k :: rn ∧ IntsAre r rn := by
  cases h with
  | cons k t h => exact ⟨k, _, t, rfl, rfl, h⟩
/-- what compute_sizes computes -/
noncomputable def csz (wanted : Int) : List Int → Int → Int → Int → Int → Int × Int
  | [], _, used, size, _ => (size, used)
  | c :: r, gathered, used, size, power =>
    if power.fdiv 2 ≥ wanted then (size, used)
    else if c > 0 then
      if gathered + c > power.fdiv 2 then (if gathered + c = wanted then (power, gathered + c) else csz wanted r (gathered + c) (gathered + c) power (power * 2))
      else (if gathered + c = wanted then (size, used) else csz wanted r (gathered + c) used size (power * 2))
    else (if gathered = wanted then (size, used) else csz wanted r gathered used size (power * 2))
inductive SzInv (wanted : Int) (tw : Tok) (cl : Addr) (cvs : List Value) (ec : Nat) (cns : List Int) (I : Addr) (rest : List Value) (m : Str → Option Value) (news : Led) : Prop
  | mk (rns : List Int) (gathered used size power : Int) (t1 t2 t3 t4 : Tok) (e1 : m (Str.ofString "wanted") = some (.int wanted tw)) (e2 : m (Str.ofString "gathered") = some (.int gathered t1)) (e3 : m (Str.ofString "used") = some (.int used t2)) (e4 : m (Str.ofString "size") = some (.int size t3)) (e5 : m (Str.ofString "power") = some (.int power t4))
    (e6 : news = [(cl, PySem.W.listOf cvs.toArray ec)]) (e7 : IntsAre rest rns) (e8 : csz wanted rns gathered used size power = csz wanted cns 0 0 0 1) (e9 : @LT.lt Nat _ cl I) : SzInv wanted tw cl cvs ec cns I rest m news
section
variable {w : World} {A : Around} {s : Shared} {b₀ : Heap} {E : Value → Shared → Prop} (W : Wd w b₀) (hb : b₀.StaysIn s.heap)
include W hb
theorem sizes_spec (cl : Addr) (hcl : b₀.get? cl = none) (cvs : List Value) (cns : List Int) (hci : IntsAre cvs cns) (ec : Nat) (wanted : Int) (tw : Tok) (H : Has s.heap [(cl, PySem.W.listOf cvs.toArray ec)]) (r : Room A 4) :
    wpAny (model PySem.Challenge.rw_xm0627_01.row.prog w) A (call (.ref 211) [.ref cl, .int wanted tw]) (Out [cl] s (fun v l => ∃ q t1 t2, v = .ref q ∧ q ≠ cl ∧ l = [(q, { cls := .type "tuple", data := .seq #[.int (csz wanted cns 0 0 0 1).1 t1, .int (csz wanted cns 0 0 0 1).2 t2] }), (cl, PySem.W.listOf cvs.toArray ec)])) E s := by
  walk_at "kfill"
  refine' enterD [cl] [(cl, PySem.W.listOf cvs.toArray ec)] [(Str.ofString "counts", .ref cl), (Str.ofString "wanted", .int wanted tw)] W hb (fun a ha => by rw [List.mem_singleton.mp ha]; exact hcl) (fun p hp => by rw [List.mem_singleton.mp hp]; exact ⟨H _ (.head _), .head _⟩) ?ho ?hcd r ?hbind ?hloc ?_ ?c1 ?c2 ?c3 ?c4
  walk_at "kenter"
  intro g L h₁ tk p loose mean mg mb dp fr gd un X TP W' hg F N r' hU
  k_fold
  clear H
  walk_at "flat"
  k_steps
  unfold Stop
  rename Fr _ _ _ _ => F1
  refine For_turns F1 ?_
  k_whole
  walk_at "flat"
  k_steps
  unfold Stop
  rename Fr _ _ _ _ => F2
  rename News _ _ _ _ => N2
  refine for_list (n := ec) (vs := cvs) (SzInv wanted tw cl cvs ec cns) r'.hh F2 N2 (by k_mem) ?_ ?_ ?_
  · intro I hI
    exact ⟨cns, 0, 0, 0, 1, _, _, _, _, (by with_unfolding_all rfl), (by with_unfolding_all rfl), (by with_unfolding_all rfl), (by with_unfolding_all rfl), (by with_unfolding_all rfl), rfl, hci, rfl, hI _ (.head _)⟩
  · rintro I m₁ news₁ h tk ⟨rns, gathered, used, size, power, t1, t2, t3, t4, e1, e2, e3, e4, e5, e6, e7, e8, e9⟩ F N
    subst e6
    have F0 := fr_st [(Str.ofString "used", _), (Str.ofString "size", _)] F ((fmc e3 ((fmc e4 (List.forall_mem_nil _)))))
    clear F F2 N2 e1 e2 e3 e4 e5
    cases e7
    dsimp only
    walk_at "flat"
    k_steps
    have eq : csz wanted cns 0 0 0 1 = (size, used) := e8.symm
    rw [eq]
    exact ⟨_, (fmc (.head _) ((fmc (.tail _ (.head _)) (List.forall_mem_nil _)))), _, _, _, rfl, by k_ne, rfl⟩
  · rintro I v rest m₁ news₁ h tk o ⟨rns, gathered, used, size, power, t1, t2, t3, t4, e1, e2, e3, e4, e5, e6, e7, e8, e9⟩ F hc N
    k_fold
    subst e6
    have F0 := fr_st [(Str.ofString "wanted", _), (Str.ofString "gathered", _), (Str.ofString "used", _), (Str.ofString "size", _), (Str.ofString "power", _)] F ((fmc e1 ((fmc e2 ((fmc e3 ((fmc e4 ((fmc e5 (List.forall_mem_nil _)))))))))))
    clear F F2 N2 e1 e2 e3 e4 e5
    obtain ⟨k0, rn, t0, rfl, rfl, e7b⟩ := ints_cons e7
    walk_at "flat"
    k_steps
    · have eq : csz wanted cns 0 0 0 1 = (size, used) := by
        rw [← e8]; unfold csz; rw [if_pos (by walk_at "om")]
      rw [eq]
      exact ⟨_, (fmc (.head _) ((fmc (.tail _ (.tail _ (.head _))) (List.forall_mem_nil _)))), _, _, _, rfl, by k_ne, rfl⟩
    · have eq : csz wanted cns 0 0 0 1 = (power, gathered + k0) := by
        rw [← e8]; unfold csz; rw [if_neg (by walk_at "om")]; rw [if_pos (by walk_at "om")]; rw [if_pos (by walk_at "om")]; rw [if_pos (by walk_at "om")]
      rw [eq]
      exact ⟨_, (fmc (.head _) ((fmc (.tail _ (.tail _ (.head _))) (List.forall_mem_nil _)))), _, _, _, rfl, by k_ne, rfl⟩
    · unfold Stop
      have eq : csz wanted rn (gathered + k0) (gathered + k0) power (power * 2) = csz wanted cns 0 0 0 1 := by
        rw [← e8]; symm; conv => { lhs; unfold csz }
        rw [if_neg (by walk_at "om")]; rw [if_pos (by walk_at "om")]; rw [if_pos (by walk_at "om")]; rw [if_neg (by walk_at "om")]
      exact ⟨_, _, _, [(cl, PySem.W.listOf cvs.toArray ec)], rfl, (by assumption), (by assumption), (fun p hp => by rw [List.mem_singleton.mp hp]; k_ne), .head _, _, (gathered + k0), (gathered + k0), power, power * 2, _, _, _, _, (by with_unfolding_all rfl), (by with_unfolding_all rfl), (by with_unfolding_all rfl), (by with_unfolding_all rfl), (by with_unfolding_all rfl), rfl, e7b, eq, e9⟩
    · have eq : csz wanted cns 0 0 0 1 = (size, used) := by
        rw [← e8]; unfold csz; rw [if_neg (by walk_at "om")]; rw [if_pos (by walk_at "om")]; rw [if_neg (by walk_at "om")]; rw [if_pos (by walk_at "om")]
      rw [eq]
      exact ⟨_, (fmc (.head _) ((fmc (.tail _ (.tail _ (.head _))) (List.forall_mem_nil _)))), _, _, _, rfl, by k_ne, rfl⟩
    · unfold Stop
      have eq : csz wanted rn (gathered + k0) used size (power * 2) = csz wanted cns 0 0 0 1 := by
        rw [← e8]; symm; conv => { lhs; unfold csz }
        rw [if_neg (by walk_at "om")]; rw [if_pos (by walk_at "om")]; rw [if_neg (by walk_at "om")]; rw [if_neg (by walk_at "om")]
      exact ⟨_, _, _, [(cl, PySem.W.listOf cvs.toArray ec)], rfl, (by assumption), (by assumption), (fun p hp => by rw [List.mem_singleton.mp hp]; k_ne), .head _, _, (gathered + k0), used, size, power * 2, _, _, _, _, (by with_unfolding_all rfl), (by with_unfolding_all rfl), (by with_unfolding_all rfl), (by with_unfolding_all rfl), (by with_unfolding_all rfl), rfl, e7b, eq, e9⟩
    · have eq : csz wanted cns 0 0 0 1 = (size, used) := by
        rw [← e8]; unfold csz; rw [if_neg (by walk_at "om")]; rw [if_neg (by walk_at "om")]; rw [if_pos (by walk_at "om")]
      rw [eq]
      exact ⟨_, (fmc (.head _) ((fmc (.tail _ (.tail _ (.head _))) (List.forall_mem_nil _)))), _, _, _, rfl, by k_ne, rfl⟩
    · unfold Stop
      have eq : csz wanted rn gathered used size (power * 2) = csz wanted cns 0 0 0 1 := by
        rw [← e8]; symm; conv => { lhs; unfold csz }
        rw [if_neg (by walk_at "om")]; rw [if_neg (by walk_at "om")]; rw [if_neg (by walk_at "om")]
      exact ⟨_, _, _, [(cl, PySem.W.listOf cvs.toArray ec)], rfl, (by assumption), (by assumption), (fun p hp => by rw [List.mem_singleton.mp hp]; k_ne), .head _, _, gathered, used, size, power * 2, _, _, _, _, (by with_unfolding_all rfl), (by with_unfolding_all rfl), (by with_unfolding_all rfl), (by with_unfolding_all rfl), (by with_unfolding_all rfl), rfl, e7b, eq, e9⟩
end
theorem csz_small (n : Nat) (h : n ≤ 7) (cns : List Int) (hc : cns = List.replicate 27 0) :
    (ca n 27 0 1 1 0 cns).1 = n ∧ ∃ z : Int, csz (n + 1) ((ca n 27 0 1 1 0 cns).2.set (bits ((n : Int) + 1 - 1)).toNat ((ca n 27 0 1 1 0 cns).2.getD (bits ((n : Int) + 1 - 1)).toNat 0 + 1)) 0 0 0 1 = (z, (n : Int) + 1) ∧ (n : Int) + 1 ≤ z ∧ z ≤ 8 := by
  subst hc
  have := le7 n (Nat.lt_succ_of_le h)
  rcases this with rfl | rfl | rfl | rfl | rfl | rfl | rfl | rfl
  · exact ⟨by decide +kernel, 1, by decide +kernel⟩
  · exact ⟨by decide +kernel, 2, by decide +kernel⟩
  · exact ⟨by decide +kernel, 4, by decide +kernel⟩
  · exact ⟨by decide +kernel, 4, by decide +kernel⟩
  · exact ⟨by decide +kernel, 8, by decide +kernel⟩
  · exact ⟨by decide +kernel, 8, by decide +kernel⟩
  · exact ⟨by decide +kernel, 8, by decide +kernel⟩
  · exact ⟨by decide +kernel, 8, by decide +kernel⟩
theorem ca_len (n : Int) : ∀ (f i : Nat) (a l t : Int) (cns : List Int), (ca n f i a l t cns).2.length = cns.length
  | 0, _, _, _, _, _ => rfl
  | f + 1, i, a, l, t, cns => by
    unfold ca
    split
    · rfl
    · rw [ca_len n f]; simp
section
variable {w : World} {A : Around} {s : Shared} {b₀ : Heap} {E : Value → Shared → Prop} (W : Wd w b₀) (hb : b₀.StaysIn s.heap)
include W hb
theorem rehash_spec (T : TabS) (vs : List Value) (ns : List Int) (hi : IntsAre vs ns) (h7 : ns.length ≤ 7) (e : Nat) (hT : TabOk b₀ T) (H : Has s.heap (tled w T vs e)) (r : Room A 6) (x : Int) (tx : Tok) (hx : x = ns.length + 1) :
    wpAny (model PySem.Challenge.rw_xm0627_01.row.prog w) A (call (.ref 338) [.ref T.t, .int x tx, .none]) (Out T.ch s (fun v l => v = .none ∧ ∃ (T' : TabS) (e' j : Nat), 1 ≤ j ∧ ns.length + j ≤ 8 ∧ T'.t = T.t ∧ T'.d = T.d ∧ @LT.lt Nat _ T.t T'.la ∧ @LT.lt Nat _ T'.la T'.ln ∧ @LT.lt Nat _ T.ln T'.la ∧ l = tled w T' (vs ++ List.replicate j Value.none) e')) E s := by
  walk_at "kfill"
  refine' enterD T.ch (tled w T vs e) [(Str.ofString "self", .ref T.t), (Str.ofString "extra", .int x tx), (Str.ofString "heap", .none)] W hb hT.hm (hl_tab H) ?ho ?hcd r ?hbind ?hloc ?_ ?c1 ?c2 ?c3 ?c4
  walk_at "kenter"
  intro g L h₁ tk p loose mean mg mb dp fr gd un X TP W' hg F N r' hU
  k_fold
  have t1 := hT.h1
  have t2 := hT.h2
  have t3 := hT.h3
  have hlen := hi.length
  clear H
  walk_at "flat"
  k_steps
  unfold Stop
  rename Fr _ _ _ _ => F1
  rename News _ _ _ _ => N1
  rename IntsAre _ _ => i1
  rename_i cl q5 q6 q7 q8 q9 q10 o2 q11
  clear q6 q7 q8 q9 q10
  have hcl : g.get? cl = none := (N1 _ (.head _)).2.2
  refine' useN (ch := cl :: T.ch) ?C F1 N1 ?hsub ?hcov [] (fun _ h => nomatch h) ?k
  case C => exact fun H => count_array_spec W' (by exact F1.keep) T vs ns e hi (by walk_at "om") (tabOk_news hT N1 (by walk_at "sub")) cl hcl (by ksw_less) _ _ i1 (by decide) 0 H (by walk_at "room")
  case hsub => exact (fmc (by k_mem) (by walk_at "sub"))
  case hcov => exact (fmc (⟨_, .head _⟩) (fun a ha => let ⟨o, ho⟩ := tled_cov a ha; ⟨o, .tail _ ho⟩))
  case k =>
    rintro v2 h2 tk2 led2 ⟨t2a, cvs2, rfl, i2, rfl⟩ F2 N2 -
    obtain ⟨z1, z, z2, z3, z4⟩ := csz_small ns.length h7 _ (rfl : (List.replicate ((26 : Int) + 1).toNat [(0 : Int)]).flatten = List.replicate 27 0)
    rw [z1]
    rw [List.append_nil] at N2
    clear F1 N1
    walk_at "flat"
    k_steps
    unfold Stop
    rename Fr _ _ _ _ => F3
    rename News _ _ _ _ => N3
    refine' useN (ch := T.ch) ?C F3 N3 ?hsub tled_cov [(cl, PySem.W.listOf cvs2.toArray 0)] ?hs ?k
    case C => exact fun H => count_nodes_spec W' (by exact F3.keep) T vs e (tabOk_news hT N3 (by walk_at "sub")) cl H (by walk_at "room")
    case hsub => walk_at "sub"
    case hs => intro p hp; rw [List.mem_singleton.mp hp]; exact ⟨by k_mem, notin4 (by k_ne) (by k_ne) (by k_ne) (by k_ne)⟩
    case k =>
      rintro v4 h4 tk4 led4 ⟨q4, t4a, t4b, rfl, n4, rfl⟩ F4 N4 hf4
      replace hf4 := neAll ((hf4 _ (.head _)).resolve_left n4)
      simp only [List.forall_mem_cons, List.not_mem_nil, false_implies, implies_true, and_true] at hf4
      dsimp only [List.cons_append, List.nil_append] at N4
      clear F3 N3
      walk_at "flat"
      k_steps
      unfold Stop
      rename Fr _ _ _ _ => F5
      rename News _ _ _ _ => N5
      have hcl5 : g.get? cl = none := hcl
      refine' useN (ch := [cl]) ?C F5 N5 ?hsub ?hcov (tled w T vs e) ?hs ?k
      case C => exact fun H => count_key_spec W' (by exact F5.keep) x tx (by walk_at "om") (by walk_at "om") cl hcl cvs2 _ i2 (by rw [ca_len]; decide) 0 H (by walk_at "room")
      case hsub => intro p hp; rw [List.mem_singleton.mp hp]; k_mem
      case hcov => intro a ha; rw [List.mem_singleton.mp ha]; exact ⟨_, .head _⟩
      case hs => exact (fmc (⟨by k_mem, by rw [List.mem_singleton]; k_ne⟩) ((fmc (⟨by k_mem, by rw [List.mem_singleton]; k_ne⟩) ((fmc (⟨by k_mem, by rw [List.mem_singleton]; k_ne⟩) ((fmc (⟨by k_mem, by rw [List.mem_singleton]; k_ne⟩) (List.forall_mem_nil _))))))))
      case k =>
        rintro v6 h6 tk6 led6 ⟨t6a, t6b, rfl, rfl⟩ F6 N6 -
        dsimp only [List.cons_append, List.nil_append] at N6
        clear F5 N5
        have ci6 := ints_set (a := (ca ns.length 27 0 1 1 0 (List.replicate ((26 : Int) + 1).toNat [(0 : Int)]).flatten).2.getD (bits (x - 1)).toNat 0 + 1) (t := t6b) i2 (bits (x - 1)).toNat
        walk_at "flat"
        k_steps
        unfold Stop
        rename Fr _ _ _ _ => F7
        rename News _ _ _ _ => N7
        refine' useN (ch := [cl]) ?C F7 N7 ?hsub ?hcov (tled w T vs e) ?hs ?k
        case C => exact fun H => sizes_spec W' (by exact F7.keep) cl hcl _ _ ci6 0 _ _ H (by walk_at "room")
        case hsub => intro p hp; rw [List.mem_singleton.mp hp]; k_mem
        case hcov => intro a ha; rw [List.mem_singleton.mp ha]; exact ⟨_, .head _⟩
        case hs => exact (fmc (⟨by k_mem, by rw [List.mem_singleton]; k_ne⟩) ((fmc (⟨by k_mem, by rw [List.mem_singleton]; k_ne⟩) ((fmc (⟨by k_mem, by rw [List.mem_singleton]; k_ne⟩) ((fmc (⟨by k_mem, by rw [List.mem_singleton]; k_ne⟩) (List.forall_mem_nil _))))))))
        case k =>
          rintro v8 h8 tk8 led8 ⟨q8, t8a, t8b, rfl, n8, rfl⟩ F8 N8 hf8
          replace hf8 := neAll ((hf8 _ (.head _)).resolve_left (fun hm => n8 (List.mem_singleton.mp hm)))
          simp only [List.forall_mem_cons, List.not_mem_nil, false_implies, implies_true, and_true] at hf8
          dsimp only [List.cons_append, List.nil_append] at N8
          clear F7 N7
          have z5 : csz ((ns.length : Int) + (0 + 1)) ((ca ns.length 27 0 1 1 0 (List.replicate ((26 : Int) + 1).toNat [(0 : Int)]).flatten).2.set (bits (x - 1)).toNat ((ca ns.length 27 0 1 1 0 (List.replicate ((26 : Int) + 1).toNat [(0 : Int)]).flatten).2.getD (bits (x - 1)).toNat 0 + 1)) 0 0 0 1 = (z, (ns.length : Int) + 1) := by
            rw [hx]; exact z2
          rw [z5] at N8
          dsimp only at N8
          walk_at "flat"
          k_steps
          unfold Stop
          rename Fr _ _ _ _ => F9
          rename News _ _ _ _ => N9
          refine' useN (ch := T.ch) ?C F9 N9 ?hsub tled_cov [] (fun _ h => nomatch h) ?k
          case C => exact fun H => resize_spec W' (by exact F9.keep) T vs ns hi e (tabOk_news hT N9 (by walk_at "sub")) H (by walk_at "room") z _ _ _ (by walk_at "om") (by walk_at "om") (by walk_at "om") _ (.inr rfl)
          case hsub => walk_at "sub"
          case k =>
            rintro v10 h10 tk10 led10 ⟨rfl, T', e', y1, y2, y3, y4, y5, rfl⟩ F10 N10 -
            rw [List.append_nil] at N10
            clear F9 N9
            walk_at "flat"
            k_steps
            exact ⟨_, fun _ h => h, rfl, T', e', z.toNat - ns.length, by walk_at "om", by walk_at "om", y1, y2, y3, y4, y5, rfl⟩
end
/-- a table that has grown -/
noncomputable def Grown (w : World) (T : TabS) (us : List Value) (v : Value) (l : Led) : Prop :=
  ∃ (T' : TabS) (e' j : Nat), us.length + 1 + j ≤ 8 ∧ T'.t = T.t ∧ T'.d = T.d ∧ @LT.lt Nat _ T.t T'.la ∧ @LT.lt Nat _ T'.la T'.ln ∧ (@LT.lt Nat _ T.ln T'.la ∨ T'.la = T.la ∧ T'.ln = T.ln) ∧ l = tled w T' (us ++ [v] ++ List.replicate j Value.none) e'
theorem set_end {us : List Value} {v : Value} {j : Nat} {k : Nat} (h : k = us.length) : (us ++ List.replicate (j + 1) Value.none).set k v = us ++ [v] ++ List.replicate j Value.none := by
  subst h
  rw [List.set_append_right _ _ (Nat.le_refl _), Nat.sub_self, List.replicate_succ, List.set_cons_zero, List.append_assoc]
  rfl
theorem tabOk_like {b₀ : Heap} {T T' : TabS} {g : Heap} {L : Addr} {h : Heap} {news : Led} {w : World} {arr : List Value} {e : Nat} (hT : TabOk b₀ T) (N : News g L h news) (hsub : ∀ p ∈ tled w T' arr e, p ∈ news) (e1 : T'.t = T.t) (e2 : T'.d = T.d) (o1 : @LT.lt Nat _ T.t T'.la) (o2 : @LT.lt Nat _ T'.la T'.ln) : TabOk g T' :=
  ⟨by rw [e1, e2]; exact hT.h1, by rw [e1]; exact o1, o2, (N _ (hsub (T'.t, instObj 424 T'.d) (by simp [tled]))).2.2, (N _ (hsub (T'.d, dictOf (tabEs w T') 10) (by simp [tled]))).2.2,
    (N _ (hsub (T'.la, PySem.W.listOf arr.toArray e) (by simp [tled]))).2.2, (N _ (hsub (T'.ln, PySem.W.listOf #[] T'.en) (by simp [tled]))).2.2⟩
section
variable {w : World} {A : Around} {s : Shared} {b₀ : Heap} {E : Value → Shared → Prop} (W : Wd w b₀) (hb : b₀.StaysIn s.heap)
include W hb
theorem put_again_in (T : TabS) (arr : List Value) (e : Nat) (hT : TabOk b₀ T) (H : Has s.heap (tled w T arr e)) (hlen : arr.length < 1000) (r : Room A 3) (i : Int) (t : Tok) (h1 : 1 ≤ i) (h2 : i ≤ arr.length) (v : Value) :
    wpAny (model PySem.Challenge.rw_xm0627_01.row.prog w) A (call (.ref 317) [.ref T.t, .int i t, v, .none]) (Out T.ch s (fun x led => led = tled w T (arr.set (i - 1).toNat v) e ∧ x = .none)) E s := by
  walk_at "kfill"
  refine' enterD T.ch (tled w T arr e) [(Str.ofString "self", .ref T.t), (Str.ofString "key", .int i t), (Str.ofString "value", v), (Str.ofString "heap", .none)] W hb hT.hm (hl_tab H) ?ho ?hcd r ?hbind ?hloc ?_ ?c1 ?c2 ?c3 ?c4
  walk_at "kenter"
  have o1 := hT.h1
  have o2 := hT.h2
  have o3 := hT.h3
  intro g L h₁ tk p loose mean mg mb dp fr gd un X TP W' hg F N r' hU
  k_fold
  walk_at "flat"
  k_steps
  exact ⟨tled w T (arr.set (i - 1).toNat v) e, (fun _ h => h), rfl, rfl⟩
theorem new_key_spec (T : TabS) (vs : List Value) (ns : List Int) (hi : IntsAre vs ns) (h7 : ns.length ≤ 7) (e : Nat) (hT : TabOk b₀ T) (H : Has s.heap (tled w T vs e)) (r : Room A 7) (x : Int) (tx : Tok) (hx : x = ns.length + 1) (v : Value) :
    wpAny (model PySem.Challenge.rw_xm0627_01.row.prog w) A (call (.ref 310) [.ref T.t, .int x tx, v, .none]) (Out T.ch s (fun y l => y = .none ∧ Grown w T vs v l)) E s := by
  walk_at "kfill"
  refine' enterD T.ch (tled w T vs e) [(Str.ofString "self", .ref T.t), (Str.ofString "key", .int x tx), (Str.ofString "value", v), (Str.ofString "heap", .none)] W hb hT.hm (hl_tab H) ?ho ?hcd r ?hbind ?hloc ?_ ?c1 ?c2 ?c3 ?c4
  walk_at "kenter"
  intro g L h₁ tk p loose mean mg mb dp fr gd un X TP W' hg F N r' hU
  k_fold
  have t1 := hT.h1
  have t2 := hT.h2
  have t3 := hT.h3
  have hlen := hi.length
  clear H
  walk_at "flat"
  k_steps
  unfold Stop
  rename Fr _ _ _ _ => F1
  rename News _ _ _ _ => N1
  refine' useN (ch := T.ch) ?C F1 N1 ?hsub tled_cov [] (fun _ h => nomatch h) ?k
  case C => exact fun H => rehash_spec W' (by exact F1.keep) T vs ns hi h7 e (tabOk_news hT N1 (by walk_at "sub")) H (by walk_at "room") x tx hx
  case hsub => walk_at "sub"
  case k =>
    rintro v2 h2 tk2 led2 ⟨rfl, T', e', j, j1, j2, y1, y2, y3, y4, y5, rfl⟩ F2 N2 -
    rw [List.append_nil] at N2
    rw [← y1] at F2
    clear F1 N1
    walk_at "flat"
    k_steps
    unfold Stop
    rename Fr _ _ _ _ => F3
    rename News _ _ _ _ => N3
    have T9 : TabOk g T' := tabOk_like hT N3 (by walk_at "sub") y1 y2 y3 y4
    refine' useN (ch := T'.ch) ?C F3 N3 ?hsub tled_cov [] (fun _ h => nomatch h) ?k
    case C => exact fun H => put_again_in W' (by exact F3.keep) T' (vs ++ List.replicate j Value.none) e' T9 H (by simp; walk_at "om") (by walk_at "room") x tx (by walk_at "om") (by simp; walk_at "om") v
    case hsub => walk_at "sub"
    case k =>
      rintro v4 h4 tk4 led4 ⟨rfl, rfl⟩ F4 N4 -
      rw [List.append_nil] at N4
      clear F3 N3
      walk_at "flat"
      k_steps
      obtain ⟨j, rfl⟩ : ∃ j', j = j' + 1 := ⟨j - 1, by walk_at "om"⟩
      rw [set_end (by walk_at "om")]
      exact ⟨_, fun _ h => h, rfl, T', e', j, by walk_at "om", y1, y2, y3, y4, .inl y5, rfl⟩
theorem put_grow (T : TabS) (vs : List Value) (ns : List Int) (hi : IntsAre vs ns) (h7 : ns.length ≤ 7) (e : Nat) (hT : TabOk b₀ T) (H : Has s.heap (tled w T vs e)) (r : Room A 8) (x : Int) (tx : Tok) (hx : x = ns.length + 1) (v : Value) :
    wpAny (model PySem.Challenge.rw_xm0627_01.row.prog w) A (call (.ref 303) [.ref T.t, .int x tx, v, .none]) (Out T.ch s (fun y l => y = .none ∧ Grown w T vs v l)) E s := by
  walk_at "kfill"
  refine' enterD T.ch (tled w T vs e) [(Str.ofString "self", .ref T.t), (Str.ofString "key", .int x tx), (Str.ofString "value", v), (Str.ofString "heap", .none)] W hb hT.hm (hl_tab H) ?ho ?hcd r ?hbind ?hloc ?_ ?c1 ?c2 ?c3 ?c4
  walk_at "kenter"
  intro g L h₁ tk p loose mean mg mb dp fr gd un X TP W' hg F N r' hU
  k_fold
  have t1 := hT.h1
  have t2 := hT.h2
  have t3 := hT.h3
  have hlen := hi.length
  clear H
  walk_at "flat"
  k_steps
  unfold Stop
  rename Fr _ _ _ _ => F1
  rename News _ _ _ _ => N1
  refine' useN (ch := T.ch) ?C F1 N1 ?hsub tled_cov [] (fun _ h => nomatch h) ?k
  case C => exact fun H => new_key_spec W' (by exact F1.keep) T vs ns hi h7 e (tabOk_news hT N1 (by walk_at "sub")) H (by walk_at "room") x tx hx v
  case hsub => walk_at "sub"
  case k =>
    rintro v2 h2 tk2 led2 ⟨rfl, T', e', j, j1, y1, y2, y3, y4, y5, rfl⟩ F2 N2 -
    rw [List.append_nil] at N2
    clear F1 N1
    walk_at "flat"
    k_steps
    exact ⟨_, fun _ h => h, rfl, T', e', j, j1, y1, y2, y3, y4, y5, rfl⟩
theorem set_int_grow (T : TabS) (vs : List Value) (ns : List Int) (hi : IntsAre vs ns) (h7 : ns.length ≤ 7) (e : Nat) (hT : TabOk b₀ T) (H : Has s.heap (tled w T vs e)) (r : Room A 9) (x : Int) (tx : Tok) (hx : x = ns.length + 1) (v : Value) :
    wpAny (model PySem.Challenge.rw_xm0627_01.row.prog w) A (call (.ref 289) [.ref T.t, .int x tx, v, .none]) (Out T.ch s (fun y l => y = .none ∧ Grown w T vs v l)) E s := by
  walk_at "kfill"
  refine' enterD T.ch (tled w T vs e) [(Str.ofString "self", .ref T.t), (Str.ofString "n", .int x tx), (Str.ofString "value", v), (Str.ofString "heap", .none)] W hb hT.hm (hl_tab H) ?ho ?hcd r ?hbind ?hloc ?_ ?c1 ?c2 ?c3 ?c4
  walk_at "kenter"
  intro g L h₁ tk p loose mean mg mb dp fr gd un X TP W' hg F N r' hU
  k_fold
  have t1 := hT.h1
  have t2 := hT.h2
  have t3 := hT.h3
  have hlen := hi.length
  clear H
  walk_at "flat"
  k_steps
  unfold Stop
  rename Fr _ _ _ _ => F1
  rename News _ _ _ _ => N1
  refine' useN (ch := T.ch) ?C F1 N1 ?hsub tled_cov [] (fun _ h => nomatch h) ?k
  case C => exact fun H => put_grow W' (by exact F1.keep) T vs ns hi h7 e (tabOk_news hT N1 (by walk_at "sub")) H (by walk_at "room") x tx hx v
  case hsub => walk_at "sub"
  case k =>
    rintro v2 h2 tk2 led2 ⟨rfl, T', e', j, j1, y1, y2, y3, y4, y5, rfl⟩ F2 N2 -
    rw [List.append_nil] at N2
    clear F1 N1
    walk_at "flat"
    k_steps
    exact ⟨_, fun _ h => h, rfl, T', e', j, j1, y1, y2, y3, y4, y5, rfl⟩
/-- the next number is put at the end -/
theorem set_int_next (T : TabS) (vs : List Value) (ns : List Int) (hi : IntsAre vs ns) (j : Nat) (h8 : ns.length + j ≤ 8) (h7 : ns.length ≤ 7) (e : Nat) (hT : TabOk b₀ T) (H : Has s.heap (tled w T (vs ++ List.replicate j Value.none) e)) (r : Room A 9) (x : Int) (tx : Tok) (hx : x = ns.length + 1) (v : Value) :
    wpAny (model PySem.Challenge.rw_xm0627_01.row.prog w) A (call (.ref 289) [.ref T.t, .int x tx, v, .none]) (Out T.ch s (fun y l => y = .none ∧ Grown w T vs v l)) E s := by
  have hlen := hi.length
  cases j with
  | zero =>
    rw [List.replicate_zero, List.append_nil] at H
    exact set_int_grow W hb T vs ns hi h7 e hT H r x tx hx v
  | succ j =>
    refine wpAny_mono (set_int_in W hb T (vs ++ List.replicate (j + 1) Value.none) e hT H (by simp; walk_at "om") (r.le (by decide)) x tx (by walk_at "om") (by simp; walk_at "om") v) (fun y s' hl => ?_) fun _ _ z => z
    obtain ⟨h', tk', led, e1, e2, e3, rfl, rfl⟩ := hl
    rw [set_end (by walk_at "om")] at e3
    exact ⟨h', tk', _, e1, e2, e3, rfl, T, e, j, by walk_at "om", rfl, rfl, hT.h2, hT.h3, .inr ⟨rfl, rfl⟩, rfl⟩
end
noncomputable abbrev baseEs (w : World) (tk : Nat → Nat) (vs : Nat → Value) : List DictEntry := [
  ⟨PyData.keyHash w.params (Str.ofString "number"), .str (Str.ofString "number") (tk 0), vs 0⟩,
  ⟨PyData.keyHash w.params (Str.ofString "mark"), .str (Str.ofString "mark") (tk 1), vs 1⟩,
  ⟨PyData.keyHash w.params (Str.ofString "size"), .str (Str.ofString "size") (tk 2), vs 2⟩]
noncomputable def pickN : List Nat → Nat → Nat
  | [], _ => 0
  | v :: _, 0 => v
  | _ :: r, n + 1 => pickN r n
theorem news_sub {g h : Heap} {L : Addr} {l news : Led} (N : News g L h news) (hs : ∀ p ∈ l, p ∈ news) : News g L h l := fun p hp => N p (hs p hp)
section
variable {w : World} {A : Around} {s : Shared} {b₀ : Heap} {E : Value → Shared → Prop} (W : Wd w b₀) (hb : b₀.StaysIn s.heap)
include W hb
theorem base_init (x d : Addr) (hx : b₀.get? x = none) (hd : b₀.get? d = none) (o1 : @LT.lt Nat _ d x) (H : Has s.heap [(x, instObj 424 d), (d, dictOf [] 0)]) (r : Room A 2) (v0 v2 : Value) :
    wpAny (model PySem.Challenge.rw_xm0627_01.row.prog w) A (call (.ref 71) [.ref x, v0, v2]) (Out [x, d] s (fun y l => y = .none ∧ ∃ (tk : Nat → Nat) (vs : Nat → Value), l = [(x, instObj 424 d), (d, dictOf (baseEs w tk vs) 3)])) E s := by
  walk_at "kfill"
  refine' enterD [x, d] [(x, instObj 424 d), (d, dictOf [] 0)] [(Str.ofString "self", .ref x), (Str.ofString "number", v0), (Str.ofString "size", v2)] W hb ?hm ?hl ?ho ?hcd r ?hbind ?hloc ?_ ?c1 ?c2 ?c3 ?c4
  case hm => exact (fmc hx ((fmc hd (List.forall_mem_nil _))))
  case hl => exact (fmc (⟨H _ (.head _), .head _⟩) ((fmc (⟨H _ (.tail _ (.head _)), .tail _ (.head _)⟩) (List.forall_mem_nil _))))
  walk_at "kenter"
  intro g L h₁ tk p loose mean mg mb dp fr gd un X TP W' hg F N r' hU
  k_fold
  walk_at "flat"
  k_steps
  refine ⟨[(x, instObj 424 d), (d, dictOf (baseEs w (pickN [_, _, _]) (pickV [_, _, _])) 3)], (fmc (.head _) ((fmc (.tail _ (.head _)) (List.forall_mem_nil _)))), rfl, _, _, rfl⟩
theorem init_spec (x d : Addr) (hx : b₀.get? x = none) (hd : b₀.get? d = none) (o1 : @LT.lt Nat _ d x) (H : Has s.heap [(x, instObj 424 d), (d, dictOf [] 0)]) (r : Room A 6) (z : Int) (hz : 0 ≤ z) (hz8 : z ≤ 8) (t0 tz t1 : Tok) :
    codeAny (model PySem.Challenge.rw_xm0627_01.row.prog w) A (.call (.ref 233) ⟨[.ref x, .int 0 t0, .int z tz, .int 0 t1], []⟩) (OutR [x, d] s (fun y l => y = .none ∧ ∃ (T' : TabS) (e' : Nat), T'.t = x ∧ T'.d = d ∧ @LT.lt Nat _ x T'.la ∧ @LT.lt Nat _ T'.la T'.ln ∧ l = tled w T' (List.replicate z.toNat Value.none) e') E) s := by
  walk_at "kfill"
  refine' enterDc [x, d] [(x, instObj 424 d), (d, dictOf [] 0)] [(Str.ofString "self", .ref x), (Str.ofString "number", .int 0 t0), (Str.ofString "array_size", .int z tz), (Str.ofString "hash_size", .int 0 t1)] W hb ?hm ?hl ?ho ?hcd r ?hbind ?hloc ?_ ?c1 ?c2 ?c3 ?c4
  case hm => exact (fmc hx ((fmc hd (List.forall_mem_nil _))))
  case hl => exact (fmc (⟨H _ (.head _), .head _⟩) ((fmc (⟨H _ (.tail _ (.head _)), .tail _ (.head _)⟩) (List.forall_mem_nil _))))
  walk_at "kenter"
  intro g L h₁ tk p loose mean mg mb dp fr gd un X TP W' hg F N r' hU
  k_fold
  clear H
  walk_at "flat"
  k_steps
  unfold Stop
  rename Fr _ _ _ _ => F1
  rename News _ _ _ _ => N1
  refine' useN (ch := [x, d]) ?C F1 N1 ?hsub ?hcov [] (fun _ h => nomatch h) ?k
  case C => exact fun H => base_init W' (by exact F1.keep) x d (N1 _ (.head _)).2.2 (N1 _ (.tail _ (.head _))).2.2 o1 H (by walk_at "room") _ _
  case hsub => exact fun p hp => hp
  case hcov => exact (fmc (⟨_, .head _⟩) ((fmc (⟨_, .tail _ (.head _)⟩) (List.forall_mem_nil _))))
  case k =>
    rintro v2 h2 tk2 led2 ⟨rfl, tks, bvs, rfl⟩ F2 N2 -
    rw [List.append_nil] at N2
    clear F1 N1
    walk_at "flat"
    k_steps
    · unfold Stop
      rename Fr _ _ _ _ => F3
      rename News _ _ _ _ => N3
      obtain ⟨T, e5, e6, o3, o4, NT⟩ : ∃ T : TabS, T.t = x ∧ T.d = d ∧ @LT.lt Nat _ x T.la ∧ @LT.lt Nat _ T.la T.ln ∧ News g L _ (tled w T [] 0) := by
        refine ⟨⟨x, d, _, _, pickN [_, _, _, _, _, _, _, _, _, _], pickV [_, _, _, _, _, _, .none, .none, _, _], 0, 0⟩, ?_, ?_, ?_, ?_, news_sub N3 ((fmc (.tail _ (.tail _ (.head _))) ((fmc (.tail _ (.tail _ (.tail _ (.head _)))) ((fmc (.tail _ (.head _)) ((fmc (.head _) (List.forall_mem_nil _)))))))))⟩
        · rfl
        · rfl
        · dsimp only; ksw_less
        · dsimp only; ksw_less
      subst e5 e6
      clear N3
      have T9 : TabOk g T := ⟨o1, o3, o4, (NT _ (.head _)).2.2, (NT _ (.tail _ (.head _))).2.2, (NT _ (.tail _ (.tail _ (.head _)))).2.2, (NT _ (.tail _ (.tail _ (.tail _ (.head _))))).2.2⟩
      refine' useN (ch := T.ch) ?C F3 NT ?hsub tled_cov [] (fun _ h => nomatch h) ?k
      case C => exact fun H => resize_spec W' (by exact F3.keep) T [] [] .nil 0 T9 H (by walk_at "room") z 0 tz t1 (by decide) (by simpa using hz) hz8 _ (.inl rfl)
      case hsub => exact fun p hp => hp
      case k =>
        rintro v4 h4 tk4 led4 ⟨rfl, T', e', y1, y2, y3, y4, y5, rfl⟩ F4 N4 -
        rw [List.append_nil] at N4
        clear F3 NT
        walk_at "flat"
        k_steps
        exact ⟨_, fun _ h => h, rfl, T', e', y1, y2, y3, y4, rfl⟩
    · obtain rfl : z = 0 := by walk_at "om"
      refine ⟨tled w ⟨x, d, _, _, pickN [_, _, _, _, _, _, _, _, _, _], pickV [_, _, _, _, _, _, .none, .none, _, _], 0, 0⟩ [] 0, (fmc (.tail _ (.tail _ (.head _))) ((fmc (.tail _ (.tail _ (.tail _ (.head _)))) ((fmc (.tail _ (.head _)) ((fmc (.head _) (List.forall_mem_nil _)))))))), rfl, _, 0, ?_, ?_, ?_, ?_, rfl⟩
      · rfl
      · rfl
      · dsimp only; ksw_less
      · dsimp only; ksw_less
end
section
variable {w : World} {A : Around} {s : Shared} {b₀ : Heap} {E : Value → Shared → Prop}
theorem Room.under {k : Nat} (r : Room A (k + 1)) (C : Addr) (vals : List Value) : Room (A.under (.builtin "type.__call__" ⟨.ref C :: vals, []⟩)) k :=
  ⟨r.hh, by rw [depth_under_make]; have := r.hd; walk_at "om", by rw [units_under_make]; have := r.hu; walk_at "om"⟩
theorem initBack_of {ch : List Addr} {s₁ : Shared} {R : Led → Prop} {x : Addr} {Q : Value → Shared → Prop} {E : Value → Shared → Prop} {c : Code}
    (C : codeAny (model PySem.Challenge.rw_xm0627_01.row.prog w) A c (OutR ch s₁ (fun y l => y = .none ∧ R l) E) s₁) (k : ∀ s', Out ch s₁ (fun y l => y = .none ∧ R l) .none s' → Q (.ref x) s') :
    codeAny (model PySem.Challenge.rw_xm0627_01.row.prog w) A c (InitBack x fun r s' => match r with | .ok (.ret v) => Q v s' | .ok _ => False | .error e => E e s') s₁ := by
  refine codeAny_mono C fun r s' h => ?_
  match r, h with
  | .ok (.ret v), h =>
    have e : v = .none := h.choose_spec.choose_spec.choose_spec.2.2.2.1
    subst e
    exact ⟨rfl, k s' h⟩
  | .error e, h => exact h
  | .ok .next, h => exact h
  | .ok .brk, h => exact h
  | .ok .cont, h => exact h
theorem out_post {R : Value → Led → Prop} {Q : Value → Shared → Prop} {g : Heap} {L : Addr} {m : Str → Option Value} {news : Led} {ch : List Addr} {rest : Led} {v : Value} {s' : Shared} (hl : Out ch s R v s') (F : Fr g L s.heap m) (N : News g L s.heap news) (hs : ∀ p ∈ rest, p ∈ news ∧ p.1 ∉ ch) (hc : ∀ a ∈ ch, a ≠ L ∧ g.get? a = none)
    (k : ∀ h' tk' led, R v led → Fr g L h' m → News g L h' (led ++ rest) → (∀ p ∈ led, p.1 ∈ ch ∨ ∀ q ∈ news, q.1 ≠ p.1) → Q v { s with heap := h', toks := tk' }) : Q v s' := by
  obtain ⟨h', tk', led, rfl, hk, hled, hr⟩ := hl
  obtain ⟨oL, es, ep, hL, hLd, hLk, hLf⟩ := F.ns
  have hLc : L ∉ ch := fun q => (hc L q).1 rfl
  have hgk : ∀ b o, g.get? b = some o → h'.get? b = some o := fun b o e => hk b (fun q => by rw [(hc b q).2] at e; cases e) o (F.keep b o e)
  refine k h' tk' led hr ⟨⟨oL, es, ep, hk L hLc _ hL, hLd, hLk, hLf⟩, hgk, F.above⟩ (fun p hp => ?_) (fun p hp => ?_)
  · rcases List.mem_append.mp hp with hp | hp
    · obtain ⟨e, hq⟩ := hled p hp
      refine ⟨e, ?_⟩
      rcases hq with hq | hq
      · exact hc _ hq
      · refine ⟨fun z => ?_, ?_⟩
        · rw [z, hL] at hq; cases hq
        · cases z : g.get? p.1 with
          | none => rfl
          | some o => rw [F.keep _ _ z] at hq; cases hq
    · obtain ⟨h1, h2⟩ := hs p hp
      exact ⟨hk _ h2 _ (N p h1).1, (N p h1).2⟩
  · rcases (hled p hp).2 with hq | hq
    · exact .inl hq
    · right
      intro q hq' z
      rw [← z, (N q hq').1] at hq
      cases hq
/-- a new table -/
theorem use_table {g : Heap} {L : Addr} {m : Str → Option Value} {news : Led} {Q : Value → Shared → Prop} (W : Wd w g) (F : Fr g L s.heap m) (N : News g L s.heap news) (hm : makesIn (HK.heap_1 w.params) 424 = true)
    (hi : findIn (HK.heap_1 w.params) (.ref 424) "__init__" = some (some (.ref 233))) (hf : isFn (HK.heap_1 w.params) (.ref 233) = true) (r : Room A 7) (z : Int) (hz : 0 ≤ z) (hz8 : z ≤ 8) (t0 tz t1 : Tok)
    (k : ∀ h' tk' T e', @LT.lt Nat _ T.d T.t → @LT.lt Nat _ T.t T.la → @LT.lt Nat _ T.la T.ln → (∀ p ∈ news, p.1 < T.d) → Fr g L h' m → News g L h' (tled w T (List.replicate z.toNat Value.none) e' ++ news) → Q (.ref T.t) { s with heap := h', toks := tk' }) :
    wpAny (model PySem.Challenge.rw_xm0627_01.row.prog w) A (call (.ref 424) [.int 0 t0, .int z tz, .int 0 t1]) Q E s := by
  refine call_cls F W.X N hm hi hf fun x d h' F' N' o1 o2 => ?_
  refine initBack_of (init_spec W (by exact F'.keep) x d (N' _ (.head _)).2.2 (N' _ (.tail _ (.head _))).2.2 o2 (fun p hp => (N' p (by
    rcases List.mem_cons.mp hp with rfl | hp
    · exact .head _
    · rcases List.mem_cons.mp hp with rfl | hp
      · exact .tail _ (.head _)
      · cases hp)).1) (r.under _ _) z hz hz8 t0 tz t1) fun s' hl => ?_
  have nx : ∀ p ∈ news, p.1 < x := fun p hp => Nat.lt_trans (o1 p hp) o2
  refine out_post (Q := fun _ s'' => Q (.ref x) s'') (rest := news) hl F' N' (fun p hp => ⟨.tail _ (.tail _ hp), ?_⟩) ?_ fun h2 tk2 led hr F2 N2 _ => ?_
  · simp only [List.mem_cons, List.not_mem_nil, or_false, not_or]
    exact ⟨Nat.ne_of_lt (nx p hp), Nat.ne_of_lt (o1 p hp)⟩
  · exact (fmc ((N' _ (.head _)).2) ((fmc ((N' _ (.tail _ (.head _))).2) (List.forall_mem_nil _))))
  · obtain ⟨_, T', e', rfl, rfl, y3, y4, rfl⟩ := hr
    exact k h2 tk2 T' e' o2 y3 y4 o1 F2 N2
end
section
variable {prog : Program} {w : World} {A : Around} {E : Value → Shared → Prop} {s : Shared} {env : Env} {h₀ : Heap} {elts : List PySem.Expr} {tk₀ : Nat} {pos : Pos} {body : List Stmt} {Q : Flow → Shared → Prop}
/-- a turn's end, two iterators standing by -/
noncomputable def TurnEnd2 (h₀ : Heap) (L I : Addr) (o1 o2 : Obj) (s : Shared) (Inv : (Str → Option Value) → Led → Prop) (s₃ : Shared) : Prop :=
  ∃ h' tk' m' news', s₃ = { s with heap := h', toks := tk' } ∧ Fr h₀ L h' m' ∧ News h₀ L h' ((I + 1, o1) :: (I, o2) :: news') ∧ (∀ p ∈ news', p.1 ≠ I ∧ p.1 ≠ I + 1) ∧ Inv m' news'
noncomputable def TurnPost2 (h₀ : Heap) (L I : Addr) (o1 o2 : Obj) (s : Shared) (Inv : (Str → Option Value) → Led → Prop) (Q : Flow → Shared → Prop) (f : Flow) (s₃ : Shared) : Prop :=
  match f with
  | .ret v => Q (.ret v) s₃
  | .brk => Q .next s₃
  | _ => TurnEnd2 h₀ L I o1 o2 s Inv s₃
/-- a for over enumerate of a list of the ledger -/
theorem for_enum {l : Addr} {vs : List Value} {n : Nat} {m₀ : Str → Option Value} {news : Led} (Inv : Addr → Nat → List Value → (Str → Option Value) → Led → Prop)
    (hh : A.handled = none) (F : Fr h₀ env.locals s.heap m₀) (N : News h₀ env.locals s.heap news) (hm : (l, PySem.W.listOf vs.toArray n) ∈ news)
    (hi : ∀ I : Addr, (∀ p ∈ news, p.1 < I) → Inv I 0 vs m₀ news)
    (hnil : ∀ I k m₁ news₁ h tk, Inv I k [] m₁ news₁ → Fr h₀ env.locals h m₁ → News h₀ env.locals h news₁ → Q .next { s with heap := h, toks := tk })
    (hcons : ∀ I (k : Nat) v r m₁ news₁ h tk o1 o2 T t, Inv I k (v :: r) m₁ news₁ → IsTup h T #[.int (k : Int) t, v] → Fr h₀ env.locals h m₁ → News h₀ env.locals h ((I + 1, o1) :: (I, o2) :: news₁) →
      wpAny (model prog w) A (assign (.Tuple elts tk₀ pos) env (.ref T)) (fun _ s₂ => wpAny (model prog w) A (execs body env) (TurnPost2 h₀ env.locals I o1 o2 { s with heap := h, toks := tk } (fun m' news' => (l, PySem.W.listOf vs.toArray n) ∈ news' ∧ Inv I (k + 1) r m' news') Q) E s₂) E { s with heap := h, toks := tk }) :
    wpAny (model prog w) A (call (.type "enumerate") [.ref l]) (fun xv s₁ => wpAny (model prog w) A (pyIter xv) (fun it s₂ => TurnsAt prog w A h₀ env (.Tuple elts tk₀ pos) body Q E it s₂) E s₁) E s := by
  refine ktu_enum (lo := PySem.W.listOf vs.toArray n) (vs := vs) (n := n) hh F N hm rfl rfl rfl fun I hlt => ?_
  have key : ∀ (r : List Value) (k : Nat) (m₁ : Str → Option Value) (news₁ : Led), Inv I k r m₁ news₁ → ItemsRest prog w A E h₀ env (.Tuple elts tk₀ pos) body Q s [(I + 1, "enumerate"), (I, "list_iterator")] [(l, PySem.W.listOf vs.toArray n)] (enumItems k r) m₁ news₁ := by
    intro r
    induction r with
    | nil => exact fun k m₁ news₁ hI => ItemsRest.zero fun h tk F₁ N₁ => hnil I k m₁ news₁ h tk hI F₁ N₁
    | cons v r ih =>
      intro k m₁ news₁ hI
      refine ItemsRest.pair fun T t h tk hT F₁ => AllObj.cons fun o1 _ => AllObj.cons fun o2 _ => AllObj.nil fun N₁ => ?_
      refine wpAny_mono (hcons I k v r m₁ news₁ h tk o1 o2 T t hI hT F₁ N₁) (fun _ s₂ h₂ => wpAny_mono h₂ (fun f s₃ q => ?_) fun _ _ e => e) fun _ _ e => e
      have off : ∀ news' : Led, (∀ p ∈ news', p.1 ≠ I ∧ p.1 ≠ I + 1) → ∀ p ∈ news', ∀ q ∈ [(I + 1, o1), (I, o2)], p.1 ≠ q.1 := fun news' hne p hp q hq => by
        rcases List.mem_cons.mp hq with rfl | hq
        · exact (hne p hp).2
        · rw [List.mem_singleton.mp hq]; exact (hne p hp).1
      cases f with
      | ret v => exact q
      | brk => exact q
      | next =>
        obtain ⟨h', tk', m', news', rfl, F', N', hne, hk, hI'⟩ := q
        exact ⟨h', tk', m', news', rfl, F', N', off news' hne, ⟨hk, trivial⟩, ih (k + 1) m' news' hI'⟩
      | cont =>
        obtain ⟨h', tk', m', news', rfl, F', N', hne, hk, hI'⟩ := q
        exact ⟨h', tk', m', news', rfl, F', N', off news' hne, ⟨hk, trivial⟩, ih (k + 1) m' news' hI'⟩
  exact key vs 0 m₀ news (hi I hlt)
end
local macro_rules | `(tactic| walk_at "apart4") => `(tactic| exact notin4 (by k_ne) (by k_ne) (by k_ne) (by k_ne))
/-- the turns of a seating -/
structure SeatSt (w : World) (lp lq : Addr) (vs : List Value) (ns : List Int) (e1 : Nat) (oq : Obj)
    (I : Addr) (k : Nat) (r : List Value) (m : Str → Option Value) (news : Led) : Prop where
  st : ∃ (T : TabS) (us : List Value) (uns rns : List Int) (e j : Nat), m (Str.ofString "t") = some (.ref T.t) ∧ @LT.lt Nat _ lq T.d ∧ @LT.lt Nat _ T.d T.t ∧ @LT.lt Nat _ T.t T.la ∧ @LT.lt Nat _ T.la T.ln ∧ IntsAre us uns ∧ IntsAre r rns ∧ uns ++ rns = ns ∧ uns.length = k ∧ uns.length + j ≤ 8 ∧
    news = (lp, PySem.W.listOf vs.toArray e1) :: (lq, oq) :: tled w T (us ++ List.replicate j Value.none) e
  ne : ∀ p ∈ news, p.1 ≠ I ∧ p.1 ≠ I + 1
section
variable {w : World} {A : Around} {s : Shared} {b₀ : Heap} {E : Value → Shared → Prop} (W : Wd w b₀) (hb : b₀.StaysIn s.heap)
include W hb
theorem seated_spec (lp lq : Addr) (vs : List Value) (ns : List Int) (e1 : Nat) (oq : Obj) (hi : IntsAre vs ns) (h8 : ns.length ≤ 8) (hlp : b₀.get? lp = none) (hlq : b₀.get? lq = none) (hne : @LT.lt Nat _ lp lq) (H : Has s.heap [(lp, PySem.W.listOf vs.toArray e1), (lq, oq)]) (z : Int) (tz : Tok) (hz : 0 ≤ z) (hz8 : z ≤ 8) (r : Room A 14) :
    wpAny (model PySem.Challenge.rw_xm0627_01.row.prog w) A (call (.ref 440) [.ref lp, .int z tz]) (Out [lp, lq] s (fun y l => ∃ (T : TabS) (us : List Value) (e j : Nat), y = .ref T.t ∧ l = (lp, PySem.W.listOf vs.toArray e1) :: (lq, oq) :: tled w T (us ++ List.replicate j Value.none) e ∧ IntsAre us ns ∧ ns.length + j ≤ 8 ∧ @LT.lt Nat _ lq T.d ∧ @LT.lt Nat _ T.d T.t ∧ @LT.lt Nat _ T.t T.la ∧ @LT.lt Nat _ T.la T.ln)) E s := by
  walk_at "kfill"
  refine' enterD [lp, lq] [(lp, PySem.W.listOf vs.toArray e1), (lq, oq)] [(Str.ofString "people", .ref lp), (Str.ofString "slots", .int z tz)] W hb ?hm ?hl ?ho ?hcd r ?hbind ?hloc ?_ ?c1 ?c2 ?c3 ?c4
  case hm => exact (fmc hlp ((fmc hlq (List.forall_mem_nil _))))
  case hl => exact (fmc (⟨H _ (.head _), .head _⟩) ((fmc (⟨H _ (.tail _ (.head _)), .tail _ (.head _)⟩) (List.forall_mem_nil _))))
  walk_at "kenter"
  intro g L h₁ tk p loose mean mg mb dp fr gd un X TP W' hg F N r' hU
  k_fold
  have hlen := hi.length
  clear H
  walk_at "flat"
  k_steps
  unfold Stop
  rename Fr _ _ _ _ => F1
  rename News _ _ _ _ => N1
  refine use_table W' F1 N1 (by k_is) (by k_is) (by k_is) (by walk_at "room") z hz hz8 _ _ _ fun h2 tk2 T e2 o1 o2 o3 o4 F2 N2 => ?_
  dsimp only [List.cons_append, List.nil_append] at N2
  have o5 : @LT.lt Nat _ lq T.d := o4 _ (.tail _ (.head _))
  have o6 : @LT.lt Nat _ lp T.d := o4 _ (.head _)
  clear F1 N1 o4
  walk_at "flat"
  k_steps
  unfold Stop
  rename Fr _ _ _ _ => F3
  refine For_turns F3 ?_
  k_whole
  walk_at "flat"
  k_steps
  unfold Stop
  rename Fr _ _ _ _ => F4
  rename News _ _ _ _ => N4
  refine' for_enum (news := (lp, PySem.W.listOf vs.toArray e1) :: (lq, oq) :: tled w T (List.replicate z.toNat Value.none) e2) (SeatSt w lp lq vs ns e1 oq) ?hh ?F ?N (.head _) ?hi ?hnil ?hcons
  case hh => exact r'.hh
  case F => exact F4
  case N => exact news_sub N4 ((fmc (by k_mem) ((fmc (by k_mem) (by walk_at "sub")))))
  case hi =>
    intro I hI
    exact ⟨⟨T, [], [], ns, e2, z.toNat, (by with_unfolding_all rfl), o5, o1, o2, o3, .nil, hi, rfl, rfl, by simp; walk_at "om", rfl⟩, fun p hp => ⟨Nat.ne_of_lt (hI p hp), Nat.ne_of_lt (Nat.lt_succ_of_lt (hI p hp))⟩⟩
  case hnil =>
    intro I k m₁ news₁ h tk hS F N
    obtain ⟨⟨T', us, uns, rns, e, j, ht, f1, f2, f3, f4, s1, s2, s3, s4, s5, rfl⟩, hn⟩ := hS
    replace F : Fr g L h m₁ := F
    replace N : News g L h _ := N
    have F0 := fr_st [(Str.ofString "t", _)] F ((fmc ht (List.forall_mem_nil _)))
    clear F F4 N4 ht
    cases s2
    dsimp only
    walk_at "flat"
    k_steps
    rw [List.append_nil] at s3
    subst s3
    exact ⟨_, fun _ h => h, T', us, e, j, rfl, rfl, s1, s5, f1, f2, f3, f4⟩
  case hcons =>
    intro I k v rs m₁ news₁ h tk o1' o2' Tp tt hS hT F N
    k_fold
    obtain ⟨⟨T', us, uns, rns, e, j, ht, f1, f2, f3, f4, s1, s2, s3, s4, s5, rfl⟩, hn⟩ := hS
    replace F : Fr g L h m₁ := F
    replace N : News g L h _ := N
    have F0 := fr_st [(Str.ofString "t", _)] F ((fmc ht (List.forall_mem_nil _)))
    clear F F4 N4 ht
    obtain ⟨k0, rn, t0, rfl, rfl, s6⟩ := ints_cons s2
    have T9 : ∀ (h : Heap) (news : Led), News g L h news → (∀ p ∈ tled w T' (us ++ List.replicate j Value.none) e, p ∈ news) → TabOk g T' := fun h news N hs => tabOk_like ⟨f2, f3, f4, (N _ (hs _ (.head _))).2.2, (N _ (hs _ (.tail _ (.head _)))).2.2, (N _ (hs _ (.tail _ (.tail _ (.head _))))).2.2, (N _ (hs _ (.tail _ (.tail _ (.tail _ (.head _)))))).2.2⟩ N hs rfl rfl f3 f4
    have hns : ns.length = uns.length + (rn.length + 1) := by rw [← s3]; simp
    walk_at "flat"
    k_steps
    unfold Stop
    rename Fr _ _ _ _ => F5
    rename News _ _ _ _ => N5
    have n1 := hn (T'.t, instObj 424 T'.d) (by k_mem)
    have n2 := hn (T'.d, dictOf (tabEs w T') 10) (by k_mem)
    have n3 := hn (T'.la, PySem.W.listOf (us ++ List.replicate j Value.none).toArray e) (by k_mem)
    have n4 := hn (T'.ln, PySem.W.listOf #[] T'.en) (by k_mem)
    replace n1 : @Ne Nat T'.t I ∧ @Ne Nat T'.t (I + 1) := n1
    replace n2 : @Ne Nat T'.d I ∧ @Ne Nat T'.d (I + 1) := n2
    replace n3 : @Ne Nat T'.la I ∧ @Ne Nat T'.la (I + 1) := n3
    replace n4 : @Ne Nat T'.ln I ∧ @Ne Nat T'.ln (I + 1) := n4
    refine' useN (ch := T'.ch) ?C F5 N5 ?hsub tled_cov [(I + 1, o1'), (I, o2'), (lp, PySem.W.listOf vs.toArray e1), (lq, oq)] ?hs ?k
    case C => exact fun H => set_int_next W' (by exact F5.keep) T' us uns s1 j s5 (by walk_at "om") e (T9 _ _ N5 (by walk_at "sub")) H (by walk_at "room") _ _ (by walk_at "om") _
    case hsub => walk_at "sub"
    case hs =>
      exact (fmc (⟨by k_mem, by walk_at "apart4"⟩) ((fmc (⟨by k_mem, by walk_at "apart4"⟩) ((fmc (⟨by k_mem, by walk_at "apart4"⟩) ((fmc (⟨by k_mem, by walk_at "apart4"⟩) (List.forall_mem_nil _))))))))
    case k =>
      rintro v6 h6 tk6 led6 ⟨rfl, T6, e6, j6, p1, p2, p3, p4, p5, p6, rfl⟩ F6 N6 hf
      dsimp only [List.cons_append, List.nil_append] at N6
      clear F5 N5
      have q3 : (@Ne Nat T6.la I ∧ @Ne Nat T6.la (I + 1)) ∧ (@Ne Nat T6.ln I ∧ @Ne Nat T6.ln (I + 1)) := by
        rcases p6 with p6 | ⟨p6, p7⟩
        · have a1 := (hf (T6.la, PySem.W.listOf (us ++ [Value.int k0 t0] ++ List.replicate j6 Value.none).toArray e6) (by k_mem)).resolve_left (notin4 (by k_ne) (by k_ne) (by k_ne) (by k_ne))
          have a2 := (hf (T6.ln, PySem.W.listOf #[] T6.en) (by k_mem)).resolve_left (notin4 (by k_ne) (by k_ne) (by k_ne) (by k_ne))
          exact ⟨⟨fun h => a1 _ (.tail _ (.head _)) h.symm, fun h => a1 _ (.head _) h.symm⟩, ⟨fun h => a2 _ (.tail _ (.head _)) h.symm, fun h => a2 _ (.head _) h.symm⟩⟩
        · rw [p6, p7]; exact ⟨n3, n4⟩
      have n5 := hn (lp, PySem.W.listOf vs.toArray e1) (by k_mem)
      have n6 := hn (lq, oq) (by k_mem)
      rw [← p2] at F6
      clear hf
      walk_at "flat"
      k_steps
      unfold Stop
      rename Fr _ _ _ _ => F7
      rename News _ _ _ _ => N7
      refine ⟨_, _, _, (lp, PySem.W.listOf vs.toArray e1) :: (lq, oq) :: tled w T6 (us ++ [Value.int k0 t0] ++ List.replicate j6 Value.none) e6, rfl, F7, news_sub N7 ?sub, ?ne, .head _, ⟨T6, us ++ [Value.int k0 t0], uns ++ [k0], rn, e6, j6, (by with_unfolding_all rfl), ?g1, ?g2, ?g3, p5, s1.append (.cons _ _ .nil), s6, ?g4, ?g5, ?g6, rfl⟩, ?ne⟩
      case sub => exact (fmc (by k_mem) ((fmc (by k_mem) ((fmc (by k_mem) ((fmc (by k_mem) (by walk_at "sub"))))))))
      case ne => exact (fmc n5 ((fmc n6 ((fmc (p2 ▸ n1) ((fmc (p3 ▸ n2) ((fmc q3.1 ((fmc q3.2 (List.forall_mem_nil _))))))))))))
      case g1 => rw [p3]; exact f1
      case g2 => rw [p2, p3]; exact f2
      case g3 => rw [p2]; exact p4
      case g4 => rw [List.append_assoc]; exact s3
      case g5 => rw [List.length_append, s4]; rfl
      case g6 => rw [List.length_append]; rw [s1.length] at p1; exact p1
end
section
variable {prog : Program} {w : World} {A : Around} {E : Value → Shared → Prop} {R : Result → Shared → Prop} {s : Shared}
/-- a comprehension of two clauses -/
noncomputable abbrev comp2 (elt t0 i0 t1 i1 c : PySem.Expr) (scope : Scope) (pos : Pos) : PySem.Expr := .ListComp elt [⟨t0, i0, [], 0⟩, ⟨t1, i1, [c], 0⟩] scope pos
theorem turn_outer (elt t0 i0 t1 i1 c : PySem.Expr) (scope : Scope) (pos : Pos) (it acc : Value) (env : Env) :
    compTurn (comp2 elt t0 i0 t1 i1 c scope pos) 0 it acc env = (standAt i0.pos >>= fun _ => pyNext it >>= fun r => match r with
      | none => pure (.done .next)
      | some v => letOwnedTupleGo t0 it v >>= fun _ => assign t0 env v >>= fun _ =>
        eval i1 env >>= fun x => standAt i1.pos >>= fun _ => foldedSetIterable i1 env x >>= fun x => holding [x] (pyIter x) >>= fun it' => runOwn (.compStart (comp2 elt t0 i0 t1 i1 c scope pos) 1 it' acc env) env >>= fun _ =>
          again (.compLoop (comp2 elt t0 i0 t1 i1 c scope pos) 0 it acc env)) := by rfl
theorem turn_inner (elt t0 i0 t1 i1 c : PySem.Expr) (scope : Scope) (pos : Pos) (it acc : Value) (env : Env) :
    compTurn (comp2 elt t0 i0 t1 i1 c scope pos) 1 it acc env = (do
      standAt i1.pos
      match ← pyNext it with
      | none => pure (.done .next)
      | some v =>
        letOwnedTupleGo t1 it v
        assign t1 env v
        let mut ok := true
        for c in [c] do
          if ok then ok ← isTrue c env (eval c env)
        if ok then
          (do let _ ← call (.builtin "list.append") [acc, ← eval elt env])
        again (.compLoop (comp2 elt t0 i0 t1 i1 c scope pos) 1 it acc env)) := by rfl
theorem outer_loop {elt t0 i0 t1 i1 c : PySem.Expr} {scope : Scope} {pos : Pos} {it acc : Value} {env : Env} (I : Nat → Shared → Prop)
    (turn : ∀ n s (E' : Value → Shared → Prop), I n s → wpAny (model prog w) A (pyNext it) (fun r s₁ => match r with
      | none => R (.ok .next) s₁
      | some v => wpAny (model prog w) A (assign t0 env v) (fun _ s₂ => wpAny (model prog w) A (eval i1 env) (fun x s₃ => wpAny (model prog w) A (pyIter x) (fun it' s₄ =>
          codeAny (model prog w) A (.compStart (comp2 elt t0 i0 t1 i1 c scope pos) 1 it' acc env) (fun r s₅ => match r with | .ok _ => ∃ m, m < n ∧ I m s₅ | .error _ => False) s₄) E' s₃) E' s₂) E' s₁) E' s)
    (n : Nat) (h : I n s) (ht : ∀ v, letOwnedTupleGo t0 it v = pure () := by intro _; rfl) (hs : ∀ x, foldedSetIterable i1 env x = pure x := by intro _; rfl) :
    codeAny (model prog w) A (.compLoop (comp2 elt t0 i0 t1 i1 c scope pos) 0 it acc env) R s := by
  refine codeAny_loop rfl I (fun n s hI => ?_) n h
  show wpAny _ A ((compTurn (comp2 elt t0 i0 t1 i1 c scope pos) 0 it acc env).onRaise (fun x => do noteFrame x env; theTreesLotGoes x)) _ _ s
  refine wpAny_noted ?_
  rw [turn_outer]
  refine wpAny_bind (wpAny_standAt (wpAny_bind (wpAny_mono (turn n s _ hI) (fun r s₁ h₁ => ?_) fun _ _ h' => h')))
  cases r with
  | none => exact wpAny_pure h₁
  | some v =>
    refine wpAny_bind (wpAny_of_eq (ht v) ?_)
    refine wpAny_bind (wpAny_mono h₁ (fun _ s₂ h₂ => wpAny_bind (wpAny_mono h₂ (fun x s₃ h₃ => ?_) fun _ _ h' => h')) fun _ _ h' => h')
    refine wpAny_bind (wpAny_standAt (wpAny_bind (wpAny_of_eq (hs x) (wpAny_bind (wpAny_holding (wpAny_mono h₃ (fun it' s₄ h₄ => ?_) fun _ _ h' => h'))))))
    refine wpAny_bind (wpAny_runOwn (codeAny_mono h₄ fun r s₅ h₅ => ?_))
    cases r with
    | ok f => exact wpAny_pure ⟨rfl, h₅⟩
    | error e => exact h₅.elim
theorem inner_loop {elt t0 i0 t1 i1 c : PySem.Expr} {scope : Scope} {pos : Pos} {it acc : Value} {env : Env} (I : Nat → Shared → Prop)
    (turn : ∀ n s (E' : Value → Shared → Prop), I n s → wpAny (model prog w) A (pyNext it) (fun r s₁ => match r with
      | none => R (.ok .next) s₁
      | some v => wpAny (model prog w) A (assign t1 env v) (fun _ s₂ => wpAny (model prog w) A (isTrue c env (eval c env)) (fun ok s₃ =>
            if ok = true then wpAny (model prog w) A (eval elt env) (fun x s₄ =>
              wpAny (model prog w) A (call (.builtin "list.append") [acc, x]) (fun _ s₅ => ∃ m, m < n ∧ I m s₅) E' s₄) E' s₃
            else ∃ m, m < n ∧ I m s₃) E' s₂) E' s₁) E' s)
    (n : Nat) (h : I n s) (ht : ∀ v, letOwnedTupleGo t1 it v = pure () := by intro _; rfl) :
    codeAny (model prog w) A (.compLoop (comp2 elt t0 i0 t1 i1 c scope pos) 1 it acc env) R s := by
  refine codeAny_loop rfl I (fun n s hI => ?_) n h
  show wpAny _ A ((compTurn (comp2 elt t0 i0 t1 i1 c scope pos) 1 it acc env).onRaise (fun x => do noteFrame x env; theTreesLotGoes x)) _ _ s
  refine wpAny_noted ?_
  rw [turn_inner]
  refine wpAny_bind (wpAny_standAt (wpAny_bind (wpAny_mono (turn n s _ hI) (fun r s₁ h₁ => ?_) fun _ _ h' => h')))
  cases r with
  | none => exact wpAny_pure h₁
  | some v =>
    refine wpAny_bind (wpAny_of_eq (ht v) ?_)
    refine wpAny_bind (wpAny_mono h₁ (fun _ s₂ h₂ => wpAny_bind (wpAny_mono (wpAny_tests_one h₂) (fun ok s₃ h₃ => ?_) fun _ _ h' => h')) fun _ _ h' => h')
    cases ok with
    | false => exact wpAny_pure ⟨rfl, h₃⟩
    | true =>
      exact wpAny_bind (wpAny_bind (wpAny_mono h₃ (fun x s₄ h₄ => wpAny_bind (wpAny_mono h₄ (fun _ s₅ h₅ => wpAny_pure (wpAny_pure ⟨rfl, h₅⟩)) fun _ _ h' => h')) fun _ _ h' => h'))
theorem inner_start {elt t0 i0 t1 i1 c : PySem.Expr} {scope : Scope} {pos : Pos} {it acc : Value} {env : Env}
    (h0 : codeAny (model prog w) A (.compLoop (comp2 elt t0 i0 t1 i1 c scope pos) 1 it acc env) R s)
    (h : ∀ E' : Value → Shared → Prop, wpAny (model prog w) A (pyIter it) (fun it' s' => codeAny (model prog w) A (.compLoop (comp2 elt t0 i0 t1 i1 c scope pos) 1 it' acc env) R s') E' s) :
    codeAny (model prog w) A (.compStart (comp2 elt t0 i0 t1 i1 c scope pos) 1 it acc env) R s := by
  refine codeAny_of_tree ?_
  show wpAny _ _ ((compStart (comp2 elt t0 i0 t1 i1 c scope pos) 1 it acc env).onRaise (fun x => do noteFrame x env; standAt theWindowsPlace)) _ _ s
  refine wpAny_notedAt ?_
  unfold compStart
  show wpAny _ _ (ask >>= _) _ _ s
  refine wpAny_bind (wpAny_askSetting (wpAny_ite ?_))
  split
  · first
      | exact wpAny_bind (wpAny_pure (wpAny_pure (And.intro rfl h0)))
      | exact wpAny_pure (And.intro rfl h0)
  · first
      | exact wpAny_bind (wpAny_rule (wpAny_bind (wpAny_standAt (wpAny_bind (wpAny_mono (h _) (fun it' s' h' => wpAny_pure (And.intro rfl h')) fun _ _ x => x)))))
      | (refine wpAny_bind (wpAny_rule ?_); show wpAny _ _ (standAt i1.pos >>= _) _ _ s; exact wpAny_bind (wpAny_standAt (wpAny_bind (wpAny_mono (h _) (fun it' s' h' => wpAny_pure (And.intro rfl h')) fun _ _ x => x))))
end
noncomputable def cntB (p : Nat → Bool) : Nat → Nat
  | 0 => 0
  | j + 1 => cntB p j + (if p j then 1 else 0)
noncomputable def sumB (f : Nat → Nat) : Nat → Nat
  | 0 => 0
  | i + 1 => sumB f i + f i
theorem cntB_le (p : Nat → Bool) : ∀ j, cntB p j ≤ j
  | 0 => Nat.le_refl _
  | j + 1 => by have := cntB_le p j; unfold cntB; split <;> omega
theorem sumB_le {f : Nat → Nat} {k : Nat} (h : ∀ i, f i ≤ k) : ∀ i, sumB f i ≤ i * k
  | 0 => by simp [sumB]
  | i + 1 => by have := sumB_le h i; have := h i; unfold sumB; rw [Nat.succ_mul]; omega
inductive InnSt (s : Shared) (C J Z D : Addr) (y : Str) (zs ys0 : Array Value) (m : Str → Option Value) (p : Nat → Bool) (k : Nat) (s' : Shared) : Prop
  | mk (h' : Heap) (tk : Nat) (m' : Str → Option Value) (ys : Array Value) (i : Nat) (e : s' = { s with heap := h', toks := tk }) (hit : h'.IsListIter J Z i) (hl : h'.IsList Z zs) (hacc : h'.PlainList D ys) (hn : h'.Ns C m') (hm : ∀ z, z ≠ y → m' z = m z)
    (hc : ys.size = ys0.size + cntB p i) (hi : i ≤ zs.size) (hk : k = zs.size + 1 - i) (up : ∀ b o, b ≠ C → b ≠ J → b ≠ D → s.heap.get? b = some o → h'.get? b = some o) : InnSt s C J Z D y zs ys0 m p k s'
inductive OutSt (s : Shared) (C I D : Addr) (n : Nat) (m : Str → Option Value) (p : Nat → Nat → Bool) (k : Nat → Nat) (q : Nat) (s' : Shared) : Prop
  | mk (h' : Heap) (tk : Nat) (m' : Str → Option Value) (ys : Array Value) (i : Nat) (e : s' = { s with heap := h', toks := tk }) (hit : IsRangeIter h' I (0 + (i : Nat) * 1) ((n : Int) - (i : Nat)) 1) (hacc : h'.PlainList D ys) (hn : h'.Ns C m')
    (hc : ys.size = sumB (fun i => cntB (p i) (k i)) i) (hi : i ≤ n) (hk : q = n + 1 - i) (up : ∀ b o, b ≠ C → b ≠ I → b ≠ D → s.heap.get? b = some o → h'.get? b = some o) : OutSt s C I D n m p k q s'
section
variable {prog : Program} {w : World} {A : Around} {E : Value → Shared → Prop} {R : Result → Shared → Prop} {s : Shared}
theorem inner_walk {elt t0 i0 i1 c : PySem.Expr} {y : Str} {py : Pos} {scope : Scope} {pos : Pos} {D J Z : Addr} {cenv : Env} {zs ys0 : Array Value} {m : Str → Option Value} (hh : A.handled = none)
    (hy : cenv.kindOf y = some .local) (hp : (cenv.scope.kind == .class || (cenv.scope.kind == .module && cenv.locals != cenv.globals)) = false)
    (hDC : D ≠ cenv.locals) (hDJ : D ≠ J) (hDZ : D ≠ Z) (hCJ : cenv.locals ≠ J) (hCZ : cenv.locals ≠ Z) (hZJ : Z ≠ J)
    (hit : s.heap.IsListIter J Z 0) (hl : s.heap.IsList Z zs) (hacc : s.heap.PlainList D ys0) (hn : s.heap.Ns cenv.locals m) (p : Nat → Bool)
    (htest : ∀ (j : Nat) v s₂ m₂ (E' : Value → Shared → Prop), zs[j]? = some v → s₂.heap.Ns cenv.locals m₂ → m₂ y = some v → (∀ z, z ≠ y → m₂ z = m z) → (∀ b o, b ≠ cenv.locals → b ≠ J → b ≠ D → s.heap.get? b = some o → s₂.heap.get? b = some o) →
      wpAny (model prog w) A (isTrue c cenv (eval c cenv)) (fun ok s₃ => ok = p j ∧ Keeps s₂ s₃) E' s₂)
    (helt : ∀ s₂ m₂ (E' : Value → Shared → Prop), s₂.heap.Ns cenv.locals m₂ → (∀ z, z ≠ y → m₂ z = m z) → (∀ b o, b ≠ cenv.locals → b ≠ J → b ≠ D → s.heap.get? b = some o → s₂.heap.get? b = some o) →
      wpAny (model prog w) A (eval elt cenv) (fun _ s₃ => Keeps s₂ s₃) E' s₂)
    (hR : ∀ h' tk m' ys, h'.Ns cenv.locals m' → (∀ z, z ≠ y → m' z = m z) → h'.PlainList D ys → ys.size = ys0.size + cntB p zs.size → (∀ b o, b ≠ cenv.locals → b ≠ J → b ≠ D → s.heap.get? b = some o → h'.get? b = some o) → R (.ok .next) { s with heap := h', toks := tk })
    (hsz : ys0.size + zs.size ≤ sizeLine) : codeAny (model prog w) A (.compLoop (comp2 elt t0 i0 (.Name y py) i1 c scope pos) 1 (.ref J) (.ref D) cenv) R s := by
  refine inner_loop
    (InnSt s cenv.locals J Z D y zs ys0 m p) ?_ (zs.size + 1)
    ⟨s.heap, s.toks, m, ys0, 0, rfl, hit, hl, hacc, hn, fun _ _ => rfl, rfl, Nat.zero_le _, rfl, fun _ _ _ _ _ e => e⟩
  rintro k s' E' ⟨H, tk, m', ys, i, rfl, hit', hl', hacc', hn', hm', hc, hi, rfl, hk⟩
  cases hv : zs[i]? with
  | none =>
    have hsz : i = zs.size := by have : zs.size ≤ i := by simpa using hv
                                 omega
    subst hsz
    refine wpAny_pyNext_list_end hh hit' hl' hv fun h₁ he₁ => ?_
    exact hR h₁ tk m' ys (hn'.extBut he₁ hCJ) hm' (hacc'.at fun o e => he₁ D o hDJ e) hc fun b o hbC hbJ hbD e => he₁ b o hbJ (hk b o hbC hbJ hbD e)
  | some v =>
    have hlt : i < zs.size := (Array.getElem?_eq_some_iff.mp hv).1
    refine wpAny_pyNext_list_item hit' hl' hv fun h₁ hit₁ hs₁ => ?_
    refine wpAny_assign_Name (wpAny_storeName_local hy (hn'.sameBut hs₁ hCJ) (fun h₂ hn₂ hs₂ => ?_) hp)
    have hm₂ : ∀ z, z ≠ y → (fun z => if z = y then some v else m' z) z = m z := fun z hz => by
      show (if z = y then some v else m' z) = m z
      rw [if_neg hz]; exact hm' z hz
    refine wpAny_mono (htest i v _ _ _ hv hn₂ (by simp) hm₂ fun b o hbC hbJ hbD e => hs₂.extBut b o hbC (hs₁.extBut b o hbJ (hk b o hbC hbJ hbD e))) (fun ok s₃ h₃ => ?_) fun _ _ e => e
    obtain ⟨rfl, h₃, tk₃, rfl, hk₃⟩ := h₃
    have up₃ : ∀ b o, b ≠ cenv.locals → b ≠ J → H.get? b = some o → h₃.get? b = some o := fun b o hbC hbJ e => hk₃ b o (hs₂.extBut b o hbC (hs₁.extBut b o hbJ e))
    have hit₃ : h₃.IsListIter J Z (i + 1) := (hit₁.extBut hs₂.extBut (Ne.symm hCJ)).at fun o e => hk₃ _ o e
    have hl₃ : h₃.IsList Z zs := hl'.at fun o e => up₃ Z o (Ne.symm hCZ) hZJ e
    have hacc₃ : h₃.PlainList D ys := hacc'.at fun o e => up₃ D o hDC hDJ e
    have hn₃ := hn₂.keeps hk₃
    cases hpv : p i with
    | false =>
      simp only [Bool.false_eq_true, if_false]
      refine ⟨zs.size + 1 - (i + 1), nless (by assumption), h₃, tk₃, _, ys, i + 1, rfl, hit₃, hl₃, hacc₃, hn₃, hm₂, ?_, hlt, rfl, fun b o hbC hbJ hbD e => up₃ b o hbC hbJ (hk b o hbC hbJ hbD e)⟩
      unfold cntB; rw [hpv]; simpa using hc
    | true =>
      simp only [if_true]
      refine wpAny_mono (helt _ _ _ hn₃ hm₂ fun b o hbC hbJ hbD e => up₃ b o hbC hbJ (hk b o hbC hbJ hbD e)) (fun x s₄ h₄ => ?_) fun _ _ e => e
      obtain ⟨h₄, tk₄, rfl, hk₄⟩ := h₄
      have hys : ys.size ≤ sizeLine := by have := cntB_le p i; omega
      refine wpAny_list_append_plain (hsz := hys) (hacc₃.at fun o e => hk₄ _ o e) fun h₅ hl₅ hs₅ => ?_
      refine ⟨zs.size + 1 - (i + 1), nless (by assumption), h₅, tk₄, _, ys.push x, i + 1, rfl, (hit₃.at fun o e => hk₄ _ o e).extBut hs₅.extBut (Ne.symm hDJ), (hl₃.at fun o e => hk₄ _ o e).extBut hs₅.extBut (Ne.symm hDZ), hl₅,
        (hn₃.keeps hk₄).sameBut hs₅ (Ne.symm hDC), hm₂, ?_, hlt, rfl, fun b o hbC hbJ hbD e => hs₅.extBut b o hbD (hk₄ b o (up₃ b o hbC hbJ (hk b o hbC hbJ hbD e)))⟩
      unfold cntB; rw [hpv, Array.size_push, hc]; simp; omega
/-- the outer walk, over a range from 0 -/
theorem outer_walk {elt i0 i1 c : PySem.Expr} {x y : Str} {px py : Pos} {scope : Scope} {pos : Pos} {D I : Addr} {cenv : Env} {n : Nat} {m : Str → Option Value} (hh : A.handled = none)
    (hx : cenv.kindOf x = some .local) (hy : cenv.kindOf y = some .local) (hxy : x ≠ y) (hp : (cenv.scope.kind == .class || (cenv.scope.kind == .module && cenv.locals != cenv.globals)) = false)
    (hDC : D ≠ cenv.locals) (hDI : D ≠ I) (hCI : cenv.locals ≠ I)
    (hit : IsRangeIter s.heap I 0 n 1) (hacc : s.heap.PlainList D #[]) (hn : s.heap.Ns cenv.locals m) (k : Nat → Nat) (p : Nat → Nat → Bool) (hk1000 : ∀ i, i < n → k i ≤ 1000) (hn1000 : n ≤ 1000)
    (hin : ∀ (i : Nat) t s₂ m₂ (E' : Value → Shared → Prop), i < n → s₂.heap.Ns cenv.locals m₂ → m₂ x = some (.int i t) → (∀ b o, b ≠ cenv.locals → b ≠ I → b ≠ D → s.heap.get? b = some o → s₂.heap.get? b = some o) →
      wpAny (model prog w) A (eval i1 cenv) (fun zv s₃ => ∃ Z zs, zv = .ref Z ∧ s₂.heap.get? Z = none ∧ s₃.heap.IsList Z zs ∧ zs.size = k i ∧ Keeps s₂ s₃ ∧
        ∀ (j : Nat) v s₄ m₄ (E'' : Value → Shared → Prop), zs[j]? = some v → s₄.heap.Ns cenv.locals m₄ → m₄ x = some (.int i t) → m₄ y = some v → (∀ b o, b ≠ cenv.locals → b ≠ I → b ≠ D → s.heap.get? b = some o → s₄.heap.get? b = some o) →
          wpAny (model prog w) A (isTrue c cenv (eval c cenv)) (fun ok s₅ => ok = p i j ∧ Keeps s₄ s₅) E'' s₄) E' s₂)
    (helt : ∀ (i : Nat) t s₂ m₂ (E' : Value → Shared → Prop), i < n → s₂.heap.Ns cenv.locals m₂ → m₂ x = some (.int i t) → (∀ b o, b ≠ cenv.locals → b ≠ I → b ≠ D → s.heap.get? b = some o → s₂.heap.get? b = some o) →
      wpAny (model prog w) A (eval elt cenv) (fun _ s₃ => Keeps s₂ s₃) E' s₂)
    (hR : ∀ h' tk m' ys, h'.Ns cenv.locals m' → h'.PlainList D ys → ys.size = sumB (fun i => cntB (p i) (k i)) n → (∀ b o, b ≠ cenv.locals → b ≠ I → b ≠ D → s.heap.get? b = some o → h'.get? b = some o) → R (.ok .next) { s with heap := h', toks := tk })
    (hs : ∀ x, foldedSetIterable i1 cenv x = pure x := by intro _; rfl) : codeAny (model prog w) A (.compLoop (comp2 elt (.Name x px) i0 (.Name y py) i1 c scope pos) 0 (.ref I) (.ref D) cenv) R s := by
  have W := Walks.range (prog := prog) (w := w) (A := A) hh I 0 1 n
  refine outer_loop
    (OutSt s cenv.locals I D n m p k) ?_ (n + 1)
    ⟨s.heap, s.toks, m, #[], 0, rfl, by simpa using hit, hacc, hn, rfl, Nat.zero_le _, rfl, fun _ _ _ _ _ e => e⟩ (by intro _; rfl) hs
  rintro q s' E' ⟨H, tk, m', ys, i, rfl, hit', hacc', hn', hc, hi, rfl, hk⟩
  by_cases hlt : i < n
  · refine W.item i _ _ _ hlt hit' fun v h₁ tk₁ hv hit₁ hk₁ => ?_
    obtain ⟨t, rfl⟩ := hv
    have hk₁' : ∀ b o, b ≠ I → H.get? b = some o → h₁.get? b = some o := fun b o hb e => hk₁ b o (by simpa using hb) e
    refine wpAny_assign_Name (wpAny_storeName_local hx (hn'.at' fun o e => hk₁' _ o hCI e) (fun h₂ hn₂ hs₂ => ?_) hp)
    have hval : (fun z => if z = x then some (Value.int (0 + (i : Int) * 1) t) else m' z) x = some (.int i t) := by simp
    have up₂ : ∀ b o, b ≠ cenv.locals → b ≠ I → H.get? b = some o → h₂.get? b = some o := fun b o hbC hbI e => hs₂.extBut b o hbC (hk₁' b o hbI e)
    refine wpAny_mono (hin i t _ _ _ hlt hn₂ hval fun b o hbC hbI hbD e => up₂ b o hbC hbI (hk b o hbC hbI hbD e)) (fun zv s₃ h₃ => ?_) fun _ _ e => e
    obtain ⟨Z, zs, rfl, hZn, hZ, hzk, ⟨h₃, tk₃, rfl, hk₃⟩, htest⟩ := h₃
    have neZ : ∀ b o, h₂.get? b = some o → b ≠ Z := fun b o e q => by
      have hZn' : h₂.get? Z = none := hZn
      rw [q, hZn'] at e; cases e
    have hacc₂ : h₂.PlainList D ys := hacc'.at fun o e => up₂ D o hDC hDI e
    have hDZ : D ≠ Z := by obtain ⟨_, e⟩ := hacc₂; exact neZ _ _ e
    have hCZ : cenv.locals ≠ Z := by obtain ⟨_, _, _, e, _⟩ := hn₂; exact neZ _ _ e
    have hit₂ : IsRangeIter h₂ I (0 + ((i + 1 : Nat) : Int) * 1) ((n : Int) - ((i + 1 : Nat) : Int)) 1 := W.frame _ _ _ hit₁ fun b hb o e => hs₂.extBut b o (fun q => by
      have hb' : b = I := by simpa using hb
      exact hCI (q ▸ hb')) e
    have hIZ : I ≠ Z := by have := hit₂; exact neZ _ _ this
    refine wpAny_pyIter_list hZ ?_
    dsimp only
    have hJ : ∀ b o, h₃.get? b = some o → b ≠ h₃.objs.size := fun b o e => Nat.ne_of_lt (Heap.lt_size e)
    have hacc₃ : h₃.PlainList D ys := hacc₂.at fun o e => hk₃ _ o e
    have hn₃ := hn₂.keeps hk₃
    have hDJ : D ≠ h₃.objs.size := by obtain ⟨_, e⟩ := hacc₃; exact hJ _ _ e
    have hCJ : cenv.locals ≠ h₃.objs.size := by obtain ⟨_, _, _, e, _⟩ := hn₃; exact hJ _ _ e
    have hZJ : Z ≠ h₃.objs.size := by obtain ⟨_, e, _⟩ := hZ; exact hJ _ _ e
    have hit₃ : IsRangeIter h₃ I (0 + ((i + 1 : Nat) : Int) * 1) ((n : Int) - ((i + 1 : Nat) : Int)) 1 := W.frame _ _ _ hit₂ fun b hb o e => hk₃ b o e
    have hIJ : I ≠ h₃.objs.size := by have := hit₃; exact hJ _ _ this
    have all : ∀ b o, b ≠ cenv.locals → b ≠ I → b ≠ D → s.heap.get? b = some o → h₃.get? b = some o := fun b o hbC hbI hbD e => hk₃ b o (up₂ b o hbC hbI (hk b o hbC hbI hbD e))
    have loop : ∀ s₅ : Shared, s₅ = { s with heap := h₃.push { cls := .type "list_iterator", data := .fields #[.ref Z, .int 0 0] }, toks := tk₃ } →
        codeAny (model prog w) A (.compLoop (comp2 elt (.Name x px) i0 (.Name y py) i1 c scope pos) 1 (.ref h₃.objs.size) (.ref D) cenv) (fun r s₅ => match r with | .ok _ => ∃ m', m' < n + 1 - i ∧ OutSt s cenv.locals I D n m p k m' s₅ | .error _ => False) s₅ := by
      rintro s₅ rfl
      refine inner_walk (zs := zs) (ys0 := ys) (Z := Z) (p := p i) hh hy hp hDC hDJ hDZ hCJ hCZ hZJ ⟨_, Heap.get?_push_size _ rfl, rfl, rfl⟩ (hZ.at fun o e => Heap.get?_push_of_some _ e) (hacc₃.at fun o e => Heap.get?_push_of_some _ e) (hn₃.keeps fun b o e => Heap.get?_push_of_some _ e) ?_ ?_ ?_ ?_
      · intro j v s₂ m₂ E' hv hn4 hy4 hm4 hk4
        refine htest j v s₂ m₂ E' hv hn4 ?_ hy4 fun b o hbC hbI hbD e => ?_
        · rw [hm4 x hxy]; exact hval
        · have e3 := all b o hbC hbI hbD e
          exact hk4 b o hbC (hJ b o e3) hbD (Heap.get?_push_of_some _ e3)
      · intro s₂ m₂ E' hn4 hm4 hk4
        refine helt i t s₂ m₂ E' hlt hn4 ?_ fun b o hbC hbI hbD e => ?_
        · rw [hm4 x hxy]; exact hval
        · have e3 := all b o hbC hbI hbD e
          exact hk4 b o hbC (hJ b o e3) hbD (Heap.get?_push_of_some _ e3)
      · intro h' tk' m5 ys5 hn5 hm5 hacc5 hc5 hk5
        refine ⟨n + 1 - (i + 1), nless (by assumption), h', tk', m5, ys5, i + 1, rfl, ?_, hacc5, hn5, ?_, hlt, rfl, fun b o hbC hbI hbD e => ?_⟩
        · exact W.frame _ _ _ hit₃ fun b hb o e => by
            have hb' : b = I := by simpa using hb
            rw [hb'] at e ⊢
            exact hk5 I o (Ne.symm hCI) hIJ (Ne.symm hDI) (Heap.get?_push_of_some _ e)
        · rw [hc5, hc, hzk]; rfl
        · have e3 := all b o hbC hbI hbD e
          exact hk5 b o hbC (hJ b o e3) hbD (Heap.get?_push_of_some _ e3)
      · have h1 : ys.size ≤ i * 1000 := by
          rw [hc]
          have key : ∀ i', i' ≤ i → sumB (fun i => cntB (p i) (k i)) i' ≤ i' * 1000 := by
            intro i'
            induction i' with
            | zero => intro _; simp [sumB]
            | succ i' ih =>
              intro hle
              have a1 := ih (by omega)
              have a2 := cntB_le (p i') (k i')
              have a3 := hk1000 i' (by omega)
              unfold sumB; rw [Nat.succ_mul]; omega
          exact key i (Nat.le_refl _)
        have h2 := hk1000 i hlt
        have h3 : i * 1000 ≤ 1000 * 1000 := Nat.mul_le_mul (by omega) (Nat.le_refl _)
        rw [PySem.sizeLine_eq]; omega
    exact inner_start (loop _ rfl) fun E' => wpAny_pyIter_listiter (i := 0) (l := Z) ⟨_, Heap.get?_push_size _ rfl, rfl, rfl⟩ (loop _ rfl)
  · have hin' : i = n := by omega
    subst hin'
    refine W.done _ _ _ hit' fun h₁ tk₁ hk₁ => ?_
    have hk₁' : ∀ b o, b ≠ I → H.get? b = some o → h₁.get? b = some o := fun b o hb e => hk₁ b o (by simpa using hb) e
    exact hR h₁ tk₁ m' ys (hn'.at' fun o e => hk₁' _ o hCI e) (hacc'.at fun o e => hk₁' _ o hDI e) hc fun b o hbC hbI hbD e => hk₁' b o hbI (hk b o hbC hbI hbD e)
end
section
variable {prog : Program} {w : World} {A : Around} {E : Value → Shared → Prop} {s : Shared} {env : Env} {g : Heap} {L : Addr} {m : Str → Option Value} {news : Led}
noncomputable def Comp2At (prog : Program) (w : World) (A : Around) (env : Env) (elt i1 c : PySem.Expr) (x y : Str) (scope : Scope) (cl : List (Str × Addr)) (E : Value → Shared → Prop) (Q : Value → Shared → Prop) (xv : Value) (s₁ : Shared) : Prop :=
  wpAny (model prog w) A (pyIter xv) (fun it s₂ => ∃ (I : Addr) (n : Nat) (k : Nat → Nat) (p : Nat → Nat → Bool), it = .ref I ∧ IsRangeIter s₂.heap I 0 n 1 ∧ n ≤ 1000 ∧ (∀ i, i < n → k i ≤ 1000) ∧
    (∀ (C : Addr) (i : Nat) t s₃ m₃ (E' : Value → Shared → Prop), s₂.heap.objs.size ≤ C → i < n → s₃.heap.Ns C m₃ → m₃ x = some (.int i t) → (∀ b o, b ≠ I → s₂.heap.get? b = some o → s₃.heap.get? b = some o) →
      wpAny (model prog w) A (eval i1 (compEnvC scope cl C env)) (fun zv s₄ => ∃ Z zs, zv = .ref Z ∧ s₃.heap.get? Z = none ∧ s₄.heap.IsList Z zs ∧ zs.size = k i ∧ Keeps s₃ s₄ ∧
        ∀ (j : Nat) v s₅ m₅ (E'' : Value → Shared → Prop), zs[j]? = some v → s₅.heap.Ns C m₅ → m₅ x = some (.int i t) → m₅ y = some v → (∀ b o, b ≠ I → s₂.heap.get? b = some o → s₅.heap.get? b = some o) →
          wpAny (model prog w) A (isTrue c (compEnvC scope cl C env) (eval c (compEnvC scope cl C env))) (fun ok s₆ => ok = p i j ∧ Keeps s₅ s₆) E'' s₅) E' s₃) ∧
    (∀ (C : Addr) (i : Nat) t s₃ m₃ (E' : Value → Shared → Prop), s₂.heap.objs.size ≤ C → i < n → s₃.heap.Ns C m₃ → m₃ x = some (.int i t) → (∀ b o, b ≠ I → s₂.heap.get? b = some o → s₃.heap.get? b = some o) →
      wpAny (model prog w) A (eval elt (compEnvC scope cl C env)) (fun _ s₄ => Keeps s₃ s₄) E' s₃) ∧
    (∀ D h' tk ys, s₂.heap.get? D = none → h'.PlainList D ys → ys.size = sumB (fun i => cntB (p i) (k i)) n → (∀ b o, b ≠ I → s₂.heap.get? b = some o → h'.get? b = some o) → Q (.ref D) { s₂ with heap := h', toks := tk })) E s₁
theorem comp2_open {elt i0 i1 c : PySem.Expr} {x y : Str} {px py : Pos} {scope : Scope} {cl : List (Str × Addr)} {pos : Pos} {Q : Value → Shared → Prop} (hh : A.handled = none)
    (h : wpAny (model prog w) A (eval i0 env) (Comp2At prog w A env elt i1 c x y scope cl E Q) E s)
    (hclos : closureFor scope env = pure cl) (hcell : ∀ y ∈ scope.names, y.2 ≠ .cell) (hkind : scope.kind = .function)
    (hnames : ∀ y ∈ scope.names, y.2 = .local → scope.names.lookup y.1 = some .local) (hx : scope.names.lookup x = some .local) (hy : scope.names.lookup y = some .local) (hxy : x ≠ y)
    (hs : ∀ x, foldedSetIterable i0 env x = pure x) (hs1 : ∀ C x, foldedSetIterable i1 (compEnvC scope cl C env) x = pure x) :
    wpAny (model prog w) A (eval (comp2 elt (.Name x px) i0 (.Name y py) i1 c scope pos) env) Q E s := by
  unfold comp2
  rw [eval_ListComp]
  refine wpAny_comprehension_free (use := none) rfl hs hclos hkind hnames (wpAny_mono h (fun xv s₁ h₁ => wpAny_mono h₁ (fun it s₂ h₂ => ?_) fun _ _ e => e) fun _ _ e => e)
  obtain ⟨I, n, k, p, rfl, hit, hn1, hk1, hin, helt, hQ⟩ := h₂
  refine wpAny_newObj_type (wpAny_newFunctionEnv hcell (by intro y hy; simp at hy) (fun h₁ hns₁ hsb₁ => ?_) hkind)
  dsimp only at hns₁ hsb₁ ⊢
  generalize hH2 : s₂.heap.push { cls := .type "list", dict := none, data := .seq ([] : List Value).toArray } = H2 at hns₁ hsb₁ ⊢
  have hC : H2.objs.size = s₂.heap.objs.size + 1 := by rw [← hH2, Heap.size_push]
  have hDC : s₂.heap.objs.size ≠ H2.objs.size := by rw [hC]; exact Nat.ne_of_lt (Nat.lt_succ_self _)
  have hCle : s₂.heap.objs.size ≤ H2.objs.size := by rw [hC]; exact Nat.le_succ _
  have below : ∀ b, b < s₂.heap.objs.size → b ≠ H2.objs.size ∧ b ≠ s₂.heap.objs.size := fun b hb => ⟨by rw [hC]; exact Nat.ne_of_lt (Nat.lt_succ_of_lt hb), Nat.ne_of_lt hb⟩
  have hI : I < s₂.heap.objs.size := Heap.lt_size hit
  have old : ∀ b o, s₂.heap.get? b = some o → h₁.get? b = some o := fun b o e => hsb₁.extBut b o (below b (Heap.lt_size e)).1 (Heap.get?_push_of_some _ (hH2 ▸ Heap.get?_push_of_some _ e))
  have hacc : h₁.PlainList s₂.heap.objs.size #[] := ⟨_, hsb₁.extBut _ _ hDC (Heap.get?_push_of_some _ (hH2 ▸ Heap.get?_push_size _ rfl))⟩
  have hit₁ : IsRangeIter h₁ I 0 n 1 := old _ _ hit
  have fresh : ∀ a, s₂.heap.objs.size ≤ a → s₂.heap.get? a = none := fun a ha => by
    cases e : s₂.heap.get? a with
    | none => rfl
    | some o' => exact absurd (Heap.lt_size e) (Nat.not_lt.mpr ha)
  have W := Walks.range (prog := prog) (w := w) (A := A) hh I 0 1 n
  have loop : ∀ s₃ : Shared, s₃ = { s₂ with heap := h₁, toks := s₂.toks + ([] : List (Str × Value)).length } →
      codeAny (model prog w) A (.compLoop (comp2 elt (.Name x px) i0 (.Name y py) i1 c scope pos) 0 (.ref I) (.ref s₂.heap.objs.size) (compEnvC scope cl H2.objs.size env))
        (compPost (model prog w) A E none Q (.ref s₂.heap.objs.size) H2.objs.size) s₃ := by
    rintro s₃ rfl
    refine outer_walk (n := n) (k := k) (p := p) (cenv := compEnvC scope cl H2.objs.size env) hh (lookup_relabel_local hx) (lookup_relabel_local hy) hxy (by simp [compEnvC, relabel, hkind]) hDC (below I hI).2.symm (below I hI).1.symm hit₁ hacc hns₁ hk1 hn1 ?_ ?_ ?_ (hs1 _)
    · intro i t s₃ m₃ E' hlt hn3 hm3 hk3
      have k3 : ∀ b o, b ≠ I → s₂.heap.get? b = some o → s₃.heap.get? b = some o := fun b o hb e => hk3 b o (below b (Heap.lt_size e)).1 hb (below b (Heap.lt_size e)).2 (old b o e)
      refine wpAny_mono (hin H2.objs.size i t s₃ m₃ E' hCle hlt hn3 hm3 k3) (fun zv s₄ h₄ => ?_) fun _ _ e => e
      obtain ⟨Z, zs, e1, e2, e3, e4, e5, e6⟩ := h₄
      exact ⟨Z, zs, e1, e2, e3, e4, e5, fun j v s₅ m₅ E'' a1 a2 a3 a4 a5 => e6 j v s₅ m₅ E'' a1 a2 a3 a4 fun b o hb e => a5 b o (below b (Heap.lt_size e)).1 hb (below b (Heap.lt_size e)).2 (old b o e)⟩
    · intro i t s₃ m₃ E' hlt hn3 hm3 hk3
      exact helt H2.objs.size i t s₃ m₃ E' hCle hlt hn3 hm3 fun b o hb e => hk3 b o (below b (Heap.lt_size e)).1 hb (below b (Heap.lt_size e)).2 (old b o e)
    · intro h' tk m' ys hn' hpl hc hk'
      exact ⟨m', hn', fun h'' hs'' => hQ _ h'' tk ys (fresh _ (Nat.le_refl _)) (hpl.extBut hs''.extBut hDC) hc fun b o hb e => hs''.extBut b o (below b (Heap.lt_size e)).1 (hk' b o (below b (Heap.lt_size e)).1 hb (below b (Heap.lt_size e)).2 (old b o e))⟩
  exact codeAny_compStart_list (loop _ rfl) (W.self 0 _ _ _ (by simpa using hit₁) (loop _ rfl))
theorem comp2_range {elt i1 c : PySem.Expr} {x y : Str} {scope : Scope} {cl : List (Str × Addr)} {Q : Value → Shared → Prop} {rg : Addr} {t₀ u₀ v₀ : Tok} {n : Nat} (k : Nat → Nat) (p : Nat → Nat → Bool)
    (hr : IsRange s.heap rg 0 n 1 t₀ u₀ v₀) (hn : n < 1000) (hk : ∀ i, i < n → k i ≤ 1000) (F : Fr g L s.heap m) (N : News g L s.heap news)
    (hin : ∀ (C : Addr) (i : Nat) t s₃ m₃ (E' : Value → Shared → Prop), s.heap.objs.size ≤ C → i < n → s₃.heap.Ns C m₃ → m₃ x = some (.int i t) → (∀ b o, s.heap.get? b = some o → s₃.heap.get? b = some o) →
      wpAny (model prog w) A (eval i1 (compEnvC scope cl C env)) (fun zv s₄ => ∃ Z zs, zv = .ref Z ∧ s₃.heap.get? Z = none ∧ s₄.heap.IsList Z zs ∧ zs.size = k i ∧ Keeps s₃ s₄ ∧
        ∀ (j : Nat) v s₅ m₅ (E'' : Value → Shared → Prop), zs[j]? = some v → s₅.heap.Ns C m₅ → m₅ x = some (.int i t) → m₅ y = some v → (∀ b o, s.heap.get? b = some o → s₅.heap.get? b = some o) →
          wpAny (model prog w) A (isTrue c (compEnvC scope cl C env) (eval c (compEnvC scope cl C env))) (fun ok s₆ => ok = p i j ∧ Keeps s₅ s₆) E'' s₅) E' s₃)
    (helt : ∀ (C : Addr) (i : Nat) t s₃ m₃ (E' : Value → Shared → Prop), s.heap.objs.size ≤ C → i < n → s₃.heap.Ns C m₃ → m₃ x = some (.int i t) → (∀ b o, s.heap.get? b = some o → s₃.heap.get? b = some o) →
      wpAny (model prog w) A (eval elt (compEnvC scope cl C env)) (fun _ s₄ => Keeps s₃ s₄) E' s₃)
    (hQ : ∀ D (ys : List Value) e h' tk, Fr g L h' m → News g L h' ((D, W.listOf ys.toArray e) :: news) → (∀ p ∈ news, p.1 ≠ D) → ys.length = sumB (fun i => cntB (p i) (k i)) n → (∀ b o, s.heap.get? b = some o → h'.get? b = some o) → Q (.ref D) { s with heap := h', toks := tk }) :
    Comp2At prog w A env elt i1 c x y scope cl E Q (.ref rg) s := by
  unfold Comp2At
  have up : ∀ (h₃ : Heap), (∀ b o, b ≠ s.heap.objs.size → (s.heap.push { cls := .type "range_iterator", data := .fields #[rawInt 0, rawInt (Builtin.Range.rangeSize 0 n 1), rawInt 1] }).get? b = some o → h₃.get? b = some o) → ∀ b o, s.heap.get? b = some o → h₃.get? b = some o :=
    fun h₃ hk b o e => hk b o (fun q => Nat.lt_irrefl _ (q ▸ Heap.lt_size e)) (Heap.get?_push_of_some _ e)
  refine wpAny_pyIter_range hr (range_small hn) ⟨s.heap.objs.size, n, k, p, rfl, ?_, by omega, hk, ?_, ?_, ?_⟩
  · show IsRangeIter _ _ _ _ _
    rw [range_size]; exact Heap.get?_push_size _ rfl
  · intro C i t s₃ m₃ E' hC hlt hn3 hm3 hk3
    refine wpAny_mono (hin C i t s₃ m₃ E' (Nat.le_of_succ_le (by simpa [Heap.size_push] using hC)) hlt hn3 hm3 (up _ hk3)) (fun zv s₄ h₄ => ?_) fun _ _ e => e
    obtain ⟨Z, zs, e1, e2, e3, e4, e5, e6⟩ := h₄
    exact ⟨Z, zs, e1, e2, e3, e4, e5, fun j v s₅ m₅ E'' a1 a2 a3 a4 a5 => e6 j v s₅ m₅ E'' a1 a2 a3 a4 (up _ a5)⟩
  · intro C i t s₃ m₃ E' hC hlt hn3 hm3 hk3
    exact helt C i t s₃ m₃ E' (Nat.le_of_succ_le (by simpa [Heap.size_push] using hC)) hlt hn3 hm3 (up _ hk3)
  · intro D h' tk ys hnew hpl hc hk'
    have keep : ∀ b o, s.heap.get? b = some o → h'.get? b = some o := up h' hk'
    obtain ⟨e, he⟩ := hpl
    have hold : s.heap.get? D = none := by
      cases q : s.heap.get? D with
      | none => rfl
      | some o => rw [Heap.get?_push_of_some _ q] at hnew; cases hnew
    have hne : ∀ q ∈ news, q.1 ≠ D := fun q hq z => by rw [← z, (N q hq).1] at hold; cases hold
    obtain ⟨oL, es, ep, hL, _⟩ := id F.ns
    refine hQ D ys.toList e h' tk (F.keeps keep) ?_ hne (by simpa using hc) keep
    intro q hq
    rcases List.mem_cons.mp hq with rfl | hq
    · refine ⟨by show h'.get? D = some (W.listOf ys.toList.toArray e); rw [Array.toArray_toList]; exact he, fun z => ?_, ?_⟩
      · have z : D = L := z
        rw [z, hL] at hold; cases hold
      · cases q : g.get? D with
        | none => rfl
        | some o => rw [F.keep _ _ q] at hold; cases hold
    · exact ⟨keep _ _ (N q hq).1, (N q hq).2⟩
end
section
theorem slice_keep {prog : Program} {w : World} {A : Around} {E : Value → Shared → Prop} {s : Shared} {value slice : PySem.Expr} {l : Addr} {items : Array Value} {vl vu : Value} {lo hi : Option Int} {Q : Value → Shared → Prop}
    (hl : s.heap.IsList l items) (pl : IsPart vl lo) (pu : IsPart vu hi)
    (h : ∀ h', h'.IsList (s.heap.objs.size + 1) (slicePick items lo hi none) → (∀ b o, s.heap.get? b = some o → h'.get? b = some o) → Q (.ref (s.heap.objs.size + 1)) { s with heap := h' })
    (hs : subscripted slice false (.ref l) (.ref s.heap.objs.size) = operate [.ref s.heap.objs.size, .ref l] (getItem (.ref l) (.ref s.heap.objs.size)))
    (ht : ∀ r, letTemporaryGo value (.ref l) r = pure ()) (hsz : items.size ≤ sizeLine) :
    wpAny (model prog w) A (subscriptTail value slice (.ref l) (.ref s.heap.objs.size)) Q E { s with heap := s.heap.push { cls := .type "slice", data := .fields #[vl, vu, .none] } } := by
  refine subscriptTail_ops (Heap.IsList.typeIs (s := { s with heap := s.heap.push { cls := .type "slice", data := .fields #[vl, vu, .none] } }) (hl.push _)) list_getitem_lookup
    (wpAny_getItem_list_slice (hl.push _) (Heap.IsSliceOf.new ..) pl pu .none (by simp) ?_ hsz) hs ht
  show Q (.ref (s.heap.push _).objs.size) _
  have e := Heap.size_push (h := s.heap) (o := { cls := .type "slice", data := .fields #[vl, vu, .none] })
  have hh := h ((s.heap.push { cls := .type "slice", data := .fields #[vl, vu, .none] }).push { cls := .type "list", data := .seq (slicePick items lo hi none) })
    ⟨_, by rw [← e]; exact Heap.get?_push_size _ rfl, rfl, _, rfl⟩ (fun b o x => Heap.get?_push_of_some _ (Heap.get?_push_of_some _ x))
  rw [e]
  exact hh
local macro_rules | `(tactic| walk_at $k:str) => if ["subscriptTail Name Slice ref ref"].contains k.getString then `(tactic| refine stopHere ?_) else Lean.Macro.throwUnsupported
theorem sumB_lt {f : Nat → Nat} {k : Nat} : ∀ n, (∀ i, i < n → f i ≤ k) → sumB f n ≤ n * k
  | 0, _ => by simp [sumB]
  | n + 1, h => by
    have h1 := sumB_lt n fun i hi => h i (by walk_at "om")
    have h2 := h n (by walk_at "om")
    unfold sumB; rw [Nat.succ_mul]; walk_at "om"
/-- how many pairs stand in turned order -/
noncomputable def moves (ons : List Int) : Nat := sumB (fun i => cntB (fun j => decide (ons.getD j 0 < ons.getD i 0)) i) ons.length
section
variable {w : World} {A : Around} {s : Shared} {b₀ : Heap} {E : Value → Shared → Prop} (W : Wd w b₀) (hb : b₀.StaysIn s.heap)
include W hb
theorem moves_spec (lo : Addr) (hlo : b₀.get? lo = none) (os : List Value) (ons : List Int) (e : Nat) (hio : IntsAre os ons) (hlen : ons.length < 1000) (H : Has s.heap [(lo, PySem.W.listOf os.toArray e)]) (r : Room A 4) :
    wpAny (model PySem.Challenge.rw_xm0627_01.row.prog w) A (call (.ref 464) [.ref lo]) (Out [lo] s (fun x l => l = [(lo, PySem.W.listOf os.toArray e)] ∧ ∃ tk, x = .int (moves ons) tk)) E s := by
  walk_at "kfill"
  refine' enterC [lo] [(lo, PySem.W.listOf os.toArray e)] [(Str.ofString "order", .ref lo)] W hb (fun a ha => by rw [List.mem_singleton.mp ha]; exact hlo) (fun p hp => by rw [List.mem_singleton.mp hp]; exact ⟨H _ (.head _), .head _⟩) ?ho ?hcd r ?hbind ?hkind ?hnd ?_ ?c1 ?c2 ?c3
  walk_at "kenter"
  intro g L h₁ tk cells p loose mean mg mb dp fr gd un X TP W' hg F N Y l1 r' hU
  k_fold
  have hol := hio.length
  clear H
  k_cells Y
  dsimp only [List.cons_append, List.nil_append] at N
  walk_at "flat"
  k_steps
  unfold Stop
  refine comp2_open r'.hh ?_ rfl ?_ ?_ ?_ ?_ ?_ ?_ ?_ ?_
  · k_steps
    rename IsRange _ _ _ _ _ _ _ _ => rg
    rename Fr _ _ _ _ => F1
    rename News _ _ _ _ => N1
    rename Obj.data _ = _ => d1
    rename IntsAre _ _ => hio
    refine comp2_range (n := ons.length) (fun i => i) (fun i j => decide (ons.getD j 0 < ons.getD i 0)) rg hlen (fun i hi => by walk_at "om") F1 N1 ?_ ?_ ?_
    · intro C i t s₃ m₃ E' hC hlt hn3 hm3 hk3
      obtain ⟨F2, N2⟩ := block_ground F1 N1 hC hn3 hk3
      k_fold
      walk_at "flat"
      k_steps
      unfold Stop
      have hos : s₃.heap.IsList lo os.toArray := News.isList N2 (by k_mem)
      have hu := kmk_upto (y := (i : Int)) hio (by walk_at "om")
      have hu9 : (slicePick os.toArray none (some (i : Int)) none).toList.length = i := by rw [hu.length, List.length_take]; walk_at "om"
      refine slice_keep hos IsPart.none (IsPart.int _ _) (fun h9 hl9 hk9 => ?_) (by with_unfolding_all rfl) (by intro _; with_unfolding_all rfl) (by rw [List.size_toArray, PySem.sizeLine_eq]; walk_at "om")
      refine ⟨_, _, rfl, Heap.get?_none_of_le (Nat.le_succ _), hl9, by rw [← Array.length_toList]; exact hu9, ⟨h9, _, rfl, hk9⟩, ?_⟩
      intro j v s₅ m₅ E'' hj hn5 hm5 hy5 hk5
      rw [← Array.getElem?_toList] at hj
      have hji : j < i := by
        have := (List.getElem?_eq_some_iff.mp hj).1
        walk_at "om"
      obtain ⟨t5, ht5⟩ := ints_at hu (i := j) (by rw [List.length_take]; walk_at "om")
      have hv5 : v = .int (ons.getD j 0) t5 := by
        rw [ht5] at hj
        rw [← Option.some.inj hj, List.getElem_take, List.getD_eq_getElem?_getD, List.getElem?_eq_getElem (by walk_at "om")]; rfl
      subst hv5
      obtain ⟨F5, N5⟩ := block_ground F1 N1 hC hn5 hk5
      clear F2 N2 F1 N1 hl9 hk9 hu hos
      show wpAny _ _ _ _ _ _
      k_fold
      walk_at "flat"
      k_steps
      exact ⟨s₅.heap, s₅.toks, rfl, fun _ _ e => e⟩
    · intro C i t s₃ m₃ E' hC hlt hn3 hm3 hk3
      obtain ⟨F2, N2⟩ := block_ground F1 N1 hC hn3 hk3
      clear F1 N1
      k_fold
      walk_at "flat"
      k_steps
      exact ⟨_, _, rfl, fun _ _ e => e⟩
    · intro D ys e' h' tk' F2 N2 hne hlen' hkk
      have hys : ys.length < 10000000 := by
        rw [hlen']
        have := sumB_lt (f := fun i => cntB (fun j => decide (ons.getD j 0 < ons.getD i 0)) i) (k := 1000) ons.length fun i hi => by have := cntB_le (fun j => decide (ons.getD j 0 < ons.getD i 0)) i; walk_at "om"
        walk_at "om"
      walk_at "flat"
      k_steps
      exact ⟨_, fun p hp => by rw [List.mem_singleton.mp hp]; k_mem, rfl, _, val_of (by rw [hlen']; rfl)⟩
  · decide
  · rfl
  · decide
  · rfl
  · rfl
  · decide
  · intro _; rfl
  · intro _ _; rfl
end
end
theorem zip_no_len : typeLookup (.type "zip") "__len__" = pure none := by rw [typeLookup_type, builtinLookup_eq_fast]; kernel_rfl
theorem zip_no_hint : typeLookup (.type "zip") "__length_hint__" = pure none := by rw [typeLookup_type, builtinLookup_eq_fast]; kernel_rfl
/-- a zip whose last tuple stands elsewhere -/
noncomputable abbrev ZipO (h : Heap) (z TI TO : Addr) (a : Addr) (f : Bool) : Prop :=
  h.get? z = some { cls := .type "zip", dict := none, data := .fields #[rawInt a, .bool f, .bool false, .ref TI, .ref TO], slots := #[] }
section
variable {prog : Program} {w : World} {A : Around} {E : Value → Shared → Prop} {s : Shared}
theorem zip_out_item {z TI TO i1 i2 l1 l2 a : Addr} {f : Bool} {oa : Obj} {k1 k2 : Nat} {xs ys : Array Value} {x y : Value} {Q : Option Value → Shared → Prop} (D : ZipApart z TI TO i1 i2 l1 l2)
    (hz : ZipO s.heap z TI TO a f) (ha : s.heap.get? a = some oa) (haz : a ≠ z) (hTI : IsPair s.heap TI (.ref i1) (.ref i2))
    (h1 : s.heap.IsListIter i1 l1 k1) (h2 : s.heap.IsListIter i2 l2 k2) (hl1 : s.heap.IsList l1 xs) (hl2 : s.heap.IsList l2 ys) (hx : xs[k1]? = some x) (hy : ys[k2]? = some y)
    (hQ : ∀ h', ZipO h' z TI TO a true → h'.IsListIter i1 l1 (k1 + 1) → h'.IsListIter i2 l2 (k2 + 1) → IsPair h' s.heap.objs.size x y → h'.objs.size = s.heap.objs.size + 1 →
      (∀ c o, c ≠ z → c ≠ i1 → c ≠ i2 → s.heap.get? c = some o → h'.get? c = some o) → Q (some (.ref s.heap.objs.size)) { s with heap := h' }) :
    wpAny (model prog w) A (pyNext (.ref z)) Q E s := by
  have hT : s.TypeIs (.ref z) "zip" := ⟨_, hz, rfl⟩
  unfold pyNext
  refine wpAny_bind (wpAny_attempt (wpAny_callSpecial?_slot (name := Str.ofString "__next__") hT F.slot_zip_next (wpAny_call_entry F.slot_zip_next hT F.entry_zip_next ?_ (F.args_zip_next_1 _))))
  show wpAny _ _ (field (.ref z) 2 >>= _) _ _ _
  refine wpAny_bind (wpAny_field hz rfl (x := .bool false) rfl ?_)
  show wpAny _ _ (field (.ref z) 3 >>= _) _ _ _
  refine wpAny_bind (wpAny_field hz rfl (x := .ref TI) rfl ?_)
  refine wpAny_bind (wpAny_seqItems hTI rfl ?_)
  show wpAny _ _ (Builtin.SmallTypes.ownedTupleIsFree (.ref z) >>= _) _ _ _
  refine wpAny_bind ?_
  unfold Builtin.SmallTypes.ownedTupleIsFree
  refine wpAny_bind (wpAny_field hz rfl (x := rawInt a) rfl ?_)
  show wpAny _ _ (loadIfAlive ((a : Int).toNat) >>= _) _ _ _
  rw [Int.toNat_natCast]
  refine wpAny_bind (kdx_alive ha ?_)
  simp only [Option.isNone_some, Bool.false_eq_true, if_false]
  refine wpAny_bind (wpAny_field hz rfl (x := .bool f) rfl ?_)
  have pre : ∀ h₃ : Heap, Heap.SameBut z s.heap h₃ → h₃.IsListIter i1 l1 k1 ∧ h₃.IsListIter i2 l2 k2 ∧ h₃.IsList l1 xs ∧ h₃.IsList l2 ys ∧ h₃.objs.size = s.heap.objs.size := fun h₃ hs =>
    ⟨h1.extBut hs.extBut D.i1z, h2.extBut hs.extBut D.i2z, hl1.extBut hs.extBut D.l1z, hl2.extBut hs.extBut D.l2z, hs.1⟩
  have hzl : z < s.heap.objs.size := Heap.lt_size hz
  cases f with
  | true =>
    rw [if_neg (show ¬ ((Value.bool true != Value.bool true) = true) from Bool.false_ne_true)]
    refine wpAny_pure ?_
    simp only [Bool.false_eq_true, if_false, List.forIn_toArray, List.forIn_cons, List.forIn_nil]
    obtain ⟨q1, q2, q3, q4, q5⟩ := pre s.heap (Heap.SameBut.refl _ _)
    refine wpAny_bind (wpAny_bind (wpAny_bind (wpAny_holding ?_)))
    show wpAny _ _ (Builtin.SmallTypes.nextOf (.ref i1) >>= _) _ _ _
    refine wpAny_bind (wpAny_nextOf_list_item q1 q3 hx fun h₄ h1₄ hs₄ => wpAny_pure (wpAny_pure ?_))
    refine wpAny_bind (wpAny_bind (wpAny_holding ?_))
    show wpAny _ _ (Builtin.SmallTypes.nextOf (.ref i2) >>= _) _ _ _
    refine wpAny_bind (wpAny_nextOf_list_item (q2.extBut hs₄.extBut D.i12.symm) (q4.extBut hs₄.extBut D.l2i1) hy fun h₅ h2₅ hs₅ => wpAny_pure (wpAny_pure (wpAny_pure ?_)))
    refine wpAny_bind (wpAny_newTuple (hsz := by show (2 : Nat) ≤ sizeLine; rw [PySem.sizeLine_eq]; omega) ?_)
    have e5 : h₅.objs.size = s.heap.objs.size := by rw [hs₅.1, hs₄.1, q5]
    refine wpAny_pure ⟨_, rfl, wpAny_pure ?_⟩
    show Q (some (.ref h₅.objs.size)) { s with heap := h₅.push { cls := .type "tuple", data := .seq #[x, y] } }
    rw [e5]
    have up : ∀ c o, c ≠ z → c ≠ i1 → c ≠ i2 → s.heap.get? c = some o → (h₅.push { cls := .type "tuple", data := .seq #[x, y] }).get? c = some o := fun c o c1 c2 c3 e =>
      Heap.get?_push_of_some _ (hs₅.extBut _ _ c3 (hs₄.extBut _ _ c2 ((Heap.SameBut.refl z s.heap).extBut _ _ c1 e)))
    exact hQ _ (Heap.get?_push_of_some _ (hs₅.extBut _ _ D.i2z.symm (hs₄.extBut _ _ D.i1z.symm hz))) ((h1₄.extBut hs₅.extBut D.i12).at fun o e => Heap.get?_push_of_some _ e) (h2₅.at fun o e => Heap.get?_push_of_some _ e)
      (by rw [← e5]; exact Heap.get?_push_size _ rfl) (by rw [Heap.size_push, e5]) up
  | false =>
    rw [if_pos (show (Value.bool false != Value.bool true) = true from rfl)]
    refine wpAny_bind (wpAny_setField_rec hz (by simp) fun h₃ hz₃ hs₃ => ?_)
    replace hs₃ : Heap.SameBut z s.heap h₃ := hs₃
    replace hz₃ : ZipO h₃ z TI TO a true := hz₃
    refine wpAny_pure ?_
    simp only [Bool.false_eq_true, if_false, List.forIn_toArray, List.forIn_cons, List.forIn_nil]
    obtain ⟨q1, q2, q3, q4, q5⟩ := pre h₃ hs₃
    refine wpAny_bind (wpAny_bind (wpAny_bind (wpAny_holding ?_)))
    show wpAny _ _ (Builtin.SmallTypes.nextOf (.ref i1) >>= _) _ _ _
    refine wpAny_bind (wpAny_nextOf_list_item q1 q3 hx fun h₄ h1₄ hs₄ => wpAny_pure (wpAny_pure ?_))
    refine wpAny_bind (wpAny_bind (wpAny_holding ?_))
    show wpAny _ _ (Builtin.SmallTypes.nextOf (.ref i2) >>= _) _ _ _
    refine wpAny_bind (wpAny_nextOf_list_item (q2.extBut hs₄.extBut D.i12.symm) (q4.extBut hs₄.extBut D.l2i1) hy fun h₅ h2₅ hs₅ => wpAny_pure (wpAny_pure (wpAny_pure ?_)))
    refine wpAny_bind (wpAny_newTuple (hsz := by show (2 : Nat) ≤ sizeLine; rw [PySem.sizeLine_eq]; omega) ?_)
    have e5 : h₅.objs.size = s.heap.objs.size := by rw [hs₅.1, hs₄.1, q5]
    refine wpAny_pure ⟨_, rfl, wpAny_pure ?_⟩
    show Q (some (.ref h₅.objs.size)) { s with heap := h₅.push { cls := .type "tuple", data := .seq #[x, y] } }
    rw [e5]
    have up : ∀ c o, c ≠ z → c ≠ i1 → c ≠ i2 → s.heap.get? c = some o → (h₅.push { cls := .type "tuple", data := .seq #[x, y] }).get? c = some o := fun c o c1 c2 c3 e =>
      Heap.get?_push_of_some _ (hs₅.extBut _ _ c3 (hs₄.extBut _ _ c2 (hs₃.extBut _ _ c1 e)))
    exact hQ _ (Heap.get?_push_of_some _ (hs₅.extBut _ _ D.i2z.symm (hs₄.extBut _ _ D.i1z.symm hz₃))) ((h1₄.extBut hs₅.extBut D.i12).at fun o e => Heap.get?_push_of_some _ e) (h2₅.at fun o e => Heap.get?_push_of_some _ e)
      (by rw [← e5]; exact Heap.get?_push_size _ rfl) (by rw [Heap.size_push, e5]) up
theorem zip_out_end {z TI TO i1 i2 l1 l2 a : Addr} {f : Bool} {oa : Obj} {k1 : Nat} {xs : Array Value} {Q : Option Value → Shared → Prop} (hh : A.handled = none) (D : ZipApart z TI TO i1 i2 l1 l2)
    (hz : ZipO s.heap z TI TO a f) (ha : s.heap.get? a = some oa) (hTI : IsPair s.heap TI (.ref i1) (.ref i2)) (h1 : s.heap.IsListIter i1 l1 k1) (hl1 : s.heap.IsList l1 xs) (hx : xs[k1]? = none)
    (hQ : ∀ h', (∀ c o, c ≠ z → c ≠ i1 → s.heap.get? c = some o → h'.get? c = some o) → Q none { s with heap := h' }) :
    wpAny (model prog w) A (pyNext (.ref z)) Q E s := by
  have hT : s.TypeIs (.ref z) "zip" := ⟨_, hz, rfl⟩
  unfold pyNext
  refine wpAny_bind (wpAny_attempt (wpAny_callSpecial?_slot (name := Str.ofString "__next__") hT F.slot_zip_next (wpAny_call_entry F.slot_zip_next hT F.entry_zip_next ?_ (F.args_zip_next_1 _))))
  show wpAny _ _ (field (.ref z) 2 >>= _) _ _ _
  refine wpAny_bind (wpAny_field hz rfl (x := .bool false) rfl ?_)
  show wpAny _ _ (field (.ref z) 3 >>= _) _ _ _
  refine wpAny_bind (wpAny_field hz rfl (x := .ref TI) rfl ?_)
  refine wpAny_bind (wpAny_seqItems hTI rfl ?_)
  show wpAny _ _ (Builtin.SmallTypes.ownedTupleIsFree (.ref z) >>= _) _ _ _
  refine wpAny_bind ?_
  unfold Builtin.SmallTypes.ownedTupleIsFree
  refine wpAny_bind (wpAny_field hz rfl (x := rawInt a) rfl ?_)
  show wpAny _ _ (loadIfAlive ((a : Int).toNat) >>= _) _ _ _
  rw [Int.toNat_natCast]
  refine wpAny_bind (kdx_alive ha ?_)
  simp only [Option.isNone_some, Bool.false_eq_true, if_false]
  refine wpAny_bind (wpAny_field hz rfl (x := .bool f) rfl ?_)
  cases f with
  | true =>
    rw [if_neg (show ¬ ((Value.bool true != Value.bool true) = true) from Bool.false_ne_true)]
    refine wpAny_pure ?_
    simp only [Bool.false_eq_true, if_false, List.forIn_toArray, List.forIn_cons, List.forIn_nil]
    refine wpAny_bind (wpAny_bind (wpAny_bind (wpAny_holding ?_)))
    show wpAny _ _ (Builtin.SmallTypes.nextOf (.ref i1) >>= _) _ _ _
    refine wpAny_bind (wpAny_nextOf_list_end hh h1 hl1 hx fun h₄ e hs₄ he => ?_)
    obtain ⟨o, ho, hc⟩ := he
    refine wpAny_bind (wpAny_isInstance (T := "StopIteration") (b := true) ⟨o, ho, hc⟩ isSubtype_stop ?_)
    exact wpAny_pure (hQ _ fun c o' c1 c2 e' => hs₄ _ _ c2 e')
  | false =>
    rw [if_pos (show (Value.bool false != Value.bool true) = true from rfl)]
    refine wpAny_bind (wpAny_setField_rec hz (by simp) fun h₃ hz₃ hs₃ => ?_)
    replace hs₃ : Heap.SameBut z s.heap h₃ := hs₃
    refine wpAny_pure ?_
    simp only [Bool.false_eq_true, if_false, List.forIn_toArray, List.forIn_cons, List.forIn_nil]
    refine wpAny_bind (wpAny_bind (wpAny_bind (wpAny_holding ?_)))
    show wpAny _ _ (Builtin.SmallTypes.nextOf (.ref i1) >>= _) _ _ _
    refine wpAny_bind (wpAny_nextOf_list_end hh (h1.extBut hs₃.extBut D.i1z) (hl1.extBut hs₃.extBut D.l1z) hx fun h₄ e hs₄ he => ?_)
    obtain ⟨o, ho, hc⟩ := he
    refine wpAny_bind (wpAny_isInstance (T := "StopIteration") (b := true) ⟨o, ho, hc⟩ isSubtype_stop ?_)
    exact wpAny_pure (hQ _ fun c o' c1 c2 e' => hs₄ _ _ c2 (hs₃.extBut _ _ c1 e'))
end
/-- the tuples drawn so far -/
structure ZpG (xs ys : List Value) (lo : Addr) (h : Heap) (as : List Addr) : Prop where
  above : ∀ a ∈ as, @LT.lt Nat _ lo a
  pairs : ∀ (j : Nat) (a : Addr), as[j]? = some a → ∃ x y, xs[j]? = some x ∧ ys[j]? = some y ∧ IsPair h a x y
structure ZpSt (h : Heap) (z TI TO i1 i2 l1 l2 S : Addr) (xs ys : List Value) (i : Nat) : Prop where
  TI' : IsPair h TI (.ref i1) (.ref i2)
  it1 : h.IsListIter i1 l1 i
  it2 : h.IsListIter i2 l2 i
  li1 : h.IsList l1 xs.toArray
  li2 : h.IsList l2 ys.toArray
  zz : (i = 0 ∧ IsZip h z TI TO .none ∧ ∃ a b, IsPair h TO a b) ∨ ∃ a f oa, ZipO h z TI TO a f ∧ h.get? a = some oa ∧ @LT.lt Nat _ S a
section
variable {prog : Program} {w : World} {A : Around} {E : Value → Shared → Prop} {R : Result → Shared → Prop} {s : Shared}
theorem zp_loop {z TI TO i1 i2 l1 l2 S : Addr} {xs ys : List Value} (hh : A.handled = none) (D : ZipApart z TI TO i1 i2 l1 l2) (hlen : xs.length = ys.length) (hn : xs.length ≤ 1000)
    (z1 : @LT.lt Nat _ z S) (z2 : @LT.lt Nat _ TI S) (z3 : @LT.lt Nat _ TO S) (z4 : @LT.lt Nat _ i1 S) (z5 : @LT.lt Nat _ i2 S) (z6 : @LT.lt Nat _ l1 S) (z7 : @LT.lt Nat _ l2 S) (res : Value) {h₁ : Heap}
    (hR : ∀ h' tk acc c as, (∀ b o, b ≠ S → b ≠ z → b ≠ TO → b ≠ i1 → b ≠ i2 → h₁.get? b = some o → h'.get? b = some o) → h'.get? S = some { cls := .type "list", dict := none, data := .seq acc c, slots := #[] } → as.length = xs.length → ZpG xs ys S h' as →
      acc.toList = as.map Value.ref → R (.ok (.ret res)) { s with heap := h', toks := tk }) :
    ∀ (k i : Nat) (h : Heap) (tk c : Nat) (acc : Array Value) (as : List Addr), xs.length - i = k → i ≤ xs.length → ZpSt h z TI TO i1 i2 l1 l2 S xs ys i → (∀ b o, b ≠ S → b ≠ z → b ≠ TO → b ≠ i1 → b ≠ i2 → h₁.get? b = some o → h.get? b = some o) →
      h.get? S = some { cls := .type "list", dict := none, data := .seq acc c, slots := #[] } → acc.toList = as.map Value.ref → as.length = i → ZpG xs ys S h as →
      codeAny (model prog w) A (.builtin "list.extend.loop" ⟨[.ref S, .ref z, res], []⟩) R { s with heap := h, toks := tk } := by
  have nz : ∀ {a : Addr}, @LT.lt Nat _ S a → a ≠ z ∧ a ≠ TO ∧ a ≠ i1 ∧ a ≠ i2 ∧ a ≠ S := fun {a} ha => ⟨Nat.ne_of_gt (Nat.lt_trans z1 ha), Nat.ne_of_gt (Nat.lt_trans z3 ha), Nat.ne_of_gt (Nat.lt_trans z4 ha), Nat.ne_of_gt (Nat.lt_trans z5 ha), Nat.ne_of_gt ha⟩
  have sz : S ≠ z := Nat.ne_of_gt z1
  have sTO : S ≠ TO := Nat.ne_of_gt z3
  have s1 : S ≠ i1 := Nat.ne_of_gt z4
  have s2 : S ≠ i2 := Nat.ne_of_gt z5
  intro k
  induction k with
  | zero =>
    intro i h tk c acc as hk hi hst hkeep hS hacc hal hG
    have hin : i = xs.length := nsub0 (by assumption) (by assumption)
    subst hin
    refine codeAny_builtin PySem.F.entry_extend_loop ?_
    rw [Around.under_plainId PySem.F.plain_extend_loop _]
    show wpAny _ A.in1 (pyNext (.ref z) >>= _) _ _ _
    have hx : xs.toArray[xs.length]? = none := by simp
    have fin : ∀ h', (∀ c o, c ≠ z → c ≠ TO → c ≠ i1 → c ≠ i2 → h.get? c = some o → h'.get? c = some o) → R (.ok (.ret res)) { s with heap := h', toks := tk } := fun h' hk' =>
      hR h' tk acc c as (fun b o b1 b2 b3 b4 b5 e => hk' b o b2 b3 b4 b5 (hkeep b o b1 b2 b3 b4 b5 e)) (hk' S _ sz sTO s1 s2 hS) hal ⟨hG.above, fun j a hj => by
        obtain ⟨x, y, e1, e2, e3⟩ := hG.pairs j a hj
        obtain ⟨n1, n2, n3, n4, _⟩ := nz (hG.above a (List.mem_of_getElem? hj))
        exact ⟨x, y, e1, e2, hk' a _ n1 n2 n3 n4 e3⟩⟩ hacc
    rcases hst.zz with ⟨_, hz, a, b, hTO⟩ | ⟨a, f, oa, hz, ha, haS⟩
    · exact wpAny_bind (wpAny_pyNext_zip_end (s := { s with heap := h, toks := tk }) (A := A.in1) hh D hz hst.TI' hTO hst.it1 hst.it2 hst.li1 hst.li2 (.inl hx) fun h' hk' => wpAny_pure (fin h' hk'))
    · exact wpAny_bind (zip_out_end (s := { s with heap := h, toks := tk }) (A := A.in1) hh D hz ha hst.TI' hst.it1 hst.li1 hx fun h' hk' => wpAny_pure (fin h' fun c o c1 _ c3 _ e => hk' c o c1 c3 e))
  | succ k ih =>
    intro i h tk c acc as hk hi hst hkeep hS hacc hal hG
    have hlt : i < xs.length := nsubL (by assumption)
    have hx : xs.toArray[i]? = some xs[i] := by simp [hlt]
    have hy : ys.toArray[i]? = some (ys[i]'(by omega)) := by simp [show i < ys.length by omega]
    have hsz : acc.size = i := by rw [← Array.length_toList, hacc, List.length_map, hal]
    refine codeAny_builtin PySem.F.entry_extend_loop ?_
    rw [Around.under_plainId PySem.F.plain_extend_loop _]
    show wpAny _ A.in1 (pyNext (.ref z) >>= _) _ _ _
    have hSl : S < h.objs.size := Heap.lt_size hS
    have fin : ∀ h', (∃ f, ZipO h' z TI TO h.objs.size f) ∨ (∃ a f, ZipO h' z TI TO a f ∧ (∃ oa, h'.get? a = some oa) ∧ @LT.lt Nat _ S a) → h'.IsListIter i1 l1 (i + 1) → h'.IsListIter i2 l2 (i + 1) → IsPair h' h.objs.size xs[i] (ys[i]'(by omega)) → h'.objs.size = h.objs.size + 1 →
        (∀ c o, c ≠ z → c ≠ TO → c ≠ i1 → c ≠ i2 → h.get? c = some o → h'.get? c = some o) →
        wpAny (model prog w) A.in1 (updateSeq S (·.push (Value.ref h.objs.size)) >>= fun _ => again (.builtin "list.extend.loop" ⟨[.ref S, .ref z, res], []⟩))
          (fun fin s' => match fin with | .done f => R (.ok f) s' | .again c' => c'.quiet = true ∧ codeAny (model prog w) A c' R s') (fun e s' => R (.error e) s') { s with heap := h', toks := tk } := by
      intro h' hzz h1' h2' hp hsz' hk'
      have hS' := hk' S _ sz sTO s1 s2 hS
      have up : ∀ b o, b ≠ S → h'.get? b = some o → (h'.update S (Obj.mapSeq (·.push (Value.ref h.objs.size)))).get? b = some o := fun b o hb e => (Heap.get?_update_other _ _ (Ne.symm hb)).trans e
      refine wpAny_bind ?_
      refine wpAny_updateSeq hS' rfl (wpAny_pure ⟨plainId_quiet PySem.F.plain_extend_loop _, ih (i + 1) _ tk _ (acc.push (Value.ref h.objs.size)) (as ++ [h.objs.size]) (nsub1 (by assumption)) hlt ⟨?_, ?_, ?_, ?_, ?_, ?_⟩
        (fun b o b1 b2 b3 b4 b5 e => up b o b1 (hk' b o b2 b3 b4 b5 (hkeep b o b1 b2 b3 b4 b5 e))) (Heap.get?_update_self _ hS' rfl) (by rw [Array.toList_push, hacc, List.map_append]; rfl) (by rw [List.length_append, hal]; rfl) ⟨?_, ?_⟩⟩)
        (by rw [hsz, PySem.sizeLine_eq]; omega) (by show (acc.push (Value.ref h.objs.size)).size ≤ sizeLine + 1; rw [Array.size_push, hsz, PySem.sizeLine_eq]; omega)
      · exact up _ _ (Nat.ne_of_lt z2) (hk' TI _ D.TIz D.TITO D.TIi1 D.TIi2 hst.TI')
      · exact h1'.at fun o e => up _ o s1.symm e
      · exact h2'.at fun o e => up _ o s2.symm e
      · exact hst.li1.at fun o e => up _ o (Nat.ne_of_lt z6) (hk' _ o D.l1z D.l1TO D.l1i1 D.l1i2 e)
      · exact hst.li2.at fun o e => up _ o (Nat.ne_of_lt z7) (hk' _ o D.l2z D.l2TO D.l2i1 D.l2i2 e)
      · right
        rcases hzz with ⟨f, hz⟩ | ⟨a, f, hz, ⟨oa, ha⟩, haS⟩
        · exact ⟨h.objs.size, f, _, up _ _ sz.symm hz, up _ _ (Nat.ne_of_gt hSl) hp, hSl⟩
        · exact ⟨a, f, oa, up _ _ sz.symm hz, up _ _ (Nat.ne_of_gt haS) ha, haS⟩
      · intro a ha
        rcases List.mem_append.mp ha with ha | ha
        · exact hG.above a ha
        · rw [List.mem_singleton.mp ha]; exact hSl
      · intro j b hj
        rcases Nat.lt_trichotomy j as.length with h1 | h1 | h1
        · rw [List.getElem?_append_left h1] at hj
          obtain ⟨x, y, e1, e2, e3⟩ := hG.pairs j b hj
          obtain ⟨n1, n2, n3, n4, n5⟩ := nz (hG.above b (List.mem_of_getElem? hj))
          exact ⟨x, y, e1, e2, up b _ n5 (hk' b _ n1 n2 n3 n4 e3)⟩
        · subst h1
          have hb : h.objs.size = b := by simpa using hj
          subst hb
          exact ⟨xs[i], ys[i]'(by omega), by rw [hal]; exact List.getElem?_eq_getElem hlt, by rw [hal]; exact List.getElem?_eq_getElem _, up _ _ (Nat.ne_of_gt hSl) hp⟩
        · have hnone : (as ++ [h.objs.size])[j]? = none := List.getElem?_eq_none (by rw [List.length_append, List.length_singleton]; omega)
          rw [hnone] at hj; cases hj
    rcases hst.zz with ⟨_, hz, a, b, hTO⟩ | ⟨a, f, oa, hz, ha, haS⟩
    · exact wpAny_bind (wpAny_pyNext_zip_item (s := { s with heap := h, toks := tk }) (A := A.in1) D hz hst.TI' hTO hst.it1 hst.it2 hst.li1 hst.li2 hx hy fun h' a1 a2 a3 a4 a5 a6 a7 => fin h' (.inl ⟨false, a1⟩) a3 a4 a5 a6 a7)
    · obtain ⟨n1, n2, n3, n4, n5⟩ := nz haS
      exact wpAny_bind (zip_out_item (s := { s with heap := h, toks := tk }) (A := A.in1) D hz ha n1 hst.TI' hst.it1 hst.it2 hst.li1 hst.li2 hx hy fun h' a1 a3 a4 a5 a6 a7 => fin h' (.inr ⟨a, true, a1, ⟨oa, a7 a oa n1 n3 n4 ha⟩, haS⟩) a3 a4 a5 a6 fun c o c1 _ c3 c4 e => a7 c o c1 c3 c4 e)
end
section
variable {prog : Program} {w : World} {A : Around} {E : Value → Shared → Prop} {R : Result → Shared → Prop} {s : Shared} {z TI TO i1 i2 l1 l2 : Addr} {xs ys : List Value}
theorem ZpSt.keep {h h' : Heap} {S : Addr} {i : Nat} (st : ZpSt h z TI TO i1 i2 l1 l2 S xs ys i) (hk : ∀ b o, b ≠ S → h.get? b = some o → h'.get? b = some o)
    (z1 : @LT.lt Nat _ z S) (z2 : @LT.lt Nat _ TI S) (z3 : @LT.lt Nat _ TO S) (z4 : @LT.lt Nat _ i1 S) (z5 : @LT.lt Nat _ i2 S) (z6 : @LT.lt Nat _ l1 S) (z7 : @LT.lt Nat _ l2 S) : ZpSt h' z TI TO i1 i2 l1 l2 S xs ys i where
  TI' := hk _ _ (Nat.ne_of_lt z2) st.TI'
  it1 := st.it1.at fun o e => hk _ o (Nat.ne_of_lt z4) e
  it2 := st.it2.at fun o e => hk _ o (Nat.ne_of_lt z5) e
  li1 := st.li1.at fun o e => hk _ o (Nat.ne_of_lt z6) e
  li2 := st.li2.at fun o e => hk _ o (Nat.ne_of_lt z7) e
  zz := by
    rcases st.zz with ⟨e, hz, a, b, hTO⟩ | ⟨a, f, oa, hz, ha, haS⟩
    · exact .inl ⟨e, hk _ _ (Nat.ne_of_lt z1) hz, a, b, hk _ _ (Nat.ne_of_lt z3) hTO⟩
    · exact .inr ⟨a, f, oa, hk _ _ (Nat.ne_of_lt z1) hz, hk _ _ (Nat.ne_of_gt haS) ha, haS⟩
theorem zp_type {h : Heap} {S : Addr} {i : Nat} (st : ZpSt h z TI TO i1 i2 l1 l2 S xs ys i) : ∃ o, h.get? z = some o ∧ o.cls = .type "zip" := by
  rcases st.zz with ⟨_, hz, _⟩ | ⟨a, f, oa, hz, _⟩
  · exact ⟨_, hz, rfl⟩
  · exact ⟨_, hz, rfl⟩
theorem zp_iter {S : Addr} {i : Nat} {Q : Value → Shared → Prop} (st : ZpSt s.heap z TI TO i1 i2 l1 l2 S xs ys i) (h : Q (.ref z) s) : wpAny (model prog w) A (pyIter (.ref z)) Q E s := by
  rcases st.zz with ⟨_, hz, _⟩ | ⟨a, f, oa, hz, _⟩
  · exact wpAny_pyIter_zip hz h
  · have hT : s.TypeIs (.ref z) "zip" := ⟨_, hz, rfl⟩
    refine wpAny_pyIter_slot hT F.slot_zip_iter (wpAny_call_entry F.slot_zip_iter hT F.entry_zip_iter ?_ (F.args_zip_iter_1 _))
    show wpAny _ _ (ret (.ref z)) _ _ s
    exact wpAny_pure ⟨_, rfl, "zip", _, hT, F.slot_zip_next.lookup, h⟩
theorem zp_extend {S : Addr} (hh : A.handled = none) (D : ZipApart z TI TO i1 i2 l1 l2) (hlen : xs.length = ys.length) (hn : xs.length ≤ 1000)
    (z1 : @LT.lt Nat _ z S) (z2 : @LT.lt Nat _ TI S) (z3 : @LT.lt Nat _ TO S) (z4 : @LT.lt Nat _ i1 S) (z5 : @LT.lt Nat _ i2 S) (z6 : @LT.lt Nat _ l1 S) (z7 : @LT.lt Nat _ l2 S) (res : Value) (c₀ : Nat)
    (st : ZpSt s.heap z TI TO i1 i2 l1 l2 S xs ys 0) (hS : s.heap.get? S = some { cls := .type "list", data := .seq #[] c₀ })
    (hR : ∀ h' tk acc c as, (∀ b o, b ≠ S → b ≠ z → b ≠ TO → b ≠ i1 → b ≠ i2 → s.heap.get? b = some o → h'.get? b = some o) → h'.get? S = some { cls := .type "list", dict := none, data := .seq acc c, slots := #[] } → as.length = xs.length → ZpG xs ys S h' as →
      acc.toList = as.map Value.ref → R (.ok (.ret res)) { s with heap := h', toks := tk }) :
    wpAny (model prog w) A.in1 (Builtin.List.listExtendWith (.ref S) (.ref z) res)
      (fun fin s' => match fin with | .done f => R (.ok f) s' | .again c' => c'.quiet = true ∧ codeAny (model prog w) A c' R s') (fun e s' => R (.error e) s') s := by
  have hT : s.TypeIs (.ref z) "zip" := zp_type st
  have hSz : S ≠ z := Nat.ne_of_gt z1
  unfold Builtin.List.listExtendWith
  refine wpAny_bind (wpAny_typeOf (T := "zip") hT ?_)
  have h1 : Builtin.List.listSameRef (.ref S) (.ref z) = false := by simp [Builtin.List.listSameRef, hSz]
  have h2 : (Value.type "zip" == Value.type "list") = false := by decide
  have h3 : (Value.type "zip" == Value.type "tuple") = false := by decide
  simp only [h1, h2, h3, Bool.or_false, Bool.false_eq_true, if_false]
  refine wpAny_bind (zp_iter st ?_)
  refine wpAny_bind (wpAny_holding ?_)
  unfold Builtin.List.listLengthHint
  refine wpAny_bind (wpAny_specialOf hT zip_no_len ?_)
  show wpAny _ _ (specialOf (Value.ref z) (Str.ofString "__length_hint__") >>= _) _ _ _
  refine wpAny_bind (wpAny_specialOf hT zip_no_hint ?_)
  refine wpAny_pure ?_
  show wpAny _ A.in1 (rule "list.extend.makes-room" >>= fun _ => Builtin.List.listTouch (.ref S) >>= fun _ => again (.builtin "list.extend.loop" ⟨[.ref S, .ref z, res], []⟩)) _ _ _
  refine wpAny_bind (wpAny_rule ?_)
  refine wpAny_bind ?_
  show wpAny _ A.in1 (updateSeq S (·.push .none) >>= fun _ => updateSeq S (·.pop)) _ _ _
  refine wpAny_bind (wpAny_updateSeq hS rfl ?_)
  have hS₂ := Heap.get?_update_self (Obj.mapSeq (·.push Value.none)) hS rfl
  refine wpAny_updateSeq hS₂ rfl ?_
  have hS₃ := Heap.get?_update_self (Obj.mapSeq (·.pop)) hS₂ rfl
  have oth : ∀ b o, b ≠ S → s.heap.get? b = some o → ((s.heap.update S (Obj.mapSeq (·.push Value.none))).update S (Obj.mapSeq (·.pop))).get? b = some o :=
    fun b o hb e => (Heap.get?_update_other _ _ (Ne.symm hb)).trans ((Heap.get?_update_other _ _ (Ne.symm hb)).trans e)
  refine wpAny_pure ⟨plainId_quiet PySem.F.plain_extend_loop _, zp_loop (s := s) (h₁ := s.heap) hh D hlen hn z1 z2 z3 z4 z5 z6 z7 res (fun h' tk acc c as hk hS' hl hG hacc => hR h' tk acc c as hk hS' hl hG hacc)
    xs.length 0 _ _ _ #[] [] (Nat.sub_zero _) (Nat.zero_le _) (st.keep oth z1 z2 z3 z4 z5 z6 z7) (fun b o b1 _ _ _ _ e => oth b o b1 e) hS₃ rfl rfl ⟨(fun _ ha => nomatch ha), (fun j a hj => by simp at hj)⟩⟩
theorem zp_call {Q : Value → Shared → Prop} (hh : A.handled = none) (D : ZipApart z TI TO i1 i2 l1 l2) (hlen : xs.length = ys.length) (hn : xs.length ≤ 1000)
    (st : ∀ S : Addr, s.heap.objs.size = S → ZpSt s.heap z TI TO i1 i2 l1 l2 S xs ys 0)
    (z1 : z < s.heap.objs.size) (z2 : TI < s.heap.objs.size) (z3 : TO < s.heap.objs.size) (z4 : i1 < s.heap.objs.size) (z5 : i2 < s.heap.objs.size) (z6 : l1 < s.heap.objs.size) (z7 : l2 < s.heap.objs.size)
    (hQ : ∀ h' tk acc c as, (∀ b o, b ≠ z → b ≠ TO → b ≠ i1 → b ≠ i2 → s.heap.get? b = some o → h'.get? b = some o) → h'.get? s.heap.objs.size = some { cls := .type "list", dict := none, data := .seq acc c, slots := #[] } → as.length = xs.length → ZpG xs ys s.heap.objs.size h' as →
      acc.toList = as.map Value.ref → Q (.ref s.heap.objs.size) { s with heap := h', toks := tk }) :
    wpAny (model prog w) A (call (.type "list") [.ref z]) Q E s := by
  refine callType_codes (Q₁ := fun obj s₁ => obj = .ref s.heap.objs.size ∧ s₁ = { s with heap := s.heap.push { cls := .type "list", data := .seq #[] } }) PySem.F.called_list (PySem.F.typeCall_list_1 _) PySem.F.entry_list_init
    (code_list_new _ ⟨rfl, rfl⟩) fun obj s₁ h₁ => ?_
  obtain ⟨rfl, rfl⟩ := h₁
  have hS : (s.heap.push { cls := .type "list", data := .seq #[] }).get? s.heap.objs.size = some { cls := .type "list", data := .seq #[] } := Heap.get?_push_size _ rfl
  refine ⟨⟨_, hS, rfl⟩, PySem.F.args_list_init_2 _ _, ?_⟩
  show wpAny _ _ (do let old ← Builtin.List.listItems (.ref s.heap.objs.size); Builtin.List.listUpdate (.ref s.heap.objs.size) (fun _ => #[]); letGo old.toList.reverse; Builtin.List.listExtendWith (.ref s.heap.objs.size) (.ref z) .none) _ _ _
  refine wpAny_bind ?_
  unfold Builtin.List.listItems
  refine wpAny_bind (wpAny_seqItems hS rfl (wpAny_pure ?_))
  show wpAny _ _ (updateSeq s.heap.objs.size (fun _ => #[]) >>= fun _ => letGo (#[] : Array Value).toList.reverse >>= fun _ => Builtin.List.listExtendWith (.ref s.heap.objs.size) (.ref z) .none) _ _ _
  refine wpAny_bind (wpAny_updateSeq hS rfl ?_)
  have hS₂ := Heap.get?_update_self (Obj.mapSeq (fun _ => (#[] : Array Value))) hS rfl
  have oth : ∀ b o, b ≠ s.heap.objs.size → s.heap.get? b = some o → ((s.heap.push { cls := .type "list", data := .seq #[] }).update s.heap.objs.size (Obj.mapSeq (fun _ => (#[] : Array Value)))).get? b = some o :=
    fun b o hb e => (Heap.get?_update_other _ _ (Ne.symm hb)).trans (Heap.get?_push_of_some _ e)
  refine wpAny_bind (wpAny_letGo ?_)
  refine zp_extend (A := A.in1) (S := s.heap.objs.size) hh D hlen hn z1 z2 z3 z4 z5 z6 z7 .none _ ((st _ rfl).keep oth z1 z2 z3 z4 z5 z6 z7) hS₂ fun h' tk acc c as hk hS' hl hG hacc => ?_
  exact ⟨rfl, hQ h' tk acc c as (fun b o b2 b3 b4 b5 e => hk b o (Nat.ne_of_lt (Heap.lt_size e)) b2 b3 b4 b5 (oth b o (Nat.ne_of_lt (Heap.lt_size e)) e)) hS' hl hG hacc⟩
end
/-- a tuple of two for each pair -/
inductive Pairs : List Value → List Value → List Addr → Led → Prop
  | nil : Pairs [] [] [] []
  | cons {x y : Value} {xs ys : List Value} {a : Addr} {as : List Addr} {l : Led} : Pairs xs ys as l → Pairs (x :: xs) (y :: ys) (a :: as) ((a, { cls := .type "tuple", data := .seq #[x, y] }) :: l)
theorem pairs_of {h : Heap} : ∀ (xs ys : List Value) (as : List Addr), xs.length = ys.length → as.length = xs.length → (∀ (j : Nat) (a : Addr), as[j]? = some a → ∃ x y, xs[j]? = some x ∧ ys[j]? = some y ∧ IsPair h a x y) →
    ∃ l, Pairs xs ys as l ∧ (∀ p ∈ l, h.get? p.1 = some p.2 ∧ p.1 ∈ as)
  | [], [], [], _, _, _ => ⟨[], .nil, fun _ h => nomatch h⟩
  | x :: xs, y :: ys, a :: as, h1, h2, hp => by
    obtain ⟨l, hl, hm⟩ := pairs_of xs ys as (by simpa using h1) (by simpa using h2) fun j b hj => hp (j + 1) b (by simpa using hj)
    obtain ⟨x', y', e1, e2, e3⟩ := hp 0 a rfl
    have e1' : x = x' := by simpa using e1
    have e2' : y = y' := by simpa using e2
    subst e1' e2'
    refine ⟨_, .cons hl, fun p hq => ?_⟩
    rcases List.mem_cons.mp hq with rfl | hq
    · exact ⟨e3, .head _⟩
    · exact ⟨(hm p hq).1, .tail _ (hm p hq).2⟩
  | [], _ :: _, _, h, _, _ => by simp at h
  | _ :: _, [], _, h, _, _ => by simp at h
  | [], [], _ :: _, _, h, _ => by simp at h
  | _ :: _, _ :: _, [], _, h, _ => by simp at h
/-- all of a ledger lies above -/
noncomputable def TailLo (b : Addr) (tl : Led) : Prop := ∀ p ∈ tl, @LT.lt Nat _ b p.1
section
variable {prog : Program} {w : World} {A : Around} {E : Value → Shared → Prop} {s : Shared} {g : Heap} {L l1 l2 : Addr} {m : Str → Option Value} {news : Led} {xs ys : List Value} {n1 n2 : Nat} {Q : Value → Shared → Prop}
/-- list(zip(a, b)) -/
theorem zip_list (hh : A.handled = none) (F : Fr g L s.heap m) (N : News g L s.heap news) (m1 : (l1, PySem.W.listOf xs.toArray n1) ∈ news) (m2 : (l2, PySem.W.listOf ys.toArray n2) ∈ news) (hlen : xs.length = ys.length) (hn : xs.length ≤ 1000)
    (h : ∀ D as c tl h' tk, Pairs xs ys as tl → TailLo D tl → (∀ p ∈ news, @LT.lt Nat _ p.1 D) → Fr g L h' m → News g L h' ((D, PySem.W.listOf (as.map Value.ref).toArray c) :: (news ++ tl)) → Q (.ref D) { s with heap := h', toks := tk }) :
    wpAny (model prog w) A (call (.type "zip") [.ref l1, .ref l2]) (fun zv s₁ => wpAny (model prog w) A (call (.type "list") [zv]) Q E s₁) E s := by
  have hl1 : s.heap.IsList l1 xs.toArray := PySem.IsL.isList (n := n1) (N _ m1).1
  have hl2 : s.heap.IsList l2 ys.toArray := PySem.IsL.isList (n := n2) (N _ m2).1
  have hlt1 : l1 < s.heap.objs.size := Heap.lt_size (N _ m1).1
  have hlt2 : l2 < s.heap.objs.size := Heap.lt_size (N _ m2).1
  have hLs : L < s.heap.objs.size := F.ns.lt
  have D := ktu_apart s.heap.objs.size l1 l2 hlt1 hlt2
  refine call_zip_2 hl1 hl2 fun h₁ hz hTI hTO hi1 hi2 hsz hk => ?_
  refine zp_call (xs := xs) (ys := ys) hh D hlen hn (fun S e => ⟨hTI, hi1, hi2, hl1.at fun o e => hk _ o e, hl2.at fun o e => hk _ o e, .inl ⟨rfl, hz, _, _, hTO⟩⟩) ?_ ?_ ?_ ?_ ?_ ?_ ?_ fun h' tk acc c as hk' hS hl hG hacc => ?_
  · show s.heap.objs.size + 4 < h₁.objs.size; rw [hsz]; exact Nat.lt_succ_self _
  · show s.heap.objs.size + 2 < h₁.objs.size; rw [hsz]; exact Nat.add_lt_add_left (by decide) _
  · show s.heap.objs.size + 3 < h₁.objs.size; rw [hsz]; exact Nat.add_lt_add_left (by decide) _
  · show s.heap.objs.size < h₁.objs.size; rw [hsz]; exact Nat.lt_add_of_pos_right (by decide)
  · show s.heap.objs.size + 1 < h₁.objs.size; rw [hsz]; exact Nat.add_lt_add_left (by decide) _
  · show l1 < h₁.objs.size; rw [hsz]; exact Nat.lt_of_lt_of_le hlt1 (Nat.le_add_right _ _)
  · show l2 < h₁.objs.size; rw [hsz]; exact Nat.lt_of_lt_of_le hlt2 (Nat.le_add_right _ _)
  have hsz' : h₁.objs.size = s.heap.objs.size + 5 := hsz
  replace hS : h'.get? h₁.objs.size = _ := hS
  replace hG : ZpG xs ys h₁.objs.size h' as := hG
  obtain ⟨tl, hp, ht⟩ := pairs_of (h := h') xs ys as hlen hl hG.pairs
  have keep : ∀ b o, s.heap.get? b = some o → h'.get? b = some o := fun b o e => by
    have hb : @LT.lt Nat _ b s.heap.objs.size := Heap.lt_size e
    exact hk' b o (ktu_ne 4 hb) (ktu_ne 3 hb) (Nat.ne_of_lt hb) (ktu_ne 1 hb) (hk b o e)
  have lo : TailLo h₁.objs.size tl := fun p hp => hG.above _ (ht p hp).2
  have big : ∀ b : Nat, @LE.le Nat _ s.heap.objs.size b → b ≠ L ∧ g.get? b = none := fun b hb => ⟨Nat.ne_of_gt (Nat.lt_of_lt_of_le hLs hb), ktu_new F hb⟩
  have hge : @LE.le Nat _ s.heap.objs.size h₁.objs.size := by rw [hsz']; exact Nat.le_add_right _ _
  refine h h₁.objs.size as c tl h' tk hp lo (fun p hp => Nat.lt_of_lt_of_le (Heap.lt_size (N p hp).1) hge) (F.keeps keep) fun q hq => ?_
  rcases List.mem_cons.mp hq with rfl | hq
  · refine ⟨?_, big _ hge⟩
    rw [← hacc, Array.toArray_toList]; exact hS
  · rcases List.mem_append.mp hq with hq | hq
    · exact ⟨keep _ _ (N q hq).1, (N q hq).2⟩
    · exact ⟨(ht q hq).1, big _ (Nat.le_trans hge (Nat.le_of_lt (lo q hq)))⟩
end
/-- the record of a code -/
noncomputable def CodeRecd (o : Obj) (qual : Str) : Prop := ∃ vs t, o.data = .fields vs ∧ vs[1]? = some (.str qual t)
theorem CodeRecd.at {b : Heap} {c : Addr} {o : Obj} {qual : Str} (h : CodeRecd o qual) (e : b.get? c = some o) : b.CodeRec (.ref c) qual :=
  let ⟨vs, t, h1, h2⟩ := h
  ⟨c, o, vs, t, rfl, e, h1, h2⟩
noncomputable def AllNe (P : Addr) : List (Addr × Obj) → Prop
  | [] => True
  | q :: r => @Ne Nat q.1 P ∧ AllNe P r
theorem AllNe.all {P : Addr} {l : List (Addr × Obj)} (h : AllNe P l) : ∀ q ∈ l, q.1 ≠ P := by
  induction l with
  | nil => exact fun _ hq => nomatch hq
  | cons a r ih =>
    intro q hq
    rcases List.mem_cons.mp hq with e | hq
    · rw [e]; exact h.1
    · exact ih h.2 q hq
section
variable {M : Model} {A : Around} {E : Value → Shared → Prop} {s : Shared} {h₀ : Heap} {L a c P : Addr} {m mg mb : Str → Option Value} {cn : Str} {sc : Scope} {ccd : Value} {cl : List (Str × Addr)}
  {p : Program} {loose : List Str} {mean : ExcName → Option Value} {name qual : Str} {params : Arguments} {body : PySem.Expr} {scope : Scope} {cs : Array Value} {pos : Pos} {firstLine : Nat} {clos : List (Str × Addr)}
/-- a lambda, its code made here or made before -/
theorem lam_any {pre post tl : Led} {Q : Value → Shared → Prop} (F : Fr h₀ L s.heap m) (N : News h₀ L s.heap (pre ++ (P, tabObj cs) :: (post ++ tl))) (T : Top p loose mean mg mb h₀) (C : CodeHd h₀ c P) (hcd : ccd = .ref c)
    (hpre : AllNe P pre) (hpost : AllNe P post) (htl : ∀ q ∈ tl, @Ne Nat q.1 P) (ht : TriplesOk cs.toList)
    (hcase : codeAmong pos cs.toList = none ∨ ∃ c' oc, codeAmong pos cs.toList = some (.ref c') ∧ (c', oc) ∈ tl ∧ CodeRecd oc qual)
    (hcl : closureFor scope (envX cn sc L a ccd cl) = pure clos)
    (h : ∀ f c' oc ctv h' tk cs' tl', CodeRecd oc qual → (c', oc) ∈ tl' → (∀ q ∈ tl, q ∈ tl') → (∀ q ∈ tl', q ∈ tl ∨ ∀ q' ∈ pre ++ (P, tabObj cs) :: (post ++ tl), @LT.lt Nat _ q'.1 q.1) → ((codeAmong pos cs.toList = none ∧ cs' = cs ++ #[rawInt pos.line, rawInt pos.col, .ref c']) ∨ (codeAmong pos cs.toList = some (.ref c') ∧ cs' = cs)) →
      Fr h₀ L h' m → News h₀ L h' ((f, kla_obj name qual params body scope clos ((mg "__name__").getD .none) c' ctv) :: (pre ++ (P, tabObj cs') :: (post ++ tl'))) → (∀ q ∈ pre ++ (P, tabObj cs') :: (post ++ tl'), q.1 < f) → Q (.ref f) { s with heap := h', toks := tk }) :
    wpAny M A (makeFunction name qual params (.expr body) scope (envX cn sc L a ccd cl) [] [] [] pos firstLine) Q E s := by
  rcases hcase with hnf | ⟨c', oc, hf, hm, hr⟩
  · have U : ∀ pre : Led, (∀ q ∈ pre, q.1 ≠ P) → UpdF P (tabObj cs) (pre ++ (P, tabObj cs) :: (post ++ tl)) (fun o' => pre ++ (P, o') :: (post ++ tl)) := by
      intro pre
      induction pre with
      | nil =>
        intro _
        refine UpdF.head fun q hq => ?_
        rcases List.mem_append.mp hq with hq | hq
        · exact hpost.all q hq
        · exact htl q hq
      | cons q pre ih => exact fun hp => UpdF.tail (hp q (.head _)) (ih fun q' hq' => hp q' (.tail _ hq'))
    refine kla_nest F N T C hcd (U pre hpre.all) ht hnf hcl fun f c' oc vs t ctv h' tk F' N' d1 d2 lt1 lt2 => ?_
    refine h f c' oc ctv h' tk _ ((c', oc) :: tl) ⟨vs, t, d1, d2⟩ (.head _) (fun q hq => .tail _ hq) (fun q hq => ?_) (.inl ⟨hnf, rfl⟩) F' (fun q hq => N' q ?_) (fun q hq => ?_)
    · rcases List.mem_cons.mp hq with rfl | hq
      · exact .inr lt1
      · exact .inl hq
    · simp only [List.mem_cons, List.mem_append] at hq ⊢
      rcases hq with hq | hq | hq | hq | hq | hq <;> simp [hq]
    · simp only [List.mem_cons, List.mem_append] at hq
      rcases hq with hq | hq | hq | hq | hq
      · exact Nat.lt_trans (lt1 q (by simp [hq])) lt2
      · rw [hq]
        have := lt1 (P, tabObj cs) (by simp)
        exact Nat.lt_trans this lt2
      · exact Nat.lt_trans (lt1 q (by simp [hq])) lt2
      · rw [hq]; exact lt2
      · exact Nat.lt_trans (lt1 q (by simp [hq])) lt2
  · refine kla_hit F N T C hcd (by simp) ht hf hcl fun f ctv h' tk F' N' lt => ?_
    exact h f c' oc ctv h' tk cs tl hr hm (fun q hq => hq) (fun q hq => .inl hq) (.inr ⟨hf, rfl⟩) F' N' lt
end
theorem up_pre {tail : List Value} : ∀ (r pre : List Value) (y : Value), ∃ z, up r.length (pre ++ r ++ y :: tail) (pre.length + r.length) = pre ++ z :: (r ++ tail) := by
  intro r
  induction h : r.length generalizing r tail with
  | zero =>
    intro pre y
    obtain rfl : r = [] := List.length_eq_zero_iff.mp h
    exact ⟨y, by simp [up]⟩
  | succ n ih =>
    intro pre y
    obtain ⟨r', u, rfl⟩ : ∃ r' u, r = r' ++ [u] := ⟨r.dropLast, r.getLast (by intro e; rw [e] at h; cases h), (List.dropLast_concat_getLast _).symm⟩
    have hn : r'.length = n := by simpa using h
    obtain ⟨z, hz⟩ := ih (tail := u :: tail) r' hn pre u
    refine ⟨z, ?_⟩
    show up n ((pre ++ (r' ++ [u]) ++ y :: tail).set (pre.length + (n + 1)) ((pre ++ (r' ++ [u]) ++ y :: tail).getD (pre.length + (n + 1) - 1) .none)) (pre.length + (n + 1) - 1) = _
    have e1 : (pre ++ (r' ++ [u]) ++ y :: tail).getD (pre.length + (n + 1) - 1) .none = u := by
      rw [List.getD_eq_getElem?_getD, List.append_assoc, List.getElem?_append_right (by omega), List.append_assoc, List.getElem?_append_right (by omega)]
      simp [hn, show pre.length + (n + 1) - 1 - pre.length - n = 0 by omega]
    have e2 : (pre ++ (r' ++ [u]) ++ y :: tail).set (pre.length + (n + 1)) u = pre ++ r' ++ u :: (u :: tail) := by
      rw [List.set_append_right _ _ (by simp; omega), show pre.length + (n + 1) - (pre ++ (r' ++ [u])).length = 0 by simp; omega]
      simp
    rw [e1, e2, show pre.length + (n + 1) - 1 = pre.length + n by omega, hz]
    simp
theorem insert_td {v : Value} : ∀ (us : List Value) (k : Nat), k ≤ us.length → us.insertIdx k v = us.take k ++ v :: us.drop k
  | us, 0, _ => by simp
  | [], k + 1, h => by simp at h
  | u :: us, k + 1, h => by
    have := insert_td (v := v) us k (by simpa using h)
    simpa using this
theorem up_insert {us : List Value} {k j : Nat} {v : Value} (h : k ≤ us.length) : (up (us.length - k) (us ++ List.replicate (j + 1) Value.none) us.length).set k v = us.insertIdx k v ++ List.replicate j Value.none := by
  have hp : (us.take k).length = k := by simp; omega
  have hr : (us.drop k).length = us.length - k := by simp
  obtain ⟨z, hz⟩ := up_pre (tail := List.replicate j Value.none) (us.drop k) (us.take k) Value.none
  have e : us.take k ++ us.drop k ++ Value.none :: List.replicate j Value.none = us ++ List.replicate (j + 1) Value.none := by
    rw [List.take_append_drop, List.replicate_succ]
  rw [e, hr, hp, show k + (us.length - k) = us.length by omega] at hz
  rw [hz, List.set_append_right _ _ (by omega), hp, Nat.sub_self, List.set_cons_zero]
  have e3 : us.insertIdx k v = us.take k ++ v :: us.drop k := by
    exact insert_td us k h
  rw [e3]
  simp
theorem ints_insert : ∀ {us : List Value} {l : List Int}, IntsAre us l → ∀ (k : Nat) (a : Int) (t : Tok), IntsAre (us.insertIdx k (.int a t)) (l.insertIdx k a)
  | _, _, h, 0, a, t => by simpa using IntsAre.cons a t h
  | _, _, .nil, k + 1, a, t => by simpa using IntsAre.nil
  | _, _, .cons b u r, k + 1, a, t => by simpa using IntsAre.cons b u (ints_insert r k a t)
section
variable {w : World} {A : Around} {s : Shared} {b₀ g : Heap} {E : Value → Shared → Prop} {Q : Value → Shared → Prop} {L : Addr} {m : Str → Option Value} {news : Led} {T : TabS}
theorem nr2 {n u : Nat} {k : Int} (h0 : 0 ≤ k) (h1 : k ≤ n) (hu : u = n) : ((n : Int) + 1 - (k + 1)).toNat = u - k.toNat ∧ (k + 1 - 1).toNat = k.toNat ∧ (n : Int).toNat = u ∧ k.toNat ≤ u := by
  subst hu
  obtain ⟨m, rfl⟩ := Int.eq_ofNat_of_zero_le h0
  exact ⟨by rw [Int.add_sub_add_right]; exact Int.toNat_sub u m, congrArg Int.toNat (Int.add_sub_cancel _ 1), rfl, Int.ofNat_le.mp h1⟩
theorem use_insert {lt q f1 f2 : Addr} {ts us : List Value} {ns : List Int} {j f3 f4 : Nat} {k : Int} {tb ta : Tok} {x0 v : Value} {rest : Led} (W : Wd w g) (hT : TabOk b₀ T) (F : Fr g L s.heap m) (N : News g L s.heap news)
    (mq : (q, methodObj (.ref 261) (.ref T.t)) ∈ news) (mt : (lt, PySem.W.listOf ts.toArray f3) ∈ news) (hsub : ∀ p ∈ tled w T (us ++ List.replicate (j + 1) Value.none) f4, p ∈ news)
    (a1 : q ∉ lt :: T.ch) (a4 : lt ∉ T.ch) (hi : IntsAre us ns) (hlen : ns.length + (j + 1) < 1000) (r : Room A 8) (h0 : 0 ≤ k) (h1 : k ≤ ns.length)
    (lam : ∀ b : Heap, Wd w b → TabOk b T → b.get? lt = none → g.StaysIn b → (∀ p ∈ news, p.1 ∉ lt :: T.ch → b.get? p.1 = some p.2) → FnAt f1 b ∧ FnAt f2 b ∧ PutOk w b T lt ts x0 f3 f4 (ns.length + (j + 1)) f1 ∧ TickOk w b T lt ts x0 f3 f4 f2)
    (hs : ∀ p ∈ rest, p ∈ news ∧ p.1 ∉ lt :: T.ch) (hf : fnIn (HK.heap_1 w.params) 261 = true)
    (K : ∀ v' h' tk', Fr g L h' m → News g L h' ((lt, PySem.W.listOf (ts ++ List.replicate (ns.length - k.toNat) x0).toArray (f3 + (ns.length - k.toNat))) :: tled w T (us.insertIdx k.toNat v ++ List.replicate j Value.none) f4 ++ rest) → Q v' { s with heap := h', toks := tk' }) :
    wpAny (model PySem.Challenge.rw_xm0627_01.row.prog w) A (call (.ref 29) [.ref q, .ref f1, .int ns.length tb, .int (k + 1) ta, v, .ref f2]) Q E s := by
  have hul := hi.length
  have hc : ∀ a ∈ lt :: T.ch, ∃ o, (a, o) ∈ news := fun a ha => by
    rcases List.mem_cons.mp ha with rfl | ha
    · exact ⟨_, mt⟩
    · obtain ⟨o, ho⟩ := tled_cov (w := w) (arr := us ++ List.replicate (j + 1) Value.none) (e := f4) a ha
      exact ⟨o, hsub _ ho⟩
  obtain ⟨g1, g2, g3, g4⟩ := ground_b F N hc
  have Wb := W.keeps g1
  have Tb : TabOk (hideAll s.heap (lt :: T.ch)) T := ⟨hT.h1, hT.h2, hT.h3, g3 _ (.tail _ (.head _)), g3 _ (.tail _ (.tail _ (.head _))), g3 _ (.tail _ (.tail _ (.tail _ (.head _)))), g3 _ (.tail _ (.tail _ (.tail _ (.tail _ (.head _)))))⟩
  obtain ⟨Y1, Y2, put, tick⟩ := lam _ Wb Tb (g3 _ (.head _)) g1 g4
  have C := cbs_of (q := q) Wb Tb a4 (g4 (q, methodObj (.ref 261) (.ref T.t)) mq a1) Y1 Y2 hlen put tick hf
  have H0 : Has s.heap (cled w T lt ts x0 f3 f4 (us ++ List.replicate (j + 1) Value.none) 0) := by
    intro p hp
    rcases List.mem_cons.mp hp with rfl | hp
    · simpa using (N _ mt).1
    · exact (N _ (hsub p hp)).1
  refine useC (ch := lt :: T.ch) (rest := rest) (insert_at_spec Wb g2 C g3 (us ++ List.replicate (j + 1) Value.none) 0 H0 (by simp; omega) r ns.length (k + 1) tb ta v (by omega) (by omega) (by omega) (by omega)) F N hs (fun a ha => ?_) fun v' h' tk' led hr F' N' hn => ?_
  · obtain ⟨o, ho⟩ := hc a ha
    exact (N _ ho).2
  · obtain ⟨rfl, _⟩ := hr
    obtain ⟨e1, e2, e3, b1⟩ := nr2 h0 h1 hul
    have e4 := up_insert (us := us) (k := k.toNat) (j := j) (v := v) b1
    rw [e1, e2, e3, e4, Nat.zero_add, hul] at N'
    exact K v' h' tk' F' N'
end
theorem tail_ne {B x : Addr} {tl : Led} (h : TailLo B tl) (hx : @LE.le Nat _ x B) : ∀ p ∈ tl, p.1 ≠ x := fun p hp => Nat.ne_of_gt (Nat.lt_of_le_of_lt hx (h p hp))
theorem leA {a b : Addr} (h : @LE.le Nat _ a b) : @LE.le Nat _ a b := h
/-- what is put in, in what order -/
inductive Turns (tl : Led) : List Value → List Int → List Int → Prop
  | nil : Turns tl [] [] []
  | cons {a : Addr} {k x : Int} {t u : Tok} {r : List Value} {ks xs : List Int} : (a, { cls := .type "tuple", data := .seq #[.int k t, .int x u] }) ∈ tl → Turns tl r ks xs → Turns tl (.ref a :: r) (k :: ks) (x :: xs)
theorem Turns.mono {tl tl' : Led} (hs : ∀ p ∈ tl, p ∈ tl') {r : List Value} {ks xs : List Int} (h : Turns tl r ks xs) : Turns tl' r ks xs := by
  induction h with
  | nil => exact .nil
  | cons hm _ ih => exact .cons (hs _ hm) ih
theorem Turns.append {tl : Led} {r r' : List Value} {ks ks' xs xs' : List Int} (h : Turns tl r ks xs) (h' : Turns tl r' ks' xs') : Turns tl (r ++ r') (ks ++ ks') (xs ++ xs') := by
  induction h with
  | nil => exact h'
  | cons hm _ ih => exact .cons hm ih
theorem turns_of {ps os : List Value} {as : List Addr} {tl : Led} (h : Pairs ps os as tl) : ∀ {is ons : List Int}, IntsAre ps is → IntsAre os ons → Turns tl (as.map Value.ref).reverse is.reverse ons.reverse := by
  induction h with
  | nil => intro is ons h1 h2; cases h1; cases h2; exact .nil
  | cons _ ih =>
    intro is ons h1 h2
    cases h1 with
    | cons k t h1 =>
    cases h2 with
    | cons x u h2 =>
    simp only [List.map_cons, List.reverse_cons]
    exact ((ih h1 h2).mono fun p hp => .tail _ hp).append (.cons (.head _) .nil)
/-- putting back: the row, the moves -/
noncomputable def putL : List Int → List Int → List Int → List Int
  | ls, k :: ks, x :: xs => putL (ls.insertIdx k.toNat x) ks xs
  | ls, _, _ => ls
noncomputable def putN : Nat → List Int → Nat
  | _, [] => 0
  | n, k :: ks => (n - k.toNat) + putN (n + 1) ks
noncomputable def okB : Nat → List Int → Prop
  | _, [] => True
  | b, k :: r => 0 ≤ k ∧ k ≤ b ∧ okB (b + 1) r
local macro_rules | `(tactic| walk_at "call ref") => `(tactic| specialize (Mine.use_len, 393))
local macro_rules | `(tactic| walk_at "call builtin:list.pop") => `(tactic| specialize Mine.pop_int)
local macro_rules | `(tactic| walk_at "apart5") => `(tactic| exact notin5 (by k_ne) (by k_ne) (by k_ne) (by k_ne) (by k_ne))
local macro_rules | `(tactic| walk_at "rests") => `(tactic| first | exact List.forall_mem_nil _ | (refine (fmc (⟨by k_mem, by walk_at "apart5"⟩) ?_); walk_at "rests"))
local macro_rules | `(tactic| walk_at "eval Name") => `(tactic| (k_here; k_dflt (refine name_fre (by assumption) (by rfl) (by assumption) (by assumption) ?_ (by rfl) (by rfl) (by decide) (by decide); k_whole)))
local macro_rules | `(tactic| walk_at "call ref") => `(tactic| specialize (Mine.use_set, 289))
local macro_rules | `(tactic| size_fits) => `(tactic| ((simp only [List.size_toArray, List.length_append, List.length_replicate, PySem.sizeLine_eq]); omega))
local macro_rules | `(tactic| walk_at "compareOp NotEq ref ref") => `(tactic| (k_here; k_dflt (refine ne_row (by is_list) (by is_list) (by assumption) (by assumption) (by ke_room) ?_)))
local macro_rules | `(tactic| walk_at "binaryOp Add ref ref") => `(tactic| (k_here; k_dflt (apply Mine.add_any); k_dflt (walk_at "std"); intro D' h' F' N' l1; k_lt l1; (try k_sweep)))
local macro_rules | `(tactic| walk_at "apart6") => `(tactic| exact notin6 (by k_ne) (by k_ne) (by k_ne) (by k_ne) (by k_ne) (by k_ne))
local macro_rules | `(tactic| k_lt $h:ident) => `(tactic| (skip; skip; replace $h := allLt_of $h; dsimp only [AllLt] at $h:ident))
local macro_rules | `(tactic| k_all) => `(tactic| first | exact Apart.get (by assumption) (by repeat (first | exact List.Mem.head _ | refine List.Mem.tail _ ?_)) | fail "no tail")
noncomputable abbrev GQ : Str := Str.ofString "_law_gone.<locals>.<lambda>"
/-- the table of the two codes -/
noncomputable def gCodesSt (cs : Array Value) (tl : Led) : Prop :=
  cs = #[] ∨ ∃ c1 o1 c2 o2, cs = #[rawInt 430, rawInt 37, .ref c1, rawInt 430, rawInt 105, .ref c2] ∧ (c1, o1) ∈ tl ∧ (c2, o2) ∈ tl ∧ CodeRecd o1 GQ ∧ CodeRecd o2 GQ
noncomputable def gCodesSt1 (cs : Array Value) (tl : Led) (c1 : Addr) : Prop :=
  cs = #[rawInt 430, rawInt 37, .ref c1] ∨ ∃ c2 o2, cs = #[rawInt 430, rawInt 37, .ref c1, rawInt 430, rawInt 105, .ref c2] ∧ (c2, o2) ∈ tl ∧ CodeRecd o2 GQ
theorem gcodes_one {cs cs1 : Array Value} {tl tl1 : Led} {c1 : Addr} {pos : Pos} (hl : pos.line = 430) (hc : pos.col = 37) (h : gCodesSt cs tl) (hs : ∀ q ∈ tl, q ∈ tl1)
    (h1 : (codeAmong pos cs.toList = none ∧ cs1 = cs ++ #[rawInt pos.line, rawInt pos.col, .ref c1]) ∨ (codeAmong pos cs.toList = some (.ref c1) ∧ cs1 = cs)) : gCodesSt1 cs1 tl1 c1 := by
  rw [hl, hc] at h1
  rcases h with rfl | ⟨a1, o1, a2, o2, rfl, m1, m2, r1, r2⟩
  · rcases h1 with ⟨_, rfl⟩ | ⟨h, _⟩
    · exact .inl rfl
    · simp [codeAmong] at h
  · rcases h1 with ⟨h, _⟩ | ⟨h, rfl⟩
    · simp [codeAmong, rawInt, hl, hc] at h
    · simp [codeAmong, rawInt, hl, hc] at h
      subst h
      exact .inr ⟨a2, o2, rfl, hs _ m2, r2⟩
theorem gcodes_two {cs cs1 : Array Value} {tl tl1 : Led} {c1 c2 : Addr} {o1 o2 : Obj} {pos : Pos} (hl : pos.line = 430) (hc : pos.col = 105) (h : gCodesSt1 cs tl c1) (hs : ∀ q ∈ tl, q ∈ tl1) (m1 : (c1, o1) ∈ tl) (r1 : CodeRecd o1 GQ) (m2 : (c2, o2) ∈ tl1) (r2 : CodeRecd o2 GQ)
    (h1 : (codeAmong pos cs.toList = none ∧ cs1 = cs ++ #[rawInt pos.line, rawInt pos.col, .ref c2]) ∨ (codeAmong pos cs.toList = some (.ref c2) ∧ cs1 = cs)) : gCodesSt cs1 tl1 := by
  rw [hl, hc] at h1
  rcases h with rfl | ⟨a2, p2, rfl, _, _⟩
  · rcases h1 with ⟨_, rfl⟩ | ⟨h, _⟩
    · exact .inr ⟨c1, o1, c2, o2, rfl, hs _ m1, m2, r1, r2⟩
    · simp [codeAmong, rawInt, hl, hc] at h
  · rcases h1 with ⟨h, _⟩ | ⟨h, rfl⟩
    · simp [codeAmong, rawInt, hl, hc] at h
    · simp [codeAmong, rawInt, hl, hc] at h
      subst h
      exact .inr ⟨c1, o1, a2, o2, rfl, hs _ m1, m2, r1, r2⟩
theorem gcodes_tri {cs : Array Value} {tl : Led} (h : gCodesSt cs tl) : TriplesOk cs.toList := by
  rcases h with rfl | ⟨a1, o1, a2, o2, rfl, _⟩
  · exact True.intro
  · simp [TriplesOk, rawInt]
theorem gcodes_tri1 {cs : Array Value} {tl : Led} {c1 : Addr} (h : gCodesSt1 cs tl c1) : TriplesOk cs.toList := by
  rcases h with rfl | ⟨a2, o2, rfl, _⟩ <;> simp [TriplesOk, rawInt]
theorem gcodes_case {cs : Array Value} {tl : Led} {pos : Pos} (hl : pos.line = 430) (hc : pos.col = 37) (h : gCodesSt cs tl) : codeAmong pos cs.toList = none ∨ ∃ c' oc, codeAmong pos cs.toList = some (.ref c') ∧ (c', oc) ∈ tl ∧ CodeRecd oc GQ := by
  rcases h with rfl | ⟨a1, o1, a2, o2, rfl, m1, m2, r1, r2⟩
  · exact .inl rfl
  · exact .inr ⟨a1, o1, by simp [codeAmong, rawInt, hl, hc], m1, r1⟩
theorem gcodes_case1 {cs : Array Value} {tl : Led} {pos : Pos} {c1 : Addr} (hl : pos.line = 430) (hc : pos.col = 105) (h : gCodesSt1 cs tl c1) : codeAmong pos cs.toList = none ∨ ∃ c' oc, codeAmong pos cs.toList = some (.ref c') ∧ (c', oc) ∈ tl ∧ CodeRecd oc GQ := by
  rcases h with rfl | ⟨a2, o2, rfl, m2, r2⟩
  · exact .inl (by simp [codeAmong, rawInt, hl, hc])
  · exact .inr ⟨a2, o2, by simp [codeAmong, rawInt, hl, hc], m2, r2⟩
theorem of_allLtg {d : Addr} : ∀ {l : Led}, AllLt d l → ∀ p ∈ l, @LT.lt Nat _ p.1 d
  | [], _, _, h => nomatch h
  | q :: l, h, p, hp => by
    rcases List.mem_cons.mp hp with e | hp
    · rw [e]; exact h.1
    · exact of_allLtg h.2 p hp
noncomputable def AllNe3 (d : Nat) : Led → Prop
  | [] => True
  | p :: r => @Ne Nat p.1 d ∧ AllNe3 d r
theorem allNe3_of {d : Addr} : ∀ {l : Led}, (∀ p ∈ l, p.1 ≠ d) → AllNe3 d l
  | [], _ => trivial
  | p :: r, h => ⟨h p (.head _), allNe3_of fun x hx => h x (.tail _ hx)⟩
/-- a tail apart from some addresses -/
noncomputable def Apart (xs : List Addr) (tl : Led) : Prop := ∀ p ∈ tl, ∀ x ∈ xs, @Ne Nat p.1 x
theorem Apart.get {xs : List Addr} {tl : Led} (h : Apart xs tl) {x : Addr} (hx : x ∈ xs) : ∀ p ∈ tl, p.1 ≠ x := fun p hp => h p hp x hx
theorem Apart.grow {xs : List Addr} {tl tl' news : Led} (h : Apart xs tl) (hn : ∀ q ∈ tl', q ∈ tl ∨ ∀ q' ∈ news, @LT.lt Nat _ q'.1 q.1) (hx : ∀ x ∈ xs, ∃ o, (x, o) ∈ news) : Apart xs tl' := fun p hp x hxs =>
  (hn p hp).elim (fun q => h p q x hxs) fun q => let ⟨o, ho⟩ := hx x hxs; Nat.ne_of_gt (q (x, o) ho)
theorem Apart.sub {xs ys : List Addr} {tl : Led} (h : Apart xs tl) (hs : ∀ x ∈ ys, x ∈ xs) : Apart ys tl := fun p hp x hx => h p hp x (hs x hx)
theorem Apart.five {xs : List Addr} {tl : Led} (h : Apart xs tl) {p : Addr × Obj} (hp : p ∈ tl) {a b c d e : Addr} (hs : ∀ x ∈ [a, b, c, d, e], x ∈ xs) : @Ne Nat p.1 a ∧ @Ne Nat p.1 b ∧ @Ne Nat p.1 c ∧ @Ne Nat p.1 d ∧ @Ne Nat p.1 e :=
  ⟨h p hp a (hs a (by k_mem)), h p hp b (hs b (by k_mem)), h p hp c (hs c (by k_mem)), h p hp d (hs d (by k_mem)), h p hp e (hs e (by k_mem))⟩
theorem Apart.cons {x : Addr} {xs : List Addr} {tl : Led} (h : Apart xs tl) (hx : ∀ p ∈ tl, @Ne Nat p.1 x) : Apart (x :: xs) tl := fun p hp y hy => by
  rcases List.mem_cons.mp hy with rfl | hy
  · exact hx p hp
  · exact h p hp y hy
noncomputable abbrev gled (w : World) (T : TabS) (ll lo lt L lq : Addr) (ok ot : Obj) (ps : List Value) (e5 : Nat) (cs : Array Value) (ls us os ts : List Value) (j e1 e2 e3 e : Nat) (oa : Obj) (tl : Led) : Led :=
  (lt, PySem.W.listOf ts.toArray e3) :: (lo, PySem.W.listOf os.toArray e2) :: (ll, PySem.W.listOf ls.toArray e1) :: (L + 1 + 1 + 1, ok) :: (L + 1 + 1, oa) :: (L + 1, ot) :: (447, tabObj cs) :: (lq, PySem.W.listOf ps.toArray e5) ::
    (T.t, instObj 424 T.d) :: (T.d, dictOf (tabEs w T) 10) :: (T.la, PySem.W.listOf (us ++ List.replicate j Value.none).toArray e) :: (T.ln, PySem.W.listOf #[] T.en) :: tl
noncomputable abbrev gxs (T : TabS) (ll lo lt L lq : Addr) : List Addr := [lt, lo, ll, L + 1 + 1 + 1, L + 1 + 1, L + 1, 447, lq, T.t, T.d, T.la, T.ln]
inductive GSt (w : World) (T : TabS) (ll lo lt L lq : Addr) (ok ot : Obj) (ps : List Value) (e5 : Nat) (ls0 is : List Int) (j0 : Nat) (tl0 : Led)
    (I : Addr) (r : List Value) (m : Str → Option Value) (news : Led) : Prop
  | mk (cs : Array Value) (tl : Led) (ris lns : List Int) (ls us os ts : List Value) (ons : List Int) (j e1 e2 e3 e : Nat) (oa : Obj) (ov : Option Value)
    (s1 : IntsAre r ris) (sc : gCodesSt cs tl) (sa : Apart (I :: gxs T ll lo lt L lq) tl) (st0 : ∀ p ∈ tl0, p ∈ tl) (s2 : okP lns.length ris) (s3 : IntsAre ls lns) (s4 : IntsAre us lns) (s5 : IntsAre os ons) (s6 : oa.data = .cell ov)
    (s7 : goneL lns ris = goneL ls0 is) (s8 : ons ++ goneO lns ris = goneO ls0 is) (s9 : ts.length + goneN lns ris = goneN ls0 is) (s10 : lns.length + j = ls0.length + j0)
    (hlt : AllLt I (gled w T ll lo lt L lq ok ot ps e5 cs ls us os ts j e1 e2 e3 e oa []))
    (hn : news = gled w T ll lo lt L lq ok ot ps e5 cs ls us os ts j e1 e2 e3 e oa tl)
    (hl : m (Str.ofString "left") = some (.ref ll)) (ho : m (Str.ofString "order") = some (.ref lo)) : GSt w T ll lo lt L lq ok ot ps e5 ls0 is j0 tl0 I r m news
section
variable {w : World} {A : Around} {s : Shared} {b₀ : Heap} {E : Value → Shared → Prop} (W : Wd w b₀) (hb : b₀.StaysIn s.heap)
include W hb
theorem gone_spec (T : TabS) (vs : List Value) (ns : List Int) (hi : IntsAre vs ns) (us : List Value) (hus : IntsAre us ns) (j e : Nat) (hT : TabOk b₀ T) (hC : CodeHd b₀ 451 447) (hP : b₀.get? 447 = none) (lp lq : Addr) (hq1 : @LT.lt Nat _ 447 lq) (hq2 : @LT.lt Nat _ lq T.d) (e1 e2 : Nat) (ps : List Value) (is : List Int) (hps : IntsAre ps is) (hok : okP ns.length is) (hlp : b₀.get? lp = some (PySem.W.listOf vs.toArray e1)) (hlq : b₀.get? lq = none)
    (cs0 : Array Value) (tl0 : Led) (hcs : gCodesSt cs0 tl0) (hA : Apart [447, lq, T.t, T.d, T.la, T.ln] tl0) (htb : ∀ p ∈ tl0, b₀.get? p.1 = none) (hlen : ns.length + j < 1000) (hl2 : is.length < 1000) (hnn : goneN ns is < 100000)
    (H : Has s.heap ((447, tabObj cs0) :: (lq, PySem.W.listOf ps.toArray e2) :: (tled w T (us ++ List.replicate j Value.none) e ++ tl0))) (r : Room A 20) :
    wpAny (model PySem.Challenge.rw_xm0627_01.row.prog w) A (call (.ref 452) [.ref T.t, .ref lp, .ref lq])
      (Out (447 :: lq :: (T.ch ++ tl0.map (·.1))) s (fun x l => ∃ (q lo : Addr) (os us' : List Value) (j' e6 e7 : Nat) (tk : Tok) (cs : Array Value) (tl : Led), x = .ref q ∧ l = (q, { cls := .type "tuple", data := .seq #[.ref lo, .int (goneN ns is) tk] }) :: (lo, PySem.W.listOf os.toArray e6) :: (447, tabObj cs) :: (lq, PySem.W.listOf ps.toArray e2) :: (tled w T (us' ++ List.replicate j' Value.none) e7 ++ tl) ∧
        gCodesSt cs tl ∧ (∀ p ∈ tl0, p ∈ tl) ∧ IntsAre os (goneO ns is) ∧ IntsAre us' (goneL ns is) ∧ (goneL ns is).length + j' = ns.length + j ∧ Apart [q, lo, 447, lq, T.t, T.d, T.la, T.ln] tl ∧ @LT.lt Nat _ lo q ∧ lo ∉ 447 :: lq :: T.ch)) E s := by
  walk_at "kfill"
  refine' enterC (447 :: lq :: (T.ch ++ tl0.map (·.1))) ((447, tabObj cs0) :: (lq, PySem.W.listOf ps.toArray e2) :: (tled w T (us ++ List.replicate j Value.none) e ++ tl0)) [(Str.ofString "t", .ref T.t), (Str.ofString "people", .ref lp), (Str.ofString "places", .ref lq)] W hb ?hm ?hl ?ho ?hcd r ?hbind ?hkind ?hnd ?_ ?c1 ?c2 ?c3
  case hm =>
    refine (fmc hP ((fmc hlq (fun a ha => ?_))))
    rcases List.mem_append.mp ha with ha | ha
    · exact hT.hm a ha
    · obtain ⟨p, hp, rfl⟩ := List.mem_map.mp ha
      exact htb p hp
  case hl =>
    refine (fmc (⟨H _ (.head _), .head _⟩) ((fmc (⟨H _ (.tail _ (.head _)), .tail _ (.head _)⟩) (fun p hp => ⟨H _ (.tail _ (.tail _ hp)), .tail _ (.tail _ ?_)⟩))))
    rcases List.mem_append.mp hp with hp | hp
    · exact List.mem_append_left _ (hl_tab (fun q hq => H _ (.tail _ (.tail _ (List.mem_append_left _ hq)))) p hp).2
    · exact List.mem_append_right _ (List.mem_map_of_mem hp)
  walk_at "kenter"
  intro g L h₁ tk cells p loose mean mg mb dp fr gd un X TP W' hg F N Y l1 r' hU
  k_fold
  have hk : b₀.StaysIn g := fun b o e => hg b (fun q => by
    rcases List.mem_cons.mp q with rfl | q; (rw [hP] at e; cases e)
    rcases List.mem_cons.mp q with rfl | q; (rw [hlq] at e; cases e)
    rcases List.mem_append.mp q with q | q
    · rw [hT.hm b q] at e; cases e
    · obtain ⟨p, hp, rfl⟩ := List.mem_map.mp q
      rw [htb p hp] at e; cases e) o (hb b o e)
  have C9 : CodeHd g 451 447 := CodeHd.keeps hC hk
  have hlp' : g.IsList lp vs.toArray := ⟨_, hk _ _ hlp, rfl, e1, rfl⟩
  have t1 := hT.h1
  have t2 := hT.h2
  have t3 := hT.h3
  clear H hg
  have htL : ∀ p ∈ tl0, @LT.lt Nat _ p.1 L := fun p hp => l1 p (.tail _ (.tail _ (List.mem_append_right _ hp)))
  have A1 : Apart [L + 1 + 1 + 1, L + 1 + 1, L + 1, 447, lq, T.t, T.d, T.la, T.ln] tl0 := ((hA.cons fun p hp => Nat.ne_of_lt (Nat.lt_succ_of_lt (htL p hp))).cons fun p hp => Nat.ne_of_lt (Nat.lt_succ_of_lt (Nat.lt_succ_of_lt (htL p hp)))).cons fun p hp => Nat.ne_of_lt (Nat.lt_succ_of_lt (Nat.lt_succ_of_lt (Nat.lt_succ_of_lt (htL p hp))))
  clear hA
  dsimp only [tled, List.cons_append, List.nil_append] at l1
  k_lt l1
  k_cells Y
  dsimp only [List.cons_append, List.nil_append] at N
  walk_at "flat"
  k_steps
  unfold Stop
  rename Fr _ _ _ _ => F1
  rename News _ _ _ _ => N1
  refine For_turns F1 ?_
  k_whole
  walk_at "flat"
  k_steps
  unfold Stop
  rename_i o1 o2 o3 d1 d2 d3 ll c0 q1 q2 lo q3 q4 lt q5 q6 D0 q7 q8 q9 q10 q11 q12 ok dk
  have A2 : Apart (gxs T ll lo lt L lq) tl0 := ((A1.cons fun p hp => Nat.ne_of_lt (of_allLtg q2.2.2.2.2.2.2.2.2.2 p hp)).cons fun p hp => Nat.ne_of_lt (of_allLtg q4.2.2.2.2.2.2.2.2.2.2 p hp)).cons fun p hp => Nat.ne_of_lt (of_allLtg q6.2.2.2.2.2.2.2.2.2.2.2 p hp)
  clear A1
  refine' for_list (GSt w T ll lo lt L lq ok o3 ps e2 ns is j tl0) r'.hh F1 (news_tl N1) ?hm ?hi ?hnil ?hcons
  case hm => k_mem
  case hi =>
    intro I hI
    exact ⟨cs0, tl0, is, ns, vs, us, [], [], [], j, _, _, _, _, o2, _, hps, hcs, A2.cons fun p hp => Nat.ne_of_lt (hI p (by repeat (first | exact hp | refine List.Mem.tail _ ?_))), fun _ h => h, hok, hi, hus, .nil, d2, rfl, rfl, by simp, rfl, allLt_of fun p hp => hI p ((show ∀ p ∈ _, p ∈ _ by ksw_same) p hp), rfl, (by with_unfolding_all rfl), (by with_unfolding_all rfl)⟩
  case hnil =>
    intro I m₁ news₁ h tk hS F N
    dsimp only
    obtain ⟨cs, tl, ris, lns, ls, us', os, ts, ons, j', f1, f2, f3, f4, oa, ov, s1, sc, sa, st0, s2, s3, s4, s5, s6, s7, s8, s9, s10, hlt, rfl, hl1, ho1⟩ := hS
    replace F : Fr g L h m₁ := F
    replace N : News g L h _ := N
    have F0 := fr_st [(Str.ofString "left", _), (Str.ofString "order", _)] F ((fmc hl1 ((fmc ho1 (List.forall_mem_nil _)))))
    clear F F1 N1 hl1 ho1
    cases s1
    have hts : ts.length < 100000 := by walk_at "om"
    dsimp only [gled] at N
    walk_at "flat"
    k_steps
    rename (@LT.lt Nat _ lt _) ∧ _ => lq9
    have z9 : ts.length = goneN ns is := s9
    have z7 : lns = goneL ns is := s7
    have z8 : ons = goneO ns is := (List.append_nil _).symm.trans s8
    refine ⟨_, ?_, _, lo, os, us', j', f2, f4, tk + 1, cs, tl, rfl, rfl, sc, st0, z8 ▸ s5, z7 ▸ s4, z7 ▸ s10, ?ap, ?lt, by walk_at "apart6"⟩
    · rw [← z9]
      ksw_same
    case ap => exact (sa.sub (ys := [lo, 447, lq, T.t, T.d, T.la, T.ln]) (by ksw_same)).cons fun p hp => Nat.ne_of_lt (of_allLtg lq9.2.2.2.2.2.2.2.2.2.2.2.2 p hp)
    case lt => ksw_less
  case hcons =>
    intro I v r m₁ news₁ h tk o hS F hco N
    k_fold
    obtain ⟨cs, tl, ris, lns, ls, us', os, ts, ons, j', f1, f2, f3, f4, oa, ov, s1, sc, sa, st0, s2, s3, s4, s5, s6, s7, s8, s9, s10, hlt, rfl, hl1, ho1⟩ := hS
    replace F : Fr g L h m₁ := F
    replace N : News g L h _ := N
    have F0 := fr_st [(Str.ofString "left", _), (Str.ofString "order", _)] F ((fmc hl1 ((fmc ho1 (List.forall_mem_nil _)))))
    clear F F1 N1 hl1 ho1
    cases s1 with
    | cons k0 t0 s1 =>
    obtain ⟨z1, z2, z3⟩ := s2
    have hlen1 := s3.length
    have hlen2 := s4.length
    have hol := gone_olen s5 s8
    dsimp only [gled, AllLt] at N hlt
    walk_at "flat"
    k_steps
    · walk_at "om"
    · unfold Stop
      rename Fr _ _ _ _ => F5
      rename News _ _ _ _ => N5
      rename Obj => oa'
      rename Obj.data _ = _ => da'
      refine' kla_eval rfl ?_
      refine' lam_any (P := 447) (tl := tl) (cs := cs) (pre := [_, _, _, _, _, _, _, _]) (post := [_, _, _, _, _]) F5 N5 TP C9 rfl ?pre ?post (fun q hq => sa q hq 447 (by k_mem)) (gcodes_tri sc) (gcodes_case rfl rfl sc) rfl ?h
      case pre => exact ⟨by k_ne, by k_ne, by k_ne, by k_ne, by k_ne, by k_ne, by k_ne, by k_ne, trivial⟩
      case post => exact ⟨by k_ne, by k_ne, by k_ne, by k_ne, by k_ne, trivial⟩
      case h =>
        intro fA c1 oc1 ctv1 h7 tk7 cs1 tl1 k1 hm1 hsub1 hnew1 hcs1 F7 N7 hlt7
        have S1 : gCodesSt1 cs1 tl1 c1 := gcodes_one rfl rfl sc hsub1 hcs1
        dsimp only [List.cons_append, List.nil_append] at N7 hlt7 hnew1
        have B1 : Apart (I :: gxs T ll lo lt L lq) tl1 := sa.grow hnew1 ((fmc (⟨_, by k_mem⟩) ((fmc (⟨_, by k_mem⟩) ((fmc (⟨_, by k_mem⟩) ((fmc (⟨_, by k_mem⟩) ((fmc (⟨_, by k_mem⟩) ((fmc (⟨_, by k_mem⟩) ((fmc (⟨_, by k_mem⟩) ((fmc (⟨_, by k_mem⟩) ((fmc (⟨_, by k_mem⟩) ((fmc (⟨_, by k_mem⟩) ((fmc (⟨_, by k_mem⟩) ((fmc (⟨_, by k_mem⟩) ((fmc (⟨_, by k_mem⟩) (List.forall_mem_nil _)))))))))))))))))))))))))))
        k_lt hlt7
        replace k1 : CodeRecd oc1 GQ := k1
        have st1 : ∀ p ∈ tl0, p ∈ tl1 := fun p hp => hsub1 p (st0 p hp)
        clear F5 N5 sc hcs1 hnew1 hsub1 sa st0
        show wpAny _ _ _ _ _ _
        walk_at "flat"
        k_steps
        unfold Stop
        rename Fr _ _ _ _ => F8
        rename News _ _ _ _ => N8
        refine' kla_eval rfl ?_
        refine' lam_any (P := 447) (tl := tl1) (cs := cs1) (pre := [_, _, _, _, _, _, _, _, _]) (post := [_, _, _, _, _]) F8 N8 TP C9 rfl ?pre ?post (fun q hq => B1 q hq 447 (by k_mem)) (gcodes_tri1 S1) (gcodes_case1 rfl rfl S1) rfl ?h
        case pre => exact ⟨by k_ne, by k_ne, by k_ne, by k_ne, by k_ne, by k_ne, by k_ne, by k_ne, by k_ne, trivial⟩
        case post => exact ⟨by k_ne, by k_ne, by k_ne, by k_ne, by k_ne, trivial⟩
        case h =>
          intro fB c2 oc2 ctv2 h9 tk9 cs2 tl2 k2 hm2 hsub2 hnew2 hcs2 F9 N9 hlt9
          replace k2 : CodeRecd oc2 GQ := k2
          have S2 : gCodesSt cs2 tl2 := gcodes_two rfl rfl S1 hsub2 hm1 k1 hm2 k2 hcs2
          dsimp only [List.cons_append, List.nil_append] at N9 hlt9 hnew2
          have B2 : Apart (I :: gxs T ll lo lt L lq) tl2 := B1.grow hnew2 ((fmc (⟨_, by k_mem⟩) ((fmc (⟨_, by k_mem⟩) ((fmc (⟨_, by k_mem⟩) ((fmc (⟨_, by k_mem⟩) ((fmc (⟨_, by k_mem⟩) ((fmc (⟨_, by k_mem⟩) ((fmc (⟨_, by k_mem⟩) ((fmc (⟨_, by k_mem⟩) ((fmc (⟨_, by k_mem⟩) ((fmc (⟨_, by k_mem⟩) ((fmc (⟨_, by k_mem⟩) ((fmc (⟨_, by k_mem⟩) ((fmc (⟨_, by k_mem⟩) (List.forall_mem_nil _)))))))))))))))))))))))))))
          replace hm1 := hsub2 _ hm1
          have st2 : ∀ p ∈ tl0, p ∈ tl2 := fun p hp => hsub2 p (st1 p hp)
          have hc1 := B2.five hm1 (a := lt) (b := T.t) (c := T.d) (d := T.la) (e := T.ln) (by ksw_same)
          have hc2 := B2.five hm2 (a := lt) (b := T.t) (c := T.d) (d := T.la) (e := T.ln) (by ksw_same)
          dsimp only at hc1 hc2
          k_lt hlt9
          clear F8 N8 S1 hcs2 hnew2 B1 st1 hsub2
          show wpAny _ _ _ _ _ _
          walk_at "flat"
          k_steps
          unfold Stop
          rename Fr _ _ _ _ => Fa
          rename News _ _ _ _ => Na
          refine use_remove (T := T) (lt := lt) (ts := ts) (us := us') (ns := lns) (j := j') (f3 := f3) (f4 := f4) (x0 := .int k0 t0) (rest := (I, o) :: (lo, PySem.W.listOf os.toArray f2) :: (ll, PySem.W.listOf (ls.eraseIdx k0.toNat).toArray (f1 + 1)) :: (L + 1 + 1 + 1, ok) :: (L + 1 + 1, oa') :: (L + 1, o3) :: (447, tabObj cs2) :: (lq, PySem.W.listOf ps.toArray e2) :: tl2) W' hT Fa Na ?mq ?mt ?hsub ?a1 ?a4 s4 (by walk_at "om") ?r z1 (by walk_at "om") ?lam ?hrest ?hf ?K
          case mq => k_mem
          case mt => k_mem
          case hsub => walk_at "sub"
          case a1 => walk_at "apart5"
          case a4 => walk_at "apart4"
          case r => walk_at "room"
          case hf => k_is
          case hrest =>
            refine (fmc (⟨by k_mem, by walk_at "apart5"⟩) ((fmc (⟨by k_mem, by walk_at "apart5"⟩) ((fmc (⟨by k_mem, by walk_at "apart5"⟩) ((fmc (⟨by k_mem, by walk_at "apart5"⟩) ((fmc (⟨by k_mem, by walk_at "apart5"⟩) ((fmc (⟨by k_mem, by walk_at "apart5"⟩) ((fmc (⟨by k_mem, by walk_at "apart5"⟩) ((fmc (⟨by k_mem, by walk_at "apart5"⟩) (fun p hp => ?_))))))))))))))))
            have hpl := B2.five hp (a := lt) (b := T.t) (c := T.d) (d := T.la) (e := T.ln) (by ksw_same)
            exact ⟨by repeat (first | exact hp | refine List.Mem.tail _ ?_), notin5 hpl.1 hpl.2.1 hpl.2.2.1 hpl.2.2.2.1 hpl.2.2.2.2⟩
          case lam =>
            intro b Wb Tb hltb hgb hp
            have y1 := hp (L + 1, o3) (by k_mem) (by walk_at "apart5")
            have y2 := hp (L + 1 + 1, oa') (by k_mem) (by walk_at "apart5")
            have y3 := hp (L + 1 + 1 + 1, ok) (by k_mem) (by walk_at "apart5")
            have a4 : lt ∉ T.ch := by walk_at "apart4"
            have b1 := hp (_, kla_obj _ _ _ _ _ _ _ c1 _) (by k_mem) (by walk_at "apart5")
            have b2 := hp (_, kla_obj _ _ _ _ _ _ _ c2 _) (by k_mem) (by walk_at "apart5")
            dsimp only at y1 y2 y3 b1 b2
            have K1 : b.CodeRec (.ref c1) GQ := k1.at (hp (c1, oc1) (by repeat (first | exact hm1 | refine List.Mem.tail _ ?_)) (notin5 hc1.1 hc1.2.1 hc1.2.2.1 hc1.2.2.2.1 hc1.2.2.2.2))
            have K2 : b.CodeRec (.ref c2) GQ := k2.at (hp (c2, oc2) (by repeat (first | exact hm2 | refine List.Mem.tail _ ?_)) (notin5 hc2.1 hc2.2.1 hc2.2.2.1 hc2.2.2.2.1 hc2.2.2.2.2))
            clear hp Fa Na hc1 hc2
            refine ⟨⟨_, _, _, _, b1⟩, ⟨_, _, _, _, b2⟩, ?_, ?_⟩
            · intro s9 A9 E9 arr9 n9 i9 t9 v9 hb9 H9 r9 hl9 j1 j2
              refine' enterLam (lt :: T.ch) (cled w T lt ts (.int k0 t0) f3 f4 arr9 n9) [(Str.ofString "place", .int i9 t9), (Str.ofString "value", v9)] Wb hb9 ((fmc hltb Tb.hm)) (cled_mem H9) b1 K1 r9 ?hbind ?hloc ?_ ?c1 ?c2 ?c3 ?c4
              (case hbind => exact rfl); (case hloc => exact locs rfl); (case c1 => exact rfl); (case c2 => exact rfl); (case c3 => exact rfl); (case c4 => decide)
              intro g2 L2' h2 tk2 p2 loose2 mean2 mg2 mb2 dp2 fr2 gd2 un2 X2 TP2 W2 hbg2 F2 N2 r2 hU2
              k_fold
              replace y1 := hbg2 _ _ y1
              walk_at "flat"
              k_steps
              exact ⟨cled w T lt ts (.int k0 t0) f3 f4 _ n9, fun p hp => hp, rfl, trivial⟩
            · intro s8' A9 E9 arr9 n9 hb9 H9 r9 hn9
              have hts : ts.length < 100000 := by walk_at "om"
              refine' enterLam (lt :: T.ch) (cled w T lt ts (.int k0 t0) f3 f4 arr9 n9) [] Wb hb9 ((fmc hltb Tb.hm)) (cled_mem H9) b2 K2 r9 ?hbind ?hloc ?_ ?c1 ?c2 ?c3 ?c4
              (case hbind => exact rfl); (case hloc => exact locs rfl); (case c1 => exact rfl); (case c2 => exact rfl); (case c3 => exact rfl); (case c4 => decide)
              intro g2 L2' h2 tk2 p2 loose2 mean2 mg2 mb2 dp2 fr2 gd2 un2 X2 TP2 W2 hbg2 F2 N2 r2 hU2
              k_fold
              replace y2 := hbg2 _ _ y2
              replace y3 := hbg2 _ _ y3
              clear hi hps hus s1 s3 s4 s5
              walk_at "flat"
              k_steps
              exact ⟨cled w T lt ts (.int k0 t0) f3 f4 arr9 (n9 + 1), fun p hp => by rw [← cled_next] at hp; exact hp, rfl, trivial⟩
          case K =>
            intro q5 h5 tk5 t5 F6 N6 hq5
            dsimp only [tled, List.cons_append, List.nil_append] at N6
            replace hq5 := allNe3_of hq5
            dsimp only [AllNe3] at hq5
            clear Fa Na
            show wpAny _ _ _ _ _ _
            walk_at "flat"
            k_steps
            unfold Stop
            rename Fr _ _ _ _ => F7
            rename News _ _ _ _ => N7'
            have hee := ints_erase s4 k0.toNat
            have hef := ints_erase s3 k0.toNat
            have hel : (lns.eraseIdx k0.toNat).length + 1 = lns.length := by rw [List.length_eraseIdx, if_pos (by walk_at "om")]; walk_at "om"
            have hul := hee.length
            have hll := hef.length
            refine use_row (arr := us'.eraseIdx k0.toNat ++ List.replicate (j' + 1) Value.none) (e := f4) W' hT F7 N7' ?hsub ?hl ?hn ?r ?_
            case hsub => walk_at "sub"
            case hl => simp only [List.length_append, List.length_replicate]; walk_at "om"
            case hn => walk_at "om"
            case r => walk_at "room"
            intro q6 e6 h6 tk6 F8 N8 hq6
            rw [row_erase hee hel] at N8
            replace hq6 := allNe3_of hq6
            dsimp only [AllNe3] at hq6
            clear F7 N7'
            show wpAny _ _ _ _ _ _
            walk_at "flat"
            k_steps
            unfold Stop
            rename Fr _ _ _ _ => F9
            rename News _ _ _ _ => N9
            simp only [List.push_toArray] at N9
            refine ⟨_, _, _, gled w T ll lo lt L lq ok o3 ps e2 cs2 (ls.eraseIdx k0.toNat) (us'.eraseIdx k0.toNat) _ _ (j' + 1) _ _ _ _ oa' tl2, rfl, F9, news_sub N9 (by ksw_same), ?ne, ?mem, ⟨cs2, tl2, _, lns.eraseIdx k0.toNat, ls.eraseIdx k0.toNat, us'.eraseIdx k0.toNat, _, _, ons ++ [lns.getD k0.toNat 0], j' + 1, _, _, _, _, oa', _, s1, S2, B2, st2, ?okp, hef, hee, s5.append (.cons _ _ .nil), da', s7, ?s8, ?s9, ?s10, hlt, rfl, (by with_unfolding_all rfl), (by with_unfolding_all rfl)⟩⟩
            case ne => exact (fmc (by k_ne) ((fmc (by k_ne) ((fmc (by k_ne) ((fmc (by k_ne) ((fmc (by k_ne) ((fmc (by k_ne) ((fmc (by k_ne) ((fmc (by k_ne) ((fmc (by k_ne) ((fmc (by k_ne) ((fmc (by k_ne) ((fmc (by k_ne) (B2.get (.head _)))))))))))))))))))))))))
            case mem => k_mem
            case okp => rw [show (lns.eraseIdx k0.toNat).length = lns.length - 1 by walk_at "om"]; exact z3
            case s8 => rw [List.append_assoc]; exact s8
            case s9 =>
              have s9' : ts.length + ((lns.length - (k0.toNat + 1)) + goneN (lns.eraseIdx k0.toNat) _) = _ := s9
              rw [List.length_append, List.length_replicate]; walk_at "om"
            case s10 => walk_at "om"
end
section
local macro_rules | `(tactic| walk_at $k:str) => if ["exec For Tuple Subscript cons nil", "call type:zip", "call type:list", "subscriptTail Name Slice ref ref", "subscriptTail Call Slice ref ref"].contains k.getString then `(tactic| refine stopHere ?_) else Lean.Macro.throwUnsupported
local macro_rules | `(tactic| k_all) => `(tactic| first | exact tail_ne (by assumption) (leA (by (try dsimp only); omega)) | fail "no tail")
noncomputable abbrev BQ : Str := Str.ofString "_law_back.<locals>.<lambda>"
/-- the table of the two codes -/
noncomputable def CodesSt (cs : Array Value) (tl : Led) : Prop :=
  cs = #[] ∨ ∃ c1 o1 c2 o2, cs = #[rawInt 438, rawInt 29, .ref c1, rawInt 438, rawInt 106, .ref c2] ∧ (c1, o1) ∈ tl ∧ (c2, o2) ∈ tl ∧ CodeRecd o1 BQ ∧ CodeRecd o2 BQ
noncomputable def CodesSt1 (cs : Array Value) (tl : Led) (c1 : Addr) : Prop :=
  cs = #[rawInt 438, rawInt 29, .ref c1] ∨ ∃ c2 o2, cs = #[rawInt 438, rawInt 29, .ref c1, rawInt 438, rawInt 106, .ref c2] ∧ (c2, o2) ∈ tl ∧ CodeRecd o2 BQ
theorem codes_one {cs cs1 : Array Value} {tl tl1 : Led} {c1 : Addr} {pos : Pos} (hl : pos.line = 438) (hc : pos.col = 29) (h : CodesSt cs tl) (hs : ∀ q ∈ tl, q ∈ tl1)
    (h1 : (codeAmong pos cs.toList = none ∧ cs1 = cs ++ #[rawInt pos.line, rawInt pos.col, .ref c1]) ∨ (codeAmong pos cs.toList = some (.ref c1) ∧ cs1 = cs)) : CodesSt1 cs1 tl1 c1 := by
  rw [hl, hc] at h1
  rcases h with rfl | ⟨a1, o1, a2, o2, rfl, m1, m2, r1, r2⟩
  · rcases h1 with ⟨_, rfl⟩ | ⟨h, _⟩
    · exact .inl rfl
    · simp [codeAmong] at h
  · rcases h1 with ⟨h, _⟩ | ⟨h, rfl⟩
    · simp [codeAmong, rawInt, hl, hc] at h
    · simp [codeAmong, rawInt, hl, hc] at h
      subst h
      exact .inr ⟨a2, o2, rfl, hs _ m2, r2⟩
theorem codes_two {cs cs1 : Array Value} {tl tl1 : Led} {c1 c2 : Addr} {o1 o2 : Obj} {pos : Pos} (hl : pos.line = 438) (hc : pos.col = 106) (h : CodesSt1 cs tl c1) (hs : ∀ q ∈ tl, q ∈ tl1) (m1 : (c1, o1) ∈ tl) (r1 : CodeRecd o1 BQ) (m2 : (c2, o2) ∈ tl1) (r2 : CodeRecd o2 BQ)
    (h1 : (codeAmong pos cs.toList = none ∧ cs1 = cs ++ #[rawInt pos.line, rawInt pos.col, .ref c2]) ∨ (codeAmong pos cs.toList = some (.ref c2) ∧ cs1 = cs)) : CodesSt cs1 tl1 := by
  rw [hl, hc] at h1
  rcases h with rfl | ⟨a2, p2, rfl, _, _⟩
  · rcases h1 with ⟨_, rfl⟩ | ⟨h, _⟩
    · exact .inr ⟨c1, o1, c2, o2, rfl, hs _ m1, m2, r1, r2⟩
    · simp [codeAmong, rawInt, hl, hc] at h
  · rcases h1 with ⟨h, _⟩ | ⟨h, rfl⟩
    · simp [codeAmong, rawInt, hl, hc] at h
    · simp [codeAmong, rawInt, hl, hc] at h
      subst h
      exact .inr ⟨c1, o1, a2, o2, rfl, hs _ m1, m2, r1, r2⟩
theorem codes_tri {cs : Array Value} {tl : Led} (h : CodesSt cs tl) : TriplesOk cs.toList := by
  rcases h with rfl | ⟨a1, o1, a2, o2, rfl, _⟩
  · exact True.intro
  · simp [TriplesOk, rawInt]
theorem codes_tri1 {cs : Array Value} {tl : Led} {c1 : Addr} (h : CodesSt1 cs tl c1) : TriplesOk cs.toList := by
  rcases h with rfl | ⟨a2, o2, rfl, _⟩ <;> simp [TriplesOk, rawInt]
theorem codes_case {cs : Array Value} {tl : Led} {pos : Pos} (hl : pos.line = 438) (hc : pos.col = 29) (h : CodesSt cs tl) : codeAmong pos cs.toList = none ∨ ∃ c' oc, codeAmong pos cs.toList = some (.ref c') ∧ (c', oc) ∈ tl ∧ CodeRecd oc BQ := by
  rcases h with rfl | ⟨a1, o1, a2, o2, rfl, m1, m2, r1, r2⟩
  · exact .inl rfl
  · exact .inr ⟨a1, o1, by simp [codeAmong, rawInt, hl, hc], m1, r1⟩
theorem codes_case1 {cs : Array Value} {tl : Led} {pos : Pos} {c1 : Addr} (hl : pos.line = 438) (hc : pos.col = 106) (h : CodesSt1 cs tl c1) : codeAmong pos cs.toList = none ∨ ∃ c' oc, codeAmong pos cs.toList = some (.ref c') ∧ (c', oc) ∈ tl ∧ CodeRecd oc BQ := by
  rcases h with rfl | ⟨a2, o2, rfl, m2, r2⟩
  · exact .inl (by simp [codeAmong, rawInt, hl, hc])
  · exact .inr ⟨a2, o2, by simp [codeAmong, rawInt, hl, hc], m2, r2⟩
noncomputable abbrev bbase (w : World) (T : TabS) (ax lt L lq lo : Addr) (R : List Value) (ok ot : Obj) (ps os : List Value) (e1 e2 : Nat) (cs : Array Value) (us ts : List Value) (j e3 e4 : Nat) (oa : Obj) (tl : Led) : Led :=
  (ax, PySem.W.listOf R.toArray 0) :: (lt, PySem.W.listOf ts.toArray e4) :: (L + 1 + 1 + 1, ok) :: (L + 1 + 1, oa) :: (L + 1, ot) :: (454, tabObj cs) :: (lq, PySem.W.listOf ps.toArray e1) :: (lo, PySem.W.listOf os.toArray e2) ::
    (T.t, instObj 424 T.d) :: (T.d, dictOf (tabEs w T) 10) :: (T.la, PySem.W.listOf (us ++ List.replicate j Value.none).toArray e3) :: (T.ln, PySem.W.listOf #[] T.en) :: tl
inductive BackSt (w : World) (T : TabS) (ax lt L lq lo D : Addr) (R : List Value) (ok ot : Obj) (ps os : List Value) (e1 e2 : Nat) (ns0 ks0 xs0 : List Int) (j0 : Nat)
    (I : Addr) (r : List Value) (m : Str → Option Value) (news : Led) : Prop
  | mk (cs : Array Value) (tl : Led) (ks xs uns : List Int) (us ts : List Value) (j e3 e4 : Nat) (oa : Obj) (ov : Option Value)
    (s1 : Turns tl r ks xs) (s2 : CodesSt cs tl) (s3 : TailLo D tl) (s4 : ∀ p ∈ tl, @Ne Nat p.1 I) (s5 : okB uns.length ks) (s6 : IntsAre us uns) (s7 : oa.data = .cell ov)
    (s8 : putL uns ks xs = putL ns0 ks0 xs0) (s9 : ts.length + putN uns.length ks = putN ns0.length ks0) (s10 : ks.length ≤ j) (s11 : uns.length + j = ns0.length + j0)
    (hn : news = bbase w T ax lt L lq lo R ok ot ps os e1 e2 cs us ts j e3 e4 oa tl)
    (lt' : @LT.lt Nat _ ax I) : BackSt w T ax lt L lq lo D R ok ot ps os e1 e2 ns0 ks0 xs0 j0 I r m news
theorem Pairs.len {xs ys : List Value} {as : List Addr} {l : Led} (h : Pairs xs ys as l) : as.length = xs.length := by
  induction h with
  | nil => rfl
  | cons _ ih => simp [ih]
section
variable {w : World} {A : Around} {s : Shared} {b₀ : Heap} {E : Value → Shared → Prop} (W : Wd w b₀) (hb : b₀.StaysIn s.heap)
include W hb
theorem back_spec (T : TabS) (hT : TabOk b₀ T) (hC : CodeHd b₀ 458 454) (hP : b₀.get? 454 = none) (lo lq : Addr) (hlo : b₀.get? lo = none) (hlq : b₀.get? lq = none) (q1 : @LT.lt Nat _ 454 lq) (q2 : @LT.lt Nat _ lq T.d)
    (q3 : @Ne Nat lo 454) (q4 : @Ne Nat lo lq) (q5 : @Ne Nat lo T.t) (q6 : @Ne Nat lo T.d) (q7 : @Ne Nat lo T.la) (q8 : @Ne Nat lo T.ln)
    (ps os : List Value) (is ons : List Int) (e1 e2 e3 j : Nat) (hps : IntsAre ps is) (hos : IntsAre os ons) (hlen : is.length = ons.length) (hn : is.length ≤ 100) (us : List Value) (ns : List Int) (hus : IntsAre us ns) (hnj : ns.length + j < 1000) (hok : okB ns.length is.reverse) (hj : is.length ≤ j) (hpn : putN ns.length is.reverse < 10000)
    (H : Has s.heap ((454, tabObj #[]) :: (lq, PySem.W.listOf ps.toArray e1) :: (lo, PySem.W.listOf os.toArray e2) :: tled w T (us ++ List.replicate j Value.none) e3)) (r : Room A 20) :
    wpAny (model PySem.Challenge.rw_xm0627_01.row.prog w) A (call (.ref 459) [.ref T.t, .ref lo, .ref lq]) (Out (454 :: lq :: lo :: T.ch) s (fun x l => ∃ (us' : List Value) (j' e' : Nat) (tk : Tok) (cs : Array Value), x = .int (putN ns.length is.reverse) tk ∧ l = (454, tabObj cs) :: (lq, PySem.W.listOf ps.toArray e1) :: (lo, PySem.W.listOf os.toArray e2) :: tled w T (us' ++ List.replicate j' Value.none) e' ∧ IntsAre us' (putL ns is.reverse ons.reverse) ∧ (putL ns is.reverse ons.reverse).length + j' = ns.length + j)) E s := by
  walk_at "kfill"
  refine' enterC (454 :: lq :: lo :: T.ch) ((454, tabObj #[]) :: (lq, PySem.W.listOf ps.toArray e1) :: (lo, PySem.W.listOf os.toArray e2) :: tled w T (us ++ List.replicate j Value.none) e3) [(Str.ofString "t", .ref T.t), (Str.ofString "order", .ref lo), (Str.ofString "places", .ref lq)] W hb ?hm ?hl ?ho ?hcd r ?hbind ?hkind ?hnd ?_ ?c1 ?c2 ?c3
  case hm => exact (fmc hP ((fmc hlq ((fmc hlo hT.hm)))))
  case hl => exact (fmc (⟨H _ (.head _), .head _⟩) ((fmc (⟨H _ (.tail _ (.head _)), .tail _ (.head _)⟩) ((fmc (⟨H _ (.tail _ (.tail _ (.head _))), .tail _ (.tail _ (.head _))⟩) (fun p hp => ⟨H _ (.tail _ (.tail _ (.tail _ hp))), .tail _ (.tail _ (.tail _ (hl_tab (fun q hq => H _ (.tail _ (.tail _ (.tail _ hq)))) p hp).2))⟩))))))
  walk_at "kenter"
  intro g L h₁ tk cells p loose mean mg mb dp fr gd un X TP W' hg F N Y l1 r' hU
  k_fold
  have hk : b₀.StaysIn g := fun b o e => hg b (fun q => by
    rcases List.mem_cons.mp q with rfl | q; (rw [hP] at e; cases e)
    rcases List.mem_cons.mp q with rfl | q; (rw [hlq] at e; cases e)
    rcases List.mem_cons.mp q with rfl | q; (rw [hlo] at e; cases e)
    rw [hT.hm b q] at e; cases e) o (hb b o e)
  have C9 : CodeHd g 458 454 := CodeHd.keeps hC hk
  have t1 := hT.h1
  have t2 := hT.h2
  have t3 := hT.h3
  clear H hg
  k_lt l1
  k_cells Y
  dsimp only [List.cons_append, List.nil_append] at N
  walk_at "flat"
  k_steps
  unfold Stop
  rename Fr _ _ _ _ => F1
  rename News _ _ _ _ => N1
  refine For_turns F1 ?_
  k_whole
  walk_at "flat"
  k_steps
  unfold Stop
  rename Fr _ _ _ _ => F2
  rename News _ _ _ _ => N2
  rename Obj.data _ = Data.cell (some (Value.ref _)) => d3
  refine' wpAny_mono (zip_list (Q := ?Q) r'.hh F2 N2 ?m1 ?m2 ?len ?n ?h) (fun zv s₁ hz => ?cont) (fun _ _ e => e)
  case cont =>
    walk_at "flat"
    k_steps
    exact hz
  case m1 => k_mem
  case m2 => k_mem
  case len => rw [hps.length, hos.length]; exact hlen
  case n => rw [hps.length]; walk_at "om"
  case h =>
    intro D as c tl h3 tk3 hpr hlo3 hlt3 F3 N3
    clear F2 N2
    simp only [tled, List.cons_append, List.nil_append] at N3
    k_lt hlt3
    have hasl : as.length ≤ 100 := by rw [hpr.len, hps.length]; exact hn
    show wpAny _ _ _ _ _ _
    walk_at "flat"
    k_steps
    unfold Stop
    rename Fr _ _ _ _ => F4
    rename News _ _ _ _ => N4
    refine kba_turn (value' := PySem.Expr.Name (PySem.Str.ofString "_") ⟨0, 0, 0, 0⟩) (fun _ => rfl) ?_
    refine' krv_lit (its := (as.map Value.ref).toArray) (zs := (as.map Value.ref).reverse) F4 N4 ?l (IsPart.int _ _) rfl ?_ ?s ?t ?z
    case l => exact News.isList N4 (by k_mem)
    case s => with_unfolding_all rfl
    case t => kmk_pure
    case z => rw [List.size_toArray, PySem.sizeLine_eq, List.length_map]; walk_at "om"
    intro ax h5 F5 N5 hlt5
    clear F4 N4
    show wpAny _ _ _ _ _ _
    walk_at "flat"
    k_steps
    unfold Stop
    rename_i o1 o2 o3 d1 d2 d4 lt hx1 lx hx2 ok
    have hax : @LT.lt Nat _ D ax := hlt5 _ (.head _)
    refine' for_list (BackSt w T ax lt L lq lo D (as.map Value.ref).reverse ok o3 ps os e1 e2 ns is.reverse ons.reverse j) r'.hh F5 (news_sub N5 ?sub) ?hm ?hi ?hnil ?hcons
    case sub => exact (fmc (.head _) (fun p hp => .tail _ (.tail _ hp)))
    case hm => exact .head _
    case hi =>
      intro I hI
      exact ⟨#[], tl, is.reverse, ons.reverse, ns, us, [], j, e3, 0, o2, _, turns_of hpr hps hos, .inl rfl, hlo3, (fun p hp => Nat.ne_of_lt (hI p (by repeat (first | exact hp | refine List.Mem.tail _ ?_)))), hok, hus, d2, rfl, by simp, by simpa using hj, rfl, rfl, hI _ (.head _)⟩
    case hnil =>
      intro I m₁ news₁ h tk hS F N
      dsimp only
      obtain ⟨cs, tl', ks, xs, uns, us', ts, j', f3, f4, oa, ov, s1, s2, s3, s4, s5, s6, s7, s8, s9, s10, s11, rfl, hlt⟩ := hS
      replace F : Fr g L h m₁ := F
      replace N : News g L h _ := N
      have F0 := fr_st [] F (List.forall_mem_nil _)
      clear F F5 N5 hpr hlo3
      cases s1
      simp only [bbase] at N
      have hts : ts.length < 100000 := by walk_at "om"
      show wpAny _ _ _ _ _ _
      walk_at "flat"
      k_steps
      have z8 : uns = putL ns is.reverse ons.reverse := by rw [← s8]; simp [putL]
      have z9 : ts.length = putN ns.length is.reverse := s9
      refine ⟨(454, tabObj cs) :: (lq, PySem.W.listOf ps.toArray e1) :: (lo, PySem.W.listOf os.toArray e2) :: tled w T (us' ++ List.replicate j' Value.none) f3, ?_, us', j', f3, _, cs, val_of (by rw [z9]), rfl, z8 ▸ s6, z8 ▸ s11⟩
      exact (fmc (by k_mem) ((fmc (by k_mem) ((fmc (by k_mem) (by walk_at "sub"))))))
    case hcons =>
      intro I v r m₁ news₁ h tk o hS F hco N
      k_fold
      obtain ⟨cs, tl', ks, xs, uns, us', ts, j', f3, f4, oa, ov, s1, s2, s3, s4, s5, s6, s7, s8, s9, s10, s11, rfl, hlt⟩ := hS
      replace F : Fr g L h m₁ := F
      replace N : News g L h _ := N
      have F0 := fr_st [] F (List.forall_mem_nil _)
      clear F F5 N5 hpr hlo3
      cases s1 with
      | @cons a k x t u r ks xs hmem s1 =>
      obtain ⟨z1, z2, z3⟩ := s5
      have hT1 : IsTup h a #[.int k t, .int x u] := ⟨{ cls := .type "tuple", data := .seq #[.int k t, .int x u] }, (N (a, { cls := .type "tuple", data := .seq #[.int k t, .int x u] }) (by repeat (first | exact hmem | refine List.Mem.tail _ ?_))).1, rfl, _, rfl⟩
      have hul := s6.length
      obtain ⟨jj, rfl⟩ : ∃ jj, j' = jj + 1 := ⟨j' - 1, by simp at s10; walk_at "om"⟩
      have hb1 : @LT.lt Nat _ D a := s3 _ hmem
      simp only [bbase] at N
      show wpAny _ _ _ _ _ _
      walk_at "flat"
      k_steps
      unfold Stop
      rename Fr _ _ _ _ => F6
      rename News _ _ _ _ => N6
      rename Obj => oa'
      rename Obj.data _ = _ => da'
      refine' kla_eval rfl ?_
      refine' lam_any (P := 454) (tl := tl') (cs := cs) (pre := [_, _, _, _, _, _, _]) (post := [_, _, _, _, _, _]) F6 N6 TP C9 rfl ?pre ?post (fun q hq => Nat.ne_of_gt (Nat.lt_trans (by walk_at "om") (s3 q hq))) (codes_tri s2) (codes_case rfl rfl s2) rfl ?h
      case pre => (repeat (refine And.intro (by k_ne) ?_)); exact trivial
      case post => (repeat (refine And.intro (by k_ne) ?_)); exact trivial
      case h =>
        intro f1 c1 oc1 ctv1 h7 tk7 cs1 tl1 k1 hm1 hsub1 hnew1 hcs1 F7 N7 hlt7
        have S1 : CodesSt1 cs1 tl1 c1 := codes_one rfl rfl s2 hsub1 hcs1
        have L1 : TailLo D tl1 := fun q hq => (hnew1 q hq).elim (s3 q) fun hh => Nat.lt_trans hax (hh (ax, _) (by k_mem))
        have I1 : ∀ p ∈ tl1, @Ne Nat p.1 I := fun q hq => (hnew1 q hq).elim (s4 q) fun hh => Nat.ne_of_gt (hh (I, o) (by k_mem))
        dsimp only [List.cons_append, List.nil_append] at N7 hlt7
        k_lt hlt7
        replace k1 : CodeRecd oc1 BQ := k1
        clear F6 N6 s2 hcs1 hnew1
        show wpAny _ _ _ _ _ _
        walk_at "flat"
        k_steps
        unfold Stop
        rename Fr _ _ _ _ => F8
        rename News _ _ _ _ => N8
        refine' kla_eval rfl ?_
        refine' lam_any (P := 454) (tl := tl1) (cs := cs1) (pre := [_, _, _, _, _, _, _, _]) (post := [_, _, _, _, _, _]) F8 N8 TP C9 rfl ?pre ?post (fun q hq => Nat.ne_of_gt (Nat.lt_trans (by walk_at "om") (L1 q hq))) (codes_tri1 S1) (codes_case1 rfl rfl S1) rfl ?h
        case pre => (repeat (refine And.intro (by k_ne) ?_)); exact trivial
        case post => (repeat (refine And.intro (by k_ne) ?_)); exact trivial
        case h =>
          intro f2 c2 oc2 ctv2 h9 tk9 cs2 tl2 k2 hm2 hsub2 hnew2 hcs2 F9 N9 hlt9
          replace k2 : CodeRecd oc2 BQ := k2
          have S2 : CodesSt cs2 tl2 := codes_two rfl rfl S1 hsub2 hm1 k1 hm2 k2 hcs2
          have L2 : TailLo D tl2 := fun q hq => (hnew2 q hq).elim (L1 q) fun hh => Nat.lt_trans hax (hh (ax, _) (by k_mem))
          have I2 : ∀ p ∈ tl2, @Ne Nat p.1 I := fun q hq => (hnew2 q hq).elim (I1 q) fun hh => Nat.ne_of_gt (hh (I, o) (by k_mem))
          replace hm1 := hsub2 _ hm1
          have hl1 : @LT.lt Nat _ D c1 := L2 _ hm1
          have hl2 : @LT.lt Nat _ D c2 := L2 _ hm2
          have U2 := (s1.mono hsub1).mono hsub2
          dsimp only [List.cons_append, List.nil_append] at N9 hlt9
          k_lt hlt9
          clear F8 N8 S1 hcs2 hnew2 L1 I1 s3 s4 s1 hmem
          show wpAny _ _ _ _ _ _
          walk_at "flat"
          k_steps
          unfold Stop
          rename Fr _ _ _ _ => Fa
          rename News _ _ _ _ => Na
          refine use_insert (T := T) (lt := lt) (ts := ts) (us := us') (ns := uns) (j := jj) (f3 := f4) (f4 := f3) (x0 := .int x u) (rest := (I, o) :: (ax, PySem.W.listOf (as.map Value.ref).reverse.toArray 0) :: (L + 1 + 1 + 1, ok) :: (L + 1 + 1, oa') :: (L + 1, o3) :: (454, tabObj cs2) :: (lq, PySem.W.listOf ps.toArray e1) :: (lo, PySem.W.listOf os.toArray e2) :: tl2) W' hT Fa Na ?mq ?mt ?hsub ?a1 ?a4 s6 (by walk_at "om") ?r z1 z2 ?lam ?hrest ?hf ?K
          case mq => k_mem
          case mt => k_mem
          case hsub => walk_at "sub"
          case a1 => walk_at "apart5"
          case a4 => walk_at "apart4"
          case r => walk_at "room"
          case hf => k_is
          case hrest =>
            refine (fmc (⟨by k_mem, by walk_at "apart5"⟩) ((fmc (⟨by k_mem, by walk_at "apart5"⟩) ((fmc (⟨by k_mem, by walk_at "apart5"⟩) ((fmc (⟨by k_mem, by walk_at "apart5"⟩) ((fmc (⟨by k_mem, by walk_at "apart5"⟩) ((fmc (⟨by k_mem, by walk_at "apart5"⟩) ((fmc (⟨by k_mem, by walk_at "apart5"⟩) ((fmc (⟨by k_mem, by walk_at "apart5"⟩) (fun p hp => ?_))))))))))))))))
            have hpl := L2 p hp
            exact ⟨by repeat (first | exact hp | refine List.Mem.tail _ ?_), by walk_at "apart5"⟩
          case lam =>
            intro b Wb Tb hltb hgb hp
            have y1 := hp (L + 1, o3) (by k_mem) (by walk_at "apart5")
            have y2 := hp (L + 1 + 1, oa') (by k_mem) (by walk_at "apart5")
            have y3 := hp (L + 1 + 1 + 1, ok) (by k_mem) (by walk_at "apart5")
            have a4 : lt ∉ T.ch := by walk_at "apart4"
            have b1 := hp (_, kla_obj _ _ _ _ _ _ _ c1 _) (by k_mem) (by walk_at "apart5")
            have b2 := hp (_, kla_obj _ _ _ _ _ _ _ c2 _) (by k_mem) (by walk_at "apart5")
            dsimp only at y1 y2 y3 b1 b2
            have K1 : b.CodeRec (.ref c1) BQ := k1.at (hp (c1, oc1) (by repeat (first | exact hm1 | refine List.Mem.tail _ ?_)) (by walk_at "apart5"))
            have K2 : b.CodeRec (.ref c2) BQ := k2.at (hp (c2, oc2) (by repeat (first | exact hm2 | refine List.Mem.tail _ ?_)) (by walk_at "apart5"))
            clear hp Fa Na
            refine ⟨⟨_, _, _, _, b1⟩, ⟨_, _, _, _, b2⟩, ?_, ?_⟩
            · intro s9 A9 E9 arr9 n9 i9 t9 v9 hb9 H9 r9 hl9 j1 j2
              refine' enterLam (lt :: T.ch) (cled w T lt ts (.int x u) f4 f3 arr9 n9) [(Str.ofString "place", .int i9 t9), (Str.ofString "value", v9)] Wb hb9 ((fmc hltb Tb.hm)) (cled_mem H9) b1 K1 r9 ?hbind ?hloc ?_ ?c1 ?c2 ?c3 ?c4
              (case hbind => exact rfl); (case hloc => exact locs rfl); (case c1 => exact rfl); (case c2 => exact rfl); (case c3 => exact rfl); (case c4 => decide)
              intro g2 L2' h2 tk2 p2 loose2 mean2 mg2 mb2 dp2 fr2 gd2 un2 X2 TP2 W2 hbg2 F2 N2 r2 hU2
              k_fold
              replace y1 := hbg2 _ _ y1
              walk_at "flat"
              k_steps
              exact ⟨cled w T lt ts (.int x u) f4 f3 _ n9, fun p hp => hp, rfl, trivial⟩
            · intro s8 A9 E9 arr9 n9 hb9 H9 r9 hn9
              have hts : ts.length < 100000 := by walk_at "om"
              refine' enterLam (lt :: T.ch) (cled w T lt ts (.int x u) f4 f3 arr9 n9) [] Wb hb9 ((fmc hltb Tb.hm)) (cled_mem H9) b2 K2 r9 ?hbind ?hloc ?_ ?c1 ?c2 ?c3 ?c4
              (case hbind => exact rfl); (case hloc => exact locs rfl); (case c1 => exact rfl); (case c2 => exact rfl); (case c3 => exact rfl); (case c4 => decide)
              intro g2 L2' h2 tk2 p2 loose2 mean2 mg2 mb2 dp2 fr2 gd2 un2 X2 TP2 W2 hbg2 F2 N2 r2 hU2
              k_fold
              replace y2 := hbg2 _ _ y2
              replace y3 := hbg2 _ _ y3
              clear hps hus hos s6
              walk_at "flat"
              k_steps
              exact ⟨cled w T lt ts (.int x u) f4 f3 arr9 (n9 + 1), fun p hp => by rw [← cled_next] at hp; exact hp, rfl, trivial⟩
          case K =>
            intro v5 h5 tk5 Fb Nb
            simp only [tled, List.cons_append, List.nil_append] at Nb
            clear Fa Na
            show wpAny _ _ _ _ _ _
            walk_at "flat"
            k_steps
            unfold Stop
            rename Fr _ _ _ _ => Fc
            rename News _ _ _ _ => Nc
            have hil : (uns.insertIdx k.toNat x).length = uns.length + 1 := by rw [List.length_insertIdx, if_pos (by walk_at "om")]
            refine ⟨_, _, _, bbase w T ax lt L lq lo (as.map Value.ref).reverse ok o3 ps os e1 e2 cs2 (us'.insertIdx k.toNat (.int x u)) (ts ++ List.replicate (uns.length - k.toNat) (.int x u)) jj f3 (f4 + (uns.length - k.toNat)) oa' tl2, rfl, Fc, news_sub Nc ?sub, ?ne, .head _, ⟨cs2, tl2, ks, xs, uns.insertIdx k.toNat x, _, _, jj, _, _, oa', _, U2, S2, L2, I2, ?okb, ints_insert s6 _ _ _, da', s8, ?p2, ?p3, ?p4, rfl, hlt⟩⟩
            case sub =>
              refine (fmc (by k_mem) ((fmc (by k_mem) ((fmc (by k_mem) ((fmc (by k_mem) ((fmc (by k_mem) ((fmc (by k_mem) ((fmc (by k_mem) ((fmc (by k_mem) ((fmc (by k_mem) ((fmc (by k_mem) ((fmc (by k_mem) ((fmc (by k_mem) ((fmc (by k_mem) (fun p hp => ?_))))))))))))))))))))))))))
              repeat (first | exact hp | refine List.Mem.tail _ ?_)
            case ne =>
              refine (fmc (by k_ne) ((fmc (by k_ne) ((fmc (by k_ne) ((fmc (by k_ne) ((fmc (by k_ne) ((fmc (by k_ne) ((fmc (by k_ne) ((fmc (by k_ne) ((fmc (by k_ne) ((fmc (by k_ne) ((fmc (by k_ne) ((fmc (by k_ne) (fun p hp => I2 p hp))))))))))))))))))))))))
            case okb => rw [hil]; exact z3
            case p2 =>
              have s9' : ts.length + ((uns.length - k.toNat) + putN (uns.length + 1) ks) = _ := s9
              rw [hil, List.length_append, List.length_replicate]; walk_at "om"
            case p3 => simp at s10; walk_at "om"
            case p4 => rw [hil]; walk_at "om"
end
end
theorem swap_mem {α : Type} {z : α} {A B C D : List α} (h : z ∈ (A ++ (B ++ D)) ++ C) : z ∈ (A ++ (B ++ C)) ++ D := by
  simp only [List.mem_append] at h ⊢
  rcases h with (h | h | h) | h
  · exact .inl (.inl h)
  · exact .inl (.inr (.inl h))
  · exact .inr h
  · exact .inl (.inr (.inr h))
theorem caught_lt {sn : List Int} {p m : Int} (h : 0 < m) : 0 ≤ caught sn p m ∧ caught sn p m < m := by
  unfold caught
  split
  · exact ⟨Int.fmod_nonneg_of_pos _ h, Int.fmod_lt_of_pos _ h⟩
  · exact ⟨Int.fmod_nonneg_of_pos _ h, Int.fmod_lt_of_pos _ h⟩
section
variable {w : World} {A : Around} {s : Shared} {g : Heap} {E : Value → Shared → Prop} {Q : Value → Shared → Prop} {L : Addr} {m : Str → Option Value} {news : Led} {gf : Obj → Led}
theorem use_caught {nt sc : Addr} {scv : List Value} {sn : List Int} {e1 e2 : Nat} {p q : Int} {tp tm : Tok} (W : Wd w g) (F : Fr g L s.heap m) (N : News g L s.heap news) (hm : (sc, PySem.W.listOf scv.toArray e1) ∈ news) (hi : IntsAre scv sn) (hl : sn.length < 1000)
    (U : UpdF nt (PySem.W.listOf #[.int p tp, .ref sc] e2) news gf) (hne : @Ne Nat sc nt) (r : Room A 4) (h0 : 0 ≤ p) (h1 : p < 1000) (hq : 0 < q)
    (k : ∀ (v : Int) tk tk2 h' tk', 0 ≤ v → v < q → Fr g L h' m → News g L h' (gf (PySem.W.listOf #[.int (p + 1) tk2, .ref sc] e2)) → Q (.int v tk) { s with heap := h', toks := tk' }) :
    wpAny (model PySem.Challenge.rw_xm0627_01.row.prog w) A (call (.ref 433) [.ref nt, .int q tm]) Q E s := by
  obtain ⟨pre, post, rfl, hg, n1, n2⟩ := U.split
  have hnt : (nt, PySem.W.listOf #[.int p tp, .ref sc] e2) ∈ pre ++ (nt, PySem.W.listOf #[.int p tp, .ref sc] e2) :: post := by simp
  have hc : ∀ a ∈ [nt], ∃ o, (a, o) ∈ pre ++ (nt, PySem.W.listOf #[.int p tp, .ref sc] e2) :: post := fun a ha => by
    rw [List.mem_singleton.mp ha]; exact ⟨_, hnt⟩
  obtain ⟨g1, g2, g3, g4⟩ := ground_b F N hc
  have Wb := W.keeps g1
  have hsc := g4 (sc, PySem.W.listOf scv.toArray e1) hm (fun q => hne (List.mem_singleton.mp q))
  refine useC (ch := [nt]) (rest := pre ++ post) (caught_spec Wb g2 nt sc (g3 _ (.head _)) scv sn e1 e2 hi hl hsc p q tp tm h0 h1 hq (fun p hp => by rw [List.mem_singleton.mp hp]; exact (N _ hnt).1) r) F N (fun p hp => ?_) (fun a ha => by rw [List.mem_singleton.mp ha]; exact (N _ hnt).2) fun v h' tk' led hr F' N' _ => ?_
  · rcases List.mem_append.mp hp with hp | hp
    · exact ⟨List.mem_append_left _ hp, fun q => n1 p hp (List.mem_singleton.mp q)⟩
    · exact ⟨List.mem_append_right _ (.tail _ hp), fun q => n2 p hp (List.mem_singleton.mp q)⟩
  · obtain ⟨tk, tk2, rfl, rfl⟩ := hr
    have hb := caught_lt (sn := sn) (p := p) hq
    refine k _ tk tk2 h' tk' hb.1 hb.2 F' fun z hz => N' z ?_
    rw [hg] at hz
    simp only [List.mem_append, List.mem_cons, List.not_mem_nil, or_false] at hz ⊢
    rcases hz with hz | hz | hz <;> simp [hz]
/-- a table is filled -/
theorem use_seated {lp lq : Addr} {vs : List Value} {ns : List Int} {e1 : Nat} {oq : Obj} {rest : Led} {z : Int} {tz : Tok} (W : Wd w g) (F : Fr g L s.heap m) (N : News g L s.heap ((lp, PySem.W.listOf vs.toArray e1) :: (lq, oq) :: rest)) (hi : IntsAre vs ns) (h8 : ns.length ≤ 8)
    (hne : @LT.lt Nat _ lp lq) (hz : 0 ≤ z) (hz8 : z ≤ 8) (r : Room A 14) (hr : ∀ p ∈ rest, p.1 ≠ lp ∧ p.1 ≠ lq)
    (k : ∀ (T : TabS) (us : List Value) (e j : Nat) h' tk', Fr g L h' m → News g L h' ((lp, PySem.W.listOf vs.toArray e1) :: (lq, oq) :: (tled w T (us ++ List.replicate j Value.none) e ++ rest)) → IntsAre us ns → ns.length + j ≤ 8 → @LT.lt Nat _ lq T.d → @LT.lt Nat _ T.d T.t → @LT.lt Nat _ T.t T.la → @LT.lt Nat _ T.la T.ln →
      (∀ q ∈ rest, @Ne Nat q.1 T.t) → (∀ q ∈ rest, @Ne Nat q.1 T.d) → (∀ q ∈ rest, @Ne Nat q.1 T.la) → (∀ q ∈ rest, @Ne Nat q.1 T.ln) → Q (.ref T.t) { s with heap := h', toks := tk' }) :
    wpAny (model PySem.Challenge.rw_xm0627_01.row.prog w) A (call (.ref 440) [.ref lp, .int z tz]) Q E s := by
  refine' useN (ch := [lp, lq]) ?C F N ?hsub ?hcov rest ?hs ?k
  case C => exact fun H => seated_spec W (by exact F.keep) lp lq vs ns e1 oq hi h8 (N _ (.head _)).2.2 (N _ (.tail _ (.head _))).2.2 hne H z tz hz hz8 r
  case hsub => exact (fmc (.head _) ((fmc (.tail _ (.head _)) (List.forall_mem_nil _))))
  case hcov => exact (fmc (⟨_, .head _⟩) ((fmc (⟨_, .tail _ (.head _)⟩) (List.forall_mem_nil _))))
  case hs =>
    intro p hp
    refine ⟨.tail _ (.tail _ hp), ?_⟩
    simp only [List.mem_cons, List.not_mem_nil, or_false, not_or]
    exact hr p hp
  case k =>
    rintro v h' tk' led ⟨T, us, e, j, rfl, rfl, a1, a2, a3, a4, a5, a6⟩ F' N' hf
    have a34 := Nat.lt_trans a3 a4
    have a345 := Nat.lt_trans a34 a5
    have a3456 := Nat.lt_trans a345 a6
    have nin : ∀ x : Addr, @LT.lt Nat _ lq x → x ∉ [lp, lq] := fun x hx => by
      simp only [List.mem_cons, List.not_mem_nil, or_false, not_or]
      exact ⟨Nat.ne_of_gt (Nat.lt_trans hne hx), Nat.ne_of_gt hx⟩
    have f1 := (hf (T.t, instObj 424 T.d) (by k_mem)).resolve_left (nin _ a34)
    have f2 := (hf (T.d, dictOf (tabEs w T) 10) (by k_mem)).resolve_left (nin _ a3)
    have f3 := (hf (T.la, PySem.W.listOf (us ++ List.replicate j Value.none).toArray e) (by k_mem)).resolve_left (nin _ a345)
    have f4 := (hf (T.ln, PySem.W.listOf #[] T.en) (by k_mem)).resolve_left (nin _ a3456)
    exact k T us e j h' tk' F' N' a1 a2 a3 a4 a5 a6 (fun q hq => f1 q (.tail _ (.tail _ hq))) (fun q hq => f2 q (.tail _ (.tail _ hq))) (fun q hq => f3 q (.tail _ (.tail _ hq))) (fun q hq => f4 q (.tail _ (.tail _ hq)))
theorem same_obj {news : Led} {h : Heap} (N : News g L h news) {p q : Addr × Obj} (hp : p ∈ news) (hq : q ∈ news) (e : p.1 = q.1) : p.2 = q.2 := by
  have h1 := (N p hp).1
  have h2 := (N q hq).1
  rw [e, h2] at h1
  exact (Option.some.inj h1).symm
/-- a taking out -/
theorem use_gone {T : TabS} {lp lq : Addr} {vs us ps : List Value} {ns is : List Int} {j e e1 e2 : Nat} {cs0 : Array Value} {tl0 rest : Led} (W : Wd w g) (C2 : CodeHd g 451 447) (F : Fr g L s.heap m) (N : News g L s.heap news)
    (hsub : ∀ p ∈ (447, tabObj cs0) :: (lq, PySem.W.listOf ps.toArray e2) :: (tled w T (us ++ List.replicate j Value.none) e ++ tl0), p ∈ news) (hlp : (lp, PySem.W.listOf vs.toArray e1) ∈ news) (hlpn : lp ∉ 447 :: lq :: (T.ch ++ tl0.map (·.1)))
    (hcs : gCodesSt cs0 tl0) (hA : Apart [447, lq, T.t, T.d, T.la, T.ln] tl0)
    (hi : IntsAre vs ns) (hus : IntsAre us ns) (o1 : @LT.lt Nat _ 447 lq) (o2 : @LT.lt Nat _ lq T.d) (o3 : @LT.lt Nat _ T.d T.t) (o4 : @LT.lt Nat _ T.t T.la) (o5 : @LT.lt Nat _ T.la T.ln) (hps : IntsAre ps is) (hok : okP ns.length is)
    (hlen : ns.length + j < 1000) (hl2 : is.length < 1000) (hnn : goneN ns is < 100000) (r : Room A 20) (hr : ∀ p ∈ rest, p ∈ news ∧ p.1 ∉ 447 :: lq :: (T.ch ++ tl0.map (·.1)))
    (k : ∀ (q lo : Addr) (os us' : List Value) (j' e6 e7 : Nat) (tk : Tok) (cs : Array Value) (tl : Led) h' tk', Fr g L h' m →
      News g L h' ((q, { cls := .type "tuple", data := .seq #[.ref lo, .int (goneN ns is) tk] }) :: (lo, PySem.W.listOf os.toArray e6) :: (447, tabObj cs) :: (lq, PySem.W.listOf ps.toArray e2) :: (tled w T (us' ++ List.replicate j' Value.none) e7 ++ rest) ++ tl) →
      gCodesSt cs tl → (∀ p ∈ tl0, p ∈ tl) → IntsAre os (goneO ns is) → IntsAre us' (goneL ns is) → (goneL ns is).length + j' = ns.length + j → Apart [q, lo, 447, lq, T.t, T.d, T.la, T.ln] tl → @LT.lt Nat _ lo q →
      (∀ z ∈ news, @Ne Nat z.1 lo) → (∀ xs, Apart xs tl0 → (∀ x ∈ xs, ∃ o, (x, o) ∈ news) → Apart xs tl) → Q (.ref q) { s with heap := h', toks := tk' }) :
    wpAny (model PySem.Challenge.rw_xm0627_01.row.prog w) A (call (.ref 452) [.ref T.t, .ref lp, .ref lq]) Q E s := by
  have hc : ∀ a ∈ 447 :: lq :: (T.ch ++ tl0.map (·.1)), ∃ o, (a, o) ∈ (447, tabObj cs0) :: (lq, PySem.W.listOf ps.toArray e2) :: (tled w T (us ++ List.replicate j Value.none) e ++ tl0) := fun a ha => by
    rcases List.mem_cons.mp ha with rfl | ha
    · exact ⟨_, .head _⟩
    rcases List.mem_cons.mp ha with rfl | ha
    · exact ⟨_, .tail _ (.head _)⟩
    rcases List.mem_append.mp ha with ha | ha
    · obtain ⟨o, ho⟩ := tled_cov (w := w) (arr := us ++ List.replicate j Value.none) (e := e) a ha
      exact ⟨o, .tail _ (.tail _ (List.mem_append_left _ ho))⟩
    · obtain ⟨p, hp, rfl⟩ := List.mem_map.mp ha
      exact ⟨p.2, .tail _ (.tail _ (List.mem_append_right _ hp))⟩
  have hc' : ∀ a ∈ 447 :: lq :: (T.ch ++ tl0.map (·.1)), ∃ o, (a, o) ∈ news := fun a ha => let ⟨o, ho⟩ := hc a ha; ⟨o, hsub _ ho⟩
  obtain ⟨g1, g2, g3, g4⟩ := ground_b F N hc'
  have Wb := W.keeps g1
  have inT : ∀ a ∈ T.ch, a ∈ 447 :: lq :: (T.ch ++ tl0.map (·.1)) := fun a ha => .tail _ (.tail _ (List.mem_append_left _ ha))
  have Tb : TabOk (hideAll s.heap (447 :: lq :: (T.ch ++ tl0.map (·.1)))) T := ⟨o3, o4, o5, g3 _ (inT _ (by simp [TabS.ch])), g3 _ (inT _ (by simp [TabS.ch])), g3 _ (inT _ (by simp [TabS.ch])), g3 _ (inT _ (by simp [TabS.ch]))⟩
  refine useC (ch := 447 :: lq :: (T.ch ++ tl0.map (·.1))) (rest := rest) (gone_spec Wb g2 T vs ns hi us hus j e Tb (CodeHd.keeps C2 g1) (g3 _ (.head _)) lp lq o1 o2 e1 e2 ps is hps hok (g4 _ hlp hlpn) (g3 _ (.tail _ (.head _))) cs0 tl0 hcs hA (fun p hp => g3 _ (.tail _ (.tail _ (List.mem_append_right _ (List.mem_map_of_mem hp))))) hlen hl2 hnn (fun p hp => (N p (hsub p hp)).1) r) F N hr (fun a ha => ?_) fun v h' tk' led hrr F' N' hf => ?_
  · obtain ⟨o, ho⟩ := hc' a ha
    exact (N _ ho).2
  · obtain ⟨q, lo, os, us', j', e6, e7, tk, cs, tl, rfl, rfl, b1, b2, b3, b4, b5, b6, b7, b8⟩ := hrr
    have hlo : lo ∉ 447 :: lq :: (T.ch ++ tl0.map (·.1)) := fun hm => by
      rcases List.mem_cons.mp hm with e | hm
      · exact b8 (e ▸ .head _)
      rcases List.mem_cons.mp hm with e | hm
      · exact b8 (e ▸ .tail _ (.head _))
      rcases List.mem_append.mp hm with hm | hm
      · exact b8 (.tail _ (.tail _ hm))
      · obtain ⟨p, hp, e⟩ := List.mem_map.mp hm
        exact b6 p (b2 p hp) lo (.tail _ (.head _)) e
    refine k q lo os us' j' e6 e7 tk cs tl h' tk' F' (fun z hz => N' z (@swap_mem _ z [(q, _), (lo, _), (447, _), (lq, _)] (tled w T (us' ++ List.replicate j' Value.none) e7) tl rest hz)) b1 b2 b3 b4 b5 b6 b7 ((hf (lo, PySem.W.listOf os.toArray e6) (.tail _ (.head _))).resolve_left hlo) fun xs hxs hx p hp x hxm => ?_
    rcases hf p (.tail _ (.tail _ (.tail _ (.tail _ (List.mem_append_right _ hp))))) with hm | hm
    · rcases List.mem_cons.mp hm with e | hm
      · exact absurd e (b6 p hp 447 (by simp))
      rcases List.mem_cons.mp hm with e | hm
      · exact absurd e (b6 p hp lq (by simp))
      rcases List.mem_append.mp hm with hm | hm
      · simp only [TabS.ch, List.mem_cons, List.not_mem_nil, or_false] at hm
        rcases hm with e | e | e | e <;> exact absurd e (b6 p hp _ (by simp))
      · obtain ⟨p', hp', e⟩ := List.mem_map.mp hm
        exact fun e2 => hxs p' hp' x hxm (e.trans e2)
    · obtain ⟨o, ho⟩ := hx x hxm
      exact fun e2 => hm (x, o) ho e2.symm
theorem use_moves {lo : Addr} {os : List Value} {ons : List Int} {e : Nat} (W : Wd w g) (F : Fr g L s.heap m) (N : News g L s.heap news) (hm : (lo, PySem.W.listOf os.toArray e) ∈ news) (hi : IntsAre os ons) (hl : ons.length < 1000) (r : Room A 4)
    (k : ∀ tk h' tk', Fr g L h' m → News g L h' news → Q (.int (moves ons) tk) { s with heap := h', toks := tk' }) :
    wpAny (model PySem.Challenge.rw_xm0627_01.row.prog w) A (call (.ref 464) [.ref lo]) Q E s := by
  have H : Has s.heap [(lo, PySem.W.listOf os.toArray e)] := fun p hp => by rw [List.mem_singleton.mp hp]; exact (N _ hm).1
  refine useK (keeps_of_out (moves_spec W F.keep lo (N _ hm).2.2 os ons e hi hl H r) H (fun a ha => ⟨PySem.W.listOf os.toArray e, by rw [List.mem_singleton.mp ha]; exact .head _⟩)) F N fun v h' tk' hv F' N' _ => ?_
  obtain ⟨tk, rfl⟩ := hv
  exact k tk h' tk' F' N'
/-- all is put back -/
theorem use_back {T : TabS} {lo lq : Addr} {ps os us : List Value} {is ons ns : List Int} {j e1 e2 e3 : Nat} {rest : Led} (W : Wd w g) (C1 : CodeHd g 458 454) (F : Fr g L s.heap m)
    (N : News g L s.heap ((454, tabObj #[]) :: (lq, PySem.W.listOf ps.toArray e1) :: (lo, PySem.W.listOf os.toArray e2) :: (tled w T (us ++ List.replicate j Value.none) e3 ++ rest)))
    (q1 : @LT.lt Nat _ 454 lq) (q2 : @LT.lt Nat _ lq T.d) (o3 : @LT.lt Nat _ T.d T.t) (o4 : @LT.lt Nat _ T.t T.la) (o5 : @LT.lt Nat _ T.la T.ln)
    (q3 : @Ne Nat lo 454) (q4 : @Ne Nat lo lq) (q5 : @Ne Nat lo T.t) (q6 : @Ne Nat lo T.d) (q7 : @Ne Nat lo T.la) (q8 : @Ne Nat lo T.ln)
    (hps : IntsAre ps is) (hos : IntsAre os ons) (hlen : is.length = ons.length) (hn : is.length ≤ 100) (hus : IntsAre us ns) (hnj : ns.length + j < 1000) (hok : okB ns.length is.reverse) (hj : is.length ≤ j) (hpn : putN ns.length is.reverse < 10000) (r : Room A 20)
    (hr : ∀ p ∈ rest, p.1 ∉ 454 :: lq :: lo :: T.ch)
    (k : ∀ (us' : List Value) (j' e' : Nat) (tk : Tok) (cs : Array Value) h' tk', Fr g L h' m → News g L h' ((454, tabObj cs) :: (lq, PySem.W.listOf ps.toArray e1) :: (lo, PySem.W.listOf os.toArray e2) :: (tled w T (us' ++ List.replicate j' Value.none) e' ++ rest)) → IntsAre us' (putL ns is.reverse ons.reverse) → (putL ns is.reverse ons.reverse).length + j' = ns.length + j → Q (.int (putN ns.length is.reverse) tk) { s with heap := h', toks := tk' }) :
    wpAny (model PySem.Challenge.rw_xm0627_01.row.prog w) A (call (.ref 459) [.ref T.t, .ref lo, .ref lq]) Q E s := by
  have sub : ∀ p ∈ (454, tabObj #[]) :: (lq, PySem.W.listOf ps.toArray e1) :: (lo, PySem.W.listOf os.toArray e2) :: tled w T (us ++ List.replicate j Value.none) e3, p ∈ (454, tabObj #[]) :: (lq, PySem.W.listOf ps.toArray e1) :: (lo, PySem.W.listOf os.toArray e2) :: (tled w T (us ++ List.replicate j Value.none) e3 ++ rest) := fun p hp => by
    rcases List.mem_cons.mp hp with rfl | hp
    · exact .head _
    rcases List.mem_cons.mp hp with rfl | hp
    · exact .tail _ (.head _)
    rcases List.mem_cons.mp hp with rfl | hp
    · exact .tail _ (.tail _ (.head _))
    exact .tail _ (.tail _ (.tail _ (List.mem_append_left _ hp)))
  have Tb : TabOk g T := ⟨o3, o4, o5, (N _ (sub (T.t, instObj 424 T.d) (by simp))).2.2, (N _ (sub (T.d, dictOf (tabEs w T) 10) (by simp))).2.2, (N _ (sub (T.la, PySem.W.listOf (us ++ List.replicate j Value.none).toArray e3) (by simp))).2.2, (N _ (sub (T.ln, PySem.W.listOf #[] T.en) (by simp))).2.2⟩
  refine' useN (ch := 454 :: lq :: lo :: T.ch) ?C F N sub ?hcov rest ?hs ?k
  case C => exact fun H => back_spec W (by exact F.keep) T Tb C1 (N _ (.head _)).2.2 lo lq (N _ (.tail _ (.tail _ (.head _)))).2.2 (N _ (.tail _ (.head _))).2.2 q1 q2 q3 q4 q5 q6 q7 q8 ps os is ons e1 e2 e3 j hps hos hlen hn us ns hus hnj hok hj hpn H r
  case hcov =>
    intro a ha
    rcases List.mem_cons.mp ha with rfl | ha
    · exact ⟨_, .head _⟩
    rcases List.mem_cons.mp ha with rfl | ha
    · exact ⟨_, .tail _ (.head _)⟩
    rcases List.mem_cons.mp ha with rfl | ha
    · exact ⟨_, .tail _ (.tail _ (.head _))⟩
    obtain ⟨o, ho⟩ := tled_cov (w := w) (arr := us ++ List.replicate j Value.none) (e := e3) a ha
    exact ⟨o, .tail _ (.tail _ (.tail _ ho))⟩
  case hs => exact fun p hp => ⟨.tail _ (.tail _ (.tail _ (List.mem_append_right _ hp))), hr p hp⟩
  case k =>
    rintro v h' tk' led ⟨us', j', e', tk, cs, rfl, rfl, b1, b2⟩ F' N' -
    exact k us' j' e' tk cs h' tk' F' N' b1 b2
end
/-- the ring: the place of the i-th turn -/
noncomputable def atJ (n : Nat) (e : Int) : Nat → Int
  | 0 => 0
  | i + 1 => (atJ n e i + e - 1).fmod (n + (i : Int) * (0 - 1))
noncomputable def plcs (n : Nat) (e : Int) (i : Nat) : List Int := (List.range i).map fun k => atJ n e (k + 1)
noncomputable def ppl (fs gp : Int) (n : Nat) : List Int := (List.range n).map fun i : Nat => fs + gp * (i : Int)
noncomputable def okPb : Nat → List Int → Bool
  | _, [] => true
  | b, k :: r => decide (0 ≤ k) && decide (k < b) && okPb (b - 1) r
noncomputable def okBb : Nat → List Int → Bool
  | _, [] => true
  | b, k :: r => decide (0 ≤ k) && decide (k ≤ b) && okBb (b + 1) r
theorem okPb_ok : ∀ {b : Nat} {l : List Int}, okPb b l = true → okP b l
  | _, [], _ => trivial
  | b, k :: r, h => by
    simp only [okPb, Bool.and_eq_true, decide_eq_true_eq] at h
    exact ⟨h.1.1, h.1.2, okPb_ok h.2⟩
theorem okBb_ok : ∀ {b : Nat} {l : List Int}, okBb b l = true → okB b l
  | _, [], _ => trivial
  | b, k :: r, h => by
    simp only [okBb, Bool.and_eq_true, decide_eq_true_eq] at h
    exact ⟨h.1.1, h.1.2, okBb_ok h.2⟩
section
variable (f : Int → Int)
theorem eraseIdx_map' : ∀ (l : List Int) (k : Nat), (l.map f).eraseIdx k = (l.eraseIdx k).map f
  | [], _ => by simp
  | a :: r, 0 => by simp
  | a :: r, k + 1 => by simp [eraseIdx_map' r k]
theorem insertIdx_map' (x : Int) : ∀ (l : List Int) (k : Nat), (l.map f).insertIdx k (f x) = (l.insertIdx k x).map f
  | l, 0 => by simp
  | [], k + 1 => by simp
  | a :: r, k + 1 => by simp [insertIdx_map' x r k]
theorem getD_map' {l : List Int} {k : Nat} (h : k < l.length) : (l.map f).getD k 0 = f (l.getD k 0) := by
  rw [List.getD_eq_getElem?_getD, List.getD_eq_getElem?_getD, List.getElem?_map, List.getElem?_eq_getElem h]; rfl
theorem goneO_map : ∀ (is ls : List Int), okP ls.length is → goneO (ls.map f) is = (goneO ls is).map f
  | [], _, _ => rfl
  | k :: r, ls, h => by
    obtain ⟨h0, h1, h2⟩ := h
    have hk : k.toNat < ls.length := by omega
    have hl : (ls.eraseIdx k.toNat).length = ls.length - 1 := by rw [List.length_eraseIdx, if_pos hk]
    simp only [goneO, List.map_cons]
    rw [getD_map' f hk, eraseIdx_map', goneO_map r _ (hl ▸ h2)]
theorem goneL_map : ∀ (is ls : List Int), goneL (ls.map f) is = (goneL ls is).map f
  | [], _ => rfl
  | k :: r, ls => by simp only [goneL]; rw [eraseIdx_map', goneL_map r]
theorem goneN_map : ∀ (is ls : List Int), goneN (ls.map f) is = goneN ls is
  | [], _ => rfl
  | k :: r, ls => by simp only [goneN, List.length_map]; rw [eraseIdx_map', goneN_map r]
theorem putL_map : ∀ (ks xs ls : List Int), putL (ls.map f) ks (xs.map f) = (putL ls ks xs).map f
  | [], xs, ls => by simp [putL]
  | k :: ks, [], ls => by simp [putL]
  | k :: ks, x :: xs, ls => by simp only [putL, List.map_cons]; rw [insertIdx_map', putL_map ks xs]
variable (hf : ∀ a b, f a < f b ↔ a < b)
include hf
theorem cntB_congr {p q : Nat → Bool} : ∀ n, (∀ j, j < n → p j = q j) → cntB p n = cntB q n
  | 0, _ => rfl
  | n + 1, h => by unfold cntB; rw [cntB_congr n fun j hj => h j (by omega), h n (by omega)]
theorem sumB_congr {p q : Nat → Nat} : ∀ n, (∀ j, j < n → p j = q j) → sumB p n = sumB q n
  | 0, _ => rfl
  | n + 1, h => by unfold sumB; rw [sumB_congr n fun j hj => h j (by omega), h n (by omega)]
theorem moves_map (l : List Int) : moves (l.map f) = moves l := by
  unfold moves
  rw [List.length_map]
  refine sumB_congr f hf _ fun i hi => cntB_congr f hf _ fun j hj => ?_
  rw [getD_map' f (show j < l.length by omega), getD_map' f hi]
  exact decide_eq_decide.mpr (hf _ _)
end
theorem ppl_map (fs gp : Int) (n : Nat) : ppl fs gp n = (ppl 0 1 n).map fun x => fs + gp * x := by
  simp [ppl]
theorem ppl_len {fs gp : Int} {n : Nat} : (ppl fs gp n).length = n := by simp [ppl]
theorem aff_lt {fs gp : Int} (h : 0 < gp) (a b : Int) : fs + gp * a < fs + gp * b ↔ a < b := by
  constructor
  · intro h1
    have h2 : gp * a < gp * b := by omega
    exact Int.lt_of_mul_lt_mul_left h2 (by omega)
  · intro h1
    have h2 := Int.mul_lt_mul_of_pos_left h1 h
    omega
/-- what is asked of the ring, on the places themselves -/
noncomputable def chkJ (n : Nat) (e : Int) : Bool :=
  let is := plcs n e n
  okPb n is && okBb 0 is.reverse && (goneL (ppl 0 1 n) is == []) && (goneO (ppl 0 1 n) is == (List.range n).map fun turn : Nat => (ppl 0 1 n).getD (ring n e (turn + 1) turn).toNat 0) &&
  ((List.range n).all fun turn : Nat => decide (0 ≤ ring n e (turn + 1) turn) && decide (ring n e (turn + 1) turn < n)) &&
  (goneN (ppl 0 1 n) is == moves (goneO (ppl 0 1 n) is)) && (putN 0 is.reverse == moves (goneO (ppl 0 1 n) is)) && (putL [] is.reverse (goneO (ppl 0 1 n) is).reverse == ppl 0 1 n) && decide (moves (goneO (ppl 0 1 n) is) < 1000)
theorem chkJ_all : ∀ n, n < 6 → ∀ e, e < 20 → chkJ (n + 3) ((e : Nat) + 1 : Int) = true := by decide +kernel
theorem ring_law {fs gp ev : Int} {n : Nat} (h1 : 3 ≤ n) (h2 : n ≤ 8) (h3 : 1 ≤ ev) (h4 : ev ≤ 20) (hg : 0 < gp) :
    okP n (plcs n ev n) ∧ okB 0 (plcs n ev n).reverse ∧ goneL (ppl fs gp n) (plcs n ev n) = [] ∧
    goneO (ppl fs gp n) (plcs n ev n) = ((List.range n).map fun turn : Nat => (ppl fs gp n).getD (ring n ev (turn + 1) turn).toNat 0) ∧
    (∀ turn : Nat, turn < n → 0 ≤ ring n ev (turn + 1) turn ∧ ring n ev (turn + 1) turn < n) ∧
    goneN (ppl fs gp n) (plcs n ev n) = moves (goneO (ppl fs gp n) (plcs n ev n)) ∧ putN 0 (plcs n ev n).reverse = moves (goneO (ppl fs gp n) (plcs n ev n)) ∧
    putL [] (plcs n ev n).reverse (goneO (ppl fs gp n) (plcs n ev n)).reverse = ppl fs gp n ∧ moves (goneO (ppl fs gp n) (plcs n ev n)) < 1000 := by
  obtain ⟨e, he⟩ := Int.eq_ofNat_of_zero_le (show 0 ≤ ev - 1 by omega)
  obtain ⟨k, hk⟩ : ∃ k, n = k + 3 := ⟨n - 3, by omega⟩
  subst hk
  have hev : ev = (e : Nat) + 1 := by omega
  subst hev
  have h := chkJ_all k (by omega) e (by omega)
  simp only [chkJ, Bool.and_eq_true, List.all_eq_true, List.mem_range, decide_eq_true_eq, beq_iff_eq] at h
  obtain ⟨⟨⟨⟨⟨⟨⟨⟨a1, a2⟩, a3⟩, a4⟩, a5⟩, a6⟩, a7⟩, a8⟩, a9⟩ := h
  have hok := okPb_ok a1
  have hm := ppl_map fs gp (k + 3)
  have hO : goneO (ppl fs gp (k + 3)) (plcs ((k + 3 : Nat) : Int).toNat ((e : Nat) + 1) (k + 3)) = (goneO (ppl 0 1 (k + 3)) (plcs (k + 3) ((e : Nat) + 1) (k + 3))).map fun x => fs + gp * x := by
    rw [hm]
    exact goneO_map _ _ _ (by rw [ppl_len]; exact hok)
  replace hO : goneO (ppl fs gp (k + 3)) (plcs (k + 3) ((e : Nat) + 1) (k + 3)) = (goneO (ppl 0 1 (k + 3)) (plcs (k + 3) ((e : Nat) + 1) (k + 3))).map fun x => fs + gp * x := hO
  have hM : moves (goneO (ppl fs gp (k + 3)) (plcs (k + 3) ((e : Nat) + 1) (k + 3))) = moves (goneO (ppl 0 1 (k + 3)) (plcs (k + 3) ((e : Nat) + 1) (k + 3))) := by
    rw [hO]; exact moves_map _ (fun a b => aff_lt hg a b) _
  refine ⟨hok, okBb_ok a2, ?_, ?_, fun turn ht => ⟨(a5 turn ht).1, (a5 turn ht).2⟩, ?_, ?_, ?_, ?_⟩
  · rw [hm, goneL_map, a3]; rfl
  · rw [hO, a4, List.map_map]
    refine List.map_congr_left fun turn ht => ?_
    rw [List.mem_range] at ht
    have h5 := a5 turn ht
    rw [hm]
    simp only [Function.comp]
    rw [getD_map' _ (by rw [ppl_len]; omega)]
  · rw [hM, hm, goneN_map]; exact a6
  · rw [hM]; exact a7
  · rw [hO, ← List.map_reverse, hm]
    have := putL_map (fun x => fs + gp * x) (plcs (k + 3) ((e : Nat) + 1) (k + 3)).reverse (goneO (ppl 0 1 (k + 3)) (plcs (k + 3) ((e : Nat) + 1) (k + 3))).reverse []
    rw [List.map_nil] at this
    rw [this, a8]
  · rw [hM]; exact a9
noncomputable def fac : Nat → Nat
  | 0 => 1
  | b + 1 => (b + 1) * fac b
/-- the figures of a number -/
noncomputable def figs (few : Nat) (number : Nat) : Nat → List Int
  | 0 => []
  | b + 1 => (((number / fac b) % (b + 1) : Nat) : Int) :: figs few number b
/-- the next list is further on -/
noncomputable def lexLt : List Int → List Int → Bool
  | [], [] => false
  | [], _ :: _ => true
  | _ :: _, [] => false
  | a :: r, b :: q => decide (a < b) || (decide (a = b) && lexLt r q)
theorem lexLt_map {fs gp : Int} (h : 0 < gp) : ∀ a b : List Int, lexLt (a.map fun x => fs + gp * x) (b.map fun x => fs + gp * x) = lexLt a b
  | [], [] => rfl
  | [], _ :: _ => rfl
  | _ :: _, [] => rfl
  | a :: r, b :: q => by
    simp only [List.map_cons, lexLt]
    rw [lexLt_map h r q, decide_eq_decide.mpr (aff_lt h a b)]
    have h1 : (fs + gp * a = fs + gp * b) ↔ a = b := by
      constructor
      · intro h1
        have h2 : gp * a = gp * b := by omega
        exact Int.eq_of_mul_eq_mul_left (by omega) h2
      · intro h1; rw [h1]
    rw [decide_eq_decide.mpr h1]
noncomputable def chkF (few number : Nat) : Bool :=
  let is := figs few number few
  okPb few is && (goneN (ppl 0 1 few) is == moves (goneO (ppl 0 1 few) is)) && decide (moves (goneO (ppl 0 1 few) is) < 1000)
noncomputable def chkX (few number : Nat) : Bool := lexLt (goneO (ppl 0 1 few) (figs few number few)) (goneO (ppl 0 1 few) (figs few (number + 1) few))
theorem chkF_3 : ∀ n, n < 6 → chkF 3 n = true := by decide +kernel
theorem chkF_4 : ∀ n, n < 24 → chkF 4 n = true := by decide +kernel
theorem chkX_3 : ∀ n, n < 5 → chkX 3 n = true := by decide +kernel
theorem chkX_4 : ∀ n, n < 23 → chkX 4 n = true := by decide +kernel
/-- how many numbers a few people have -/
noncomputable def facs : Nat → Nat
  | 3 => 6
  | 4 => 24
  | _ => 0
theorem chkF_all {few number : Nat} (h : few = 3 ∨ few = 4) (hn : number < facs few) : chkF few number = true := by
  rcases h with rfl | rfl
  · exact chkF_3 _ hn
  · exact chkF_4 _ hn
theorem chkX_all {few number : Nat} (h : few = 3 ∨ few = 4) (hn : number + 1 < facs few) : chkX few number = true := by
  rcases h with rfl | rfl
  · exact chkX_3 _ (by simp only [facs] at hn; omega)
  · exact chkX_4 _ (by simp only [facs] at hn; omega)
theorem fig_law {fs gp : Int} {few number : Nat} (h : few = 3 ∨ few = 4) (hn : number < facs few) (hg : 0 < gp) :
    okP few (figs few number few) ∧ goneN (ppl fs gp few) (figs few number few) = moves (goneO (ppl fs gp few) (figs few number few)) ∧ moves (goneO (ppl fs gp few) (figs few number few)) < 1000 := by
  have h1 := chkF_all h hn
  simp only [chkF, Bool.and_eq_true, decide_eq_true_eq, beq_iff_eq] at h1
  obtain ⟨⟨a1, a2⟩, a3⟩ := h1
  have hok := okPb_ok a1
  have hO : goneO (ppl fs gp few) (figs few number few) = (goneO (ppl 0 1 few) (figs few number few)).map fun x => fs + gp * x := by
    rw [ppl_map]; exact goneO_map _ _ _ (by rw [ppl_len]; exact hok)
  have hM : moves (goneO (ppl fs gp few) (figs few number few)) = moves (goneO (ppl 0 1 few) (figs few number few)) := by
    rw [hO]; exact moves_map _ (fun a b => aff_lt hg a b) _
  refine ⟨hok, ?_, by rw [hM]; exact a3⟩
  rw [hM, ppl_map, goneN_map]; exact a2
theorem fig_next {fs gp : Int} {few number : Nat} (h : few = 3 ∨ few = 4) (hn : number + 1 < facs few) (hg : 0 < gp) :
    lexLt (goneO (ppl fs gp few) (figs few number few)) (goneO (ppl fs gp few) (figs few (number + 1) few)) = true := by
  have key : ∀ k, k < facs few → goneO (ppl fs gp few) (figs few k few) = (goneO (ppl 0 1 few) (figs few k few)).map fun x => fs + gp * x := by
    intro k hk
    have h1 := chkF_all h hk
    simp only [chkF, Bool.and_eq_true, decide_eq_true_eq, beq_iff_eq] at h1
    rw [ppl_map]; exact goneO_map _ _ _ (by rw [ppl_len]; exact okPb_ok h1.1.1)
  rw [key _ (by omega), key _ hn, lexLt_map hg]
  exact chkX_all h hn
section
variable {prog : Program} {w : World} {A : Around} {E : Value → Shared → Prop} {s : Shared} {a b : Addr} {xs ys : List Value} {ns : List Int} {Q : Value → Shared → Prop} {h₀ : Heap} {L : Addr} {news : Led}
theorem int_carried : ∀ {vs : List Value} {ns : List Int}, IntsAre vs ns → CarriedAll vs (ns.map PyData.int)
  | _, _, .nil => .nil
  | _, _, .cons _ t r => .cons (.int _ t) (int_carried r)
theorem int_eqv : ∀ ns : List Int, PyData.eqvAll (ns.map PyData.int) (ns.map PyData.int) = true
  | [] => by simp [PyData.eqvAll]
  | a :: r => by
    have := int_eqv r
    simp [PyData.eqvAll, PyData.eqv, this]
theorem int_lay : ∀ ns : List Int, PyData.canLayAll0 (ns.map PyData.int) = true
  | [] => by simp [PyData.canLayAll0]
  | a :: r => by
    have := int_lay r
    simp [PyData.canLayAll0, PyData.canLay0, this]
theorem int_depth : ∀ ns : List Int, PyData.depthAll (ns.map PyData.int) = 0
  | [] => by simp [PyData.depthAll]
  | a :: r => by
    have := int_depth r
    simp [PyData.depthAll, PyData.depth, this]
theorem int_shaped (ns : List Int) : SeqAt.shaped (.list (ns.map PyData.int)) = true := by
  simp only [SeqAt.shaped, PyData.canLay0, PyData.depth, int_lay, int_depth]
  decide
/-- two lists of the same ints -/
theorem ne_ints (ha : s.heap.IsList a xs.toArray) (hb : s.heap.IsList b ys.toArray) (hi : IntsAre xs ns) (hj : IntsAre ys ns) (hu : A.units + 64 < cLine) (h : Q (.bool false) s) :
    wpAny (model prog w) A (compareOp .NotEq (.ref a) (.ref b)) Q E s :=
  ne_dataH (reads_newData ha (int_carried hi)) (reads_newData hb (int_carried hj)) (int_shaped _) (int_shaped _) hu (by
    rw [show PyData.eqv (.list (ns.map PyData.int)) (.list (ns.map PyData.int)) = true by simp only [PyData.eqv]; exact int_eqv ns]
    exact h)
end
section
variable {w : World} {A : Around} {s : Shared} {g : Heap} {E : Value → Shared → Prop} {Q : Value → Shared → Prop} {L : Addr} {m : Str → Option Value} {news : Led}
theorem use_goes {n i : Nat} {e : Int} {tm te tt : Tok} (W : Wd w g) (F : Fr g L s.heap m) (N : News g L s.heap news) (hi : i < n) (hn : n < 1000) (r : Room A 4)
    (k : ∀ tk h' tk', Fr g L h' m → News g L h' news → (∀ b o, s.heap.get? b = some o → h'.get? b = some o) → Q (.int (ring n e (i + 1) i) tk) { s with heap := h', toks := tk' }) :
    wpAny (model PySem.Challenge.rw_xm0627_01.row.prog w) A (call (.ref 471) [.int n tm, .int e te, .int (0 + (i : Int) + 1) tt]) Q E s := by
  have e1 : (0 + (i : Int) + 1) = (i : Int) + 1 := by omega
  have e2 : ((i : Int) + 1 - 1).toNat = i := by omega
  rw [e1]
  have H : Has s.heap [] := fun p hp => nomatch hp
  have C := goes_spec W F.keep (A := A) (E := E) n e (i + 1) tm te tt (by omega) (by omega) (by omega) r
  rw [e2] at C
  refine useK (R := fun v => ∃ tk, v = .int (ring n e (i + 1) i) tk) (wpAny_mono C (fun v s' hl => ?_) fun _ _ y => y) F N fun v h' tk' hv F' N' hk => ?_
  · obtain ⟨h', tk', l, rfl, hk, hl, hv⟩ := hl
    exact ⟨hv, h', tk', rfl, fun b o e => hk b (by simp) o e⟩
  · obtain ⟨tk, rfl⟩ := hv
    exact k tk h' tk' F' N' hk
end
theorem row_any {us : List Value} {ns : List Int} (hi : IntsAre us ns) {j n : Nat} (h : ns.length + 1 = n) : (List.range n).map (fun i => (us ++ List.replicate j Value.none).getD i .none) = us ++ [Value.none] := by
  have hl := hi.length
  apply List.ext_getElem?
  intro i
  by_cases h1 : i < us.length
  · rw [List.getElem?_map, List.getElem?_range (by omega), List.getElem?_append_left h1]
    simp only [Option.map_some]
    rw [List.getD_eq_getElem?_getD, List.getElem?_append_left h1, List.getElem?_eq_getElem h1]; rfl
  · by_cases h2 : i = us.length
    · subst h2
      rw [List.getElem?_map, List.getElem?_range (by omega)]
      cases j <;> simp [List.replicate_succ]
    · rw [List.getElem?_eq_none (by simp; omega), List.getElem?_eq_none (by simp; omega)]
theorem notinB {T : TabS} {lq lo x : Addr} (h1 : @Ne Nat x 454) (h2 : @Ne Nat x lq) (h3 : @Ne Nat x lo) (h4 : @Ne Nat x T.t) (h5 : @Ne Nat x T.d) (h6 : @Ne Nat x T.la) (h7 : @Ne Nat x T.ln) : x ∉ 454 :: lq :: lo :: T.ch := by
  simp only [TabS.ch, List.mem_cons, List.not_mem_nil, or_false, not_or]
  exact ⟨h1, h2, h3, h4, h5, h6, h7⟩
theorem notinC {T : TabS} {lq lo x : Addr} (h1 : @Ne Nat x 454) (h2 : @LT.lt Nat _ x lq) (h3 : @Ne Nat x lo) (o2 : @LT.lt Nat _ lq T.d) (o3 : @LT.lt Nat _ T.d T.t) (o4 : @LT.lt Nat _ T.t T.la) (o5 : @LT.lt Nat _ T.la T.ln) : x ∉ 454 :: lq :: lo :: T.ch := by
  have a1 := Nat.lt_trans h2 o2
  have a2 := Nat.lt_trans a1 o3
  have a3 := Nat.lt_trans a2 o4
  have a4 := Nat.lt_trans a3 o5
  exact notinB h1 (Nat.ne_of_lt h2) h3 (Nat.ne_of_lt a2) (Nat.ne_of_lt a1) (Nat.ne_of_lt a3) (Nat.ne_of_lt a4)
theorem cast_succ (n : Nat) : ((n : Int) + 1) = ((n + 1 : Nat) : Int) := by omega
open PySem.AutoSeq1 (wpAny_loadPart')
open PySem.MeetsSeq PySem.MeetsSeq2 PySem.MeetsSeq3 PySem.SeqRoads2 PySem.SeqAt
theorem lex_wit : ∀ {a b : List Int}, lexLt a b = true → a.length = b.length → ∃ j, j < a.length ∧ (∀ i, i < j → a.getD i 0 = b.getD i 0) ∧ a.getD j 0 < b.getD j 0
  | [], [], h, _ => by simp [lexLt] at h
  | [], _ :: _, _, h => by simp at h
  | _ :: _, [], _, h => by simp at h
  | a :: r, b :: q, h, hl => by
    simp only [lexLt, Bool.or_eq_true, Bool.and_eq_true, decide_eq_true_eq] at h
    rcases h with h | ⟨rfl, h⟩
    · exact ⟨0, by simp, fun i hi => absurd hi (by omega), by simpa using h⟩
    · obtain ⟨j, h1, h2, h3⟩ := lex_wit h (by simpa using hl)
      refine ⟨j + 1, by simpa using h1, fun i hi => ?_, by simpa using h3⟩
      cases i with
      | zero => simp
      | succ i => simpa using h2 i (by omega)
section
theorem ge_loopAt (l b : Addr) (items items2 : Array Value) (n n2 : Nat) (dd dd2 : Option Addr) (sl sl2 : Array (Option Value)) (j : Nat) (x y : Int) (t u : Tok) (hx : items[j]? = some (.int x t)) (hy : items2[j]? = some (.int y u)) (hxy : x < y)
    (he : ∀ i, i < j → ∃ z t u, items[i]? = some (.int z t) ∧ items2[i]? = some (.int z u)) (k : Nat) :
    ∀ i : Nat, i ≤ j → j - i = k → Meets (Builtin.«list.__eq__.loop» ⟨[.ref l, .ref b, rawInt i, rawInt 5], []⟩)
      (fun A R s => s.heap.get? l = some { cls := .type "list", dict := dd, data := .seq items n, slots := sl } ∧ s.heap.get? b = some { cls := .type "list", dict := dd2, data := .seq items2 n2, slots := sl2 } ∧
        R (.ok (.ret (.bool false))) s) := by
  induction k with
  | zero =>
    intro i hij hk prog w A R s h
    obtain ⟨hp, g, d, tk, os⟩ := s; obtain ⟨hl, hb, h⟩ := h
    have hij' : i = j := by omega
    subst hij'
    wp_walk using wpAny_loadPart' hl, wpAny_loadPart' hb
    have hi1 : items[((i : Nat) : Int).toNat]? = some (.int x t) := by simpa using hx
    have hi2 : items2[((i : Nat) : Int).toNat]? = some (.int y u) := by simpa using hy
    rw [hi1, hi2]
    refine wpAny_bind (EqAt.int_int x t y u prog w _ _ ?_)
    have hne : (x == y) = false := by simp; omega
    rw [hne]
    wp_walk using wpAny_loadPart' hl, wpAny_loadPart' hb
    rw [hi1, hi2]
    refine wpAny_bind (richCompare_gives (op := .GtE) (typeIs_int _ x t) (typeIs_int _ y u) F.slot_int_ge F.entry_int_ge (F.args_int_ge_2 _ _) (gives_int_ge x y t u) (fun x => nomatch x) ?_)
    have hd : decide (x ≥ y) = false := by simp; omega
    rw [hd]
    exact wpAny_pure h
  | succ k ih =>
    intro i hij hk prog w A R s h
    obtain ⟨hp, g, d, tk, os⟩ := s; obtain ⟨hl, hb, h⟩ := h
    obtain ⟨z, t', u', h1, h2⟩ := he i (by omega)
    wp_walk using wpAny_loadPart' hl, wpAny_loadPart' hb
    have hi1 : items[((i : Nat) : Int).toNat]? = some (.int z t') := by simpa using h1
    have hi2 : items2[((i : Nat) : Int).toNat]? = some (.int z u') := by simpa using h2
    have hc : ((i : Int) + 1) = ((i + 1 : Nat) : Int) := by push_cast; rfl
    rw [hi1, hi2]
    refine wpAny_bind (EqAt.int_int z t' z u' prog w _ _ ?_)
    have hne : (z == z) = true := by simp
    rw [hne]
    wp_walk
    rw [hc]
    exact ⟨plainId_quiet plain_eq_loop _, codeAny_builtin entry_eq_loop (by
      rw [Around.under_plainId plain_eq_loop _]
      exact ih (i + 1) (nsubL (by assumption)) (nsub1 (by assumption)) prog w A R _ ⟨hl, hb, h⟩)⟩
theorem list_geAt (l b : Addr) (items items2 : Array Value) (n n2 : Nat) (dd dd2 : Option Addr) (sl sl2 : Array (Option Value)) (j : Nat) (x y : Int) (t u : Tok) (hx : items[j]? = some (.int x t)) (hy : items2[j]? = some (.int y u)) (hxy : x < y)
    (he : ∀ i, i < j → ∃ z t u, items[i]? = some (.int z t) ∧ items2[i]? = some (.int z u)) :
    Meets (Builtin.«list.__ge__» ⟨[.ref l, .ref b], []⟩)
      (fun A R s => s.heap.get? l = some { cls := .type "list", dict := dd, data := .seq items n, slots := sl } ∧ s.heap.get? b = some { cls := .type "list", dict := dd2, data := .seq items2 n2, slots := sl2 } ∧
        R (.ok (.ret (.bool false))) s) := by
  intro prog w A R s h
  obtain ⟨hp, g, d, tk, os⟩ := s; obtain ⟨hl, hb, h⟩ := h
  have f3 := AutoSeq1.sub_list_list
  wp_walk using wpAny_loadPart' hl, wpAny_loadPart' hb
  exact ⟨plainId_quiet plain_eq_loop _, codeAny_builtin entry_eq_loop (by
    rw [Around.under_plainId plain_eq_loop _]
    exact ge_loopAt l b items items2 n n2 dd dd2 sl sl2 j x y t u hx hy hxy he _ 0 (Nat.zero_le _) rfl prog w A R _ ⟨hl, hb, h⟩)⟩
variable {prog : Program} {w : World} {A : Around} {E : Value → Shared → Prop} {s : Shared} {a b : Addr} {xs ys : List Value} {ns ms : List Int} {Q : Value → Shared → Prop}
/-- a list is not further on than the other -/
theorem ge_ints (ha : s.heap.IsList a xs.toArray) (hb : s.heap.IsList b ys.toArray) (hi : IntsAre xs ns) (hj : IntsAre ys ms) (hlt : lexLt ns ms = true) (hlen : ns.length = ms.length) (hu : A.units < cLine) (h : Q (.bool false) s) :
    wpAny (model prog w) A (compareOp .GtE (.ref a) (.ref b)) Q E s := by
  obtain ⟨j, h1, h2, h3⟩ := lex_wit hlt hlen
  have at1 : ∀ i, i < ns.length → ∃ t, xs.toArray[i]? = some (.int (ns.getD i 0) t) := fun i hi' => by
    obtain ⟨t, e⟩ := ints_at hi hi'
    exact ⟨t, by rw [List.getElem?_toArray, e, List.getD_eq_getElem?_getD, List.getElem?_eq_getElem hi']; rfl⟩
  have at2 : ∀ i, i < ms.length → ∃ t, ys.toArray[i]? = some (.int (ms.getD i 0) t) := fun i hi' => by
    obtain ⟨t, e⟩ := ints_at hj hi'
    exact ⟨t, by rw [List.getElem?_toArray, e, List.getD_eq_getElem?_getD, List.getElem?_eq_getElem hi']; rfl⟩
  obtain ⟨t, hx⟩ := at1 j h1
  obtain ⟨u, hy⟩ := at2 j (hlen ▸ h1)
  obtain ⟨⟨cls, dd, data, sl⟩, ho, hc, n, hd⟩ := id ha
  obtain ⟨⟨cls2, dd2, data2, sl2⟩, ho2, hc2, n2, hd2⟩ := id hb
  simp only at hc hd hc2 hd2
  subst hc hd hc2 hd2
  show wpAny _ _ (richCompare .GtE (.ref a) (.ref b)) _ _ _
  exact richCompare_meets_room (op := .GtE) ⟨_, ho, rfl⟩ ⟨_, ho2, rfl⟩ F.slot_list_ge F.entry_list_ge (F.args_list_ge_2 _ _) (list_geAt a b xs.toArray ys.toArray n n2 dd dd2 sl sl2 j _ _ t u hx hy h3 fun i hi' => by
      obtain ⟨t, e1⟩ := at1 i (Nat.lt_trans hi' h1)
      obtain ⟨u, e2⟩ := at2 i (hlen ▸ Nat.lt_trans hi' h1)
      exact ⟨_, t, u, e1, by rw [e2, h2 i hi']⟩)
    ⟨ho, ho2, show Value.bool false ≠ Value.notImplemented ∧ Q (.bool false) s from ⟨(fun x => nomatch x), h⟩⟩ hu
theorem int_eqvE (ha : s.heap.IsList a xs.toArray) (hb : s.heap.IsList b ys.toArray) (hi : IntsAre xs ns) (hj : IntsAre ys ns) (hu : A.units + 64 < cLine) (h : Q (.bool true) s) :
    wpAny (model prog w) A (compareOp .Eq (.ref a) (.ref b)) Q E s :=
  eq_dataH (reads_newData ha (int_carried hi)) (reads_newData hb (int_carried hj)) (int_shaped _) (int_shaped _) hu (by
    rw [show PyData.eqv (.list (ns.map PyData.int)) (.list (ns.map PyData.int)) = true by simp only [PyData.eqv]; exact int_eqv ns]
    exact h)
end
section
variable {prog : Program} {w : World} {A : Around} {E : Value → Shared → Prop} {s : Shared} {g : Heap} {L : Addr} {m : Str → Option Value} {env : Env} {news : Led}
/-- a comprehension over a range whose test never holds -/
theorem comp_range0 {elt c : PySem.Expr} {x : Str} {scope : Scope} {cl : List (Str × Addr)} {G : Int → Value → Prop} {Q : Value → Shared → Prop} {rg : Addr} {a₀ b₀ : Int} {t₀ u₀ v₀ : Tok} {n : Nat} (hh : A.handled = none)
    (hr : IsRange s.heap rg a₀ b₀ 1 t₀ u₀ v₀) (hsmall : Builtin.Range.small a₀ b₀ 1 = true) (hn : Builtin.Range.rangeSize a₀ b₀ 1 = (n : Int)) (hsz : n ≤ sizeLine) (F : Fr g L s.heap m) (N : News g L s.heap news)
    (htest : ∀ (C : Addr) (i : Nat) (t : Tok) (s₂ : Shared) (m₂ : Str → Option Value) (E' : Value → Shared → Prop), s.heap.objs.size ≤ C → i < n → s₂.heap.Ns C m₂ → m₂ x = some (.int (a₀ + i) t) → (∀ b o, s.heap.get? b = some o → s₂.heap.get? b = some o) →
      wpAny (model prog w) A (isTrue c (compEnvC scope cl C env) (eval c (compEnvC scope cl C env))) (fun ok s₃ => ok = false ∧ Keeps s₂ s₃) E' s₂)
    (hQ : ∀ D e h' tk, Fr g L h' m → News g L h' ((D, W.listOf #[] e) :: news) → (∀ p ∈ news, p.1 ≠ D) → Q (.ref D) { s with heap := h', toks := tk }) :
    CompAt prog w A env elt x [c] scope cl (fun _ => false) G E Q (.ref rg) s := by
  unfold CompAt
  have up : ∀ (s₃ : Shared), (∀ b o, b ∉ [s.heap.objs.size] → (s.heap.push { cls := .type "range_iterator", data := .fields #[rawInt a₀, rawInt (Builtin.Range.rangeSize a₀ b₀ 1), rawInt 1] }).get? b = some o → s₃.heap.get? b = some o) → ∀ b o, s.heap.get? b = some o → s₃.heap.get? b = some o :=
    fun s₃ hk b o e => hk b o (fun hm => by rcases List.mem_cons.mp hm with rfl | hm; exact Nat.lt_irrefl _ (Heap.lt_size e); cases hm) (Heap.get?_push_of_some _ e)
  refine wpAny_pyIter_range hr hsmall ⟨s.heap.objs.size, [s.heap.objs.size], [s.heap.objs.size], n, _, _, rfl, (Walks.range hh _ a₀ 1 n).bound, hsz, (by show IsRangeIter _ _ _ _ _; rw [hn]; simpa using Heap.get?_push_size _ rfl), ?_, ⟨?_, ?_⟩, ?_⟩
  · intro b hb
    show b < (s.heap.push _).objs.size
    rw [Heap.size_push]
    rcases List.mem_cons.mp hb with rfl | hb
    · exact Nat.lt_succ_self _
    · cases hb
  · intro C i v s₃ m₃ E' hC hP hn' hm hk _
    obtain ⟨hi, t, rfl⟩ := hP
    rw [Int.mul_one] at hm
    simp only [List.forIn_cons, List.forIn_nil, if_true]
    refine wpAny_bind (wpAny_bind (wpAny_mono (htest C i t s₃ m₃ E' (Nat.le_of_succ_le (by simpa [Heap.size_push] using hC)) hi hn' hm (up s₃ hk)) (fun ok s₄ h₄ => ?_) fun _ _ e => e))
    obtain ⟨rfl, h₄⟩ := h₄
    exact wpAny_pure (wpAny_pure ⟨rfl, h₄⟩)
  · intro C i v s₃ m₃ E' hC hP hp
    cases hp
  · intro D h' tk ys vs' hnew hlD hplD hlen hP hF hk
    have keep : ∀ b o, s.heap.get? b = some o → h'.get? b = some o := up { s with heap := h' } hk
    have hft : vs'.filter (fun _ => false) = [] := by simp
    rw [hft] at hF
    have hys : ys = #[] := by
      have := hF.length
      apply Array.toList_inj.mp
      simpa using this.symm
    subst hys
    obtain ⟨e, he⟩ := hplD
    have hold : s.heap.get? D = none := by
      cases q : s.heap.get? D with
      | none => rfl
      | some o => rw [Heap.get?_push_of_some _ q] at hnew; cases hnew
    have hne : ∀ q ∈ news, q.1 ≠ D := fun q hq z => by rw [← z, (N q hq).1] at hold; cases hold
    obtain ⟨oL, es, ep, hL, _⟩ := id F.ns
    refine hQ D e h' tk (F.keeps keep) ?_ hne
    intro q hq
    rcases List.mem_cons.mp hq with rfl | hq
    · refine ⟨he, fun z => ?_, ?_⟩
      · have z : D = L := z
        rw [z, hL] at hold; cases hold
      · cases q : g.get? D with
        | none => rfl
        | some o => rw [F.keep _ _ q] at hold; cases hold
    · exact ⟨keep _ _ (N q hq).1, (N q hq).2⟩
end
section
variable {prog : Program} {w : World} {A : Around} {E : Value → Shared → Prop} {s : Shared} {g : Heap} {L : Addr} {m : Str → Option Value} {env : Env} {news : Led}
/-- a comprehension that is stored under a name: its source stands -/
noncomputable def CompAsg (prog : Program) (w : World) (A : Around) (env : Env) (elt : PySem.Expr) (x y : Str) (ifs : List PySem.Expr) (scope : Scope) (cl : List (Str × Addr)) (p : Value → Bool) (G : Int → Value → Prop) (E : Value → Shared → Prop) (Q : Flow → Shared → Prop) (xv : Value) (s₁ : Shared) : Prop :=
  wpAny (model prog w) A (pyIter xv) (fun it s₂ => ∃ I fp wr n P St m, it = .ref I ∧ Walks prog w A I fp wr n P St ∧ n ≤ sizeLine ∧ St 0 s₂.heap ∧ (∀ b ∈ fp, b < s₂.heap.objs.size) ∧
      env.locals ∉ wr ∧ s₂.heap.Ns env.locals m ∧ QuietOnC prog w A env scope cl x ifs elt wr P p (fun v y => ∃ i t, v = .int i t ∧ G i y) s₂ ∧
      (∀ D h' tk ys (vs : List Value), s₂.heap.get? D = none → h'.IsList D ys → h'.PlainList D ys → vs.length = n → (∀ j v, vs[j]? = some v → P j v) → Paired (fun v y => ∃ i t, v = .int i t ∧ G i y) (vs.filter p) ys.toList →
        h'.Ns env.locals (fun z => if z = y then some (.ref D) else m z) → (∀ b o, b ≠ env.locals → b ∉ wr → s₂.heap.get? b = some o → h'.get? b = some o) → Q .next { s₂ with heap := h', toks := tk })) E s₁
theorem comp_asg {elt iter : PySem.Expr} {x y : Str} {px py : Pos} {ifs : List PySem.Expr} {scope : Scope} {cl : List (Str × Addr)} {pos spos : Pos} {Q : Flow → Shared → Prop} (p : Value → Bool) (G : Int → Value → Prop)
    (h : wpAny (model prog w) A (eval iter env) (CompAsg prog w A env elt x y ifs scope cl p G E Q) E s)
    (hsw : swapsWith (.ListComp elt [⟨.Name x px, iter, ifs, 0⟩] scope pos) (some (.Name y py)) spos.line env = pure true)
    (hclos : closureFor scope env = pure cl) (hcell : ∀ y ∈ scope.names, y.2 ≠ .cell) (hkind : scope.kind = .function)
    (hnames : ∀ y ∈ scope.names, y.2 = .local → scope.names.lookup y.1 = some .local) (hx : scope.names.lookup x = some .local)
    (hy : env.kindOf y = some .local) (hp : (env.scope.kind == .class || (env.scope.kind == .module && env.locals != env.globals)) = false)
    (hs : ∀ x, foldedSetIterable iter env x = pure x) :
    wpAny (model prog w) A (exec (.Assign [.Name y py] (.ListComp elt [⟨.Name x px, iter, ifs, 0⟩] scope pos) spos) env) Q E s :=
  wpAny_Assign_ListComp_free p (fun v y => ∃ i t, v = .int i t ∧ G i y) hsw hclos hcell hkind hnames hx hy hp h hs
theorem comp_asg_range {elt : PySem.Expr} {x y : Str} {scope : Scope} {cl : List (Str × Addr)} {G : Int → Value → Prop} {Q : Flow → Shared → Prop} {rg : Addr} {a₀ b₀ : Int} {t₀ u₀ v₀ : Tok} {n : Nat} (hh : A.handled = none)
    (hr : IsRange s.heap rg a₀ b₀ 1 t₀ u₀ v₀) (hsmall : Builtin.Range.small a₀ b₀ 1 = true) (hn : Builtin.Range.rangeSize a₀ b₀ 1 = (n : Int)) (hsz : n ≤ sizeLine) (hL : env.locals = L) (F : Fr g L s.heap m) (N : News g L s.heap news)
    (helt : ∀ (C : Addr) (i : Nat) (t : Tok) (s₂ : Shared) (m₂ : Str → Option Value) (E' : Value → Shared → Prop), s.heap.objs.size ≤ C → i < n → s₂.heap.Ns C m₂ → m₂ x = some (.int (a₀ + i) t) → (∀ b o, s.heap.get? b = some o → s₂.heap.get? b = some o) →
      wpAny (model prog w) A (eval elt (compEnvC scope cl C env)) (fun y s₃ => G (a₀ + i) y ∧ Keeps s₂ s₃) E' s₂)
    (hQ : ∀ D (ys : List Value) e h' tk, Fr g L h' (fun z => if z = y then some (.ref D) else m z) → News g L h' ((D, W.listOf ys.toArray e) :: news) → (∀ p ∈ news, p.1 ≠ D) → ys.length = n → (∀ i : Nat, i < n → ∃ y, ys[i]? = some y ∧ G (a₀ + i) y) → Q .next { s with heap := h', toks := tk }) :
    CompAsg prog w A env elt x y [] scope cl (fun _ => true) G E Q (.ref rg) s := by
  unfold CompAsg
  have up : ∀ (s₃ : Shared), (∀ b o, b ∉ [s.heap.objs.size] → (s.heap.push { cls := .type "range_iterator", data := .fields #[rawInt a₀, rawInt (Builtin.Range.rangeSize a₀ b₀ 1), rawInt 1] }).get? b = some o → s₃.heap.get? b = some o) → ∀ b o, s.heap.get? b = some o → s₃.heap.get? b = some o :=
    fun s₃ hk b o e => hk b o (fun hm => by rcases List.mem_cons.mp hm with rfl | hm; exact Nat.lt_irrefl _ (Heap.lt_size e); cases hm) (Heap.get?_push_of_some _ e)
  refine wpAny_pyIter_range hr hsmall ⟨s.heap.objs.size, [s.heap.objs.size], [s.heap.objs.size], n, _, _, m, rfl, (Walks.range hh _ a₀ 1 n).bound, hsz, (by show IsRangeIter _ _ _ _ _; rw [hn]; simpa using Heap.get?_push_size _ rfl), ?_, ?_, ?_, ⟨?_, ?_⟩, ?_⟩
  · intro b hb
    show b < (s.heap.push _).objs.size
    rw [Heap.size_push]
    rcases List.mem_cons.mp hb with rfl | hb
    · exact Nat.lt_succ_self _
    · cases hb
  · intro hm
    rw [hL, List.mem_singleton] at hm
    exact Nat.lt_irrefl _ (hm ▸ F.ns.lt)
  · rw [hL]; exact F.ns.keeps fun b o e => Heap.get?_push_of_some _ e
  · intro C i v s₃ m₃ E' hC hP hn' hm hk _
    exact wpAny_pure ⟨rfl, s₃.heap, s₃.toks, rfl, fun _ _ e => e⟩
  · intro C i v s₃ m₃ E' hC hP hp hn' hm hk _
    obtain ⟨hi, t, rfl⟩ := hP
    rw [Int.mul_one] at hm ⊢
    exact wpAny_mono (helt C i t s₃ m₃ E' (Nat.le_of_succ_le (by simpa [Heap.size_push] using hC)) hi hn' hm (up s₃ hk)) (fun y s₄ h₄ => ⟨⟨_, _, rfl, h₄.1⟩, h₄.2⟩) fun _ _ e => e
  · intro D h' tk ys vs' hnew hlD hplD hlen hP hF hns hk
    rw [hL] at hns hk
    have keep : ∀ b o, b ≠ L → s.heap.get? b = some o → h'.get? b = some o := fun b o hb e => hk b o hb (fun hm => by rw [List.mem_singleton] at hm; exact Nat.lt_irrefl _ (hm ▸ Heap.lt_size e)) (Heap.get?_push_of_some _ e)
    have hft : vs'.filter (fun _ => true) = vs' := List.filter_eq_self.mpr fun _ _ => rfl
    rw [hft] at hF
    obtain ⟨e, he⟩ := hplD
    have hold : s.heap.get? D = none := by
      cases q : s.heap.get? D with
      | none => rfl
      | some o => rw [Heap.get?_push_of_some _ q] at hnew; cases hnew
    have hne : ∀ q ∈ news, q.1 ≠ D := fun q hq z => by rw [← z, (N q hq).1] at hold; cases hold
    obtain ⟨oL, es, ep, hL, _⟩ := id F.ns
    refine hQ D ys.toList e h' tk ⟨hns, fun b o e => keep b o (fun q => by have := Heap.lt_size e; rw [q] at this; exact Nat.lt_irrefl _ (Nat.lt_of_lt_of_le this F.above)) (F.keep b o e), F.above⟩ ?_ hne ?_ ?_
    · intro q hq
      rcases List.mem_cons.mp hq with rfl | hq
      · refine ⟨by show h'.get? D = some (W.listOf ys.toList.toArray e); rw [Array.toArray_toList]; exact he, fun z => ?_, ?_⟩
        · have z : D = L := z
          rw [z, hL] at hold; cases hold
        · cases q : g.get? D with
          | none => rfl
          | some o => rw [F.keep _ _ q] at hold; cases hold
      · exact ⟨keep _ _ (N q hq).2.1 (N q hq).1, (N q hq).2⟩
    · rw [← hlen, hF.length]
    · intro i hi
      have hi' : i < vs'.length := by omega
      obtain ⟨y, hy, j, t, hj, hG⟩ := paired_get hF i vs'[i] (List.getElem?_eq_getElem hi')
      obtain ⟨_, t', hv⟩ := hP i vs'[i] (List.getElem?_eq_getElem hi')
      rw [hv] at hj
      injection hj with hj
      rw [Int.mul_one] at hj
      subst hj
      exact ⟨y, hy, hG⟩
end
theorem of_allLt {d : Addr} : ∀ {l : Led}, AllLt d l → ∀ p ∈ l, @LT.lt Nat _ p.1 d
  | [], _, _, h => nomatch h
  | q :: l, h, p, hp => by
    rcases List.mem_cons.mp hp with e | hp
    · rw [e]; exact h.1
    · exact of_allLt h.2 p hp
theorem ne_allLt {d : Addr} {l : Led} (h : AllLt d l) : ∀ p ∈ l, p.1 ≠ d := fun p hp => Nat.ne_of_lt (of_allLt h p hp)
/-- but for some names the frame is as it was -/
noncomputable def SM (st : List Str) (m0 m : Str → Option Value) : Prop := ∀ z, st.contains z = false → m z = m0 z
theorem SM.if' {st : List Str} {m0 f : Str → Option Value} {x : Str} {v : Option Value} (hx : st.contains x = true) (h : SM st m0 f) : SM st m0 (fun y => if y = x then v else f y) := by
  intro z hz
  show (if z = x then v else f z) = m0 z
  rw [if_neg (fun e => by rw [e, hx] at hz; cases hz)]
  exact h z hz
theorem SM.st {st : List Str} {m0 m : Str → Option Value} {ps : List (Str × Value)} (h : SM st m0 m) (h1 : ∀ p ∈ ps, m p.1 = some p.2) : SM st m0 (kstB m ps) := by
  intro z hz
  rw [← h z hz]
  exact kstB_eq h1 fun _ => rfl
theorem SM.turn {st : List Str} {m0 u : Str → Option Value} {x : Str} {v : Value} (hs : st.contains x = true) : SM st m0 (kstB (fun z => if (st.filter fun y => y != x).contains z then u z else m0 z) [(x, v)]) := by
  intro z hz
  show (if z = x then some v else if (st.filter fun y => y != x).contains z then u z else m0 z) = m0 z
  have hzx : z ≠ x := fun e => by rw [e, hs] at hz; cases hz
  rw [if_neg hzx, if_neg]
  intro hc
  rw [List.contains_iff_mem, List.mem_filter] at hc
  rw [← Bool.not_eq_true, List.contains_iff_mem] at hz
  exact hz hc.1
theorem range_size1 {n : Nat} : Builtin.Range.rangeSize 1 ((n : Int) + 1) 1 = (n : Int) := by
  unfold Builtin.Range.rangeSize
  simp
  omega
theorem range_small1 {n : Nat} (h : n < 1000) : Builtin.Range.small 1 ((n : Int) + 1) 1 = true := by
  unfold Builtin.Range.small
  rw [range_size1]
  simp [Builtin.Range.rangeFitsLong]
  omega
theorem facs_at {few : Nat} (h : few = 3 ∨ few = 4) : [(0 : Int), 0, 0, 6, 24].getD ((few : Int)).toNat 0 = (facs few : Int) := by
  rcases h with rfl | rfl <;> rfl
theorem facs_le {few : Nat} (h : few = 3 ∨ few = 4) : facs few ≤ 24 ∧ 6 ≤ facs few := by
  rcases h with rfl | rfl <;> decide
theorem fac_pos : ∀ b, 0 < fac b
  | 0 => by decide
  | b + 1 => Nat.mul_pos (by omega) (fac_pos b)
theorem fig_mod {k b : Nat} : ((k / fac b : Nat) : Int).fmod (1 + (b : Int) * 1) = (((k / fac b) % (b + 1) : Nat) : Int) := by
  rw [Int.fmod_eq_emod_of_nonneg _ (by omega), Int.mul_one, Int.add_comm]
  norm_cast
theorem fig_div {k b : Nat} : ((k / fac b : Nat) : Int).fdiv (1 + (b : Int) * 1) = ((k / fac (b + 1) : Nat) : Int) := by
  rw [Int.fdiv_eq_ediv_of_nonneg _ (by omega), Int.mul_one, Int.add_comm]
  norm_cast
  show k / fac b / (b + 1) = k / ((b + 1) * fac b)
  rw [Nat.div_div_eq_div_mul, Nat.mul_comm]
section
variable {prog : Program} {w : World} {A : Around} {E : Value → Shared → Prop} {s : Shared} {h₀ : Heap} {L D : Addr} {m : Str → Option Value} {news news' : Led} {us : List Value} {n : Nat} {u : Tok} {y : Value}
/-- an item put in ahead of all -/
theorem insert0 {Q : Value → Shared → Prop} (F : Fr h₀ L s.heap m) (N : News h₀ L s.heap news) (U : Upd D (PySem.W.listOf us.toArray n) (PySem.W.listOf (y :: us).toArray (n + 1)) news news') (hz : us.length < 1000)
    (h : ∀ h', Fr h₀ L h' m → News h₀ L h' news' → Q .none { s with heap := h' }) : wpAny (model prog w) A (call (.builtin "list.insert") [.ref D, .int 0 u, y]) Q E s :=
  kl_insert F N rfl (by simp [kl_ins]) U (by rw [PySem.sizeLine_eq]; simp; omega) h
end
local macro_rules | `(tactic| walk_at "compareOp NotEq ref ref") => `(tactic| (k_here; k_dflt (refine ne_ints (by is_list) (by is_list) (by assumption) (by assumption) (by ke_room) ?_)))
local macro_rules | `(tactic| walk_at "ltA") => `(tactic| exact ltA (by ksw_less))
local macro_rules | `(tactic| walk_at "aps") => `(tactic| first | exact List.forall_mem_nil _ | (refine (fmc (⟨by k_ne, by k_ne⟩) ?_); walk_at "aps"))
local macro_rules | `(tactic| walk_at "call ref") => `(tactic| specialize (Mine.use_caught, 433))
local macro_rules | `(tactic| walk_at "exec Assign cons ListComp") => `(tactic| refine stopHere ?_)
theorem ints_of_get : ∀ {pv : List Value} {n : Nat} {f : Nat → Int}, pv.length = n → (∀ i : Nat, i < n → ∃ t, pv[i]? = some (.int (f i) t)) → IntsAre pv ((List.range n).map f)
  | [], n, f, h, _ => by subst h; exact .nil
  | v :: r, n, f, h, hg => by
    subst h
    obtain ⟨t, e⟩ := hg 0 (by simp)
    have e' : v = .int (f 0) t := by simpa using e
    subst e'
    rw [List.length_cons, List.range_succ_eq_map, List.map_cons, List.map_map]
    exact .cons _ _ (ints_of_get (f := f ∘ Nat.succ) rfl fun i hi => by
      obtain ⟨t', e'⟩ := hg (i + 1) (by simpa using hi)
      exact ⟨t', by simpa using e'⟩)
/-- where the orders stand -/
structure OSt where
  k : Nat
  t : Tok
  as : List Addr
  tl : Led
  e : Nat
  cs : Array Value
noncomputable abbrev ordLed (cs4 : Array Value) (la ot lc : Addr) (oO : Obj) (pv : List Value) (ep : Nat) (c : OSt) : Led :=
  (la, PySem.W.listOf (c.as.map Value.ref).toArray c.e) :: (ot, PySem.W.listOf pv.toArray ep) :: (lc, oO) :: (447, tabObj c.cs) :: (454, tabObj cs4) :: c.tl
theorem Apart.out {xs : List Addr} {tl : Led} {T : TabS} {lq x : Addr} (h : Apart xs tl) (hx : x ∈ xs) (h1 : @Ne Nat x 447) (h2 : @LT.lt Nat _ x lq) (o2 : @LT.lt Nat _ lq T.d) (o3 : @LT.lt Nat _ T.d T.t) (o4 : @LT.lt Nat _ T.t T.la) (o5 : @LT.lt Nat _ T.la T.ln) : x ∉ 447 :: lq :: (T.ch ++ tl.map (·.1)) := fun hm => by
  have a1 := Nat.lt_trans h2 o2
  have a2 := Nat.lt_trans a1 o3
  have a3 := Nat.lt_trans a2 o4
  rcases List.mem_cons.mp hm with e | hm
  · exact h1 e
  rcases List.mem_cons.mp hm with e | hm
  · exact Nat.ne_of_lt h2 e
  rcases List.mem_append.mp hm with hm | hm
  · simp only [TabS.ch, List.mem_cons, List.not_mem_nil, or_false] at hm
    rcases hm with e | e | e | e
    · exact Nat.ne_of_lt a2 e
    · exact Nat.ne_of_lt a1 e
    · exact Nat.ne_of_lt a3 e
    · exact Nat.ne_of_lt (Nat.lt_trans a3 o5) e
  · obtain ⟨p, hp, e⟩ := List.mem_map.mp hm
    exact h p hp x hx e
theorem Apart.below {tl : Led} {lq : Addr} {T : TabS} (hlt : ∀ p ∈ tl, @LT.lt Nat _ p.1 lq) (h4 : ∀ p ∈ tl, p.1 ≠ 447) (o2 : @LT.lt Nat _ lq T.d) (o3 : @LT.lt Nat _ T.d T.t) (o4 : @LT.lt Nat _ T.t T.la) (o5 : @LT.lt Nat _ T.la T.ln) : Apart [447, lq, T.t, T.d, T.la, T.ln] tl := fun p hp x hx => by
  have a0 := hlt p hp
  have a1 := Nat.lt_trans a0 o2
  have a2 := Nat.lt_trans a1 o3
  have a3 := Nat.lt_trans a2 o4
  simp only [List.mem_cons, List.not_mem_nil, or_false] at hx
  rcases hx with rfl | rfl | rfl | rfl | rfl | rfl
  · exact h4 p hp
  · exact Nat.ne_of_lt a0
  · exact Nat.ne_of_lt a2
  · exact Nat.ne_of_lt a1
  · exact Nat.ne_of_lt a3
  · exact Nat.ne_of_lt (Nat.lt_trans a3 o5)
theorem gCodesSt.mono {cs : Array Value} {tl tl' : Led} (h : gCodesSt cs tl) (hs : ∀ p ∈ tl, p ∈ tl') : gCodesSt cs tl' := by
  rcases h with h | ⟨c1, o1, c2, o2, e, m1, m2, r⟩
  · exact .inl h
  · exact .inr ⟨c1, o1, c2, o2, e, hs _ m1, hs _ m2, r⟩
/-- what holds of the orders -/
structure OrdOk (few : Nat) (fs gp : Int) (la ot lc : Addr) (c : OSt) : Prop where
  len : c.as.length = c.k
  le : c.k ≤ facs few
  ap : Apart [la, ot, lc, 447, 454] c.tl
  cd : gCodesSt c.cs c.tl
  at' : ∀ (i : Nat) (a : Addr), c.as[i]? = some a → ∃ vs e, (a, PySem.W.listOf vs.toArray e) ∈ c.tl ∧ IntsAre vs (goneO (ppl fs gp few) (figs few i few))
theorem ord_ok0 {few : Nat} {fs gp : Int} {la ot lc : Addr} {t : Tok} {e : Nat} {tl : Led} {cs : Array Value} (h : Apart [la, ot, lc, 447, 454] tl) (hc : gCodesSt cs tl) : OrdOk few fs gp la ot lc ⟨0, t, [], tl, e, cs⟩ :=
  ⟨rfl, Nat.zero_le _, h, hc, (fun i a h => by simp at h)⟩
noncomputable abbrev ordSt : List Str := [Str.ofString "figures", Str.ofString "rest", Str.ofString "base", Str.ofString "told", Str.ofString "number"]
inductive FigInv (cs4 : Array Value) (few k : Nat) (kt : Tok) (lf la ot lc : Addr) (oO : Obj) (cs : Array Value) (pv : List Value) (ep : Nat) (as : List Addr) (tl : Led) (eo : Nat) (m0 : Str → Option Value) (I : Addr) (i : Nat) (m : Str → Option Value) (news : Led) : Prop
  | mk (us : List Value) (e : Nat) (tr : Tok) (sm : SM ordSt m0 m) (f1 : m (Str.ofString "figures") = some (.ref lf)) (f2 : m (Str.ofString "rest") = some (.int ((k / fac i : Nat) : Int) tr)) (f3 : m (Str.ofString "number") = some (.int k kt))
    (f4 : news = (lf, PySem.W.listOf us.toArray e) :: (la, PySem.W.listOf (as.map Value.ref).toArray eo) :: (ot, PySem.W.listOf pv.toArray ep) :: (lc, oO) :: (447, tabObj cs) :: (454, tabObj cs4) :: tl)
    (f5 : IntsAre us (figs few k i)) (f6 : @LT.lt Nat _ lf I) : FigInv cs4 few k kt lf la ot lc oO cs pv ep as tl eo m0 I i m news
theorem figs_len {few k : Nat} : ∀ {i : Nat}, (figs few k i).length = i
  | 0 => rfl
  | i + 1 => by rw [figs, List.length_cons, figs_len]
local macro_rules | `(tactic| walk_at "call builtin:list.insert") => `(tactic| specialize Mine.insert0)
local macro_rules | `(tactic| k_all) => `(tactic| first | assumption | fail "no tail")
theorem notinA {T : TabS} {lq x : Addr} (h1 : @Ne Nat x 447) (h2 : @LT.lt Nat _ x lq) (o2 : @LT.lt Nat _ lq T.d) (o3 : @LT.lt Nat _ T.d T.t) (o4 : @LT.lt Nat _ T.t T.la) (o5 : @LT.lt Nat _ T.la T.ln) : x ∉ 447 :: lq :: T.ch := by
  simp only [TabS.ch, List.mem_cons, List.not_mem_nil, or_false, not_or]
  refine ⟨h1, ?_, ?_, ?_, ?_, ?_⟩ <;> (intro h; subst h; (first | exact Nat.lt_irrefl _ h2 | walk_at "om"))
theorem OrdOk.next {few k : Nat} {fs gp : Int} {la ot lc lo : Addr} {kt kt' : Tok} {as : List Addr} {tl tl' : Led} {eo eo' e : Nat} {cs cs' : Array Value} {os : List Value} (h : OrdOk few fs gp la ot lc ⟨k, kt, as, tl, eo, cs⟩) (hk : k < facs few)
    (ha : Apart [la, ot, lc, 447, 454] tl') (hl5 : ∀ x ∈ [la, ot, lc, 447, 454], @Ne Nat lo x) (hc : gCodesSt cs' tl') (hs : ∀ p ∈ tl, p ∈ tl') (hos : IntsAre os (goneO (ppl fs gp few) (figs few k few))) :
    OrdOk few fs gp la ot lc ⟨k + 1, kt', as ++ [lo], (lo, PySem.W.listOf os.toArray e) :: tl', eo', cs'⟩ where
  len := by have := h.len; dsimp only at this ⊢; simp [this]
  le := hk
  ap := fun p hp x hx => by
    rcases List.mem_cons.mp hp with rfl | hp
    · exact hl5 x hx
    · exact ha p hp x hx
  cd := hc.mono fun p hp => .tail _ hp
  at' := fun i a hi => by
    have hl := h.len
    dsimp only at hl hi
    by_cases hik : i < k
    · rw [List.getElem?_append_left (by walk_at "om")] at hi
      obtain ⟨vs, e', hm, hv⟩ := h.at' i a hi
      exact ⟨vs, e', .tail _ (hs _ hm), hv⟩
    · rw [List.getElem?_append_right (by walk_at "om")] at hi
      have hik' : i = k := by
        have := (List.getElem?_eq_some_iff.mp hi).1
        simp at this
        walk_at "om"
      subst hik'
      rw [hl, Nat.sub_self] at hi
      have : lo = a := by simpa using hi
      subst this
      exact ⟨os, e, .head _, hos⟩
theorem SM.out {m0 m : Str → Option Value} (h : SM ordSt m0 m) {z : Str} (hz : z ≠ Str.ofString "number") (hs : [Str.ofString "figures", Str.ofString "rest", Str.ofString "base", Str.ofString "told"].contains z = false) : m z = m0 z :=
  h z (by
    have e : ordSt.contains z = ([Str.ofString "figures", Str.ofString "rest", Str.ofString "base", Str.ofString "told"].contains z || decide (z = Str.ofString "number")) := by simp [ordSt, Bool.or_assoc]
    rw [e, hs]
    simpa using hz)
theorem OrdOk.get {few : Nat} {fs gp : Int} {la ot lc : Addr} {c : OSt} (h : OrdOk few fs gp la ot lc c) {i : Nat} (hi : i < c.k) :
    ∃ a vs e, (c.as.map Value.ref)[i]? = some (.ref a) ∧ (a, PySem.W.listOf vs.toArray e) ∈ c.tl ∧ IntsAre vs (goneO (ppl fs gp few) (figs few i few)) := by
  have hl : i < c.as.length := by rw [h.len]; exact hi
  obtain ⟨vs, e, h1, h2⟩ := h.at' i c.as[i] (List.getElem?_eq_getElem hl)
  exact ⟨c.as[i], vs, e, by rw [List.getElem?_map, List.getElem?_eq_getElem hl]; rfl, h1, h2⟩
local macro_rules | `(tactic| walk_at "compareOp GtE ref ref") => `(tactic| (k_here; (with_reducible show wpAny _ _ (compareOp CmpOp.GtE (Value.ref _) (Value.ref _)) _ _ _); k_dflt (refine ge_ints (by is_list) (by is_list) (by assumption) (by assumption) (by assumption) (by assumption) (by ke_room) ?_)))
local macro_rules | `(tactic| walk_at "compareOp Eq ref ref") => `(tactic| (k_here; (with_reducible show wpAny _ _ (compareOp CmpOp.Eq (Value.ref _) (Value.ref _)) _ _ _); k_dflt (refine int_eqvE (xs := []) (ys := []) (by is_list) (by is_list) .nil .nil (by ke_room) ?_)))
/-- a def of the written part -/
structure BodyOf (w : World) (f : Addr) where
  oc : Value
  od : Option Addr
  name : Str
  qual : Str
  params : Arguments
  body : List Stmt
  scope : Scope
  dV : Value
  kV : Value
  doc : Value
  pm : Value
  an : Option Addr
  cdv : Value
  ct : Value
  osl : Array (Option Value)
  ho : (HK.heap_1 w.params).lookup f = some ⟨oc, od, .func (fnOf name qual params body scope dV kV doc pm an cdv ct), osl⟩
noncomputable def lawB (w : World) : BodyOf w 476 := by
  have junk : PySem.Challenge.rw_xm0627_01 = PySem.Challenge.rw_xm0627_01 ∧ HK.heap_1 w.params = HK.heap_1 w.params := by (k_fill; exact ⟨rfl, rfl⟩)
  clear junk
  apply BodyOf.mk
  case ho => k_is
noncomputable def lawRest (w : World) : List Stmt := (lawB w).body.drop 10
section
variable {w : World} {s : Shared} {g : Heap}
theorem law_tail {L nt D2 : Addr} {h : Heap} {tk : Nat} {m : Str → Option Value} {p : Program} {loose : List Str} {mean : ExcName → Option Value} {mg mb : Str → Option Value} {dp : Nat} {fr : Option (List Env)} {gd : Option (List Code)} {un : Nat}
    {cs4 cs7 : Array Value} {tlc : Led} {oO oG oF : Obj} {ov : Option Value} {x27 : Tok} {ws : List Value} {wn : List Int} {c2 : Nat} {fs gp : Int} {tF tG : Tok}
    (X : (HK.heap_1 w.params).In g) (TP : Top p loose mean mg mb g) (W' : Wd w g) (r' : Room ⟨none, dp, fr, gd, un⟩ 39) (hU : (⟨none, dp, fr, gd, un⟩ : Around).units ≤ 2000) (C2 : CodeHd g 451 447)
    (F : Fr g L h m) (N : News g L h ((nt, PySem.W.listOf #[Value.int (0 + 1 + 1 + 1 + 1 + 1) x27, Value.ref D2] 0) :: (D2, PySem.W.listOf ws.toArray c2) :: (L + 1 + 1 + 1 + 1 + 1 + 1, oO) :: (L + 1 + 1 + 1 + 1, oG) :: (L + 1 + 1 + 1, oF) :: (447, tabObj cs7) :: (454, tabObj cs4) :: tlc)) (hcs7 : gCodesSt cs7 tlc) (hAc : Apart [nt, L + 1 + 1 + 1 + 1 + 1 + 1, 447, 454] tlc)
    (hnet : m (Str.ofString "net") = some (.ref nt)) (hi : IntsAre ws wn) (hwn : wn.length < 1000) (dO : oO.data = .cell ov) (dG : oG.data = .cell (some (.int gp tG))) (dF : oF.data = .cell (some (.int fs tF)))
    (hf1 : -50 ≤ fs) (hf2 : fs < 50) (hg1 : 1 ≤ gp) (hg2 : gp ≤ 9)
    (l0 : @LT.lt Nat _ 447 L) (l0' : @LT.lt Nat _ 454 L) (l1 : @LT.lt Nat _ (L + 1 + 1 + 1 + 1 + 1 + 1) D2) (l2 : @LT.lt Nat _ D2 nt) :
    wpAny (model PySem.Challenge.rw_xm0627_01.row.prog w) ⟨none, dp, fr, gd, un⟩ (execs (lawRest w) (envOfC (Str.ofString "law") (lawB w).scope L 476 (.ref 475)))
        (fun fl s' => Lv g s (fun x l => x = .bool true ∧ ∃ cs cs', l = [(454, tabObj cs), (447, tabObj cs')]) (match fl with | .ret v => v | _ => .none) s') (fun _ _ => False) { s with heap := h, toks := tk } := by
  walk_at "kfill"
  have F0 := fr_st [(Str.ofString "net", _)] F ((fmc hnet (List.forall_mem_nil _)))
  clear F hnet
  simp only [lawRest, lawB, List.drop_succ_cons, List.drop_zero]
  show wpAny _ _ _ _ _ _
  k_fold
  have hlv := hi.length
  walk_at "flat"
  k_steps
  unfold Stop
  rename Fr _ _ _ _ => F1
  rename News _ _ _ _ => N1
  rename_i v9 t9 t8 h1' tk1' v0 v1 la h2' ly1 D1 h3' ly2 h4' h5' h6' oO' dO' h7'
  have l3 : @LT.lt Nat _ nt la := ly1.1
  have l4 : @LT.lt Nat _ (L + 1 + 1 + 1 + 1 + 1 + 1) la := by walk_at "om"
  have l5 : @LT.lt Nat _ 447 la := by walk_at "om"
  have A1 : Apart [la, L + 1 + 1 + 1 + 1 + 1 + 1, 447, 454] tlc := (hAc.sub (ys := [L + 1 + 1 + 1 + 1 + 1 + 1, 447, 454]) (by ksw_same)).cons (ne_allLt ly1.2.2.2.2.2.2.2)
  clear hAc
  have l8 : @LT.lt Nat _ 454 la := by walk_at "om"
  clear ly1 ly2
  obtain ⟨few, hfew, hfv⟩ : ∃ few : Nat, (few = 3 ∨ few = 4) ∧ 3 + v9.fdiv 4 = (few : Int) := by
    rw [Int.fdiv_eq_ediv_of_nonneg _ (by decide)]
    by_cases hv : v9 < 4
    · exact ⟨3, .inl rfl, by walk_at "om"⟩
    · exact ⟨4, .inr rfl, by walk_at "om"⟩
  rw [hfv] at F1 N1
  have hf3 : 3 ≤ few := by walk_at "om"
  have hf4 : few ≤ 4 := by walk_at "om"
  have N2 : News g L _ ((la, PySem.W.listOf #[] 0) :: (L + 1 + 1 + 1 + 1 + 1 + 1, oO') :: (L + 1 + 1 + 1 + 1, oG) :: (L + 1 + 1 + 1, oF) :: (447, tabObj cs7) :: (454, tabObj cs4) :: tlc) := news_sub N1 (by ksw_same)
  clear N1 hi hwn hlv v0 v1 hfv l1 l2 dO
  refine comp_asg (fun _ => true) (fun i y => ∃ t, y = .int (fs + gp * i) t) ?_ (by with_unfolding_all rfl) rfl (by decide) rfl (by decide) rfl rfl rfl (by intro _; rfl)
  show wpAny _ _ _ _ _ _
  walk_at "flat"
  k_steps
  rename IsRange _ _ _ _ _ _ _ _ => rg
  rename Fr _ _ _ _ => F3
  rename News _ _ _ _ => N3
  refine comp_asg_range r'.hh rg ?_ ?_ ?_ rfl F3 N3 ?_ ?_ (n := few)
  · exact range_small (by walk_at "om")
  · exact range_size
  · rw [sizeLine_eq]; walk_at "om"
  · intro C i t s₂ m₂ E' hC9 hi9 hn2 hx9 hk9
    obtain ⟨F4, N4⟩ := block_ground F3 N3 hC9 hn2 hk9
    clear F3 N3
    show wpAny _ _ _ _ _ _
    k_fold
    have hi8 : (i : Int) < 8 := by walk_at "om"
    walk_at "flat"
    k_steps
    exact ⟨_, _, rfl, fun _ _ e => e⟩
  · intro ot pv ep h5 tk5 F5 N5 hne5 hlen5 hys5
    have hne5t : ∀ p ∈ tlc, p.1 ≠ ot := fun p hp => hne5 p (by repeat (first | exact hp | refine List.Mem.tail _ ?_))
    replace hne5 := allNe3_of hne5
    dsimp only [AllNe3] at hne5
    clear F3 N3
    have hpi : IntsAre pv (ppl fs gp few) := by
      unfold ppl
      refine ints_of_get (f := fun i => fs + gp * (i : Int)) hlen5 fun i hi => ?_
      obtain ⟨y, e1, t, e2⟩ := hys5 i hi
      exact ⟨t, by rw [e1, e2, Int.zero_add]⟩
    clear hys5
    replace F5 : Fr g L h5 _ := F5
    replace N5 : News g L h5 _ := N5
    show wpAny _ _ _ _ _ _
    walk_at "flat"
    k_steps
    unfold Stop
    rename Fr _ _ _ _ => F6
    rename News _ _ _ _ => N6
    obtain ⟨hne5a, hne5b, -, -, hne5c, hne5f, -⟩ := hne5
    have A2 : Apart [la, ot, L + 1 + 1 + 1 + 1 + 1 + 1, 447, 454] tlc := ((A1.sub (ys := [L + 1 + 1 + 1 + 1 + 1 + 1, 447, 454]) (by ksw_same)).cons hne5t).cons (A1.get (.head _))
    clear A1 hne5t
    have N7 : News g L _ (ordLed cs4 la ot (L + 1 + 1 + 1 + 1 + 1 + 1) oO' pv ep ⟨0, tk1' + 1 + 1 + 1, [], tlc, 0, cs7⟩) := news_sub N6 (by ksw_same)
    obtain ⟨mm, F7⟩ : ∃ mm, Fr g L h5 (kstB mm [(Str.ofString "few", .int few (tk1' + 1 + 1)), (Str.ofString "others", .ref ot), (Str.ofString "number", .int 0 (tk1' + 1 + 1 + 1))]) := ⟨_, fr_st [(Str.ofString "few", _), (Str.ofString "others", _), (Str.ofString "number", _)] F6 ((fmc (by with_unfolding_all rfl) ((fmc (by with_unfolding_all rfl) ((fmc (by with_unfolding_all rfl) (List.forall_mem_nil _)))))))⟩
    clear F6 N6
    refine ksw_while (σ := OSt) (fun c => ordLed cs4 la ot (L + 1 + 1 + 1 + 1 + 1 + 1) oO' pv ep c) (fun c => [(Str.ofString "number", .int c.k c.t)]) (fun c => OrdOk few fs gp la ot (L + 1 + 1 + 1 + 1 + 1 + 1) c) [Str.ofString "figures", Str.ofString "rest", Str.ofString "base", Str.ofString "told"]
      (fun _ => True) (fun c => facs few - c.k) ⟨0, tk1' + 1 + 1 + 1, [], tlc, 0, cs7⟩ F7 N7 ?hf ?hk trivial ?turn
    case hf => exact ord_ok0 A2 hcs7
    case hk => exact (fmc rfl (List.forall_mem_nil _))
    clear F7 N7
    rintro ⟨k, kt, as, tl, eo, cs⟩ u h8 tk8 hO - F8 N8
    k_fold
    dsimp only at hO F8 N8 ⊢
    simp only [ordLed] at N8
    walk_at "flat"
    k_steps
    · unfold Stop
      rename Fr _ _ _ _ => F9
      rename News _ _ _ _ => N9
      rename_i lx hx1 lyx tt hlt tkx lf hx2 lyf D hx3 lyD hx4 hx5 hx6
      rw [facs_at hfew] at hlt
      have hkf : k < facs few := by walk_at "om"
      have hfl := (facs_le hfew).1
      have tll : ∀ p ∈ tl, @LT.lt Nat _ p.1 lf := of_allLt lyf.2.2.2.2.2.2
      have hap := hO.ap
      dsimp only at hap
      have A3 : Apart [lf, la, ot, L + 1 + 1 + 1 + 1 + 1 + 1, 447, 454] tl := hap.cons fun p hp => Nat.ne_of_lt (tll p hp)
      clear hap
      have lf1 : @LT.lt Nat _ la lf := lyf.2.1
      have lf2 : @LT.lt Nat _ ot lf := lyf.2.2.1
      have lf3 : @LT.lt Nat _ 447 lf := lyf.2.2.2.2.1
      have lf7 : @LT.lt Nat _ 454 lf := lyf.2.2.2.2.2.1
      have lf6 : @LT.lt Nat _ (L + 1 + 1 + 1 + 1 + 1 + 1) lf := lyf.2.2.2.1
      clear lyx lyD lyf
      generalize hm0 : kstB mm [(Str.ofString "few", Value.int (few : Int) (tk1' + 1 + 1)), (Str.ofString "others", Value.ref ot), (Str.ofString "number", Value.int 0 (tk1' + 1 + 1 + 1))] = m0 at F9
      have m0f : m0 (Str.ofString "few") = some (.int few (tk1' + 1 + 1)) := by rw [← hm0]; with_unfolding_all rfl
      have m0o : m0 (Str.ofString "others") = some (.ref ot) := by rw [← hm0]; with_unfolding_all rfl
      have SM9 : SM ordSt m0 _ := (SM.turn (u := u) (m0 := m0) (v := Value.int k kt) (show ordSt.contains (Str.ofString "number") = true by decide)).if' (x := Str.ofString "rest") (v := some (.int k kt)) (by decide) |>.if' (x := Str.ofString "figures") (v := some (.ref lf)) (by decide)
      obtain ⟨m9, F10, SM10, q1, q2, q3⟩ : ∃ m9, Fr g L hx6 m9 ∧ SM ordSt m0 m9 ∧ m9 (Str.ofString "figures") = some (.ref lf) ∧ m9 (Str.ofString "rest") = some (.int k kt) ∧ m9 (Str.ofString "number") = some (.int k kt) := ⟨_, F9, SM9, rfl, rfl, rfl⟩
      clear F9 SM9
      have NA : News g L _ ((lf, PySem.W.listOf #[] 0) :: ordLed cs4 la ot (L + 1 + 1 + 1 + 1 + 1 + 1) oO' pv ep ⟨k, kt, as, tl, eo, cs⟩) := news_sub N9 fun p hp => .tail _ (by
        rcases List.mem_cons.mp hp with rfl | hp
        · exact .head _
        · exact .tail _ (.tail _ hp))
      clear N9
      simp only [ordLed] at NA
      have FA := fr_st [(Str.ofString "few", _), (Str.ofString "number", _)] F10 ((fmc ((SM10 (Str.ofString "few") (by decide)).trans m0f) ((fmc q3 (List.forall_mem_nil _)))))
      refine For_turns F10 ?_
      clear F10
      k_whole
      walk_at "flat"
      k_steps
      unfold Stop
      rename IsRange _ _ _ _ _ _ _ _ => rg2
      rename Fr _ _ _ _ => FB
      rename News _ _ _ _ => NB
      try clear FA NA
      refine for_range (n := few) (news := (lf, PySem.W.listOf #[] 0) :: (la, PySem.W.listOf (as.map Value.ref).toArray eo) :: (ot, PySem.W.listOf pv.toArray ep) :: (L + 1 + 1 + 1 + 1 + 1 + 1, oO') :: (447, tabObj cs) :: (454, tabObj cs4) :: tl)
        (FigInv cs4 few k kt lf la ot (L + 1 + 1 + 1 + 1 + 1 + 1) oO' cs pv ep as tl eo m0) r'.hh rg2 ?sm ?sz FB NB ?hi ?hdone ?hstep
      case sm => exact range_small1 (by walk_at "om")
      case sz => exact range_size1
      case hi =>
        intro I hI
        have e1 : k / fac 0 = k := Nat.div_one k
        exact ⟨[], 0, kt, SM.st SM10 ((fmc ((SM10 (Str.ofString "few") (by decide)).trans m0f) ((fmc q3 (List.forall_mem_nil _))))), q1, by rw [e1]; exact q2, rfl, rfl, .nil, hI _ (.head _)⟩
      case hdone =>
        rintro I m₁ news₁ h tk ⟨us, e, tr, sm, f1, f2, f3, f4, f5, f6⟩ F N
        subst f4
        replace F : Fr g L h m₁ := F
        replace N : News g L h _ := N
        have f0 := (sm (Str.ofString "few") (by decide)).trans m0f
        have fo := (sm (Str.ofString "others") (by decide)).trans m0o
        have F0 := fr_st [(Str.ofString "figures", _), (Str.ofString "few", _), (Str.ofString "others", _), (Str.ofString "number", _)] F ((fmc f1 ((fmc f0 ((fmc fo ((fmc f3 (List.forall_mem_nil _)))))))))
        have sm0 : SM ordSt m0 _ := sm.st (ps := [(Str.ofString "figures", _), (Str.ofString "few", _), (Str.ofString "others", _), (Str.ofString "number", _)]) ((fmc f1 ((fmc f0 ((fmc fo ((fmc f3 (List.forall_mem_nil _)))))))))
        clear F FB NB f1 f2 f3 f0 fo sm
        obtain ⟨z1, z2, z3⟩ := fig_law (fs := fs) (gp := gp) hfew hkf (by walk_at "om")
        have hppl : (ppl fs gp few).length = few := ppl_len
        dsimp only
        show wpAny _ _ _ _ _ _
        walk_at "flat"
        k_steps
        unfold Stop
        rename Fr _ _ _ _ => FD
        rename News _ _ _ _ => ND
        have NE : News g L _ ((ot, PySem.W.listOf pv.toArray ep) :: (lf, PySem.W.listOf us.toArray e) :: ((la, PySem.W.listOf (as.map Value.ref).toArray eo) :: (L + 1 + 1 + 1 + 1 + 1 + 1, oO') :: (447, tabObj cs) :: (454, tabObj cs4) :: tl)) := news_sub ND (by ksw_same)
        refine use_seated W' FD NE hpi (by walk_at "om") lf2 (by walk_at "om") (by walk_at "om") (by walk_at "room") ?ap fun T tus te tj h10 tk10 F10 N10 hiu hj8 o1' o2' o3' o4' ht hd hla hln => ?_
        case ap =>
          refine (fmc (⟨by k_ne, by k_ne⟩) ((fmc (⟨by k_ne, by k_ne⟩) ((fmc (⟨by k_ne, by k_ne⟩) ((fmc (⟨by k_ne, by k_ne⟩) (fun p hp => ⟨A3 p hp ot (by k_mem), A3 p hp lf (by simp)⟩))))))))
        dsimp only [List.cons_append, List.nil_append] at N10
        clear FD ND NE ht hd hla hln
        walk_at "flat"
        k_steps
        unfold Stop
        rename Fr _ _ _ _ => FE
        rename News _ _ _ _ => NF
        refine use_gone (rest := (ot, PySem.W.listOf pv.toArray ep) :: (la, PySem.W.listOf (as.map Value.ref).toArray eo) :: (L + 1 + 1 + 1 + 1 + 1 + 1, oO') :: (454, tabObj cs4) :: []) (tl0 := tl) (cs0 := cs) W' C2 FE NF (by dsimp only [tled, List.cons_append, List.nil_append]; ksw_same) (by k_mem) (A3.out (by k_mem) (by k_ne) lf2 o1' o2' o3' o4') hO.cd (Apart.below tll (A3.get (by k_mem)) o1' o2' o3' o4') hpi hiu lf3 o1' o2' o3' o4' f5 ?x1 ?x2 ?x3 ?x4 (by walk_at "room") ?x5 fun q lo os us' j' e6 e7 tk12 cs' tl' h12 tk12' F12 N12 hcs' hst hos hiu' hjj hAp hlq hlo hgr => ?_
        case x1 => rw [hppl]; exact z1
        case x2 => walk_at "om"
        case x3 => rw [figs_len]; walk_at "om"
        case x4 => rw [z2]; walk_at "om"
        case x5 => exact (fmc (⟨by k_mem, A3.out (by k_mem) (by k_ne) lf2 o1' o2' o3' o4'⟩) ((fmc (⟨by k_mem, A3.out (by k_mem) (by k_ne) lf1 o1' o2' o3' o4'⟩) ((fmc (⟨by k_mem, A3.out (by k_mem) (by k_ne) lf6 o1' o2' o3' o4'⟩) ((fmc (⟨by k_mem, A3.out (by k_mem) (show @Ne Nat 454 447 by decide) lf7 o1' o2' o3' o4'⟩) (List.forall_mem_nil _))))))))
        have A4 : Apart [la, ot, L + 1 + 1 + 1 + 1 + 1 + 1, 447, 454] tl' := hgr _ (A3.sub (by ksw_same)) ((fmc (⟨_, by k_mem⟩) ((fmc (⟨_, by k_mem⟩) ((fmc (⟨_, by k_mem⟩) ((fmc (⟨_, by k_mem⟩) ((fmc (⟨_, by k_mem⟩) (List.forall_mem_nil _)))))))))))
        dsimp only [tled, List.cons_append, List.nil_append] at N12
        rw [z2] at N12
        generalize hmv : moves (goneO (ppl fs gp few) (figs few k few)) = mv at N12 z2 z3
        have p1 : @Ne Nat la lo := hlo (la, PySem.W.listOf (as.map Value.ref).toArray eo) (by k_mem)
        have p2 : @Ne Nat ot lo := hlo (ot, PySem.W.listOf pv.toArray ep) (by k_mem)
        have p3 : @Ne Nat 447 lo := hlo (447, tabObj cs) (by k_mem)
        have p5 : @Ne Nat (L + 1 + 1 + 1 + 1 + 1 + 1) lo := hlo (L + 1 + 1 + 1 + 1 + 1 + 1, oO') (by k_mem)
        have p6 : @Ne Nat 454 lo := hlo (454, tabObj cs4) (by k_mem)
        have NH : News g L _ ((q, { cls := .type "tuple", data := .seq #[.ref lo, .int mv tk12] }) :: (lo, PySem.W.listOf os.toArray e6) :: (la, PySem.W.listOf (as.map Value.ref).toArray eo) :: (ot, PySem.W.listOf pv.toArray ep) :: (L + 1 + 1 + 1 + 1 + 1 + 1, oO') :: (447, tabObj cs') :: (454, tabObj cs4) :: tl') := news_sub N12 (by ksw_same)
        clear A3
        have p4 : @Ne Nat q la := fun x => by
          have := congrArg Obj.cls (same_obj NH (p := (q, { cls := .type "tuple", data := .seq #[.ref lo, .int mv tk12] })) (q := (la, PySem.W.listOf (as.map Value.ref).toArray eo)) (by k_mem) (by k_mem) x)
          simp [PySem.W.listOf] at this
        clear FE NF N12
        show wpAny _ _ _ _ _ _
        walk_at "flat"
        k_steps
        unfold Stop
        rename Fr _ _ _ _ => FG
        rename News _ _ _ _ => NI
        refine use_moves (e := e6) W' FG NI (by k_mem) hos ?x6 (by walk_at "room") fun tk18 h18 tk18' F18 N18 => ?_
        case x6 => rw [goneO_len, figs_len]; walk_at "om"
        rw [hmv]
        clear FG NI
        have has : (as.map Value.ref).length < 1000 := by
          have h1 := hO.len
          dsimp only at h1
          rw [List.length_map]; walk_at "om"
        show wpAny _ _ _ _ _ _
        walk_at "flat"
        k_steps
        · rename_i hne; exact absurd rfl hne
        unfold Stop
        rename Fr _ _ _ _ => FJ
        rename News _ _ _ _ => NJ
        have eu : (as.map Value.ref).toArray.push (.ref lo) = ((as ++ [lo]).map Value.ref).toArray := by simp
        rw [eu] at NJ
        rw [show (k : Int) + 1 = ((k + 1 : Nat) : Int) by walk_at "om"] at FJ
        obtain ⟨mZ, kt', FK, hz1, smz⟩ : ∃ mZ kt', Fr g L _ mZ ∧ mZ (Str.ofString "number") = some (.int ((k + 1 : Nat) : Int) kt') ∧ SM ordSt m0 mZ := ⟨_, _, FJ, rfl, (sm0.if' (by decide)).if' (by decide)⟩
        refine ksw_end ⟨k + 1, kt', as ++ [lo], (lo, PySem.W.listOf os.toArray e6) :: tl', eo + 1, cs'⟩ FK NJ ?g1 ?g2 ?g3 ?g4 trivial ?g5
        case g1 => simp +contextual
        case g2 => exact hO.next hkf A4 ((fmc (Ne.symm p1) ((fmc (Ne.symm p2) ((fmc (Ne.symm p5) ((fmc (Ne.symm p3) ((fmc (Ne.symm p6) (List.forall_mem_nil _))))))))))) hcs' hst hos
        case g3 => exact (fmc hz1 (List.forall_mem_nil _))
        case g4 => exact fun z hz hs => smz.out (hz (Str.ofString "number", .int ((k + 1 : Nat) : Int) kt') (.head _)) hs
        case g5 => dsimp only; ksw_less
      case hstep =>
        rintro I i m₁ news₁ h tk o tt hlt2 ⟨us, e, tr, sm, f1, f2, f3, f4, f5, f6⟩ F hc N
        k_fold
        subst f4
        replace F : Fr g L h m₁ := F
        replace N : News g L h _ := N
        have F0 := fr_st [(Str.ofString "figures", _), (Str.ofString "rest", _), (Str.ofString "number", _)] F ((fmc f1 ((fmc f2 ((fmc f3 (List.forall_mem_nil _)))))))
        have sm0 : SM ordSt m0 _ := sm.st (ps := [(Str.ofString "figures", _), (Str.ofString "rest", _), (Str.ofString "number", _)]) ((fmc f1 ((fmc f2 ((fmc f3 (List.forall_mem_nil _)))))))
        clear F FB NB f1 f2 f3 sm
        have hus := f5.length
        have hus2 : us.length < 1000 := by rw [hus, figs_len]; walk_at "om"
        show wpAny _ _ _ _ _ _
        walk_at "flat"
        k_steps
        unfold Stop
        rename Fr _ _ _ _ => FC
        rename News _ _ _ _ => NC
        simp only [fig_div] at FC
        simp only [fig_mod] at NC
        refine ⟨_, _, _, _, rfl, FC, NC, ?ne, ⟨_, e + 1, _, ?gsm, by with_unfolding_all rfl, by with_unfolding_all rfl, by with_unfolding_all rfl, rfl, ?gi, f6⟩⟩
        case ne =>
          refine (fmc (by k_ne) ((fmc (by k_ne) ((fmc (by k_ne) ((fmc (by k_ne) ((fmc (by k_ne) ((fmc (by k_ne) (fun p hp => ?_))))))))))))
          exact Nat.ne_of_lt (Nat.lt_trans (tll p hp) f6)
        case gsm => repeat (first | exact sm0 | refine SM.if' (by decide) ?_)
        case gi => exact .cons _ _ f5
    · unfold Stop
      rename Fr _ _ _ _ => FX
      rename News _ _ _ _ => NX
      rename_i lx hx1 lyx tt hge
      rw [facs_at hfew] at hge
      have hkl := hO.len
      have hke := hO.le
      have hfl := facs_le hfew
      dsimp only at hkl hke
      have hkf : k = facs few := by walk_at "om"
      obtain ⟨c, hc⟩ : ∃ c, k = c + 1 := ⟨k - 1, by walk_at "om"⟩
      have has : (as.map Value.ref).length = c + 1 := by rw [List.length_map]; walk_at "om"
      have hc1 : c < 1000 := by walk_at "om"
      clear lyx
      refine comp_open (fun _ => false) (fun _ _ => True) ?_ rfl ?_ ?_ ?_ ?_ ?_
      · show wpAny _ _ _ _ _ _
        walk_at "flat"
        k_steps
        rename IsRange _ _ _ _ _ _ _ _ => rg
        rename Fr _ _ _ _ => FY
        rename News _ _ _ _ => NY
        rw [has, show ((c + 1 : Nat) : Int) = (c : Int) + 1 by walk_at "om"] at rg
        refine comp_range0 r'.hh rg ?_ ?_ ?_ FY NY ?_ ?_ (n := c)
        · exact range_small1 hc1
        · exact range_size1
        · rw [sizeLine_eq]; walk_at "om"
        · intro C i t s₂ m₂ E' hC9 hi9 hn2 hx9 hk9
          obtain ⟨F14, N14⟩ := block_ground FY NY hC9 hn2 hk9
          obtain ⟨a1, vs1, q1, hA, hm1, hv1⟩ := hO.get (i := i) (by dsimp only; ksw_less)
          obtain ⟨a2, vs2, q2, hB, hm2, hv2⟩ := hO.get (i := i + 1) (by dsimp only; ksw_less)
          dsimp only at hA hB hm1 hm2
          have hlt := fig_next (fs := fs) (gp := gp) (few := few) (number := i) hfew (by walk_at "om") (by walk_at "om")
          have hlen : (goneO (ppl fs gp few) (figs few i few)).length = (goneO (ppl fs gp few) (figs few (i + 1) few)).length := by rw [goneO_len, goneO_len, figs_len, figs_len]
          have N15 : News g C _ ((a1, PySem.W.listOf vs1.toArray q1) :: (a2, PySem.W.listOf vs2.toArray q2) :: (la, PySem.W.listOf (as.map Value.ref).toArray eo) :: (L + 1 + 1 + 1 + 1 + 1 + 1, oO') :: []) := news_sub N14 (subCons (by repeat (first | exact hm1 | refine List.Mem.tail _ ?_)) (subCons (by repeat (first | exact hm2 | refine List.Mem.tail _ ?_)) (by ksw_same)))
          clear FY NY N14
          replace hA : (as.map Value.ref)[(1 + (i : Int) - 1).toNat]? = some (.ref a1) := by rw [show (1 + (i : Int) - 1).toNat = i by walk_at "om"]; exact hA
          replace hB : (as.map Value.ref)[(1 + (i : Int)).toNat]? = some (.ref a2) := by rw [show (1 + (i : Int)).toNat = i + 1 by walk_at "om"]; exact hB
          show wpAny _ _ _ _ _ _
          k_fold
          walk_at "flat"
          k_steps
          exact ⟨_, _, rfl, fun _ _ e => e⟩
        · intro D9 e9 h9 tk9 F9 N9 hne9
          clear FY NY
          show wpAny _ _ _ _ _ _
          walk_at "flat"
          k_steps
          exact ⟨[(454, tabObj cs4), (447, tabObj cs)], ((fmc (by k_mem) ((fmc (by k_mem) (List.forall_mem_nil _))))), rfl, _, _, rfl⟩
      · decide
      · rfl
      · decide
      · rfl
      · intro _; rfl
end
local macro_rules | `(tactic| walk_at "subscriptTail") => `(tactic| specialize [Mine.sub_int] )
noncomputable def AllLt3 (d : Nat) : Led → Prop
  | [] => True
  | p :: r => ALt p.1 d ∧ AllLt3 d r
theorem allLt3_of {d : Addr} : ∀ {l : Led}, (∀ p ∈ l, p.1 < d) → AllLt3 d l
  | [], _ => trivial
  | p :: r, h => ⟨h p (.head _), allLt3_of fun q hq => h q (.tail _ hq)⟩
local macro_rules | `(tactic| k_lt $h:ident) => `(tactic| first | (skip; skip; skip; replace $h := allLt2_of $h; dsimp only [AllLt2] at $h:ident; (fail_if_success (rename AllLt2 _ _ => zz))) | (replace $h := allLt3_of $h; dsimp only [AllLt3] at $h:ident))
local macro_rules | `(tactic| walk_at "call ref") => `(tactic| ((with_reducible show wpAny _ _ (call (Value.ref 471) _) _ _ _); k_dflt (apply Mine.use_goes); k_dflt (walk_at "std"); refine stopHere ?_))
local macro_rules | `(tactic| walk_at "execs cons") => `(tactic| ((with_reducible show wpAny _ _ (execs [_, _, _, _] _) _ _ _); refine stopHere ?_))
theorem plcs_len {n : Nat} {e : Int} {i : Nat} : (plcs n e i).length = i := by simp [plcs]
theorem plcs_succ {n : Nat} {e : Int} {i : Nat} : plcs n e (i + 1) = plcs n e i ++ [atJ n e (i + 1)] := by simp [plcs, List.range_succ]
noncomputable abbrev lawL (nt lp lq D2 L : Addr) (x27 : Nat) (ws pv us : List Value) (oO oP oG oF oE oM : Obj) (c2 ep e : Nat) (cs1 cs2 : Array Value) : Led :=
  [(lq, PySem.W.listOf us.toArray e), (lp, PySem.W.listOf pv.toArray ep), (nt, PySem.W.listOf #[Value.int (0 + 1 + 1 + 1 + 1 + 1) x27, Value.ref D2] 0), (D2, PySem.W.listOf ws.toArray c2), (L + 1 + 1 + 1 + 1 + 1 + 1, oO), (L + 1 + 1 + 1 + 1 + 1, oP), (L + 1 + 1 + 1 + 1, oG), (L + 1 + 1 + 1, oF), (L + 1 + 1, oE), (L + 1, oM), (454, tabObj cs1), (447, tabObj cs2)]
inductive LawInv (vS : Int) (tS : Tok) (nt lp lq D2 L : Addr) (x27 : Nat) (ws pv : List Value) (oO oP oG oF oE oM : Obj) (c2 ep n : Nat) (ev : Int) (I : Addr) (i : Nat) (m : Str → Option Value) (news : Led) : Prop
  | mk (us : List Value) (e : Nat) (tka : Tok) (e1 : m (Str.ofString "slots") = some (.int vS tS)) (e2 : m (Str.ofString "net") = some (.ref nt)) (e3 : m (Str.ofString "places") = some (.ref lq)) (e4 : m (Str.ofString "at") = some (.int (atJ n ev i) tka))
    (e5 : news = lawL nt lp lq D2 L x27 ws pv us oO oP oG oF oE oM c2 ep e #[] #[]) (e6 : IntsAre us (plcs n ev i)) (e7 : @LT.lt Nat _ lq I) : LawInv vS tS nt lp lq D2 L x27 ws pv oO oP oG oF oE oM c2 ep n ev I i m news
section
variable {w : World} {A : Around} {s : Shared} {b₀ : Heap} {E : Value → Shared → Prop} (W : Wd w b₀) (hb : b₀.StaysIn s.heap)
include W hb
theorem law_spec (hC1 : CodeHd b₀ 458 454) (hC2 : CodeHd b₀ 451 447) (hP1 : b₀.get? 454 = none) (hP2 : b₀.get? 447 = none) (sc : Addr) (scv : List Value) (sn : List Int) (hi : IntsAre scv sn) (hlen : sn.length ≤ 63) (hsc : b₀.IsList sc scv.toArray)
    (H : Has s.heap [(454, tabObj #[]), (447, tabObj #[])]) (r : Room A 40) :
    codeAny (model PySem.Challenge.rw_xm0627_01.row.prog w) A (.call (.ref 476) ⟨[.ref sc], []⟩) (OutR [454, 447] s (fun x l => x = .bool true ∧ ∃ cs cs', l = [(454, tabObj cs), (447, tabObj cs')]) E) s := by
  walk_at "kfill"
  refine' enterCc [454, 447] [(454, tabObj #[]), (447, tabObj #[])] [(Str.ofString "script", .ref sc)] W hb ?hm ?hl ?ho ?hcd r ?hbind ?hkind ?hnd ?_ ?c1 ?c2 ?c3
  case hm => exact (fmc hP1 ((fmc hP2 (List.forall_mem_nil _))))
  case hl => exact (fmc (⟨H _ (.head _), .head _⟩) ((fmc (⟨H _ (.tail _ (.head _)), .tail _ (.head _)⟩) (List.forall_mem_nil _))))
  walk_at "kenter"
  intro g L h₁ tk cells p loose mean mg mb dp fr gd un X TP W' hg F N Y l1 r' hU
  k_fold
  have hk : b₀.StaysIn g := fun b o e => hg b (fun q => by
    rcases List.mem_cons.mp q with rfl | q; (rw [hP1] at e; cases e)
    rw [List.mem_singleton.mp q, hP2] at e; cases e) o (hb b o e)
  have C1 : CodeHd g 458 454 := CodeHd.keeps hC1 hk
  have C2 : CodeHd g 451 447 := CodeHd.keeps hC2 hk
  have hsc' : g.IsList sc scv.toArray := hsc.at fun o e => hk _ o e
  have hlv := hi.length
  clear H hg
  k_lt l1
  k_cells Y
  dsimp only [List.cons_append, List.nil_append] at N
  show wpAny _ _ _ _ _ _
  walk_at "flat"
  k_steps
  unfold Stop
  rename Fr _ _ _ _ => F1
  rename News _ _ _ _ => N1
  rename_i oO a1 a2 a3 a4 a5 dO b1 b2 b3 b4 b5 D3 ws x1 hI hC hL x2 D2 c2 x3 x4 nt x5 x6 x7 x8 vM tM x9 x10 x11 vM0 vM1 vE tE x12 x13 x14 vE0 vE1 D1 x15 x16 x17 x18 oM dM x19 oE dE x20 vS tS x21 x22 x23 vS0 vS1 vF tF x24 x25 x26 vF0 vF1 vG tG x27 x28 x29 vG0 vG1 D0 x30 x31 x32 x33 x34 oF dF x35 oG dG
  obtain ⟨n, hn⟩ := Int.eq_ofNat_of_zero_le (show 0 ≤ 3 + vM by walk_at "om")
  rw [hn] at dM vS1
  have hn3 : 3 ≤ n := by walk_at "om"
  have hn8 : n ≤ 8 := by walk_at "om"
  generalize hE : 1 + vE = ev at dE
  generalize hF : vF - 50 = fs at dF
  generalize hG : 1 + vG = gp at dG
  have N2 : News g L _ [(nt, PySem.W.listOf #[Value.int (0 + 1 + 1 + 1 + 1 + 1) x27, Value.ref D2] 0), (D2, PySem.W.listOf ws.toArray c2), (L + 1 + 1 + 1 + 1 + 1 + 1, oO), (L + 1 + 1 + 1 + 1 + 1, a1), (L + 1 + 1 + 1 + 1, oG), (L + 1 + 1 + 1, oF), (L + 1 + 1, oE), (L + 1, oM), (454, tabObj #[]), (447, tabObj #[])] := news_sub N1 (by ksw_same)
  have l1a : @LT.lt Nat _ (L + 1 + 1 + 1 + 1 + 1 + 1) D2 := by ksw_less
  have l1b : @LT.lt Nat _ D2 nt := by ksw_less
  clear N1 x2 x4 x6 x31 x16 a2 a3 a4 a5 b2 b3 b4 b5
  refine comp_open (fun _ => true) (fun i y => ∃ t, y = .int (fs + gp * i) t) ?_ rfl ?_ ?_ ?_ ?_ ?_
  · show wpAny _ _ _ _ _ _
    walk_at "flat"
    k_steps
    rename IsRange _ _ _ _ _ _ _ _ => rg
    rename Fr _ _ _ _ => F3
    rename News _ _ _ _ => N3
    refine comp_range r'.hh rg ?_ ?_ ?_ F3 N3 ?_ ?_ (n := n)
    · exact range_small (by walk_at "om")
    · exact range_size
    · rw [sizeLine_eq]; walk_at "om"
    · intro C i t s₂ m₂ E' hC9 hi9 hn2 hx9 hk9
      obtain ⟨F4, N4⟩ := block_ground F3 N3 hC9 hn2 hk9
      clear F3 N3
      show wpAny _ _ _ _ _ _
      k_fold
      have hi8 : (i : Int) < 8 := by walk_at "om"
      walk_at "flat"
      k_steps
      exact ⟨_, _, rfl, fun _ _ e => e⟩
    · intro lp pv ep h5 tk5 F5 N5 hne5 hlen5 hys5
      have hgp : 1 ≤ gp ∧ gp ≤ 9 := by walk_at "om"
      replace hne5 := allNe2_of hne5
      dsimp only [AllNe2] at hne5
      clear F3 N3
      have hpi : IntsAre pv (ppl fs gp n) := by
        unfold ppl
        refine ints_of_get (f := fun i => fs + gp * (i : Int)) hlen5 fun i hi => ?_
        obtain ⟨y, e1, t, e2⟩ := hys5 i hi
        exact ⟨t, by rw [e1, e2, Int.zero_add]⟩
      show wpAny _ _ _ _ _ _
      walk_at "flat"
      k_steps
      unfold Stop
      rename Fr _ _ _ _ => F6
      refine For_turns F6 ?_
      k_whole
      walk_at "flat"
      k_steps
      unfold Stop
      rename IsRange _ _ _ _ _ _ _ _ => rg2
      rename Fr _ _ _ _ => F7
      rename News _ _ _ _ => N7
      rename Obj.data _ = Data.cell (some (Value.ref _)) => dP
      rename_i lq z1 ly1 Dq z2 ly2 z3 z4 oP z5 z6 z7 z8 z9 z10 t1' u1' v1' z11
      have l2a : @LT.lt Nat _ lp lq := ly1.1
      have l2b : @LT.lt Nat _ nt lq := by ksw_less
      clear ly2
      refine for_range (n := n) (news := lawL nt lp lq D2 L x27 ws pv [] oO oP oG oF oE oM c2 ep 0 #[] #[]) (LawInv vS tS nt lp lq D2 L x27 ws pv oO oP oG oF oE oM c2 ep n ev) r'.hh rg2 ?_ ?_ F7 ?_ ?_ ?_ ?_
      · exact rsmallD (by walk_at "om") (by walk_at "om")
      · exact rsizeD (by walk_at "om")
      · exact news_sub N7 (by ksw_same)
      · intro I hI
        exact ⟨[], 0, _, (by with_unfolding_all rfl), (by with_unfolding_all rfl), (by with_unfolding_all rfl), (by with_unfolding_all rfl), rfl, .nil, hI _ (.head _)⟩
      · rintro I m₁ news₁ h tk ⟨us, e, tka, e1, e2, e3, e4, e5, e6, e7⟩ F N
        replace F : Fr g L h m₁ := F
        replace N : News g L h news₁ := N
        subst e5
        have F0 := fr_st [(Str.ofString "slots", _), (Str.ofString "net", _), (Str.ofString "places", _)] F ((fmc e1 ((fmc e2 ((fmc e3 (List.forall_mem_nil _)))))))
        clear F F7 N7 e1 e2 e3 e4
        simp only [lawL] at N
        dsimp only
        show wpAny _ _ _ _ _ _
        walk_at "flat"
        k_steps
        unfold Stop
        rename Fr _ _ _ _ => F8
        rename News _ _ _ _ => N8
        have hpl : (ppl fs gp n).length = n := by simp [ppl]
        have N9 : News g L _ ((lp, PySem.W.listOf pv.toArray ep) :: (lq, PySem.W.listOf us.toArray e) :: [(nt, PySem.W.listOf #[Value.int (0 + 1 + 1 + 1 + 1 + 1) x27, Value.ref D2] 0), (D2, PySem.W.listOf ws.toArray c2), (L + 1 + 1 + 1 + 1 + 1 + 1, oO), (L + 1 + 1 + 1 + 1 + 1, oP), (L + 1 + 1 + 1 + 1, oG), (L + 1 + 1 + 1, oF), (L + 1 + 1, oE), (L + 1, oM), (454, tabObj #[]), (447, tabObj #[])]) := news_sub N8 (by ksw_same)
        refine use_seated W' F8 N9 hpi (by walk_at "om") (by walk_at "ltA") vS0 (by walk_at "om") (by walk_at "room") (by walk_at "aps") fun T tus te tj h10 tk10 F10 N10 hiu hj8 o1' o2' o3' o4' ht hd hla hln => ?_
        dsimp only [List.cons_append, List.nil_append] at N10
        clear F8 N8 N9
        walk_at "flat"
        k_steps
        unfold Stop
        rename Fr _ _ _ _ => F11
        rename News _ _ _ _ => N11
        obtain ⟨g1, g2, g3, g4, g5, g6, g7, g8, g9⟩ := ring_law (fs := fs) (gp := gp) (ev := ev) hn3 hn8 (by walk_at "om") (by walk_at "om") (by walk_at "om")
        have ⟨lyA, lyB, lyC, lyD, lyE, lyF, lyG, lyH, lyI, lyJ, lyK⟩ := ly1
        have kk : (@Ne Nat lp 454) ∧ (@Ne Nat nt 454) ∧ (@Ne Nat D2 454) ∧ (@Ne Nat (L + 1 + 1 + 1 + 1 + 1 + 1) 454) ∧ (@Ne Nat (L + 1 + 1 + 1 + 1 + 1) 454) ∧ (@Ne Nat (L + 1 + 1 + 1 + 1) 454) ∧ (@Ne Nat (L + 1 + 1 + 1) 454) ∧ (@Ne Nat (L + 1 + 1) 454) ∧ (@Ne Nat (L + 1) 454) := by refine ⟨?_, ?_, ?_, ?_, ?_, ?_, ?_, ?_, ?_⟩ <;> first | k_ne | walk_at "om"
        have NA : News g L _ ((447, tabObj #[]) :: (lq, PySem.W.listOf us.toArray e) :: (tled w T (tus ++ List.replicate tj Value.none) te ++ (lp, PySem.W.listOf pv.toArray ep) :: [(nt, PySem.W.listOf #[Value.int (0 + 1 + 1 + 1 + 1 + 1) x27, Value.ref D2] 0), (D2, PySem.W.listOf ws.toArray c2), (L + 1 + 1 + 1 + 1 + 1 + 1, oO), (L + 1 + 1 + 1 + 1 + 1, oP), (L + 1 + 1 + 1 + 1, oG), (L + 1 + 1 + 1, oF), (L + 1 + 1, oE), (L + 1, oM), (454, tabObj #[])])) := news_sub N11 (by ksw_same)
        clear N11
        refine use_gone (rest := (lp, PySem.W.listOf pv.toArray ep) :: [(nt, PySem.W.listOf #[Value.int (0 + 1 + 1 + 1 + 1 + 1) x27, Value.ref D2] 0), (D2, PySem.W.listOf ws.toArray c2), (L + 1 + 1 + 1 + 1 + 1 + 1, oO), (L + 1 + 1 + 1 + 1 + 1, oP), (L + 1 + 1 + 1 + 1, oG), (L + 1 + 1 + 1, oF), (L + 1 + 1, oE), (L + 1, oM), (454, tabObj #[])]) (tl0 := []) (cs0 := #[]) W' C2 F11 NA (by dsimp only [tled, List.cons_append, List.nil_append, List.append_nil]; ksw_same) (by k_mem) ((show Apart [lp] ([] : Led) from fun _ h => nomatch h).out (.head _) (by k_ne) (l2a) o1' o2' o3' o4') (.inl rfl) (fun _ h => nomatch h) hpi hiu (by ksw_less) o1' o2' o3' o4' e6 ?x2 ?x3 ?x4 ?x5 (by walk_at "room") ?x6 fun q lo os us' j' w6 w7 w8 cs7 tlc h12 tk12 F12 N12 hcs7 hst hos hiu' hj' hAp ll1 hlo hgr => ?_
        case x2 => rw [hpl]; exact g1
        case x3 => walk_at "om"
        case x4 => rw [plcs_len]; walk_at "om"
        case x5 => rw [g6]; walk_at "om"
        case x6 => exact (fmc (⟨by k_mem, (show Apart [lp] ([] : Led) from fun _ h => nomatch h).out (.head _) (by k_ne) (l2a) o1' o2' o3' o4'⟩) ((fmc (⟨by k_mem, (show Apart [nt] ([] : Led) from fun _ h => nomatch h).out (.head _) (by k_ne) (l2b) o1' o2' o3' o4'⟩) ((fmc (⟨by k_mem, (show Apart [D2] ([] : Led) from fun _ h => nomatch h).out (.head _) (by k_ne) (lyC) o1' o2' o3' o4'⟩) ((fmc (⟨by k_mem, (show Apart [L + 1 + 1 + 1 + 1 + 1 + 1] ([] : Led) from fun _ h => nomatch h).out (.head _) (by k_ne) (by ksw_less) o1' o2' o3' o4'⟩) ((fmc (⟨by k_mem, (show Apart [L + 1 + 1 + 1 + 1 + 1] ([] : Led) from fun _ h => nomatch h).out (.head _) (by k_ne) (by ksw_less) o1' o2' o3' o4'⟩) ((fmc (⟨by k_mem, (show Apart [L + 1 + 1 + 1 + 1] ([] : Led) from fun _ h => nomatch h).out (.head _) (by k_ne) (by ksw_less) o1' o2' o3' o4'⟩) ((fmc (⟨by k_mem, (show Apart [L + 1 + 1 + 1] ([] : Led) from fun _ h => nomatch h).out (.head _) (by k_ne) (by ksw_less) o1' o2' o3' o4'⟩) ((fmc (⟨by k_mem, (show Apart [L + 1 + 1] ([] : Led) from fun _ h => nomatch h).out (.head _) (by k_ne) (by ksw_less) o1' o2' o3' o4'⟩) ((fmc (⟨by k_mem, (show Apart [L + 1] ([] : Led) from fun _ h => nomatch h).out (.head _) (by k_ne) (by ksw_less) o1' o2' o3' o4'⟩) ((fmc (⟨by k_mem, (show Apart [454] ([] : Led) from fun _ h => nomatch h).out (.head _) (show @Ne Nat 454 447 by decide) (by ksw_less) o1' o2' o3' o4'⟩) (List.forall_mem_nil _))))))))))))))))))))
        have A5 : Apart [nt, L + 1 + 1 + 1 + 1 + 1 + 1, 454] tlc := hgr _ (fun _ h => nomatch h) ((fmc (⟨_, by k_mem⟩) ((fmc (⟨_, by k_mem⟩) ((fmc (⟨_, by k_mem⟩) (List.forall_mem_nil _)))))))
        dsimp only [tled, List.cons_append, List.nil_append] at N12
        clear F11 NA
        have ll6 : @LT.lt Nat _ lo q := ll1
        have p1 : @Ne Nat (lp) lo := hlo (lp, PySem.W.listOf pv.toArray ep) (by k_mem)
        have p2 : @Ne Nat (lq) lo := hlo (lq, PySem.W.listOf us.toArray e) (by k_mem)
        have p3 : @Ne Nat (454) lo := hlo (454, tabObj #[]) (by k_mem)
        have p4 : @Ne Nat (447) lo := hlo (447, tabObj #[]) (by k_mem)
        have p5 : @Ne Nat (T.t) lo := hlo (T.t, instObj 424 T.d) (by k_mem)
        have p6 : @Ne Nat (T.d) lo := hlo (T.d, dictOf (tabEs w T) 10) (by k_mem)
        have p7 : @Ne Nat (T.la) lo := hlo (T.la, PySem.W.listOf (tus ++ List.replicate tj Value.none).toArray te) (by k_mem)
        have p8 : @Ne Nat (T.ln) lo := hlo (T.ln, PySem.W.listOf #[] T.en) (by k_mem)
        have pA : @Ne Nat (L + 1 + 1 + 1 + 1 + 1 + 1) lo := hlo (L + 1 + 1 + 1 + 1 + 1 + 1, oO) (by k_mem)
        have pB : @Ne Nat (L + 1 + 1 + 1 + 1 + 1) lo := hlo (L + 1 + 1 + 1 + 1 + 1, oP) (by k_mem)
        have pC : @Ne Nat (L + 1 + 1 + 1 + 1) lo := hlo (L + 1 + 1 + 1 + 1, oG) (by k_mem)
        have pD : @Ne Nat (L + 1 + 1 + 1) lo := hlo (L + 1 + 1 + 1, oF) (by k_mem)
        have pE : @Ne Nat (L + 1 + 1) lo := hlo (L + 1 + 1, oE) (by k_mem)
        have pF : @Ne Nat (L + 1) lo := hlo (L + 1, oM) (by k_mem)
        have pG : @Ne Nat (nt) lo := hlo (nt, PySem.W.listOf #[Value.int (0 + 1 + 1 + 1 + 1 + 1) x27, Value.ref D2] 0) (by k_mem)
        have pH : @Ne Nat (D2) lo := hlo (D2, PySem.W.listOf ws.toArray c2) (by k_mem)
        clear hlo hgr hst
        show wpAny _ _ _ _ _ _
        walk_at "flat"
        k_steps
        unfold Stop
        refine comp_open (fun _ => true) (fun i y => ∃ t, y = .int ((ppl fs gp n).getD (ring n ev (i + 1) i.toNat).toNat 0) t) ?_ rfl ?_ ?_ ?_ ?_ ?_
        · show wpAny _ _ _ _ _ _
          walk_at "flat"
          k_steps
          rename IsRange _ _ _ _ _ _ _ _ => rg3
          rename Fr _ _ _ _ => F13
          rename News _ _ _ _ => N13
          refine comp_range r'.hh rg3 ?_ ?_ ?_ F13 N13 ?_ ?_ (n := n)
          · exact range_small (by walk_at "om")
          · exact range_size
          · rw [sizeLine_eq]; walk_at "om"
          · intro C i t s₂ m₂ E' hC9 hi9 hn2 hx9 hk9
            obtain ⟨F14, N14⟩ := block_ground F13 N13 hC9 hn2 hk9
            clear F13 N13
            show wpAny _ _ _ _ _ _
            k_fold
            walk_at "flat"
            k_steps
            unfold Stop
            intro tk6 h16 tk16 F16 N16 k16
            obtain ⟨b1, b2⟩ := g5 i hi9
            have b3 : ring n ev (0 + (i : Int) + 1) (0 + (i : Int)).toNat = ring n ev (i + 1) i := by rw [Int.zero_add, Int.toNat_natCast]
            generalize ring n ev (i + 1) i = rv at b1 b2 b3 ⊢
            show wpAny _ _ _ _ _ _
            walk_at "flat"
            k_steps
            · rw [b3]
            · exact ⟨_, _, rfl, k16⟩
          · intro D5 ys5 e5 h15 tk15 F15 N15 hne15 hlen15 hys15
            have hri : IntsAre ys5 (goneO (ppl fs gp n) (plcs n ev n)) := by
              rw [g4]
              refine ints_of_get (f := fun i : Nat => (ppl fs gp n).getD (ring n ev (i + 1) i).toNat 0) hlen15 fun i hi => ?_
              obtain ⟨y, e1, t, e2⟩ := hys15 i hi
              exact ⟨t, by rw [e1, e2, Int.zero_add, Int.toNat_natCast]⟩
            replace hne15 := allNe2_of hne15
            dsimp only [AllNe2] at hne15
            clear F13 N13 hys15
            show wpAny _ _ _ _ _ _
            walk_at "flat"
            k_steps
            unfold Stop
            rename Fr _ _ _ _ => F17
            rename News _ _ _ _ => N17
            refine use_moves (e := w6) W' F17 N17 (by k_mem) hos ?x1 (by walk_at "room") fun tk18 h18 tk18' F18 N18 => ?_
            case x1 => rw [← hri.length, hlen15]; walk_at "om"
            rw [g6] at N18
            generalize hmv : moves (goneO (ppl fs gp n) (plcs n ev n)) = mv at N18 g7 g9 ⊢
            clear F17 N17
            show wpAny _ _ _ _ _ _
            rw [g3] at hiu' hj'
            have hj9 : j' = n + tj := by simp only [List.length_nil] at hj'; walk_at "om"
            have hT : TabOk g T := ⟨o2', o3', o4', (N18 (T.t, instObj 424 T.d) (by k_mem)).2.2, (N18 (T.d, dictOf (tabEs w T) 10) (by k_mem)).2.2, (N18 (T.la, PySem.W.listOf (us' ++ List.replicate j' Value.none).toArray w7) (by k_mem)).2.2, (N18 (T.ln, PySem.W.listOf #[] T.en) (by k_mem)).2.2⟩
            have hl0 : ([] : List Int).length + j' < 1000 := by simp only [List.length_nil]; walk_at "om"
            walk_at "flat"
            k_steps
            · rename_i hne; exact absurd rfl hne
            unfold Stop
            rename Fr _ _ _ _ => F19
            rename News _ _ _ _ => N19
            have NB : News g L _ ((454, tabObj #[]) :: (lq, PySem.W.listOf us.toArray e) :: (lo, PySem.W.listOf os.toArray w6) :: (tled w T (us' ++ List.replicate j' Value.none) w7 ++ [(447, tabObj cs7), (lp, PySem.W.listOf pv.toArray ep), (nt, PySem.W.listOf #[Value.int (0 + 1 + 1 + 1 + 1 + 1) x27, Value.ref D2] 0), (D2, PySem.W.listOf ws.toArray c2), (L + 1 + 1 + 1 + 1 + 1 + 1, oO), (L + 1 + 1 + 1 + 1 + 1, oP), (L + 1 + 1 + 1 + 1, oG), (L + 1 + 1 + 1, oF), (L + 1 + 1, oE), (L + 1, oM)] ++ tlc)) := news_sub N19 (by ksw_same)
            clear N19
            refine use_back W' C1 F19 NB ?y1 o1' o2' o3' o4' ?y2 ?y3 ?y4 ?y5 ?y6 ?y7 e6 hos ?y8 ?y9 hiu' hl0 g2 ?y10 ?y11 (by walk_at "room") ?y12 fun us2 j2 f2 tk20 cs4 h20 tk20' F20 N20 hiu2 hj2 => ?_
            case y1 => exact lyJ
            case y2 => exact fun h => p3 h.symm
            case y3 => exact fun h => p2 h.symm
            case y4 => exact fun h => p5 h.symm
            case y5 => exact fun h => p6 h.symm
            case y6 => exact fun h => p7 h.symm
            case y7 => exact fun h => p8 h.symm
            case y8 => rw [plcs_len, ← hri.length, hlen15]
            case y9 => rw [plcs_len]; walk_at "om"
            case y10 => rw [plcs_len]; walk_at "om"
            case y11 => rw [show putN ([] : List Int).length (plcs n ev n).reverse = mv from g7]; walk_at "om"
            case y12 => exact (fmc (notinC (show @Ne Nat 447 454 by decide) lyK p4 o1' o2' o3' o4') ((fmc (notinC kk.1 lyA p1 o1' o2' o3' o4') ((fmc (notinC kk.2.1 lyB pG o1' o2' o3' o4') ((fmc (notinC kk.2.2.1 lyC pH o1' o2' o3' o4') ((fmc (notinC kk.2.2.2.1 lyD pA o1' o2' o3' o4') ((fmc (notinC kk.2.2.2.2.1 lyE pB o1' o2' o3' o4') ((fmc (notinC kk.2.2.2.2.2.1 lyF pC o1' o2' o3' o4') ((fmc (notinC kk.2.2.2.2.2.2.1 lyG pD o1' o2' o3' o4') ((fmc (notinC kk.2.2.2.2.2.2.2.1 lyH pE o1' o2' o3' o4') ((fmc (notinC kk.2.2.2.2.2.2.2.2 lyI pF o1' o2' o3' o4') (fun p hp => notinB (A5 p hp 454 (by k_mem)) (hAp p hp lq (by k_mem)) (hAp p hp lo (by k_mem)) (hAp p hp T.t (by k_mem)) (hAp p hp T.d (by k_mem)) (hAp p hp T.la (by k_mem)) (hAp p hp T.ln (by k_mem))))))))))))))))))))))
            rw [g8] at hiu2 hj2
            rw [show putN ([] : List Int).length (plcs n ev n).reverse = mv from g7]
            dsimp only [List.cons_append, List.nil_append] at N20
            clear NB F19 p1 p2 p3 p4 p5 p6 p7 p8 pA pB pC pD pE pF pG pH kk
            walk_at "flat"
            k_steps
            · rename_i hne; exact absurd rfl hne
            unfold Stop
            rename Fr _ _ _ _ => F21
            rename News _ _ _ _ => N21
            have hT2 : TabOk g T := ⟨o2', o3', o4', hT.n1, hT.n2, hT.n3, hT.n4⟩
            have hul2 := hiu2.length
            rw [hpl] at hul2 hj2
            have hj3 : n + j2 = 0 + j' := hj2
            rw [cast_succ]
            refine use_row (arr := us2 ++ List.replicate j2 Value.none) (e := f2) W' hT2 F21 N21 (by walk_at "sub") (by simp only [List.length_append, List.length_replicate]; walk_at "om") (by walk_at "om") (by walk_at "room") fun q6 e8 h22 tk22 F22 N22 hq6 => ?_
            rw [row_any hiu2 (by rw [hpl])] at N22
            replace hq6 := allNe2_of hq6
            dsimp only [AllNe2] at hq6
            clear F21 N21
            show wpAny _ _ _ _ _ _
            walk_at "flat"
            k_steps
            unfold Stop
            rename Fr _ _ _ _ => FZ
            rename News _ _ _ _ => NZ
            have NY := news_sub (l := (nt, PySem.W.listOf #[Value.int (0 + 1 + 1 + 1 + 1 + 1) x27, Value.ref D2] 0) :: (D2, PySem.W.listOf ws.toArray c2) :: (L + 1 + 1 + 1 + 1 + 1 + 1, oO) :: (L + 1 + 1 + 1 + 1, oG) :: (L + 1 + 1 + 1, oF) :: (447, tabObj cs7) :: (454, tabObj cs4) :: tlc) NZ (by ksw_same)
            exact law_tail X TP W' r' hU C2 FZ NY hcs7 ((((hAp.sub (ys := [447]) (by ksw_same)).cons (A5.get (x := 454) (by k_mem))).sub (ys := [447, 454]) (by ksw_same)).cons (A5.get (x := L + 1 + 1 + 1 + 1 + 1 + 1) (by k_mem)) |>.cons (A5.get (.head _))) (by with_unfolding_all rfl) hI (by walk_at "om") dO dG dF (by walk_at "om") (by walk_at "om") (by walk_at "om") (by walk_at "om") (by first | walk_at "om" | ksw_less) (by first | walk_at "om" | ksw_less) l1a l1b
        · decide
        · rfl
        · decide
        · rfl
        · intro _; rfl
      · rintro I i m₁ news₁ h tk o tt hlt ⟨us, e, tka, e1, e2, e3, e4, e5, e6, e7⟩ F hc N
        k_fold
        subst e5
        have F0 := fr_st [(Str.ofString "slots", _), (Str.ofString "net", _), (Str.ofString "places", _), (Str.ofString "at", _)] F ((fmc e1 ((fmc e2 ((fmc e3 ((fmc e4 (List.forall_mem_nil _)))))))))
        clear F F7 N7 e1 e2 e3 e4
        simp only [lawL] at N
        have hus := e6.length
        have hus2 : us.length < 100 := by rw [hus, plcs_len]; walk_at "om"
        show wpAny _ _ _ _ _ _
        walk_at "flat"
        k_steps
        unfold Stop
        rename Fr _ _ _ _ => F8
        rename News _ _ _ _ => N8
        simp only [List.push_toArray] at N8
        refine ⟨_, _, _, _, rfl, F8, N8, ?ne, us ++ [.int (atJ n ev (i + 1)) _], e + 1, _, (by with_unfolding_all rfl), (by with_unfolding_all rfl), (by with_unfolding_all rfl), (by with_unfolding_all rfl), rfl, ?gi, e7⟩
        case ne => exact ne_of_all (by walk_at "ltall")
        case gi => rw [plcs_succ]; exact e6.append (.cons _ _ .nil)
  · decide
  · rfl
  · decide
  · rfl
  · intro _; rfl
end
noncomputable abbrev lawTabs : List (Addr × Addr) := [(458, 454), (451, 447)]
theorem law_good {w : World} {s₁ : Shared} {p : Program} {loose : List Str} {mean : ExcName → Option Value} {mg mb : Str → Option Value} {sc : Addr} {scv : List Value} {sn : List Int} {c : ClaimW} {cl : Str → Option Addr} {mean' : ExcName → Option Value} {args : List WData}
    (KX : (HK.heap_1 w.params).In s₁.heap) (hT : TabsAt lawTabs s₁.heap) (T : Top p loose mean mg mb s₁.heap) (hg : s₁.gens = #[]) (hL : s₁.heap.IsList sc scv.toArray) (hi : IntsAre scv sn) (hlen : sn.length ≤ 63)
    (hn : ∀ cls, c.raises args cls = false) (hp : c.post args (.bool true) args = true) (hno : noTabs (HK.heap_1 w.params) = true) :
    codeAny (model PySem.Challenge.rw_xm0627_01.row.prog w) callerA (.call (.ref 476) ⟨[.ref sc], []⟩) (fun r s' => GoodW c cl mean' args { s₁ with heap := ghostOf s₁.heap lawTabs } r s' ∧ GrownAll lawTabs s'.heap) s₁ := by
  have W : Wd w (ghostOf s₁.heap lawTabs) := ⟨ghost_K hT KX hno, _, _, _, _, _, ghost_top hT T⟩
  have hC := ghost_code hT
  have r : Room callerA 40 := ⟨rfl, by decide, by decide⟩
  refine codeAny_mono (law_spec (E := fun _ _ => False) W (fun b o e => of_hideAll _ e) hC.1 hC.2.1 (hideAll_none _ (by simp)) (hideAll_none _ (by simp)) sc scv sn hi hlen (ghost_list hT hL)
    ((fmc ((hT _ (.head _)).2) ((fmc ((hT _ (.tail _ (.head _))).2) (List.forall_mem_nil _))))) r) fun r s' h => ?_
  match r, h with
  | .ok (.ret v), h =>
    obtain ⟨h', tk', led, rfl, hk, hl, rfl, cs, cs', rfl⟩ := h
    refine ⟨⟨.inl ⟨.bool true, .bool true, [], rfl, hn, .bool true, hp, unshared_nil⟩, fun b o e => hk b (fun hb => ?_) o (of_hideAll _ e), rfl, hg⟩, ⟨cs, (hl _ (.head _)).1⟩, ⟨cs', (hl _ (.tail _ (.head _))).1⟩, trivial⟩
    have e2 : (ghostOf s₁.heap lawTabs).get? b = none := hideAll_none _ hb
    rw [e2] at e; cases e
end Mine
set_option maxRecDepth 100000
theorem Mine.main.tw9844763035526131762 : True := trivial
theorem Mine.main.tw17641840799575478004 : True := trivial
theorem Mine.main.tw5181712528393318158 : True := trivial
theorem Mine.main.tw16602241572910223693 : True := trivial
theorem Mine.main.tw9658885295015712986 : True := trivial
theorem Mine.main.tw7727412324394037645 : True := trivial
theorem Mine.main.tw17157314595499361122 : True := trivial
theorem Mine.main.tw3935202552604656692 : True := trivial
theorem Mine.main.tw16669030903016767061 : True := trivial
theorem Mine.main.tw3067759450344833359 : True := trivial
theorem Mine.main.tw18092606169130929673 : True := trivial
theorem Mine.main.tw3348570943316782458 : True := trivial
theorem Mine.main.tw748011227583169745 : True := trivial
theorem Mine.main.tw14313061170024940013 : True := trivial
theorem Mine.main.tw12608185968620612914 : True := trivial
theorem Mine.main.tw7439787175107056256 : True := trivial
theorem Mine.main.tw7221758910455160077 : True := trivial
theorem Mine.main.tw11092141859048813250 : True := trivial
theorem Mine.main.tw17146568849442343683 : True := trivial
theorem Mine.main.tw6907636171062424033 : True := trivial
theorem Mine.main.tw12205347405646519318 : True := trivial
theorem Mine.main.tw18165044119631177899 : True := trivial
theorem Mine.main.tw9406782406253462049 : True := trivial
theorem Mine.main.tw10450603732522932521 : True := trivial
theorem Mine.main.tw6511744376749373798 : True := trivial
theorem Mine.main.tw2406621943657119228 : True := trivial
theorem Mine.main.tw13972245371655741198 : True := trivial
theorem Mine.main.tw5378808338967829844 : True := trivial
theorem Mine.main.tw5372645768047454471 : True := trivial
theorem Mine.main.tw9268297945177815525 : True := trivial
theorem Mine.main.tw14027531716089632829 : True := trivial
theorem Mine.main.tw3893045249132586119 : True := trivial
theorem Mine.main.tw2895952525429962455 : True := trivial
theorem Mine.main.tw10896356407431480244 : True := trivial
theorem Mine.main.tw5781596087445459943 : True := trivial
theorem Mine.main.tw15303317825217679618 : True := trivial
theorem Mine.main.tw5585478044538960755 : True := trivial
theorem Mine.main.tw15955573374722617477 : True := trivial
theorem Mine.main.tw11692516046256081784 : True := trivial
theorem Mine.main.tw10334261112615635914 : True := trivial
theorem Mine.main.tw5518243967957118194 : True := trivial
theorem Mine.main.tw15806524323241146399 : True := trivial
theorem Mine.main.tw16778611742570070204 : True := trivial
theorem Mine.main.tw2821470743931037460 : True := trivial
theorem Mine.main.tw11101190512080308003 : True := trivial
theorem Mine.main.tw6855474311058116810 : True := trivial
theorem Mine.main.tw13219505800766818778 : True := trivial
theorem Mine.main.tw9265829497004654079 : True := trivial
theorem Mine.main.tw451873465583785326 : True := trivial
theorem Mine.main.tw6801380410627298636 : True := trivial
theorem Mine.main.tw14539993770535171780 : True := trivial
theorem Mine.main.tw15485851114877660061 : True := trivial
theorem Mine.main.tw16046730324260685337 : True := trivial
theorem Mine.main.tw17297283025540448806 : True := trivial
theorem Mine.main.tw5084117380071580128 : True := trivial
theorem Mine.main.tw17325761959067429606 : True := trivial
theorem Mine.main.tw7093617532817203218 : True := trivial
theorem Mine.main.tw2019394398466159022 : True := trivial
theorem Mine.main.tw17644181745481072423 : True := trivial
theorem Mine.main.tw3394367416137920725 : True := trivial
theorem Mine.main.tw15580989882048331800 : True := trivial
theorem Mine.main.tw1504049600530537962 : True := trivial
theorem Mine.main.tw13406003279186336099 : True := trivial
theorem Mine.main.tw17052023290607921161 : True := trivial
theorem Mine.main.tw5571399437266216444 : True := trivial
theorem Mine.main.tw4365514962571936147 : True := trivial
theorem Mine.main.tw4261964983698606537 : True := trivial
theorem Mine.main.tw14457758005677747962 : True := trivial
theorem Mine.main.tw2852251193174398662 : True := trivial
theorem Mine.main.tw6361450105264607166 : True := trivial
theorem Mine.main.tw15510692781650021527 : True := trivial
theorem Mine.main.tw9730157408454304684 : True := trivial
theorem Mine.main.tw4156125974679941130 : True := trivial
theorem Mine.main.tw9512817274939609580 : True := trivial
theorem Mine.main.tw4766233809647381661 : True := trivial
theorem Mine.main.tw16806246253224384389 : True := trivial
theorem Mine.main.tw10924716458440934090 : True := trivial
theorem Mine.main.tw14218914174604095658 : True := trivial
theorem Mine.main.tw17403364634526059139 : True := trivial
theorem Mine.main.tw2287757881348798766 : True := trivial
theorem Mine.main.tw9302470337196694018 : True := trivial
theorem Mine.main.tw2724176850512262202 : True := trivial
theorem Mine.main.tw14562738103837258888 : True := trivial
theorem Mine.main.tw7237411587787531456 : True := trivial
theorem Mine.main.tw17128291446047057950 : True := trivial
theorem Mine.main.tw4452170602077327944 : True := trivial
theorem Mine.main.tw12885385263037960081 : True := trivial
theorem Mine.main.tw5240779543111244032 : True := trivial
theorem Mine.main.tw11712081513822626495 : True := trivial
theorem Mine.main.tw1678875084529416142 : True := trivial
theorem Mine.main.tw10876375607700338302 : True := trivial
theorem Mine.main.tw11221353774195762014 : True := trivial
theorem Mine.main.tw18238007617527299592 : True := trivial
theorem Mine.main.tw8627561154394265716 : True := trivial
theorem Mine.main.tw13876859957761632879 : True := trivial
theorem Mine.main.tw2714283472998740243 : True := trivial
theorem Mine.main.tw15109750227778091905 : True := trivial
theorem Mine.main.tw9925469786538053656 : True := trivial
theorem Mine.main.tw18332899500509843999 : True := trivial
theorem Mine.main.tw10825838108423173272 : True := trivial
theorem Mine.main.tw16008252555379753968 : True := trivial
theorem Mine.main.tw10149618387772673413 : True := trivial
theorem Mine.main.tw5363903885879670357 : True := trivial
theorem Mine.main.tw16519101796099990279 : True := trivial
theorem Mine.main.tw4900431672193113347 : True := trivial
theorem Mine.main.tw9994787619460420439 : True := trivial
theorem Mine.main.tw9121559901702372667 : True := trivial
theorem Mine.main.tw12431561837914552411 : True := trivial
theorem Mine.main.tw7113585516715319716 : True := trivial
theorem Mine.main.tw10707853282979444102 : True := trivial
theorem Mine.main.tw4775608329324902142 : True := trivial
theorem Mine.main.tw15136431859952498927 : True := trivial
theorem Mine.main.tw11716418206903941319 : True := trivial
theorem Mine.main.tw1714950047550659301 : True := trivial
theorem Mine.main.tw12732289081945773324 : True := trivial
theorem Mine.main.tw5638201095994319732 : True := trivial
theorem Mine.main.tw17974016328880235120 : True := trivial
theorem Mine.main.tw1270039299266317192 : True := trivial
theorem Mine.main.tw13348322127785295214 : True := trivial
theorem Mine.main.tw4038153913678941442 : True := trivial
theorem Mine.main.tw17118054049896295152 : True := trivial
theorem Mine.main.tw12747388180105724736 : True := trivial
theorem Mine.main.tw7380652910202371479 : True := trivial
theorem Mine.main.tw17272174723667511238 : True := trivial
theorem Mine.main.tw14907226015203709474 : True := trivial
theorem Mine.main.tw4500915450034043215 : True := trivial
theorem Mine.main.tw1118068078248606362 : True := trivial
theorem Mine.main.tw3027586509356016917 : True := trivial
theorem Mine.main.tw14064073609400967072 : True := trivial
theorem Mine.main.tw17737603089517620647 : True := trivial
theorem Mine.main.tw7514964652732493775 : True := trivial
theorem Mine.main.tw10204856939554784155 : True := trivial
theorem Mine.main.tw6886502059237256666 : True := trivial
theorem Mine.main.tw11857135199678951331 : True := trivial
theorem Mine.main.tw1453356044741674121 : True := trivial
theorem Mine.main.tw6565609875121592624 : True := trivial
theorem Mine.main.tw6785657489111691699 : True := trivial
theorem Mine.main.tw9417822746687237092 : True := trivial
theorem Mine.main.tw10455743928339290457 : True := trivial
theorem Mine.main.tw15467891735981029475 : True := trivial
theorem Mine.main.tw2496676261509829067 : True := trivial
theorem Mine.main.tw6519269512792494810 : True := trivial
theorem Mine.main.tw4324958949535026087 : True := trivial
theorem Mine.main.tw5613160597433933154 : True := trivial
theorem Mine.main.tw10123989817122485451 : True := trivial
theorem Mine.main.tw14771111431291430275 : True := trivial
theorem Mine.main.tw16641786646906312760 : True := trivial
theorem Mine.main.tw3583811862363856187 : True := trivial
theorem Mine.main.tw4749052000479324790 : True := trivial
theorem Mine.main.tw9369988214560726041 : True := trivial
theorem Mine.main.tw12922898485456448571 : True := trivial
theorem Mine.main.tw104360540948158410 : True := trivial
theorem Mine.main.tw18287795668848337631 : True := trivial
theorem Mine.main.tw7884331609784382070 : True := trivial
theorem Mine.main.tw1615956725737779560 : True := trivial
theorem Mine.main.tw2900998541784483753 : True := trivial
theorem Mine.main.tw17298425922696826006 : True := trivial
theorem Mine.main.tw6162249291895867263 : True := trivial
theorem Mine.main.tw1677766988990989824 : True := trivial
theorem Mine.main.tw7904437144335635152 : True := trivial
theorem Mine.main.tw8079908401900000222 : True := trivial
theorem Mine.main.tw12800608258095302798 : True := trivial
theorem Mine.main.tw9897820754763898449 : True := trivial
theorem Mine.main.tw12590340796369385619 : True := trivial
theorem Mine.main.tw17958375852430007124 : True := trivial
theorem Mine.main.tw8663697691656813868 : True := trivial
theorem Mine.main.tw15554039934745177238 : True := trivial
theorem Mine.main.tw11735423636902730196 : True := trivial
theorem Mine.main.tw10864377008497418100 : True := trivial
theorem Mine.main.tw7298748307773712898 : True := trivial
theorem Mine.main.tw12455012482086183272 : True := trivial
theorem Mine.main.tw11403851563620829512 : True := trivial
theorem Mine.main.tw12361340156312767134 : True := trivial
theorem Mine.main.tw10234815189450012239 : True := trivial
theorem Mine.main.tw15734660467963936456 : True := trivial
theorem Mine.main.tw18134284020713443437 : True := trivial
theorem Mine.main.tw2906824675625879941 : True := trivial
theorem Mine.main.tw4605139254293405059 : True := trivial
theorem Mine.main.tw13724616953566380437 : True := trivial
theorem Mine.main.tw17091655785135471103 : True := trivial
theorem Mine.main.tw8478376212529829071 : True := trivial
theorem Mine.main.tw11086099901593105684 : True := trivial
theorem Mine.main.tw11476092923266045095 : True := trivial
theorem Mine.main.tw17353955331779342651 : True := trivial
theorem Mine.main.tw5102693214775723256 : True := trivial
theorem Mine.main.tw16572128252103988241 : True := trivial
theorem Mine.main.tw9840939614602229412 : True := trivial
theorem Mine.main.tw5797031442667253490 : True := trivial
theorem Mine.main.tw16135426469972691074 : True := trivial
theorem Mine.main.tw3829396358689915599 : True := trivial
theorem Mine.main.tw18190005008629794160 : True := trivial
theorem Mine.main.tw9155575984036265788 : True := trivial
theorem Mine.main.tw7590696779544312186 : True := trivial
theorem Mine.main.tw15270170921892066516 : True := trivial
theorem Mine.main.tw17057053908230417247 : True := trivial
theorem Mine.main.tw15595112118272840620 : True := trivial
theorem Mine.main.tw65644731488775911 : True := trivial
theorem Mine.main.tw5995161000843957690 : True := trivial
theorem Mine.main.tw10642606787283503386 : True := trivial
theorem Mine.main.tw10652863235454686790 : True := trivial
theorem Mine.main.tw9498315638749924794 : True := trivial
theorem Mine.main.tw17268439761433841065 : True := trivial
theorem Mine.main.tw6690441779611380620 : True := trivial
theorem Mine.main.tw9903775340124721222 : True := trivial
theorem Mine.main.tw18063282731904131703 : True := trivial
theorem Mine.main.tw16320729459185622934 : True := trivial
theorem Mine.main.tw15225127925928830808 : True := trivial
theorem Mine.main.tw7308723440029596264 : True := trivial
theorem Mine.main.tw13224007501803129859 : True := trivial
theorem Mine.main.tw14759895335926876869 : True := trivial
theorem Mine.main.tw3706830351922483016 : True := trivial
theorem Mine.main.tw14080665800827857628 : True := trivial
theorem Mine.main.tw15649996292582860464 : True := trivial
theorem Mine.main.tw17695171507069755227 : True := trivial
theorem Mine.main.tw14161005256144132680 : True := trivial
theorem Mine.main.tw16136984950599521427 : True := trivial
theorem Mine.main.tw1587290215689348708 : True := trivial
theorem Mine.main.tw13547569757486424058 : True := trivial
theorem Mine.main.tw1469836325065767749 : True := trivial
theorem Mine.main.tw14504180641510445567 : True := trivial
theorem Mine.main.tw1319676515408343850 : True := trivial
theorem Mine.main.tw6697339332421208802 : True := trivial
theorem Mine.main.tw14798791472264738832 : True := trivial
theorem Mine.main.tw10663580350406149668 : True := trivial
theorem Mine.main.tw1496695287857109588 : True := trivial
theorem Mine.main.tw16008457594558532635 : True := trivial
theorem Mine.main.tw10625486282989778954 : True := trivial
theorem Mine.main.tw73751810991705359 : True := trivial
theorem Mine.main.tw15017983477296125989 : True := trivial
theorem Mine.main.tw1409966394225722968 : True := trivial
theorem Mine.main.tw6183352029847204284 : True := trivial
theorem Mine.main.tw2729793432009153956 : True := trivial
theorem Mine.main.tw7186131708394509389 : True := trivial
theorem Mine.main.tw12941917028564957548 : True := trivial
theorem Mine.main.tw7235775444256392728 : True := trivial
theorem Mine.main.tw12543713266681445118 : True := trivial
theorem Mine.main.tw13693970394777133609 : True := trivial
theorem Mine.main.tw341453280667917650 : True := trivial
theorem Mine.main.tw31828345220925962 : True := trivial
theorem Mine.main.tw6674386428176565332 : True := trivial
theorem Mine.main.tw33456957511925785 : True := trivial
theorem Mine.main.tw15356762974548107741 : True := trivial
theorem Mine.main.tw3627144658338631552 : True := trivial
theorem Mine.main.tw15803610866087392283 : True := trivial
theorem Mine.main.tw1156462466702112376 : True := trivial
theorem Mine.main.tw6075091234017535682 : True := trivial
theorem Mine.main.tw11135027115929721415 : True := trivial
theorem Mine.main.tw15608450976537380609 : True := trivial
theorem Mine.main.tw4458048076830672230 : True := trivial
theorem Mine.main.tw4544244032028310869 : True := trivial
theorem Mine.main.tw18218335207050127959 : True := trivial
theorem Mine.main.tw10669944970481658594 : True := trivial
theorem Mine.main.tw4297412468100583042 : True := trivial
theorem Mine.main.tw6981815665589151136 : True := trivial
theorem Mine.main.tw12702744160499308131 : True := trivial
theorem Mine.main.tw8557395850702784662 : True := trivial
theorem Mine.main.tw1306636233014830658 : True := trivial
theorem Mine.main.tw3466206800631347469 : True := trivial
theorem Mine.main.tw2195194259037543316 : True := trivial
theorem Mine.main.tw3045742163950154196 : True := trivial
theorem Mine.main.tw5677329702179833609 : True := trivial
theorem Mine.main.tw10652611922669240339 : True := trivial
theorem Mine.main.tw11554813239044494598 : True := trivial
theorem Mine.main.tw10231336680788121439 : True := trivial
theorem Mine.main.tw5160751907100791332 : True := trivial
theorem Mine.main.tw16035907590883218939 : True := trivial
theorem Mine.main.tw2279707942289718827 : True := trivial
theorem Mine.main.tw15624239662980076321 : True := trivial
theorem Mine.main.tw453184122279072053 : True := trivial
theorem Mine.main.tw3570300971023340979 : True := trivial
theorem Mine.main.tw11987853993630220354 : True := trivial
theorem Mine.main.tw12027323910402764344 : True := trivial
theorem Mine.main.tw11461230924637031220 : True := trivial
theorem Mine.main.tw2583023086579268501 : True := trivial
theorem Mine.main.tw5450094653865882931 : True := trivial
theorem Mine.main.tw10877679251791092727 : True := trivial
theorem Mine.main.tw10114013102757674387 : True := trivial
theorem Mine.main.tw12992176717851604617 : True := trivial
theorem Mine.main.tw962032349192862916 : True := trivial
theorem Mine.main.tw16305672181175384284 : True := trivial
theorem Mine.main.tw17450470499104002142 : True := trivial
theorem Mine.main.tw8260724100714396741 : True := trivial
theorem Mine.main.tw7332330508316399935 : True := trivial
theorem Mine.main.tw18178676814319149831 : True := trivial
theorem Mine.main.tw12885673836220544336 : True := trivial
theorem Mine.main.tw917386388269078853 : True := trivial
theorem Mine.main.tw3282683096612927266 : True := trivial
theorem Mine.main.tw15131278010643852716 : True := trivial
theorem Mine.main.tw17453503289922162039 : True := trivial
theorem Mine.main.tw17708487481403421675 : True := trivial
theorem Mine.main.tw5243159528196176124 : True := trivial
theorem Mine.main.tw12839114828313443825 : True := trivial
theorem Mine.main.tw3613476055612923068 : True := trivial
theorem Mine.main.tw9976160756891316704 : True := trivial
theorem Mine.main.tw1826329307503635854 : True := trivial
theorem Mine.main.tw12518504611687188807 : True := trivial
theorem Mine.main.tw18315214858253571532 : True := trivial
theorem Mine.main.tw13227692790652741651 : True := trivial
theorem Mine.main.tw7751025194823839400 : True := trivial
theorem Mine.main.tw6044114016751833949 : True := trivial
theorem Mine.main.tw8466321980469482115 : True := trivial
theorem Mine.main.tw2759098988195820126 : True := trivial
theorem Mine.main.tw2225956059507018244 : True := trivial
theorem Mine.main.tw10665469846841522134 : True := trivial
theorem Mine.main.tw8436210846270712021 : True := trivial
theorem Mine.main.tw9483120023164983764 : True := trivial
theorem Mine.main.tw10298723112805639129 : True := trivial
theorem Mine.main.tw11501822485730972192 : True := trivial
theorem Mine.main.tw13503263706703578961 : True := trivial
theorem Mine.main.tw6545385358150927430 : True := trivial
theorem Mine.main.tw15342904991969174519 : True := trivial
theorem Mine.main.tw4990475226369331113 : True := trivial
theorem Mine.main.tw4650958065196391918 : True := trivial
theorem Mine.main.tw14510055921401542917 : True := trivial
theorem Mine.main.tw16832360635688203351 : True := trivial
theorem Mine.main.tw10750994468655217958 : True := trivial
theorem Mine.main.tw16411370214107742406 : True := trivial
theorem Mine.main.tw13838900630717943254 : True := trivial
theorem Mine.main.tw14635473669698735251 : True := trivial
theorem Mine.main.tw9381277316556691805 : True := trivial
theorem Mine.main.tw10363585996791799541 : True := trivial
theorem Mine.main.tw7411558596216406370 : True := trivial
theorem Mine.main.tw7846812961960373227 : True := trivial
theorem Mine.main.tw7293298908176781663 : True := trivial
theorem Mine.main.tw9682133043923132273 : True := trivial
theorem Mine.main.tw11646826074482590764 : True := trivial
theorem Mine.main.tw11181722664286889309 : True := trivial
theorem Mine.main.tw3298483428156984901 : True := trivial
theorem Mine.main.tw8707812797481193996 : True := trivial
theorem Mine.main.tw6389877041954997217 : True := trivial
theorem Mine.main.tw17510229520200029679 : True := trivial
theorem Mine.main.tw11752208632293872130 : True := trivial
theorem Mine.main.tw14060465935940456498 : True := trivial
theorem Mine.main.tw17679725944135375923 : True := trivial
theorem Mine.main.tw6596593509180878263 : True := trivial
theorem Mine.main.tw18284262389922463811 : True := trivial
theorem Mine.main.tw3532412968194664532 : True := trivial
theorem Mine.main.tw2238316416991798583 : True := trivial
theorem Mine.main.tw4812270449578504274 : True := trivial
theorem Mine.main.tw11962923498438245051 : True := trivial
theorem Mine.main.tw8467378866343419333 : True := trivial
theorem Mine.main.tw17402982504261768225 : True := trivial
theorem Mine.main.tw11399646045708457374 : True := trivial
theorem Mine.main.tw2629084897520917108 : True := trivial
theorem Mine.main.tw2544328076492683441 : True := trivial
theorem Mine.main.tw6053611964639427726 : True := trivial
theorem Mine.main.tw8729708805864041840 : True := trivial
theorem Mine.main.tw12273490649430754879 : True := trivial
theorem Mine.main.tw452746233719593009 : True := trivial
theorem Mine.main.tw5473700226181020891 : True := trivial
theorem Mine.main.tw16356685582667847594 : True := trivial
theorem Mine.main.tw12077450504624328385 : True := trivial
theorem Mine.main.tw6508729118710982530 : True := trivial
theorem Mine.main.tw15277975159832343749 : True := trivial
theorem Mine.main.tw8844999433837080629 : True := trivial
theorem Mine.main.tw716429049611869786 : True := trivial
theorem Mine.main.tw14492832472218066102 : True := trivial
theorem Mine.main.tw6542085627976250192 : True := trivial
theorem Mine.main.tw4039676971129161736 : True := trivial
theorem Mine.main.tw8118072479153026202 : True := trivial
theorem Mine.main.tw13626721169425172152 : True := trivial
theorem Mine.main.tw17236958762192778904 : True := trivial
theorem Mine.main.tw9957550378297406723 : True := trivial
theorem Mine.main.tw3491332818749588091 : True := trivial
theorem Mine.main.tw16689149305811164139 : True := trivial
theorem Mine.main.tw2647654807098235363 : True := trivial
theorem Mine.main.tw2456247091588846565 : True := trivial
theorem Mine.main.tw11001617756164336837 : True := trivial
theorem Mine.main.tw7214478077546791972 : True := trivial
theorem Mine.main.tw5127751686995613262 : True := trivial
theorem Mine.main.tw11003572833241299968 : True := trivial
theorem Mine.main.tw13132915859168520264 : True := trivial
theorem Mine.main.tw14061640607465278742 : True := trivial
theorem Mine.main.tw4475767826048309731 : True := trivial
theorem Mine.main.tw10665089971535097683 : True := trivial
theorem Mine.main.tw750237026923860459 : True := trivial
theorem Mine.main.tw1372806426800153423 : True := trivial
theorem Mine.main.tw11982392923317675503 : True := trivial
theorem Mine.main.tw13962693860625380366 : True := trivial
theorem Mine.main.tw17223442867436993403 : True := trivial
theorem Mine.main.tw18418235949754561950 : True := trivial
theorem Mine.main.tw9190990891756207365 : True := trivial
theorem Mine.main.tw387501639795913443 : True := trivial
theorem Mine.main.tw13293747886898857621 : True := trivial
theorem Mine.main.tw3960113756560652017 : True := trivial
theorem Mine.main.tw7623511443260959870 : True := trivial
theorem Mine.main.tw10391951854915411234 : True := trivial
theorem Mine.main.tw4817600198373253283 : True := trivial
theorem Mine.main.tw1850612553970854742 : True := trivial
theorem Mine.main.tw13667920496262714385 : True := trivial
theorem Mine.main.tw11710404883906591787 : True := trivial
theorem Mine.main.tw14639212616227390028 : True := trivial
theorem Mine.main.tw3137596982192898869 : True := trivial
theorem Mine.main.tw16187894506366716058 : True := trivial
theorem Mine.main.tw5400957986263281647 : True := trivial
theorem Mine.main.tw6702130215012162313 : True := trivial
theorem Mine.main.tw12139096438432415106 : True := trivial
theorem Mine.main.tw2921621734765799159 : True := trivial
theorem Mine.main.tw7761410557224570781 : True := trivial
theorem Mine.main.tw17864028415675338326 : True := trivial
theorem Mine.main.tw15514936471743626214 : True := trivial
theorem Mine.main.tw3994622017586750766 : True := trivial
theorem Mine.main.tw18431692314602308842 : True := trivial
theorem Mine.main.tw1777545030009416734 : True := trivial
theorem Mine.main.tw10094358506670053839 : True := trivial
theorem Mine.main.tw16153842264607907944 : True := trivial
theorem Mine.main.tw12675357926760492328 : True := trivial
theorem Mine.main.tw12623159325031504133 : True := trivial
theorem Mine.main.tw765107192605250810 : True := trivial
theorem Mine.main.tw17767330081159143506 : True := trivial
theorem Mine.main.tw9515011664573035354 : True := trivial
theorem Mine.main.tw4044139247061151142 : True := trivial
theorem Mine.main.tw17699438841360665129 : True := trivial
theorem Mine.main.tw16676564476587882173 : True := trivial
theorem Mine.main.tw18442785490491869365 : True := trivial
theorem Mine.main.tw16798622893749714585 : True := trivial
theorem Mine.main.tw13591255225166038476 : True := trivial
theorem Mine.main.tw2007339730380871907 : True := trivial
theorem Mine.main.tw834873547066669988 : True := trivial
theorem Mine.main.tw16819838333489098493 : True := trivial
theorem Mine.main.tw52199770228462824 : True := trivial
theorem Mine.main.tw17715262827843222689 : True := trivial
theorem Mine.main.tw16251939892948500945 : True := trivial
theorem Mine.main.tw6385024630547198690 : True := trivial
theorem Mine.main.tw4681395471914393968 : True := trivial
theorem Mine.main.tw6557543464795787104 : True := trivial
theorem Mine.main.tw9942282790977331292 : True := trivial
theorem Mine.main.tw9360745474812902239 : True := trivial
theorem Mine.main.tw1099256609624015869 : True := trivial
theorem Mine.main.tw5871769198996169552 : True := trivial
theorem Mine.main.tw1253437644075932092 : True := trivial
theorem Mine.main.tw3796207824708393856 : True := trivial
theorem Mine.main.tw13803360072150633466 : True := trivial
theorem Mine.main.tw5061512775090418087 : True := trivial
theorem Mine.main.tw9253799994812790149 : True := trivial
theorem Mine.main.tw832900586485598795 : True := trivial
theorem Mine.main.tw6912675738884088206 : True := trivial
theorem Mine.main.tw6584820252761975732 : True := trivial
theorem Mine.main.tw2524017781993486291 : True := trivial
theorem Mine.main.tw15465920861327815835 : True := trivial
theorem Mine.main.tw13642826006792871662 : True := trivial
theorem Mine.main.tw5665406974723832613 : True := trivial
theorem Mine.main.tw15491723280356408159 : True := trivial
theorem Mine.main.tw4573282807186111410 : True := trivial
theorem Mine.main.tw962193829226610041 : True := trivial
theorem Mine.main.tw16049902774474827687 : True := trivial
theorem Mine.main.tw11120327062377616369 : True := trivial
theorem Mine.main.tw10609540516017602915 : True := trivial
theorem Mine.main.tw8952462522180670554 : True := trivial
theorem Mine.main.tw4585930131862741453 : True := trivial
theorem Mine.main.tw15643365686152983790 : True := trivial
theorem Mine.main.tw7074144079889050967 : True := trivial
theorem Mine.main.tw11815829001073249272 : True := trivial
theorem Mine.main.tw1628013610222277130 : True := trivial
theorem Mine.main.tw13313126695403321540 : True := trivial
theorem Mine.main.tw8756518407330761489 : True := trivial
theorem Mine.main.tw8207831470162742035 : True := trivial
theorem Mine.main.tw16721930046160240684 : True := trivial
theorem Mine.main.tw14009396871252706886 : True := trivial
theorem Mine.main.tw12298629886278197574 : True := trivial
theorem Mine.main.tw656089360051881306 : True := trivial
theorem Mine.main.tw5517759331935216279 : True := trivial
theorem Mine.main.tw12900284412222446716 : True := trivial
theorem Mine.main.tw645136716886899192 : True := trivial
theorem Mine.main.tw18421580907717582127 : True := trivial
theorem Mine.main.tw2566753976717531306 : True := trivial
theorem Mine.main.tw9656510801202774680 : True := trivial
theorem Mine.main.tw1545906260438175962 : True := trivial
theorem Mine.main.tw3343439749351644125 : True := trivial
theorem Mine.main.tw48596604365144762 : True := trivial
theorem Mine.main.tw6112859857366181021 : True := trivial
theorem Mine.main.tw14313897822631088780 : True := trivial
theorem Mine.main.tw10169072693733980587 : True := trivial
theorem Mine.main.tw16193401482309157537 : True := trivial
theorem Mine.main.tw15589955886551607785 : True := trivial
theorem Mine.main.tw12564604832814323664 : True := trivial
theorem Mine.main.tw13402765919934010277 : True := trivial
theorem Mine.main.tw2190695567426971638 : True := trivial
theorem Mine.main.tw16959884160788844718 : True := trivial
theorem Mine.main.tw11261727412033496967 : True := trivial
theorem Mine.main.tw18403998269306519403 : True := trivial
theorem Mine.main.tw2921958311620399285 : True := trivial
theorem Mine.main.tw14909365282108701170 : True := trivial
theorem Mine.main.tw5649967823195072380 : True := trivial
theorem Mine.main.tw15365013842991253249 : True := trivial
theorem Mine.main.tw17665120845849184447 : True := trivial
theorem Mine.main.tw3549514262204291990 : True := trivial
theorem Mine.main.tw3234112476842188716 : True := trivial
theorem Mine.main.tw2702614204127132176 : True := trivial
theorem Mine.main.tw12093647306153771053 : True := trivial
theorem Mine.main.tw16480584520131690045 : True := trivial
theorem Mine.main.tw12915833801598196605 : True := trivial
theorem Mine.main.tw14439473939278146460 : True := trivial
theorem Mine.main.tw3934531018447913466 : True := trivial
theorem Mine.main.tw9756827057097773860 : True := trivial
theorem Mine.main.tw12057704586751987240 : True := trivial
theorem Mine.main.tw8930851030842425676 : True := trivial
theorem Mine.main.tw15079240505294077160 : True := trivial
theorem Mine.main.tw1027651156746619712 : True := trivial
theorem Mine.main.tw13350764725976880583 : True := trivial
theorem Mine.main.tw9274054859765456524 : True := trivial
theorem Mine.main.tw7083192437325867461 : True := trivial
theorem Mine.main.tw9392487213469676918 : True := trivial
theorem Mine.main.tw3626430660855392483 : True := trivial
theorem Mine.main.tw2744014450722944760 : True := trivial
theorem Mine.main.tw8475525182357872103 : True := trivial
theorem Mine.main.tw4808993121487237189 : True := trivial
theorem Mine.main.tw3848698983108048278 : True := trivial
theorem Mine.main.tw11487549891475536569 : True := trivial
theorem Mine.main.tw12670839924663504800 : True := trivial
theorem Mine.main.tw15768048840197415361 : True := trivial
theorem Mine.main.tw7173573769161785238 : True := trivial
theorem Mine.main.tw15410482203810522393 : True := trivial
theorem Mine.main.tw14662554035588321541 : True := trivial
theorem Mine.main.tw9561784451562097942 : True := trivial
theorem Mine.main.tw11251407683458634364 : True := trivial
theorem Mine.main.tw11349898740250378076 : True := trivial
theorem Mine.main.tw8905464785575363620 : True := trivial
theorem Mine.main.tw17477492558424962760 : True := trivial
theorem Mine.main.tw8947760058931562597 : True := trivial
theorem Mine.main.tw6880717277089553138 : True := trivial
theorem Mine.main.tw12252054271945606052 : True := trivial
theorem Mine.main.tw6635558491612396129 : True := trivial
theorem Mine.main.tw10199874654664476236 : True := trivial
theorem Mine.main.tw16922381011570985944 : True := trivial
theorem Mine.main.tw13113777628852026922 : True := trivial
theorem Mine.main.tw13260870731297125680 : True := trivial
theorem Mine.main.tw17725498274588495791 : True := trivial
theorem Mine.main.tw1900339198761634783 : True := trivial
theorem Mine.main.tw5665735395497279834 : True := trivial
theorem Mine.main.tw1178595665728414349 : True := trivial
theorem Mine.main.tw2110754180369666209 : True := trivial
theorem Mine.main.tw3160845607165458772 : True := trivial
theorem Mine.main.tw8645133422005227894 : True := trivial
theorem Mine.main.tw3864431920445960829 : True := trivial
theorem Mine.main.tw4839478117068044826 : True := trivial
theorem Mine.main.tw6164561884633627433 : True := trivial
theorem Mine.main.tw11595355409239048105 : True := trivial
theorem Mine.main.tw17201416709059790184 : True := trivial
theorem Mine.main.tw14106445559736802775 : True := trivial
theorem Mine.main.tw3557749057250611081 : True := trivial
theorem Mine.main.tw13676971244355772609 : True := trivial
theorem Mine.main.tw12927740378394474205 : True := trivial
theorem Mine.main.tw9557352009045844224 : True := trivial
theorem Mine.main.tw3454311308915712629 : True := trivial
theorem Mine.main.tw1130211791997205004 : True := trivial
theorem Mine.main.tw1980160206288974728 : True := trivial
theorem Mine.main.tw11374851513655246148 : True := trivial
theorem Mine.main.tw14722489848711283861 : True := trivial
theorem Mine.main.tw6910295442248876197 : True := trivial
theorem Mine.main.tw15928290008803537013 : True := trivial
theorem Mine.main.tw7939164064552038406 : True := trivial
theorem Mine.main.tw7173623326730630234 : True := trivial
theorem Mine.main.tw15616401959046598769 : True := trivial
theorem Mine.main.tw14646587721710459877 : True := trivial
theorem Mine.main.tw13974046611088194958 : True := trivial
theorem Mine.main.tw7691172733374981047 : True := trivial
theorem Mine.main.tw6222487380544312443 : True := trivial
theorem Mine.main.tw14788915703135433725 : True := trivial
theorem Mine.main.tw5240536507193477226 : True := trivial
theorem Mine.main.tw14672674291997333471 : True := trivial
theorem Mine.main.tw15734200111481486640 : True := trivial
theorem Mine.main.tw545269030811804461 : True := trivial
theorem Mine.main.tw13180746182150919023 : True := trivial
theorem Mine.main.tw9670510015898674028 : True := trivial
theorem Mine.main.tw6418098437765475518 : True := trivial
theorem Mine.main.tw9189880136782149556 : True := trivial
theorem Mine.main.tw7875838824674609581 : True := trivial
theorem Mine.main.tw4072190877284726289 : True := trivial
theorem Mine.main.tw16952715711813285254 : True := trivial
theorem Mine.main.tw5234446048077146213 : True := trivial
theorem Mine.main.tw6660377722381337597 : True := trivial
theorem Mine.main.tw5401703158475992631 : True := trivial
theorem Mine.main.tw11774690029378154688 : True := trivial
theorem Mine.main.tw16320215318167395912 : True := trivial
theorem Mine.main.tw1645717771770832407 : True := trivial
theorem Mine.main.tw1390771862084280389 : True := trivial
theorem Mine.main.tw13157206579259725088 : True := trivial
namespace Mine
set_option Elab.async true in
theorem main : PySem.Challenge.rw_xm0627_01.Holds := by
  (w_on; o_law; o_head (kmHook Mine.HK.heap_1 [2, 3, 15, 17, 18, 20, 21, 22, 23, 25, 26, 28, 29, 30, 31, 33, 34, 36, 37, 38, 45, 47, 48, 50, 51, 52, 53, 54, 55, 65, 67, 68, 70, 71, 72, 73, 74, 75, 76, 86, 88, 89, 91, 92, 93, 94, 95, 96, 97, 100, 102, 103, 105, 106, 107, 109, 110, 112, 113, 114, 116, 117, 119, 120, 121, 123, 124, 126, 127, 128, 130, 131, 133, 134, 135, 137, 138, 140, 141, 142, 144, 145, 147, 148, 156, 158, 159, 161, 162, 163, 164, 165, 166, 167, 177, 179, 180, 182, 183, 184, 186, 187, 189, 190, 191, 192, 193, 194, 195, 198, 200, 201, 203, 204, 205, 207, 208, 210, 211, 212, 214, 215, 217, 218, 219, 226, 227, 229, 230, 232, 233, 234, 236, 237, 239, 240, 241, 243, 244, 246, 247, 248, 250, 251, 253, 254, 255, 257, 258, 260, 261, 262, 264, 265, 267, 268, 269, 271, 272, 274, 275, 276, 278, 279, 281, 282, 283, 285, 286, 288, 289, 290, 292, 293, 295, 296, 297, 299, 300, 302, 303, 304, 306, 307, 309, 310, 311, 313, 314, 316, 317, 318, 320, 321, 323, 324, 325, 327, 328, 330, 331, 332, 334, 335, 337, 338, 339, 340, 342, 343, 345, 346, 347, 349, 350, 352, 353, 354, 357, 358, 359, 361, 362, 364, 365, 366, 368, 369, 371, 372, 373, 375, 376, 378, 379, 380, 382, 383, 385, 386, 387, 389, 390, 392, 393, 394, 396, 397, 399, 400, 401, 403, 404, 406, 407, 408, 410, 411, 413, 414, 415, 417, 418, 420, 421, 422, 423, 424, 427, 429, 430, 432, 433, 434, 436, 437, 439, 440, 441, 444, 445, 446, 448, 449, 451, 452, 453, 455, 456, 458, 459, 460, 463, 464, 465, 467, 468, 470, 471, 472, 475, 476] (fun _ => by kernel_rfl) [454, 447]); (case hw => w_witness2); w_strict (k_fill; intro w s₀ s₁ mg mb G Y fa o pm cd doc dV kV ho hd hcd hD hmg hg args vals as hpre hlay hrd hwl hlo; have KX := km_in_of Y; km_tabs Y; have X := (Ground.X G).1; have V := (Ground.X G).2; refine Ground.open G ?_; intro T B D TE TW; (try (refine guard_noD D (by decide +kernel) ?_; clear D)); km_lay T hmg ho hd cd; have e476 : mg (Str.ofString "law") = some (.ref 476) := mg_of KX T.g (by kernel_rfl); rw [e476] at hmg; cases hmg; wrow_args hpre hlay hrd hwl hlo; clear G Y hd hcd ho hD; (first | refine callC_kw (enter_call ?_) | refine enter_call ?_); w_top on; kn_posts; clear X V; refine law_good KX hT9 T hg (by assumption) (by assumption) (by omega) (fun _ => rfl) (by with_unfolding_all rfl) (by kernel_rfl)))
end Mine
theorem PySem.Challenge.cw_xm0627_01_holds : PySem.Challenge.rw_xm0627_01.Holds :=
  Mine.main
