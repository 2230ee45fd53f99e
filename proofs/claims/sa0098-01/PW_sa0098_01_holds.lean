import PyProof.Rows.All
import Wide.All
import OpenK.AllK
import Wide.FinOn
import Lean
import PySem.Challenge.RW_sa0098_01
open PySem PySem.W PySem.Calls PyProof.Rows
set_option Elab.async false
namespace Mine
set_option maxRecDepth 100000
set_option linter.unusedVariables false
set_option maxHeartbeats 8000000 in
open_top hd for PySem.Challenge.rw_sa0098_01
section
/-- a value without its token -/
inductive AV where
  | none
  | bool (b : Bool)
  | int (i : Int)
  | ref (a : Addr)

noncomputable def av : Value → Option AV
  | .none => some .none
  | .bool b => some (.bool b)
  | .int i _ => some (.int i)
  | .ref a => some (.ref a)
  | _ => Option.none

theorem av_int {v : Value} {i : Int} (h : av v = some (.int i)) : ∃ t, v = .int i t := by
  cases v <;> simp [av] at h
  exact ⟨_, by rw [h]⟩
theorem av_bool {v : Value} {b : Bool} (h : av v = some (.bool b)) : v = .bool b := by
  cases v <;> simp [av] at h
  rw [h]
theorem av_ref {v : Value} {a : Addr} (h : av v = some (.ref a)) : v = .ref a := by
  cases v <;> simp [av] at h
  rw [h]

/-- what is said of an object: a list (plain or not), a tuple, a cell -/
inductive AO where
  | lst (xs : List AV)
  | pls (xs : List AV)
  | tup (xs : List AV)
  | cel (x : AV)
  | rng (a b c : Int)
  | emp

def AO.at (h : Heap) (a : Addr) : AO → Prop
  | .lst xs => ∃ vs : List Value, h.IsList a vs.toArray ∧ vs.map av = xs.map some
  | .pls xs => ∃ (vs : List Value) (n : Nat), h.get? a = some { cls := .type "list", data := .seq vs.toArray n } ∧ vs.map av = xs.map some
  | .tup xs => ∃ vs : List Value, IsTup h a vs.toArray ∧ vs.map av = xs.map some
  | .cel x => ∃ v, h.IsCell a (some v) ∧ av v = some x
  | .rng i j k => ∃ t u v, IsRange h a i j k t u v
  | .emp => h.IsCell a none

theorem AO.at_mono {h h' : Heap} {a : Addr} : ∀ {o : AO}, o.at h a → (∀ b, h.get? a = some b → h'.get? a = some b) → o.at h' a
  | .lst _, ⟨vs, ⟨ob, ho, r⟩, e⟩, k => ⟨vs, ⟨ob, k _ ho, r⟩, e⟩
  | .pls _, ⟨vs, n, ho, e⟩, k => ⟨vs, n, k _ ho, e⟩
  | .tup _, ⟨vs, ⟨ob, ho, r⟩, e⟩, k => ⟨vs, ⟨ob, k _ ho, r⟩, e⟩
  | .cel _, ⟨v, ⟨ob, ho, r⟩, e⟩, k => ⟨v, ⟨ob, k _ ho, r⟩, e⟩
  | .rng _ _ _, ⟨t, u, v, e⟩, k => ⟨t, u, v, k _ e⟩
  | .emp, ⟨ob, ho, r⟩, k => ⟨ob, k _ ho, r⟩
theorem AO.at_some {h : Heap} {a : Addr} : ∀ {o : AO}, o.at h a → ∃ b, h.get? a = some b
  | .lst _, ⟨_, ⟨_, ho, _⟩, _⟩ => ⟨_, ho⟩
  | .pls _, ⟨_, _, ho, _⟩ => ⟨_, ho⟩
  | .tup _, ⟨_, ⟨_, ho, _⟩, _⟩ => ⟨_, ho⟩
  | .cel _, ⟨_, ⟨_, ho, _⟩, _⟩ => ⟨_, ho⟩
  | .rng _ _ _, ⟨_, _, _, e⟩ => ⟨_, e⟩
  | .emp, ⟨_, ho, _⟩ => ⟨_, ho⟩

abbrev Led := List (Addr × AO)
abbrev Vars := List (String × AV)

/-- the ground: the text's own part of the heap -/
structure Bs (w : World) (hb : Heap) : Prop where
  X : (hd.heap_39 w.params).In hb
  T : ∃ mean mg mb, Top hd.view_39 (looseW hd.view_39 [Str.ofString "_law_fields"]) mean mg mb hb

/-- where a walk stands: the locals' names, what is only read, what may be stored into -/
structure Sta (hb : Heap) (L : Addr) (m : Vars) (R W : Led) (h : Heap) : Prop where
  bs : ∀ b o, hb.get? b = some o → h.get? b = some o
  hl : hb.get? L = none
  ns : ∃ M, h.Ns L M ∧ ∀ p ∈ m, ∃ v, M (Str.ofString p.1) = some v ∧ av v = some p.2
  rd : ∀ p ∈ R, p.2.at h p.1 ∧ p.1 ≠ L ∧ p.1 ∉ W.map (·.1)
  wr : ∀ p ∈ W, p.2.at h p.1 ∧ p.1 ≠ L ∧ hb.get? p.1 = none
  nd : (W.map (·.1)).Nodup

/-- what a step may do: it stores only into X, and what may be stored into behind it was or is new -/
structure Stp (X : List Addr) (h : Heap) (W' : Led) (h' : Heap) : Prop where
  keep : ∀ b o, b ∉ X → h.get? b = some o → h'.get? b = some o
  fresh : ∀ a ∈ W'.map (·.1), a ∈ X ∨ h.get? a = none

theorem Stp.refl {X : List Addr} {h : Heap} {W : Led} (hx : ∀ a ∈ W.map (·.1), a ∈ X) : Stp X h W h := ⟨fun _ _ _ e => e, fun a ha => .inl (hx a ha)⟩
theorem Stp.trans {X : List Addr} {L : List Addr} {h h₁ h₂ : Heap} {W₁ W₂ : Led} (s₁ : Stp X h W₁ h₁) (s₂ : Stp (L ++ W₁.map (·.1)) h₁ W₂ h₂) (hL : ∀ a ∈ L, a ∈ X) : Stp X h W₂ h₂ where
  keep := fun b o hb e => s₂.keep b o (fun hm => by
    rcases List.mem_append.mp hm with q | q
    · exact hb (hL b q)
    · rcases s₁.fresh b q with q | q
      · exact hb q
      · rw [e] at q; cases q) (s₁.keep b o hb e)
  fresh := fun a ha => by
    rcases s₂.fresh a ha with q | q
    · rcases List.mem_append.mp q with q | q
      · exact .inl (hL a q)
      · exact s₁.fresh a q
    · by_cases hx : a ∈ X
      · exact .inl hx
      · cases e : h.get? a with
        | none => exact .inr rfl
        | some o => rw [s₁.keep a o hx e] at q; cases q

/-- the room that is left: k calls deep -/
structure Room (A : Around) (k : Nat) : Prop where
  hh : A.handled = none
  dp : A.depth + k < 900
  un : A.units + 4 * k < 9000
theorem Room.le {A : Around} {k j : Nat} (r : Room A k) (h : j ≤ k) : Room A j := ⟨r.hh, Nat.lt_of_le_of_lt (Nat.add_le_add_left h _) r.dp, Nat.lt_of_le_of_lt (Nat.add_le_add_left (Nat.mul_le_mul_left 4 h) _) r.un⟩
theorem Room.depth {A : Around} {k : Nat} (r : Room A k) : A.depth < recursionLimit := Nat.lt_of_le_of_lt (Nat.le_add_right _ k) (Nat.lt_trans r.dp (by decide))
theorem Room.units {A : Around} {k : Nat} (r : Room A k) : A.units + 64 < cLine := by
  rw [cLine_is]
  exact Nat.lt_of_le_of_lt (Nat.add_le_add_right (Nat.le_trans (Nat.le_add_right _ _) (Nat.le_of_lt r.un)) 64) (by decide)
theorem Room.deeper {A : Around} {k : Nat} {env : Env} (r : Room A (k + 1)) : Room (A.deeper env) k := ⟨r.hh, by
  show A.depth + 1 + k < 900
  rw [Nat.add_assoc, Nat.add_comm 1 k]
  exact r.dp, Nat.lt_of_le_of_lt (show A.units + 3 + 4 * k ≤ A.units + (4 * k + 4) from by
  rw [Nat.add_assoc, Nat.add_comm 3]
  exact Nat.add_le_add_left (Nat.le_succ _) _) r.un⟩

abbrev PG : Program := PySem.Challenge.rw_sa0098_01.row.prog


/-- a name is stored -/
noncomputable def vset (m : Vars) (x : String) (a : AV) : Vars := (x, a) :: m.filter (fun p => p.1 != x)

/-- a tree that gives a value: it stores into W alone -/
def Ev (w : World) (hb : Heap) (L : Addr) (k : Nat) (m : Vars) (R : Led) (t : Sem Value) (W : Led) (P : AV → Led → Prop) : Prop :=
  ∀ (A : Around) (s : Shared) (Q : Value → Shared → Prop) (E : Value → Shared → Prop), Room A k → Sta hb L m R W s.heap →
    (∀ v a W' h' tk, av v = some a → P a W' → Sta hb L m R W' h' → Stp (W.map (·.1)) s.heap W' h' → Q v { s with heap := h', toks := tk }) →
    wpAny (model PG w) A t Q E s

/-- a tree that gives a truth -/
def EvB (w : World) (hb : Heap) (L : Addr) (k : Nat) (m : Vars) (R : Led) (t : Sem Bool) (W : Led) (P : Bool → Led → Prop) : Prop :=
  ∀ (A : Around) (s : Shared) (Q : Bool → Shared → Prop) (E : Value → Shared → Prop), Room A k → Sta hb L m R W s.heap →
    (∀ b W' h' tk, P b W' → Sta hb L m R W' h' → Stp (W.map (·.1)) s.heap W' h' → Q b { s with heap := h', toks := tk }) →
    wpAny (model PG w) A t Q E s

/-- several values -/
def EvL (w : World) (hb : Heap) (L : Addr) (k : Nat) (m : Vars) (R : Led) (t : Sem (List Value)) (W : Led) (P : List AV → Led → Prop) : Prop :=
  ∀ (A : Around) (s : Shared) (Q : List Value → Shared → Prop) (E : Value → Shared → Prop), Room A k → Sta hb L m R W s.heap →
    (∀ vs as W' h' tk, vs.map av = as.map some → P as W' → Sta hb L m R W' h' → Stp (W.map (·.1)) s.heap W' h' → Q vs { s with heap := h', toks := tk }) →
    wpAny (model PG w) A t Q E s

inductive FL where
  | next
  | ret (a : AV)
noncomputable def fl : Flow → Option FL
  | .next => some .next
  | .ret v => (av v).map FL.ret
  | _ => none

/-- a tree of a statement: it stores into the names and into W -/
def Ex (w : World) (hb : Heap) (L : Addr) (k : Nat) (R : Led) (t : Sem Flow) (m : Vars) (W : Led) (P : FL → Vars → Led → Prop) : Prop :=
  ∀ (A : Around) (s : Shared) (Q : Flow → Shared → Prop) (E : Value → Shared → Prop), Room A k → Sta hb L m R W s.heap →
    (∀ v a m' W' h' tk, fl v = some a → P a m' W' → Sta hb L m' R W' h' → Stp (L :: W.map (·.1)) s.heap W' h' → Q v { s with heap := h', toks := tk }) →
    wpAny (model PG w) A t Q E s
/-- a tree that gives nothing -/
def ExU (w : World) (hb : Heap) (L : Addr) (k : Nat) (R : Led) (t : Sem Unit) (m : Vars) (W : Led) (P : Vars → Led → Prop) : Prop :=
  ∀ (A : Around) (s : Shared) (Q : Unit → Shared → Prop) (E : Value → Shared → Prop), Room A k → Sta hb L m R W s.heap →
    (∀ m' W' h' tk, P m' W' → Sta hb L m' R W' h' → Stp (L :: W.map (·.1)) s.heap W' h' → Q () { s with heap := h', toks := tk }) →
    wpAny (model PG w) A t Q E s

/-! operators over values, calls -/
def Op (w : World) (hb : Heap) (L : Addr) (k : Nat) (m : Vars) (R : Led) (op : Operator) (a b : AV) (W : Led) (P : AV → Led → Prop) : Prop :=
  ∀ va vb, av va = some a → av vb = some b → Ev w hb L k m R (binaryOp op va vb) W P
def Cmp (w : World) (hb : Heap) (L : Addr) (k : Nat) (m : Vars) (R : Led) (op : CmpOp) (a b : AV) (W : Led) (P : Bool → Led → Prop) : Prop :=
  ∀ va vb, av va = some a → av vb = some b → Ev w hb L k m R (compareOp op va vb) W (fun a W' => ∃ b, a = .bool b ∧ P b W')
/-- what a call of a value with these arguments does -/
def Cal (w : World) (hb : Heap) (L : Addr) (k : Nat) (m : Vars) (R : Led) (f : Value) (as : List AV) (W : Led) (P : AV → Led → Prop) : Prop :=
  ∀ vs : List Value, vs.map av = as.map some → Ev w hb L k m R (call f vs) W P

/-! what is left to do, by name: so that the proofs stay small -/
section
variable (w : World) (hb : Heap) (L : Addr) (k : Nat) (m : Vars) (R : Led) (env : Env) (P : AV → Led → Prop) (PB : Bool → Led → Prop) (PL : List AV → Led → Prop) (PF : FL → Vars → Led → Prop) (rest : List Stmt)
abbrev KOp (op : Operator) (a : AV) : AV → Led → Prop := fun b W => Op w hb L k m R op a b W P
abbrev KBin (r : Expr) (op : Operator) : AV → Led → Prop := fun a W => Ev w hb L k m R (eval r env) W (KOp w hb L k m R P op a)
abbrev KCo (op : CmpOp) (a : AV) : AV → Led → Prop := fun b W => Cmp w hb L k m R op a b W PB
abbrev KCmp (r : Expr) (op : CmpOp) : AV → Led → Prop := fun a W => Ev w hb L k m R (eval r env) W (KCo w hb L k m R PB op a)
abbrev KBo : Bool → Led → Prop := fun b => P (.bool b)
abbrev KOr (r : List Expr) : Bool → Led → Prop := fun b W => (b = true → PB true W) ∧ (b = false → EvB w hb L k m R (allTrue .Or r env) W PB)
abbrev KAnd (r : List Expr) : Bool → Led → Prop := fun b W => (b = false → PB false W) ∧ (b = true → EvB w hb L k m R (allTrue .And r env) W PB)
abbrev KIfE (x y : Expr) : Bool → Led → Prop := fun b W => (b = true → Ev w hb L k m R (eval x env) W P) ∧ (b = false → Ev w hb L k m R (eval y env) W P)
abbrev KNeg : AV → Led → Prop := fun a W => ∃ i, a = .int i ∧ P (.int (-i)) W
abbrev KAnd2 (x : Expr) : AV → Led → Prop := fun a W => ∃ b, a = .bool b ∧ (b = false → P (.bool false) W) ∧ (b = true → Ev w hb L k m R (eval x env) W P)
abbrev KCal (f : Value) : List AV → Led → Prop := fun as W => Cal w hb L k m R f as W P
abbrev KLst : List AV → Led → Prop := fun as W => as.length ≤ sizeLine ∧ ∀ a, P (.ref a) ((a, .pls as) :: W)
abbrev KTup : List AV → Led → Prop := fun as W => as.length ≤ sizeLine ∧ ∀ a, P (.ref a) ((a, .tup as) :: W)
abbrev KCo2 (a : AV) : List AV → Led → Prop := fun as W => PL (a :: as) W
abbrev KCo1 (pos : Pos) (r : List Expr) : AV → Led → Prop := fun a W => EvL w hb L k m R (spliced (backTo pos (starEach r env))) W (KCo2 PL a)
abbrev KRet : AV → Led → Prop := fun a W => PF (.ret a) m W
abbrev KAsg (x : String) : AV → Led → Prop := fun a W => Ex w hb L k R (execs rest env) (vset m x a) W PF
abbrev KIf (body : List Stmt) (PS : FL → Vars → Led → Prop) : Bool → Led → Prop := fun b W => (b = true → Ex w hb L k R (execs body env) m W PS) ∧ (b = false → Ex w hb L k R (execs rest env) m W PF)
end

section
variable {w : World} {hb : Heap} {L : Addr} {k : Nat} {m : Vars} {R W : Led} {h h' : Heap}

/-- what is known stays known where all that stood stands -/
theorem Sta.grow (S : Sta hb L m R W h) (hk : ∀ b o, h.get? b = some o → h'.get? b = some o) : Sta hb L m R W h' where
  bs := fun b o e => hk b o (S.bs b o e)
  hl := S.hl
  ns := by
    obtain ⟨M, hn, hM⟩ := S.ns
    exact ⟨M, hn.keeps hk, hM⟩
  rd := fun p hp => ⟨AO.at_mono (S.rd p hp).1 (fun b e => hk _ b e), (S.rd p hp).2⟩
  wr := fun p hp => ⟨AO.at_mono (S.wr p hp).1 (fun b e => hk _ b e), (S.wr p hp).2⟩
  nd := S.nd

theorem Sta.L_some (S : Sta hb L m R W h) : ∃ o, h.get? L = some o := by
  obtain ⟨M, ⟨o, _, _, ho, _⟩, _⟩ := S.ns
  exact ⟨o, ho⟩

theorem Sta.apartR (S : Sta hb L m R W h) {a : Addr} (ha : h.get? a = none) : a ≠ L ∧ a ∉ W.map (·.1) := by
  refine ⟨fun e => ?_, fun hm => ?_⟩
  · obtain ⟨o, ho⟩ := S.L_some; rw [e, ho] at ha; cases ha
  · obtain ⟨p, hp, rfl⟩ := List.mem_map.mp hm
    obtain ⟨b, hb'⟩ := AO.at_some (S.wr p hp).1
    rw [hb'] at ha; cases ha

/-- something new to store into -/
theorem Sta.addW (S : Sta hb L m R W h) (hk : ∀ b o, h.get? b = some o → h'.get? b = some o) {a : Addr} {o : AO} (ha : h.get? a = none) (ho : o.at h' a) : Sta hb L m R ((a, o) :: W) h' := by
  have G := S.grow hk
  refine { G with rd := fun p hp => ⟨(G.rd p hp).1, (G.rd p hp).2.1, fun hm => ?_⟩, wr := fun p hp => ?_, nd := ?_ }
  · rcases List.mem_cons.mp hm with e | hm
    · obtain ⟨b, e'⟩ := AO.at_some (S.rd p hp).1
      rw [e, ha] at e'; cases e'
    · exact (G.rd p hp).2.2 hm
  · rcases List.mem_cons.mp hp with rfl | hp
    · refine ⟨ho, (S.apartR ha).1, ?_⟩
      cases e : hb.get? a with
      | none => rfl
      | some ob => rw [S.bs a ob e] at ha; cases ha
    · exact G.wr p hp
  · exact List.nodup_cons.mpr ⟨(S.apartR ha).2, S.nd⟩

/-- several things new to store into -/
theorem Sta.addWs (S : Sta hb L m R W h) (hk : ∀ b o, h.get? b = some o → h'.get? b = some o) : ∀ {N : Led}, (∀ p ∈ N, p.2.at h' p.1 ∧ h.get? p.1 = none) → (N.map (·.1)).Nodup → Sta hb L m R (N ++ W) h'
  | [], _, _ => S.grow hk
  | (a, o) :: N, hN, hd => by
    have G := S.grow hk
    have I := Sta.addWs S hk (N := N) (fun p hp => hN p (.tail _ hp)) (List.nodup_cons.mp hd).2
    have ha := hN (a, o) (.head _)
    refine { I with rd := fun p hp => ⟨(I.rd p hp).1, (I.rd p hp).2.1, fun hm => ?_⟩, wr := fun p hp => ?_, nd := ?_ }
    · rcases List.mem_cons.mp hm with e | hm
      · obtain ⟨b, e'⟩ := AO.at_some (S.rd p hp).1
        rw [e, ha.2] at e'; cases e'
      · exact (I.rd p hp).2.2 hm
    · rcases List.mem_cons.mp hp with rfl | hp
      · refine ⟨ha.1, (S.apartR ha.2).1, ?_⟩
        cases e : hb.get? a with
        | none => rfl
        | some ob => rw [S.bs a ob e] at ha; exact absurd ha.2 (by simp)
      · exact I.wr p hp
    · refine List.nodup_cons.mpr ⟨fun hm => ?_, I.nd⟩
      have hm' : a ∈ (N ++ W).map (·.1) := hm
      rw [List.map_append] at hm'
      rcases List.mem_append.mp hm' with q | q
      · exact (List.nodup_cons.mp hd).1 q
      · exact (S.apartR ha.2).2 q

/-- less is known -/
theorem Sta.drop (S : Sta hb L m R W h) {m' : Vars} {W' : Led} (hm : ∀ p ∈ m', p ∈ m) (hw : ∀ p ∈ W', p ∈ W) (hn : (W'.map (·.1)).Nodup) : Sta hb L m' R W' h where
  bs := S.bs
  hl := S.hl
  ns := by
    obtain ⟨M, hn, hM⟩ := S.ns
    exact ⟨M, hn, fun p hp => hM p (hm p hp)⟩
  rd := fun p hp => ⟨(S.rd p hp).1, (S.rd p hp).2.1, fun q => by
    obtain ⟨p', hp', e⟩ := List.mem_map.mp q
    exact (S.rd p hp).2.2 (List.mem_map.mpr ⟨p', hw p' hp', e⟩)⟩
  wr := fun p hp => S.wr p (hw p hp)
  nd := hn

theorem get_size (h : Heap) : h.get? h.objs.size = none := by
  cases e : h.get? h.objs.size with
  | none => rfl
  | some o => exact absurd (Heap.lt_size e) (Nat.lt_irrefl _)

theorem Stp.of_keep {X : List Addr} (hk : ∀ b o, h.get? b = some o → h'.get? b = some o) (hx : ∀ a ∈ W.map (·.1), a ∈ X ∨ h.get? a = none) : Stp X h W h' := ⟨fun b o _ e => hk b o e, hx⟩
theorem Stp.drop {X : List Addr} {W' : Led} (s : Stp X h W h') (hw : ∀ p ∈ W', p ∈ W) : Stp X h W' h' := ⟨s.keep, fun a ha => by
  obtain ⟨p, hp, rfl⟩ := List.mem_map.mp ha
  exact s.fresh _ (List.mem_map.mpr ⟨p, hw p hp, rfl⟩)⟩

theorem Stp.ev {W₁ W₂ : Led} {h₁ h₂ : Heap} (s₁ : Stp (W.map (·.1)) h W₁ h₁) (s₂ : Stp (W₁.map (·.1)) h₁ W₂ h₂) : Stp (W.map (·.1)) h W₂ h₂ := Stp.trans (L := []) s₁ (by simpa using s₂) (fun _ h => nomatch h)
theorem Stp.ex {W₁ W₂ : Led} {h₁ h₂ : Heap} (s₁ : Stp (W.map (·.1)) h W₁ h₁) (s₂ : Stp (L :: W₁.map (·.1)) h₁ W₂ h₂) : Stp (L :: W.map (·.1)) h W₂ h₂ :=
  Stp.trans (L := [L]) ⟨fun b o hb' e => s₁.keep b o (fun q => hb' (.tail _ q)) e, fun a ha => (s₁.fresh a ha).imp (fun q => .tail _ q) id⟩ (by simpa using s₂) (fun a ha => by cases ha with | head => exact .head _ | tail _ q => cases q)
theorem Stp.ex2 {W₁ W₂ : Led} {h₁ h₂ : Heap} (s₁ : Stp (L :: W.map (·.1)) h W₁ h₁) (s₂ : Stp (L :: W₁.map (·.1)) h₁ W₂ h₂) : Stp (L :: W.map (·.1)) h W₂ h₂ :=
  Stp.trans (L := [L]) s₁ (by simpa using s₂) (fun a ha => by cases ha with | head => exact .head _ | tail _ q => cases q)
theorem Stp.up {W₁ : Led} {h₁ : Heap} (s₁ : Stp (W.map (·.1)) h W₁ h₁) : Stp (L :: W.map (·.1)) h W₁ h₁ :=
  ⟨fun b o hb' e => s₁.keep b o (fun q => hb' (.tail _ q)) e, fun a ha => (s₁.fresh a ha).imp (fun q => .tail _ q) id⟩
theorem Stp.self : Stp (W.map (·.1)) h W h := .refl fun _ h => h
theorem Stp.selfL : Stp (L :: W.map (·.1)) h W h := .refl fun _ h => .tail _ h
theorem Stp.addW (hk : ∀ b o, h.get? b = some o → h'.get? b = some o) {a : Addr} {o : AO} (ha : h.get? a = none) : Stp (W.map (·.1)) h ((a, o) :: W) h' :=
  .of_keep hk fun b hb' => by
    rcases List.mem_cons.mp hb' with rfl | q
    · exact .inr ha
    · exact .inl q
theorem Stp.addWs (hk : ∀ b o, h.get? b = some o → h'.get? b = some o) {N : Led} (hN : ∀ p ∈ N, h.get? p.1 = none) : Stp (W.map (·.1)) h (N ++ W) h' :=
  .of_keep hk fun b hb' => by
    rw [List.map_append] at hb'
    rcases List.mem_append.mp hb' with q | q
    · obtain ⟨p, hp, rfl⟩ := List.mem_map.mp q
      exact .inr (hN p hp)
    · exact .inl q

theorem Ev.mono {t : Sem Value} {P P' : AV → Led → Prop} (h : Ev w hb L k m R t W P) (hp : ∀ a W', P a W' → P' a W') : Ev w hb L k m R t W P' :=
  fun A s Q E r S hQ => h A s Q E r S fun v a W' h' tk e p => hQ v a W' h' tk e (hp _ _ p)
theorem EvB.mono {t : Sem Bool} {P P' : Bool → Led → Prop} (h : EvB w hb L k m R t W P) (hp : ∀ a W', P a W' → P' a W') : EvB w hb L k m R t W P' :=
  fun A s Q E r S hQ => h A s Q E r S fun b W' h' tk p => hQ b W' h' tk (hp _ _ p)
theorem Ex.mono {t : Sem Flow} {P P' : FL → Vars → Led → Prop} (h : Ex w hb L k R t m W P) (hp : ∀ f m' W', P f m' W' → P' f m' W') : Ex w hb L k R t m W P' :=
  fun A s Q E r S hQ => h A s Q E r S fun v a m' W' h' tk e p => hQ v a m' W' h' tk e (hp _ _ _ p)
theorem Ev.le {j : Nat} {t : Sem Value} {P : AV → Led → Prop} (h : Ev w hb L j m R t W P) (hj : j ≤ k) : Ev w hb L k m R t W P :=
  fun A s Q E r S hQ => h A s Q E (r.le hj) S hQ
/-- the start knows more than is asked -/
theorem Ex.weak {t : Sem Flow} {P : FL → Vars → Led → Prop} {m' : Vars} {W' : Led} (h : Ex w hb L k R t m' W' P) (hm : ∀ p ∈ m', p ∈ m) (hw : ∀ p ∈ W', p ∈ W) (hn : (W'.map (·.1)).Nodup) : Ex w hb L k R t m W P :=
  fun A s Q E r S hQ => h A s Q E r (S.drop hm hw hn) fun v a m₂ W₂ h' tk e p S' st => hQ v a m₂ W₂ h' tk e p S'
    (Stp.mk (fun b o hb' e => st.keep b o (fun q => hb' (by
      rcases List.mem_cons.mp q with rfl | q
      · exact .head _
      · obtain ⟨p, hp, rfl⟩ := List.mem_map.mp q
        exact .tail _ (List.mem_map.mpr ⟨p, hw p hp, rfl⟩))) e)
      (fun a ha => (st.fresh a ha).imp (fun q => by
        rcases List.mem_cons.mp q with rfl | q
        · exact .head _
        · obtain ⟨p, hp, rfl⟩ := List.mem_map.mp q
          exact .tail _ (List.mem_map.mpr ⟨p, hw p hp, rfl⟩)) id))

/-- a tree, and what follows with its value -/
theorem ev_bind {t : Sem Value} {f : Value → Sem Value} {P₁ : AV → Led → Prop} {P : AV → Led → Prop} (h : Ev w hb L k m R t W P₁)
    (hf : ∀ v a W', av v = some a → P₁ a W' → Ev w hb L k m R (f v) W' P) : Ev w hb L k m R (t >>= f) W P :=
  fun A s Q E r S hQ => wpAny_bind (h A s _ E r S fun v a W' h' tk e p S' st => hf v a W' e p A _ Q E r S' fun v₂ a₂ W₂ h₂ tk₂ e₂ p₂ S₂ st₂ => hQ v₂ a₂ W₂ h₂ tk₂ e₂ p₂ S₂ (st.ev st₂))
end
end

section
section
variable {w : World} {hb : Heap} {L : Addr} {k : Nat} {m : Vars} {R W : Led} {env : Env} {P : AV → Led → Prop}

/-! constants, names -/
theorem ev_int {i : Int} {n : Nat} {pos : Pos} (h : P (.int i) W) : Ev w hb L k m R (eval (.Constant (.int i) n pos) env) W P :=
  fun A s Q E r S hQ => wpAny_Constant_int (hQ _ _ W s.heap _ rfl h S .self)
theorem ev_bool {b : Bool} {n : Nat} {pos : Pos} (h : P (.bool b) W) : Ev w hb L k m R (eval (.Constant (.bool b) n pos) env) W P :=
  fun A s Q E r S hQ => wpAny_Constant_bool (hQ _ _ W s.heap s.toks rfl h S .self)

theorem Sta.var {h : Heap} (S : Sta hb L m R W h) {x : String} {a : AV} (hx : (x, a) ∈ m) : ∃ M v, h.Ns L M ∧ M (Str.ofString x) = some v ∧ av v = some a := by
  obtain ⟨M, hn, hM⟩ := S.ns
  obtain ⟨v, h1, h2⟩ := hM _ hx
  exact ⟨M, v, hn, h1, h2⟩

theorem ev_loc {x : String} {pos : Pos} {a : AV} (hL : env.locals = L) (hk : env.scope.kind = .function) (hl : env.kindOf (Str.ofString x) = some .local) (hx : (x, a) ∈ m) (h : P a W)
    (hd : (Str.ofString x == ("__debug__" : Str)) = false) : Ev w hb L k m R (eval (.Name (Str.ofString x) pos) env) W P :=
  fun A s Q E r S hQ => by
    obtain ⟨M, v, hn, hv, e⟩ := S.var hx
    exact wpAny_Name (wpAny_loadName_local hk hl (hL ▸ hn) hv (hQ v a W s.heap s.toks e h S .self)) hd

theorem Sta.cell {h : Heap} (S : Sta hb L m R W h) {c : Addr} {a : AV} (hc : (c, .cel a) ∈ R ++ W) : ∃ v, h.IsCell c (some v) ∧ av v = some a := by
  rcases List.mem_append.mp hc with q | q
  · exact (S.rd _ q).1
  · exact (S.wr _ q).1
theorem ev_cell {x : String} {pos : Pos} {c : Addr} {a : AV} (hk : env.scope.kind = .function) (hl : env.kindOf (Str.ofString x) = some .cell ∨ env.kindOf (Str.ofString x) = some .free)
    (hc : env.cells.lookup (Str.ofString x) = some c) (hx : (c, .cel a) ∈ R ++ W) (h : P a W) (hd : (Str.ofString x == ("__debug__" : Str)) = false) (hn : (Str.ofString x == ("__classdict__" : Str)) = false) :
    Ev w hb L k m R (eval (.Name (Str.ofString x) pos) env) W P :=
  fun A s Q E r S hQ => by
    obtain ⟨v, hv, e⟩ := S.cell hx
    refine wpAny_Name ?_ hd
    rcases hl with hl | hl
    · exact wpAny_loadName_cell hk hl hc hv (hQ v a W s.heap s.toks e h S .self)
    · exact wpAny_loadName_free hk hl hc hv (hQ v a W s.heap s.toks e h S .self) hn


theorem ev_bin {l r : Expr} {op : Operator} {pos : Pos} (h : Ev w hb L k m R (eval l env) W (KBin w hb L k m R env P r op)) :
    Ev w hb L k m R (eval (.BinOp l op r pos) env) W P :=
  fun A s Q E r S hQ => wpAny_BinOp (h A s _ E r S fun v a W₁ h₁ tk e p S₁ st => p A _ _ E r S₁ fun v₂ a₂ W₂ h₂ tk₂ e₂ p₂ S₂ st₂ =>
    p₂ v v₂ e e₂ A _ Q E r S₂ fun v₃ a₃ W₃ h₃ tk₃ e₃ p₃ S₃ st₃ => hQ v₃ a₃ W₃ h₃ tk₃ e₃ p₃ S₃ ((st.ev st₂).ev st₃))

theorem ev_cmp {l r : Expr} {op : CmpOp} {pos : Pos} (hm : behindInMarks op r = false) (h : Ev w hb L k m R (eval l env) W (KCmp w hb L k m R env (KBo P) r op)) :
    Ev w hb L k m R (eval (.Compare l [op] [r] pos) env) W P :=
  fun A s Q E r S hQ => wpAny_Compare1 (h A s _ E r S fun v a W₁ h₁ tk e p S₁ st => p A _ _ E r S₁ fun v₂ a₂ W₂ h₂ tk₂ e₂ p₂ S₂ st₂ =>
    p₂ v v₂ e e₂ A _ Q E r S₂ fun v₃ a₃ W₃ h₃ tk₃ e₃ p₃ S₃ st₃ => by
      obtain ⟨b, rfl, p₃⟩ := p₃
      exact hQ v₃ _ W₃ h₃ tk₃ e₃ p₃ S₃ ((st.ev st₂).ev st₃)) hm

theorem evb_cmp {l r : Expr} {op : CmpOp} {pos : Pos} {PB : Bool → Led → Prop} {whole : Sem Value} (hm : behindInMarks op r = false)
    (h : Ev w hb L k m R (eval l env) W (KCmp w hb L k m R env PB r op)) :
    EvB w hb L k m R (isTrue (.Compare l [op] [r] pos) env whole) W PB :=
  fun A s Q E r S hQ => wpAny_isTrue_Compare1 (h A s _ E r S fun v a W₁ h₁ tk e p S₁ st => p A _ _ E r S₁ fun v₂ a₂ W₂ h₂ tk₂ e₂ p₂ S₂ st₂ =>
    p₂ v v₂ e e₂ A _ _ E r S₂ fun v₃ a₃ W₃ h₃ tk₃ e₃ p₃ S₃ st₃ => by
      obtain ⟨b, rfl, p₃⟩ := p₃
      have := av_bool e₃
      subst this
      exact wpAny_truthy_bool (hQ b W₃ h₃ tk₃ p₃ S₃ ((st.ev st₂).ev st₃))) hm

theorem evb_or_nil {PB : Bool → Led → Prop} (h : PB false W) : EvB w hb L k m R (allTrue .Or [] env) W PB :=
  fun A s Q E r S hQ => wpAny_allTrue_Or_nil (hQ false W s.heap s.toks h S .self)
theorem evb_and_nil {PB : Bool → Led → Prop} (h : PB true W) : EvB w hb L k m R (allTrue .And [] env) W PB :=
  fun A s Q E r S hQ => wpAny_allTrue_And_nil (hQ true W s.heap s.toks h S .self)
theorem evb_or_cons {x : Expr} {rest : List Expr} {PB : Bool → Led → Prop}
    (h : EvB w hb L k m R (isTrue x env (eval x env)) W (KOr w hb L k m R env PB rest)) :
    EvB w hb L k m R (allTrue .Or (x :: rest) env) W PB :=
  fun A s Q E r S hQ => wpAny_allTrue_Or_cons (h A s _ E r S fun b W₁ h₁ tk p S₁ st => by
    cases b with
    | true => exact hQ true W₁ h₁ tk (p.1 rfl) S₁ st
    | false => exact p.2 rfl A _ Q E r S₁ fun b₂ W₂ h₂ tk₂ p₂ S₂ st₂ => hQ b₂ W₂ h₂ tk₂ p₂ S₂ (st.ev st₂))
theorem evb_and_cons {x : Expr} {rest : List Expr} {PB : Bool → Led → Prop}
    (h : EvB w hb L k m R (isTrue x env (eval x env)) W (KAnd w hb L k m R env PB rest)) :
    EvB w hb L k m R (allTrue .And (x :: rest) env) W PB :=
  fun A s Q E r S hQ => wpAny_allTrue_And_cons (h A s _ E r S fun b W₁ h₁ tk p S₁ st => by
    cases b with
    | false => exact hQ false W₁ h₁ tk (p.1 rfl) S₁ st
    | true => exact p.2 rfl A _ Q E r S₁ fun b₂ W₂ h₂ tk₂ p₂ S₂ st₂ => hQ b₂ W₂ h₂ tk₂ p₂ S₂ (st.ev st₂))
theorem evb_boolop {op : BoolOp} {vs : List Expr} {pos : Pos} {PB : Bool → Led → Prop} {whole : Sem Value} (h : EvB w hb L k m R (allTrue op vs env) W PB) :
    EvB w hb L k m R (isTrue (.BoolOp op vs pos) env whole) W PB :=
  fun A s Q E r S hQ => wpAny_isTrue_BoolOp (h A s Q E r S hQ)

theorem ev_ife {test body orelse : Expr} {pos : Pos}
    (h : EvB w hb L k m R (isTrue test env (eval test env)) W (KIfE w hb L k m R env P body orelse)) :
    Ev w hb L k m R (eval (.IfExp test body orelse pos) env) W P :=
  fun A s Q E r S hQ => wpAny_IfExp (h A s _ E r S fun b W₁ h₁ tk p S₁ st => by
    cases b with
    | true => rw [if_pos rfl]; exact p.1 rfl A _ Q E r S₁ fun v₂ a₂ W₂ h₂ tk₂ e₂ p₂ S₂ st₂ => hQ v₂ a₂ W₂ h₂ tk₂ e₂ p₂ S₂ (st.ev st₂)
    | false => rw [if_neg Bool.false_ne_true]; exact p.2 rfl A _ Q E r S₁ fun v₂ a₂ W₂ h₂ tk₂ e₂ p₂ S₂ st₂ => hQ v₂ a₂ W₂ h₂ tk₂ e₂ p₂ S₂ (st.ev st₂))

theorem ev_neg {x : Expr} {pos : Pos} (h : Ev w hb L k m R (eval x env) W (KNeg P)) : Ev w hb L k m R (eval (.UnaryOp .USub x pos) env) W P :=
  fun A s Q E r S hQ => wpAny_UnaryOp (h A s _ E r S fun v a W₁ h₁ tk e p S₁ st => by
    obtain ⟨i, rfl, p⟩ := p
    obtain ⟨t, rfl⟩ := av_int e
    exact neg_int (hQ _ _ W₁ h₁ _ rfl p S₁ st))

/-! ints -/
theorem op_add {x y : Int} (h : P (.int (x + y)) W) : Op w hb L k m R .Add (.int x) (.int y) W P := fun va vb ea eb A s Q E r S hQ => by
  obtain ⟨t, rfl⟩ := av_int ea
  obtain ⟨u, rfl⟩ := av_int eb
  exact add_int (hQ _ _ W s.heap _ rfl h S .self)
theorem op_sub {x y : Int} (h : P (.int (x - y)) W) : Op w hb L k m R .Sub (.int x) (.int y) W P := fun va vb ea eb A s Q E r S hQ => by
  obtain ⟨t, rfl⟩ := av_int ea
  obtain ⟨u, rfl⟩ := av_int eb
  exact sub_int (hQ _ _ W s.heap _ rfl h S .self)
theorem op_mul {x y : Int} (hx : IntMulOk x y) (h : P (.int (x * y)) W) : Op w hb L k m R .Mult (.int x) (.int y) W P := fun va vb ea eb A s Q E r S hQ => by
  obtain ⟨t, rfl⟩ := av_int ea
  obtain ⟨u, rfl⟩ := av_int eb
  exact mul_int (hQ _ _ W s.heap _ rfl h S .self) hx
theorem op_mod {x y : Int} (hy : y ≠ 0) (h : P (.int (x.fmod y)) W) : Op w hb L k m R .Mod (.int x) (.int y) W P := fun va vb ea eb A s Q E r S hQ => by
  obtain ⟨t, rfl⟩ := av_int ea
  obtain ⟨u, rfl⟩ := av_int eb
  exact mod_int' hy (hQ _ _ W s.heap _ rfl h S .self)
theorem op_div {x y : Int} (hy : y ≠ 0) (hp : Builtin.divisionGoesByPylong x y = false) (h : P (.int (x.fdiv y)) W) : Op w hb L k m R .FloorDiv (.int x) (.int y) W P := fun va vb ea eb A s Q E r S hQ => by
  obtain ⟨t, rfl⟩ := av_int ea
  obtain ⟨u, rfl⟩ := av_int eb
  exact floordiv_int hy (hQ _ _ W s.heap _ rfl h S .self) (.inl hp)

section
variable {PB : Bool → Led → Prop} {x y : Int}
theorem cmp_eq (h : PB (x == y) W) : Cmp w hb L k m R .Eq (.int x) (.int y) W PB := fun va vb ea eb A s Q E r S hQ => by
  obtain ⟨t, rfl⟩ := av_int ea
  obtain ⟨u, rfl⟩ := av_int eb
  exact eq_int (hQ _ _ W s.heap s.toks rfl ⟨_, rfl, h⟩ S .self)
theorem cmp_ne (h : PB (x != y) W) : Cmp w hb L k m R .NotEq (.int x) (.int y) W PB := fun va vb ea eb A s Q E r S hQ => by
  obtain ⟨t, rfl⟩ := av_int ea
  obtain ⟨u, rfl⟩ := av_int eb
  exact ne_int (hQ _ _ W s.heap s.toks rfl ⟨_, rfl, h⟩ S .self)
theorem cmp_lt (h : PB (decide (x < y)) W) : Cmp w hb L k m R .Lt (.int x) (.int y) W PB := fun va vb ea eb A s Q E r S hQ => by
  obtain ⟨t, rfl⟩ := av_int ea
  obtain ⟨u, rfl⟩ := av_int eb
  exact lt_int (hQ _ _ W s.heap s.toks rfl ⟨_, rfl, h⟩ S .self)
theorem cmp_gt (h : PB (decide (y < x)) W) : Cmp w hb L k m R .Gt (.int x) (.int y) W PB := fun va vb ea eb A s Q E r S hQ => by
  obtain ⟨t, rfl⟩ := av_int ea
  obtain ⟨u, rfl⟩ := av_int eb
  exact gt_int (hQ _ _ W s.heap s.toks rfl ⟨_, rfl, h⟩ S .self)
theorem cmp_ge (h : PB (decide (y ≤ x)) W) : Cmp w hb L k m R .GtE (.int x) (.int y) W PB := fun va vb ea eb A s Q E r S hQ => by
  obtain ⟨t, rfl⟩ := av_int ea
  obtain ⟨u, rfl⟩ := av_int eb
  exact ge_int (hQ _ _ W s.heap s.toks rfl ⟨_, rfl, h⟩ S .self)
end
end
end

section
noncomputable def AO.lx : AO → Option (List AV)
  | .lst xs | .pls xs => some xs
  | _ => none

/-- the item at a place as Python says it -/
noncomputable def idx? (i : Int) (xs : List AV) : Option AV := (seqIndex? i xs.length).bind fun j => xs[j]?
section
variable (w : World) (hb : Heap) (L : Addr) (k : Nat) (m : Vars) (R : Led) (env : Env) (P : AV → Led → Prop)
abbrev KSub2 (a : AV) : AV → Led → Prop := fun b W => ∃ l o xs i x, a = .ref l ∧ b = .int i ∧ (l, o) ∈ R ++ W ∧ (o.lx = some xs ∨ o = .tup xs) ∧ xs.length < 2 ^ 62 ∧ idx? i xs = some x ∧ P x W
abbrev KSub1 (slice : Expr) : AV → Led → Prop := fun a W => Ev w hb L k m R (eval slice env) W (KSub2 R P a)
abbrev KSl3 (a b : AV) : AV → Led → Prop := fun c W => ∃ l o xs ys lo hi, a = .ref l ∧ (l, o) ∈ R ++ W ∧ o.lx = some xs ∧ xs.length ≤ sizeLine ∧ (Option.elim lo (b = .none) fun i => b = .int i) ∧ (Option.elim hi (c = .none) fun i => c = .int i) ∧
        (∀ vs : Array Value, vs.size = xs.length → ∃ d n, slicePick vs lo hi none = ((vs.toList.drop d).take n).toArray ∧ ys = (xs.drop d).take n) ∧ ∀ a, P (.ref a) ((a, .pls ys) :: W)
abbrev KSl2 (upper : Option Expr) (a : AV) : AV → Led → Prop := fun b W => Ev w hb L k m R (evalPart upper env) W (KSl3 R P a b)
abbrev KSl1 (lower upper : Option Expr) : AV → Led → Prop := fun a W => Ev w hb L k m R (evalPart lower env) W (KSl2 w hb L k m R env P upper a)
end
section
variable {w : World} {hb : Heap} {L : Addr} {k : Nat} {m : Vars} {R W : Led} {env : Env} {P : AV → Led → Prop} {h h' : Heap}

theorem Sta.get (S : Sta hb L m R W h) {l : Addr} {o : AO} (hx : (l, o) ∈ R ++ W) : o.at h l := by
  rcases List.mem_append.mp hx with q | q
  · exact (S.rd _ q).1
  · exact (S.wr _ q).1
theorem AO.isList {l : Addr} {o : AO} {xs : List AV} (ha : o.at h l) (ho : o.lx = some xs) : ∃ vs : List Value, h.IsList l vs.toArray ∧ vs.map av = xs.map some := by
  cases o with
  | lst ys => cases ho; exact ha
  | pls ys => cases ho; obtain ⟨vs, n, e, q⟩ := ha; exact ⟨vs, ⟨_, e, rfl, n, rfl⟩, q⟩
  | tup ys => cases ho
  | cel x => cases ho
  | rng a b c => cases ho
  | emp => cases ho
theorem Sta.isList (S : Sta hb L m R W h) {l : Addr} {o : AO} {xs : List AV} (hx : (l, o) ∈ R ++ W) (ho : o.lx = some xs) : ∃ vs : List Value, h.IsList l vs.toArray ∧ vs.map av = xs.map some := AO.isList (S.get hx) ho

theorem av_len {vs : List Value} {xs : List AV} (e : vs.map av = xs.map some) : vs.length = xs.length := by
  have := congrArg List.length e
  simpa using this
theorem av_get {vs : List Value} {xs : List AV} (e : vs.map av = xs.map some) {j : Nat} {x : AV} (hx : xs[j]? = some x) : ∃ v, vs[j]? = some v ∧ av v = some x := by
  have := congrArg (fun l => l[j]?) e
  simp only [List.getElem?_map, hx, Option.map_some] at this
  cases hv : vs[j]? with
  | none => rw [hv] at this; cases this
  | some v => rw [hv] at this; exact ⟨v, rfl, Option.some.inj this⟩
theorem av_all {vs : List Value} {xs : List AV} (e : vs.map av = xs.map some) {v : Value} (hv : v ∈ vs) : ∃ x ∈ xs, av v = some x := by
  have : av v ∈ xs.map some := e ▸ List.mem_map.mpr ⟨v, hv, rfl⟩
  obtain ⟨x, hx, e'⟩ := List.mem_map.mp this
  exact ⟨x, hx, e'.symm⟩


theorem seqIndex_some {i : Int} {n j : Nat} (h : seqIndex? i n = some j) : j < n ∧ ((0 ≤ i ∧ i.toNat = j) ∨ (i < 0 ∧ -(n : Int) ≤ i ∧ (i + n).toNat = j)) := by
  unfold seqIndex? at h
  by_cases hi : i < 0
  · simp only [hi, if_true] at h
    split at h
    · rename_i q
      simp only [Bool.and_eq_true, decide_eq_true_eq] at q
      cases h
      refine ⟨by omega, .inr ⟨hi, by omega, rfl⟩⟩
    · cases h
  · simp only [hi, if_false] at h
    split at h
    · rename_i q
      simp only [Bool.and_eq_true, decide_eq_true_eq] at q
      cases h
      refine ⟨by omega, .inl ⟨by omega, rfl⟩⟩
    · cases h

theorem hi62 {i : Int} {j n : Nat} (h0 : 0 ≤ i) (e : i.toNat = j) (hj : j < n) (hn : n < 2 ^ 62) : i < 2 ^ 63 := by
  rw [← Int.toNat_of_nonneg h0, e]
  exact Int.lt_of_lt_of_le (Int.ofNat_lt.mpr (Nat.lt_trans hj hn)) (by decide)
theorem lo62 {i : Int} {n : Nat} (h : -(n : Int) ≤ i) (hn : n < 2 ^ 62) : -(2 ^ 63) ≤ i :=
  Int.le_trans (Int.neg_le_neg (Int.le_trans (Int.le_of_lt (Int.ofNat_lt.mpr hn)) (by decide))) h
theorem item_tail {l : Addr} {o : AO} {xs : List AV} {i : Int} {t : Tok} {x : AV} {value slice : Expr} {A : Around} {s : Shared} {Q : Value → Shared → Prop} {E : Value → Shared → Prop}
    (ho : o.lx = some xs ∨ o = .tup xs) (ha : o.at s.heap l) (hlen : xs.length < 2 ^ 62) (hx : idx? i xs = some x)
    (hs : subscripted slice false (.ref l) (.int i t) = operate [.ref l, .int i t] (getItem (.ref l) (.int i t)))
    (h : ∀ v, av v = some x → Q v s) : wpAny (model PG w) A (subscriptTail value slice (.ref l) (.int i t)) Q E s := by
  unfold idx? at hx
  cases hj : seqIndex? i xs.length with
  | none => rw [hj] at hx; cases hx
  | some j =>
    rw [hj] at hx
    have hx : xs[j]? = some x := hx
    have hb := seqIndex_some hj
    rcases ho with ho | rfl
    · obtain ⟨vs, hl, e⟩ := AO.isList ha ho
      obtain ⟨v, hv, ev⟩ := av_get e hx
      have hn := av_len e
      rcases hb with ⟨hb1, ⟨h0, hj'⟩ | ⟨h0, h1, hj'⟩⟩
      · exact tail_any hl.typeIs slot_list_getitem.lookup (wpAny_getItem_list hl h0 (hi62 h0 hj' hb1 hlen) (by rw [hj']; simpa using hv) (h v ev)) hs
      · refine tail_any hl.typeIs slot_list_getitem.lookup (wpAny_getItem_list_neg hl h0 (by rw [List.size_toArray, hn]; exact h1) (lo62 h1 hlen) (x := v) ?_ (h v ev)) hs
        have : (i + (vs.toArray.size : Int)).toNat = j := by rw [List.size_toArray, hn]; exact hj'
        rw [this]; simpa using hv
    · obtain ⟨vs, hl, e⟩ := ha
      obtain ⟨v, hv, ev⟩ := av_get e hx
      have hn := av_len e
      exact item_tupleT hl (hb.2.elim (fun q => Int.le_trans (by decide) q.1) fun q => lo62 q.2.1 hlen) (hb.2.elim (fun q => hi62 q.1 q.2 hb.1 hlen) fun q => Int.lt_trans q.1 (by decide)) (by rw [hn]; exact hj) hv (h v ev) hs

theorem ev_sub {value slice : Expr} {pos : Pos}
    (hs : ∀ o i, subscripted slice false o i = operate [o, i] (getItem o i))
    (h : Ev w hb L k m R (eval value env) W (KSub1 w hb L k m R env P slice)) :
    Ev w hb L k m R (eval (.Subscript value slice pos) env) W P := fun A s Q E r S hQ => by
  refine Subscript_ (h A s _ E r S fun v a W₁ h₁ tk e p S₁ st => p A _ _ E r S₁ fun v₂ a₂ W₂ h₂ tk₂ e₂ p₂ S₂ st₂ => ?_)
  obtain ⟨l, o, xs, i, x, rfl, rfl, hm, ho, hlen, hx, hp⟩ := p₂
  obtain ⟨t, rfl⟩ := av_int e₂
  have := av_ref e
  subst this
  exact item_tail ho (S₂.get hm) hlen hx (hs _ _) fun v hv => hQ v x W₂ h₂ tk₂ hv hp S₂ (st.ev st₂)

/-! a slice without a step; a slice that turns -/
theorem ev_slice {value : Expr} {lower upper : Option Expr} {p pos : Pos} (ht : ∀ o r, letTemporaryGo value o r = pure ())
    (h : Ev w hb L k m R (eval value env) W (KSl1 w hb L k m R env P lower upper)) :
    Ev w hb L k m R (eval (.Subscript value (.Slice lower upper none p) pos) env) W P := fun A s Q E r S hQ => by
  refine wpAny_Subscript_list_slice (h A s _ E r S fun v a W₁ h₁ tk e p S₁ st => p A _ _ E r S₁ fun v₂ a₂ W₂ h₂ tk₂ e₂ p₂ S₂ st₂ => p₂ A _ _ E r S₂ fun v₃ a₃ W₃ h₃ tk₃ e₃ p₃ S₃ st₃ => ?_) ht
  obtain ⟨l, o, xs, ys, lo, hi, rfl, hm, ho, hlen, hlo, hhi, hp, hP⟩ := p₃
  have := av_ref e
  subst this
  obtain ⟨vs, hl, ev⟩ := S₃.isList hm ho
  have hn := av_len ev
  refine ⟨l, vs.toArray, lo, hi, rfl, hl, by simpa [hn] using hlen, ?_, ?_, ?_⟩
  · cases lo with
    | none => cases hlo; cases v₂ <;> simp [av] at e₂; exact .none
    | some i => cases hlo; obtain ⟨t, rfl⟩ := av_int e₂; exact .int _ _
  · cases hi with
    | none => cases hhi; cases v₃ <;> simp [av] at e₃; exact .none
    | some i => cases hhi; obtain ⟨t, rfl⟩ := av_int e₃; exact .int _ _
  · have k1 : ∀ b o', h₃.get? b = some o' → ((h₃.push { cls := .type "slice", data := .fields #[v₂, v₃, .none] }).push { cls := .type "list", data := .seq (slicePick vs.toArray lo hi none) }).get? b = some o' :=
      fun b o' e => Heap.get?_push_of_some _ (Heap.get?_push_of_some _ e)
    have hfresh : h₃.get? (h₃.objs.size + 1) = none := by
      cases e : h₃.get? (h₃.objs.size + 1) with
      | none => rfl
      | some o => exact absurd (Heap.lt_size e) (Nat.not_lt.mpr (Nat.le_succ _))
    have hsz : (h₃.push { cls := .type "slice", data := .fields #[v₂, v₃, .none] }).objs.size = h₃.objs.size + 1 := Heap.size_push ..
    obtain ⟨d, n, hd, rfl⟩ := hp vs.toArray (by simpa using hn)
    have hat : AO.at ((h₃.push { cls := .type "slice", data := .fields #[v₂, v₃, .none] }).push { cls := .type "list", data := .seq (slicePick vs.toArray lo hi none) }) (h₃.objs.size + 1) (.pls ((xs.drop d).take n)) := by
      refine ⟨(vs.drop d).take n, 0, ?_, by simp only [List.map_take, List.map_drop, ev]⟩
      rw [← hsz, hd]
      exact Heap.get?_push_size _ rfl
    exact hQ _ _ _ _ _ rfl (hP _) (S₃.addW k1 hfresh hat) (((st.ev st₂).ev st₃).ev (Stp.addW k1 hfresh))

theorem ev_part_none (h : P .none W) : Ev w hb L k m R (evalPart none env) W P := fun A s Q E r S hQ => wpAny_pure (hQ .none .none W s.heap s.toks rfl h S .self)
theorem ev_part_some {e : Expr} (h : Ev w hb L k m R (eval e env) W P) : Ev w hb L k m R (evalPart (some e) env) W P := h

/-! new lists and tuples -/
theorem evl_nil {pos : Pos} {PL : List AV → Led → Prop} (h : PL [] W) : EvL w hb L k m R (spliced (backTo pos (starEach [] env))) W PL :=
  fun A s Q E r S hQ => args_nil (hQ [] [] W s.heap s.toks rfl h S .self)
theorem evl_cons {e : Expr} {rest : List Expr} {pos : Pos} {PL : List AV → Led → Prop} (he : starEach (e :: rest) env = (false, eval e env) :: starEach rest env)
    (h : Ev w hb L k m R (eval e env) W (KCo1 w hb L k m R env PL pos rest)) :
    EvL w hb L k m R (spliced (backTo pos (starEach (e :: rest) env))) W PL :=
  fun A s Q E r S hQ => args_cons (h A s _ E r S fun v a W₁ h₁ tk e p S₁ st => p A _ _ E r S₁ fun vs as W₂ h₂ tk₂ e₂ p₂ S₂ st₂ =>
    hQ (v :: vs) (a :: as) W₂ h₂ tk₂ (by simp [e, e₂]) p₂ S₂ (st.ev st₂)) he

theorem ev_list {elts : List Expr} {pos : Pos} (h : EvL w hb L k m R (spliced (backTo pos (starEach elts env))) W (KLst P)) :
    Ev w hb L k m R (eval (.List elts pos) env) W P := fun A s Q E r S hQ => by
  refine wpAny_List (h A s _ E r S fun vs as W₁ h₁ tk e p S₁ st => ⟨by rw [av_len e]; exact p.1, ?_⟩)
  have hk : ∀ b o', h₁.get? b = some o' → (h₁.push { cls := .type "list", data := .seq vs.toArray }).get? b = some o' := fun b o' e => Heap.get?_push_of_some _ e
  exact hQ _ _ _ _ _ rfl (p.2 _) (S₁.addW hk (get_size _) ⟨vs, 0, Heap.get?_push_size _ rfl, e⟩) (st.ev (Stp.addW hk (get_size _)))
theorem ev_tuple {elts : List Expr} {n : Nat} {pos : Pos} (h : EvL w hb L k m R (spliced (backTo pos (starEach elts env))) W (KTup P)) :
    Ev w hb L k m R (eval (.Tuple elts n pos) env) W P := fun A s Q E r S hQ => by
  refine wpAny_Tuple (h A s _ E r S fun vs as W₁ h₁ tk e p S₁ st => ⟨by rw [av_len e]; exact p.1, ?_⟩)
  have hk : ∀ b o', h₁.get? b = some o' → (h₁.push { cls := .type "tuple", data := .seq vs.toArray }).get? b = some o' := fun b o' e => Heap.get?_push_of_some _ e
  exact hQ _ _ _ _ _ rfl (p.2 _) (S₁.addW hk (get_size _) ⟨vs, ⟨_, Heap.get?_push_size _ rfl, rfl, 0, rfl⟩, e⟩) (st.ev (Stp.addW hk (get_size _)))


theorem Bs.looks {w : World} {hb : Heap} (B : Bs w hb) {h : Heap} (hk : ∀ b o, hb.get? b = some o → h.get? b = some o) : ∃ mg mb, h.Ns mainGlobals mg ∧ h.Ns builtinsNs mb ∧ hb.Ns mainGlobals mg ∧ ∀ x : Str, x ≠ "__name__" → mb x = bootBuiltins x := by
  obtain ⟨mean, mg, mb, T⟩ := B.T
  exact ⟨mg, mb, T.g.keeps hk, T.b.keeps hk, T.g, T.builtins⟩

theorem ev_glob {x : Str} {pos : Pos} {v : Value} {a : AV} (B : Bs w hb) (hg : env.globals = mainGlobals) (hk : env.scope.kind = .function) (hl : env.kindOf x = some .globalImplicit)
    (hn : nsIn (hd.heap_39 w.params) mainGlobals x = some (some v)) (ha : av v = some a) (h : P a W) (hd : (x == ("__debug__" : Str)) = false) :
    Ev w hb L k m R (eval (.Name x pos) env) W P := fun A s Q E r S hQ => by
  obtain ⟨mg, mb, G, _, G0, _⟩ := B.looks S.bs
  exact Name_function_global hk hl (loadGlobal_global (by rw [hg]; exact G) (mg_of B.X G0 hn) (hQ v a W s.heap s.toks ha h S .self)) hd

/-- a name of the language's own -/
theorem blt_name {x : Str} {pos : Pos} {v : Value} {A : Around} {s : Shared} {Q : Value → Shared → Prop} {E : Value → Shared → Prop} (B : Bs w hb) (S : Sta hb L m R W s.heap) (hg : env.globals = mainGlobals) (hbn : env.builtins = builtinsNs)
    (hk : env.scope.kind = .function) (hl : env.kindOf x = some .globalImplicit)
    (hn : nsIn (hd.heap_39 w.params) mainGlobals x = some none) (hv : bootBuiltins x = some v) (hx : x ≠ "__name__") (h : Q v s) (hd : (x == ("__debug__" : Str)) = false) :
    wpAny (model PG w) A (eval (.Name x pos) env) Q E s := by
  obtain ⟨mg, mb, G, Gb, G0, hb'⟩ := B.looks S.bs
  exact Name_function_global hk hl (loadGlobal_builtin (by rw [hg]; exact G) (mg_none_of B.X G0 hn) (by rw [hbn]; exact Gb) ((hb' x hx).trans hv) h) hd

theorem ev_blt {x : Str} {id : String} {p pos : Pos} {e : Expr} {rest : List Expr} (B : Bs w hb) (hg : env.globals = mainGlobals) (hbn : env.builtins = builtinsNs)
    (hk : env.scope.kind = .function) (hl : env.kindOf x = some .globalImplicit) (hn : nsIn (hd.heap_39 w.params) mainGlobals x = some none) (hv : bootBuiltins x = some (.builtin id))
    (hx : x ≠ "__name__") (hd : (x == ("__debug__" : Str)) = false)
    (he : starEach (e :: rest) env = (false, eval e env) :: starEach rest env) (hp : (backTo pos (starEach rest env)).any (·.1) = false)
    (h : EvL w hb L k m R (spliced (backTo pos (starEach (e :: rest) env))) W (KCal w hb L k m R P (.builtin id))) :
    Ev w hb L k m R (eval (.Call (.Name x p) (e :: rest) [] pos) env) W P := fun A s Q E r S hQ =>
  Call_ (blt_name B S hg hbn hk hl hn hv hx (callWith_builtin1 (h A s _ E r S fun vs as W₁ h₁ tk e p S₁ st => p vs e A _ Q E r S₁ fun v₂ a₂ W₂ h₂ tk₂ e₂ p₂ S₂ st₂ => hQ v₂ a₂ W₂ h₂ tk₂ e₂ p₂ S₂ (st.ev st₂)) he hp) hd)

theorem ev_typ {x : Str} {T : String} {p pos : Pos} {e : Expr} {rest : List Expr} (B : Bs w hb) (hg : env.globals = mainGlobals) (hbn : env.builtins = builtinsNs)
    (hk : env.scope.kind = .function) (hl : env.kindOf x = some .globalImplicit) (hn : nsIn (hd.heap_39 w.params) mainGlobals x = some none) (hv : bootBuiltins x = some (.type T))
    (hx : x ≠ "__name__") (hd : (x == ("__debug__" : Str)) = false)
    (he : starEach (e :: rest) env = (false, eval e env) :: starEach rest env) (hp : (backTo pos (starEach rest env)).any (·.1) = false)
    (h : EvL w hb L k m R (spliced (backTo pos (starEach (e :: rest) env))) W (KCal w hb L k m R P (.type T))) :
    Ev w hb L k m R (eval (.Call (.Name x p) (e :: rest) [] pos) env) W P := fun A s Q E r S hQ =>
  Call_ (blt_name B S hg hbn hk hl hn hv hx (PyProof.Rows.callWith_type1 (h A s _ E r S fun vs as W₁ h₁ tk e p S₁ st => p vs e A _ Q E r S₁ fun v₂ a₂ W₂ h₂ tk₂ e₂ p₂ S₂ st₂ => hQ v₂ a₂ W₂ h₂ tk₂ e₂ p₂ S₂ (st.ev st₂)) he hp) hd)

theorem ev_own {x : Str} {f : Addr} {p pos : Pos} {e : Expr} {rest : List Expr} (B : Bs w hb) (hg : env.globals = mainGlobals)
    (hk : env.scope.kind = .function) (hl : env.kindOf x = some .globalImplicit) (hn : nsIn (hd.heap_39 w.params) mainGlobals x = some (some (.ref f))) (hf : keepIn (hd.heap_39 w.params) (.ref f) = true)
    (hd : (x == ("__debug__" : Str)) = false)
    (he : starEach (e :: rest) env = (false, eval e env) :: starEach rest env) (hp : (backTo pos (starEach rest env)).any (·.1) = false)
    (h : EvL w hb L k m R (spliced (backTo pos (starEach (e :: rest) env))) W (KCal w hb L k m R P (.ref f))) :
    Ev w hb L k m R (eval (.Call (.Name x p) (e :: rest) [] pos) env) W P := fun A s Q E r S hQ => by
  obtain ⟨mg, mb, G, _, G0, _⟩ := B.looks S.bs
  refine Call_ (Name_function_global hk hl (loadGlobal_global (by rw [hg]; exact G) (mg_of B.X G0 hn) ?_) hd)
  exact callWith_K B.X hf (h A s _ E r S fun vs as W₁ h₁ tk e p S₁ st => ⟨B.X.keeps S₁.bs, p vs e A _ Q E r S₁ fun v₂ a₂ W₂ h₂ tk₂ e₂ p₂ S₂ st₂ => hQ v₂ a₂ W₂ h₂ tk₂ e₂ p₂ S₂ (st.ev st₂)⟩) he hp
end
end

section
theorem fa0 {α : Type} {p : α → Prop} : ∀ x ∈ ([] : List α), p x := fun _ h => by cases h
theorem faS {α : Type} {p : α → Prop} {a : α} {l : List α} (h : p a) (t : ∀ x ∈ l, p x) : ∀ x ∈ a :: l, p x := fun x hx => by
  cases hx with
  | head => exact h
  | tail _ hx => exact t x hx
theorem bind0 {p : List Value → Prop} (h : p []) : ∀ vs : List Value, vs.length = 0 → p vs := fun vs e => by
  cases vs with
  | nil => exact h
  | cons a vs => exact absurd e (Nat.succ_ne_zero _)
theorem bindS {n : Nat} {p : List Value → Prop} (h : ∀ a vs, vs.length = n → p (a :: vs)) : ∀ vs : List Value, vs.length = n + 1 → p vs := fun vs e => by
  cases vs with
  | nil => exact absurd e.symm (Nat.succ_ne_zero _)
  | cons a vs => exact h a vs (Nat.succ.inj e)
theorem bind1 {p : List Value → Prop} (h : ∀ a, p [a]) : ∀ vs : List Value, vs.length = 1 → p vs := bindS fun a => bind0 (h a)
theorem bind2 {p : List Value → Prop} (h : ∀ a b, p [a, b]) : ∀ vs : List Value, vs.length = 2 → p vs := bindS fun a => bind1 (h a)
theorem bind3 {p : List Value → Prop} (h : ∀ a b c, p [a, b, c]) : ∀ vs : List Value, vs.length = 3 → p vs := bindS fun a => bind2 (h a)
theorem bind4 {p : List Value → Prop} (h : ∀ a b c d, p [a, b, c, d]) : ∀ vs : List Value, vs.length = 4 → p vs := bindS fun a => bind3 (h a)
theorem bind5 {p : List Value → Prop} (h : ∀ a b c d e, p [a, b, c, d, e]) : ∀ vs : List Value, vs.length = 5 → p vs := bindS fun a => bind4 (h a)
theorem av1 {vs : List Value} {a : AV} (e : vs.map av = [a].map some) : ∃ v, vs = [v] ∧ av v = some a :=
  bind1 (p := fun vs => vs.map av = [a].map some → ∃ v, vs = [v] ∧ av v = some a) (fun v e => ⟨v, rfl, (List.cons.inj e).1⟩) vs (av_len e) e
theorem av2 {vs : List Value} {a b : AV} (e : vs.map av = [a, b].map some) : ∃ v u, vs = [v, u] ∧ av v = some a ∧ av u = some b :=
  bind2 (p := fun vs => vs.map av = [a, b].map some → ∃ v u, vs = [v, u] ∧ av v = some a ∧ av u = some b) (fun v u e => ⟨v, u, rfl, (List.cons.inj e).1, (List.cons.inj (List.cons.inj e).2).1⟩) vs (av_len e) e
theorem av3 {vs : List Value} {a b c : AV} (e : vs.map av = [a, b, c].map some) : ∃ v u t, vs = [v, u, t] ∧ av v = some a ∧ av u = some b ∧ av t = some c :=
  bind3 (p := fun vs => vs.map av = [a, b, c].map some → ∃ v u t, vs = [v, u, t] ∧ av v = some a ∧ av u = some b ∧ av t = some c) (fun v u t e => ⟨v, u, t, rfl, (List.cons.inj e).1, (List.cons.inj (List.cons.inj e).2).1, (List.cons.inj (List.cons.inj (List.cons.inj e).2).2).1⟩) vs (av_len e) e

abbrev Ints (ns : List Int) : List AV := ns.map AV.int
theorem ints_are : ∀ {ns : List Int} {vs : List Value}, vs.map av = (Ints ns).map some → IntsAre vs ns
  | [], [], _ => .nil
  | [], _ :: _, e => by simp at e
  | _ :: _, [], e => by simp at e
  | n :: ns, v :: vs, e => by
    simp only [List.map_cons, List.cons.injEq] at e
    obtain ⟨t, rfl⟩ := av_int e.1
    exact .cons n t (ints_are e.2)

section
variable {w : World} {hb : Heap} {L : Addr} {k : Nat} {m : Vars} {R W : Led} {env : Env} {P : AV → Led → Prop} {h h' : Heap}

theorem cal_len {l : Addr} {o : AO} {xs : List AV} (hm : (l, o) ∈ R ++ W) (ho : o.lx = some xs) (hlen : xs.length < 2 ^ 62) (h : P (.int xs.length) W) : Cal w hb L k m R (.builtin "len") [.ref l] W P :=
  fun vs e A s Q E r S hQ => by
    obtain ⟨v, rfl, ev⟩ := av1 e
    have := av_ref ev
    subst this
    obtain ⟨us, hl, e'⟩ := S.isList hm ho
    have hn := av_len e'
    refine PySem.Calls.call_len_list hl (by simp; omega) (hQ _ _ W s.heap _ ?_ h S .self)
    simp [av, hn]

theorem cal_max {x y : Int} (h : P (.int (if y > x then y else x)) W) : Cal w hb L k m R (.builtin "max") [.int x, .int y] W P :=
  fun vs e A s Q E r S hQ => by
    obtain ⟨v, u, rfl, ev, eu⟩ := av2 e
    obtain ⟨t, rfl⟩ := av_int ev
    obtain ⟨t', rfl⟩ := av_int eu
    refine max_two_ints r.hh fun h' tk hk => hQ _ _ W h' tk ?_ h (S.grow hk) (.of_keep hk fun a ha => .inl ha)
    split <;> rfl
theorem cal_abs {x : Int} (h : P (.int (if x < 0 then -x else x)) W) : Cal w hb L k m R (.builtin "abs") [.int x] W P :=
  fun vs e A s Q E r S hQ => by
    obtain ⟨v, rfl, ev⟩ := av1 e
    obtain ⟨t, rfl⟩ := av_int ev
    exact call_abs_int fun u tk => hQ _ _ W s.heap tk rfl h S .self
theorem cal_int {x : Int} (h : P (.int x) W) : Cal w hb L k m R (.type "int") [.int x] W P :=
  fun vs e A s Q E r S hQ => by
    obtain ⟨v, rfl, ev⟩ := av1 e
    obtain ⟨t, rfl⟩ := av_int ev
    exact call_int_int (hQ _ _ W s.heap s.toks rfl h S .self)
theorem cal_list {l : Addr} {o : AO} {xs : List AV} (hm : (l, o) ∈ R ++ W) (ho : o.lx = some xs) (hlen : xs.length ≤ sizeLine) (h : ∀ a, P (.ref a) ((a, .pls xs) :: W)) : Cal w hb L k m R (.type "list") [.ref l] W P :=
  fun vs e A s Q E r S hQ => by
    obtain ⟨v, rfl, ev⟩ := av1 e
    have := av_ref ev
    subst this
    obtain ⟨us, ⟨ob, hob, hc, n, hd⟩, e'⟩ := S.isList hm ho
    have hn := av_len e'
    refine call_list_seq l (.inl rfl) hob hc hd (fun h' c' hk hnew => ?_) (by simpa [hn] using hlen)
    exact hQ _ _ _ h' s.toks rfl (h _) (S.addW hk (get_size _) ⟨us, c', hnew, e'⟩) (Stp.addW hk (get_size _))

/-! the text's own defs -/
/-- a def that stores into nothing that stood: with these arguments it gives a, and what is new is N -/
def Fn (w : World) (hb : Heap) (f : Addr) (k : Nat) (as : List AV) (R : Led) (P : AV → Led → Prop) : Prop :=
  ∀ (A : Around) (s : Shared) (Q : Value → Shared → Prop) (E : Value → Shared → Prop) (vs : List Value), Room A k → vs.map av = as.map some →
    (∀ b o, hb.get? b = some o → s.heap.get? b = some o) → (∀ p ∈ R, p.2.at s.heap p.1) →
    (∀ v a N h' tk, av v = some a → P a N → (∀ b o, s.heap.get? b = some o → h'.get? b = some o) → (∀ p ∈ N, p.2.at h' p.1 ∧ s.heap.get? p.1 = none) → (N.map (·.1)).Nodup → Q v { s with heap := h', toks := tk }) →
    wpAny (model PG w) A (call (.ref f) vs) Q E s

theorem cal_fn {f : Addr} {j : Nat} {as : List AV} {R' : Led} {P' : AV → Led → Prop} (H : Fn w hb f j as R' P') (hj : j ≤ k) (hR : ∀ p ∈ R', p ∈ R ++ W) (h : ∀ a N, P' a N → P a (N ++ W)) : Cal w hb L k m R (.ref f) as W P :=
  fun vs e A s Q E r S hQ => H A s Q E vs (r.le hj) e S.bs (fun p hp => S.get (hR p hp)) fun v a N h' tk ea p hk hN hd =>
    hQ v a _ h' tk ea (h a N p) (S.addWs hk hN hd) (Stp.addWs hk fun p hp => (hN p hp).2)

/-! lists joined, lists compared -/
theorem op_cat {l b : Addr} {o o' : AO} {xs ys : List AV} (hl : (l, o) ∈ R ++ W) (ho : o.lx = some xs) (hb' : (b, o') ∈ R ++ W) (ho' : o'.lx = some ys) (hsz : xs.length + ys.length ≤ sizeLine)
    (h : ∀ a, P (.ref a) ((a, .pls (xs ++ ys)) :: W)) : Op w hb L k m R .Add (.ref l) (.ref b) W P := fun va vb ea eb A s Q E r S hQ => by
  have := av_ref ea
  subst this
  have := av_ref eb
  subst this
  obtain ⟨us, ⟨⟨cls, dd, data, sl⟩, hob, hc, n, hd⟩, e⟩ := S.isList hl ho
  obtain ⟨us', ⟨⟨cls', dd', data', sl'⟩, hob', hc', n', hd'⟩, e'⟩ := S.isList hb' ho'
  have hn := av_len e
  have hn' := av_len e'
  simp only at hc hd hc' hd'
  subst hc hd hc' hd'
  refine concat_meets ⟨_, hob, rfl⟩ ⟨_, hob', rfl⟩ noFill_list_add seq_list_add PySem.F.slot_list_add PySem.F.entry_list_add (PySem.F.args_list_add_2 _ _)
    (list_addW l b us.toArray us'.toArray n n' dd dd' sl sl' (by simpa [hn, hn'] using hsz)) ⟨hob, hob', ?_⟩
  have hk : ∀ c o', s.heap.get? c = some o' → (s.heap.push { cls := .type "list", data := .seq (us ++ us').toArray }).get? c = some o' := fun c o' e => Heap.get?_push_of_some _ e
  rw [show us.toArray ++ us'.toArray = (us ++ us').toArray by simp]
  exact hQ _ _ _ _ s.toks rfl (h _) (S.addW hk (get_size _) ⟨us ++ us', 0, Heap.get?_push_size _ rfl, by simp [e, e']⟩) (Stp.addW hk (get_size _))

theorem foldl_replicate_one (v : Value) : ∀ (n : Nat) (acc : List Value), (List.replicate n #[v]).foldl (fun x1 x2 => x1 ++ x2) acc.toArray = (acc ++ List.replicate n v).toArray
  | 0, acc => by simp
  | n + 1, acc => by
    rw [List.replicate_succ, List.foldl_cons, show acc.toArray ++ #[v] = (acc ++ [v]).toArray by simp, foldl_replicate_one v n (acc ++ [v])]
    simp [List.replicate_succ]

theorem op_rep {l : Addr} {a : AV} {x : Int} (hl : (l, .pls [a]) ∈ R ++ W) (hlo : -(2 ^ 63) ≤ x) (hsz : x ≤ 2 ^ 20)
    (h : ∀ c, P (.ref c) ((c, .pls (List.replicate x.toNat a)) :: W)) : Op w hb L k m R .Mult (.ref l) (.int x) W P := fun va vb ea eb A s Q E r S hQ => by
  have := av_ref ea
  subst this
  obtain ⟨u, rfl⟩ := av_int eb
  obtain ⟨us, n, hob, e⟩ := S.get hl
  obtain ⟨v, rfl, ev⟩ := av1 e
  refine wpAny_binaryOp_repeat_ref (T := "list") (U := "int") (by decide) ⟨_, hob, rfl⟩ (fun s' => typeIs_int s' x u) noFill_list_mul PySem.F.fills_int_mul PySem.F.slot_int_rmul repeat_list PySem.F.slot_int_index.lookup
    (call_meets PySem.F.slot_int_rmul (typeIs_int s x u) PySem.F.entry_int_rmul (PySem.F.args_int_rmul_2 _ _) (int___rmul___int_list x u l [v].toArray n)
      ⟨hob, rfl, ⟨_, hob, rfl⟩, call_meets PySem.F.slot_list_mul ⟨_, hob, rfl⟩ PySem.F.entry_list_mul (PySem.F.args_list_mul_2 _ _)
        (AutoListH.list___mul___list_int_3 l [v].toArray n x u (by simp [Builtin.List.listFitsIndex]; omega) (by simp; omega) (by simp [Builtin.List.listTooLong, sizeLine]; omega))
        ⟨hob, ?_⟩⟩)
  have hk : ∀ (ob : Obj) c o', s.heap.get? c = some o' → (s.heap.push ob).get? c = some o' := fun ob c o' e => Heap.get?_push_of_some _ e
  have hf : List.foldl (fun x1 x2 => x1 ++ x2) #[] (List.replicate (if [v].toArray.isEmpty = true then 0 else x.toNat) [v].toArray) = (List.replicate x.toNat v).toArray := by
    have := foldl_replicate_one v x.toNat []
    simpa using this
  rw [hf]
  exact hQ _ _ _ _ s.toks rfl (h _) (S.addW (hk _) (get_size _) ⟨List.replicate x.toNat v, 0, Heap.get?_push_size _ rfl, by simp [ev]⟩) (Stp.addW (hk _) (get_size _))

section
variable {PB : Bool → Led → Prop}
theorem cmp_eqL {l b : Addr} {o o' : AO} {xs ys : List Int} (hl : (l, o) ∈ R ++ W) (ho : o.lx = some (Ints xs)) (hb' : (b, o') ∈ R ++ W) (ho' : o'.lx = some (Ints ys)) (h : PB (decide (xs = ys)) W) : Cmp w hb L k m R .Eq (.ref l) (.ref b) W PB := fun va vb ea eb A s Q E r S hQ => by
  have := av_ref ea
  subst this
  have := av_ref eb
  subst this
  obtain ⟨us, hu, e⟩ := S.isList hl ho
  obtain ⟨us', hu', e'⟩ := S.isList hb' ho'
  exact ke_eq_ints hu hu' (ints_are e) (ints_are e') r.units (hQ _ _ W s.heap s.toks rfl ⟨_, rfl, h⟩ S .self)
theorem cmp_neL {l b : Addr} {o o' : AO} {xs ys : List Int} (hl : (l, o) ∈ R ++ W) (ho : o.lx = some (Ints xs)) (hb' : (b, o') ∈ R ++ W) (ho' : o'.lx = some (Ints ys)) (h : PB (!decide (xs = ys)) W) : Cmp w hb L k m R .NotEq (.ref l) (.ref b) W PB := fun va vb ea eb A s Q E r S hQ => by
  have := av_ref ea
  subst this
  have := av_ref eb
  subst this
  obtain ⟨us, hu, e⟩ := S.isList hl ho
  obtain ⟨us', hu', e'⟩ := S.isList hb' ho'
  exact ke_ne_ints hu hu' (ints_are e) (ints_are e') r.units (hQ _ _ W s.heap s.toks rfl ⟨_, rfl, h⟩ S .self)
theorem cmp_eqB {x y : Bool} (h : PB (x == y) W) : Cmp w hb L k m R .Eq (.bool x) (.bool y) W PB := fun va vb ea eb A s Q E r S hQ => by
  have := av_bool ea
  subst this
  have := av_bool eb
  subst this
  exact eq_bool (hQ _ _ W s.heap s.toks rfl ⟨_, rfl, h⟩ S .self)
theorem cmp_neB {x y : Bool} (h : PB (x != y) W) : Cmp w hb L k m R .NotEq (.bool x) (.bool y) W PB := fun va vb ea eb A s Q E r S hQ => by
  have := av_bool ea
  subst this
  have := av_bool eb
  subst this
  exact ne_bool (hQ _ _ W s.heap s.toks rfl ⟨_, rfl, h⟩ S .self)
end

/-! and, as a value -/
theorem ev_and1 {x : Expr} {pos : Pos} (h : Ev w hb L k m R (eval x env) W P) : Ev w hb L k m R (eval (.BoolOp .And [x] pos) env) W P := h
theorem ev_and2 {x y : Expr} {rest : List Expr} {pos : Pos}
    (h : Ev w hb L k m R (eval x env) W (KAnd2 w hb L k m R env P (.BoolOp .And (y :: rest) pos))) :
    Ev w hb L k m R (eval (.BoolOp .And (x :: y :: rest) pos) env) W P := fun A s Q E r S hQ => by
  show wpAny _ A (boolOp pos .And (eval x env :: eval y env :: evalEach rest env)) Q E s
  unfold boolOp
  refine wpAny_bind (h A s _ E r S fun v a W₁ h₁ tk e p S₁ st => wpAny_bind (wpAny_standAt ?_))
  obtain ⟨b, rfl, p1, p2⟩ := p
  have := av_bool e
  subst this
  refine wpAny_bind (wpAny_holding (wpAny_truthy_bool ?_))
  cases b with
  | false => exact wpAny_pure (hQ _ _ W₁ h₁ tk rfl (p1 rfl) S₁ st)
  | true => exact p2 rfl A _ Q E r S₁ fun v₂ a₂ W₂ h₂ tk₂ e₂ p₂ S₂ st₂ => hQ v₂ a₂ W₂ h₂ tk₂ e₂ p₂ S₂ (st.ev st₂)
end
end

section
theorem ofStr_inj {x y : String} (h : Str.ofString x = Str.ofString y) : x = y := by
  rw [Str.ofString_eq_toList, Str.ofString_eq_toList] at h
  have h1 : x.toList.map Char.toNat = y.toList.map Char.toNat := by
    have := congrArg (fun s : Str => s.cps.toList) h
    simpa using this
  have h2 : x.toList = y.toList := by
    have inj : ∀ (a b : List Char), a.map Char.toNat = b.map Char.toNat → a = b := by
      intro a
      induction a with
      | nil => intro b h; cases b with
        | nil => rfl
        | cons _ _ => simp at h
      | cons c a ih => intro b h; cases b with
        | nil => simp at h
        | cons d b =>
          simp only [List.map_cons, List.cons.injEq] at h
          rw [Char.toNat_inj.mp h.1, ih b h.2]
    exact inj _ _ h1
  exact String.toList_inj.mp h2

/-- what may be forgotten of the stores -/
structure Sub (W' W : Led) : Prop where
  mem : ∀ p ∈ W', p ∈ W
  nd : (W.map (·.1)).Nodup → (W'.map (·.1)).Nodup
theorem Sub.refl {W : Led} : Sub W W := ⟨fun _ h => h, id⟩
theorem Sub.of_sublist {W' W : Led} (h : W'.Sublist W) : Sub W' W := ⟨fun _ hp => h.subset hp, fun hn => hn.sublist (h.map _)⟩
theorem Sub.of_perm {W' W : Led} (h : W'.Perm W) : Sub W' W := ⟨fun _ hp => h.subset hp, fun hn => ((h.map _).nodup_iff).mpr hn⟩
theorem Sub.trans {W₁ W₂ W₃ : Led} (h : Sub W₁ W₂) (h' : Sub W₂ W₃) : Sub W₁ W₃ := ⟨fun p hp => h'.mem p (h.mem p hp), fun hn => h.nd (h'.nd hn)⟩

/-- one of the stores, and the others -/
inductive Pick : Led → (Addr × AO) → Led → Prop where
  | here {e : Addr × AO} {W : Led} : Pick (e :: W) e W
  | there {x e : Addr × AO} {W W₀ : Led} : Pick W e W₀ → Pick (x :: W) e (x :: W₀)
theorem Pick.perm : ∀ {W W₀ : Led} {e : Addr × AO}, Pick W e W₀ → W.Perm (e :: W₀)
  | _, _, _, .here => .refl _
  | _, _, _, .there h => ((h.perm).cons _).trans (.swap _ _ _)
theorem Pick.app {N : Led} : ∀ {W W₀ : Led} {e : Addr × AO}, Pick W e W₀ → ∀ N : Led, Pick (N ++ W) e (N ++ W₀)
  | _, _, _, h, [] => h
  | _, _, _, h, x :: N => .there (Pick.app (N := N) h N)

section
variable {w : World} {hb : Heap} {L : Addr} {k : Nat} {m m' : Vars} {R W W' : Led} {env : Env} {h h' : Heap}

theorem Sta.sub (S : Sta hb L m R W h) (hm : ∀ p ∈ m', p ∈ m) (hw : Sub W' W) : Sta hb L m' R W' h := S.drop hm hw.mem (hw.nd S.nd)
theorem Sta.keepBut (S : Sta hb L m R W h) {X : List Addr} (hk : ∀ b o, b ∉ X → h.get? b = some o → h'.get? b = some o)
    (hX : ∀ b ∈ X, hb.get? b = none ∧ b ≠ L ∧ b ∉ R.map (·.1) ∧ b ∉ W.map (·.1)) : Sta hb L m R W h' where
  bs := fun b o e => hk b o (fun q => by have := (hX b q).1; rw [e] at this; cases this) (S.bs b o e)
  hl := S.hl
  ns := by
    obtain ⟨M, ⟨o, es, ep, e, r⟩, hM⟩ := S.ns
    exact ⟨M, ⟨o, es, ep, hk _ _ (fun q => (hX _ q).2.1 rfl) e, r⟩, hM⟩
  rd := fun p hp => ⟨AO.at_mono (S.rd p hp).1 fun b e => hk _ b (fun q => (hX _ q).2.2.1 (List.mem_map.mpr ⟨p, hp, rfl⟩)) e, (S.rd p hp).2⟩
  wr := fun p hp => ⟨AO.at_mono (S.wr p hp).1 fun b e => hk _ b (fun q => (hX _ q).2.2.2 (List.mem_map.mpr ⟨p, hp, rfl⟩)) e, (S.wr p hp).2⟩
  nd := S.nd

theorem Sta.set (S : Sta hb L m R W h) {x : String} {a : AV} {v : Value} (ea : av v = some a) {M : Str → Option Value} (hM : ∀ p ∈ m, ∃ v, M (Str.ofString p.1) = some v ∧ av v = some p.2)
    (hn : h'.Ns L (fun y => if y = Str.ofString x then some v else M y)) (hs : Heap.SameBut L h h') : Sta hb L (vset m x a) R W h' where
  bs := fun b o e => (hs.2 b (fun q => by have := S.hl; rw [← q, e] at this; cases this)).trans (S.bs b o e)
  hl := S.hl
  ns := by
    refine ⟨_, hn, fun p hp => ?_⟩
    rcases List.mem_cons.mp hp with rfl | hp
    · exact ⟨v, by simp, ea⟩
    · obtain ⟨hp, hx⟩ := List.mem_filter.mp hp
      obtain ⟨u, h1, h2⟩ := hM p hp
      refine ⟨u, ?_, h2⟩
      rw [if_neg]
      · exact h1
      · intro e
        have := ofStr_inj e
        simp [this] at hx
  rd := fun p hp => ⟨AO.at_mono (S.rd p hp).1 fun b e => (hs.2 _ (S.rd p hp).2.1).trans e, (S.rd p hp).2⟩
  wr := fun p hp => ⟨AO.at_mono (S.wr p hp).1 fun b e => (hs.2 _ (S.wr p hp).2.1).trans e, (S.wr p hp).2⟩
  nd := S.nd

theorem Stp.ofSame {W : Led} (hs : Heap.SameBut L h h') : Stp (L :: W.map (·.1)) h W h' :=
  ⟨fun b o hb e => (hs.2 b (fun q => hb (q ▸ .head _))).trans e, fun a ha => .inl (.tail _ ha)⟩

theorem sto_local {x : String} {v : Value} {a : AV} {A : Around} {s : Shared} {Q : Unit → Shared → Prop} {E : Value → Shared → Prop}
    (hL : env.locals = L) (hk : env.scope.kind = .function) (hl : env.kindOf (Str.ofString x) = some .local) (S : Sta hb L m R W s.heap) (ea : av v = some a)
    (hQ : ∀ h' tk, Sta hb L (vset m x a) R W h' → Stp (L :: W.map (·.1)) s.heap W h' → (∀ b, b ≠ L → h'.get? b = s.heap.get? b) → Q () { s with heap := h', toks := tk }) :
    wpAny (model PG w) A (storeName env (Str.ofString x) v) Q E s := by
  obtain ⟨M, hn, hM⟩ := S.ns
  subst hL
  exact wpAny_storeName_local hl hn (fun h' hn' hs => hQ h' _ (S.set ea hM hn' hs) (.ofSame hs) hs.2) (by simp [hk])
end

section
variable {w : World} {hb : Heap} {L : Addr} {k : Nat} {m m' : Vars} {R W W' : Led} {env : Env} {P : FL → Vars → Led → Prop} {rest : List Stmt}

/-! the rest of a block -/
def seqP (w : World) (hb : Heap) (L : Addr) (k : Nat) (R : Led) (env : Env) (rest : List Stmt) (P : FL → Vars → Led → Prop) : FL → Vars → Led → Prop
  | .next, m, W => Ex w hb L k R (execs rest env) m W P
  | .ret a, m, W => P (.ret a) m W
theorem seq_next (h : Ex w hb L k R (execs rest env) m W P) : seqP w hb L k R env rest P .next m W := h
theorem seq_ret {a : AV} (h : P (.ret a) m W) : seqP w hb L k R env rest P (.ret a) m W := h

theorem exs_nil (h : P .next m W) : Ex w hb L k R (execs [] env) m W P :=
  fun A s Q E r S hQ => wpAny_execs_nil (hQ .next .next m W s.heap s.toks rfl h S .selfL)
theorem exs_of {st : Stmt} (h : Ex w hb L k R (exec st env) m W (seqP w hb L k R env rest P)) : Ex w hb L k R (execs (st :: rest) env) m W P :=
  fun A s Q E r S hQ => wpAny_execs_cons (h A s _ E r S fun v a m₁ W₁ h₁ tk e p S₁ st => by
    cases a with
    | next =>
      have : v = .next := by
        cases v with
        | next => rfl
        | ret v => simp [fl] at e
        | _ => simp [fl] at e
      subst this
      exact p A _ Q E r S₁ fun v₂ a₂ m₂ W₂ h₂ tk₂ e₂ p₂ S₂ st₂ => hQ v₂ a₂ m₂ W₂ h₂ tk₂ e₂ p₂ S₂ (st.ex2 st₂)
    | ret a =>
      have : ∃ u, v = .ret u := by
        cases v with
        | ret u => exact ⟨u, rfl⟩
        | _ => simp [fl] at e
      obtain ⟨u, rfl⟩ := this
      exact hQ _ _ m₁ W₁ h₁ tk e p S₁ st)

theorem ex_ret {e : Expr} {pos : Pos} (h : Ev w hb L k m R (eval e env) W (KRet m P)) : Ex w hb L k R (exec (.Return (some e) pos) env) m W P :=
  fun A s Q E r S hQ => wpAny_Return_some (h A s _ E r S fun v a W₁ h₁ tk e p S₁ st => hQ (.ret v) (.ret a) m W₁ h₁ tk (by simp [fl, e]) p S₁ st.up)
theorem exs_ret {e : Expr} {pos : Pos} (h : Ev w hb L k m R (eval e env) W (KRet m P)) : Ex w hb L k R (execs (.Return (some e) pos :: rest) env) m W P :=
  exs_of (ex_ret h)

theorem ex_assign {x : String} {e : Expr} {p' pos : Pos} (hL : env.locals = L) (hk : env.scope.kind = .function) (hl : env.kindOf (Str.ofString x) = some .local)
    (hs : swapsWith e (some (.Name (Str.ofString x) p')) pos.line env = pure false)
    (h : Ev w hb L k m R (eval e env) W fun a W₁ => P .next (vset m x a) W₁) : Ex w hb L k R (exec (.Assign [.Name (Str.ofString x) p'] e pos) env) m W P :=
  fun A s Q E r S hQ => wpAny_Assign_Name (h A s _ E r S fun v a W₁ h₁ tk e p S₁ st => sto_local hL hk hl S₁ e fun h' tk S₂ st₂ _ => hQ _ _ _ W₁ h' tk rfl p S₂ (st.ex st₂)) hs
theorem exs_assign {x : String} {e : Expr} {p' pos : Pos} (hL : env.locals = L) (hk : env.scope.kind = .function) (hl : env.kindOf (Str.ofString x) = some .local)
    (hs : swapsWith e (some (.Name (Str.ofString x) p')) pos.line env = pure false)
    (h : Ev w hb L k m R (eval e env) W (KAsg w hb L k m R env P rest x)) : Ex w hb L k R (execs (.Assign [.Name (Str.ofString x) p'] e pos :: rest) env) m W P :=
  exs_of (ex_assign hL hk hl hs h)

theorem ex_if {test : Expr} {body orelse : List Stmt} {pos : Pos}
    (h : EvB w hb L k m R (isTrue test env (eval test env)) W fun b W₁ => (b = true → Ex w hb L k R (execs body env) m W₁ P) ∧ (b = false → Ex w hb L k R (execs orelse env) m W₁ P)) :
    Ex w hb L k R (exec (.If test body orelse pos) env) m W P :=
  fun A s Q E r S hQ => wpAny_If (h A s _ E r S fun b W₁ h₁ tk p S₁ st => by
    cases b with
    | true => rw [if_pos rfl]; exact p.1 rfl A _ Q E r S₁ fun v₂ a₂ m₂ W₂ h₂ tk₂ e₂ p₂ S₂ st₂ => hQ v₂ a₂ m₂ W₂ h₂ tk₂ e₂ p₂ S₂ (st.ex st₂)
    | false => rw [if_neg Bool.false_ne_true]; exact p.2 rfl A _ Q E r S₁ fun v₂ a₂ m₂ W₂ h₂ tk₂ e₂ p₂ S₂ st₂ => hQ v₂ a₂ m₂ W₂ h₂ tk₂ e₂ p₂ S₂ (st.ex st₂))
theorem exs_if {test : Expr} {body : List Stmt} {pos : Pos}
    (h : EvB w hb L k m R (isTrue test env (eval test env)) W (KIf w hb L k m R env P rest body (seqP w hb L k R env rest P))) :
    Ex w hb L k R (execs (.If test body [] pos :: rest) env) m W P :=
  exs_of (ex_if (EvB.mono h fun b W₁ hp => ⟨hp.1, fun e => exs_nil (seq_next (hp.2 e))⟩))

/-- names and stores forgotten -/
theorem ex_sub (hm : ∀ p ∈ m', p ∈ m) (hw : Sub W' W) {t : Sem Flow} (h : Ex w hb L k R t m' W' P) : Ex w hb L k R t m W P :=
  fun A s Q E r S hQ => (Ex.weak h hm hw.mem (hw.nd S.nd)) A s Q E r S hQ
/-- something that is only read in what follows -/
theorem ex_frame {e : Addr × AO} {t : Sem Flow} (h : Ex w hb L k (e :: R) t m W fun f m' W' => P f m' (e :: W')) : Ex w hb L k R t m (e :: W) P :=
  fun A s Q E r S hQ => by
    have Sw := S.wr e (.head _)
    have nd := List.nodup_cons.mp S.nd
    refine h A s Q E r { S with rd := fun p hp => ?_, wr := fun p hp => S.wr p (.tail _ hp), nd := nd.2 } fun v a m' W' h' tk ev p S' st => ?_
    · rcases List.mem_cons.mp hp with rfl | hp
      · exact ⟨Sw.1, Sw.2.1, nd.1⟩
      · have := S.rd p hp
        exact ⟨this.1, this.2.1, fun q => this.2.2 (.tail _ q)⟩
    · have R' := S'.rd e (.head _)
      refine hQ v a m' (e :: W') h' tk ev p { S' with rd := fun q hq => ?_, wr := fun q hq => ?_, nd := ?_ } ⟨fun b o hb' => st.keep b o fun q => hb' ?_, fun a ha => ?_⟩
      · have := S'.rd q (.tail _ hq)
        refine ⟨this.1, this.2.1, fun z => ?_⟩
        rcases List.mem_cons.mp z with z | z
        · exact (S.rd q hq).2.2 (z ▸ .head _)
        · exact this.2.2 z
      · rcases List.mem_cons.mp hq with rfl | hq
        · exact ⟨R'.1, R'.2.1, Sw.2.2⟩
        · exact S'.wr q hq
      · exact List.nodup_cons.mpr ⟨R'.2.2, S'.nd⟩
      · rcases List.mem_cons.mp q with q | q
        · exact q ▸ .head _
        · exact .tail _ (.tail _ q)
      · rcases List.mem_cons.mp ha with rfl | ha
        · exact .inl (.tail _ (.head _))
        · refine (st.fresh a ha).imp (fun q => ?_) id
          rcases List.mem_cons.mp q with q | q
          · exact q ▸ .head _
          · exact .tail _ (.tail _ q)
/-- the ground's own things may be read -/
theorem ex_ground {e : Addr × AO} {t : Sem Flow} (he : e.2.at hb e.1) (h : Ex w hb L k (e :: R) t m W P) : Ex w hb L k R t m W P :=
  fun A s Q E r S hQ => by
    refine h A s Q E r { S with rd := fun p hp => ?_ } fun v a m' W' h' tk ev p S' st => hQ v a m' W' h' tk ev p { S' with rd := fun q hq => S'.rd q (.tail _ hq) } st
    rcases List.mem_cons.mp hp with rfl | hp
    · obtain ⟨o, ho⟩ := AO.at_some he
      refine ⟨AO.at_mono he fun b e => S.bs _ _ e, fun q => ?_, fun q => ?_⟩
      · have := S.hl; rw [← q, ho] at this; cases this
      · obtain ⟨p', hp', e'⟩ := List.mem_map.mp q
        have := (S.wr p' hp').2.2
        rw [e', ho] at this; cases this
    · exact S.rd p hp

/-! a loop with a test -/
def turnP (J : Vars → Led → Prop) (P : FL → Vars → Led → Prop) : FL → Vars → Led → Prop
  | .next, m, W => ∃ m' W', (∀ p ∈ m', p ∈ m) ∧ Sub W' W ∧ J m' W'
  | .ret a, m, W => P (.ret a) m W
theorem turn_next {J : Vars → Led → Prop} (hm : ∀ p ∈ m', p ∈ m) (hw : Sub W' W) (h : J m' W') : turnP J P .next m W := ⟨m', W', hm, hw, h⟩
theorem turn_ret {J : Vars → Led → Prop} {a : AV} (h : P (.ret a) m W) : turnP J P (.ret a) m W := h

theorem Stp.sub {X : List Addr} {W₁ W₂ : Led} {h h' : Heap} (s : Stp X h W₁ h') (hw : Sub W₂ W₁) : Stp X h W₂ h' := s.drop hw.mem

abbrev KLess (I : Nat → Vars → Led → Prop) (n : Nat) : Vars → Led → Prop := fun m W => ∃ n', n' < n ∧ I n' m W

theorem exs_while (I : Nat → Vars → Led → Prop) {test : Expr} {body : List Stmt} {pos : Pos} {n : Nat} (hm : ∀ p ∈ m', p ∈ m) (hw : Sub W' W) (h0 : I n m' W')
    (turn : ∀ n m W, I n m W → EvB w hb L k m R (isTrue test env (eval test env)) W (KIf w hb L k m R env P rest body (turnP (KLess I n) P))) :
    Ex w hb L k R (execs (.While test body [] pos :: rest) env) m W P := by
  refine ex_sub hm hw ?_
  clear hm hw
  have key : Ex w hb L k R (exec (.While test body [] pos) env) m' W' (seqP w hb L k R env rest P) := fun A s Q E r S hQ => by
    refine wpAny_While (codeAny_whileLoop (fun n s' => ∃ h' tk m₁ W₁, s' = { s with heap := h', toks := tk } ∧ Sta hb L m₁ R W₁ h' ∧ I n m₁ W₁ ∧ Stp (L :: W'.map (·.1)) s.heap W₁ h') ?_ n ⟨s.heap, s.toks, m', W', rfl, S, h0, .selfL⟩)
    rintro n s' ⟨h₁, tk₁, m₁, W₁, rfl, S₁, hI, st₁⟩
    refine turn n m₁ W₁ hI A { s with heap := h₁, toks := tk₁ } _ _ r S₁ fun b W₂ h₂ tk₂ p₂ S₂ st₂ => ?_
    have st₂' : Stp (L :: W'.map (·.1)) s.heap W₂ h₂ := st₁.ex2 st₂.up
    cases b with
    | true =>
      rw [if_pos rfl]
      refine p₂.1 rfl A { s with heap := h₂, toks := tk₂ } _ _ r S₂ fun v a m₃ W₃ h₃ tk₃ e₃ p₃ S₃ st₃ => ?_
      have st₃' := st₂'.ex2 st₃
      cases a with
      | next =>
        have : v = .next := by
          cases v with
          | next => rfl
          | ret v => simp [fl] at e₃
          | _ => simp [fl] at e₃
        subst this
        obtain ⟨m₄, W₄, hm₄, hw₄, n', hn', hI'⟩ := p₃
        exact ⟨n', hn', h₃, tk₃, m₄, W₄, rfl, S₃.sub hm₄ hw₄, hI', st₃'.sub hw₄⟩
      | ret a =>
        have : ∃ u, v = .ret u := by
          cases v with
          | ret u => exact ⟨u, rfl⟩
          | _ => simp [fl] at e₃
        obtain ⟨u, rfl⟩ := this
        exact hQ (.ret u) (.ret a) m₃ W₃ h₃ tk₃ e₃ p₃ S₃ st₃'
    | false =>
      rw [if_neg Bool.false_ne_true]
      exact wpAny_execs_nil (hQ .next .next m₁ W₂ h₂ tk₂ rfl (p₂.2 rfl) S₂ st₂')
  exact exs_of key
end
end

section
/-- an iterator at work: its own objects are wr, what it looks at is fp; a turn does upd to the names -/
structure Itr (w : World) (hb : Heap) (env : Env) (L : Addr) (R : Led) (target : Expr) (it : Addr) (fp wr : List Addr) (n : Nat) (upd : Nat → Vars → Vars) (St : Nat → Heap → Prop) : Prop where
  sub : ∀ b ∈ wr, b ∈ fp
  frame : ∀ i h h', St i h → (∀ b ∈ fp, ∀ o, h.get? b = some o → h'.get? b = some o) → St i h'
  here : ∀ i h, St i h → ∀ b ∈ fp, ∃ o, h.get? b = some o
  item : ∀ (i : Nat) (A : Around) (s : Shared) (m : Vars) (W : Led) (Q : Unit → Shared → Prop) (E : Value → Shared → Prop), i < n → A.handled = none → St i s.heap → Sta hb L m R W s.heap →
    (∀ b ∈ wr, hb.get? b = none ∧ b ≠ L ∧ b ∉ R.map (·.1) ∧ b ∉ W.map (·.1)) → (∀ b ∈ fp, b ≠ L) →
    (∀ h' tk, Sta hb L (upd i m) R W h' → St (i + 1) h' → (∀ b o, b ≠ L → b ∉ wr → s.heap.get? b = some o → h'.get? b = some o) → Q () { s with heap := h', toks := tk }) →
    wpAny (model PG w) A (pyNext (.ref it)) (fun r s₁ => match r with
      | none => False
      | some v => wpAny (model PG w) A (letOwnedTupleGo target (.ref it) v) (fun _ s₁' => wpAny (model PG w) A (assign target env v) Q E s₁') E s₁) E s
  self : ∀ (i : Nat) (A : Around) (s : Shared) (Q : Value → Shared → Prop) (E : Value → Shared → Prop), A.handled = none → St i s.heap → Q (.ref it) s → wpAny (model PG w) A (pyIter (.ref it)) Q E s
  done : ∀ (A : Around) (s : Shared) (Q : Option Value → Shared → Prop) (E : Value → Shared → Prop), A.handled = none → St n s.heap →
    (∀ h' tk, (∀ b o, b ∉ wr → s.heap.get? b = some o → h'.get? b = some o) → Q none { s with heap := h', toks := tk }) → wpAny (model PG w) A (pyNext (.ref it)) Q E s

/-- what a for asks of what it goes over: W' is left of W to be stored into -/
def IterOf (w : World) (hb : Heap) (env : Env) (L : Addr) (R : Led) (target : Expr) (a : AV) (W W' : Led) (n : Nat) (upd : Nat → Vars → Vars) : Prop :=
  ∀ (A : Around) (s : Shared) (Q : Value → Shared → Prop) (E : Value → Shared → Prop) (v : Value) (m : Vars), av v = some a → A.handled = none → Sta hb L m R W s.heap →
    (∀ it fp wr St h' tk, Itr w hb env L R target it fp wr n upd St → St 0 h' → (∀ b o, s.heap.get? b = some o → h'.get? b = some o) → (∀ b ∈ wr, s.heap.get? b = none) →
      (∀ b ∈ fp, b ∈ wr ∨ (b ∉ W'.map (·.1) ∧ b ≠ L ∧ ∃ o, s.heap.get? b = some o)) → Sub W' W → Q (.ref it) { s with heap := h', toks := tk }) →
    wpAny (model PG w) A (pyIter v) Q E s

section
variable (w : World) (hb : Heap) (L : Addr) (k : Nat) (m : Vars) (R : Led) (env : Env) (P : FL → Vars → Led → Prop) (rest : List Stmt)
abbrev KIt (target : Expr) (K : Nat → (Nat → Vars → Vars) → Led → Prop) : AV → Led → Prop := fun a W => ∃ n upd W', IterOf w hb env L R target a W W' n upd ∧ K n upd W'
abbrev KFor (body : List Stmt) (J : Nat → Vars → Led → Prop) : Nat → (Nat → Vars → Vars) → Led → Prop := fun n upd W => ∃ (m' : Vars) (W' : Led), (∀ p ∈ m', p ∈ m) ∧ Sub W' W ∧ J 0 m' W' ∧
      (∀ i m W, i < n → J i m W → Ex w hb L k R (execs body env) (upd i m) W (turnP (J (i + 1)) P)) ∧ (∀ m W, J n m W → Ex w hb L k R (execs rest env) m W P)
abbrev KForJ (body : List Stmt) : Nat → (Nat → Vars → Vars) → Led → Prop := fun n upd W => ∃ J : Nat → Vars → Led → Prop, KFor w hb L k m R env P rest body J n upd W
end
section
variable {w : World} {hb : Heap} {L : Addr} {k : Nat} {m m' : Vars} {R W W' : Led} {env : Env} {P : FL → Vars → Led → Prop} {rest : List Stmt}

theorem for_core {target : Expr} {body : List Stmt} {it : Addr} {fp wr : List Addr} {n : Nat} {upd : Nat → Vars → Vars} {St : Nat → Heap → Prop} {J : Nat → Vars → Led → Prop}
    {A : Around} {s : Shared} {W₀ W₁ : Led} {h₀ : Heap} {Rr : Result → Shared → Prop} {P' : FL → Vars → Led → Prop}
    (T : Itr w hb env L R target it fp wr n upd St) (r : Room A k) (S : Sta hb L m R W₁ s.heap) (hst : St 0 s.heap) (hJ : J 0 m W₁)
    (hwr : ∀ b ∈ wr, h₀.get? b = none ∧ hb.get? b = none ∧ b ≠ L ∧ b ∉ R.map (·.1)) (hfp : ∀ b ∈ fp, b ≠ L ∧ b ∉ W₁.map (·.1))
    (hold : ∀ b o, h₀.get? b = some o → s.heap.get? b = some o) (hfr : Stp (L :: W₀.map (·.1)) h₀ W₁ s.heap)
    (turn : ∀ i m W, i < n → J i m W → Ex w hb L k R (execs body env) (upd i m) W (turnP (J (i + 1)) P'))
    (hnext : ∀ m W h' tk, J n m W → Sta hb L m R W h' → Stp (L :: W₀.map (·.1)) h₀ W h' → Rr (.ok .next) { s with heap := h', toks := tk })
    (hret : ∀ v a m W h' tk, av v = some a → P' (.ret a) m W → Sta hb L m R W h' → Stp (L :: W₀.map (·.1)) h₀ W h' → Rr (.ok (.ret v)) { s with heap := h', toks := tk }) :
    codeAny (model PG w) A (.forLoop target (.ref it) body [] env) Rr s := by
  refine codeAny_forLoop_any (fun j s' => ∃ h' tk m₁ W₁ i, s' = { s with heap := h', toks := tk } ∧ Sta hb L m₁ R W₁ h' ∧ J i m₁ W₁ ∧ St i h' ∧ i ≤ n ∧ j = n + 1 - i ∧ (∀ b ∈ fp, b ∉ W₁.map (·.1)) ∧ Stp (L :: W₀.map (·.1)) h₀ W₁ h') ?_ (n + 1)
    ⟨s.heap, s.toks, m, W₁, 0, rfl, S, hJ, hst, Nat.zero_le _, rfl, fun b hb => (hfp b hb).2, hfr⟩
  rintro j s' ⟨h₁, tk₁, m₁, W₂, i, rfl, S₁, hJ₁, st₁, hi, rfl, hap, sp₁⟩
  by_cases hlt : i < n
  · have key := fun (Qb : Flow → Shared → Prop) (Eb Et : Value → Shared → Prop) => T.item i A { s with heap := h₁, toks := tk₁ } m₁ W₂ (fun _ s₂ => wpAny (model PG w) A (execs body env) Qb Eb s₂) Et hlt r.hh st₁ S₁
      (fun b hb => ⟨(hwr b hb).2.1, (hwr b hb).2.2.1, (hwr b hb).2.2.2, hap b (T.sub b hb)⟩) (fun b hb => (hfp b hb).1)
    refine wpAny_mono (key _ _ _ ?body) (fun rr s₁ h => by
      cases rr with
      | none => exact h.elim
      | some v => exact h) (fun _ _ e => e)
    case body =>
      refine fun h₂ tk₂ S₂ st₂ k₂ => turn i m₁ W₂ hlt hJ₁ A { s with heap := h₂, toks := tk₂ } _ _ r S₂ fun v a m₃ W₃ h₃ tk₃ e₃ p₃ S₃ sp₃ => ?_
      have k₂' : Stp (L :: W₀.map (·.1)) h₀ W₂ h₂ := ⟨fun b o hb' e => k₂ b o (fun q => hb' (q ▸ .head _)) (fun q => by rw [(hwr b q).1] at e; cases e) (sp₁.keep b o hb' e), sp₁.fresh⟩
      have sp₃' : Stp (L :: W₀.map (·.1)) h₀ W₃ h₃ := k₂'.ex2 sp₃
      have hap₃ : ∀ b ∈ fp, b ∉ W₃.map (·.1) := fun b hb' q => by
        rcases sp₃.fresh b q with z | z
        · rcases List.mem_cons.mp z with z | z
          · exact (hfp b hb').1 z
          · exact hap b hb' z
        · obtain ⟨o, ho⟩ := T.here _ _ st₂ b hb'
          have z' : h₂.get? b = none := z
          rw [z'] at ho; cases ho
      cases a with
      | next =>
        have : v = .next := by
          cases v with
          | next => rfl
          | ret v => simp [fl] at e₃
          | _ => simp [fl] at e₃
        subst this
        obtain ⟨m₄, W₄, hm₄, hw₄, hJ₄⟩ := p₃
        refine ⟨n + 1 - (i + 1), Nat.sub_lt_sub_left (Nat.lt_succ_of_lt hlt) (Nat.lt_succ_self i), h₃, tk₃, m₄, W₄, i + 1, rfl, S₃.sub hm₄ hw₄, hJ₄, T.frame _ _ _ st₂ (fun b hb' o e => sp₃.keep b o (fun q => ?_) e), hlt, rfl, fun b hb' q => ?_, sp₃'.sub hw₄⟩
        · rcases List.mem_cons.mp q with q | q
          · exact (hfp b hb').1 q
          · exact hap b hb' q
        · obtain ⟨p, hp, e⟩ := List.mem_map.mp q
          exact hap₃ b hb' (List.mem_map.mpr ⟨p, hw₄.mem p hp, e⟩)
      | ret a =>
        have : ∃ u, v = .ret u := by
          cases v with
          | ret u => exact ⟨u, rfl⟩
          | _ => simp [fl] at e₃
        obtain ⟨u, rfl⟩ := this
        exact hret u a m₃ W₃ h₃ tk₃ (by simpa [fl] using e₃) p₃ S₃ sp₃'
  · have : i = n := Nat.le_antisymm hi (Nat.not_lt.mp hlt)
    subst this
    refine T.done A { s with heap := h₁, toks := tk₁ } _ _ r.hh st₁ fun h₂ tk₂ k₂ => ?_
    show wpAny _ _ _ _ _ _
    refine wpAny_execs_nil (hnext m₁ W₂ h₂ tk₂ hJ₁ (S₁.keepBut k₂ fun b hb' => ⟨(hwr b hb').2.1, (hwr b hb').2.2.1, (hwr b hb').2.2.2, hap b (T.sub b hb')⟩)
      ⟨fun b o hb' e => k₂ b o (fun q => by rw [(hwr b q).1] at e; cases e) (sp₁.keep b o hb' e), sp₁.fresh⟩)

/-- what a for goes over, reckoned -/
def IterE (w : World) (hb : Heap) (env : Env) (L : Addr) (k : Nat) (R : Led) (target iter : Expr) (m : Vars) (W : Led) (K : Nat → (Nat → Vars → Vars) → Led → Prop) : Prop :=
  ∀ (A : Around) (s : Shared) (Q : Value → Shared → Prop) (E : Value → Shared → Prop), Room A k → Sta hb L m R W s.heap →
    (∀ n upd W₁ W₂ h₁ it fp wr St h₂ tk, K n upd W₂ → Sta hb L m R W₁ h₁ → Stp (W.map (·.1)) s.heap W₁ h₁ → Itr w hb env L R target it fp wr n upd St → St 0 h₂ → (∀ b o, h₁.get? b = some o → h₂.get? b = some o) →
      (∀ b ∈ wr, h₁.get? b = none) → (∀ b ∈ fp, b ∈ wr ∨ (b ∉ W₂.map (·.1) ∧ b ≠ L ∧ ∃ o, h₁.get? b = some o)) → Sub W₂ W₁ → Q (.ref it) { s with heap := h₂, toks := tk }) →
    wpAny (model PG w) A (eval iter env) (fun v s₁ => wpAny (model PG w) A (pyIter v) Q E s₁) E s

theorem iterE_of {target iter : Expr} {K : Nat → (Nat → Vars → Vars) → Led → Prop} (h : Ev w hb L k m R (eval iter env) W (KIt w hb L R env target K)) :
    IterE w hb env L k R target iter m W K := fun A s Q E r S hQ => h A s _ E r S fun v a W₁ h₁ tk₁ e₁ p₁ S₁ st₁ => by
  obtain ⟨n, upd, W₂, hit, hK⟩ := p₁
  exact hit A { s with heap := h₁, toks := tk₁ } _ _ v m e₁ r.hh S₁ fun it fp wr St h₂ tk₂ T st₂ k₂ hwr hfp hsub => hQ n upd W₁ W₂ h₁ it fp wr St h₂ tk₂ hK S₁ st₁ T st₂ k₂ hwr hfp hsub

theorem exs_forJ {target iter : Expr} {body : List Stmt} {pos : Pos} (hs : ∀ x, foldedSetIterable iter env x = pure x)
    (h : IterE w hb env L k R target iter m W (KForJ w hb L k m R env P rest body)) :
    Ex w hb L k R (execs (.For target iter body [] pos :: rest) env) m W P := by
  refine exs_of fun A s Q E r S hQ => wpAny_For (h A s _ E r S fun n upd W₁ W₂ h₁ it fp wr St h₂ tk₂ hK S₁ st₁ T st₂ k₂ hwr hfp hsub => ?_) hs
  obtain ⟨J, m', W', hm, hw, hJ, turn, hrest⟩ := hK
  have hW : Sub W' W₁ := hw.trans hsub
  have S₂ : Sta hb L m' R W' h₂ := (S₁.grow k₂).sub hm hW
  refine for_core (h₀ := h₁) (W₀ := W₁) (J := J) (P' := P) T r S₂ st₂ hJ (fun b hb' => ?_) (fun b hb' => ?_) k₂ ?_ turn
    (fun m₃ W₃ h₃ tk₃ hJ₃ S₃ sp₃ => hQ .next .next m₃ W₃ h₃ tk₃ rfl (seq_next (hrest m₃ W₃ hJ₃)) S₃ (st₁.ex sp₃))
    (fun v₃ a₃ m₃ W₃ h₃ tk₃ e₃ p₃ S₃ sp₃ => hQ (.ret v₃) (.ret a₃) m₃ W₃ h₃ tk₃ (by simp [fl, e₃]) (seq_ret p₃) S₃ (st₁.ex sp₃))
  · have hn := hwr b hb'
    have hap := S₁.apartR hn
    refine ⟨hn, ?_, hap.1, fun q => ?_⟩
    · cases e : hb.get? b with
      | none => rfl
      | some o => have := S₁.bs b o e; rw [hn] at this; cases this
    · obtain ⟨p, hp, e⟩ := List.mem_map.mp q
      obtain ⟨o, ho⟩ := AO.at_some (S₁.rd p hp).1
      rw [e, hn] at ho; cases ho
  · rcases hfp b hb' with q | q
    · have hap := S₁.apartR (hwr b q)
      refine ⟨hap.1, fun z => hap.2 ?_⟩
      obtain ⟨p, hp, e⟩ := List.mem_map.mp z
      exact List.mem_map.mpr ⟨p, hW.mem p hp, e⟩
    · refine ⟨q.2.1, fun z => q.1 ?_⟩
      obtain ⟨p, hp, e⟩ := List.mem_map.mp z
      exact List.mem_map.mpr ⟨p, hw.mem p hp, e⟩
  · refine ⟨fun b o _ e => k₂ b o e, fun a ha => .inl (.tail _ ?_)⟩
    obtain ⟨p, hp, e⟩ := List.mem_map.mp ha
    exact List.mem_map.mpr ⟨p, hW.mem p hp, e⟩
theorem exs_for (J : Nat → Vars → Led → Prop) {target iter : Expr} {body : List Stmt} {pos : Pos} (hs : ∀ x, foldedSetIterable iter env x = pure x)
    (h : IterE w hb env L k R target iter m W (KFor w hb L k m R env P rest body J)) :
    Ex w hb L k R (execs (.For target iter body [] pos :: rest) env) m W P :=
  exs_forJ hs fun A s Q E r S hQ => h A s Q E r S fun n upd W₁ W₂ h₁ it fp wr St h₂ tk hK => hQ n upd W₁ W₂ h₁ it fp wr St h₂ tk (by
    obtain ⟨m', W', x⟩ := hK
    exact ⟨J, m', W', x⟩)
end
end

section
section
variable {w : World} {hb : Heap} {L : Addr} {k : Nat} {m m' : Vars} {R W W' : Led} {env : Env} {P : FL → Vars → Led → Prop} {rest : List Stmt}

theorem av_one {vs : List Value} {a : AV} (e : vs.map av = [a].map some) : ∃ v, vs = [v] ∧ av v = some a := av1 e

theorem Itr.of_walks {I : Addr} {fp wr : List Addr} {n : Nat} {PV : Nat → Value → Prop} {St : Nat → Heap → Prop} {x : String} {px : Pos} (item : Nat → AV)
    (hL : env.locals = L) (hk : env.scope.kind = .function) (hl : env.kindOf (Str.ofString x) = some .local)
    (Wk : ∀ A : Around, A.handled = none → Walks PG w A I fp wr n PV St) (sub : ∀ b ∈ wr, b ∈ fp) (frame : ∀ i h h', St i h → (∀ b ∈ fp, ∀ o, h.get? b = some o → h'.get? b = some o) → St i h')
    (hP : ∀ i v, i < n → PV i v → av v = some (item i)) (here : ∀ i h, St i h → ∀ b ∈ fp, ∃ o, h.get? b = some o) :
    Itr w hb env L R (.Name (Str.ofString x) px) I fp wr n (fun i m => vset m x (item i)) St where
  sub := sub
  frame := frame
  here := here
  item := fun i A s m W Q E hi hh st S hwr hfp hQ => (Wk A hh).item i s _ E hi st fun v h' tk hp st' kp => by
    have S' := S.keepBut kp hwr
    show wpAny _ A (letOwnedTupleGo (.Name (Str.ofString x) px) (.ref I) v) _ E { s with heap := h', toks := tk }
    refine wpAny_of_eq (a := ()) rfl (wpAny_assign_Name (sto_local (s := { s with heap := h', toks := tk }) hL hk hl S' (hP i v hi hp) fun h'' tk' S'' _ k'' => ?_))
    exact hQ h'' tk' S'' (frame _ _ _ st' fun b hb' o e => (k'' b (hfp b hb')).trans e) fun b o hbL hbw e => (k'' b hbL).trans (kp b o hbw e)
  self := fun i A s Q E hh st hQ => (Wk A hh).self i s Q E st hQ
  done := fun A s Q E hh st hQ => (Wk A hh).done s Q E st hQ

/-- the next item, for a comprehension -/
def Nx (w : World) (hb : Heap) (env : Env) (R : Led) (x : String) (px : Pos) (it : Addr) (fp wr : List Addr) (n : Nat) (item : Nat → AV) (St : Nat → Heap → Prop) : Prop :=
  ∀ (i : Nat) (A : Around) (s : Shared) (m : Vars) (W : Led) (Q : Unit → Shared → Prop) (E : Value → Shared → Prop), i < n → A.handled = none → St i s.heap → Sta hb env.locals m R W s.heap →
    (∀ b ∈ wr, hb.get? b = none ∧ b ≠ env.locals ∧ b ∉ R.map (·.1) ∧ b ∉ W.map (·.1)) → (∀ b ∈ fp, b ≠ env.locals) →
    (∀ h' tk, Sta hb env.locals (vset m x (item i)) R W h' → St (i + 1) h' → (∀ b o, b ≠ env.locals → b ∉ wr → s.heap.get? b = some o → h'.get? b = some o) → Q () { s with heap := h', toks := tk }) →
    wpAny (model PG w) A (pyNext (.ref it)) (fun r s₁ => match r with
      | none => False
      | some v => wpAny (model PG w) A (assign (.Name (Str.ofString x) px) env v) Q E s₁) E s
theorem Nx.of_walks {I : Addr} {fp wr : List Addr} {n : Nat} {PV : Nat → Value → Prop} {St : Nat → Heap → Prop} {x : String} {px : Pos} (item : Nat → AV)
    (hk : env.scope.kind = .function) (hl : env.kindOf (Str.ofString x) = some .local)
    (Wk : ∀ A : Around, A.handled = none → Walks PG w A I fp wr n PV St) (frame : ∀ i h h', St i h → (∀ b ∈ fp, ∀ o, h.get? b = some o → h'.get? b = some o) → St i h')
    (hP : ∀ i v, i < n → PV i v → av v = some (item i)) : Nx w hb env R x px I fp wr n item St :=
  fun i A s m W Q E hi hh st S hwr hfp hQ => (Wk A hh).item i s _ E hi st fun v h' tk hp st' kp => by
    have S' := S.keepBut kp hwr
    show wpAny _ A (assign (.Name (Str.ofString x) px) env v) _ E { s with heap := h', toks := tk }
    refine wpAny_assign_Name (sto_local (s := { s with heap := h', toks := tk }) rfl hk hl S' (hP i v hi hp) fun h'' tk' S'' _ k'' => ?_)
    exact hQ h'' tk' S'' (frame _ _ _ st' fun b hb' o e => (k'' b (hfp b hb')).trans e) fun b o hbL hbw e => (k'' b hbL).trans (kp b o hbw e)

/-- what a loop over one name asks of what it goes over -/
def IterC (w : World) (hb : Heap) (L : Addr) (R : Led) (a : AV) (W W' : Led) (n : Nat) (item : Nat → AV) : Prop :=
  ∀ (A : Around) (s : Shared) (Q : Value → Shared → Prop) (E : Value → Shared → Prop) (v : Value) (m : Vars), av v = some a → A.handled = none → Sta hb L m R W s.heap →
    (∀ it fp wr St h' tk, (∀ (env : Env) (x : String) (px : Pos), env.scope.kind = .function → env.kindOf (Str.ofString x) = some .local →
        Itr w hb env env.locals R (.Name (Str.ofString x) px) it fp wr n (fun i m => vset m x (item i)) St ∧ Nx w hb env R x px it fp wr n item St) → St 0 h' → (∀ b o, s.heap.get? b = some o → h'.get? b = some o) → (∀ b ∈ wr, s.heap.get? b = none) →
      (∀ b ∈ fp, b ∈ wr ∨ (b ∉ W'.map (·.1) ∧ b ≠ L ∧ ∃ o, s.heap.get? b = some o)) → Sub W' W → Q (.ref it) { s with heap := h', toks := tk }) →
    wpAny (model PG w) A (pyIter v) Q E s
theorem IterC.of {a : AV} {n : Nat} {item : Nat → AV} {x : String} {px : Pos} (h : IterC w hb L R a W W' n item) (hL : env.locals = L) (hk : env.scope.kind = .function) (hl : env.kindOf (Str.ofString x) = some .local) :
    IterOf w hb env L R (.Name (Str.ofString x) px) a W W' n (fun i m => vset m x (item i)) := fun A s Q E v m ev hh S hQ =>
  h A s Q E v m ev hh S fun it fp wr St h' tk T => hQ it fp wr St h' tk (by subst hL; exact (T env x px hk hl).1)

/-- a list that is not stored into in the loop -/
theorem iter_list {l : Addr} {o : AO} {xs : List AV}
    (hm : (l, o) ∈ R ++ W) (ho : o.lx = some xs) (hsub : Sub W' W) (hap : ∀ (h : Heap) (m : Vars), Sta hb L m R W h → l ∉ W'.map (·.1)) :
    IterC w hb L R (.ref l) W W' xs.length (fun i => xs.getD i .none) := fun A s Q E v m ev hh S hQ => by
  have := av_ref ev
  subst this
  obtain ⟨vs, hl', e⟩ := S.isList hm ho
  have hne : l ≠ L := by
    rcases List.mem_append.mp hm with q | q
    · exact (S.rd _ q).2.1
    · exact (S.wr _ q).2.1
  refine wpAny_pyIter_list hl' ?_
  have hlt : ∀ b o, s.heap.get? b = some o → b ≠ s.heap.objs.size := fun b o e => Nat.ne_of_lt (Heap.lt_size e)
  obtain ⟨ol, hol, hol'⟩ := id hl'
  have hn := av_len e
  have kp : ∀ b o, s.heap.get? b = some o → (s.heap.push { cls := .type "list_iterator", data := .fields #[.ref l, .int 0 0] }).get? b = some o := fun b o e => Heap.get?_push_of_some _ e
  have wk : ∀ A : Around, A.handled = none → Walks PG w A s.heap.objs.size [s.heap.objs.size, l] [s.heap.objs.size] xs.length (fun i v => vs.toArray[i]? = some v) (fun i h => h.IsListIter s.heap.objs.size l i ∧ h.IsList l vs.toArray) :=
    fun A hh => by have W := Walks.list (prog := PG) (w := w) (A := A) hh s.heap.objs.size l (hlt _ _ hol) vs.toArray; simpa [hn] using W
  have fr : ∀ (i : Nat) (h h' : Heap), (h.IsListIter s.heap.objs.size l i ∧ h.IsList l vs.toArray) → (∀ b ∈ [s.heap.objs.size, l], ∀ o, h.get? b = some o → h'.get? b = some o) → (h'.IsListIter s.heap.objs.size l i ∧ h'.IsList l vs.toArray) :=
    fun i h h' st kk => ⟨st.1.at fun o e => kk _ (by simp) o e, st.2.at fun o e => kk _ (by simp) o e⟩
  have hp : ∀ (i : Nat) (u : Value), i < xs.length → vs.toArray[i]? = some u → av u = some (xs.getD i .none) := by
    intro i u hi hu
    have hx : xs[i]? = some (xs.getD i .none) := by simp [List.getD_eq_getElem?_getD, hi]
    obtain ⟨v', hv', ev'⟩ := av_get e hx
    have hu' : vs[i]? = some u := by simpa using hu
    rw [hv'] at hu'
    cases hu'
    exact ev'
  have he : ∀ (i : Nat) (h : Heap), (h.IsListIter s.heap.objs.size l i ∧ h.IsList l vs.toArray) → ∀ b ∈ [s.heap.objs.size, l], ∃ o, h.get? b = some o := by
    intro i h st b hb'
    simp only [List.mem_cons, List.not_mem_nil, or_false] at hb'
    rcases hb' with rfl | rfl
    · obtain ⟨o, ho, _⟩ := st.1; exact ⟨o, ho⟩
    · obtain ⟨o, ho, _⟩ := st.2; exact ⟨o, ho⟩
  refine hQ s.heap.objs.size [s.heap.objs.size, l] [s.heap.objs.size] (fun i h => h.IsListIter s.heap.objs.size l i ∧ h.IsList l vs.toArray) _ s.toks
    (fun env x px hk hl => ⟨Itr.of_walks (fun i => xs.getD i .none) rfl hk hl wk (by simp) fr hp he, Nx.of_walks (fun i => xs.getD i .none) hk hl wk fr hp⟩) ?_ kp (by simpa using get_size s.heap) ?_ hsub
  · exact ⟨⟨_, Heap.get?_push_size _ rfl, rfl, rfl⟩, ⟨ol, kp _ _ hol, hol'⟩⟩
  · intro b hb'
    simp only [List.mem_cons, List.not_mem_nil, or_false] at hb'
    rcases hb' with rfl | rfl
    · exact .inl (by simp)
    · exact .inr ⟨hap s.heap m S, hne, _, hol⟩

theorem apart_R {l : Addr} {o : AO} (hm : (l, o) ∈ R) : ∀ (h : Heap) (m : Vars), Sta hb L m R W h → l ∉ W.map (·.1) := fun h m S => (S.rd _ hm).2.2
theorem apart_W {l : Addr} {o : AO} (hp : Pick W (l, o) W') : ∀ (h : Heap) (m : Vars), Sta hb L m R W h → l ∉ W'.map (·.1) := fun h m S => by
  have := ((hp.perm.map (·.1)).nodup_iff).mp S.nd
  exact (List.nodup_cons.mp this).1
theorem Pick.sub {e : Addr × AO} (hp : Pick W e W') : Sub W' W := ⟨fun p q => hp.perm.symm.subset (.tail _ q), fun hn => (List.nodup_cons.mp (((hp.perm.map (·.1)).nodup_iff).mp hn)).2⟩
theorem Pick.mem {e : Addr × AO} (hp : Pick W e W') : e ∈ W := hp.perm.symm.subset (.head _)

theorem iter_range {l : Addr} {a b c : Int}
    (hm : (l, .rng a b c) ∈ R ++ W) (hs : Builtin.Range.small a b c = true) (hpos : 0 ≤ Builtin.Range.rangeSize a b c) :
    IterC w hb L R (.ref l) W W (Builtin.Range.rangeSize a b c).toNat (fun i => .int (a + i * c)) := fun A s Q E v m ev hh S hQ => by
  have := av_ref ev
  subst this
  obtain ⟨t, u, v, hr⟩ := S.get hm
  refine wpAny_pyIter_range hr hs ?_
  have wk : ∀ A : Around, A.handled = none → Walks PG w A s.heap.objs.size [s.heap.objs.size] [s.heap.objs.size] (Builtin.Range.rangeSize a b c).toNat (fun i v => ∃ t, v = .int (a + i * c) t) (fun i h => IsRangeIter h s.heap.objs.size (a + (i : Nat) * c) (((Builtin.Range.rangeSize a b c).toNat : Int) - (i : Nat)) c) :=
    fun A hh => Walks.range (prog := PG) (w := w) (A := A) hh s.heap.objs.size a c (Builtin.Range.rangeSize a b c).toNat
  have fr : ∀ (i : Nat) (h h' : Heap), IsRangeIter h s.heap.objs.size (a + (i : Nat) * c) (((Builtin.Range.rangeSize a b c).toNat : Int) - (i : Nat)) c → (∀ b ∈ [s.heap.objs.size], ∀ o, h.get? b = some o → h'.get? b = some o) →
    IsRangeIter h' s.heap.objs.size (a + (i : Nat) * c) (((Builtin.Range.rangeSize a b c).toNat : Int) - (i : Nat)) c := fun i h h' st kk => kk _ (by simp) _ st
  have hp : ∀ (i : Nat) (u : Value), i < (Builtin.Range.rangeSize a b c).toNat → (∃ t, u = .int (a + i * c) t) → av u = some (.int (a + i * c)) := by
    rintro i u hi ⟨t, rfl⟩
    rfl
  have he : ∀ (i : Nat) (h : Heap), IsRangeIter h s.heap.objs.size (a + (i : Nat) * c) (((Builtin.Range.rangeSize a b c).toNat : Int) - (i : Nat)) c → ∀ b ∈ [s.heap.objs.size], ∃ o, h.get? b = some o := by
    intro i h st b hb'
    simp only [List.mem_cons, List.not_mem_nil, or_false] at hb'
    subst hb'
    exact ⟨_, st⟩
  refine hQ s.heap.objs.size [s.heap.objs.size] [s.heap.objs.size] (fun i h => IsRangeIter h s.heap.objs.size (a + (i : Nat) * c) (((Builtin.Range.rangeSize a b c).toNat : Int) - (i : Nat)) c) _ s.toks
    (fun env x px hk hl => ⟨Itr.of_walks (fun i => .int (a + i * c)) rfl hk hl wk (by simp) fr hp he, Nx.of_walks (fun i => .int (a + i * c)) hk hl wk fr hp⟩) ?_ (fun b o e => Heap.get?_push_of_some _ e) (by simpa using get_size s.heap) (by simp) .refl
  show Heap.get? _ _ = _
  have : ((Builtin.Range.rangeSize a b c).toNat : Int) = Builtin.Range.rangeSize a b c := Int.toNat_of_nonneg hpos
  simp only [this, Int.natCast_zero, Int.zero_mul, Int.add_zero, Int.sub_zero]
  exact Heap.get?_push_size _ rfl

abbrev KEnum (hb : Heap) (L : Addr) (R : Led) (xi xv : String) (K : Nat → (Nat → Vars → Vars) → Led → Prop) : List AV → Led → Prop := fun as W => ∃ l o xs W', as = [.ref l] ∧ (l, o) ∈ R ++ W ∧ o.lx = some xs ∧ Sub W' W ∧ (∀ (h : Heap) (m : Vars), Sta hb L m R W h → l ∉ W'.map (·.1)) ∧
      K xs.length (fun i m => vset (vset m xi (.int i)) xv (xs.getD i .none)) W'
theorem iterE_enum {xi xv : String} {pi pv pt : Pos} {x1} {p pos : Pos} {e : Expr} (B : Bs w hb) (hL : env.locals = L) (hk : env.scope.kind = .function) (hli : env.kindOf (Str.ofString xi) = some .local) (hlv : env.kindOf (Str.ofString xv) = some .local)
    (hg : env.globals = mainGlobals) (hbn : env.builtins = builtinsNs) (hle : env.kindOf (Str.ofString "enumerate") = some .globalImplicit) (hn : nsIn (hd.heap_39 w.params) mainGlobals (Str.ofString "enumerate") = some none)
    (hv : bootBuiltins (Str.ofString "enumerate") = some (.type "enumerate")) (hd : (Str.ofString "enumerate" == ("__debug__" : Str)) = false) (hx : Str.ofString "enumerate" ≠ Str.ofString "__name__")
    (he : starEach [e] env = [(false, eval e env)]) (hp : (backTo pos (starEach [] env)).any (·.1) = false)
    {K : Nat → (Nat → Vars → Vars) → Led → Prop}
    (h : EvL w hb L k m R (spliced (backTo pos (starEach [e] env))) W (KEnum hb L R xi xv K)) :
    IterE w hb env L k R (.Tuple [.Name (Str.ofString xi) pi, .Name (Str.ofString xv) pv] x1 pt) (.Call (.Name (Str.ofString "enumerate") p) [e] [] pos) m W K := fun A s Q E r S hQ => by
  refine Call_ (blt_name B S hg hbn hk hle hn hv hx (PyProof.Rows.callWith_type1 (h A s _ E r S fun vs as W₁ h₁ tk₁ ev pr S₁ st₁ => ?_) he hp) hd)
  obtain ⟨l, o, xs, W₂, rfl, hm, ho, hsub, hap, hK⟩ := pr
  obtain ⟨v, rfl, ev'⟩ := av_one ev
  have := av_ref ev'
  subst this
  obtain ⟨vs, hl', e⟩ := S₁.isList hm ho
  have hne : l ≠ L := by
    rcases List.mem_append.mp hm with q | q
    · exact (S₁.rd _ q).2.1
    · exact (S₁.wr _ q).2.1
  refine call_enumerate_list hl' fun h₂ hen hit hsz kp => ?_
  refine wpAny_pyIter_enum hen ?_
  simp only at hen hit hsz kp
  have hn' := av_len e
  obtain ⟨ol, hol, hol'⟩ := id hl'
  have hlt : ∀ b o, h₁.get? b = some o → b < h₁.objs.size := fun b o e => Heap.lt_size e
  have fresh : ∀ a, h₁.objs.size ≤ a → h₁.get? a = none := fun a ha => by
    cases e : h₁.get? a with
    | none => rfl
    | some o' => exact absurd (Heap.lt_size e) (Nat.not_lt.mpr ha)
  have hll : l < h₁.objs.size := hlt _ _ hol
  refine hQ _ _ W₁ W₂ h₁ (h₁.objs.size + 1) [h₁.objs.size + 1, h₁.objs.size, l] [h₁.objs.size + 1, h₁.objs.size] (fun i h => ∃ old, IsEnum h (h₁.objs.size + 1) h₁.objs.size (i : Nat) old ∧ h.IsListIter h₁.objs.size l i ∧ h.IsList l vs.toArray) h₂ tk₁ hK S₁ st₁
    { sub := by simp, frame := ?_, here := ?_, item := ?_, self := fun i A s Q E hh st hQ => (by obtain ⟨old, s1, _⟩ := st; exact wpAny_pyIter_enum s1 hQ), done := ?_ } ⟨_, hen, hit, ⟨ol, kp _ _ hol, hol'⟩⟩ kp ?_ ?_ hsub
  · rintro i h h' ⟨old, s1, s2, s3⟩ kk
    exact ⟨old, kk _ (by simp) _ s1, s2.at fun o e => kk _ (by simp) o e, s3.at fun o e => kk _ (by simp) o e⟩
  · rintro i h ⟨old, s1, ⟨o2, s2, _⟩, ⟨o3, s3, _⟩⟩ b hb'
    simp only [List.mem_cons, List.not_mem_nil, or_false] at hb'
    rcases hb' with rfl | rfl | rfl
    · exact ⟨_, s1⟩
    · exact ⟨_, s2⟩
    · exact ⟨_, s3⟩
  · rintro i A s m W Q E hi hh ⟨old, s1, s2, s3⟩ S hwr hfp hQ
    have hx : xs[i]? = some (xs.getD i .none) := by simp [List.getD_eq_getElem?_getD, hi]
    obtain ⟨u, hu, eu⟩ := av_get e hx
    have heL : h₁.objs.size + 1 ≠ L := hfp _ (by simp)
    have hiL : h₁.objs.size ≠ L := hfp _ (by simp)
    have heH : h₁.objs.size + 1 < s.heap.objs.size := Heap.lt_size s1
    have hiH : h₁.objs.size < s.heap.objs.size := Nat.lt_of_succ_lt heH
    have hlH : l < s.heap.objs.size := Nat.lt_trans hll hiH
    have hne1 : l ≠ h₁.objs.size + 1 := Nat.ne_of_lt (Nat.lt_succ_of_lt hll)
    have hne2 : l ≠ h₁.objs.size := Nat.ne_of_lt hll
    have hee : h₁.objs.size + 1 ≠ h₁.objs.size := Nat.succ_ne_self _
    refine wpAny_pyNext_enum_item s1 s2 s3 (x := u) (by simpa using hu) hee fun h₃ heo hit₁ ht₁ hz₁ hk₁ => ?_
    refine wpAny_letOwnedTupleGo_enum heo fun h₄ he₄ hs₄ => ?_
    replace hs₄ : Heap.SameBut (h₁.objs.size + 1) h₃ h₄ := hs₄
    have ht₂ : h₄.IsTuple s.heap.objs.size #[.int i s.toks, u] := ⟨_, (hs₄.2 _ (Nat.ne_of_gt heH)).trans ht₁, rfl, _, rfl⟩
    have hz₂ : h₄.objs.size = s.heap.objs.size + 1 := hs₄.1.trans hz₁
    refine wpAny_assign_Tuple hh ht₂ rfl rfl fun h₅ hx₅ => ?_
    replace hx₅ : Heap.ExtBut h₄.objs.size h₄ h₅ := hx₅
    have old₅ : ∀ b o, b ≠ h₁.objs.size + 1 → b ≠ h₁.objs.size → s.heap.get? b = some o → h₅.get? b = some o := fun b o n1 n2 q =>
      hx₅ b o (by rw [hz₂]; exact Nat.ne_of_lt (Nat.lt_succ_of_lt (Heap.lt_size q))) (hs₄.extBut b o n1 (hk₁ b o n1 n2 q))
    have S₅ : Sta hb L m R W h₅ := S.keepBut (X := [h₁.objs.size + 1, h₁.objs.size]) (fun b o q e => old₅ b o (fun z => q (by simp [z])) (fun z => q (by simp [z])) e) hwr
    have he₅ : IsEnum h₅ (h₁.objs.size + 1) h₁.objs.size ((i : Int) + 1) u := hx₅ _ _ (by rw [hz₂]; exact Nat.ne_of_lt (Nat.lt_succ_of_lt heH)) he₄
    have hit₅ : h₅.IsListIter h₁.objs.size l (i + 1) := (hit₁.extBut hs₄.extBut (Ne.symm hee)).extBut hx₅ (by rw [hz₂]; exact Nat.ne_of_lt (Nat.lt_succ_of_lt hiH))
    have hl₅ : h₅.IsList l vs.toArray := s3.at fun o q => old₅ l o hne1 hne2 q
    show wpAny _ A (do holding [u] (assign (.Name (Str.ofString xi) pi) env (.int i s.toks)); do holding [] (assign (.Name (Str.ofString xv) pv) env u); pure ()) _ _ _
    refine wpAny_bind (wpAny_holding (wpAny_assign_Name (sto_local (a := .int i) hL hk hli S₅ rfl fun h₆ tk₆ S₆ _ k₆ => ?_)))
    refine wpAny_bind (wpAny_holding (wpAny_assign_Name (sto_local (a := xs.getD i .none) hL hk hlv S₆ eu fun h₇ tk₇ S₇ _ k₇ => wpAny_pure ?_)))
    have up : ∀ b, b ≠ L → h₇.get? b = h₅.get? b := fun b q => (k₇ b q).trans (k₆ b q)
    refine hQ h₇ tk₇ S₇ ⟨u, ?_, ?_, ?_⟩ fun b o q1 q2 q3 => (up b q1).trans (old₅ b o (fun z => q2 (by simp [z])) (fun z => q2 (by simp [z])) q3)
    · have : ((i + 1 : Nat) : Int) = (i : Int) + 1 := by push_cast; rfl
      rw [this]; exact (up _ heL).trans he₅
    · exact hit₅.at fun o q => (up _ hiL).trans q
    · exact hl₅.at fun o q => (up _ (hfp l (by simp))).trans q
  · rintro A s Q E hh ⟨old, s1, s2, s3⟩ hQ
    refine wpAny_pyNext_enum_end hh s1 s2 s3 (by simp [hn']) fun h' he' => hQ h' s.toks fun b o q e => he' b o (fun z => q (by simp [z])) e
  · intro b hb'
    simp only [List.mem_cons, List.not_mem_nil, or_false] at hb'
    rcases hb' with rfl | rfl
    · exact fresh _ (Nat.le_succ _)
    · exact fresh _ (Nat.le_refl _)
  · intro b hb'
    simp only [List.mem_cons, List.not_mem_nil, or_false] at hb'
    rcases hb' with rfl | rfl | rfl
    · exact .inl (by simp)
    · exact .inl (by simp)
    · exact .inr ⟨hap h₁ m S₁, hne, _, hol⟩
end
end

section
section
variable (w : World) (hb : Heap) (L : Addr) (k : Nat) (m : Vars) (R : Led) (env : Env) (P : FL → Vars → Led → Prop) (rest : List Stmt)
abbrev KSet3 (v a : AV) : AV → Led → Prop := fun b W => ∃ l ob xs j W', a = .ref l ∧ b = .int j ∧ Pick W (l, ob) W' ∧ ob.lx = some xs ∧ 0 ≤ j ∧ j < xs.length ∧ xs.length < 2 ^ 62 ∧ Ex w hb L k R (execs rest env) m ((l, .lst (xs.set j.toNat v)) :: W') P
abbrev KSet2 (i : Expr) (v : AV) : AV → Led → Prop := fun a W => Ev w hb L k m R (eval i env) W (KSet3 w hb L k m R env P rest v a)
abbrev KSet1 (o i : Expr) : AV → Led → Prop := fun v W => Ev w hb L k m R (eval o env) W (KSet2 w hb L k m R env P rest i v)
abbrev KApp2 (D : Addr) : AV → Led → Prop := fun y W => ∃ xs W', Pick W (D, .pls xs) W' ∧ xs.length ≤ sizeLine ∧ Ex w hb L k R (execs rest env) m ((D, .pls (xs ++ [y])) :: W') P
abbrev KApp1 (elt : Expr) : AV → Led → Prop := fun a W => ∃ D ys, a = .ref D ∧ (D, .pls ys) ∈ R ++ W ∧ Ev w hb L k m R (eval elt env) W (KApp2 w hb L k m R env P rest D)
abbrev KTup2 (x y : String) : List AV → Led → Prop := fun as W => ∃ a b, as = [a, b] ∧ Ex w hb L k R (execs rest env) (vset (vset m y b) x a) W P
abbrev KUn3 (x y z : String) : AV → Led → Prop := fun v W => ∃ t a b c, v = .ref t ∧ (t, .tup [a, b, c]) ∈ R ++ W ∧ Ex w hb L k R (execs rest env) (vset (vset (vset m x a) y b) z c) W P
end
section
variable {w : World} {hb : Heap} {L : Addr} {k : Nat} {m m' : Vars} {R W W' : Led} {env : Env} {P : FL → Vars → Led → Prop} {rest : List Stmt} {h h' : Heap}

/-- one of the stores changes -/
theorem Sta.upd (S : Sta hb L m R W h) {l : Addr} {o o' : AO} (hp : Pick W (l, o) W') (hs : ∀ b, b ≠ l → h'.get? b = h.get? b) (ho : o'.at h' l) : Sta hb L m R ((l, o') :: W') h' where
  bs := fun b ob e => (hs b (fun q => by have := (S.wr _ hp.mem).2.2; rw [← q, e] at this; cases this)).trans (S.bs b ob e)
  hl := S.hl
  ns := by
    obtain ⟨M, ⟨ob, es, ep, e, r⟩, hM⟩ := S.ns
    exact ⟨M, ⟨ob, es, ep, (hs _ (Ne.symm (S.wr _ hp.mem).2.1)).trans e, r⟩, hM⟩
  rd := fun p hp' => by
    have hne : p.1 ≠ l := fun q => (S.rd p hp').2.2 (List.mem_map.mpr ⟨_, hp.mem, q.symm⟩)
    refine ⟨AO.at_mono (S.rd p hp').1 fun b e => (hs _ hne).trans e, (S.rd p hp').2.1, fun q => (S.rd p hp').2.2 ?_⟩
    rcases List.mem_cons.mp q with q | q
    · exact absurd q hne
    · obtain ⟨p', hp'', e⟩ := List.mem_map.mp q
      exact List.mem_map.mpr ⟨p', hp.sub.mem _ hp'', e⟩
  wr := fun p hp' => by
    have hnd := List.nodup_cons.mp (((hp.perm.map (·.1)).nodup_iff).mp S.nd)
    rcases List.mem_cons.mp hp' with rfl | hp'
    · exact ⟨ho, (S.wr _ hp.mem).2⟩
    · have hne : p.1 ≠ l := fun q => hnd.1 (List.mem_map.mpr ⟨p, hp', q⟩)
      have := S.wr p (hp.sub.mem _ hp')
      exact ⟨AO.at_mono this.1 fun b e => (hs _ hne).trans e, this.2⟩
  nd := ((hp.perm.map (·.1)).nodup_iff).mp S.nd
theorem Stp.upd {l : Addr} {o o' : AO} (hp : Pick W (l, o) W') (hs : ∀ b, b ≠ l → h'.get? b = h.get? b) : Stp (W.map (·.1)) h ((l, o') :: W') h' :=
  ⟨fun b ob hb' e => (hs b (fun q => hb' (List.mem_map.mpr ⟨_, hp.mem, q.symm⟩))).trans e, fun a ha => .inl (by
    rcases List.mem_cons.mp ha with rfl | ha
    · exact List.mem_map.mpr ⟨_, hp.mem, rfl⟩
    · obtain ⟨p, hp', e⟩ := List.mem_map.mp ha
      exact List.mem_map.mpr ⟨p, hp.sub.mem _ hp', e⟩)⟩

/-- a store into a list -/
theorem exs_setitem {o i value : Expr} {p' pos : Pos} (hs : swapsWith value (some (.Subscript o i p')) pos.line env = pure false)
    (h : Ev w hb L k m R (eval value env) W (KSet1 w hb L k m R env P rest o i)) :
    Ex w hb L k R (execs (.Assign [.Subscript o i p'] value pos :: rest) env) m W P := by
  refine exs_of fun A s Q E r S hQ => wpAny_Assign_Subscript (h A s _ E r S fun v a W₁ h₁ tk₁ e₁ p₁ S₁ st₁ => p₁ A _ _ E r S₁ fun v₂ a₂ W₂ h₂ tk₂ e₂ p₂ S₂ st₂ => p₂ A _ _ E r S₂ fun v₃ a₃ W₃ h₃ tk₃ e₃ p₃ S₃ st₃ => ?_) hs
  obtain ⟨l, ob, xs, j, W₄, rfl, rfl, hp, ho, h0, hlt, hlen, hrest⟩ := p₃
  have := av_ref e₂
  subst this
  obtain ⟨t, rfl⟩ := av_int e₃
  obtain ⟨vs, hl, e⟩ := S₃.isList (List.mem_append_right _ hp.mem) ho
  have hn := av_len e
  refine wpAny_setItem_list hl h0 (by omega) (by simp; omega) fun h₄ hl₄ hs₄ => ?_
  refine hQ .next .next m _ h₄ tk₃ rfl (seq_next hrest) (S₃.upd hp hs₄.2 ⟨vs.set j.toNat v, ?_, ?_⟩) (((st₁.ev st₂).ev st₃).ev (Stp.upd hp hs₄.2)).up
  · have : vs.toArray.setIfInBounds j.toNat v = (vs.set j.toNat v).toArray := by simp
    rw [← this]; exact hl₄
  · rw [List.map_set, List.map_set, e, e₁]

/-- something put behind a list -/
theorem exs_append {o elt : Expr} {apos pos pos' : Pos}
    (hbase : attributeBase o "append" env (eval o env) = eval o env)
    (hfew : ((backTo pos (starEach [elt] env)).all (fun x => !x.1) && (backToKw pos (keywordEach [] env)).all (fun x => x.1.isSome)
      && decide (([elt] : List Expr).length + ([] : List Keyword).length + (if ([] : List Keyword).isEmpty then 0 else 1) < 30)) = true)
    (hline : (apos.endLine == pos.line) = true) (htrees : backTo pos (starEach [elt] env) = [(false, eval elt env)])
    (hi : interactive env = false) (hsw : swapsWith (.Call (.Attribute o "append" apos) [elt] [] pos) none pos'.line env = pure false)
    (h : Ev w hb L k m R (eval o env) W (KApp1 w hb L k m R env P rest elt)) :
    Ex w hb L k R (execs (.Expr (.Call (.Attribute o "append" apos) [elt] [] pos) pos' :: rest) env) m W P := by
  refine exs_of fun A s Q E r S hQ => wpAny_Expr_any (wpAny_Call_append hbase hfew hline htrees (h A s _ E r S fun v a W₁ h₁ tk₁ e₁ p₁ S₁ st₁ => ?_)) hi hsw
  obtain ⟨D, ys, rfl, hm, helt⟩ := p₁
  have := av_ref e₁
  subst this
  obtain ⟨us, n, ho, _⟩ := S₁.get hm
  refine ⟨D, us.toArray, rfl, ⟨_, n, ho, rfl, rfl, rfl⟩, helt A _ _ E r S₁ fun v₂ a₂ W₂ h₂ tk₂ e₂ p₂ S₂ st₂ => ?_⟩
  obtain ⟨xs, W₃, hp, hlen, hrest⟩ := p₂
  obtain ⟨us, n, ho, e⟩ := S₂.get (List.mem_append_right _ hp.mem)
  have hn := av_len e
  refine wpAny_list_append_plain (hsz := by simpa [hn] using hlen) ⟨n, ho⟩ fun h₃ hl₃ hs₃ => ?_
  obtain ⟨n', hl₃⟩ := hl₃
  refine hQ .next .next m _ h₃ tk₂ rfl (seq_next hrest) (S₂.upd hp hs₃.2 ⟨us ++ [v₂], n', ?_, ?_⟩) ((st₁.ev st₂).ev (Stp.upd hp hs₃.2)).up
  · rw [hl₃]; simp
  · simp [e, e₂]

/-- two names, the values displayed -/
theorem exs_tup2 {x y : String} {px py tp vp pos : Pos} {j₁ j₂ : Nat} {e₁ e₂ : Expr} (hL : env.locals = L) (hk : env.scope.kind = .function) (hx : env.kindOf (Str.ofString x) = some .local) (hy : env.kindOf (Str.ofString y) = some .local)
    (hs : swapsWithSole [.Tuple [.Name (Str.ofString x) px, .Name (Str.ofString y) py] j₁ tp] (.Tuple [e₁, e₂] j₂ vp) pos.line env = pure false)
    (hw : swappedStores [.Tuple [.Name (Str.ofString x) px, .Name (Str.ofString y) py] j₁ tp] (.Tuple [e₁, e₂] j₂ vp) env = pure (some [Str.ofString x, Str.ofString y]))
    (h : EvL w hb L k m R (spliced (backTo vp (starEach [e₁, e₂] env))) W (KTup2 w hb L k m R env P rest x y)) :
    Ex w hb L k R (execs (.Assign [.Tuple [.Name (Str.ofString x) px, .Name (Str.ofString y) py] j₁ tp] (.Tuple [e₁, e₂] j₂ vp) pos :: rest) env) m W P := by
  have ht : Ev w hb L k m R (eval (.Tuple [e₁, e₂] j₂ vp) env) W fun v W₁ => ∃ t a b W₂, v = .ref t ∧ W₁ = (t, .tup [a, b]) :: W₂ ∧ Ex w hb L k R (execs rest env) (vset (vset m y b) x a) W₂ P :=
    ev_tuple (fun A s Q E r S hQ => h A s Q E r S fun vs as W' h' tk e p S' st => hQ vs as W' h' tk e (by
      obtain ⟨a, b, rfl, p⟩ := p
      exact ⟨by simp [sizeLine], fun t => ⟨t, a, b, W', rfl, rfl, p⟩⟩) S' st)
  refine exs_of fun A s Q E r S hQ => Assign_Tuple_swapped (ht A s _ E r S fun v a W₁ h₁ tk₁ ev p₁ S₁ st₁ => ?_) hs hw
  obtain ⟨t, a, b, W₂, rfl, rfl, hrest⟩ := p₁
  have := av_ref ev
  subst this
  obtain ⟨vs, hT, e⟩ := (S₁.wr (t, .tup [a, b]) (.head _)).1
  obtain ⟨v, u, rfl, e1, e2⟩ := av2 e
  refine unpackItems_tuple (items := #[v, u]) r.hh hT fun h₂ he₂ => ?_
  have S₂ : Sta hb L m R ((t, .tup [a, b]) :: W₂) h₂ := S₁.grow fun c o q => he₂ c o (Nat.ne_of_lt (Heap.lt_size q)) q
  have k₂ : ∀ c o, h₁.get? c = some o → h₂.get? c = some o := fun c o q => he₂ c o (Nat.ne_of_lt (Heap.lt_size q)) q
  show wpAny _ A (do holding [v] (bindName env (Str.ofString y) u); do holding [] (bindName env (Str.ofString x) v); pure ()) _ _ _
  refine wpAny_bind (wpAny_holding (wpAny_bindName (sto_local hL hk hy S₂ e2 fun h₃ tk₃ S₃ st₃ _ => ?_)))
  refine wpAny_bind (wpAny_holding (wpAny_bindName (sto_local hL hk hx S₃ e1 fun h₄ tk₄ S₄ st₄ _ => wpAny_pure ?_)))
  have hsub : Sub W₂ ((t, .tup [a, b]) :: W₂) := .of_sublist (.cons _ (.refl _))
  refine hQ .next .next _ W₂ h₄ tk₄ rfl (seq_next hrest) (S₄.sub (fun _ h => h) hsub) ?_
  have st₂ : Stp (((t, AO.tup [a, b]) :: W₂).map (·.1)) h₁ ((t, AO.tup [a, b]) :: W₂) h₂ := .of_keep k₂ fun _ h => .inl h
  exact (((st₁.ev st₂).ex st₃).ex2 st₄).sub hsub

/-- three names out of a tuple -/
theorem exs_unpack3 {x y z : String} {px py pz tp pos : Pos} {j₁ : Nat} {e : Expr} (hL : env.locals = L) (hk : env.scope.kind = .function) (hx : env.kindOf (Str.ofString x) = some .local) (hy : env.kindOf (Str.ofString y) = some .local) (hz : env.kindOf (Str.ofString z) = some .local)
    (hs : swapsWithSole [.Tuple [.Name (Str.ofString x) px, .Name (Str.ofString y) py, .Name (Str.ofString z) pz] j₁ tp] e pos.line env = pure false)
    (hw : swappedStores [.Tuple [.Name (Str.ofString x) px, .Name (Str.ofString y) py, .Name (Str.ofString z) pz] j₁ tp] e env = pure none)
    (h : Ev w hb L k m R (eval e env) W (KUn3 w hb L k m R env P rest x y z)) :
    Ex w hb L k R (execs (.Assign [.Tuple [.Name (Str.ofString x) px, .Name (Str.ofString y) py, .Name (Str.ofString z) pz] j₁ tp] e pos :: rest) env) m W P := by
  refine exs_of fun A s Q E r S hQ => Assign_Tuple (h A s _ E r S fun v a W₁ h₁ tk₁ ev p₁ S₁ st₁ => ?_) hs hw
  obtain ⟨t, a, b, c, rfl, hm, hrest⟩ := p₁
  have := av_ref ev
  subst this
  obtain ⟨vs, hT, e⟩ := S₁.get hm
  obtain ⟨v, u, q, rfl, e1, e2, e3⟩ := av3 e
  rw [arm_assign_Tuple]
  refine wpAny_bind (wpAny_standAt ?_)
  refine unpack_tuple (items := #[v, u, q]) r.hh hT rfl rfl fun h₂ he₂ => ?_
  have k₂ : ∀ c o, h₁.get? c = some o → h₂.get? c = some o := fun c o q => he₂ c o (Nat.ne_of_lt (Heap.lt_size q)) q
  have S₂ : Sta hb L m R W₁ h₂ := S₁.grow k₂
  show wpAny _ A (do holding [u, q] (assign (.Name (Str.ofString x) px) env v); do holding [q] (assign (.Name (Str.ofString y) py) env u); do holding [] (assign (.Name (Str.ofString z) pz) env q); pure ()) _ _ _
  refine wpAny_bind (wpAny_holding (wpAny_assign_Name (sto_local hL hk hx S₂ e1 fun h₃ tk₃ S₃ st₃ _ => ?_)))
  refine wpAny_bind (wpAny_holding (wpAny_assign_Name (sto_local hL hk hy S₃ e2 fun h₄ tk₄ S₄ st₄ _ => ?_)))
  refine wpAny_bind (wpAny_holding (wpAny_assign_Name (sto_local hL hk hz S₄ e3 fun h₅ tk₅ S₅ st₅ _ => wpAny_pure ?_)))
  have st₂ : Stp (W₁.map (·.1)) h₁ W₁ h₂ := .of_keep k₂ fun _ h => .inl h
  exact hQ .next .next _ W₁ h₅ tk₅ rfl (seq_next hrest) S₅ ((((st₁.ev st₂).ex st₃).ex2 st₄).ex2 st₅)
end

/-! the text's own defs, called -/
def retP (P : AV → Led → Prop) : FL → Vars → Led → Prop
  | .next, _, W => ∃ W', Sub W' W ∧ P .none W'
  | .ret a, _, W => ∃ W', Sub W' W ∧ P a W'
theorem ret_ret {P : AV → Led → Prop} {a : AV} {m : Vars} {W W' : Led} (hs : Sub W' W) (h : P a W') : retP P (.ret a) m W := ⟨W', hs, h⟩

theorem lookup_nodup {α : Type} : ∀ {l : List (Str × α)} {n : Str} {c : α}, (l.map (·.1)).Nodup → (n, c) ∈ l → l.lookup n = some c
  | (k, v) :: r, n, c, hn, hm => by
    rw [List.lookup_cons]
    have hn' := List.nodup_cons.mp hn
    rcases List.mem_cons.mp hm with e | hm₂
    · cases e; simp
    · have : (n == k) = false := by
        simp only [beq_eq_false_iff_ne, ne_eq]
        intro e
        exact hn'.1 (List.mem_map.mpr ⟨_, hm₂, e⟩)
      rw [this]
      exact lookup_nodup hn'.2 hm₂

theorem lookup_zip {xs : List String} {as : List AV} {vs : List Value} (hlen : as.length = xs.length) (e : vs.map av = as.map some) (hnd : xs.Nodup) :
    ∀ p ∈ xs.zip as, ∃ v, ((xs.map Str.ofString).zip vs).reverse.lookup (Str.ofString p.1) = some v ∧ av v = some p.2 := by
  have hv := av_len e
  intro p hp
  obtain ⟨i, hi, rfl⟩ := List.mem_iff_getElem.mp hp
  simp only [List.length_zip] at hi
  have hi1 : i < xs.length := (Nat.lt_min.mp hi).1
  have hi2 : i < as.length := (Nat.lt_min.mp hi).2
  have hi3 : i < vs.length := by rw [hv]; exact hi2
  refine ⟨vs[i], ?_, ?_⟩
  · have hmem : (Str.ofString xs[i], vs[i]) ∈ ((xs.map Str.ofString).zip vs).reverse := by
      rw [List.mem_reverse]
      refine List.mem_iff_getElem.mpr ⟨i, by simp; omega, by simp⟩
    have hN : (((xs.map Str.ofString).zip vs).reverse.map (·.1)).Nodup := by
      rw [List.map_reverse, (List.reverse_perm _).nodup_iff]
      rw [show ((xs.map Str.ofString).zip vs).map (·.1) = xs.map Str.ofString from by rw [List.map_fst_zip]; simp; omega]
      exact List.nodup_iff_pairwise_ne.mpr ((List.nodup_iff_pairwise_ne.mp hnd).map _ fun a b hab q => hab (ofStr_inj q))
    simp only [List.getElem_zip]
    exact lookup_nodup hN hmem
  · have hx : as[i]? = some as[i] := by simp [hi2]
    obtain ⟨v, h1, h2⟩ := av_get e hx
    have : vs[i]? = some vs[i] := by simp [hi3]
    rw [this] at h1
    cases h1
    simpa using h2

section
variable {w : World} {hb : Heap} {k : Nat} {R : Led} {P : AV → Led → Prop}
theorem Bs.nolimit {w : World} {hb : Heap} (B : Bs w hb) {h : Heap} (hk : ∀ b o, hb.get? b = some o → h.get? b = some o) : h.NoLimit := by
  obtain ⟨mean, mg, mb, T⟩ := B.T
  exact T.nolimit.keeps hk

theorem fn_of {f : Addr} {oc doc pm dV kV cdv ct : Value} {od an : Option Addr} {osl : Array (Option Value)} {name qual : Str} {params : Arguments} {body : List Stmt} {scope : Scope} {xs : List String} {as : List AV} (B : Bs w hb)
    (ho : (hd.heap_39 w.params).lookup f = some ⟨oc, od, .func (fnOf name qual params body scope dV kV doc pm an cdv ct), osl⟩)
    (hcd : codeIn (hd.heap_39 w.params) cdv qual = true)
    (hbind : ∀ vs : List Value, vs.length = xs.length → bindArgs (fnOf name qual params body scope dV kV doc pm an cdv ct) ⟨vs, []⟩ = pure ((xs.map Str.ofString).zip vs))
    (hloc : ∀ x ∈ xs, scope.names.lookup (Str.ofString x) = some .local) (hcell : ∀ x ∈ scope.names, x.2 ≠ .cell)
    (hlen : as.length = xs.length) (hnd : xs.Nodup)
    (hco : scope.isCoroutine = false) (hgen : scope.isGenerator = false) (hk : scope.kind = .function)
    (hbody : ∀ L, Ex w hb L k R (execs body (envOf qual scope L f cdv)) (xs.zip as) [] (retP P)) : Fn w hb f (k + 1) as R P := by
  intro A s Q E vs r e hbs hR hQ
  have hX : (hd.heap_39 w.params).In s.heap := B.X.keeps hbs
  have hv := av_len e
  refine wpAny_call (codeAny_call_def (fd := fnOf name qual params body scope dV kV doc pm an cdv ct) (body := body) (binds := (xs.map Str.ofString).zip vs) r.depth (hX _ _ ho) rfl (B.nolimit hbs) (codeRec_of hX hcd) rfl
    (.of_eq (hbind vs (by omega))) hcell (fun x hx => ?_) (fun h₀ hns hk₀ => ?_) hco hgen hk)
  · obtain ⟨y, hy, e'⟩ := List.mem_map.mp (List.of_mem_zip (a := x.1) (b := x.2) hx).1
    rw [← e']
    exact hloc y hy
  · have hn : hb.get? s.heap.objs.size = none := by
      cases e : hb.get? s.heap.objs.size with
      | none => rfl
      | some o => have := hbs _ _ e; rw [get_size] at this; cases this
    have S₀ : Sta hb s.heap.objs.size (xs.zip as) R [] h₀ := {
      bs := fun b o e => hk₀ _ _ (hbs b o e)
      hl := hn
      ns := ⟨_, hns, lookup_zip hlen e hnd⟩
      rd := fun p hp => ⟨AO.at_mono (hR p hp) fun b q => hk₀ _ _ q, (fun q => by
        obtain ⟨o, ho⟩ := AO.at_some (hR p hp)
        rw [q, get_size] at ho
        exact absurd ho (by simp)), by simp⟩
      wr := fun p hp => nomatch hp
      nd := by simp }
    refine hbody s.heap.objs.size (A.deeper (envOf qual scope s.heap.objs.size f cdv)) { s with heap := h₀, toks := s.toks + ((xs.map Str.ofString).zip vs).length } _ _ r.deeper S₀ fun v a m' W' h' tk ea p S' st => ?_
    have keep : ∀ b o, s.heap.get? b = some o → h'.get? b = some o := fun b o q => st.keep b o (fun z => by
      simp only [List.map_nil, List.mem_cons, List.not_mem_nil, or_false] at z
      rw [z, get_size] at q; cases q) (hk₀ b o q)
    have fin : ∀ (v : Value) (a : AV) (N : Led), av v = some a → P a N → Sub N W' → Q v { s with heap := h', toks := tk } := fun v a N ea pa hs =>
      hQ v a N h' tk ea pa keep (fun p hp => ⟨(S'.wr p (hs.mem p hp)).1, by
        have hf := st.fresh p.1 (List.mem_map.mpr ⟨p, hs.mem p hp, rfl⟩)
        rcases hf with z | z
        · simp only [List.map_nil, List.mem_cons, List.not_mem_nil, or_false] at z
          rw [z]; exact get_size _
        · cases q : s.heap.get? p.1 with
          | none => rfl
          | some o => have z' : h₀.get? p.1 = none := z; rw [hk₀ _ _ q] at z'; cases z'⟩) (hs.nd S'.nd)
    cases a with
    | next =>
      have : v = .next := by
        cases v with
        | next => rfl
        | ret v => simp [fl] at ea
        | _ => simp [fl] at ea
      subst this
      obtain ⟨N, hs, pa⟩ := p
      exact fin .none .none N rfl pa hs
    | ret a =>
      have : ∃ u, v = .ret u := by
        cases v with
        | ret u => exact ⟨u, rfl⟩
        | _ => simp [fl] at ea
      obtain ⟨u, rfl⟩ := this
      obtain ⟨N, hs, pa⟩ := p
      exact fin u a N (by simpa [fl] using ea) pa hs
end
end

section
theorem vs_here {m : Vars} {x : String} {a : AV} : (x, a) ∈ vset m x a := .head _
theorem vs_there {m : Vars} {x y : String} {a b : AV} (hne : y ≠ x) (h : (y, b) ∈ m) : (y, b) ∈ vset m x a :=
  .tail _ (List.mem_filter.mpr ⟨h, by simpa using hne⟩)
theorem all_nil {m : Vars} : ∀ p ∈ ([] : Vars), p ∈ m := fun _ h => nomatch h
theorem all_cons {m m' : Vars} {x : String} {a : AV} (h : (x, a) ∈ m) (h' : ∀ p ∈ m', p ∈ m) : ∀ p ∈ ((x, a) :: m'), p ∈ m := fun p hp => by
  rcases List.mem_cons.mp hp with rfl | hp
  · exact h
  · exact h' p hp
theorem mem_app {R W : Led} {e : Addr × AO} (h : e ∈ W) : e ∈ R ++ W := List.mem_append_right _ h
theorem Sub.nil {W : Led} : Sub [] W := .of_sublist (List.nil_sublist _)
theorem Sub.drop {W W' : Led} {e : Addr × AO} (h : Sub W' W) : Sub W' (e :: W) := h.trans (.of_sublist (.cons _ (.refl _)))
theorem Sub.keep {W W' : Led} {e : Addr × AO} (h : List.Sublist W' W) : List.Sublist (e :: W') (e :: W) := .cons_cons _ h

section
variable {w : World} {hb : Heap} {L : Addr} {k : Nat} {m : Vars} {R W : Led} {env : Env} {P : AV → Led → Prop}

/-- what env says of the world around: the builtins and the text's names are there -/
structure Gl (env : Env) : Prop where
  g : env.globals = mainGlobals
  b : env.builtins = builtinsNs
  k : env.scope.kind = .function

theorem n_len (p : Params) : nsIn (hd.heap_39 p) mainGlobals (Str.ofString "len") = some none := by with_unfolding_all rfl
theorem n_max (p : Params) : nsIn (hd.heap_39 p) mainGlobals (Str.ofString "max") = some none := by with_unfolding_all rfl
theorem n_abs (p : Params) : nsIn (hd.heap_39 p) mainGlobals (Str.ofString "abs") = some none := by with_unfolding_all rfl
theorem n_int (p : Params) : nsIn (hd.heap_39 p) mainGlobals (Str.ofString "int") = some none := by with_unfolding_all rfl
theorem n_list (p : Params) : nsIn (hd.heap_39 p) mainGlobals (Str.ofString "list") = some none := by with_unfolding_all rfl
theorem n_range (p : Params) : nsIn (hd.heap_39 p) mainGlobals (Str.ofString "range") = some none := by with_unfolding_all rfl
theorem n_enumerate (p : Params) : nsIn (hd.heap_39 p) mainGlobals (Str.ofString "enumerate") = some none := by with_unfolding_all rfl

theorem c_len {p pos : Pos} {e : Expr} {rest : List Expr} (B : Bs w hb) (G : Gl env) (hl : env.kindOf (Str.ofString "len") = some .globalImplicit)
    (he : starEach (e :: rest) env = (false, eval e env) :: starEach rest env) (hp : (backTo pos (starEach rest env)).any (·.1) = false)
    (h : EvL w hb L k m R (spliced (backTo pos (starEach (e :: rest) env))) W (KCal w hb L k m R P (.builtin "len"))) :
    Ev w hb L k m R (eval (.Call (.Name (Str.ofString "len") p) (e :: rest) [] pos) env) W P := ev_blt B G.g G.b G.k hl (n_len _) rfl (by decide) (by decide) he hp h
theorem c_max {p pos : Pos} {e : Expr} {rest : List Expr} (B : Bs w hb) (G : Gl env) (hl : env.kindOf (Str.ofString "max") = some .globalImplicit)
    (he : starEach (e :: rest) env = (false, eval e env) :: starEach rest env) (hp : (backTo pos (starEach rest env)).any (·.1) = false)
    (h : EvL w hb L k m R (spliced (backTo pos (starEach (e :: rest) env))) W (KCal w hb L k m R P (.builtin "max"))) :
    Ev w hb L k m R (eval (.Call (.Name (Str.ofString "max") p) (e :: rest) [] pos) env) W P := ev_blt B G.g G.b G.k hl (n_max _) rfl (by decide) (by decide) he hp h
theorem c_abs {p pos : Pos} {e : Expr} {rest : List Expr} (B : Bs w hb) (G : Gl env) (hl : env.kindOf (Str.ofString "abs") = some .globalImplicit)
    (he : starEach (e :: rest) env = (false, eval e env) :: starEach rest env) (hp : (backTo pos (starEach rest env)).any (·.1) = false)
    (h : EvL w hb L k m R (spliced (backTo pos (starEach (e :: rest) env))) W (KCal w hb L k m R P (.builtin "abs"))) :
    Ev w hb L k m R (eval (.Call (.Name (Str.ofString "abs") p) (e :: rest) [] pos) env) W P := ev_blt B G.g G.b G.k hl (n_abs _) rfl (by decide) (by decide) he hp h
theorem c_int {p pos : Pos} {e : Expr} {rest : List Expr} (B : Bs w hb) (G : Gl env) (hl : env.kindOf (Str.ofString "int") = some .globalImplicit)
    (he : starEach (e :: rest) env = (false, eval e env) :: starEach rest env) (hp : (backTo pos (starEach rest env)).any (·.1) = false)
    (h : EvL w hb L k m R (spliced (backTo pos (starEach (e :: rest) env))) W (KCal w hb L k m R P (.type "int"))) :
    Ev w hb L k m R (eval (.Call (.Name (Str.ofString "int") p) (e :: rest) [] pos) env) W P := ev_typ B G.g G.b G.k hl (n_int _) rfl (by decide) (by decide) he hp h
theorem c_list {p pos : Pos} {e : Expr} {rest : List Expr} (B : Bs w hb) (G : Gl env) (hl : env.kindOf (Str.ofString "list") = some .globalImplicit)
    (he : starEach (e :: rest) env = (false, eval e env) :: starEach rest env) (hp : (backTo pos (starEach rest env)).any (·.1) = false)
    (h : EvL w hb L k m R (spliced (backTo pos (starEach (e :: rest) env))) W (KCal w hb L k m R P (.type "list"))) :
    Ev w hb L k m R (eval (.Call (.Name (Str.ofString "list") p) (e :: rest) [] pos) env) W P := ev_typ B G.g G.b G.k hl (n_list _) rfl (by decide) (by decide) he hp h
theorem c_range {p pos : Pos} {e : Expr} {rest : List Expr} (B : Bs w hb) (G : Gl env) (hl : env.kindOf (Str.ofString "range") = some .globalImplicit)
    (he : starEach (e :: rest) env = (false, eval e env) :: starEach rest env) (hp : (backTo pos (starEach rest env)).any (·.1) = false)
    (h : EvL w hb L k m R (spliced (backTo pos (starEach (e :: rest) env))) W (KCal w hb L k m R P (.type "range"))) :
    Ev w hb L k m R (eval (.Call (.Name (Str.ofString "range") p) (e :: rest) [] pos) env) W P := ev_typ B G.g G.b G.k hl (n_range _) rfl (by decide) (by decide) he hp h

theorem cal_range1 {n : Int} (h : ∀ a, P (.ref a) ((a, .rng 0 n 1) :: W)) : Cal w hb L k m R (.type "range") [.int n] W P :=
  fun vs e A s Q E r S hQ => by
    obtain ⟨v, rfl, ev⟩ := av1 e
    obtain ⟨t, rfl⟩ := av_int ev
    have hk : ∀ (ob : Obj) c o', s.heap.get? c = some o' → (s.heap.push ob).get? c = some o' := fun ob c o' e => Heap.get?_push_of_some _ e
    exact call_range_1 (hQ _ _ _ _ _ rfl (h _) (S.addW (hk _) (get_size _) ⟨_, _, _, IsRange.new ..⟩) (Stp.addW (hk _) (get_size _)))
theorem cal_range3 {x y : Int} (hx : -100 < x) (hx' : x < 100) (hy : -100 < y) (hy' : y < 100) (h : ∀ a, P (.ref a) ((a, .rng x y (-1)) :: W)) : Cal w hb L k m R (.type "range") [.int x, .int y, .int (-1)] W P :=
  fun vs e A s Q E r S hQ => by
    obtain ⟨v, u, q, rfl, e1, e2, e3⟩ := av3 e
    obtain ⟨t, rfl⟩ := av_int e1
    obtain ⟨t', rfl⟩ := av_int e2
    obtain ⟨t'', rfl⟩ := av_int e3
    have hk : ∀ (ob : Obj) c o', s.heap.get? c = some o' → (s.heap.push ob).get? c = some o' := fun ob c o' e => Heap.get?_push_of_some _ e
    exact call_range_3 (by decide) (hQ _ _ _ _ _ rfl (h _) (S.addW (hk _) (get_size _) ⟨_, _, _, IsRange.new ..⟩) (Stp.addW (hk _) (get_size _))) (.inl (PyProof.noPylong_small (by omega)))

/-! branches -/
theorem br_f {X Y : Prop} (h : Y) : (false = true → X) ∧ (false = false → Y) := ⟨fun e => (nomatch e), fun _ => h⟩
theorem br_t {X Y : Prop} (h : X) : (true = true → X) ∧ (true = false → Y) := ⟨fun _ => h, fun e => (nomatch e)⟩
theorem br_f' {X Y : Prop} (h : X) : (false = false → X) ∧ (false = true → Y) := ⟨fun _ => h, fun e => (nomatch e)⟩
theorem br_t' {X Y : Prop} (h : Y) : (true = false → X) ∧ (true = true → Y) := ⟨fun e => (nomatch e), fun _ => h⟩
theorem br_dec {p : Prop} [Decidable p] {X Y : Prop} (h₁ : p → X) (h₂ : ¬p → Y) : (decide p = true → X) ∧ (decide p = false → Y) := ⟨fun e => h₁ (of_decide_eq_true e), fun e => h₂ (of_decide_eq_false e)⟩
theorem br_dec' {p : Prop} [Decidable p] {X Y : Prop} (h₁ : p → Y) (h₂ : ¬p → X) : (decide p = false → X) ∧ (decide p = true → Y) := ⟨fun e => h₂ (of_decide_eq_false e), fun e => h₁ (of_decide_eq_true e)⟩
theorem br_eq {x y : Int} {X Y : Prop} (h₁ : x = y → X) (h₂ : x ≠ y → Y) : ((x == y) = true → X) ∧ ((x == y) = false → Y) := ⟨fun e => h₁ (by simpa using e), fun e => h₂ (by simpa using e)⟩
theorem br_eq' {x y : Int} {X Y : Prop} (h₁ : x = y → Y) (h₂ : x ≠ y → X) : ((x == y) = false → X) ∧ ((x == y) = true → Y) := ⟨fun e => h₂ (by simpa using e), fun e => h₁ (by simpa using e)⟩
theorem br_ne {x y : Int} {X Y : Prop} (h₁ : x ≠ y → X) (h₂ : x = y → Y) : ((x != y) = true → X) ∧ ((x != y) = false → Y) := ⟨fun e => h₁ (by simpa using e), fun e => h₂ (by simpa using e)⟩
theorem br_ne' {x y : Int} {X Y : Prop} (h₁ : x ≠ y → Y) (h₂ : x = y → X) : ((x != y) = false → X) ∧ ((x != y) = true → Y) := ⟨fun e => h₂ (by simpa using e), fun e => h₁ (by simpa using e)⟩
theorem br_nd {p : Prop} [Decidable p] {X Y : Prop} (h₁ : ¬p → X) (h₂ : p → Y) : ((!decide p) = true → X) ∧ ((!decide p) = false → Y) := ⟨fun e => h₁ (by simpa using e), fun e => h₂ (by simpa using e)⟩
theorem br_nd' {p : Prop} [Decidable p] {X Y : Prop} (h₁ : ¬p → Y) (h₂ : p → X) : ((!decide p) = false → X) ∧ ((!decide p) = true → Y) := ⟨fun e => h₂ (by simpa using e), fun e => h₁ (by simpa using e)⟩

theorem cal_lenI {l : Addr} {o : AO} {xs : List Int} (hm : (l, o) ∈ R ++ W) (ho : o.lx = some (Ints xs)) (hlen : xs.length < 2 ^ 62) (h : P (.int xs.length) W) : Cal w hb L k m R (.builtin "len") [.ref l] W P :=
  cal_len hm ho (by simpa using hlen) (by simpa using h)

/-! items -/
theorem sub_I {l : Addr} {o : AO} {ns : List Int} {i : Int} (hm : (l, o) ∈ R ++ W) (ho : o.lx = some (Ints ns)) (hlen : ns.length < 2 ^ 62) (h0 : 0 ≤ i) (hlt : i < ns.length) (hP : P (.int (ns.getD i.toNat 0)) W) :
    KSub2 R P (.ref l) (.int i) W :=
  ⟨l, o, _, i, .int (ns.getD i.toNat 0), rfl, rfl, hm, .inl ho, by simpa using hlen, by
    unfold idx? seqIndex?
    have h1 : ¬ i < 0 := by omega
    have h2 : i.toNat < ns.length := by omega
    simp [h1, h0, hlt, h2, List.getD_eq_getElem?_getD], hP⟩
theorem sub_last {l : Addr} {o : AO} {ns : List Int} {i : Int} (hm : (l, o) ∈ R ++ W) (ho : o.lx = some (Ints ns)) (hlen : ns.length < 2 ^ 62) (j : Nat) (hi : i = -(j : Int)) (hj : 0 < j) (hlt : j ≤ ns.length) (hP : P (.int (ns.getD (ns.length - j) 0)) W) :
    KSub2 R P (.ref l) (.int i) W :=
  ⟨l, o, _, i, .int (ns.getD (ns.length - j) 0), rfl, rfl, hm, .inl ho, by simpa using hlen, by
    subst hi
    unfold idx? seqIndex?
    have h1 : -(j : Int) < 0 := by omega
    have h2 : ns.length - j < ns.length := by omega
    have h3 : (-(j : Int) + (ns.length : Int)) = ((ns.length - j : Nat) : Int) := by omega
    simp only [List.length_map, h1, if_true, h3]
    simp [h2, List.getD_eq_getElem?_getD], hP⟩
theorem sub_tup {l : Addr} {xs : List AV} {i : Int} {x : AV} (hm : (l, .tup xs) ∈ R ++ W) (hlen : Nat.ble xs.length 9 = true) (hx : idx? i xs = some x) (hP : P x W) :
    KSub2 R P (.ref l) (.int i) W :=
  ⟨l, _, xs, i, x, rfl, rfl, hm, .inr rfl, Nat.lt_of_le_of_lt (Nat.le_of_ble_eq_true hlen) (by decide), hx, hP⟩
theorem sub_lst {l : Addr} {o : AO} {xs : List AV} {i : Int} {x : AV} (hm : (l, o) ∈ R ++ W) (ho : o.lx = some xs) (hlen : xs.length < 2 ^ 62) (hx : idx? i xs = some x) (hP : P x W) :
    KSub2 R P (.ref l) (.int i) W :=
  ⟨l, o, xs, i, x, rfl, rfl, hm, .inl ho, hlen, hx, hP⟩

theorem sl_upto {l : Addr} {o : AO} {xs : List AV} {n : Int} (hm : (l, o) ∈ R ++ W) (ho : o.lx = some xs) (hlen : xs.length ≤ sizeLine) (h0 : 0 ≤ n) (hP : ∀ a, P (.ref a) ((a, .pls (xs.take n.toNat)) :: W)) :
    KSl3 R P (.ref l) .none (.int n) W :=
  ⟨l, o, xs, xs.take n.toNat, none, some n, rfl, hm, ho, hlen, rfl, rfl, fun vs hv => ⟨0, n.toNat, by
    have := slicePick_upto' vs n.toNat
    rw [Int.toNat_of_nonneg h0] at this
    simpa using this, by simp⟩, hP⟩
theorem sl_uptoI {l : Addr} {o : AO} {ns : List Int} {n : Int} (hm : (l, o) ∈ R ++ W) (ho : o.lx = some (Ints ns)) (hlen : ns.length ≤ sizeLine) (h0 : 0 ≤ n) (hP : ∀ a, P (.ref a) ((a, .pls (Ints (ns.take n.toNat))) :: W)) :
    KSl3 R P (.ref l) .none (.int n) W :=
  sl_upto hm ho (by simpa using hlen) h0 (by simpa [Ints, List.map_take] using hP)
theorem sl_butI {l : Addr} {o : AO} {ns : List Int} {n : Int} (hm : (l, o) ∈ R ++ W) (ho : o.lx = some (Ints ns)) (hlen : ns.length ≤ sizeLine) (j : Nat) (hn : n = -(j : Int)) (h0 : 1 ≤ j) (hP : ∀ a, P (.ref a) ((a, .pls (Ints (ns.take (ns.length - j)))) :: W)) :
    KSl3 R P (.ref l) .none (.int n) W :=
  ⟨l, o, Ints ns, Ints (ns.take (ns.length - j)), none, some n, rfl, hm, ho, by simpa using hlen, rfl, rfl, fun vs hv => ⟨0, ns.length - j, by
    subst hn
    have := slicePick_butLast vs j h0
    have hv' : vs.size = ns.length := by simpa using hv
    rw [this, hv']; simp, by simp [Ints, List.map_take]⟩, hP⟩

theorem ok_mul {x y : Int} (h : -1000 < x) (h' : x < 1000) : IntMulOk x y := by
  refine IntMulOk.of_left ?_
  unfold Builtin.Int.intBits
  split
  · omega
  · rename_i hx
    have hx' : x.natAbs ≠ 0 := by
      intro e
      exact hx (by simp [Int.natAbs_eq_zero.mp e])
    have : x.natAbs.log2 < 10 := (Nat.log2_lt hx').mpr (by omega)
    omega

abbrev KWhX (w : World) (hb : Heap) (L : Addr) (k : Nat) (m : Vars) (R : Led) (env : Env) (P : FL → Vars → Led → Prop) (body : List Stmt) (J X : Vars → Led → Prop) : Bool → Led → Prop := fun b W => (b = true → Ex w hb L k R (execs body env) m W (turnP J P)) ∧ (b = false → ∃ W', Sub W' W ∧ X m W')
theorem exs_whileX (I : Nat → Vars → Led → Prop) (X : Vars → Led → Prop) {P : FL → Vars → Led → Prop} {rest : List Stmt} {m' : Vars} {W' : Led} {test : Expr} {body : List Stmt} {pos : Pos} {n : Nat} (hm : ∀ p ∈ m', p ∈ m) (hw : Sub W' W) (h0 : I n m' W')
    (turn : ∀ n m W, I n m W → EvB w hb L k m R (isTrue test env (eval test env)) W (KWhX w hb L k m R env P body (KLess I n) X))
    (hrest : ∀ m W, X m W → Ex w hb L k R (execs rest env) m W P) :
    Ex w hb L k R (execs (.While test body [] pos :: rest) env) m W P :=
  exs_while I hm hw h0 fun n m W hI => EvB.mono (turn n m W hI) fun b W₁ h => ⟨h.1, fun e => by
    obtain ⟨W₂, hs, hx⟩ := h.2 e
    exact ex_sub (fun _ h => h) hs (hrest m W₂ hx)⟩
end
end

section
section
variable {w : World} {hb : Heap} {L : Addr} {k : Nat} {m : Vars} {R W : Led} {env : Env} {P : AV → Led → Prop}
theorem o_extended {p pos : Pos} {e : Expr} {rest : List Expr} (B : Bs w hb) (G : Gl env) (hl : env.kindOf (Str.ofString "extended") = some .globalImplicit)
    (he : starEach (e :: rest) env = (false, eval e env) :: starEach rest env) (hp : (backTo pos (starEach rest env)).any (·.1) = false)
    (h : EvL w hb L k m R (spliced (backTo pos (starEach (e :: rest) env))) W (KCal w hb L k m R P (.ref 41))) :
    Ev w hb L k m R (eval (.Call (.Name (Str.ofString "extended") p) (e :: rest) [] pos) env) W P := ev_own B G.g G.k hl (by with_unfolding_all rfl) (by with_unfolding_all rfl) (by decide) he hp h
theorem o_inverse_mod {p pos : Pos} {e : Expr} {rest : List Expr} (B : Bs w hb) (G : Gl env) (hl : env.kindOf (Str.ofString "inverse_mod") = some .globalImplicit)
    (he : starEach (e :: rest) env = (false, eval e env) :: starEach rest env) (hp : (backTo pos (starEach rest env)).any (·.1) = false)
    (h : EvL w hb L k m R (spliced (backTo pos (starEach (e :: rest) env))) W (KCal w hb L k m R P (.ref 48))) :
    Ev w hb L k m R (eval (.Call (.Name (Str.ofString "inverse_mod") p) (e :: rest) [] pos) env) W P := ev_own B G.g G.k hl (by with_unfolding_all rfl) (by with_unfolding_all rfl) (by decide) he hp h
theorem o_mtrim {p pos : Pos} {e : Expr} {rest : List Expr} (B : Bs w hb) (G : Gl env) (hl : env.kindOf (Str.ofString "mtrim") = some .globalImplicit)
    (he : starEach (e :: rest) env = (false, eval e env) :: starEach rest env) (hp : (backTo pos (starEach rest env)).any (·.1) = false)
    (h : EvL w hb L k m R (spliced (backTo pos (starEach (e :: rest) env))) W (KCal w hb L k m R P (.ref 55))) :
    Ev w hb L k m R (eval (.Call (.Name (Str.ofString "mtrim") p) (e :: rest) [] pos) env) W P := ev_own B G.g G.k hl (by with_unfolding_all rfl) (by with_unfolding_all rfl) (by decide) he hp h
theorem o_mdegree {p pos : Pos} {e : Expr} {rest : List Expr} (B : Bs w hb) (G : Gl env) (hl : env.kindOf (Str.ofString "mdegree") = some .globalImplicit)
    (he : starEach (e :: rest) env = (false, eval e env) :: starEach rest env) (hp : (backTo pos (starEach rest env)).any (·.1) = false)
    (h : EvL w hb L k m R (spliced (backTo pos (starEach (e :: rest) env))) W (KCal w hb L k m R P (.ref 62))) :
    Ev w hb L k m R (eval (.Call (.Name (Str.ofString "mdegree") p) (e :: rest) [] pos) env) W P := ev_own B G.g G.k hl (by with_unfolding_all rfl) (by with_unfolding_all rfl) (by decide) he hp h
theorem o_madd {p pos : Pos} {e : Expr} {rest : List Expr} (B : Bs w hb) (G : Gl env) (hl : env.kindOf (Str.ofString "madd") = some .globalImplicit)
    (he : starEach (e :: rest) env = (false, eval e env) :: starEach rest env) (hp : (backTo pos (starEach rest env)).any (·.1) = false)
    (h : EvL w hb L k m R (spliced (backTo pos (starEach (e :: rest) env))) W (KCal w hb L k m R P (.ref 69))) :
    Ev w hb L k m R (eval (.Call (.Name (Str.ofString "madd") p) (e :: rest) [] pos) env) W P := ev_own B G.g G.k hl (by with_unfolding_all rfl) (by with_unfolding_all rfl) (by decide) he hp h
theorem o_mneg {p pos : Pos} {e : Expr} {rest : List Expr} (B : Bs w hb) (G : Gl env) (hl : env.kindOf (Str.ofString "mneg") = some .globalImplicit)
    (he : starEach (e :: rest) env = (false, eval e env) :: starEach rest env) (hp : (backTo pos (starEach rest env)).any (·.1) = false)
    (h : EvL w hb L k m R (spliced (backTo pos (starEach (e :: rest) env))) W (KCal w hb L k m R P (.ref 74))) :
    Ev w hb L k m R (eval (.Call (.Name (Str.ofString "mneg") p) (e :: rest) [] pos) env) W P := ev_own B G.g G.k hl (by with_unfolding_all rfl) (by with_unfolding_all rfl) (by decide) he hp h
theorem o_mscale {p pos : Pos} {e : Expr} {rest : List Expr} (B : Bs w hb) (G : Gl env) (hl : env.kindOf (Str.ofString "mscale") = some .globalImplicit)
    (he : starEach (e :: rest) env = (false, eval e env) :: starEach rest env) (hp : (backTo pos (starEach rest env)).any (·.1) = false)
    (h : EvL w hb L k m R (spliced (backTo pos (starEach (e :: rest) env))) W (KCal w hb L k m R P (.ref 86))) :
    Ev w hb L k m R (eval (.Call (.Name (Str.ofString "mscale") p) (e :: rest) [] pos) env) W P := ev_own B G.g G.k hl (by with_unfolding_all rfl) (by with_unfolding_all rfl) (by decide) he hp h
theorem o_mmul {p pos : Pos} {e : Expr} {rest : List Expr} (B : Bs w hb) (G : Gl env) (hl : env.kindOf (Str.ofString "mmul") = some .globalImplicit)
    (he : starEach (e :: rest) env = (false, eval e env) :: starEach rest env) (hp : (backTo pos (starEach rest env)).any (·.1) = false)
    (h : EvL w hb L k m R (spliced (backTo pos (starEach (e :: rest) env))) W (KCal w hb L k m R P (.ref 93))) :
    Ev w hb L k m R (eval (.Call (.Name (Str.ofString "mmul") p) (e :: rest) [] pos) env) W P := ev_own B G.g G.k hl (by with_unfolding_all rfl) (by with_unfolding_all rfl) (by decide) he hp h
theorem o_mdivmod {p pos : Pos} {e : Expr} {rest : List Expr} (B : Bs w hb) (G : Gl env) (hl : env.kindOf (Str.ofString "mdivmod") = some .globalImplicit)
    (he : starEach (e :: rest) env = (false, eval e env) :: starEach rest env) (hp : (backTo pos (starEach rest env)).any (·.1) = false)
    (h : EvL w hb L k m R (spliced (backTo pos (starEach (e :: rest) env))) W (KCal w hb L k m R P (.ref 100))) :
    Ev w hb L k m R (eval (.Call (.Name (Str.ofString "mdivmod") p) (e :: rest) [] pos) env) W P := ev_own B G.g G.k hl (by with_unfolding_all rfl) (by with_unfolding_all rfl) (by decide) he hp h
theorem o_mrest {p pos : Pos} {e : Expr} {rest : List Expr} (B : Bs w hb) (G : Gl env) (hl : env.kindOf (Str.ofString "mrest") = some .globalImplicit)
    (he : starEach (e :: rest) env = (false, eval e env) :: starEach rest env) (hp : (backTo pos (starEach rest env)).any (·.1) = false)
    (h : EvL w hb L k m R (spliced (backTo pos (starEach (e :: rest) env))) W (KCal w hb L k m R P (.ref 107))) :
    Ev w hb L k m R (eval (.Call (.Name (Str.ofString "mrest") p) (e :: rest) [] pos) env) W P := ev_own B G.g G.k hl (by with_unfolding_all rfl) (by with_unfolding_all rfl) (by decide) he hp h
theorem o_gf_multiply {p pos : Pos} {e : Expr} {rest : List Expr} (B : Bs w hb) (G : Gl env) (hl : env.kindOf (Str.ofString "gf_multiply") = some .globalImplicit)
    (he : starEach (e :: rest) env = (false, eval e env) :: starEach rest env) (hp : (backTo pos (starEach rest env)).any (·.1) = false)
    (h : EvL w hb L k m R (spliced (backTo pos (starEach (e :: rest) env))) W (KCal w hb L k m R P (.ref 128))) :
    Ev w hb L k m R (eval (.Call (.Name (Str.ofString "gf_multiply") p) (e :: rest) [] pos) env) W P := ev_own B G.g G.k hl (by with_unfolding_all rfl) (by with_unfolding_all rfl) (by decide) he hp h
theorem o_gf_power {p pos : Pos} {e : Expr} {rest : List Expr} (B : Bs w hb) (G : Gl env) (hl : env.kindOf (Str.ofString "gf_power") = some .globalImplicit)
    (he : starEach (e :: rest) env = (false, eval e env) :: starEach rest env) (hp : (backTo pos (starEach rest env)).any (·.1) = false)
    (h : EvL w hb L k m R (spliced (backTo pos (starEach (e :: rest) env))) W (KCal w hb L k m R P (.ref 142))) :
    Ev w hb L k m R (eval (.Call (.Name (Str.ofString "gf_power") p) (e :: rest) [] pos) env) W P := ev_own B G.g G.k hl (by with_unfolding_all rfl) (by with_unfolding_all rfl) (by decide) he hp h
theorem o_gf_conjugates {p pos : Pos} {e : Expr} {rest : List Expr} (B : Bs w hb) (G : Gl env) (hl : env.kindOf (Str.ofString "gf_conjugates") = some .globalImplicit)
    (he : starEach (e :: rest) env = (false, eval e env) :: starEach rest env) (hp : (backTo pos (starEach rest env)).any (·.1) = false)
    (h : EvL w hb L k m R (spliced (backTo pos (starEach (e :: rest) env))) W (KCal w hb L k m R P (.ref 149))) :
    Ev w hb L k m R (eval (.Call (.Name (Str.ofString "gf_conjugates") p) (e :: rest) [] pos) env) W P := ev_own B G.g G.k hl (by with_unfolding_all rfl) (by with_unfolding_all rfl) (by decide) he hp h
theorem o_number_of {p pos : Pos} {e : Expr} {rest : List Expr} (B : Bs w hb) (G : Gl env) (hl : env.kindOf (Str.ofString "number_of") = some .globalImplicit)
    (he : starEach (e :: rest) env = (false, eval e env) :: starEach rest env) (hp : (backTo pos (starEach rest env)).any (·.1) = false)
    (h : EvL w hb L k m R (spliced (backTo pos (starEach (e :: rest) env))) W (KCal w hb L k m R P (.ref 156))) :
    Ev w hb L k m R (eval (.Call (.Name (Str.ofString "number_of") p) (e :: rest) [] pos) env) W P := ev_own B G.g G.k hl (by with_unfolding_all rfl) (by with_unfolding_all rfl) (by decide) he hp h
theorem o_gf_trace {p pos : Pos} {e : Expr} {rest : List Expr} (B : Bs w hb) (G : Gl env) (hl : env.kindOf (Str.ofString "gf_trace") = some .globalImplicit)
    (he : starEach (e :: rest) env = (false, eval e env) :: starEach rest env) (hp : (backTo pos (starEach rest env)).any (·.1) = false)
    (h : EvL w hb L k m R (spliced (backTo pos (starEach (e :: rest) env))) W (KCal w hb L k m R P (.ref 163))) :
    Ev w hb L k m R (eval (.Call (.Name (Str.ofString "gf_trace") p) (e :: rest) [] pos) env) W P := ev_own B G.g G.k hl (by with_unfolding_all rfl) (by with_unfolding_all rfl) (by decide) he hp h
theorem o_gf_norm {p pos : Pos} {e : Expr} {rest : List Expr} (B : Bs w hb) (G : Gl env) (hl : env.kindOf (Str.ofString "gf_norm") = some .globalImplicit)
    (he : starEach (e :: rest) env = (false, eval e env) :: starEach rest env) (hp : (backTo pos (starEach rest env)).any (·.1) = false)
    (h : EvL w hb L k m R (spliced (backTo pos (starEach (e :: rest) env))) W (KCal w hb L k m R P (.ref 170))) :
    Ev w hb L k m R (eval (.Call (.Name (Str.ofString "gf_norm") p) (e :: rest) [] pos) env) W P := ev_own B G.g G.k hl (by with_unfolding_all rfl) (by with_unfolding_all rfl) (by decide) he hp h
theorem o_gf_least {p pos : Pos} {e : Expr} {rest : List Expr} (B : Bs w hb) (G : Gl env) (hl : env.kindOf (Str.ofString "gf_least") = some .globalImplicit)
    (he : starEach (e :: rest) env = (false, eval e env) :: starEach rest env) (hp : (backTo pos (starEach rest env)).any (·.1) = false)
    (h : EvL w hb L k m R (spliced (backTo pos (starEach (e :: rest) env))) W (KCal w hb L k m R P (.ref 175))) :
    Ev w hb L k m R (eval (.Call (.Name (Str.ofString "gf_least") p) (e :: rest) [] pos) env) W P := ev_own B G.g G.k hl (by with_unfolding_all rfl) (by with_unfolding_all rfl) (by decide) he hp h
theorem o_gf_at {p pos : Pos} {e : Expr} {rest : List Expr} (B : Bs w hb) (G : Gl env) (hl : env.kindOf (Str.ofString "gf_at") = some .globalImplicit)
    (he : starEach (e :: rest) env = (false, eval e env) :: starEach rest env) (hp : (backTo pos (starEach rest env)).any (·.1) = false)
    (h : EvL w hb L k m R (spliced (backTo pos (starEach (e :: rest) env))) W (KCal w hb L k m R P (.ref 182))) :
    Ev w hb L k m R (eval (.Call (.Name (Str.ofString "gf_at") p) (e :: rest) [] pos) env) W P := ev_own B G.g G.k hl (by with_unfolding_all rfl) (by with_unfolding_all rfl) (by decide) he hp h
theorem o_law_draw {p pos : Pos} {e : Expr} {rest : List Expr} (B : Bs w hb) (G : Gl env) (hl : env.kindOf (Str.ofString "_law_draw") = some .globalImplicit)
    (he : starEach (e :: rest) env = (false, eval e env) :: starEach rest env) (hp : (backTo pos (starEach rest env)).any (·.1) = false)
    (h : EvL w hb L k m R (spliced (backTo pos (starEach (e :: rest) env))) W (KCal w hb L k m R P (.ref 206))) :
    Ev w hb L k m R (eval (.Call (.Name (Str.ofString "_law_draw") p) (e :: rest) [] pos) env) W P := ev_own B G.g G.k hl (by with_unfolding_all rfl) (by with_unfolding_all rfl) (by decide) he hp h
theorem o_law_cut {p pos : Pos} {e : Expr} {rest : List Expr} (B : Bs w hb) (G : Gl env) (hl : env.kindOf (Str.ofString "_law_cut") = some .globalImplicit)
    (he : starEach (e :: rest) env = (false, eval e env) :: starEach rest env) (hp : (backTo pos (starEach rest env)).any (·.1) = false)
    (h : EvL w hb L k m R (spliced (backTo pos (starEach (e :: rest) env))) W (KCal w hb L k m R P (.ref 213))) :
    Ev w hb L k m R (eval (.Call (.Name (Str.ofString "_law_cut") p) (e :: rest) [] pos) env) W P := ev_own B G.g G.k hl (by with_unfolding_all rfl) (by with_unfolding_all rfl) (by decide) he hp h
theorem o_law_values_right {p pos : Pos} {e : Expr} {rest : List Expr} (B : Bs w hb) (G : Gl env) (hl : env.kindOf (Str.ofString "_law_values_right") = some .globalImplicit)
    (he : starEach (e :: rest) env = (false, eval e env) :: starEach rest env) (hp : (backTo pos (starEach rest env)).any (·.1) = false)
    (h : EvL w hb L k m R (spliced (backTo pos (starEach (e :: rest) env))) W (KCal w hb L k m R P (.ref 220))) :
    Ev w hb L k m R (eval (.Call (.Name (Str.ofString "_law_values_right") p) (e :: rest) [] pos) env) W P := ev_own B G.g G.k hl (by with_unfolding_all rfl) (by with_unfolding_all rfl) (by decide) he hp h

theorem ok_mul' {x y : Int} (h : -1000 < y) (h' : y < 1000) : IntMulOk x y := by
  have := ok_mul (y := x) h h'
  unfold IntMulOk at this ⊢
  rw [Int.add_comm, Bool.and_comm (decide (Builtin.Int.intBits x > shortFactorBits))]
  exact this

theorem neg_of {x : Int} (h : P (.int (-x)) W) : KNeg P (.int x) W := ⟨x, rfl, h⟩

theorem rd_nil {W : Led} : ∀ p ∈ ([] : Led), p ∈ W := fun _ h => nomatch h
theorem rd_cons {W R' : Led} {a : Addr} {o : AO} (h : (a, o) ∈ W) (h' : ∀ p ∈ R', p ∈ W) : ∀ p ∈ ((a, o) :: R'), p ∈ W := fun p hp => by
  rcases List.mem_cons.mp hp with rfl | hp
  · exact h
  · exact h' p hp

theorem cal_fn1 {f : Addr} {j : Nat} {as : List AV} {R' : Led} {o : AO} (H : Fn w hb f j as R' (fun r N => ∃ a, r = .ref a ∧ N = [(a, o)])) (hj : j ≤ k) (hR : ∀ p ∈ R', p ∈ R ++ W) (h : ∀ a, P (.ref a) ((a, o) :: W)) : Cal w hb L k m R (.ref f) as W P :=
  cal_fn H hj hR fun a N hN => by obtain ⟨a', rfl, rfl⟩ := hN; exact h a'
theorem cal_fnI {f : Addr} {j : Nat} {as : List AV} {R' : Led} {x : AV} (H : Fn w hb f j as R' (fun r N => r = x ∧ N = [])) (hj : j ≤ k) (hR : ∀ p ∈ R', p ∈ R ++ W) (h : P x W) : Cal w hb L k m R (.ref f) as W P :=
  cal_fn H hj hR fun a N hN => by obtain ⟨rfl, rfl⟩ := hN; exact h

theorem iter_range0 {l : Addr} {N : Nat} (hm : (l, .rng 0 (N : Int) 1) ∈ R ++ W) (hN : N < 1000) : IterC w hb L R (.ref l) W W N (fun i => .int i) := by
  have e0 : Builtin.Range.rangeSize 0 (N : Int) 1 = (N : Int) := by
    rw [rangeSize_one, Int.sub_zero]
    split
    · rfl
    · rename_i q
      exact Int.le_antisymm (Int.natCast_nonneg _) (Int.not_lt.mp q)
  have e : (Builtin.Range.rangeSize 0 (N : Int) 1).toNat = N := by rw [e0]; rfl
  have h := iter_range (w := w) (hb := hb) (L := L) hm (small_one (by decide) (by decide) (Int.le_trans (by decide) (Int.natCast_nonneg N)) (Int.lt_trans (Int.ofNat_lt.mpr hN) (by decide))) (by rw [e0]; omega)
  rw [e] at h
  simpa using h
theorem iter_down {l : Addr} {N : Int} {d : Nat} (hN : d = (N + 1).toNat) (hm : (l, .rng N (-1) (-1)) ∈ R ++ W) (hd : d < 1000) (h1 : -1000 < N) : IterC w hb L R (.ref l) W W d (fun i => .int (N - i)) := by
  have f : ∀ i : Int, -1000 < i → i < 1000 → Builtin.Range.rangeFitsLong i = true := fun i h h' =>
    Bool.and_eq_true_iff.mpr ⟨decide_eq_true (Int.le_trans (by decide) (Int.le_of_lt h)), decide_eq_true (Int.lt_trans h' (by decide))⟩
  have hN' : N < 1000 := Int.lt_of_lt_of_le (Int.lt_add_one_of_le (Int.le_refl N)) (Int.le_trans (Int.self_le_toNat _) (by rw [← hN]; exact Int.ofNat_le.mpr (Nat.le_of_lt hd)))
  have e : Builtin.Range.rangeSize N (-1) (-1) = d := by
    unfold Builtin.Range.rangeSize
    rw [if_neg (by decide), show (N - -1 - 1) / (- -1) = N from by rw [show (- -1 : Int) = 1 from rfl, Int.ediv_one, Int.sub_neg, Int.add_sub_cancel], hN]
    split
    · rename_i q
      exact (Int.toNat_of_nonneg (Int.le_add_one (show (0 : Int) ≤ N from q))).symm
    · rename_i q
      rw [Int.toNat_of_nonpos (show N + 1 ≤ 0 from Int.add_le_add_right (Int.not_lt.mp q) 1)]
      rfl
  have hs : Builtin.Range.small N (-1) (-1) = true := by
    unfold Builtin.Range.small
    rw [e, f N h1 hN', f d (Int.lt_of_lt_of_le (by decide) (Int.natCast_nonneg _)) (Int.ofNat_lt.mpr hd)]
    exact Bool.or_true _
  have h := iter_range (w := w) (hb := hb) (L := L) hm hs (by rw [e]; omega)
  rw [e] at h
  simpa [Int.sub_eq_add_neg] using h

theorem exs_cut (J : Vars → Led → Prop) {P : FL → Vars → Led → Prop} {st : Stmt} {rest : List Stmt} (h : Ex w hb L k R (exec st env) m W (turnP J P)) (hr : ∀ m W, J m W → Ex w hb L k R (execs rest env) m W P) : Ex w hb L k R (execs (st :: rest) env) m W P :=
  exs_of (Ex.mono h fun f m' W' hp => by
    cases f with
    | next =>
      obtain ⟨m₂, W₂, hm, hw, hJ⟩ := hp
      exact ex_sub hm hw (hr m₂ W₂ hJ)
    | ret a => exact hp)
end
end

section
theorem map_mem {W W' : Led} (hw : Sub W' W) {a : Addr} (h : a ∈ W'.map (·.1)) : a ∈ W.map (·.1) := by
  obtain ⟨p, hp, e⟩ := List.mem_map.mp h
  exact List.mem_map.mpr ⟨p, hw.mem p hp, e⟩

/-- what does not change around a comprehension: h₁ is the heap at its start, C its frame, D its list -/
structure CompX (hb : Heap) (L C D : Addr) (m : Vars) (R W₁ W₃ : Led) (h₁ : Heap) (fp wr : List Addr) : Prop where
  S : Sta hb L m R W₁ h₁
  hW : Sub W₃ W₁
  sub : ∀ b ∈ wr, b ∈ fp
  nwr : ∀ b ∈ wr, h₁.get? b = none
  nC : h₁.get? C = none
  nD : h₁.get? D = none
  DC : D ≠ C
  fpC : ∀ b ∈ fp, b ≠ C
  fpD : ∀ b ∈ fp, b ≠ D
/-- what holds ahead of turn i -/
structure CompI (hb : Heap) (C D : Addr) (R W₃ : Led) (h₁ : Heap) (fp : List Addr) (n : Nat) (St : Nat → Heap → Prop) (J : Nat → List AV → Led → Prop) (i : Nat) (h' : Heap) (m' : Vars) (W' : Led) (done : List AV) (vs : List Value) : Prop where
  S : Sta hb C m' R W' h'
  hJ : J i done W'
  st : St i h'
  le : i ≤ n
  ap : ∀ b ∈ fp, b ∉ W'.map (·.1)
  pl : h'.PlainList D vs.toArray
  hv : vs.map av = done.map some
  len : done.length = i
  dw : D ∉ W'.map (·.1)
  keep : ∀ b o, b ∉ W₃.map (·.1) → h₁.get? b = some o → h'.get? b = some o
  fresh : ∀ a ∈ W'.map (·.1), a ∈ W₃.map (·.1) ∨ h₁.get? a = none
theorem no_some {h : Heap} {a : Addr} {o : Obj} {p : Prop} (h1 : h.get? a = none) (h2 : h.get? a = some o) : p := by rw [h1] at h2; cases h2
theorem none_of {h h' : Heap} (k : ∀ b o, h.get? b = some o → h'.get? b = some o) {a : Addr} (ha : h'.get? a = none) : h.get? a = none := by
  cases e : h.get? a with
  | none => rfl
  | some o => exact no_some ha (k a o e)
theorem AO.not_none {h : Heap} {a : Addr} {o : AO} {p : Prop} (ho : o.at h a) (hn : h.get? a = none) : p := by
  obtain ⟨b, hb⟩ := AO.at_some ho
  exact no_some hn hb
section
variable {hb : Heap} {L C D : Addr} {m : Vars} {R W₁ W₃ : Led} {h₁ : Heap} {fp wr : List Addr} {n i : Nat} {St : Nat → Heap → Prop} {J : Nat → List AV → Led → Prop} {h' h₄ h₅ : Heap} {m' : Vars} {W' : Led} {done : List AV} {vs : List Value}
theorem CompX.nb (X : CompX hb L C D m R W₁ W₃ h₁ fp wr) {a : Addr} (ha : h₁.get? a = none) : hb.get? a = none := none_of X.S.bs ha
theorem CompX.nR (X : CompX hb L C D m R W₁ W₃ h₁ fp wr) {a : Addr} (ha : h₁.get? a = none) : a ∉ R.map (·.1) := fun q => by
  obtain ⟨p, hp, e⟩ := List.mem_map.mp q
  exact AO.not_none (X.S.rd p hp).1 (e ▸ ha)
theorem CompX.ap (X : CompX hb L C D m R W₁ W₃ h₁ fp wr) (I : CompI hb C D R W₃ h₁ fp n St J i h' m' W' done vs) : ∀ b ∈ wr, hb.get? b = none ∧ b ≠ C ∧ b ∉ R.map (·.1) ∧ b ∉ W'.map (·.1) :=
  fun b q => ⟨X.nb (X.nwr b q), X.fpC b (X.sub b q), X.nR (X.nwr b q), I.ap b (X.sub b q)⟩
theorem CompX.up (X : CompX hb L C D m R W₁ W₃ h₁ fp wr) (I : CompI hb C D R W₃ h₁ fp n St J i h' m' W' done vs) (k₄ : ∀ b o, b ≠ C → b ∉ wr → h'.get? b = some o → h₄.get? b = some o)
    {b : Addr} {o : Obj} (q : b ∉ W₃.map (·.1)) (e : h₁.get? b = some o) : h₄.get? b = some o :=
  k₄ b o (fun z => no_some (z ▸ X.nC) e) (fun z => no_some (X.nwr b z) e) (I.keep b o q e)
theorem CompX.pl (X : CompX hb L C D m R W₁ W₃ h₁ fp wr) (I : CompI hb C D R W₃ h₁ fp n St J i h' m' W' done vs) (k₄ : ∀ b o, b ≠ C → b ∉ wr → h'.get? b = some o → h₄.get? b = some o) : h₄.PlainList D vs.toArray :=
  I.pl.at fun o e => k₄ D o X.DC (fun q => X.fpD D (X.sub D q) rfl) e
theorem CompX.dw (X : CompX hb L C D m R W₁ W₃ h₁ fp wr) (I : CompI hb C D R W₃ h₁ fp n St J i h' m' W' done vs) (k₄ : ∀ b o, b ≠ C → b ∉ wr → h'.get? b = some o → h₄.get? b = some o) {W₅ : Led} (sp₅ : Stp (W'.map (·.1)) h₄ W₅ h₅) : D ∉ W₅.map (·.1) := fun q => by
  rcases sp₅.fresh D q with z | z
  · exact I.dw z
  · obtain ⟨n, e⟩ := X.pl I k₄
    exact no_some z e
theorem CompI.step (X : CompX hb L C D m R W₁ W₃ h₁ fp wr) (I : CompI hb C D R W₃ h₁ fp n St J i h' m' W' done vs) (hfr : ∀ i h h', St i h → (∀ b ∈ fp, ∀ o, h.get? b = some o → h'.get? b = some o) → St i h') (hhere : ∀ i h, St i h → ∀ b ∈ fp, ∃ o, h.get? b = some o)
    (hlt : i < n) (st₄ : St (i + 1) h₄) (k₄ : ∀ b o, b ≠ C → b ∉ wr → h'.get? b = some o → h₄.get? b = some o) {m₅ : Vars} {W₅ W₆ : Led} (S₅ : Sta hb C m₅ R W₅ h₅) (sp₅ : Stp (W'.map (·.1)) h₄ W₅ h₅) (hw₆ : Sub W₆ W₅)
    {y : AV} {u : Value} (hJ₆ : J (i + 1) (done ++ [y]) W₆) (eu : av u = some y) {h₆ : Heap} (hl₆ : h₆.PlainList D (vs.toArray.push u)) (hs₆ : Heap.SameBut D h₅ h₆) : CompI hb C D R W₃ h₁ fp n St J (i + 1) h₆ m₅ W₆ (done ++ [y]) (vs ++ [u]) :=
  have dw := X.dw I k₄ sp₅
  { S := (S₅.keepBut (X := [D]) (fun b o q e => (hs₆.2 b (fun z => q (z ▸ .head _))).trans e) (fun b q => by
      rw [List.mem_singleton.mp q]
      exact ⟨X.nb X.nD, X.DC, X.nR X.nD, dw⟩)).sub (fun _ h => h) hw₆
    hJ := hJ₆
    st := hfr _ _ _ st₄ fun b q o e => (hs₆.2 b (X.fpD b q)).trans (sp₅.keep b o (I.ap b q) e)
    le := hlt
    ap := fun b q z => by
      rcases sp₅.fresh b (map_mem hw₆ z) with z | z
      · exact I.ap b q z
      · obtain ⟨o, ho⟩ := hhere _ _ st₄ b q
        exact no_some z ho
    pl := by rw [← List.push_toArray]; exact hl₆
    hv := by rw [List.map_append, List.map_append, I.hv, List.map_singleton, eu]; rfl
    len := by rw [List.length_append, I.len]; rfl
    dw := fun q => dw (map_mem hw₆ q)
    keep := fun b o q e => (hs₆.2 b (fun z => no_some (z ▸ X.nD) e)).trans (sp₅.keep b o (fun z => (I.fresh b z).elim q fun z => no_some z e) (X.up I k₄ q e))
    fresh := fun a q => by
      by_cases ha3 : a ∈ W₃.map (·.1)
      · exact .inl ha3
      · rcases sp₅.fresh a (map_mem hw₆ q) with z | z
        · exact I.fresh a z
        · refine .inr ?_
          cases e : h₁.get? a with
          | none => rfl
          | some o => exact no_some z (X.up I k₄ ha3 e) }
theorem CompI.end_sta (X : CompX hb L C D m R W₁ W₃ h₁ fp wr) (I : CompI hb C D R W₃ h₁ fp n St J i h' m' W' done vs) (up : ∀ b o, b ≠ C → b ∉ wr → h'.get? b = some o → h₅.get? b = some o) : Sta hb L m R ((D, .pls done) :: W') h₅ :=
  have hLw : L ∉ W₃.map (·.1) := fun q => by
    obtain ⟨p, hp, e⟩ := List.mem_map.mp (map_mem X.hW q)
    exact (X.S.wr p hp).2.1 e
  { bs := fun b o e => up b o (fun q => no_some (q ▸ X.nb X.nC) e) (fun q => no_some (X.nb (X.nwr b q)) e) (I.S.bs b o e)
    hl := X.S.hl
    ns := by
      obtain ⟨M, ⟨ob, es, ep, e, rr⟩, hM⟩ := X.S.ns
      exact ⟨M, ⟨ob, es, ep, X.up I up hLw e, rr⟩, hM⟩
    rd := fun p hp => ⟨AO.at_mono (I.S.rd p hp).1 fun b e => up _ b (I.S.rd p hp).2.1 (fun q => AO.not_none (X.S.rd p hp).1 (X.nwr _ q)) e, (X.S.rd p hp).2.1, fun q => by
      rcases List.mem_cons.mp q with q | q
      · exact AO.not_none (X.S.rd p hp).1 (q ▸ X.nD)
      · exact (I.S.rd p hp).2.2 q⟩
    wr := fun p hp => by
      rcases List.mem_cons.mp hp with rfl | hp
      · refine ⟨?_, fun q => ?_, X.nb X.nD⟩
        · obtain ⟨nn, e⟩ := I.pl
          exact ⟨vs, nn, up D _ X.DC (fun q => X.fpD D (X.sub D q) rfl) e, I.hv⟩
        · obtain ⟨o, ho⟩ := X.S.L_some
          exact no_some X.nD (q ▸ ho)
      · refine ⟨AO.at_mono (I.S.wr p hp).1 fun b e => up _ b (I.S.wr p hp).2.1 (fun q => (X.ap I _ q).2.2.2 (List.mem_map.mpr ⟨p, hp, rfl⟩)) e, fun q => ?_, (I.S.wr p hp).2.2⟩
        rcases I.fresh p.1 (List.mem_map.mpr ⟨p, hp, rfl⟩) with z | z
        · exact hLw (q ▸ z)
        · obtain ⟨o, ho⟩ := X.S.L_some
          exact no_some (q ▸ z) ho
    nd := List.nodup_cons.mpr ⟨I.dw, I.S.nd⟩ }
theorem CompI.end_stp (X : CompX hb L C D m R W₁ W₃ h₁ fp wr) (I : CompI hb C D R W₃ h₁ fp n St J i h' m' W' done vs) (up : ∀ b o, b ≠ C → b ∉ wr → h'.get? b = some o → h₅.get? b = some o) : Stp (W₁.map (·.1)) h₁ ((D, .pls done) :: W') h₅ :=
  ⟨fun b o q e => X.up I up (fun z => q (map_mem X.hW z)) e, fun a ha => by
    rcases List.mem_cons.mp ha with rfl | ha
    · exact .inr X.nD
    · exact (I.fresh a ha).imp (map_mem X.hW) id⟩
end

theorem comp_vars {m : Vars} {x : String} {a : AV} : ∀ p ∈ [(x, a)], p ∈ vset m x a := fun p hp => by
  rw [List.mem_singleton.mp hp]; exact .head _
theorem comp_start {hb : Heap} {w : World} {env : Env} {L C D it : Addr} {m : Vars} {R W₁ W₂ W₃ : Led} {h₁ h₂ h₃ H2 : Heap} {fp wr : List Addr} {n : Nat} {St : Nat → Heap → Prop} {J : Nat → List AV → Led → Prop} {tgt : Expr} {upd : Nat → Vars → Vars} {M : Str → Option Value}
    (hDe : D = h₂.objs.size) (hCe : C = H2.objs.size) (hH2 : h₂.push { cls := .type "list", dict := none, data := .seq ([] : List Value).toArray } = H2) (S₁ : Sta hb L m R W₁ h₁) (hW : Sub W₃ W₁) (Tc : Itr w hb env C R tgt it fp wr n upd St) (st₂ : St 0 h₂)
    (k₂ : ∀ b o, h₁.get? b = some o → h₂.get? b = some o) (hwr : ∀ b ∈ wr, h₁.get? b = none) (hfp : ∀ b ∈ fp, b ∈ wr ∨ (b ∉ W₂.map (·.1) ∧ b ≠ L ∧ ∃ o, h₁.get? b = some o)) (hw : Sub W₃ W₂) (hns₃ : h₃.Ns C M) {ob : Obj} (hsb₃ : Heap.SameBut C (H2.push ob) h₃) (hJ : J 0 [] W₃) :
    CompX hb L C D m R W₁ W₃ h₁ fp wr ∧ CompI hb C D R W₃ h₁ fp n St J 0 h₃ [] W₃ [] [] := by
  have hC : C = D + 1 := by rw [hCe, ← hH2, Heap.size_push, hDe]
  have fresh : ∀ a, D ≤ a → h₂.get? a = none := fun a ha => by
    cases e : h₂.get? a with
    | none => rfl
    | some o' => exact absurd (Heap.lt_size e) (Nat.not_lt.mpr (hDe ▸ ha))
  have hDn := fresh D (Nat.le_refl _)
  have hCn := fresh C (hC ▸ Nat.le_succ _)
  have hDC : D ≠ C := hC ▸ Nat.ne_of_lt (Nat.lt_succ_self _)
  have old : ∀ b o, h₂.get? b = some o → h₃.get? b = some o := fun b o e => hsb₃.extBut b o (fun q => no_some (q ▸ hCn) e) (Heap.get?_push_of_some _ (hH2 ▸ Heap.get?_push_of_some _ e))
  have hacc : h₃.PlainList D (([] : List Value).toArray) := ⟨_, hsb₃.extBut _ _ hDC (Heap.get?_push_of_some _ (hH2 ▸ hDe ▸ Heap.get?_push_size _ rfl))⟩
  have fpe := Tc.here _ _ st₂
  have X : CompX hb L C D m R W₁ W₃ h₁ fp wr := ⟨S₁, hW, Tc.sub, hwr, none_of k₂ hCn, none_of k₂ hDn, hDC, fun b q z => by
      obtain ⟨o, ho⟩ := fpe b q
      exact no_some (z ▸ hCn) ho, fun b q z => by
      obtain ⟨o, ho⟩ := fpe b q
      exact no_some (z ▸ hDn) ho⟩
  have nW : ∀ {a}, h₁.get? a = none → a ∉ W₁.map (·.1) := fun ha => (S₁.apartR ha).2
  refine ⟨X, {
    bs := fun b o e => old b o (k₂ b o (S₁.bs b o e))
    hl := X.nb X.nC
    ns := ⟨_, hns₃, fun p hp => nomatch hp⟩
    rd := fun p hp => ⟨AO.at_mono (S₁.rd p hp).1 fun b e => old _ _ (k₂ _ _ e), (fun q => X.nR X.nC (List.mem_map.mpr ⟨p, hp, q⟩)), fun q => (S₁.rd p hp).2.2 (map_mem hW q)⟩
    wr := fun p hp => ⟨AO.at_mono (S₁.wr p (hW.mem p hp)).1 fun b e => old _ _ (k₂ _ _ e), (fun q => nW X.nC (List.mem_map.mpr ⟨p, hW.mem p hp, q⟩)), (S₁.wr p (hW.mem p hp)).2.2⟩
    nd := hW.nd S₁.nd }, hJ, Tc.frame _ _ _ st₂ (fun b _ o e => old b o e), Nat.zero_le _, fun b q z => ?_, hacc, rfl, rfl, fun q => nW X.nD (map_mem hW q), fun b o _ e => old b o (k₂ b o e), fun a ha => .inl ha⟩
  rcases hfp b q with y | y
  · exact nW (hwr b y) (map_mem hW z)
  · exact y.1 (map_mem hw z)
section
variable {w : World} {hb : Heap} {L : Addr} {k : Nat} {m : Vars} {R W : Led} {env : Env} {P : AV → Led → Prop}

abbrev KElt (J : Nat → List AV → Led → Prop) (i : Nat) (done : List AV) : AV → Led → Prop := fun y W => ∃ W', Sub W' W ∧ J (i + 1) (done ++ [y]) W'
abbrev KComp (w : World) (hb : Heap) (L : Addr) (k : Nat) (R : Led) (env : Env) (P : AV → Led → Prop) (elt : Expr) (x : String) (scope : Scope) (cl : List (Str × Addr)) : AV → Led → Prop := fun a W => ∃ n item W₂ W₃, ∃ J : Nat → List AV → Led → Prop, IterC w hb L R a W W₂ n item ∧ Sub W₃ W₂ ∧ n ≤ sizeLine ∧ J 0 [] W₃ ∧
      (∀ C i done W, i < n → done.length = i → J i done W → Ev w hb C k [(x, item i)] R (eval elt (compEnvC scope cl C env)) W (KElt J i done)) ∧
      (∀ done W, done.length = n → J n done W → ∀ D, P (.ref D) ((D, .pls done) :: W))
theorem ev_comp {elt iter : Expr} {x : String} {px pos : Pos} {scope : Scope} {cl : List (Str × Addr)}
    (hclos : closureFor scope env = pure cl) (hcell : ∀ y ∈ scope.names, y.2 ≠ .cell) (hkind : scope.kind = .function) (hnames : ∀ y ∈ scope.names, y.2 = .local → scope.names.lookup y.1 = some .local)
    (hx : scope.names.lookup (Str.ofString x) = some .local) (hs : ∀ x, foldedSetIterable iter env x = pure x)
    (h : Ev w hb L k m R (eval iter env) W (KComp w hb L k R env P elt x scope cl)) :
    Ev w hb L k m R (eval (.ListComp elt [⟨.Name (Str.ofString x) px, iter, [], 0⟩] scope pos) env) W P := fun A s Q E r S hQ => by
  rw [eval_ListComp]
  refine wpAny_comprehension_free (use := none) rfl hs hclos hkind hnames (h A s _ E r S fun v a W₁ h₁ tk₁ ea p₁ S₁ sp₁ => ?_)
  obtain ⟨n, item, W₂, W₃, J, hit, hw, hnl, hJ, turn, fin⟩ := p₁
  refine hit A { s with heap := h₁, toks := tk₁ } _ _ v m ea r.hh S₁ fun it fp wr St h₂ tk₂ T st₂ k₂ hwr hfp hsub => ?_
  refine wpAny_newObj_type (wpAny_newFunctionEnv hcell (by intro y hy; simp at hy) (fun h₃ hns₃ hsb₃ => ?_) hkind)
  dsimp only at hns₃ hsb₃ ⊢
  generalize hH2 : h₂.push { cls := .type "list", dict := none, data := .seq ([] : List Value).toArray } = H2 at hns₃ hsb₃ ⊢
  obtain ⟨D, hDe⟩ : ∃ D, D = h₂.objs.size := ⟨_, rfl⟩
  obtain ⟨C, hCe⟩ : ∃ C, C = H2.objs.size := ⟨_, rfl⟩
  rw [← hDe, ← hCe]
  rw [← hCe] at hns₃ hsb₃
  have st := comp_start hDe hCe hH2 S₁ (hw.trans hsub) (T (compEnvC scope cl C env) x px (by simpa [compEnvC, relabel] using hkind) (lookup_relabel_local hx)).1 st₂ k₂ hwr hfp hw hns₃ hsb₃ hJ
  clear hH2 hDe hCe hns₃ hsb₃ hfp
  obtain ⟨X, I₀⟩ := st
  have T2 := T (compEnvC scope cl C env) x px (by simpa [compEnvC, relabel] using hkind) (lookup_relabel_local hx)
  have loop : ∀ tk₃, codeAny (model PG w) A (.compLoop (.ListComp elt [⟨.Name (Str.ofString x) px, iter, [], 0⟩] scope pos) 0 (.ref it) (.ref D) (compEnvC scope cl C env))
      (compPost (model PG w) A E none Q (.ref D) C) { s with heap := h₃, toks := tk₃ } := by
    intro tk₃
    refine codeAny_compLoop_tests (fun j s' => ∃ h' tk m' W' i done vs, s' = { s with heap := h', toks := tk } ∧ CompI hb C D R W₃ h₁ fp n St J i h' m' W' done vs ∧ j = n + 1 - i) ?_ (n + 1) ⟨h₃, tk₃, [], W₃, 0, [], [], rfl, I₀, rfl⟩
    rintro j s' ⟨h', tk, m', W', i, done, vs, rfl, I, rfl⟩
    by_cases hlt : i < n
    · have key := fun (Qb : Unit → Shared → Prop) (Et : Value → Shared → Prop) => T2.2 i A { s with heap := h', toks := tk } m' W' Qb Et hlt r.hh I.st I.S (X.ap I) X.fpC
      refine wpAny_mono (key _ _ ?body) (fun rr s₁ h => by
        cases rr with
        | none => exact h.elim
        | some v => exact h) (fun _ _ e => e)
      case body =>
        refine fun h₄ tk₄ S₄ st₄ k₄ => wpAny_tests_nil ?_
        rw [if_pos rfl]
        refine turn C i done W' hlt I.len I.hJ A { s with heap := h₄, toks := tk₄ } _ _ r (S₄.sub comp_vars .refl) fun u y W₅ h₅ tk₅ eu p₅ S₅ sp₅ => ?_
        obtain ⟨W₆, hw₆, hJ₆⟩ := p₅
        refine wpAny_list_append_plain (hsz := by rw [List.size_toArray, av_len I.hv, I.len]; exact Nat.le_trans I.le hnl) ((X.pl I k₄).at fun o e => sp₅.keep D o I.dw e) fun h₆ hl₆ hs₆ => ?_
        exact ⟨n + 1 - (i + 1), Nat.sub_lt_sub_left (Nat.lt_succ_of_lt hlt) (Nat.lt_succ_self i), h₆, tk₅, _, W₆, i + 1, done ++ [y], vs ++ [u], rfl, I.step X T2.1.frame T2.1.here hlt st₄ k₄ S₅ sp₅ hw₆ hJ₆ eu hl₆ hs₆, rfl⟩
    · obtain rfl : i = n := Nat.le_antisymm I.le (Nat.not_lt.mp hlt)
      refine T2.1.done A { s with heap := h', toks := tk } _ _ r.hh I.st fun h₄ tk₄ k₄ => ?_
      obtain ⟨M', hM', _⟩ := I.S.ns
      refine ⟨M', hM'.at fun o e => k₄ C o (fun q => X.fpC C (X.sub C q) rfl) e, fun h₅ hs₅ => ?_⟩
      have up : ∀ b o, b ≠ C → b ∉ wr → h'.get? b = some o → h₅.get? b = some o := fun b o q1 q2 e => (hs₅.2 b q1).trans (k₄ b o q2 e)
      exact hQ (.ref D) (.ref D) ((D, .pls done) :: W') h₅ tk₄ rfl (fin done W' I.len I.hJ D) (I.end_sta X up) (sp₁.ev (I.end_stp X up))
  exact codeAny_compStart_list (loop _) (T2.1.self 0 A _ _ _ r.hh I₀.st (loop _))
end
end

section
section
variable {w : World} {hb : Heap} {k : Nat} {R : Led} {P : AV → Led → Prop}
theorem fn_ofC {f : Addr} {oc doc pm dV kV cdv ct : Value} {od an : Option Addr} {osl : Array (Option Value)} {name qual : Str} {params : Arguments} {body : List Stmt} {scope : Scope} {xs : List String} {as : List AV} {m0 : Vars} {W0 : Addr → Led} (B : Bs w hb)
    (ho : (hd.heap_39 w.params).lookup f = some ⟨oc, od, .func (fnOf name qual params body scope dV kV doc pm an cdv ct), osl⟩)
    (hcd : codeIn (hd.heap_39 w.params) cdv qual = true)
    (hbind : ∀ vs : List Value, vs.length = xs.length → bindArgs (fnOf name qual params body scope dV kV doc pm an cdv ct) ⟨vs, []⟩ = pure ((xs.map Str.ofString).zip vs))
    (hlen : as.length = xs.length)
    (hkd : ∀ L : Addr, ∀ x ∈ xs, scope.names.lookup (Str.ofString x) = some .local ∨ (scope.names.lookup (Str.ofString x) = some .cell ∧ ((cellsFrom (L + 1) scope.names []).lookup (Str.ofString x)).isSome = true))
    (hns : ∀ (L : Addr) (vs : List Value), vs.map av = as.map some → ∀ p ∈ m0, ∃ v, bindL (envOfC qual scope L f cdv).kindOf ((xs.map Str.ofString).zip vs) (fun _ => none) (Str.ofString p.1) = some v ∧ av v = some p.2)
    (hcl : ∀ (L : Addr) (vs : List Value), vs.map av = as.map some → ∀ p ∈ W0 L, ∃ x : String, (cellsFrom (L + 1) scope.names []).lookup (Str.ofString x) = some p.1 ∧
      ((p.2 = .emp ∧ bindC (envOfC qual scope L f cdv).kindOf ((xs.map Str.ofString).zip vs) (fun _ => none) (Str.ofString x) = none) ∨
        ∃ a v, p.2 = .cel a ∧ bindC (envOfC qual scope L f cdv).kindOf ((xs.map Str.ofString).zip vs) (fun _ => none) (Str.ofString x) = some v ∧ av v = some a))
    (hnd : ∀ L, ((W0 L).map (·.1)).Nodup)
    (hco : scope.isCoroutine = false) (hgen : scope.isGenerator = false) (hk : scope.kind = .function)
    (hbody : ∀ L, Ex w hb L k R (execs body (envOfC qual scope L f cdv)) m0 (W0 L) (retP P)) : Fn w hb f (k + 1) as R P := by
  intro A s Q E vs r e hbs hR hQ
  have hX : (hd.heap_39 w.params).In s.heap := B.X.keeps hbs
  have hv := av_len e
  refine wpAny_call (codeAny_call_cells (fd := fnOf name qual params body scope dV kV doc pm an cdv ct) (body := body) (binds := (xs.map Str.ofString).zip vs) r.depth (hX _ _ ho) rfl (B.nolimit hbs) (codeRec_of hX hcd) rfl
    (hbind vs (by omega)) rfl (fun x hx => ?_) (fun s₁ x => ?_) hco hgen hk)
  · obtain ⟨y, hy, e'⟩ := List.mem_map.mp (List.of_mem_zip (a := x.1) (b := x.2) hx).1
    rw [← e']
    exact hkd s.heap.objs.size y hy
  · obtain ⟨h₀, tk₀, rfl, hk₀⟩ := x.done
    have hn : ∀ a, s.heap.objs.size ≤ a → s.heap.get? a = none := fun a ha => by
      cases e : s.heap.get? a with
      | none => rfl
      | some o' => exact absurd (Heap.lt_size e) (Nat.not_lt.mpr ha)
    have hnb : ∀ a, s.heap.get? a = none → hb.get? a = none := fun a ha => by
      cases e : hb.get? a with
      | none => rfl
      | some o => have := hbs _ _ e; rw [ha] at this; cases this
    have hab : ∀ p ∈ W0 s.heap.objs.size, s.heap.objs.size < p.1 := fun p hp => by
      obtain ⟨y, h1, _⟩ := hcl s.heap.objs.size vs e p hp
      exact x.above _ _ (mem_of_lookup h1)
    have hnW : ∀ a ∈ (W0 s.heap.objs.size).map (·.1), s.heap.get? a = none := fun a ha => by
      obtain ⟨p, hp, rfl⟩ := List.mem_map.mp ha
      exact hn _ (Nat.le_of_lt (hab p hp))
    have S₀ : Sta hb s.heap.objs.size m0 R (W0 s.heap.objs.size) h₀ := {
      bs := fun b o e => hk₀ _ _ (hbs b o e)
      hl := hnb _ (hn _ (Nat.le_refl _))
      ns := ⟨_, x.toInCall.ns, hns _ vs e⟩
      rd := fun p hp => by
        obtain ⟨o, ho⟩ := AO.at_some (hR p hp)
        refine ⟨AO.at_mono (hR p hp) fun b q => hk₀ _ _ q, fun q => ?_, fun q => ?_⟩
        · rw [q, hn _ (Nat.le_refl _)] at ho; cases ho
        · rw [hnW _ q] at ho; cases ho
      wr := fun p hp => by
        obtain ⟨y, h1, h2⟩ := hcl s.heap.objs.size vs e p hp
        have hc := x.cell _ _ h1
        refine ⟨?_, fun q => Nat.lt_irrefl _ (q ▸ hab p hp), hnb _ (hnW _ (List.mem_map.mpr ⟨p, hp, rfl⟩))⟩
        rcases h2 with ⟨h2, h3⟩ | ⟨a, v, h2, h3, h4⟩
        · rw [h2]
          have h3' : bindC (callEnvC (fnOf name qual params body scope dV kV doc pm an cdv ct) s.heap.objs.size f).kindOf ((xs.map Str.ofString).zip vs) (fun _ => none) (Str.ofString y) = none := h3
          rw [h3'] at hc
          exact hc
        · rw [h2]
          have h3' : bindC (callEnvC (fnOf name qual params body scope dV kV doc pm an cdv ct) s.heap.objs.size f).kindOf ((xs.map Str.ofString).zip vs) (fun _ => none) (Str.ofString y) = some v := h3
          rw [h3'] at hc
          exact ⟨v, hc, h4⟩
      nd := hnd _ }
    refine hbody s.heap.objs.size (A.deeper (envOfC qual scope s.heap.objs.size f cdv)) { s with heap := h₀, toks := tk₀ } _ _ r.deeper S₀ fun v a m' W' h' tk ea p S' st => ?_
    have keep : ∀ b o, s.heap.get? b = some o → h'.get? b = some o := fun b o q => st.keep b o (fun z => by
      rcases List.mem_cons.mp z with z | z
      · rw [z, hn _ (Nat.le_refl _)] at q; cases q
      · rw [hnW _ z] at q; cases q) (hk₀ b o q)
    have fin : ∀ (v : Value) (a : AV) (N : Led), av v = some a → P a N → Sub N W' → Q v { s with heap := h', toks := tk } := fun v a N ea pa hs =>
      hQ v a N h' tk ea pa keep (fun p hp => ⟨(S'.wr p (hs.mem p hp)).1, by
        have hf := st.fresh p.1 (List.mem_map.mpr ⟨p, hs.mem p hp, rfl⟩)
        rcases hf with z | z
        · rcases List.mem_cons.mp z with z | z
          · rw [z]; exact hn _ (Nat.le_refl _)
          · exact hnW _ z
        · cases q : s.heap.get? p.1 with
          | none => rfl
          | some o => have z' : h₀.get? p.1 = none := z; rw [hk₀ _ _ q] at z'; cases z'⟩) (hs.nd S'.nd)
    cases a with
    | next =>
      have : v = .next := by
        cases v with
        | next => rfl
        | ret v => simp [fl] at ea
        | _ => simp [fl] at ea
      subst this
      obtain ⟨N, hs, pa⟩ := p
      exact fin .none .none N rfl pa hs
    | ret a =>
      have : ∃ u, v = .ret u := by
        cases v with
        | ret u => exact ⟨u, rfl⟩
        | _ => simp [fl] at ea
      obtain ⟨u, rfl⟩ := this
      obtain ⟨N, hs, pa⟩ := p
      exact fin u a N (by simpa [fl] using ea) pa hs
end
end

section
/-- a def that stores into W₀ alone, of what stood -/
def FnM (w : World) (hb : Heap) (f : Addr) (k : Nat) (as : List AV) (R W₀ : Led) (P : AV → Led → Prop) : Prop :=
  ∀ (A : Around) (s : Shared) (Q : Value → Shared → Prop) (E : Value → Shared → Prop) (vs : List Value), Room A k → vs.map av = as.map some →
    (∀ b o, hb.get? b = some o → s.heap.get? b = some o) → (∀ p ∈ R, p.2.at s.heap p.1 ∧ p.1 ∉ W₀.map (·.1)) → (∀ p ∈ W₀, p.2.at s.heap p.1 ∧ hb.get? p.1 = none) → (W₀.map (·.1)).Nodup →
    (∀ v a W' h' tk, av v = some a → P a W' → (∀ b o, b ∉ W₀.map (·.1) → s.heap.get? b = some o → h'.get? b = some o) →
      (∀ p ∈ W', p.2.at h' p.1 ∧ hb.get? p.1 = none ∧ (p.1 ∈ W₀.map (·.1) ∨ s.heap.get? p.1 = none)) → (W'.map (·.1)).Nodup → Q v { s with heap := h', toks := tk }) →
    wpAny (model PG w) A (call (.ref f) vs) Q E s

section
variable {w : World} {hb : Heap} {L : Addr} {k : Nat} {m : Vars} {R W : Led} {P : AV → Led → Prop}

theorem cal_fnM {f : Addr} {j : Nat} {as : List AV} {R' W₀ W₁ : Led} {P' : AV → Led → Prop} (H : FnM w hb f j as R' W₀ P') (hj : j ≤ k) (hp : W.Perm (W₀ ++ W₁)) (hR : ∀ p ∈ R', p ∈ R ++ W₁) (h : ∀ a N, P' a N → P a (N ++ W₁)) : Cal w hb L k m R (.ref f) as W P :=
  fun vs e A s Q E r S hQ => by
    have nd : (W₀.map (·.1) ++ W₁.map (·.1)).Nodup := by
      have := ((hp.map (·.1)).nodup_iff).mp S.nd
      rwa [List.map_append] at this
    have nd' := List.nodup_append.mp nd
    have w0 : ∀ p ∈ W₀, p ∈ W := fun p q => hp.symm.subset (List.mem_append_left _ q)
    have w1 : ∀ p ∈ W₁, p ∈ W := fun p q => hp.symm.subset (List.mem_append_right _ q)
    have mw : ∀ a ∈ W₀.map (·.1), a ∈ W.map (·.1) := fun a ha => by
      obtain ⟨p, q, e⟩ := List.mem_map.mp ha
      exact List.mem_map.mpr ⟨p, w0 p q, e⟩
    have mw1 : ∀ a ∈ W₁.map (·.1), a ∉ W₀.map (·.1) := fun a ha q => nd'.2.2 a q a ha rfl
    obtain ⟨oL, hoL⟩ := S.L_some
    have hL0 : L ∉ W₀.map (·.1) := fun q => by
      obtain ⟨p, q, e⟩ := List.mem_map.mp q
      exact (S.wr p (w0 p q)).2.1 e
    refine H A s Q E vs (r.le hj) e S.bs (fun p q => ?_) (fun p q => ⟨(S.wr p (w0 p q)).1, (S.wr p (w0 p q)).2.2⟩) nd'.1 fun v a N h' tk ea pa hk hN hd => ?_
    · rcases List.mem_append.mp (hR p q) with z | z
      · exact ⟨(S.rd p z).1, fun y => (S.rd p z).2.2 (mw _ y)⟩
      · exact ⟨(S.wr p (w1 p z)).1, mw1 _ (List.mem_map.mpr ⟨p, z, rfl⟩)⟩
    · have hNW : ∀ x ∈ N.map (·.1), x ∈ W₀.map (·.1) ∨ s.heap.get? x = none := fun x hx => by
        obtain ⟨p, q, rfl⟩ := List.mem_map.mp hx
        exact (hN p q).2.2
      refine hQ v a (N ++ W₁) h' tk ea (h a N pa) {
        bs := fun b o q => hk b o (fun z => by
          obtain ⟨p, y, e⟩ := List.mem_map.mp z
          have := (S.wr p (w0 p y)).2.2
          rw [e, q] at this; cases this) (S.bs b o q)
        hl := S.hl
        ns := by
          obtain ⟨M, ⟨ob, es, ep, e, rr⟩, hM⟩ := S.ns
          exact ⟨M, ⟨ob, es, ep, hk _ _ hL0 e, rr⟩, hM⟩
        rd := fun p q => by
          have a1 := S.rd p q
          obtain ⟨o, ho⟩ := AO.at_some a1.1
          refine ⟨AO.at_mono a1.1 fun b e => hk _ b (fun z => a1.2.2 (mw _ z)) e, a1.2.1, fun z => ?_⟩
          rw [List.map_append] at z
          rcases List.mem_append.mp z with z | z
          · rcases hNW _ z with y | y
            · exact a1.2.2 (mw _ y)
            · rw [y] at ho; cases ho
          · obtain ⟨p', y, e⟩ := List.mem_map.mp z
            exact a1.2.2 (List.mem_map.mpr ⟨p', w1 p' y, e⟩)
        wr := fun p q => by
          rcases List.mem_append.mp q with q | q
          · refine ⟨(hN p q).1, fun z => ?_, (hN p q).2.1⟩
            rcases (hN p q).2.2 with y | y
            · exact hL0 (z ▸ y)
            · rw [z, hoL] at y; cases y
          · have a1 := S.wr p (w1 p q)
            exact ⟨AO.at_mono a1.1 fun b e => hk _ b (mw1 _ (List.mem_map.mpr ⟨p, q, rfl⟩)) e, a1.2⟩
        nd := by
          rw [List.map_append]
          refine List.nodup_append.mpr ⟨hd, nd'.2.1, fun x hx y hy hxy => ?_⟩
          subst hxy
          rcases hNW x hx with z | z
          · exact mw1 _ hy z
          · obtain ⟨p, q, e⟩ := List.mem_map.mp hy
            obtain ⟨o, ho⟩ := AO.at_some (S.wr p (w1 p q)).1
            rw [e, z] at ho; cases ho } ⟨fun b o q e => hk b o (fun z => q (mw _ z)) e, fun x hx => ?_⟩
      rw [List.map_append] at hx
      rcases List.mem_append.mp hx with z | z
      · exact (hNW x z).imp (mw x) id
      · obtain ⟨p, q, e⟩ := List.mem_map.mp z
        exact .inl (List.mem_map.mpr ⟨p, w1 p q, e⟩)

theorem fn_ofM {f : Addr} {oc doc pm dV kV cdv ct : Value} {od an : Option Addr} {osl : Array (Option Value)} {name qual : Str} {params : Arguments} {body : List Stmt} {scope : Scope} {xs : List String} {as : List AV} {W₀ : Led} (B : Bs w hb)
    (ho : (hd.heap_39 w.params).lookup f = some ⟨oc, od, .func (fnOf name qual params body scope dV kV doc pm an cdv ct), osl⟩)
    (hcd : codeIn (hd.heap_39 w.params) cdv qual = true)
    (hbind : ∀ vs : List Value, vs.length = xs.length → bindArgs (fnOf name qual params body scope dV kV doc pm an cdv ct) ⟨vs, []⟩ = pure ((xs.map Str.ofString).zip vs))
    (hloc : ∀ x ∈ xs, scope.names.lookup (Str.ofString x) = some .local) (hcell : ∀ x ∈ scope.names, x.2 ≠ .cell)
    (hlen : as.length = xs.length) (hnd : xs.Nodup)
    (hco : scope.isCoroutine = false) (hgen : scope.isGenerator = false) (hk : scope.kind = .function)
    (hbody : ∀ L, Ex w hb L k R (execs body (envOf qual scope L f cdv)) (xs.zip as) W₀ (retP P)) : FnM w hb f (k + 1) as R W₀ P := by
  intro A s Q E vs r e hbs hR hW hN hQ
  have hX : (hd.heap_39 w.params).In s.heap := B.X.keeps hbs
  have hv := av_len e
  refine wpAny_call (codeAny_call_def (fd := fnOf name qual params body scope dV kV doc pm an cdv ct) (body := body) (binds := (xs.map Str.ofString).zip vs) r.depth (hX _ _ ho) rfl (B.nolimit hbs) (codeRec_of hX hcd) rfl
    (.of_eq (hbind vs (by omega))) hcell (fun x hx => ?_) (fun h₀ hns hk₀ => ?_) hco hgen hk)
  · obtain ⟨y, hy, e'⟩ := List.mem_map.mp (List.of_mem_zip (a := x.1) (b := x.2) hx).1
    rw [← e']
    exact hloc y hy
  · have hn : hb.get? s.heap.objs.size = none := by
      cases e : hb.get? s.heap.objs.size with
      | none => rfl
      | some o => have := hbs _ _ e; rw [get_size] at this; cases this
    have hne : ∀ {a : Addr} {o : AO}, o.at s.heap a → a ≠ s.heap.objs.size := fun h q => by
      obtain ⟨o, ho⟩ := AO.at_some h
      rw [q, get_size] at ho; cases ho
    have S₀ : Sta hb s.heap.objs.size (xs.zip as) R W₀ h₀ := {
      bs := fun b o e => hk₀ _ _ (hbs b o e)
      hl := hn
      ns := ⟨_, hns, lookup_zip hlen e hnd⟩
      rd := fun p hp => ⟨AO.at_mono (hR p hp).1 fun b q => hk₀ _ _ q, hne (hR p hp).1, (hR p hp).2⟩
      wr := fun p hp => ⟨AO.at_mono (hW p hp).1 fun b q => hk₀ _ _ q, hne (hW p hp).1, (hW p hp).2⟩
      nd := hN }
    refine hbody s.heap.objs.size (A.deeper (envOf qual scope s.heap.objs.size f cdv)) { s with heap := h₀, toks := s.toks + ((xs.map Str.ofString).zip vs).length } _ _ r.deeper S₀ fun v a m' W' h' tk ea p S' st => ?_
    have keep : ∀ b o, b ∉ W₀.map (·.1) → s.heap.get? b = some o → h'.get? b = some o := fun b o hb' q => st.keep b o (fun z => by
      rcases List.mem_cons.mp z with z | z
      · rw [z, get_size] at q; cases q
      · exact hb' z) (hk₀ b o q)
    have fin : ∀ (v : Value) (a : AV) (N : Led), av v = some a → P a N → Sub N W' → Q v { s with heap := h', toks := tk } := fun v a N ea pa hs =>
      hQ v a N h' tk ea pa keep (fun p hp => ⟨(S'.wr p (hs.mem p hp)).1, (S'.wr p (hs.mem p hp)).2.2, by
        have hf := st.fresh p.1 (List.mem_map.mpr ⟨p, hs.mem p hp, rfl⟩)
        rcases hf with z | z
        · rcases List.mem_cons.mp z with z | z
          · exact .inr (by rw [z]; exact get_size _)
          · exact .inl z
        · refine .inr ?_
          cases q : s.heap.get? p.1 with
          | none => rfl
          | some o => have z' : h₀.get? p.1 = none := z; rw [hk₀ _ _ q] at z'; cases z'⟩) (hs.nd S'.nd)
    cases a with
    | next =>
      have : v = .next := by
        cases v with
        | next => rfl
        | ret v => simp [fl] at ea
        | _ => simp [fl] at ea
      subst this
      obtain ⟨N, hs, pa⟩ := p
      exact fin .none .none N rfl pa hs
    | ret a =>
      have : ∃ u, v = .ret u := by
        cases v with
        | ret u => exact ⟨u, rfl⟩
        | _ => simp [fl] at ea
      obtain ⟨u, rfl⟩ := this
      obtain ⟨N, hs, pa⟩ := p
      exact fin u a N (by simpa [fl] using ea) pa hs
end
end

section
section
variable {w : World} {hb : Heap} {L : Addr} {k : Nat} {m : Vars} {R W : Led} {P : AV → Led → Prop}
theorem op_pow {x y : Int} (hx : -1000 < x ∧ x < 1000) (hy : 0 ≤ y ∧ y ≤ 1000) (h : P (.int (x ^ y.toNat)) W) : Op w hb L k m R .Pow (.int x) (.int y) W P := fun va vb ea eb A s Q E r S hQ => by
  obtain ⟨t, rfl⟩ := av_int ea
  obtain ⟨u, rfl⟩ := av_int eb
  exact PyProof.Rows.pow_int_small hy.1 (by omega) (by omega) (hQ _ _ W s.heap _ rfl h S .self)

open Classical in
theorem cmp_inL {PB : Bool → Led → Prop} {lb lr : Addr} {o o' : AO} {bs : List Int} {As : List Addr} {rows : List (List Int)} (hl : (lb, o) ∈ R ++ W) (ho : o.lx = some (Ints bs)) (hr : (lr, o') ∈ R ++ W) (ho' : o'.lx = some (As.map AV.ref))
    (hlen : As.length = rows.length) (hrows : ∀ i, i < rows.length → (As.getD i 0, AO.pls (Ints (rows.getD i []))) ∈ R ++ W) (h : PB (decide (bs ∈ rows)) W) : Cmp w hb L k m R .In (.ref lb) (.ref lr) W PB := fun va vb ea eb A s Q E r S hQ => by
  have := av_ref ea
  subst this
  have := av_ref eb
  subst this
  obtain ⟨us, hu, e⟩ := S.isList hl ho
  obtain ⟨us', hu', e'⟩ := S.isList hr ho'
  have hn' := av_len e'
  rw [List.length_map] at hn'
  have row : ∀ i (hi : i < us'.length), ∃ (a : Addr) (vs : List Value), us'[i] = .ref a ∧ s.heap.IsList a vs.toArray ∧ vs.map av = (Ints (rows.getD i [])).map some := fun i hi => by
    have hx : (As.map AV.ref)[i]? = some (.ref (As.getD i 0)) := by simp [List.getD_eq_getElem?_getD, show i < As.length by omega]
    obtain ⟨v, hv, ev⟩ := av_get e' hx
    have := av_ref ev
    subst this
    obtain ⟨vs, hvs, evs⟩ := S.isList (hrows i (by omega)) (xs := Ints (rows.getD i [])) rfl
    exact ⟨_, vs, by rw [List.getElem?_eq_getElem hi] at hv; exact Option.some.inj hv, hvs, evs⟩
  have inj : ∀ {a : Addr} {vs vs' : List Value}, s.heap.IsList a vs.toArray → s.heap.IsList a vs'.toArray → vs = vs' := fun {a vs vs'} h1 h2 => by
    obtain ⟨o1, e1, _, n1, d1⟩ := h1
    obtain ⟨o2, e2, _, n2, d2⟩ := h2
    rw [e1] at e2
    cases e2
    rw [d1] at d2
    injection d2 with d2
    exact (Array.mk.inj d2)
  have injI : ∀ {ns ms : List Int} {vs : List Value}, vs.map av = (Ints ns).map some → vs.map av = (Ints ms).map some → ns = ms := fun {ns ms vs} h1 h2 => by
    rw [h1] at h2
    have : ns.map (some ∘ AV.int) = ms.map (some ∘ AV.int) := by simpa [Ints, List.map_map] using h2
    exact (List.map_inj_right (fun x y q => by simpa using q)).mp this
  let ev : Value → Bool := fun y => decide (∃ (a : Addr) (vs : List Value), y = .ref a ∧ s.heap.IsList a vs.toArray ∧ vs.map av = (Ints bs).map some)
  have any : us'.toArray.any ev = decide (bs ∈ rows) := by
    rw [Bool.eq_iff_iff]
    simp only [List.any_toArray, List.any_eq_true, decide_eq_true_eq, ev]
    constructor
    · rintro ⟨y, hy, a, vs, rfl, h1, h2⟩
      obtain ⟨i, hi, e⟩ := List.mem_iff_getElem.mp hy
      obtain ⟨a', vs', q1, q2, q3⟩ := row i hi
      rw [e] at q1
      cases q1
      cases inj h1 q2
      rw [injI h2 q3, List.getD_eq_getElem?_getD, List.getElem?_eq_getElem (show i < rows.length by omega)]
      exact List.getElem_mem _
    · intro hm
      obtain ⟨i, hi, e⟩ := List.mem_iff_getElem.mp hm
      obtain ⟨a, vs, q1, q2, q3⟩ := row i (by omega)
      refine ⟨_, List.getElem_mem (show i < us'.length by omega), a, vs, q1, q2, ?_⟩
      rw [q3, List.getD_eq_getElem?_getD, List.getElem?_eq_getElem hi, ← e]
      rfl
  refine PySem.SeqAt.in_listAt ev hu' (fun y hy => ?_) ?_
  · obtain ⟨i, hi, rfl⟩ := List.mem_iff_getElem.mp (Array.mem_toList_iff.mpr hy)
    simp only [List.toList_toArray] at hi ⊢
    obtain ⟨a, vs, q1, q2, q3⟩ := row i hi
    have hev : ev us'[i] = decide (rows.getD i [] = bs) := by
      rw [Bool.eq_iff_iff]
      simp only [decide_eq_true_eq, ev]
      constructor
      · rintro ⟨a', vs', z1, z2, z3⟩
        rw [q1] at z1
        cases z1
        cases inj q2 z2
        exact injI q3 z3
      · intro z
        exact ⟨a, vs, q1, q2, z ▸ q3⟩
    rw [hev, q1]
    by_cases hab : a = lb
    · subst hab
      cases inj q2 hu
      rw [decide_eq_true (injI q3 e)]
      exact PySem.SeqAt.EqAt.same _
    · have hun : A.in1.units < cLine := by
        have := r.units
        show A.units + 1 < cLine
        omega
      refine PySem.SeqAt.EqAt.of_refs hab ?_
      have i1 := ints_are q3
      have i2 := ints_are e
      have l1 := av_len q3
      have l2 := av_len e
      rw [List.length_map] at l1 l2
      clear hev
      generalize rows.getD i [] = rr at q3 i1 l1 ⊢
      by_cases hsz : vs.length = us.length
      · have hall : ((List.range vs.toArray.size).all fun j => rr.getD j 0 == bs.getD j 0) = decide (rr = bs) := by
          rw [Bool.eq_iff_iff]
          simp only [List.all_eq_true, List.mem_range, beq_iff_eq, decide_eq_true_eq, List.size_toArray]
          constructor
          · intro hj
            apply List.ext_getElem (by omega)
            intro j h1 h2
            have := hj j (by omega)
            simpa [List.getD_eq_getElem?_getD, h1, h2] using this
          · intro z j _
            rw [z]
        rw [← hall]
        refine PySem.SeqAt.RcAt.lists q2 hu (by simpa using hsz) hun fun j h1 h2 => ?_
        simp only [List.size_toArray] at h1 h2
        have x1 : (Ints rr)[j]? = some (.int (rr.getD j 0)) := by simp [List.getD_eq_getElem?_getD, show j < rr.length by omega]
        have x2 : (Ints bs)[j]? = some (.int (bs.getD j 0)) := by simp [List.getD_eq_getElem?_getD, show j < bs.length by omega]
        obtain ⟨v1, hv1, ev1⟩ := av_get q3 x1
        obtain ⟨v2, hv2, ev2⟩ := av_get e x2
        obtain ⟨t1, rfl⟩ := av_int ev1
        obtain ⟨t2, rfl⟩ := av_int ev2
        rw [List.getElem?_eq_getElem h1] at hv1
        rw [List.getElem?_eq_getElem h2] at hv2
        have y1 : vs.toArray[j] = .int (rr.getD j 0) t1 := by simpa using Option.some.inj hv1
        have y2 : us.toArray[j] = .int (bs.getD j 0) t2 := by simpa using Option.some.inj hv2
        rw [y1, y2]
        exact PySem.SeqAt.EqAt.int_int _ _ _ _
      · rw [decide_eq_false (fun z => hsz (by rw [l1, l2, z]))]
        exact PySem.SeqAt.RcAt.lists_lengths q2 hu (by simpa using hsz) hun
  · rw [any]
    exact hQ _ _ W s.heap s.toks rfl ⟨_, rfl, h⟩ S .self
end
end

section
section
variable {w : World} {hb : Heap} {L : Addr} {k : Nat} {m m' : Vars} {R W W' : Led} {env : Env} {P : FL → Vars → Led → Prop} {rest : List Stmt}

noncomputable def AO.isCel : AO → Bool
  | .emp | .cel _ => true
  | _ => false
theorem sto_cell {x : String} {c : Addr} {o : AO} {v : Value} {a : AV} {A : Around} {s : Shared} {Q : Unit → Shared → Prop} {E : Value → Shared → Prop}
    (hk : env.scope.kind = .function) (hl : env.kindOf (Str.ofString x) = some .cell) (hc : env.cells.lookup (Str.ofString x) = some c) (S : Sta hb L m R W s.heap) (hp : Pick W (c, o) W') (ho : o.isCel = true) (ea : av v = some a)
    (hQ : ∀ h', Sta hb L m R ((c, .cel a) :: W') h' → Stp (W.map (·.1)) s.heap ((c, .cel a) :: W') h' → Q () { s with heap := h' }) :
    wpAny (model PG w) A (storeName env (Str.ofString x) v) Q E s := by
  have hcell : ∃ v₀, s.heap.IsCell c v₀ := by
    have := (S.wr _ hp.mem).1
    cases o with
    | emp => exact ⟨_, this⟩
    | cel b => obtain ⟨v, h, _⟩ := this; exact ⟨_, h⟩
    | _ => simp [AO.isCel] at ho
  obtain ⟨v₀, hcell⟩ := hcell
  exact wpAny_storeName_cell hk hl hc hcell fun h' hc' hs => hQ h' (S.upd hp hs.2 ⟨v, hc', ea⟩) (Stp.upd hp hs.2)

section
variable (w : World) (hb : Heap) (L : Addr) (k : Nat) (m : Vars) (R : Led) (env : Env) (P : FL → Vars → Led → Prop) (rest : List Stmt)
abbrev KAsC (c : Addr) : AV → Led → Prop := fun a W => ∃ o W', Pick W (c, o) W' ∧ o.isCel = true ∧ Ex w hb L k R (execs rest env) m ((c, .cel a) :: W') P
abbrev KUnC (c : Addr) (y : String) : AV → Led → Prop := fun v W => ∃ t a b o W', v = .ref t ∧ (t, .tup [a, b]) ∈ R ++ W ∧ Pick W (c, o) W' ∧ o.isCel = true ∧ Ex w hb L k R (execs rest env) (vset m y b) ((c, .cel a) :: W') P
abbrev KUn2 (x y : String) : AV → Led → Prop := fun v W => ∃ t o a b, v = .ref t ∧ (t, o) ∈ R ++ W ∧ o.lx = some [a, b] ∧ Ex w hb L k R (execs rest env) (vset (vset m x a) y b) W P
end
theorem exs_assignC {x : String} {c : Addr} {e : Expr} {p' pos : Pos} (hk : env.scope.kind = .function) (hl : env.kindOf (Str.ofString x) = some .cell) (hc : env.cells.lookup (Str.ofString x) = some c)
    (hs : swapsWith e (some (.Name (Str.ofString x) p')) pos.line env = pure false)
    (h : Ev w hb L k m R (eval e env) W (KAsC w hb L k m R env P rest c)) :
    Ex w hb L k R (execs (.Assign [.Name (Str.ofString x) p'] e pos :: rest) env) m W P :=
  exs_of fun A s Q E r S hQ => wpAny_Assign_Name (h A s _ E r S fun v a W₁ h₁ tk e p S₁ st => by
    obtain ⟨o, W₂, hp, ho, hrest⟩ := p
    exact sto_cell hk hl hc S₁ hp ho e fun h' S₂ st₂ => hQ .next .next m _ h' tk rfl (seq_next hrest) S₂ (st.ev st₂).up) hs

/-- two names out of a tuple: the first a cell, the second plain -/
theorem exs_unpackCL {x y : String} {c : Addr} {px py tp pos : Pos} {j₁ : Nat} {e : Expr} (hL : env.locals = L) (hk : env.scope.kind = .function) (hx : env.kindOf (Str.ofString x) = some .cell) (hc : env.cells.lookup (Str.ofString x) = some c) (hy : env.kindOf (Str.ofString y) = some .local)
    (hs : swapsWithSole [.Tuple [.Name (Str.ofString x) px, .Name (Str.ofString y) py] j₁ tp] e pos.line env = pure false)
    (hw : swappedStores [.Tuple [.Name (Str.ofString x) px, .Name (Str.ofString y) py] j₁ tp] e env = pure none)
    (h : Ev w hb L k m R (eval e env) W (KUnC w hb L k m R env P rest c y)) :
    Ex w hb L k R (execs (.Assign [.Tuple [.Name (Str.ofString x) px, .Name (Str.ofString y) py] j₁ tp] e pos :: rest) env) m W P := by
  refine exs_of fun A s Q E r S hQ => Assign_Tuple (h A s _ E r S fun v a W₁ h₁ tk₁ ev p₁ S₁ st₁ => ?_) hs hw
  obtain ⟨t, a, b, o, W₂, rfl, hm, hp, ho, hrest⟩ := p₁
  have := av_ref ev
  subst this
  obtain ⟨vs, hT, e⟩ := S₁.get hm
  obtain ⟨v, u, rfl, e1, e2⟩ := av2 e
  rw [arm_assign_Tuple]
  refine wpAny_bind (wpAny_standAt ?_)
  refine unpack_tuple (items := #[v, u]) r.hh hT rfl rfl fun h₂ he₂ => ?_
  have k₂ : ∀ c o, h₁.get? c = some o → h₂.get? c = some o := fun c o q => he₂ c o (Nat.ne_of_lt (Heap.lt_size q)) q
  have S₂ : Sta hb L m R W₁ h₂ := S₁.grow k₂
  show wpAny _ A (do holding [u] (assign (.Name (Str.ofString x) px) env v); do holding [] (assign (.Name (Str.ofString y) py) env u); pure ()) _ _ _
  refine wpAny_bind (wpAny_holding (wpAny_assign_Name (sto_cell hk hx hc S₂ hp ho e1 fun h₃ S₃ st₃ => ?_)))
  refine wpAny_bind (wpAny_holding (wpAny_assign_Name (sto_local hL hk hy S₃ e2 fun h₄ tk₄ S₄ st₄ _ => wpAny_pure ?_)))
  have st₂ : Stp (W₁.map (·.1)) h₁ W₁ h₂ := .of_keep k₂ fun _ h => .inl h
  exact hQ .next .next _ _ h₄ tk₄ rfl (seq_next hrest) S₄ (((st₁.ev st₂).ev st₃).ex st₄)

/-- two names out of a list -/
theorem exs_unpack2L {x y : String} {px py tp pos : Pos} {j₁ : Nat} {e : Expr} (hL : env.locals = L) (hk : env.scope.kind = .function) (hx : env.kindOf (Str.ofString x) = some .local) (hy : env.kindOf (Str.ofString y) = some .local)
    (hs : swapsWithSole [.Tuple [.Name (Str.ofString x) px, .Name (Str.ofString y) py] j₁ tp] e pos.line env = pure false)
    (hw : swappedStores [.Tuple [.Name (Str.ofString x) px, .Name (Str.ofString y) py] j₁ tp] e env = pure none)
    (h : Ev w hb L k m R (eval e env) W (KUn2 w hb L k m R env P rest x y)) :
    Ex w hb L k R (execs (.Assign [.Tuple [.Name (Str.ofString x) px, .Name (Str.ofString y) py] j₁ tp] e pos :: rest) env) m W P := by
  refine exs_of fun A s Q E r S hQ => Assign_Tuple (h A s _ E r S fun v a W₁ h₁ tk₁ ev p₁ S₁ st₁ => ?_) hs hw
  obtain ⟨t, o, a, b, rfl, hm, ho, hrest⟩ := p₁
  have := av_ref ev
  subst this
  obtain ⟨vs, hT, e⟩ := S₁.isList hm ho
  obtain ⟨v, u, rfl, e1, e2⟩ := av2 e
  rw [arm_assign_Tuple]
  refine wpAny_bind (wpAny_standAt ?_)
  unfold unpack
  refine wpAny_bind (wpAny_holding (kun_itemsOf (items := #[v, u]) r.hh hT fun h₂ he₂ => ?_))
  have k₂ : ∀ c o, h₁.get? c = some o → h₂.get? c = some o := fun c o q => he₂ c o (Nat.ne_of_lt (Heap.lt_size q)) q
  have S₂ : Sta hb L m R W₁ h₂ := S₁.grow k₂
  show wpAny _ A (do holding [u] (assign (.Name (Str.ofString x) px) env v); do holding [] (assign (.Name (Str.ofString y) py) env u); pure ()) _ _ _
  refine wpAny_bind (wpAny_holding (wpAny_assign_Name (sto_local hL hk hx S₂ e1 fun h₃ tk₃ S₃ st₃ _ => ?_)))
  refine wpAny_bind (wpAny_holding (wpAny_assign_Name (sto_local hL hk hy S₃ e2 fun h₄ tk₄ S₄ st₄ _ => wpAny_pure ?_)))
  have st₂ : Stp (W₁.map (·.1)) h₁ W₁ h₂ := .of_keep k₂ fun _ h => .inl h
  exact hQ .next .next _ _ h₄ tk₄ rfl (seq_next hrest) S₄ (((st₁.ev st₂).ex st₃).ex2 st₄)
end
end

section
theorem le62 {n c : Nat} (h : n ≤ c) (hc : Nat.ble c 99 = true := by rfl) : n < 2 ^ 62 := Nat.lt_of_le_of_lt (Nat.le_trans h (Nat.le_of_ble_eq_true hc)) (by decide)
theorem leSz {n c : Nat} (h : n ≤ c) (hc : Nat.ble c 1000 = true := by rfl) : n ≤ sizeLine := Nat.le_trans h (Nat.le_trans (Nat.le_of_ble_eq_true hc) (by decide))
theorem leSzI {xs : List Int} {c : Nat} (h : xs.length ≤ c) (hc : Nat.ble c 1000 = true := by rfl) : (Ints xs).length ≤ sizeLine := by rw [List.length_map]; exact leSz h hc
theorem pred_cast {n : Nat} (h : 1 ≤ n) : (n : Int) - 1 = ((n - 1 : Nat) : Int) := (Int.ofNat_sub h).symm
theorem toNat_pred {n : Nat} : ((n : Int) - 1).toNat = n - 1 := Int.toNat_sub n 1
theorem toNat_sub1 {a b : Nat} : ((a : Int) - b + 1).toNat = a + 1 - b := by
  show ((a : Int) + -(b : Int) + 1).toNat = _
  rw [Int.add_right_comm]
  exact Int.toNat_sub (a + 1) b
theorem toNat_if {x : Int} : (if x > 0 then x else 0).toNat = x.toNat := by
  split
  · rfl
  · rename_i h
    exact (Int.toNat_of_nonpos (Int.not_lt.mp h)).symm
theorem lt3 : ∀ n : Nat, n < 3 → n = 0 ∨ n = 1 ∨ n = 2 := by decide
theorem le_up {n c d : Nat} (h : n ≤ c) (hc : Nat.ble c d = true := by rfl) : n ≤ d := Nat.le_trans h (Nat.le_of_ble_eq_true hc)
section
variable {w : World} {hb : Heap} {L : Addr} {k : Nat} {m m' : Vars} {R W W' W'' : Led} {env : Env}

/-- what stands at the end of a turn, by a name of its own -/
structure Turn (J : Vars → Led → Prop) (P T : FL → Vars → Led → Prop) : Prop where
  next : ∀ {m m' : Vars} {W W' : Led}, (∀ p ∈ m', p ∈ m) → Sub W' W → J m' W' → T .next m W
  ret : ∀ {a : AV} {m : Vars} {W : Led}, P (.ret a) m W → T (.ret a) m W
structure Retn (P : AV → Led → Prop) (T : FL → Vars → Led → Prop) : Prop where
  ret : ∀ {a : AV} {m : Vars} {W W' : Led}, Sub W' W → P a W' → T (.ret a) m W
theorem turn_abs {t : Sem Flow} {J : Vars → Led → Prop} {P : FL → Vars → Led → Prop} (h : ∀ T, Turn J P T → Ex w hb L k R t m W T) : Ex w hb L k R t m W (turnP J P) := h _ ⟨turn_next, turn_ret⟩
theorem ret_abs {t : Sem Flow} {P : AV → Led → Prop} (h : ∀ T, Retn P T → Ex w hb L k R t m W T) : Ex w hb L k R t m W (retP P) := h _ ⟨ret_ret⟩

section
variable {P : FL → Vars → Led → Prop} {rest body : List Stmt} {J : Nat → Vars → Led → Prop}
theorem for_k {n : Nat} {upd : Nat → Vars → Vars} (hm : ∀ p ∈ m', p ∈ m) (hs : Sub W' W) (h0 : J 0 m' W') (turn : ∀ i m W, i < n → J i m W → ∀ T, Turn (J (i + 1)) P T → Ex w hb L k R (execs body env) (upd i m) W T)
    (hr : ∀ m W, J n m W → Ex w hb L k R (execs rest env) m W P) : KFor w hb L k m R env P rest body J n upd W :=
  ⟨m', W', hm, hs, h0, fun i m W hi hJ => turn_abs (turn i m W hi hJ), hr⟩
theorem for_j {n : Nat} {upd : Nat → Vars → Vars} (J : Nat → Vars → Led → Prop) (h : KFor w hb L k m R env P rest body J n upd W) : KForJ w hb L k m R env P rest body n upd W := ⟨J, h⟩
theorem it_k {target : Expr} {K : Nat → (Nat → Vars → Vars) → Led → Prop} {a : AV} {n : Nat} {upd : Nat → Vars → Vars} (h : IterOf w hb env L R target a W W' n upd) (hk : K n upd W') : KIt w hb L R env target K a W := ⟨n, upd, W', h, hk⟩
theorem enum_k {xi xv : String} {K : Nat → (Nat → Vars → Vars) → Led → Prop} {l : Addr} {o : AO} {xs : List AV} (hm : (l, o) ∈ R ++ W) (ho : o.lx = some xs) (hs : Sub W' W) (ha : ∀ (h : Heap) (m : Vars), Sta hb L m R W h → l ∉ W'.map (·.1))
    (hk : K xs.length (fun i m => vset (vset m xi (.int i)) xv (xs.getD i .none)) W') : KEnum hb L R xi xv K [.ref l] W := ⟨l, o, xs, W', rfl, hm, ho, hs, ha, hk⟩
theorem set_k {v : AV} {l : Addr} {j : Int} {ob : AO} {xs : List AV} (hp : Pick W (l, ob) W') (ho : ob.lx = some xs) (h0 : 0 ≤ j) (h1 : j < xs.length) (h2 : xs.length < 2 ^ 62) (h : Ex w hb L k R (execs rest env) m ((l, .lst (xs.set j.toNat v)) :: W') P) :
    KSet3 w hb L k m R env P rest v (.ref l) (.int j) W := ⟨l, ob, xs, j, W', rfl, rfl, hp, ho, h0, h1, h2, h⟩
theorem set_I {v : Int} {l : Addr} {j : Int} {ob : AO} {xs : List Int} (hp : Pick W (l, ob) W') (ho : ob.lx = some (Ints xs)) (h0 : 0 ≤ j) (h1 : j < xs.length) (h2 : xs.length < 2 ^ 62) (h : Ex w hb L k R (execs rest env) m ((l, .lst (Ints (xs.set j.toNat v))) :: W') P) :
    KSet3 w hb L k m R env P rest (.int v) (.ref l) (.int j) W := set_k hp ho h0 (by rw [List.length_map]; exact h1) (by rw [List.length_map]; exact h2) (by rw [← List.map_set]; exact h)
theorem app_k1 {elt : Expr} {D : Addr} {ys : List AV} (hm : (D, .pls ys) ∈ R ++ W) (h : Ev w hb L k m R (eval elt env) W (KApp2 w hb L k m R env P rest D)) : KApp1 w hb L k m R env P rest elt (.ref D) W := ⟨D, ys, rfl, hm, h⟩
theorem app_k2 {D : Addr} {y : AV} {xs : List AV} (hp : Pick W (D, .pls xs) W') (hl : xs.length ≤ sizeLine) (h : Ex w hb L k R (execs rest env) m ((D, .pls (xs ++ [y])) :: W') P) : KApp2 w hb L k m R env P rest D y W := ⟨xs, W', hp, hl, h⟩
theorem tup_k {x y : String} {a b : AV} (h : Ex w hb L k R (execs rest env) (vset (vset m y b) x a) W P) : KTup2 w hb L k m R env P rest x y [a, b] W := ⟨a, b, rfl, h⟩
theorem un3_k {x y z : String} {t : Addr} {a b c : AV} (hm : (t, .tup [a, b, c]) ∈ R ++ W) (h : Ex w hb L k R (execs rest env) (vset (vset (vset m x a) y b) z c) W P) : KUn3 w hb L k m R env P rest x y z (.ref t) W := ⟨t, a, b, c, rfl, hm, h⟩
theorem asc_k {c : Addr} {a : AV} {o : AO} (hp : Pick W (c, o) W') (ho : o.isCel = true) (h : Ex w hb L k R (execs rest env) m ((c, .cel a) :: W') P) : KAsC w hb L k m R env P rest c a W := ⟨o, W', hp, ho, h⟩
theorem unc_k {c : Addr} {y : String} {t : Addr} {a b : AV} {o : AO} (hm : (t, .tup [a, b]) ∈ R ++ W) (hp : Pick W (c, o) W') (ho : o.isCel = true) (h : Ex w hb L k R (execs rest env) (vset m y b) ((c, .cel a) :: W') P) : KUnC w hb L k m R env P rest c y (.ref t) W := ⟨t, a, b, o, W', rfl, hm, hp, ho, h⟩
theorem un2_k {x y : String} {t : Addr} {o : AO} {a b : AV} (hm : (t, o) ∈ R ++ W) (ho : o.lx = some [a, b]) (h : Ex w hb L k R (execs rest env) (vset (vset m x a) y b) W P) : KUn2 w hb L k m R env P rest x y (.ref t) W := ⟨t, o, a, b, rfl, hm, ho, h⟩
end
section
variable {P : AV → Led → Prop}
theorem lst_k {as : List AV} (hl : Nat.ble as.length 9 = true) (h : ∀ a, P (.ref a) ((a, .pls as) :: W)) : KLst P as W := ⟨Nat.le_trans (Nat.le_of_ble_eq_true hl) (by simp [sizeLine]), h⟩
theorem tpl_k {as : List AV} (hl : Nat.ble as.length 9 = true) (h : ∀ a, P (.ref a) ((a, .tup as) :: W)) : KTup P as W := ⟨Nat.le_trans (Nat.le_of_ble_eq_true hl) (by simp [sizeLine]), h⟩
theorem comp_k {elt : Expr} {x : String} {scope : Scope} {cl : List (Str × Addr)} {a : AV} {n : Nat} {item : Nat → AV} (J : Nat → List AV → Led → Prop) (h : IterC w hb L R a W W' n item) (hs : Sub W'' W') (hn : n ≤ sizeLine) (h0 : J 0 [] W'')
    (turn : ∀ C i done W, i < n → done.length = i → J i done W → ∀ T : AV → Led → Prop, (∀ {y : AV} {W W' : Led}, Sub W' W → J (i + 1) (done ++ [y]) W' → T y W) → Ev w hb C k [(x, item i)] R (eval elt (compEnvC scope cl C env)) W T)
    (fin : ∀ done W, done.length = n → J n done W → ∀ D, P (.ref D) ((D, .pls done) :: W)) : KComp w hb L k R env P elt x scope cl a W :=
  ⟨n, item, W', W'', J, h, hs, hn, h0, fun C i done W hi hd hJ => turn C i done W hi hd hJ _ fun hs h => ⟨_, hs, h⟩, fin⟩
end
end
/-! words that the walk's own lines are made of -/
def wordsOf : List Char → List Char → List String
  | [], w => [String.ofList w.reverse]
  | c :: r, w => if c.val == 32 then String.ofList w.reverse :: wordsOf r [] else wordsOf r (c :: w)
def rulesOf (s : String) : Lean.MacroM (Array (Lean.TSyntax `Lean.Parser.Tactic.tacticSeq)) :=
  (wordsOf s.toList []).toArray.mapM fun w => `(Lean.Parser.Tactic.tacticSeq| refine' $(Lean.mkIdent (.mkSimple w)) ..)
end

section
/-! what the text's defs reckon, in plain Lean -/
noncomputable def trimN (xs : List Int) : Nat → Nat
  | 0 => 0
  | n + 1 => if xs.getD n 0 = 0 then trimN xs n else n + 1
noncomputable def trim (xs : List Int) : List Int := xs.take (trimN xs xs.length)
noncomputable def maddN (a b : List Int) (p : Int) (n : Nat) : List Int := (List.range n).map fun i => (a.getD i 0 + b.getD i 0).fmod p
noncomputable def madd (a b : List Int) (p : Int) : List Int := trim (maddN a b p (max a.length b.length))
noncomputable def mneg (a : List Int) (p : Int) : List Int := a.map fun x => (-x).fmod p
noncomputable def mscale (a : List Int) (n p : Int) : List Int := trim (a.map fun x => (x * n).fmod p)
noncomputable def mulRow (p x : Int) (at' : Nat) (b f : List Int) : Nat → List Int
  | 0 => f
  | i + 1 => let g := mulRow p x at' b f i; g.set (at' + i) ((g.getD (at' + i) 0 + x * b.getD i 0).fmod p)
noncomputable def mulN (p : Int) (a b f : List Int) : Nat → List Int
  | 0 => f
  | i + 1 => let g := mulN p a b f i; if a.getD i 0 = 0 then g else mulRow p (a.getD i 0) i b g b.length
noncomputable def mmul (a b : List Int) (p : Int) : List Int := if a = [] ∨ b = [] then [] else trim (mulN p a b (List.replicate (a.length + b.length - 1) 0) a.length)
noncomputable def subRow (p c : Int) (at' : Nat) (b r : List Int) : Nat → List Int
  | 0 => r
  | i + 1 => let g := subRow p c at' b r i; g.set (at' + i) ((g.getD (at' + i) 0 - c * b.getD i 0).fmod p)
noncomputable def divN (p : Int) (b : List Int) (d : Nat) (a : List Int) : Nat → List Int
  | 0 => a
  | j + 1 => let r := divN p b d a j; let at' := d - j; let c := (r.getD (at' + b.length - 1) 0 * 1).fmod p; if c = 0 then r else subRow p c at' b r b.length
noncomputable def mrest (a b : List Int) (p : Int) : List Int := trim ((divN p b (a.length - b.length) a (a.length + 1 - b.length)).take (b.length - 1))
noncomputable def gfm (a b m : List Int) (p : Int) : List Int := mrest (mmul a b p) m p
noncomputable def powL (m : List Int) (p : Int) : Nat → List Int → List Int → Nat → List Int
  | 0, f, _, _ => f
  | k + 1, f, s, n => if n = 0 then f else powL m p k (if n % 2 = 1 then gfm f s m p else f) (if 0 < n / 2 then gfm s s m p else s) (n / 2)
noncomputable def gfp (a : List Int) (n : Nat) (m : List Int) (p : Int) : List Int := powL m p n [1] a n
noncomputable def conjL (m : List Int) (p : Int) (a : List Int) : Nat → List Int → List (List Int) → Option (List (List Int))
  | 0, _, _ => none
  | k + 1, here, acc => if here = a then some acc else conjL m p a k (gfp here p.toNat m p) (acc ++ [here])
noncomputable def conj (a m : List Int) (p : Int) : Option (List (List Int)) := conjL m p a 6 (gfp a p.toNat m p) [a]
noncomputable def num (a : List Int) : Int := a.getD 0 0
noncomputable def trN (m : List Int) (p : Int) (a : List Int) : Nat → List Int × List Int
  | 0 => ([], a)
  | i + 1 => let s := trN m p a i; (madd s.1 s.2 p, gfp s.2 p.toNat m p)
noncomputable def trace (a m : List Int) (p : Int) : Int := num (trN m p a (m.length - 1)).1
noncomputable def noN (m : List Int) (p : Int) (a : List Int) : Nat → List Int × List Int
  | 0 => ([1], a)
  | i + 1 => let s := noN m p a i; (gfm s.1 s.2 m p, gfp s.2 p.toNat m p)
noncomputable def norm (a m : List Int) (p : Int) : Int := num (noN m p a (m.length - 1)).1
noncomputable def lsN (m : List Int) (p : Int) (root : List Int) (found : List (List Int)) : Nat → List (List Int)
  | 0 => [] :: found
  | i + 1 => let l := lsN m p root found i; l.set i (madd (l.getD i []) (mneg (gfm (found.getD i []) root m p) p) p)
noncomputable def lsR (m : List Int) (p : Int) (rows : List (List Int)) : Nat → List (List Int)
  | 0 => [[1]]
  | i + 1 => let f := lsR m p rows i; lsN m p (rows.getD i []) f f.length
noncomputable def least (rows : List (List Int)) (m : List Int) (p : Int) : List Int := (lsR m p rows rows.length).map num
noncomputable def atN (f a m : List Int) (p : Int) : Nat → List Int
  | 0 => []
  | i + 1 => madd (gfm (atN f a m p i) a m p) (mscale [1] (f.reverse.getD i 0) p) p
noncomputable def gfat (f a m : List Int) (p : Int) : List Int := atN f a m p f.length
noncomputable def cut (a : List Int) : List Int := trim a
noncomputable def values (f a ls m : List Int) (p : Int) : Bool :=
  let v := gfat f a m p
  if gfp v p.toNat m p ≠ gfat f (gfp a p.toNat m p) m p then false
  else
    let left := mrest f ls p
    decide (left.length < ls.length) && decide (gfat left a m p = v) && (decide (left = []) == decide (v = []))
noncomputable def fields : List (Int × List Int) := [(2, [1, 1, 0, 1]), (2, [1, 1, 0, 0, 1]), (5, [2, 0, 1]), (2, [1, 0, 0, 1, 1]), (3, [1, 0, 1]), (3, [1, 2, 0, 1]), (3, [2, 1, 1]), (2, [1, 1, 1, 1, 1])]
end

local macro_rules | `(tactic| walk_at "mem") => `(tactic| first
  | (with_reducible exact vs_here) | ((with_reducible refine vs_there ?hne ?_); (case hne => decide); walk_at "mem") | exact .head _ | (refine .tail _ ?_; walk_at "mem") | assumption)
local macro_rules | `(tactic| walk_at "sub") => `(tactic| (refine Sub.of_sublist ?_; repeat (first | exact List.Sublist.refl _ | exact List.nil_sublist _ | apply List.Sublist.cons_cons | apply List.Sublist.cons)))
local macro_rules | `(tactic| walk_at "vars") => `(tactic| repeat (first | (with_reducible exact all_nil) | ((with_reducible refine all_cons ?hm ?_); (case hm => walk_at "mem"))))
local macro_rules | `(tactic| walk_at "pick") => `(tactic| repeat (first | (with_reducible exact Pick.here) | (with_reducible refine' Pick.there ?_)))
local macro_rules | `(tactic| walk_at "reads") => `(tactic| repeat (first | (with_reducible exact rd_nil) | ((with_reducible refine rd_cons ?hm ?_); (case hm => walk_at "mem"))))
local macro_rules | `(tactic| walk_at "m1") => do
  let a1 ← rulesOf "evb_cmp ev_cmp evl_cons exs_setitem"
  let a2 ← rulesOf "c_len c_list c_range c_max c_abs o_extended o_inverse_mod o_mtrim o_mdegree o_madd o_mneg o_mscale o_mmul o_mdivmod o_mrest o_gf_multiply o_gf_power o_gf_conjugates o_number_of o_gf_trace o_gf_norm o_gf_least o_gf_at o_law_draw o_law_cut o_law_values_right"
  let a3 ← rulesOf "ev_slice ev_sub"
  let a4 ← rulesOf "exs_assign"
  let a5 ← rulesOf "exs_tup2 exs_append"
  let a6 ← rulesOf "op_mod"
  let a7 ← rulesOf "op_mul"
  let a8 ← rulesOf "ev_int ev_bool ev_bin ev_ife"
  let a9 ← rulesOf "evb_boolop evb_and_cons evb_and_nil evb_or_cons evb_or_nil ev_neg evl_nil ev_part_none ev_part_some ev_list ev_tuple exs_ret exs_if"
  let a10 ← rulesOf "op_add op_sub"
  let a11 ← rulesOf "cmp_eq cmp_ne cmp_lt cmp_gt cmp_ge br_f br_t br_f' br_t' neg_of seq_next seq_ret turn_ret"
  `(tactic| first
  | ((with_reducible refine' ev_loc ..); rotate_left; (iterate 3 (· exact rfl)); (· walk_at "mem"); rotate_left; (· decide))
  | ((with_reducible refine' ev_cell ..); rotate_left 2; (· exact rfl); (· first | exact .inl rfl | exact .inr rfl); (· exact rfl); (· walk_at "mem"); rotate_left; (iterate 2 (· decide)))
  | (with_reducible first $[| $a8]*)
  | ((with_reducible first $[| $a1]*); (· exact rfl))
  | (with_reducible first $[| $a9]*)
  | ((with_reducible first $[| $a2]*); (· assumption); (· exact ⟨rfl, rfl, rfl⟩); (iterate 3 (· exact rfl)))
  | ((with_reducible first $[| $a3]*); (· exact fun _ _ => rfl))
  | ((with_reducible first $[| $a4]*); (iterate 4 (· exact rfl)))
  | ((with_reducible first $[| $a5]*); (iterate 6 (· exact rfl)))
  | (with_reducible first $[| $a10]*)
  | ((with_reducible first $[| $a6]*); (· first | assumption | omega))
  | ((with_reducible first $[| $a7]*); (· first | (refine ok_mul ?_ ?_ <;> assumption) | (refine ok_mul' ?_ ?_ <;> assumption) | (refine ok_mul ?_ ?_ <;> omega) | (refine ok_mul' ?_ ?_ <;> omega)))
  | (with_reducible first $[| $a11]*))
local macro_rules | `(tactic| walk_at "go") => `(tactic| repeat walk_at "m1")

section
theorem getD_off {xs : List Int} {i : Nat} (h : xs.length ≤ i) : xs.getD i 0 = 0 := by simp [List.getD_eq_getElem?_getD, h]
variable {w : World} {hb : Heap}
theorem mtrim_fn (B : Bs w hb) {l : Addr} {o : AO} {xs : List Int} (ho : o.lx = some (Ints xs)) (hlen : xs.length ≤ 64) :
    Fn w hb 55 1 [.ref l] [(l, o)] (fun r N => ∃ a, r = .ref a ∧ N = [(a, .pls (Ints (trim xs)))]) := by
  refine fn_of (k := 0) (xs := ["a"]) B (by with_unfolding_all rfl) (by with_unfolding_all rfl) (bind1 fun _ => by with_unfolding_all rfl) ?_ (by decide) rfl (by decide) rfl rfl rfl fun L => ?_
  · exact faS rfl fa0
  · walk_at "go"
    refine cal_lenI (by walk_at "mem") ho (le62 hlen) ?_
    refine exs_whileX (fun n m W => n ≤ xs.length ∧ trimN xs n = trimN xs xs.length ∧ m = [("a", .ref l), ("many", .int n)] ∧ W = []) (fun m W => m = [("a", .ref l), ("many", .int (trimN xs xs.length))] ∧ W = [])
      (n := xs.length) (m' := [("a", .ref l), ("many", .int xs.length)]) (W' := []) (by walk_at "vars") (by walk_at "sub") ⟨Nat.le_refl _, rfl, rfl, rfl⟩ ?_ ?_
    · rintro n m W ⟨hn, ht, rfl, rfl⟩
      walk_at "go"
      refine br_dec' (fun h => ?_) (fun h => ?_)
      · obtain ⟨n, rfl⟩ : ∃ j, n = j + 1 := ⟨n - 1, (Nat.sub_add_cancel (Int.natCast_pos.mp h)).symm⟩
        have hi : (((n + 1 : Nat) : Int) - 1) = n := Int.add_sub_cancel (n : Int) 1
        walk_at "go"
        rw [hi]
        refine sub_I (by walk_at "mem") ho (le62 hlen) (Int.natCast_nonneg _) (Int.ofNat_lt.mpr hn) ?_
        walk_at "go"
        rw [Int.toNat_natCast]
        rw [trimN] at ht
        refine br_eq' (fun h2 => ?_) (fun h2 => ?_)
        · rw [if_pos h2] at ht
          walk_at "go"
          rw [hi]
          exact exs_nil (turn_next (m' := [("a", .ref l), ("many", .int n)]) (W' := []) (by walk_at "vars") (by walk_at "sub") ⟨n, Nat.lt_succ_self n, Nat.le_of_succ_le hn, ht, rfl, rfl⟩)
        · rw [if_neg h2] at ht
          refine br_f ⟨[], by walk_at "sub", ?_, rfl⟩
          rw [ht]
      · refine br_f ⟨[], by walk_at "sub", ?_, rfl⟩
        have : n = 0 := Nat.eq_zero_of_not_pos fun q => h (Int.natCast_pos.mpr q)
        subst this
        rw [← ht]
        rfl
    · rintro m W ⟨rfl, rfl⟩
      walk_at "go"
      refine sl_uptoI (by walk_at "mem") ho (leSz hlen) (Int.natCast_nonneg _) fun a => ?_
      walk_at "go"
      refine cal_list (by walk_at "mem") rfl (leSzI (c := 64) (Nat.le_trans (by rw [List.length_take]; exact Nat.min_le_right _ _) hlen)) fun a' => ?_
      exact ret_ret (by walk_at "sub") ⟨a', rfl, rfl⟩

theorem mdegree_fn (B : Bs w hb) {l : Addr} {o : AO} {xs : List Int} (ho : o.lx = some (Ints xs)) (hlen : xs.length ≤ 64) :
    Fn w hb 62 1 [.ref l] [(l, o)] (fun r N => r = .int ((xs.length : Int) - 1) ∧ N = []) := by
  refine fn_of (k := 0) (xs := ["a"]) B (by with_unfolding_all rfl) (by with_unfolding_all rfl) (bind1 fun _ => by with_unfolding_all rfl) ?_ (by decide) rfl (by decide) rfl rfl rfl fun L => ?_
  · exact faS rfl fa0
  · walk_at "go"
    refine cal_lenI (by walk_at "mem") ho (le62 hlen) ?_
    walk_at "go"
    exact ret_ret (by walk_at "sub") ⟨rfl, rfl⟩

theorem number_fn (B : Bs w hb) {l : Addr} {o : AO} {xs : List Int} (ho : o.lx = some (Ints xs)) (hlen : xs.length ≤ 64) :
    Fn w hb 156 1 [.ref l] [(l, o)] (fun r N => r = .int (num xs) ∧ N = []) := by
  refine fn_of (k := 0) (xs := ["a"]) B (by with_unfolding_all rfl) (by with_unfolding_all rfl) (bind1 fun _ => by with_unfolding_all rfl) ?_ (by decide) rfl (by decide) rfl rfl rfl fun L => ?_
  · exact faS rfl fa0
  · walk_at "go"
    refine cal_lenI (by walk_at "mem") ho (le62 hlen) ?_
    walk_at "go"
    refine br_dec (fun h => ?_) (fun h => ?_)
    · walk_at "go"
      refine sub_I (by walk_at "mem") ho (le62 hlen) (by decide) h ?_
      exact ret_ret (by walk_at "sub") ⟨rfl, rfl⟩
    · walk_at "go"
      refine ret_ret (by walk_at "sub") ⟨?_, rfl⟩
      have : xs = [] := List.length_eq_zero_iff.mp (Nat.eq_zero_of_not_pos fun q => h (Int.natCast_pos.mpr q))
      subst this
      rfl

theorem madd_fn (B : Bs w hb) {la lb : Addr} {oa ob : AO} {xs ys : List Int} {p : Int} (ha : oa.lx = some (Ints xs)) (hb' : ob.lx = some (Ints ys)) (hla : xs.length ≤ 60) (hlb : ys.length ≤ 60) (hp : 0 < p) :
    Fn w hb 69 2 [.ref la, .ref lb, .int p] [(la, oa), (lb, ob)] (fun r N => ∃ a, r = .ref a ∧ N = [(a, .pls (Ints (madd xs ys p)))]) := by
  refine fn_of (k := 1) (xs := ["a", "b", "p"]) B (by with_unfolding_all rfl) (by with_unfolding_all rfl) (bind3 fun _ _ _ => by with_unfolding_all rfl) ?_ (by decide) rfl (by decide) rfl rfl rfl fun L => ?_
  · exact faS rfl (faS rfl (faS rfl fa0))
  · have a62 := le62 hla
    have b62 := le62 hlb
    have hp0 : p ≠ 0 := Int.ne_of_gt hp
    walk_at "go"
    refine lst_k rfl fun lf => ?_
    refine exs_for (fun i m W => m = [("a", .ref la), ("b", .ref lb), ("p", .int p), ("found", .ref lf)] ∧ W = [(lf, .pls (Ints (maddN xs ys p i)))]) (fun _ => rfl) (iterE_of ?_)
    walk_at "go"
    refine cal_lenI (by walk_at "mem") ha a62 ?_
    walk_at "go"
    refine cal_lenI (by walk_at "mem") hb' b62 ?_
    walk_at "go"
    refine cal_max ?_
    walk_at "go"
    have e : (if (ys.length : Int) > (xs.length : Int) then (ys.length : Int) else (xs.length : Int)) = ((max xs.length ys.length : Nat) : Int) := by split <;> omega
    rw [e]
    refine cal_range1 fun r => it_k ((iter_range0 (by walk_at "mem") (Nat.lt_of_le_of_lt (Nat.max_le.mpr ⟨hla, hlb⟩) (by decide))).of rfl rfl rfl) (for_k ?vars ?sub ⟨rfl, rfl⟩ ?turn ?rst)
    case vars => walk_at "vars"
    case sub => walk_at "sub"
    case turn =>
      rintro i m W hi ⟨rfl, rfl⟩ T hT
      walk_at "go"
      refine app_k1 (by walk_at "mem") ?_
      walk_at "m1"
      walk_at "m1"
      refine Ev.mono (P := fun a W' => a = .int (xs.getD i 0) ∧ W' = [(lf, AO.pls (Ints (maddN xs ys p i)))]) ?_ ?_
      · walk_at "go"
        refine cal_lenI (by walk_at "mem") ha a62 ?_
        walk_at "go"
        refine br_dec (fun h => ?_) (fun h => ?_)
        · walk_at "go"
          refine sub_I (by walk_at "mem") ha a62 (Int.natCast_nonneg _) h ?_
          exact ⟨rfl, rfl⟩
        · walk_at "go"
          refine ⟨?_, rfl⟩
          rw [getD_off (Int.ofNat_le.mp (Int.not_lt.mp h))]
      rintro a W' ⟨rfl, rfl⟩
      refine Ev.mono (P := fun a W' => a = .int (ys.getD i 0) ∧ W' = [(lf, AO.pls (Ints (maddN xs ys p i)))]) ?_ ?_
      · walk_at "go"
        refine cal_lenI (by walk_at "mem") hb' b62 ?_
        walk_at "go"
        refine br_dec (fun h => ?_) (fun h => ?_)
        · walk_at "go"
          refine sub_I (by walk_at "mem") hb' b62 (Int.natCast_nonneg _) h ?_
          exact ⟨rfl, rfl⟩
        · walk_at "go"
          refine ⟨?_, rfl⟩
          rw [getD_off (Int.ofNat_le.mp (Int.not_lt.mp h))]
      rintro a W' ⟨rfl, rfl⟩
      walk_at "go"
      refine app_k2 .here (leSzI (c := 60) (by rw [maddN, List.length_map, List.length_range]; exact Nat.le_trans (Nat.le_of_lt hi) (Nat.max_le.mpr ⟨hla, hlb⟩))) ?_
      rw [show Ints (maddN xs ys p i) ++ [AV.int ((xs.getD i 0 + ys.getD i 0).fmod p)] = Ints (maddN xs ys p (i + 1)) from by simp [maddN, List.range_succ]]
      exact exs_nil (hT.next (by walk_at "vars") (by walk_at "sub") ⟨rfl, rfl⟩)
    case rst =>
      rintro m W ⟨rfl, rfl⟩
      walk_at "go"
      refine cal_fn1 (mtrim_fn (o := .pls (Ints _)) (xs := maddN xs ys p (max xs.length ys.length)) B rfl (by rw [maddN, List.length_map, List.length_range]; exact Nat.le_trans (Nat.max_le.mpr ⟨hla, hlb⟩) (by decide))) (by decide) (by walk_at "reads") fun a => ?_
      exact ret_ret (by walk_at "sub") ⟨a, rfl, rfl⟩
end

section
theorem mulRow_len (p x : Int) (t : Nat) (b f : List Int) : ∀ n, (mulRow p x t b f n).length = f.length
  | 0 => rfl
  | n + 1 => by simp only [mulRow, List.length_set]; exact mulRow_len p x t b f n
theorem mulN_len (p : Int) (a b f : List Int) : ∀ n, (mulN p a b f n).length = f.length
  | 0 => rfl
  | n + 1 => by
    simp only [mulN]
    split
    · exact mulN_len p a b f n
    · rw [mulRow_len]; exact mulN_len p a b f n
theorem ints_getD {xs : List Int} {i : Nat} (h : i < (Ints xs).length) : (Ints xs).getD i .none = .int (xs.getD i 0) := by
  have : i < xs.length := by simpa using h
  simp [List.getD_eq_getElem?_getD, this]
theorem getD_mem {xs : List Int} {i : Nat} (h : i < xs.length) : xs.getD i 0 ∈ xs := by
  simp [List.getD_eq_getElem?_getD, h]
theorem ints_set {xs : List Int} {i : Nat} {x : Int} : (Ints xs).set i (.int x) = Ints (xs.set i x) := by simp [Ints, List.map_set]

theorem mul_lt {a b i j n : Nat} (h : a + b - 1 = n) (hi : i < a) (hj : j < b) : ((i + j : Nat) : Int) < n := by
  subst h
  exact Int.ofNat_lt.mpr (Nat.lt_of_lt_of_le (Nat.add_lt_add_of_lt_of_le hi (Nat.le_refl j)) (Nat.le_sub_one_of_lt (Nat.add_lt_add_left hj a)))
theorem mul62 {a b : Nat} (ha : a ≤ 30) (hb : b ≤ 30) : a + b - 1 < 2 ^ 62 := Nat.lt_of_le_of_lt (Nat.le_trans (Nat.sub_le _ _) (Nat.add_le_add ha hb)) (by decide)
theorem mul_rep {a b : Nat} (ha : a ≤ 30) (hb : b ≤ 30) (h0 : ¬ (a : Int) = 0) : -(2 ^ 63) ≤ (a : Int) + b - 1 ∧ (a : Int) + b - 1 ≤ 2 ^ 20 ∧ ((a : Int) + b - 1).toNat = a + b - 1 := by
  obtain ⟨n, rfl⟩ := Nat.exists_eq_succ_of_ne_zero (n := a) (fun e => h0 (by rw [e]; rfl))
  have e : ((n + 1 : Nat) : Int) + b - 1 = ((n + b : Nat) : Int) := by
    rw [show ((n + 1 : Nat) : Int) = (n : Int) + 1 from rfl, Int.add_right_comm, Int.add_sub_cancel]; rfl
  rw [e]
  refine ⟨Int.le_trans (by decide) (Int.natCast_nonneg _), Int.le_trans (Int.ofNat_le.mpr (Nat.add_le_add (Nat.le_of_succ_le ha) hb)) (by decide), ?_⟩
  rw [Int.toNat_natCast, Nat.succ_add]; rfl
variable {w : World} {hb : Heap}
theorem mmul_fn (B : Bs w hb) {la lb : Addr} {oa ob : AO} {xs ys : List Int} {p : Int} (ha : oa.lx = some (Ints xs)) (hb' : ob.lx = some (Ints ys)) (hla : xs.length ≤ 30) (hlb : ys.length ≤ 30) (hp : 0 < p) (hx : ∀ x ∈ xs, -1000 < x ∧ x < 1000) :
    Fn w hb 93 2 [.ref la, .ref lb, .int p] [(la, oa), (lb, ob)] (fun r N => ∃ a, r = .ref a ∧ N = [(a, .pls (Ints (mmul xs ys p)))]) := by
  refine fn_of (k := 1) (xs := ["a", "b", "p"]) B (by with_unfolding_all rfl) (by with_unfolding_all rfl) (bind3 fun _ _ _ => by with_unfolding_all rfl) ?_ (by decide) rfl (by decide) rfl rfl rfl fun L => ?_
  · exact faS rfl (faS rfl (faS rfl fa0))
  · have a62 := le62 hla
    have b62 := le62 hlb
    have hp0 : p ≠ 0 := Int.ne_of_gt hp
    refine ret_abs fun K hK => ?_
    have nil : (xs = [] ∨ ys = []) → ∀ lf, K (.ret (.ref lf)) [("a", .ref la), ("b", .ref lb), ("p", .int p)] [(lf, .pls [])] := fun h lf =>
      hK.ret .refl ⟨lf, rfl, by unfold mmul; rw [if_pos h]; rfl⟩
    walk_at "go"
    refine cal_lenI (by walk_at "mem") ha a62 ?_
    walk_at "go"
    refine br_eq (fun h => ?_) (fun h => ?_)
    · walk_at "go"
      exact lst_k rfl fun lf => seq_ret (nil (.inl (List.length_eq_zero_iff.mp (Int.ofNat.inj h))) lf)
    walk_at "go"
    refine cal_lenI (by walk_at "mem") hb' b62 ?_
    walk_at "go"
    refine br_eq (fun h2 => ?_) (fun h2 => ?_)
    · walk_at "go"
      exact lst_k rfl fun lf => seq_ret (nil (.inr (List.length_eq_zero_iff.mp (Int.ofNat.inj h2))) lf)
    walk_at "go"
    refine lst_k rfl fun l0 => ?_
    walk_at "go"
    refine cal_lenI (by walk_at "mem") ha a62 ?_
    walk_at "go"
    refine cal_lenI (by walk_at "mem") hb' b62 ?_
    walk_at "go"
    have Z := mul_rep hla hlb h
    refine op_rep (a := .int 0) (by walk_at "mem") Z.1 Z.2.1 fun lf => ?_
    have e : List.replicate ((xs.length : Int) + ys.length - 1).toNat (AV.int 0) = Ints (List.replicate (xs.length + ys.length - 1) 0) := by
      rw [Z.2.2]
      simp [Ints]
    rw [e]
    refine exs_for (fun i m W => m = [("a", .ref la), ("b", .ref lb), ("p", .int p), ("found", .ref lf)] ∧ ∃ o, o.lx = some (Ints (mulN p xs ys (List.replicate (xs.length + ys.length - 1) 0) i)) ∧ W = [(lf, o)]) (fun _ => rfl)
      (iterE_enum B rfl rfl rfl rfl rfl rfl rfl (n_enumerate _) rfl (by decide) (by decide) rfl rfl ?_)
    walk_at "go"
    refine enum_k (by walk_at "mem") ha .refl (apart_R (by walk_at "mem")) (for_k ?vars ?sub ⟨rfl, .pls (Ints _), rfl, rfl⟩ ?turn ?rst)
    case vars => walk_at "vars"
    case sub => walk_at "sub"
    case turn =>
      rintro i m W hi ⟨rfl, o, ho, rfl⟩ T hT
      simp only [ints_getD hi]
      have hi' : i < xs.length := by simpa using hi
      walk_at "go"
      refine br_ne (fun h0 => ?_) (fun h0 => ?_)
      · refine exs_for (fun j m W => m = [("a", .ref la), ("b", .ref lb), ("p", .int p), ("found", .ref lf), ("at", .int i), ("one", .int (xs.getD i 0))] ∧
          ∃ o, o.lx = some (Ints (mulRow p (xs.getD i 0) i ys (mulN p xs ys (List.replicate (xs.length + ys.length - 1) 0) i) j)) ∧ W = [(lf, o)]) (fun _ => rfl)
          (iterE_enum B rfl rfl rfl rfl rfl rfl rfl (n_enumerate _) rfl (by decide) (by decide) rfl rfl ?_)
        walk_at "go"
        refine enum_k (by walk_at "mem") hb' .refl (apart_R (by walk_at "mem")) (for_k ?vars2 ?sub2 ⟨rfl, _, ho, rfl⟩ ?turn2 ?rest2)
        case vars2 => walk_at "vars"
        case sub2 => walk_at "sub"
        case turn2 =>
          rintro j m W hj ⟨rfl, o, ho, rfl⟩ T2 hT2
          simp only [ints_getD hj]
          have hj' : j < ys.length := by simpa using hj
          have ex := hx _ (getD_mem hi')
          have eij : (i : Int) + (j : Int) = ((i + j : Nat) : Int) := by push_cast; rfl
          have elen := mulRow_len p (xs.getD i 0) i ys (mulN p xs ys (List.replicate (xs.length + ys.length - 1) 0) i) j
          rw [mulN_len, List.length_replicate] at elen
          have hlt := mul_lt elen.symm hi' hj'
          have h62 : (mulRow p (xs.getD i 0) i ys (mulN p xs ys (List.replicate (xs.length + ys.length - 1) 0) i) j).length < 2 ^ 62 := by rw [elen]; exact mul62 hla hlb
          walk_at "go"
          rw [eij]
          refine sub_I (by walk_at "mem") ho h62 (Int.natCast_nonneg _) hlt ?_
          walk_at "go"
          rw [eij]
          refine set_I .here ho (Int.natCast_nonneg _) hlt h62 ?_
          rw [Int.toNat_natCast]
          exact exs_nil (hT2.next (by walk_at "vars") (by walk_at "sub") ⟨rfl, .lst (Ints _), rfl, rfl⟩)
        case rest2 =>
          rintro m W ⟨rfl, o, ho, rfl⟩
          refine exs_nil (seq_next (exs_nil (hT.next (by walk_at "vars") (by walk_at "sub") ⟨rfl, o, ?_, rfl⟩)))
          rw [ho, mulN, if_neg h0]
          simp
      · refine exs_nil (hT.next (by walk_at "vars") (by walk_at "sub") ⟨rfl, o, ?_, rfl⟩)
        rw [ho, mulN, if_pos h0]
    case rst =>
      rintro m W ⟨rfl, o, ho, rfl⟩
      walk_at "go"
      refine cal_fn1 (mtrim_fn B ho (by rw [mulN_len]; simp; omega)) (by decide) (by walk_at "reads") fun a => ?_
      refine hK.ret (W' := [(a, .pls (Ints (trim _)))]) (by walk_at "sub") ⟨a, rfl, ?_⟩
      have h3 : ¬ (xs = [] ∨ ys = []) := by
        rintro (rfl | rfl)
        · exact h rfl
        · exact h2 rfl
      unfold mmul
      rw [if_neg h3]
      simp
end

section
/-- the moduli of the fields -/
def Pr (p : Int) : Prop := p = 2 ∨ p = 3 ∨ p = 5
theorem Pr.pos {p : Int} (h : Pr p) : 2 ≤ p ∧ p ≤ 5 := by rcases h with rfl | rfl | rfl <;> decide
theorem Pr.mod1 {p : Int} (h : Pr p) : (1 : Int).fmod p = 1 := by rcases h with rfl | rfl | rfl <;> decide
theorem Pr.div1 {p : Int} (h : Pr p) : (1 : Int).fdiv p = 0 := by rcases h with rfl | rfl | rfl <;> decide
theorem Pr.div {p : Int} (h : Pr p) : p.fdiv 1 = p := by rcases h with rfl | rfl | rfl <;> decide
variable {w : World} {hb : Heap}
/-- the two rows of the Euclidean steps from 1 and p -/
noncomputable def exA (p : Int) : Nat → List AV
  | 1 => [.int p, .int 0, .int 1]
  | _ => [.int 1, .int 1, .int 0]
noncomputable def exB (p : Int) : Nat → List AV
  | 0 => [.int 0, .int (-p), .int 1]
  | 1 => [.int 1, .int 1, .int 0]
  | _ => [.int p, .int 0, .int 1]
theorem extended_fn (B : Bs w hb) {p : Int} (hp : Pr p) :
    Fn w hb 41 1 [.int 1, .int p] [] (fun r N => ∃ t, r = .ref t ∧ N = [(t, .tup [.int 1, .int 1, .int 0])]) := by
  refine fn_of (k := 0) (xs := ["a", "b"]) B (by with_unfolding_all rfl) (by with_unfolding_all rfl) (bind2 fun _ _ => by with_unfolding_all rfl) ?_ (by decide) rfl (by decide) rfl rfl rfl fun L => ?_
  · exact faS rfl (faS rfl fa0)
  · have hpp := hp.pos
    walk_at "go"
    refine tpl_k rfl fun t1 => ?_
    walk_at "go"
    refine tpl_k rfl fun t2 => ?_
    walk_at "go"
    refine tup_k ?_
    refine exs_whileX (fun n m W => n ≤ 2 ∧ ∃ t1 t2, m = [("one", .ref t1), ("other", .ref t2)] ∧ W = [(t2, .tup (exB p n)), (t1, .tup (exA p n))]) (fun m W => ∃ t1 t2, m = [("one", .ref t1), ("other", .ref t2)] ∧ W = [(t1, .tup [.int 1, .int 1, .int 0])])
      (n := 2) (m' := [("one", .ref t1), ("other", .ref t2)]) (W' := [(t2, .tup (exB p 2)), (t1, .tup (exA p 2))]) (by walk_at "vars") (by walk_at "sub") ⟨by omega, _, _, rfl, rfl⟩ ?_ ?_
    · rintro n m W ⟨hn, t1, t2, rfl, rfl⟩
      obtain rfl | rfl | rfl := lt3 n (Nat.lt_succ_of_le hn)
      · walk_at "go"
        refine sub_tup (by walk_at "mem") rfl rfl ?_
        walk_at "go"
        exact br_ne (fun h => absurd rfl h) fun _ => ⟨[(t1, .tup [.int 1, .int 1, .int 0])], by walk_at "sub", t1, t2, rfl, rfl⟩
      · walk_at "go"
        refine sub_tup (i := 0) (by walk_at "mem") rfl rfl ?_
        walk_at "go"
        refine br_ne (fun _ => ?_) (fun h => absurd h (by omega))
        walk_at "go"
        refine sub_tup (i := 0) (by walk_at "mem") rfl rfl ?_
        walk_at "go"
        refine sub_tup (i := 0) (by walk_at "mem") rfl rfl ?_
        walk_at "go"
        refine op_div (by omega) (PyProof.noPylong_small (by omega)) ?_
        rw [hp.div]
        walk_at "go"
        refine sub_tup (i := 0) (by walk_at "mem") rfl rfl ?_
        walk_at "go"
        refine sub_tup (i := 0) (by walk_at "mem") rfl rfl ?_
        walk_at "go"
        refine sub_tup (i := 1) (by walk_at "mem") rfl rfl ?_
        walk_at "go"
        refine sub_tup (i := 1) (by walk_at "mem") rfl rfl ?_
        walk_at "go"
        refine sub_tup (i := 2) (by walk_at "mem") rfl rfl ?_
        walk_at "go"
        refine sub_tup (i := 2) (by walk_at "mem") rfl rfl ?_
        walk_at "go"
        refine tpl_k rfl fun t3 => ?_
        walk_at "go"
        refine tup_k ?_
        refine exs_nil (turn_next (m' := [("one", .ref t2), ("other", .ref t3)]) (W' := [(t3, .tup (exB p 0)), (t2, .tup (exA p 0))]) (by walk_at "vars") ?_ ⟨0, by omega, by omega, _, _, rfl, rfl⟩)
        rw [show [AV.int (p - p * 1), AV.int (0 - p * 1), AV.int (1 - p * 0)] = exB p 0 from by simp [exB]]
        walk_at "sub"
      · walk_at "go"
        refine sub_tup (i := 0) (by walk_at "mem") rfl rfl ?_
        walk_at "go"
        refine br_ne (fun _ => ?_) (fun h => absurd h (by omega))
        walk_at "go"
        refine sub_tup (i := 0) (by walk_at "mem") rfl rfl ?_
        walk_at "go"
        refine sub_tup (i := 0) (by walk_at "mem") rfl rfl ?_
        walk_at "go"
        refine op_div (by omega) (PyProof.noPylong_small (by omega)) ?_
        rw [hp.div1]
        walk_at "go"
        refine sub_tup (i := 0) (by walk_at "mem") rfl rfl ?_
        walk_at "go"
        refine sub_tup (i := 0) (by walk_at "mem") rfl rfl ?_
        walk_at "go"
        refine sub_tup (i := 1) (by walk_at "mem") rfl rfl ?_
        walk_at "go"
        refine sub_tup (i := 1) (by walk_at "mem") rfl rfl ?_
        walk_at "go"
        refine sub_tup (i := 2) (by walk_at "mem") rfl rfl ?_
        walk_at "go"
        refine sub_tup (i := 2) (by walk_at "mem") rfl rfl ?_
        walk_at "go"
        refine tpl_k rfl fun t3 => ?_
        walk_at "go"
        refine tup_k ?_
        refine exs_nil (turn_next (m' := [("one", .ref t2), ("other", .ref t3)]) (W' := [(t3, .tup (exB p 1)), (t2, .tup (exA p 1))]) (by walk_at "vars") ?_ ⟨1, by omega, by omega, _, _, rfl, rfl⟩)
        rw [show [AV.int (1 - 0 * p), AV.int (1 - 0 * 0), AV.int (0 - 0 * 1)] = exB p 1 from by simp [exB]]
        walk_at "sub"
    · rintro m W ⟨t1, t2, rfl, rfl⟩
      walk_at "go"
      refine sub_tup (by walk_at "mem") rfl rfl ?_
      walk_at "go"
      refine br_dec (fun _ => ?_) (fun h => absurd (by decide) h)
      walk_at "go"
      exact ret_ret (by walk_at "sub") ⟨t1, rfl, rfl⟩

theorem inverse_fn (B : Bs w hb) {p : Int} (hp : Pr p) : Fn w hb 48 2 [.int 1, .int p] [] (fun r N => r = .int 1 ∧ N = []) := by
  refine fn_of (k := 1) (xs := ["a", "m"]) B (by with_unfolding_all rfl) (by with_unfolding_all rfl) (bind2 fun _ _ => by with_unfolding_all rfl) ?_ (by decide) rfl (by decide) rfl rfl rfl fun L => ?_
  · exact faS rfl (faS rfl fa0)
  · have hpp := hp.pos
    refine exs_unpack3 rfl rfl rfl rfl rfl rfl rfl ?_
    walk_at "go"
    rw [hp.mod1]
    refine cal_fn1 (extended_fn B hp) (by decide) (by walk_at "reads") fun t => ?_
    refine un3_k (by walk_at "mem") ?_
    walk_at "go"
    refine br_eq (fun _ => ?_) (fun h => absurd rfl h)
    walk_at "go"
    rw [hp.mod1]
    exact ret_ret (W' := []) (by walk_at "sub") ⟨rfl, rfl⟩

theorem subRow_len (p c : Int) (t : Nat) (b r : List Int) : ∀ n, (subRow p c t b r n).length = r.length
  | 0 => rfl
  | n + 1 => by simp only [subRow, List.length_set]; exact subRow_len p c t b r n
theorem divN_len (p : Int) (b : List Int) (d : Nat) (a : List Int) : ∀ n, (divN p b d a n).length = a.length
  | 0 => rfl
  | n + 1 => by
    simp only [divN]
    split
    · exact divN_len p b d a n
    · rw [subRow_len]; exact divN_len p b d a n

/-- the places in a turn of the long division -/
structure DmI (a b j d : Nat) : Prop where
  z : (a : Int) - b - j = (d : Int)
  n : a - b - j = d
  i0 : 0 ≤ (d : Int) + b - 1
  i1 : (d : Int) + b - 1 < a
  ti : ((d : Int) + b - 1).toNat = d + b - 1
  q : d < a + 1 - b
  le : d + b ≤ a
theorem DmI.of {a b j : Nat} (hj : j < a + 1 - b) (h0 : 0 < b) : ∃ d, DmI a b j d := by
  have h : b + j ≤ a := Nat.add_comm j b ▸ Nat.le_of_lt_succ (Nat.add_lt_of_lt_sub hj)
  obtain ⟨d, rfl⟩ : ∃ d, a = b + j + d := ⟨a - (b + j), (Nat.add_sub_cancel' h).symm⟩
  obtain ⟨c, rfl⟩ : ∃ c, b = c + 1 := ⟨b - 1, (Nat.sub_add_cancel h0).symm⟩
  have e : ((d : Int) + ((c + 1 : Nat) : Int) - 1) = ((d + c : Nat) : Int) := Int.add_sub_cancel ((d + c : Nat) : Int) 1
  have g : d + (c + 1) ≤ c + 1 + j + d := by rw [Nat.add_comm]; exact Nat.add_le_add_right (Nat.le_add_right _ _) _
  exact ⟨d, {
    z := by
      rw [Int.sub_sub, show ((c + 1 + j + d : Nat) : Int) = (d : Int) + (((c + 1 : Nat) : Int) + (j : Int)) from by rw [Int.add_comm]; rfl]
      exact Int.add_sub_cancel _ _
    n := (Nat.sub_sub _ _ _).trans (Nat.add_sub_cancel_left _ _)
    i0 := by rw [e]; exact Int.natCast_nonneg _
    i1 := by rw [e]; exact Int.ofNat_lt.mpr g
    ti := by rw [e, Int.toNat_natCast]; rfl
    q := Nat.lt_sub_of_add_lt (Nat.lt_succ_of_le g)
    le := g }⟩
theorem mdivmod_fn (B : Bs w hb) {la lb : Addr} {oa ob : AO} {xs ys : List Int} {p : Int} (ha : oa.lx = some (Ints xs)) (hb' : ob.lx = some (Ints ys)) (hla : xs.length ≤ 60) (hlb : ys.length ≤ 60) (hp : Pr p) (h0 : 0 < ys.length) (h1 : ys.getD (ys.length - 1) 0 = 1) :
    Fn w hb 100 3 [.ref la, .ref lb, .int p] [(la, oa), (lb, ob)] (fun r N => ∃ t q a qs, r = .ref t ∧ N = [(t, .tup [.ref q, .ref a]), (a, .pls (Ints (mrest xs ys p))), (q, .pls (Ints qs))]) := by
  refine fn_of (k := 2) (xs := ["a", "b", "p"]) B (by with_unfolding_all rfl) (by with_unfolding_all rfl) (bind3 fun _ _ _ => by with_unfolding_all rfl) ?_ (by decide) rfl (by decide) rfl rfl rfl fun L => ?_
  · exact faS rfl (faS rfl (faS rfl fa0))
  · have hpp := hp.pos
    have hp0 : p ≠ 0 := Int.ne_of_gt (Int.lt_of_lt_of_le (by decide) hp.pos.1)
    have l62 : ys.length < 2 ^ 62 := Nat.lt_of_le_of_lt hlb (by decide)
    have a62 : xs.length < 2 ^ 62 := Nat.lt_of_le_of_lt hla (by decide)
    have q62 : xs.length + 1 - ys.length < 2 ^ 62 := Nat.lt_of_le_of_lt (Nat.sub_le _ _) (Nat.lt_of_le_of_lt (Nat.succ_le_succ hla) (by decide))
    refine ret_abs fun K hK => ?_
    walk_at "go"
    refine cal_list (by walk_at "mem") ha (by simp [sizeLine]; omega) fun lr => ?_
    walk_at "go"
    refine lst_k rfl fun l0 => ?_
    walk_at "go"
    refine cal_lenI (by walk_at "mem") ha a62 ?_
    walk_at "go"
    refine cal_lenI (by walk_at "mem") hb' l62 ?_
    walk_at "go"
    refine cal_max ?_
    refine op_rep (a := .int 0) (by walk_at "mem") (by split <;> omega) (by split <;> omega) fun lq => ?_
    have e : List.replicate (if (xs.length : Int) - ys.length + 1 > 0 then (xs.length : Int) - ys.length + 1 else 0).toNat (AV.int 0) = Ints (List.replicate (xs.length + 1 - ys.length) 0) := by
      rw [toNat_if, toNat_sub1]
      simp [Ints]
    rw [e]
    walk_at "go"
    refine tup_k ?_
    walk_at "go"
    refine sub_last (by walk_at "mem") hb' l62 1 rfl (by decide) h0 ?_
    walk_at "go"
    rw [h1]
    refine cal_fnI (inverse_fn B hp) (by decide) (by walk_at "reads") ?_
    refine exs_for (fun j m W => m = [("a", .ref la), ("b", .ref lb), ("p", .int p), ("rest", .ref lr), ("quotient", .ref lq), ("turn", .int 1)] ∧
      ∃ o o2 qs, o.lx = some (Ints (divN p ys (xs.length - ys.length) xs j)) ∧ o2.lx = some (Ints qs) ∧ qs.length = xs.length + 1 - ys.length ∧ W = [(lr, o), (lq, o2)]) (fun _ => rfl) (iterE_of ?_)
    walk_at "go"
    refine cal_lenI (by walk_at "mem") ha a62 ?_
    walk_at "go"
    refine cal_lenI (by walk_at "mem") hb' l62 ?_
    walk_at "go"
    refine cal_range3 (by omega) (by omega) (by omega) (by omega) fun lg => it_k ((iter_down (N := (xs.length : Int) - ys.length) (d := xs.length + 1 - ys.length) toNat_sub1.symm (by walk_at "mem") (by omega) (by omega)).of rfl rfl rfl) (for_k ?vars ?sub ⟨rfl, .pls (Ints xs), .pls (Ints (List.replicate (xs.length + 1 - ys.length) 0)), _, rfl, rfl, by rw [List.length_replicate], rfl⟩ ?turn ?rst)
    case vars => walk_at "vars"
    case sub => exact (Sub.of_perm (.swap _ _ _)).trans (by walk_at "sub")
    case turn =>
      rintro j m W hj ⟨rfl, o, o2, qs, ho, ho2, hq, rfl⟩ T hT
      have elen := divN_len p ys (xs.length - ys.length) xs j
      obtain ⟨d, D⟩ := DmI.of hj h0
      rw [D.z]
      walk_at "go"
      refine cal_lenI (by walk_at "mem") hb' l62 ?_
      walk_at "go"
      refine sub_I (by walk_at "mem") ho (Nat.lt_of_le_of_lt (Nat.le_of_eq elen) a62) D.i0 (Int.lt_of_lt_of_le D.i1 (Int.ofNat_le.mpr (Nat.le_of_eq elen.symm))) ?_
      rw [D.ti]
      walk_at "go"
      refine set_I (.there .here) ho2 (Int.natCast_nonneg _) (Int.ofNat_lt.mpr (Nat.lt_of_lt_of_le D.q (Nat.le_of_eq hq.symm))) (Nat.lt_of_le_of_lt (Nat.le_of_eq hq) q62) ?_
      rw [Int.toNat_natCast]
      walk_at "go"
      refine br_ne (fun hc => ?_) (fun hc => ?_)
      · refine exs_for (fun i m W => m = [("a", .ref la), ("b", .ref lb), ("p", .int p), ("rest", .ref lr), ("quotient", .ref lq), ("turn", .int 1), ("at", .int (d : Nat)), ("number", .int (((divN p ys (xs.length - ys.length) xs j).getD (d + ys.length - 1) 0 * 1).fmod p))] ∧
          ∃ o o2 qs, o.lx = some (Ints (subRow p (((divN p ys (xs.length - ys.length) xs j).getD (d + ys.length - 1) 0 * 1).fmod p) d ys (divN p ys (xs.length - ys.length) xs j) i)) ∧ o2.lx = some (Ints qs) ∧ qs.length = xs.length + 1 - ys.length ∧ W = [(lr, o), (lq, o2)]) (fun _ => rfl)
          (iterE_enum B rfl rfl rfl rfl rfl rfl rfl (n_enumerate _) rfl (by decide) (by decide) rfl rfl ?_)
        walk_at "go"
        refine enum_k (by walk_at "mem") hb' .refl (apart_R (by walk_at "mem")) (for_k ?vars2 ?sub2 ⟨rfl, o, .lst (Ints (qs.set d (((divN p ys (xs.length - ys.length) xs j).getD (d + ys.length - 1) 0 * 1).fmod p))), _, ho, rfl, (by rw [List.length_set]; exact hq), rfl⟩ ?turn2 ?rest2)
        case vars2 => walk_at "vars"
        case sub2 => exact Sub.of_perm (.swap _ _ _)
        case turn2 =>
          rintro i m W hi ⟨rfl, o, o2, qs, ho, ho2, hq, rfl⟩ T2 hT2
          simp only [ints_getD hi]
          have hi' : i < ys.length := by simpa using hi
          have elen2 := subRow_len p (((divN p ys (xs.length - ys.length) xs j).getD (d + ys.length - 1) 0 * 1).fmod p) d ys (divN p ys (xs.length - ys.length) xs j) i
          have hb1 := Int.fmod_nonneg_of_pos ((divN p ys (xs.length - ys.length) xs j).getD (d + ys.length - 1) 0 * 1) (b := p) (Int.lt_of_lt_of_le (by decide) hp.pos.1)
          have hb2 := Int.fmod_lt_of_pos ((divN p ys (xs.length - ys.length) xs j).getD (d + ys.length - 1) 0 * 1) (b := p) (Int.lt_of_lt_of_le (by decide) hp.pos.1)
          have eij : ((d : Int) + i) = ((d + i : Nat) : Int) := rfl
          generalize ((divN p ys (xs.length - ys.length) xs j).getD (d + ys.length - 1) 0 * 1).fmod p = c at *
          walk_at "go"
          rw [eij]
          have hlt : ((d + i : Nat) : Int) < ((subRow p c d ys (divN p ys (xs.length - ys.length) xs j) i).length : Nat) := by rw [elen2, elen]; exact Int.ofNat_lt.mpr (Nat.lt_of_lt_of_le (Nat.add_lt_add_left hi' d) D.le)
          refine sub_I (by walk_at "mem") ho (by rw [elen2, elen]; exact a62) (Int.natCast_nonneg _) hlt ?_
          walk_at "go"
          rw [eij]
          refine set_I .here ho (Int.natCast_nonneg _) hlt (by rw [elen2, elen]; exact a62) ?_
          rw [Int.toNat_natCast]
          exact exs_nil (hT2.next (by walk_at "vars") (by walk_at "sub") ⟨rfl, .lst (Ints _), o2, qs, rfl, ho2, hq, rfl⟩)
        case rest2 =>
          rintro m W ⟨rfl, o, o2, qs, ho, ho2, hq, rfl⟩
          refine exs_nil (seq_next (exs_nil (hT.next (by walk_at "vars") (by walk_at "sub") ⟨rfl, o, o2, qs, ?_, ho2, hq, rfl⟩)))
          rw [ho, divN, D.n]
          rw [if_neg hc]
          simp
      · refine exs_nil (hT.next (W' := [(lr, o), (lq, .lst (Ints (qs.set d (((divN p ys (xs.length - ys.length) xs j).getD (d + ys.length - 1) 0 * 1).fmod p))))]) (by walk_at "vars") ?_ ⟨rfl, o, .lst (Ints (qs.set d (((divN p ys (xs.length - ys.length) xs j).getD (d + ys.length - 1) 0 * 1).fmod p))), _, ?_, rfl, ?_, rfl⟩)
        · exact Sub.of_perm (.swap _ _ _)
        · rw [ho, divN, D.n]
          rw [if_pos hc]
        · rw [List.length_set]; exact hq
    case rst =>
      rintro m W ⟨rfl, o, o2, qs, ho, ho2, hq, rfl⟩
      walk_at "go"
      refine cal_fn1 (mtrim_fn B ho2 (Nat.le_trans (Nat.le_of_eq hq) (Nat.le_trans (Nat.sub_le _ _) (Nat.succ_le_succ (le_up hla))))) (by decide) (by walk_at "reads") fun q => ?_
      walk_at "go"
      refine cal_lenI (by walk_at "mem") hb' l62 ?_
      walk_at "go"
      have elen := divN_len p ys (xs.length - ys.length) xs (xs.length + 1 - ys.length)
      refine sl_uptoI (by walk_at "mem") ho (by simp [sizeLine]; omega) (by omega) fun a => ?_
      rw [toNat_pred]
      walk_at "go"
      refine cal_fn1 (mtrim_fn (o := .pls (Ints _)) (xs := (divN p ys (xs.length - ys.length) xs (xs.length + 1 - ys.length)).take (ys.length - 1)) B rfl (by rw [List.length_take]; exact Nat.le_trans (Nat.min_le_left _ _) (Nat.le_trans (Nat.sub_le _ _) (le_up hlb)))) (by decide) (by walk_at "reads") fun a' => ?_
      walk_at "go"
      refine tpl_k rfl fun t => ?_
      exact hK.ret (W' := [(t, .tup [.ref q, .ref a']), (a', .pls (Ints (mrest xs ys p))), (q, .pls (Ints (trim qs)))]) (by walk_at "sub") ⟨t, q, a', trim qs, rfl, rfl⟩

theorem mrest_fn (B : Bs w hb) {la lb : Addr} {oa ob : AO} {xs ys : List Int} {p : Int} (ha : oa.lx = some (Ints xs)) (hb' : ob.lx = some (Ints ys)) (hla : xs.length ≤ 60) (hlb : ys.length ≤ 60) (hp : Pr p) (h0 : 0 < ys.length) (h1 : ys.getD (ys.length - 1) 0 = 1) :
    Fn w hb 107 4 [.ref la, .ref lb, .int p] [(la, oa), (lb, ob)] (fun r N => ∃ a, r = .ref a ∧ N = [(a, .pls (Ints (mrest xs ys p)))]) := by
  refine fn_of (k := 3) (xs := ["a", "b", "p"]) B (by with_unfolding_all rfl) (by with_unfolding_all rfl) (bind3 fun _ _ _ => by with_unfolding_all rfl) ?_ (by decide) rfl (by decide) rfl rfl rfl fun L => ?_
  · exact faS rfl (faS rfl (faS rfl fa0))
  · walk_at "go"
    refine cal_fn (mdivmod_fn B ha hb' hla hlb hp h0 h1) (by decide) (by walk_at "reads") ?_
    rintro _ _ ⟨t, q, a, qs, rfl, rfl⟩
    walk_at "go"
    refine sub_tup (x := .ref a) (by walk_at "mem") rfl rfl ?_
    exact ret_ret (by walk_at "sub") ⟨a, rfl, rfl⟩
end

section
/-- a field's polynomial -/
structure Fd (m : List Int) (p : Int) : Prop where
  pr : Pr p
  pos : 2 ≤ m.length
  len : m.length ≤ 6
  last : m.getD (m.length - 1) 0 = 1
def All (p : Int) (xs : List Int) : Prop := ∀ x ∈ xs, 0 ≤ x ∧ x < p
/-- a thing of the field -/
structure El (m : List Int) (p : Int) (xs : List Int) : Prop where
  len : xs.length < m.length
  all : All p xs
theorem All.take {p : Int} {xs : List Int} (h : All p xs) (n : Nat) : All p (xs.take n) := fun x hx => h x (List.mem_of_mem_take hx)
theorem All.trim {p : Int} {xs : List Int} (h : All p xs) : All p (trim xs) := h.take _
theorem All.set {p x : Int} {xs : List Int} (h : All p xs) (hx : 0 ≤ x ∧ x < p) (n : Nat) : All p (xs.set n x) := fun y hy => by
  rcases List.mem_or_eq_of_mem_set hy with q | rfl
  · exact h y q
  · exact hx
theorem fm {p : Int} (hp : 0 < p) (x : Int) : 0 ≤ x.fmod p ∧ x.fmod p < p := ⟨Int.fmod_nonneg_of_pos x hp, Int.fmod_lt_of_pos x hp⟩
theorem trim_len (xs : List Int) : (trim xs).length ≤ xs.length := by unfold trim; rw [List.length_take]; exact Nat.min_le_right _ _
theorem mulRow_all {p x : Int} (hp : 0 < p) {t : Nat} {b f : List Int} (h : All p f) : ∀ n, All p (mulRow p x t b f n)
  | 0 => h
  | n + 1 => (mulRow_all hp h n).set (fm hp _) _
theorem mulN_all {p : Int} (hp : 0 < p) {a b f : List Int} (h : All p f) : ∀ n, All p (mulN p a b f n)
  | 0 => h
  | n + 1 => by
    simp only [mulN]
    split
    · exact mulN_all hp h n
    · exact mulRow_all hp (mulN_all hp h n) _
theorem mmul_all {p : Int} (hp : 0 < p) (a b : List Int) : All p (mmul a b p) := by
  unfold mmul
  split
  · intro x hx; cases hx
  · refine (mulN_all hp ?_ _).trim
    intro x hx
    rw [List.eq_of_mem_replicate hx]
    omega
theorem mmul_len (a b : List Int) (p : Int) : (mmul a b p).length ≤ a.length + b.length := by
  unfold mmul
  split
  · simp
  · refine Nat.le_trans (trim_len _) ?_
    rw [mulN_len, List.length_replicate]; exact Nat.sub_le _ _
theorem subRow_all {p c : Int} (hp : 0 < p) {t : Nat} {b r : List Int} (h : All p r) : ∀ n, All p (subRow p c t b r n)
  | 0 => h
  | n + 1 => (subRow_all hp h n).set (fm hp _) _
theorem divN_all {p : Int} (hp : 0 < p) {b a : List Int} {d : Nat} (h : All p a) : ∀ n, All p (divN p b d a n)
  | 0 => h
  | n + 1 => by
    simp only [divN]
    split
    · exact divN_all hp h n
    · exact subRow_all hp (divN_all hp h n) _
theorem mrest_all {p : Int} (hp : 0 < p) {a : List Int} (b : List Int) (h : All p a) : All p (mrest a b p) := ((divN_all hp h _).take _).trim
theorem mrest_len (a b : List Int) (p : Int) : (mrest a b p).length ≤ b.length - 1 := by
  unfold mrest
  refine Nat.le_trans (trim_len _) ?_
  rw [List.length_take]; exact Nat.min_le_left _ _
theorem Fd.two {m : List Int} {p : Int} (F : Fd m p) : 2 ≤ p ∧ p ≤ 5 := F.pr.pos
theorem El.le {m xs : List Int} {p : Int} (E : El m p xs) (F : Fd m p) {c : Nat} (hc : Nat.ble 5 c = true := by rfl) : xs.length ≤ c := Nat.le_trans (Nat.le_of_lt_succ (Nat.lt_of_lt_of_le E.len F.len)) (Nat.le_of_ble_eq_true hc)
theorem Fd.ne {m : List Int} {p : Int} (F : Fd m p) : p ≠ 0 := Int.ne_of_gt (Int.lt_of_lt_of_le (by decide) F.two.1)
theorem Fd.gt {m : List Int} {p : Int} (F : Fd m p) : 0 < p := Int.lt_of_lt_of_le (by decide) F.two.1
theorem gfm_el {m : List Int} {p : Int} (F : Fd m p) (a b : List Int) : El m p (gfm a b m p) := by
  exact ⟨Nat.lt_of_le_of_lt (mrest_len (mmul a b p) m p) (Nat.sub_lt (Nat.lt_of_lt_of_le (by decide) F.pos) (by decide)), mrest_all F.gt m (mmul_all F.gt a b)⟩
theorem one_el {m : List Int} {p : Int} (F : Fd m p) : El m p [1] := ⟨F.pos, fun x hx => by
  rw [List.mem_singleton.mp hx]
  exact ⟨by decide, Int.lt_of_lt_of_le (by decide) F.two.1⟩⟩
theorem powL_el {m : List Int} {p : Int} (F : Fd m p) : ∀ (k : Nat) (f s : List Int) (n : Nat), El m p f → El m p (powL m p k f s n)
  | 0, f, _, _, h => h
  | k + 1, f, s, n, h => by
    rw [powL]
    split
    · exact h
    · refine powL_el F k _ _ _ ?_
      split
      · exact gfm_el F _ _
      · exact h
theorem gfp_el {m : List Int} {p : Int} (F : Fd m p) (a : List Int) (n : Nat) : El m p (gfp a n m p) := powL_el F _ _ _ _ (one_el F)
theorem El.small {m : List Int} {p : Int} {xs : List Int} (h : El m p xs) (F : Fd m p) : ∀ x ∈ xs, -1000 < x ∧ x < 1000 := fun x hx => by
  have q := h.all x hx
  exact ⟨Int.lt_of_lt_of_le (by decide) q.1, Int.lt_of_lt_of_le q.2 (Int.le_trans F.two.2 (by decide))⟩

variable {w : World} {hb : Heap}
theorem gfm_fn (B : Bs w hb) {la lb lm : Addr} {oa ob om : AO} {xs ys m : List Int} {p : Int} (ha : oa.lx = some (Ints xs)) (hb' : ob.lx = some (Ints ys)) (hm : om.lx = some (Ints m)) (hla : xs.length ≤ 29) (hlb : ys.length ≤ 29) (F : Fd m p) (hx : ∀ x ∈ xs, -1000 < x ∧ x < 1000) :
    Fn w hb 128 5 [.ref la, .ref lb, .ref lm, .int p] [(la, oa), (lb, ob), (lm, om)] (fun r N => ∃ a, r = .ref a ∧ N = [(a, .pls (Ints (gfm xs ys m p)))]) := by
  refine fn_of (k := 4) (xs := ["a", "b", "m", "p"]) B (by with_unfolding_all rfl) (by with_unfolding_all rfl) (bind4 fun _ _ _ _ => by with_unfolding_all rfl) ?_ (by decide) rfl (by decide) rfl rfl rfl fun L => ?_
  · exact faS rfl (faS rfl (faS rfl (faS rfl fa0)))
  · have := F.two
    have := F.len
    have := F.pos
    have hl := mmul_len xs ys p
    walk_at "go"
    refine cal_fn1 (mmul_fn B ha hb' (le_up hla) (le_up hlb) F.gt hx) (by decide) (by walk_at "reads") fun c => ?_
    walk_at "go"
    refine cal_fn1 (mrest_fn (oa := .pls (Ints _)) (xs := mmul xs ys p) B rfl hm (Nat.le_trans hl (Nat.le_trans (Nat.add_le_add hla hlb) (by decide))) (le_up F.len) F.pr (Nat.lt_of_lt_of_le (by decide) F.pos) F.last) (by decide) (by walk_at "reads") fun a => ?_
    exact ret_ret (by walk_at "sub") ⟨a, rfl, rfl⟩

theorem Sub.swap {a b : Addr × AO} {W : Led} : Sub [a, b] (b :: a :: W) := (Sub.of_perm (List.Perm.swap b a [])).trans (Sub.of_sublist (.cons_cons _ (.cons_cons _ (List.nil_sublist _))))
theorem nmod2 (n : Nat) : (n : Int).fmod 2 = ((n % 2 : Nat) : Int) := by
  rw [Int.fmod_eq_emod_of_nonneg _ (by decide)]; rfl
theorem ndiv2 (n : Nat) : (n : Int).fdiv 2 = ((n / 2 : Nat) : Int) := by
  rw [Int.fdiv_eq_ediv_of_nonneg _ (by decide)]; rfl

theorem gfp_fn (B : Bs w hb) {la lm : Addr} {oa om : AO} {xs m : List Int} {p : Int} (ha : oa.lx = some (Ints xs)) (hm : om.lx = some (Ints m)) (F : Fd m p) (hx : El m p xs) :
    Fn w hb 142 6 [.ref la, .int p, .ref lm, .int p] [(la, oa), (lm, om)] (fun r N => ∃ a, r = .ref a ∧ N = [(a, .pls (Ints (gfp xs p.toNat m p)))]) := by
  refine fn_of (k := 5) (xs := ["a", "n", "m", "p"]) B (by with_unfolding_all rfl) (by with_unfolding_all rfl) (bind4 fun _ _ _ _ => by with_unfolding_all rfl) ?_ (by decide) rfl (by decide) rfl rfl rfl fun L => ?_
  · exact faS rfl (faS rfl (faS rfl (faS rfl fa0)))
  · have := F.two
    have := F.len
    have := F.pos
    have := hx.len
    walk_at "go"
    refine br_dec (fun h => absurd h (Int.not_lt.mpr (Int.le_of_lt F.gt))) (fun _ => ?_)
    walk_at "go"
    refine lst_k rfl fun lf => ?_
    walk_at "go"
    refine cal_list (by walk_at "mem") ha (leSzI (c := 5) (hx.le F)) fun ls => ?_
    walk_at "go"
    refine tup_k ?_
    refine exs_whileX (fun k m' W => ∃ lf ls f s n, El m p f ∧ El m p s ∧ powL m p k f s n = gfp xs p.toNat m p ∧ n ≤ k ∧ m' = [("n", .int (n : Nat)), ("m", .ref lm), ("p", .int p), ("found", .ref lf), ("square", .ref ls)] ∧ W = [(lf, .pls (Ints f)), (ls, .pls (Ints s))])
      (fun m' W => ∃ lf ls n, m' = [("n", .int n), ("m", .ref lm), ("p", .int p), ("found", .ref lf), ("square", .ref ls)] ∧ W = [(lf, .pls (Ints (gfp xs p.toNat m p)))])
      (n := p.toNat) (m' := [("n", .int p), ("m", .ref lm), ("p", .int p), ("found", .ref lf), ("square", .ref ls)]) (W' := [(lf, .pls (Ints [1])), (ls, .pls (Ints xs))]) (by walk_at "vars") ?_ ⟨lf, ls, [1], xs, p.toNat, one_el F, hx, rfl, Nat.le_refl _, by rw [Int.toNat_of_nonneg (Int.le_of_lt F.gt)], rfl⟩ ?_ ?_
    · exact Sub.swap
    · rintro k m' W ⟨lf, ls, f, s, n, hf, hs, hk, hn, rfl, rfl⟩
      have := hf.len
      have := hs.len
      walk_at "go"
      refine br_dec (fun h => ?_) (fun h => ?_)
      · have h0 := Int.natCast_pos.mp h
        obtain ⟨k, rfl⟩ : ∃ j, k = j + 1 := ⟨k - 1, (Nat.sub_add_cancel (Nat.le_trans h0 hn)).symm⟩
        rw [powL, if_neg (Nat.ne_of_gt h0)] at hk
        refine exs_cut (fun m' W => ∃ lf, m' = [("n", .int (n : Nat)), ("m", .ref lm), ("p", .int p), ("found", .ref lf), ("square", .ref ls)] ∧ W = [(lf, .pls (Ints (if n % 2 = 1 then gfm f s m p else f))), (ls, .pls (Ints s))]) (ex_if ?_) ?_
        · walk_at "go"
          rw [nmod2]
          walk_at "go"
          refine br_eq (fun h1 => ?_) (fun h1 => ?_)
          · walk_at "go"
            refine cal_fn1 (gfm_fn (oa := .pls (Ints f)) (ob := .pls (Ints s)) B rfl rfl hm (hf.le F) (hs.le F) F (hf.small F)) (by decide) (by walk_at "reads") fun lf' => ?_
            rw [if_pos (show n % 2 = 1 from Int.ofNat.inj h1)]
            exact exs_nil (turn_next (by walk_at "vars") (by walk_at "sub") ⟨lf', rfl, rfl⟩)
          · rw [if_neg (show ¬ n % 2 = 1 from fun q => h1 (congrArg Int.ofNat q))]
            exact exs_nil (turn_next (by walk_at "vars") (by walk_at "sub") ⟨lf, rfl, rfl⟩)
        · rintro m' W ⟨lf, rfl, rfl⟩
          have hf' : El m p (if n % 2 = 1 then gfm f s m p else f) := by
            split
            · exact gfm_el F _ _
            · exact hf
          generalize (if n % 2 = 1 then gfm f s m p else f) = f' at *
          walk_at "go"
          refine op_div (by decide) (PyProof.noPylong_of_log2 (by decide +kernel)) ?_
          rw [ndiv2]
          walk_at "go"
          refine br_dec (fun h => ?_) (fun h => ?_)
          · rw [if_pos (show 0 < n / 2 from Int.natCast_pos.mp h)] at hk
            walk_at "go"
            refine cal_fn1 (gfm_fn (oa := .pls (Ints s)) (ob := .pls (Ints s)) B rfl rfl hm (hs.le F) (hs.le F) F (hs.small F)) (by decide) (by walk_at "reads") fun ls' => ?_
            refine exs_nil (seq_next (exs_nil (turn_next (by walk_at "vars") ?_ ⟨k, Nat.lt_succ_self k, lf, ls', f', gfm s s m p, n / 2, hf', gfm_el F _ _, hk, Nat.le_of_lt_succ (Nat.lt_of_lt_of_le (Nat.div_lt_self h0 (by decide)) hn), rfl, rfl⟩)))
            exact Sub.swap
          · rw [if_neg (show ¬ 0 < n / 2 from fun q => h (Int.natCast_pos.mpr q))] at hk
            exact exs_nil (turn_next (by walk_at "vars") (by walk_at "sub") ⟨k, Nat.lt_succ_self k, lf, ls, f', s, n / 2, hf', hs, hk, Nat.le_of_lt_succ (Nat.lt_of_lt_of_le (Nat.div_lt_self h0 (by decide)) hn), rfl, rfl⟩)
      · have : n = 0 := Nat.eq_zero_of_not_pos fun q => h (Int.natCast_pos.mpr q)
        subst this
        have e : gfp xs p.toNat m p = f := by
          rw [← hk]
          cases k with
          | zero => rfl
          | succ k => rw [powL, if_pos rfl]
        rw [e]
        exact ⟨_, by walk_at "sub", lf, ls, _, rfl, rfl⟩
    · rintro m' W ⟨lf, ls, n, rfl, rfl⟩
      walk_at "go"
      exact ret_ret (by walk_at "sub") ⟨lf, rfl, rfl⟩
end

section
theorem madd_el {m : List Int} {p : Int} (F : Fd m p) {a b : List Int} (ha : a.length < m.length) (hb : b.length < m.length) : El m p (madd a b p) := by
  have := F.two
  refine ⟨?_, ?_⟩
  · refine Nat.lt_of_le_of_lt (trim_len _) ?_
    simp only [maddN, List.length_map, List.length_range]; exact Nat.max_lt.mpr ⟨ha, hb⟩
  · refine All.trim fun x hx => ?_
    simp only [maddN, List.mem_map] at hx
    obtain ⟨i, _, rfl⟩ := hx
    exact fm F.gt _
theorem trN_el {m : List Int} {p : Int} (F : Fd m p) {a : List Int} (ha : El m p a) : ∀ i, El m p (trN m p a i).1 ∧ El m p (trN m p a i).2
  | 0 => ⟨⟨Nat.lt_of_lt_of_le (show 0 < 2 by decide) F.pos, fun x hx => nomatch hx⟩, ha⟩
  | i + 1 => ⟨madd_el F (trN_el F ha i).1.len (trN_el F ha i).2.len, gfp_el F _ _⟩
theorem noN_el {m : List Int} {p : Int} (F : Fd m p) {a : List Int} (ha : El m p a) : ∀ i, El m p (noN m p a i).1 ∧ El m p (noN m p a i).2
  | 0 => ⟨one_el F, ha⟩
  | i + 1 => ⟨gfm_el F _ _, gfp_el F _ _⟩

noncomputable def rowsL (As : List Addr) (rows : List (List Int)) : Led := (As.zip rows).map fun x => (x.1, AO.pls (Ints x.2))
theorem rowsL_snoc {As : List Addr} {rows : List (List Int)} (h : As.length = rows.length) (a : Addr) (r : List Int) : rowsL (As ++ [a]) (rows ++ [r]) = rowsL As rows ++ [(a, AO.pls (Ints r))] := by
  simp [rowsL, List.zip_append h]
theorem perm5 {α : Type} {a b c d : α} {X : List α} : (a :: b :: c :: (X ++ [d])).Perm (b :: a :: d :: c :: X) :=
  (List.Perm.swap _ _ _).trans (((List.perm_append_comm (l₁ := c :: X) (l₂ := [d])).cons _).cons _)

variable {w : World} {hb : Heap}
theorem conj_fn (B : Bs w hb) {la lm : Addr} {oa om : AO} {xs m : List Int} {p : Int} {rows : List (List Int)} (ha : oa.lx = some (Ints xs)) (hm : om.lx = some (Ints m)) (F : Fd m p) (hx : El m p xs) (hc : conj xs m p = some rows) :
    Fn w hb 149 7 [.ref la, .ref lm, .int p] [(la, oa), (lm, om)] (fun r N => ∃ lf As, r = .ref lf ∧ As.length = rows.length ∧ N = (lf, .pls (As.map AV.ref)) :: rowsL As rows) := by
  refine fn_of (k := 6) (xs := ["a", "m", "p"]) B (by with_unfolding_all rfl) (by with_unfolding_all rfl) (bind3 fun _ _ _ => by with_unfolding_all rfl) ?_ (by decide) rfl (by decide) rfl rfl rfl fun L => ?_
  · exact faS rfl (faS rfl (faS rfl fa0))
  · have := F.two
    have := F.len
    have := F.pos
    have := hx.len
    walk_at "go"
    refine cal_list (by walk_at "mem") ha (leSzI (c := 5) (hx.le F)) fun a0 => ?_
    walk_at "go"
    refine lst_k rfl fun lf => ?_
    walk_at "go"
    refine cal_fn1 (gfp_fn B ha hm F hx) (by decide) (by walk_at "reads") fun lh => ?_
    walk_at "go"
    refine tup_k ?_
    refine exs_whileX (fun k m' W => ∃ a0 As rs here lh, El m p here ∧ conjL m p xs k here (xs :: rs) = some rows ∧ As.length = rs.length ∧ As.length + k ≤ 6 ∧ m' = [("m", .ref lm), ("p", .int p), ("found", .ref lf), ("here", .ref lh)] ∧
        W = (lf, .pls ((a0 :: As).map AV.ref)) :: (lh, .pls (Ints here)) :: (a0, .pls (Ints xs)) :: rowsL As rs)
      (fun m' W => ∃ As lh, m' = [("m", .ref lm), ("p", .int p), ("found", .ref lf), ("here", .ref lh)] ∧ As.length = rows.length ∧ W = (lf, .pls (As.map AV.ref)) :: rowsL As rows)
      (n := 6) (m' := [("m", .ref lm), ("p", .int p), ("found", .ref lf), ("here", .ref lh)]) (W' := [(lf, .pls [.ref a0]), (lh, .pls (Ints (gfp xs p.toNat m p))), (a0, .pls (Ints xs))]) (by walk_at "vars") (.of_perm (.swap _ _ _))
      ⟨a0, [], [], gfp xs p.toNat m p, lh, gfp_el F _ _, hc, rfl, by simp, rfl, rfl⟩ ?_ ?_
    · rintro k m' W ⟨a0, As, rs, here, lh, hh, hk, hl, hlen, rfl, rfl⟩
      have := hh.len
      walk_at "go"
      refine sub_lst (o := .pls ((a0 :: As).map AV.ref)) (x := .ref a0) (by walk_at "mem") rfl (by rw [List.length_map, List.length_cons]; exact le62 (c := 7) (Nat.succ_le_succ (Nat.le_trans (Nat.le_add_right _ _) hlen))) (by simp [idx?, seqIndex?]) ?_
      refine cmp_neL (o := .pls (Ints here)) (o' := .pls (Ints xs)) (by walk_at "mem") rfl (by walk_at "mem") rfl ?_
      refine br_nd (fun h => ?_) (fun h => ?_)
      · cases k with
        | zero => simp [conjL] at hk
        | succ k =>
          rw [conjL, if_neg h] at hk
          walk_at "go"
          refine app_k1 (by walk_at "mem") ?_
          walk_at "go"
          refine app_k2 .here (by rw [List.length_map, List.length_cons]; exact leSz (c := 7) (Nat.succ_le_succ (Nat.le_trans (Nat.le_add_right _ _) hlen))) ?_
          walk_at "go"
          refine cal_fn1 (gfp_fn (oa := .pls (Ints here)) B rfl hm F hh) (by decide) (by walk_at "reads") fun lh' => ?_
          refine exs_nil (turn_next (by walk_at "vars") ?_ ⟨k, Nat.lt_succ_self k, a0, As ++ [lh], rs ++ [here], gfp here p.toNat m p, lh', gfp_el F _ _, hk, by simp [hl], by rw [List.length_append, List.length_singleton, Nat.add_right_comm]; exact hlen, rfl, rfl⟩)
          rw [rowsL_snoc hl]
          have e : List.map AV.ref (a0 :: As) ++ [AV.ref lh] = List.map AV.ref (a0 :: (As ++ [lh])) := by simp
          rw [e]
          exact .of_perm perm5
      · cases k with
        | zero => simp [conjL] at hk
        | succ k =>
          rw [conjL, if_pos h] at hk
          cases hk
          exact ⟨_, (.of_sublist (.cons_cons _ (.cons _ (.refl _)))), a0 :: As, lh, rfl, by simp [hl], rfl⟩
    · rintro m' W ⟨As, lh, rfl, hl, rfl⟩
      walk_at "go"
      exact ret_ret .refl ⟨lf, As, rfl, hl, rfl⟩

theorem trace_fn (B : Bs w hb) {la lm : Addr} {oa om : AO} {xs m : List Int} {p : Int} (ha : oa.lx = some (Ints xs)) (hm : om.lx = some (Ints m)) (F : Fd m p) (hx : El m p xs) :
    Fn w hb 163 7 [.ref la, .ref lm, .int p] [(la, oa), (lm, om)] (fun r N => r = .int (trace xs m p) ∧ N = []) := by
  refine fn_of (k := 6) (xs := ["a", "m", "p"]) B (by with_unfolding_all rfl) (by with_unfolding_all rfl) (bind3 fun _ _ _ => by with_unfolding_all rfl) ?_ (by decide) rfl (by decide) rfl rfl rfl fun L => ?_
  · exact faS rfl (faS rfl (faS rfl fa0))
  · have := F.two
    have := F.len
    have := F.pos
    have := hx.len
    walk_at "go"
    refine lst_k rfl fun lf => ?_
    walk_at "go"
    refine cal_list (by walk_at "mem") ha (leSzI (c := 5) (hx.le F)) fun lh => ?_
    walk_at "go"
    refine tup_k ?_
    refine exs_for (fun i m' W => ∃ lf lh, m' = [("m", .ref lm), ("p", .int p), ("found", .ref lf), ("here", .ref lh)] ∧ W = [(lh, .pls (Ints (trN m p xs i).2)), (lf, .pls (Ints (trN m p xs i).1))]) (fun _ => rfl) (iterE_of ?_)
    walk_at "go"
    refine cal_fnI (mdegree_fn B hm (le_up F.len)) (by decide) (by walk_at "reads") ?_
    walk_at "go"
    rw [pred_cast (Nat.le_of_succ_le F.pos)]
    refine cal_range1 fun r => it_k ((iter_range0 (by walk_at "mem") (Nat.lt_of_le_of_lt (Nat.le_trans (Nat.sub_le _ _) F.len) (by decide))).of rfl rfl rfl) (for_k ?vars ?sub ⟨lf, lh, rfl, rfl⟩ ?turn ?rst)
    case vars => walk_at "vars"
    case sub => walk_at "sub"
    case turn =>
      rintro i m' W hi ⟨lf, lh, rfl, rfl⟩ T hT
      have E := trN_el F hx i
      have := E.1.len
      have := E.2.len
      walk_at "go"
      refine cal_fn1 (madd_fn (oa := .pls (Ints _)) (ob := .pls (Ints _)) (xs := (trN m p xs i).1) (ys := (trN m p xs i).2) B rfl rfl (E.1.le F) (E.2.le F) F.gt) (by decide) (by walk_at "reads") fun lf' => ?_
      walk_at "go"
      refine cal_fn1 (gfp_fn (oa := .pls (Ints _)) (xs := (trN m p xs i).2) B rfl hm F E.2) (by decide) (by walk_at "reads") fun lh' => ?_
      exact exs_nil (hT.next (by walk_at "vars") (by walk_at "sub") ⟨lf', lh', rfl, rfl⟩)
    case rst =>
      rintro m' W ⟨lf, lh, rfl, rfl⟩
      have E := trN_el F hx (m.length - 1)
      have := E.1.len
      walk_at "go"
      refine cal_fnI (number_fn (o := .pls (Ints _)) (xs := (trN m p xs (m.length - 1)).1) B rfl (E.1.le F)) (by decide) (by walk_at "reads") ?_
      exact ret_ret (W' := []) (by walk_at "sub") ⟨rfl, rfl⟩

theorem norm_fn (B : Bs w hb) {la lm : Addr} {oa om : AO} {xs m : List Int} {p : Int} (ha : oa.lx = some (Ints xs)) (hm : om.lx = some (Ints m)) (F : Fd m p) (hx : El m p xs) :
    Fn w hb 170 7 [.ref la, .ref lm, .int p] [(la, oa), (lm, om)] (fun r N => r = .int (norm xs m p) ∧ N = []) := by
  refine fn_of (k := 6) (xs := ["a", "m", "p"]) B (by with_unfolding_all rfl) (by with_unfolding_all rfl) (bind3 fun _ _ _ => by with_unfolding_all rfl) ?_ (by decide) rfl (by decide) rfl rfl rfl fun L => ?_
  · exact faS rfl (faS rfl (faS rfl fa0))
  · have := F.two
    have := F.len
    have := F.pos
    have := hx.len
    walk_at "go"
    refine lst_k rfl fun lf => ?_
    walk_at "go"
    refine cal_list (by walk_at "mem") ha (leSzI (c := 5) (hx.le F)) fun lh => ?_
    walk_at "go"
    refine tup_k ?_
    refine exs_for (fun i m' W => ∃ lf lh, m' = [("m", .ref lm), ("p", .int p), ("found", .ref lf), ("here", .ref lh)] ∧ W = [(lh, .pls (Ints (noN m p xs i).2)), (lf, .pls (Ints (noN m p xs i).1))]) (fun _ => rfl) (iterE_of ?_)
    walk_at "go"
    refine cal_fnI (mdegree_fn B hm (le_up F.len)) (by decide) (by walk_at "reads") ?_
    walk_at "go"
    rw [pred_cast (Nat.le_of_succ_le F.pos)]
    refine cal_range1 fun r => it_k ((iter_range0 (by walk_at "mem") (Nat.lt_of_le_of_lt (Nat.le_trans (Nat.sub_le _ _) F.len) (by decide))).of rfl rfl rfl) (for_k ?vars ?sub ⟨lf, lh, rfl, rfl⟩ ?turn ?rst)
    case vars => walk_at "vars"
    case sub => walk_at "sub"
    case turn =>
      rintro i m' W hi ⟨lf, lh, rfl, rfl⟩ T hT
      have E := noN_el F hx i
      have := E.1.len
      have := E.2.len
      walk_at "go"
      refine cal_fn1 (gfm_fn (oa := .pls (Ints _)) (ob := .pls (Ints _)) (xs := (noN m p xs i).1) (ys := (noN m p xs i).2) B rfl rfl hm (E.1.le F) (E.2.le F) F (E.1.small F)) (by decide) (by walk_at "reads") fun lf' => ?_
      walk_at "go"
      refine cal_fn1 (gfp_fn (oa := .pls (Ints _)) (xs := (noN m p xs i).2) B rfl hm F E.2) (by decide) (by walk_at "reads") fun lh' => ?_
      exact exs_nil (hT.next (by walk_at "vars") (by walk_at "sub") ⟨lf', lh', rfl, rfl⟩)
    case rst =>
      rintro m' W ⟨lf, lh, rfl, rfl⟩
      have E := noN_el F hx (m.length - 1)
      have := E.1.len
      walk_at "go"
      refine cal_fnI (number_fn (o := .pls (Ints _)) (xs := (noN m p xs (m.length - 1)).1) B rfl (E.1.le F)) (by decide) (by walk_at "reads") ?_
      exact ret_ret (W' := []) (by walk_at "sub") ⟨rfl, rfl⟩
end

section
theorem take_snoc {xs : List Int} {i : Nat} (h : i < xs.length) : xs.take (i + 1) = xs.take i ++ [xs.getD i 0] := by
  rw [List.take_succ]
  simp [h, List.getD_eq_getElem?_getD]
variable {w : World} {hb : Heap}
theorem mneg_fn (B : Bs w hb) {la : Addr} {oa : AO} {xs : List Int} {p : Int} (ha : oa.lx = some (Ints xs)) (hla : xs.length ≤ 60) (hp : 0 < p) :
    Fn w hb 74 1 [.ref la, .int p] [(la, oa)] (fun r N => ∃ a, r = .ref a ∧ N = [(a, .pls (Ints (mneg xs p)))]) := by
  refine fn_ofC (k := 0) (xs := ["a", "p"]) (m0 := [("a", .ref la)]) (W0 := fun L => [(L + 1, .cel (.int p))]) B (by with_unfolding_all rfl) (by with_unfolding_all rfl) (bind2 fun _ _ => by with_unfolding_all rfl) rfl ?_ (fun L vs e => ?_) (fun L vs e => ?_) (fun L => by simp) rfl rfl rfl fun L => ?_
  · intro L
    exact faS (.inl rfl) (faS (.inr ⟨rfl, rfl⟩) fa0)
  · obtain ⟨v, u, rfl, e1, e2⟩ := av2 e
    simp only [List.forall_mem_cons]
    exact ⟨⟨v, rfl, e1⟩, fun _ h => nomatch h⟩
  · obtain ⟨v, u, rfl, e1, e2⟩ := av2 e
    simp only [List.forall_mem_cons]
    exact ⟨⟨"p", rfl, .inr ⟨_, u, rfl, rfl, e2⟩⟩, fun _ h => nomatch h⟩
  · walk_at "go"
    refine ev_comp rfl (by decide) rfl (by decide) rfl (fun _ => rfl) ?_
    walk_at "go"
    refine comp_k (fun i done W => done = Ints (mneg (xs.take i) p) ∧ W = [(L + 1, .cel (.int p))]) (iter_list (by walk_at "mem") ha .refl (apart_R (by walk_at "mem"))) .refl (by simp [sizeLine]; omega) ⟨rfl, rfl⟩ ?_ ?_
    · rintro C i done W hi hd ⟨rfl, rfl⟩ T hT
      have hp0 : p ≠ 0 := Int.ne_of_gt hp
      rw [ints_getD hi]
      have hi' : i < xs.length := by simpa using hi
      walk_at "go"
      refine hT .refl ⟨?_, rfl⟩
      rw [take_snoc hi']
      simp only [mneg, List.map_append, List.map_cons, List.map_nil]
    · rintro done W hd ⟨rfl, rfl⟩ D
      refine ret_ret (W' := [(D, .pls (Ints (mneg xs p)))]) ?_ ⟨D, rfl, rfl⟩
      simp only [List.length_map, List.take_length]
      walk_at "sub"

theorem mscale_fn (B : Bs w hb) {la : Addr} {oa : AO} {xs : List Int} {n p : Int} (ha : oa.lx = some (Ints xs)) (hla : xs.length ≤ 60) (hp : 0 < p) (hn : -1000 < n ∧ n < 1000) :
    Fn w hb 86 2 [.ref la, .int n, .int p] [(la, oa)] (fun r N => ∃ a, r = .ref a ∧ N = [(a, .pls (Ints (mscale xs n p)))]) := by
  refine fn_ofC (k := 1) (xs := ["a", "number", "p"]) (m0 := [("a", .ref la)]) (W0 := fun L => [(L + 1, .cel (.int n)), (L + 1 + 1, .cel (.int p))]) B (by with_unfolding_all rfl) (by with_unfolding_all rfl) (bind3 fun _ _ _ => by with_unfolding_all rfl) rfl ?_ (fun L vs e => ?_) (fun L vs e => ?_) (fun L => by simp) rfl rfl rfl fun L => ?_
  · intro L
    exact faS (.inl rfl) (faS (.inr ⟨rfl, rfl⟩) (faS (.inr ⟨rfl, rfl⟩) fa0))
  · obtain ⟨v, u, q, rfl, e1, e2, e3⟩ := av3 e
    simp only [List.forall_mem_cons]
    exact ⟨⟨v, rfl, e1⟩, fun _ h => nomatch h⟩
  · obtain ⟨v, u, q, rfl, e1, e2, e3⟩ := av3 e
    simp only [List.forall_mem_cons]
    exact ⟨⟨"number", rfl, .inr ⟨_, u, rfl, rfl, e2⟩⟩, ⟨"p", rfl, .inr ⟨_, q, rfl, rfl, e3⟩⟩, fun _ h => nomatch h⟩
  · walk_at "go"
    refine ev_comp rfl (by decide) rfl (by decide) rfl (fun _ => rfl) ?_
    walk_at "go"
    refine comp_k (fun i done W => done = Ints ((xs.take i).map fun x => (x * n).fmod p) ∧ W = [(L + 1, .cel (.int n)), (L + 1 + 1, .cel (.int p))]) (iter_list (by walk_at "mem") ha .refl (apart_R (by walk_at "mem"))) .refl (by simp [sizeLine]; omega) ⟨rfl, rfl⟩ ?_ ?_
    · rintro C i done W hi hd ⟨rfl, rfl⟩ T hT
      have hp0 : p ≠ 0 := Int.ne_of_gt hp
      rw [ints_getD hi]
      have hi' : i < xs.length := by simpa using hi
      walk_at "go"
      refine hT .refl ⟨?_, rfl⟩
      rw [take_snoc hi']
      simp only [List.map_append, List.map_cons, List.map_nil]
    · rintro done W hd ⟨rfl, rfl⟩ D
      simp only [List.length_map, List.take_length]
      walk_at "go"
      refine cal_fn1 (mtrim_fn (o := .pls (Ints _)) (xs := xs.map fun x => (x * n).fmod p) B rfl (by rw [List.length_map]; omega)) (by decide) (by walk_at "reads") fun a => ?_
      exact ret_ret (by walk_at "sub") ⟨a, rfl, rfl⟩

theorem mneg_len (a : List Int) (p : Int) : (mneg a p).length = a.length := by simp [mneg]
theorem mneg_all {p : Int} (hp : 0 < p) (a : List Int) : All p (mneg a p) := fun x hx => by
  simp only [mneg, List.mem_map] at hx
  obtain ⟨i, _, rfl⟩ := hx
  exact fm hp _
theorem mscale_el {m : List Int} {p : Int} (F : Fd m p) (n : Int) : El m p (mscale [1] n p) := by
  have := F.two
  have := F.pos
  refine ⟨?_, ?_⟩
  · refine Nat.lt_of_le_of_lt (trim_len _) ?_
    simp; omega
  · refine All.trim fun x hx => ?_
    simp only [List.mem_map] at hx
    obtain ⟨i, _, rfl⟩ := hx
    exact fm (by omega) _
theorem atN_el {m : List Int} {p : Int} (F : Fd m p) (f a : List Int) : ∀ i, El m p (atN f a m p i)
  | 0 => ⟨by have := F.pos; simp [atN]; omega, fun x hx => nomatch hx⟩
  | i + 1 => madd_el F (gfm_el F _ _).len (mscale_el F _).len
end

section
section
variable {w : World} {hb : Heap} {L : Addr} {k : Nat} {m : Vars} {R W : Led} {env : Env} {P : AV → Led → Prop}
abbrev KRv2 (R : Led) (P : AV → Led → Prop) (a : AV) : AV → Led → Prop := fun c W => c = .int (-1) ∧ ∃ l o xs, a = .ref l ∧ (l, o) ∈ R ++ W ∧ o.lx = some xs ∧ xs.length ≤ sizeLine ∧ ∀ a, P (.ref a) ((a, .pls xs.reverse) :: W)
abbrev KRv1 (w : World) (hb : Heap) (L : Addr) (k : Nat) (m : Vars) (R : Led) (env : Env) (P : AV → Led → Prop) (st : Expr) : AV → Led → Prop := fun a W => Ev w hb L k m R (eval st env) W (KRv2 R P a)
theorem ev_rev {value st : Expr} {p pos : Pos} (ht : ∀ o r, letTemporaryGo value o r = pure ())
    (h : Ev w hb L k m R (eval value env) W (KRv1 w hb L k m R env P st)) :
    Ev w hb L k m R (eval (.Subscript value (.Slice none none (some st) p) pos) env) W P := fun A s Q E r S hQ => by
  refine wpAny_Subscript_Slice_step (T := "list") list_getitem_lookup (h A s _ E r S fun v a W₁ h₁ tk e p S₁ sp₁ => wpAny_Slice ?_) ht
  rw [evalPart_none]
  refine wpAny_pure (wpAny_pure ?_)
  refine p A _ _ E r S₁ fun v₃ a₃ W₃ h₃ tk₃ e₃ p₃ S₃ sp₃ => ?_
  obtain ⟨rfl, l, o, xs, rfl, hm, ho, hlen, hP⟩ := p₃
  have := av_ref e
  subst this
  obtain ⟨t, rfl⟩ := av_int e₃
  obtain ⟨vs, hl, ev⟩ := S₃.isList hm ho
  have hn := av_len ev
  refine ⟨(hl.push _).typeIs, wpAny_getItem_list_slice (hl.push _) (Heap.IsSliceOf.new ..) .none .none (.int _ _) (by simp) ?_ (by simpa [hn] using hlen)⟩
  rw [Heap.size_push, krv_pick]
  have k1 : ∀ b o', h₃.get? b = some o' → ((h₃.push { cls := .type "slice", data := .fields #[.none, .none, .int (-1) t] }).push { cls := .type "list", data := .seq vs.toArray.toList.reverse.toArray }).get? b = some o' :=
    fun b o' e => Heap.get?_push_of_some _ (Heap.get?_push_of_some _ e)
  have hfresh : h₃.get? (h₃.objs.size + 1) = none := by
    cases e : h₃.get? (h₃.objs.size + 1) with
    | none => rfl
    | some o => exact absurd (Heap.lt_size e) (Nat.not_lt.mpr (Nat.le_succ _))
  have hsz : (h₃.push { cls := .type "slice", data := .fields #[.none, .none, .int (-1) t] }).objs.size = h₃.objs.size + 1 := Heap.size_push ..
  have hat : AO.at ((h₃.push { cls := .type "slice", data := .fields #[.none, .none, .int (-1) t] }).push { cls := .type "list", data := .seq vs.toArray.toList.reverse.toArray }) (h₃.objs.size + 1) (.pls xs.reverse) := by
    refine ⟨vs.reverse, 0, ?_, by simp [List.map_reverse, ev]⟩
    rw [← hsz]
    exact Heap.get?_push_size _ rfl
  exact hQ _ _ _ _ _ rfl (hP _) (S₃.addW k1 hfresh hat) ((sp₁.ev sp₃).ev (Stp.addW k1 hfresh))
end

variable {w : World} {hb : Heap}
theorem at_fn (B : Bs w hb) {lf la lm : Addr} {of oa om : AO} {fs xs m : List Int} {p : Int} (hf : of.lx = some (Ints fs)) (ha : oa.lx = some (Ints xs)) (hm : om.lx = some (Ints m)) (F : Fd m p) (hla : xs.length ≤ 20) (hlf : fs.length ≤ 20) (hfs : ∀ x ∈ fs, -1000 < x ∧ x < 1000) :
    Fn w hb 182 6 [.ref lf, .ref la, .ref lm, .int p] [(lf, of), (la, oa), (lm, om)] (fun r N => ∃ a, r = .ref a ∧ N = [(a, .pls (Ints (gfat fs xs m p)))]) := by
  refine fn_of (k := 5) (xs := ["f", "a", "m", "p"]) B (by with_unfolding_all rfl) (by with_unfolding_all rfl) (bind4 fun _ _ _ _ => by with_unfolding_all rfl) ?_ (by decide) rfl (by decide) rfl rfl rfl fun L => ?_
  · exact faS rfl (faS rfl (faS rfl (faS rfl fa0)))
  · have := F.two
    have := F.len
    have := F.pos
    walk_at "go"
    refine lst_k rfl fun l0 => ?_
    refine exs_for (fun i m' W => ∃ lg, m' = [("a", .ref la), ("m", .ref lm), ("p", .int p), ("found", .ref lg)] ∧ W = [(lg, .pls (Ints (atN fs xs m p i)))]) (fun _ => rfl) (iterE_of ?_)
    refine ev_rev (fun _ _ => rfl) ?_
    walk_at "go"
    refine ⟨rfl, _, _, _, rfl, by walk_at "mem", hf, by simp [sizeLine]; omega, fun lr => ?_⟩
    refine it_k ((iter_list (W' := [(l0, .pls [])]) (by walk_at "mem") rfl (Pick.here).sub (apart_W .here)).of rfl rfl rfl) (for_k ?vars ?sub ⟨l0, rfl, rfl⟩ ?turn ?rst)
    case vars => walk_at "vars"
    case sub => exact .refl
    case turn =>
      rintro i m' W hi ⟨lg, rfl, rfl⟩ T hT
      have E := atN_el F fs xs i
      have := E.len
      have hi' : i < fs.reverse.length := by simpa using hi
      have e : (Ints fs).reverse = Ints fs.reverse := by simp [Ints, List.map_reverse]
      rw [e, ints_getD (by simpa using hi')]
      have hx := hfs _ (List.mem_reverse.mp (getD_mem hi'))
      walk_at "go"
      refine cal_fn1 (gfm_fn (oa := .pls (Ints _)) (xs := atN fs xs m p i) B rfl ha hm (E.le F) (le_up hla) F (E.small F)) (by decide) (by walk_at "reads") fun l1 => ?_
      walk_at "go"
      refine lst_k rfl fun l2 => ?_
      walk_at "go"
      refine cal_fn1 (mscale_fn (oa := .pls (Ints [1])) (xs := [1]) B rfl (by decide) F.gt hx) (by decide) (by walk_at "reads") fun l3 => ?_
      walk_at "go"
      refine cal_fn1 (madd_fn (oa := .pls (Ints _)) (ob := .pls (Ints _)) (xs := gfm (atN fs xs m p i) xs m p) (ys := mscale [1] (fs.reverse.getD i 0) p) B rfl rfl ((gfm_el F _ _).le F) ((mscale_el F _).le F) F.gt) (by decide) (by walk_at "reads") fun l4 => ?_
      exact exs_nil (hT.next (by walk_at "vars") (by walk_at "sub") ⟨l4, rfl, rfl⟩)
    case rst =>
      rintro m' W ⟨lg, rfl, rfl⟩
      walk_at "go"
      refine ret_ret (W' := [(lg, .pls (Ints (gfat fs xs m p)))]) ?_ ⟨lg, rfl, rfl⟩
      simp only [List.length_reverse, List.length_map]
      exact .refl
end

section
/-- lists of a list, told one by one -/
def Rows (W : Led) (As : List Addr) (rows : List (List Int)) : Prop := As.length = rows.length ∧ ∀ i, i < rows.length → (As.getD i 0, AO.pls (Ints (rows.getD i []))) ∈ W
theorem Rows.mono {W W' : Led} {As : List Addr} {rows : List (List Int)} (h : Rows W As rows) (hw : ∀ e ∈ W, e ∈ W') : Rows W' As rows := ⟨h.1, fun i hi => hw _ (h.2 i hi)⟩
theorem Rows.of {As : List Addr} {rows : List (List Int)} (h : As.length = rows.length) : Rows (rowsL As rows) As rows := ⟨h, fun i hi => by
  refine List.mem_map.mpr ⟨(As[i]'(by omega), rows[i]), List.mem_iff_getElem.mpr ⟨i, by simp; omega, by simp⟩, ?_⟩
  simp [List.getD_eq_getElem?_getD, hi, show i < As.length by omega]⟩
theorem Rows.cons {W : Led} {As : List Addr} {rows : List (List Int)} {a : Addr} {r : List Int} (h : Rows W As rows) (ha : (a, AO.pls (Ints r)) ∈ W) : Rows W (a :: As) (r :: rows) := ⟨by simp [h.1], fun i hi => by
  cases i with
  | zero => simpa using ha
  | succ i => simpa using h.2 i (by simpa using hi)⟩
theorem Rows.set {W : Led} {As : List Addr} {rows : List (List Int)} {a : Addr} {r : List Int} (h : Rows W As rows) (ha : (a, AO.pls (Ints r)) ∈ W) (j : Nat) : Rows W (As.set j a) (rows.set j r) := ⟨by simp [h.1], fun i hi => by
  have hi' : i < rows.length := by simpa using hi
  have h1 := h.1
  by_cases e : j = i
  · subst e
    have h2 : j < As.length := by omega
    simpa [List.getD_eq_getElem?_getD, List.getElem?_set, hi', h2] using ha
  · have := h.2 i hi'
    simpa [List.getD_eq_getElem?_getD, List.getElem?_set, e] using this⟩
theorem nil_el {m : List Int} {p : Int} (F : Fd m p) : El m p [] := ⟨by have := F.pos; simp; omega, fun x hx => nomatch hx⟩
theorem set_el {m : List Int} {p : Int} {l : List (List Int)} (h : ∀ j, El m p (l.getD j [])) {r : List Int} (hr : El m p r) (F : Fd m p) (i : Nat) : ∀ j, El m p ((l.set i r).getD j []) := fun j => by
  rw [List.getD_eq_getElem?_getD, List.getElem?_set]
  split
  · split
    · exact hr
    · exact nil_el F
  · have := h j
    rwa [List.getD_eq_getElem?_getD] at this
theorem cons_el {m : List Int} {p : Int} {l : List (List Int)} (h : ∀ j, El m p (l.getD j [])) {r : List Int} (hr : El m p r) : ∀ j, El m p ((r :: l).getD j [])
  | 0 => by simpa using hr
  | j + 1 => by simpa using h j
theorem lsN_el {m : List Int} {p : Int} (F : Fd m p) {root : List Int} {found : List (List Int)} (hf : ∀ j, El m p (found.getD j [])) : ∀ i, ∀ j, El m p ((lsN m p root found i).getD j [])
  | 0 => cons_el hf (nil_el F)
  | i + 1 => set_el (lsN_el F hf i) (madd_el F (lsN_el F hf i i).len (by rw [mneg_len]; exact (gfm_el F _ _).len)) F i
theorem lsR_el {m : List Int} {p : Int} (F : Fd m p) (rows : List (List Int)) : ∀ i, ∀ j, El m p ((lsR m p rows i).getD j [])
  | 0 => cons_el (fun j => by simpa using nil_el F) (one_el F)
  | i + 1 => lsN_el F (lsR_el F rows i) _
theorem lsN_len (m : List Int) (p : Int) (root : List Int) (found : List (List Int)) : ∀ i, (lsN m p root found i).length = found.length + 1
  | 0 => rfl
  | i + 1 => by simp only [lsN, List.length_set]; exact lsN_len m p root found i
theorem lsR_len (m : List Int) (p : Int) (rows : List (List Int)) : ∀ i, (lsR m p rows i).length = i + 1
  | 0 => rfl
  | i + 1 => by rw [lsR, lsN_len, lsR_len m p rows i]
theorem conjL_len {m : List Int} {p : Int} {a : List Int} {rows : List (List Int)} : ∀ (k : Nat) (here : List Int) (acc : List (List Int)), conjL m p a k here acc = some rows → rows.length ≤ acc.length + k
  | 0, _, _, h => by simp [conjL] at h
  | k + 1, here, acc, h => by
    rw [conjL] at h
    split at h
    · cases h; omega
    · have := conjL_len k _ _ h
      simp at this; omega
theorem conjL_el {m : List Int} {p : Int} (F : Fd m p) {a : List Int} {rows : List (List Int)} : ∀ (k : Nat) (here : List Int) (acc : List (List Int)), El m p here → (∀ r ∈ acc, El m p r) → conjL m p a k here acc = some rows → ∀ r ∈ rows, El m p r
  | 0, _, _, _, _, h => by simp [conjL] at h
  | k + 1, here, acc, hh, ha, h => by
    rw [conjL] at h
    split at h
    · cases h; exact ha
    · refine conjL_el F k _ _ (gfp_el F _ _) (fun r hr => ?_) h
      rcases List.mem_append.mp hr with q | q
      · exact ha r q
      · rw [List.mem_singleton.mp q]; exact hh
theorem conj_el {m : List Int} {p : Int} (F : Fd m p) {a : List Int} (ha : El m p a) {rows : List (List Int)} (h : conj a m p = some rows) : ∀ r ∈ rows, El m p r :=
  conjL_el F 6 _ _ (gfp_el F _ _) (fun r hr => by rw [List.mem_singleton.mp hr]; exact ha) h
theorem conj_len {m : List Int} {p : Int} {a : List Int} {rows : List (List Int)} (h : conj a m p = some rows) : rows.length ≤ 7 := by
  have := conjL_len 6 _ _ h
  simpa using this
theorem getD_el {m : List Int} {p : Int} (F : Fd m p) {rows : List (List Int)} (h : ∀ r ∈ rows, El m p r) (j : Nat) : El m p (rows.getD j []) := by
  rw [List.getD_eq_getElem?_getD]
  cases e : rows[j]? with
  | none => exact nil_el F
  | some r => exact h r (List.mem_of_getElem? e)
abbrev Refs (As : List Addr) : List AV := As.map AV.ref
theorem refs_getD {As : List Addr} {i : Nat} (h : i < As.length) : (Refs As).getD i .none = .ref (As.getD i 0) := by simp [List.getD_eq_getElem?_getD, h]
theorem refs_idx {As : List Addr} {i : Nat} (h : i < As.length) : idx? (i : Int) (Refs As) = some (.ref (As.getD i 0)) := by
  unfold idx? seqIndex?
  have h1 : ¬ ((i : Int) < 0) := by omega
  simp [h1, h, List.getD_eq_getElem?_getD]
theorem refs_set {As : List Addr} {i : Nat} {a : Addr} : (Refs As).set i (.ref a) = Refs (As.set i a) := by simp [Refs, List.map_set]

variable {w : World} {hb : Heap}
theorem least_fn (B : Bs w hb) {la lm : Addr} {oa om : AO} {xs m : List Int} {p : Int} {rows : List (List Int)} (ha : oa.lx = some (Ints xs)) (hm : om.lx = some (Ints m)) (F : Fd m p) (hx : El m p xs) (hc : conj xs m p = some rows) :
    Fn w hb 175 8 [.ref la, .ref lm, .int p] [(la, oa), (lm, om)] (fun r N => ∃ a, r = .ref a ∧ N = [(a, .pls (Ints (least rows m p)))]) := by
  refine fn_of (k := 7) (xs := ["a", "m", "p"]) B (by with_unfolding_all rfl) (by with_unfolding_all rfl) (bind3 fun _ _ _ => by with_unfolding_all rfl) ?_ (by decide) rfl (by decide) rfl rfl rfl fun L => ?_
  · exact faS rfl (faS rfl (faS rfl fa0))
  · have := F.two
    have := F.len
    have := F.pos
    have hrl := conj_len hc
    have hre := conj_el F hx hc
    walk_at "go"
    refine lst_k rfl fun l1 => ?_
    walk_at "go"
    refine lst_k rfl fun lf => ?_
    refine exs_forJ (fun _ => rfl) (iterE_of ?_)
    walk_at "go"
    refine cal_fn (conj_fn B ha hm F hx hc) (by decide) (by walk_at "reads") ?_
    rintro _ _ ⟨lc, Cs, rfl, hcl, rfl⟩
    refine it_k (n := (Refs Cs).length) (upd := fun i m => vset m "root" ((Refs Cs).getD i .none)) (W := (lc, .pls (Refs Cs)) :: (rowsL Cs rows ++ [(lf, .pls [.ref l1]), (l1, .pls [.int 1])])) (W' := rowsL Cs rows ++ [(lf, .pls [.ref l1]), (l1, .pls [.int 1])]) ?it
      (for_j (fun i m' W => ∃ lf o Fs G, m' = [("m", .ref lm), ("p", .int p), ("found", .ref lf)] ∧ W = (lf, o) :: G ∧ o.lx = some (Refs Fs) ∧ Rows G Fs (lsR m p rows i) ∧ Rows G Cs rows) (for_k (W' := (lf, .pls [.ref l1]) :: (rowsL Cs rows ++ [(l1, .pls [.int 1])])) ?vars (.of_perm List.perm_middle.symm)
      ⟨lf, .pls [.ref l1], [l1], rowsL Cs rows ++ [(l1, .pls [.int 1])], rfl, rfl, rfl, ⟨rfl, fun i hi => ?_⟩, (Rows.of hcl).mono fun e he => List.mem_append_left _ he⟩ ?turn ?rst))
    case it => exact (iter_list (xs := Refs Cs) (mem_app (.head _)) rfl (Pick.here).sub (apart_W .here)).of rfl rfl rfl
    case vars => walk_at "vars"
    · have : i = 0 := by simp [lsR] at hi; omega
      subst this
      exact List.mem_append_right _ (.head _)
    case turn =>
      rintro i m' W hi ⟨lf, o, Fs, G, rfl, rfl, ho, hF, hC⟩ T hT
      rw [List.length_map] at hi
      rw [refs_getD hi]
      have hfl := hF.1
      rw [lsR_len] at hfl
      have hfe := lsR_el F rows i
      walk_at "go"
      refine lst_k rfl fun l0 => ?_
      walk_at "go"
      refine lst_k rfl fun lx => ?_
      walk_at "go"
      refine op_cat (o := .pls [.ref l0]) (o' := o) (xs := [.ref l0]) (by walk_at "mem") rfl (by walk_at "mem") ho (by rw [List.length_map, hfl]; exact leSz (c := 20) (by simp only [List.length_singleton]; omega)) fun ll => ?_
      refine exs_for (fun j m' W => ∃ o2 Ls G2, m' = [("m", .ref lm), ("p", .int p), ("root", .ref (Cs.getD i 0)), ("later", .ref ll)] ∧ W = (ll, o2) :: G2 ∧ o2.lx = some (Refs Ls) ∧ Rows G2 Ls (lsN m p (rows.getD i []) (lsR m p rows i) j) ∧ Rows G2 Fs (lsR m p rows i) ∧ Rows G2 Cs rows) (fun _ => rfl)
        (iterE_enum B rfl rfl rfl rfl rfl rfl rfl (n_enumerate _) rfl (by decide) (by decide) rfl rfl ?_)
      walk_at "go"
      refine enum_k (W' := (ll, .pls (Refs (l0 :: Fs))) :: (lx, .pls [.ref l0]) :: (l0, .pls []) :: G) (by walk_at "mem") ho (Pick.there (.there (.there .here))).sub (apart_W (.there (.there (.there .here)))) (for_k ?vars2 .refl
        ⟨.pls (Refs (l0 :: Fs)), l0 :: Fs, (lx, .pls [.ref l0]) :: (l0, .pls []) :: G, rfl, rfl, rfl, (hF.mono fun e he => .tail _ (.tail _ he)).cons (.tail _ (.head _)), hF.mono fun e he => .tail _ (.tail _ he), hC.mono fun e he => .tail _ (.tail _ he)⟩ ?turn2 ?rest2)
      case vars2 => walk_at "vars"
      case turn2 =>
        rintro j m' W hj ⟨o2, Ls, G2, rfl, rfl, ho2, hL2, hF2, hC2⟩ T2 hT2
        rw [List.length_map] at hj
        simp only [refs_getD hj]
        have hll := hL2.1
        rw [lsN_len, lsR_len] at hll
        have e1 := hF2.2 j (by rw [lsR_len]; omega)
        have e2 := hC2.2 i (by omega)
        have e3 := hL2.2 j (by rw [lsN_len, lsR_len]; omega)
        have E1 := hfe j
        have E2 := getD_el F hre i
        have E3 := lsN_el F (root := rows.getD i []) hfe j j
        have := E1.len
        have := E2.len
        have := E3.len
        walk_at "go"
        refine sub_lst (o := o2) (x := .ref (Ls.getD j 0)) (by walk_at "mem") ho2 (by rw [List.length_map]; omega) (refs_idx (by omega)) ?_
        walk_at "go"
        have g1l := (gfm_el F ((lsR m p rows i).getD j []) (rows.getD i [])).len
        refine cal_fn1 (gfm_fn (oa := .pls (Ints _)) (ob := .pls (Ints _)) (xs := (lsR m p rows i).getD j []) (ys := rows.getD i []) B rfl rfl hm (E1.le F) (E2.le F) F (E1.small F)) (by decide) (rd_cons (mem_app (.tail _ e1)) (rd_cons (mem_app (.tail _ e2)) (by walk_at "reads"))) fun g1 => ?_
        walk_at "go"
        refine cal_fn1 (mneg_fn (oa := .pls (Ints _)) (xs := gfm ((lsR m p rows i).getD j []) (rows.getD i []) m p) B rfl ((gfm_el F _ _).le F) F.gt) (by decide) (by walk_at "reads") fun g2 => ?_
        walk_at "go"
        refine cal_fn1 (madd_fn (oa := .pls (Ints _)) (ob := .pls (Ints _)) (xs := (lsN m p (rows.getD i []) (lsR m p rows i) j).getD j []) (ys := mneg (gfm ((lsR m p rows i).getD j []) (rows.getD i []) m p) p) B rfl rfl (E3.le F) (by rw [mneg_len]; exact (gfm_el F _ _).le F) F.gt) (by decide)
          (rd_cons (mem_app (.tail _ (.tail _ (.tail _ e3)))) (by walk_at "reads")) fun g3 => ?_
        walk_at "go"
        refine set_k (.there (.there (.there .here))) ho2 (by omega) (by rw [List.length_map]; omega) (by rw [List.length_map]; omega) ?_
        rw [Int.toNat_natCast, refs_set]
        refine exs_nil (hT2.next (by walk_at "vars") .refl ⟨.lst (Refs (Ls.set j g3)), Ls.set j g3, _, rfl, rfl, rfl, (hL2.mono fun e he => .tail _ (.tail _ (.tail _ he))).set (.head _) j, hF2.mono fun e he => .tail _ (.tail _ (.tail _ he)), hC2.mono fun e he => .tail _ (.tail _ (.tail _ he))⟩)
      case rest2 =>
        rintro m' W ⟨o2, Ls, G2, rfl, rfl, ho2, hL2, hF2, hC2⟩
        have hn : (Refs Fs).length = (lsR m p rows i).length := by rw [List.length_map]; exact hF.1
        rw [hn] at hL2
        walk_at "go"
        exact exs_nil (hT.next (by walk_at "vars") .refl ⟨ll, o2, Ls, G2, rfl, rfl, ho2, hL2, hC2⟩)
    case rst =>
      rintro m' W ⟨lf, o, Fs, G, rfl, rfl, ho, hF, hC⟩
      have hn : (Refs Cs).length = rows.length := by rw [List.length_map]; exact hcl
      rw [hn] at hF
      have hfl := hF.1
      rw [lsR_len] at hfl
      refine exs_ret (ev_comp rfl (by decide) rfl (by decide) rfl (fun _ => rfl) ?_)
      walk_at "go"
      refine comp_k (fun j done W => done = Ints (((lsR m p rows rows.length).take j).map num) ∧ W = G) (iter_list (W' := G) (mem_app (.head _)) ho (Pick.here).sub (apart_W .here)) .refl (by rw [List.length_map]; simp [sizeLine]; omega) ⟨rfl, rfl⟩ ?_ ?_
      · rintro C j done W hj hd ⟨rfl, rfl⟩ T hT
        rw [List.length_map] at hj
        rw [refs_getD hj]
        have E := lsR_el F rows rows.length j
        have := E.len
        walk_at "go"
        refine cal_fnI (number_fn (o := .pls (Ints _)) (xs := (lsR m p rows rows.length).getD j []) B rfl (E.le F)) (by decide) (rd_cons (mem_app (hF.2 j (by rw [lsR_len]; omega))) rd_nil) ?_
        refine hT .refl ⟨?_, rfl⟩
        rw [show (lsR m p rows rows.length).take (j + 1) = (lsR m p rows rows.length).take j ++ [(lsR m p rows rows.length).getD j []] from by
          rw [List.take_succ]
          have : j < (lsR m p rows rows.length).length := by rw [lsR_len]; omega
          simp [List.getD_eq_getElem?_getD, this]]
        simp only [List.map_append, List.map_cons, List.map_nil]
      · rintro done W hd ⟨rfl, rfl⟩ D
        refine ret_ret (W' := [(D, .pls (Ints (least rows m p)))]) ?_ ⟨D, rfl, rfl⟩
        have e : (lsR m p rows rows.length).take (Refs Fs).length = lsR m p rows rows.length := List.take_of_length_le (by rw [List.length_map, lsR_len]; omega)
        rw [e]
        exact .of_sublist (.cons_cons _ (List.nil_sublist _))
end

section
theorem trimN_take (xs : List Int) (k : Nat) : ∀ n, n ≤ k → trimN (xs.take k) n = trimN xs n
  | 0, _ => rfl
  | n + 1, h => by
    rw [trimN, trimN, trimN_take xs k n (by omega)]
    have : (xs.take k).getD n 0 = xs.getD n 0 := by simp [List.getD_eq_getElem?_getD, List.getElem?_take, show n < k by omega]
    rw [this]
theorem trimN_le (xs : List Int) : ∀ n, trimN xs n ≤ n
  | 0 => Nat.le_refl _
  | n + 1 => by
    rw [trimN]
    split
    · exact Nat.le_succ_of_le (trimN_le xs n)
    · exact Nat.le_refl _
theorem trim_but {xs : List Int} (h : 0 < xs.length) (h0 : xs.getD (xs.length - 1) 0 = 0) : trim (xs.take (xs.length - 1)) = trim xs := by
  unfold trim
  rw [List.length_take, Nat.min_eq_left (by omega), trimN_take _ _ _ (Nat.le_refl _), List.take_take, Nat.min_eq_left (trimN_le _ _)]
  congr 1
  conv => rhs; rw [show xs.length = (xs.length - 1) + 1 from by omega]
  rw [trimN, if_pos h0]
theorem trim_last {xs : List Int} (h : 0 < xs.length) (h0 : xs.getD (xs.length - 1) 0 ≠ 0) : trim xs = xs := by
  unfold trim
  have : trimN xs xs.length = xs.length := by
    conv => lhs; rw [show xs.length = (xs.length - 1) + 1 from by omega]
    rw [trimN, if_neg h0]; omega
  rw [this, List.take_length]
theorem trim_nil : trim [] = [] := rfl

variable {w : World} {hb : Heap}
/-- what _law_cut hands back: a new list, or its own argument -/
theorem cut_fn (B : Bs w hb) {l : Addr} {o : AO} {xs : List Int} (ho : o.lx = some (Ints xs)) (hlen : xs.length ≤ 64) :
    Fn w hb 213 1 [.ref l] [(l, o)] (fun r N => (∃ a, r = .ref a ∧ N = [(a, .pls (Ints (cut xs)))]) ∨ (r = .ref l ∧ N = [] ∧ cut xs = xs)) := by
  refine fn_of (k := 0) (xs := ["row"]) B (by with_unfolding_all rfl) (by with_unfolding_all rfl) (bind1 fun _ => by with_unfolding_all rfl) ?_ (by decide) rfl (by decide) rfl rfl rfl fun L => ?_
  · exact faS rfl fa0
  · refine exs_whileX (fun n m W => ∃ a ys, m = [("row", .ref a)] ∧ ys.length = n ∧ n ≤ xs.length ∧ trim ys = trim xs ∧ ((a = l ∧ W = [] ∧ ys = xs) ∨ W = [(a, .pls (Ints ys))]))
      (fun m W => ∃ a, m = [("row", .ref a)] ∧ ((a = l ∧ W = [] ∧ cut xs = xs) ∨ W = [(a, .pls (Ints (cut xs)))])) (n := xs.length) (m' := [("row", .ref l)]) (W' := []) (by walk_at "vars") .refl ⟨l, xs, rfl, rfl, Nat.le_refl _, rfl, .inl ⟨rfl, rfl, rfl⟩⟩ ?_ ?_
    · rintro n m W ⟨a, ys, rfl, rfl, hn, ht, hW⟩
      have hm : ∃ o₂, (a, o₂) ∈ [(l, o)] ++ W ∧ o₂.lx = some (Ints ys) := by
        rcases hW with ⟨rfl, rfl, rfl⟩ | rfl
        · exact ⟨o, .head _, ho⟩
        · exact ⟨.pls (Ints ys), .tail _ (.head _), rfl⟩
      obtain ⟨o', hm, ho'⟩ := hm
      have fin : trim ys = ys → ∀ e, ∃ W₂, Sub W₂ ((e, .pls []) :: W) ∧ ∃ a', [("row", AV.ref a)] = [("row", AV.ref a')] ∧ ((a' = l ∧ W₂ = [] ∧ cut xs = xs) ∨ W₂ = [(a', .pls (Ints (cut xs)))]) := fun h e => by
        rcases hW with ⟨rfl, rfl, rfl⟩ | rfl
        · exact ⟨[], .nil, a, rfl, .inl ⟨rfl, rfl, h⟩⟩
        · refine ⟨[(a, .pls (Ints ys))], .of_sublist (.cons _ (.refl _)), a, rfl, .inr ?_⟩
          rw [show cut xs = ys from by rw [cut, ← ht, h]]
      walk_at "go"
      refine lst_k rfl fun e => ?_
      refine cmp_neL (o := o') (o' := .pls []) (xs := ys) (ys := []) (by rcases List.mem_append.mp hm with q | q; exact List.mem_append_left _ q; exact mem_app (.tail _ q)) ho' (by walk_at "mem") rfl ?_
      refine br_nd' (fun h => ?_) (fun h => ?_)
      · have hp : 0 < ys.length := by
          rcases Nat.eq_zero_or_pos ys.length with z | z
          · exact absurd (List.length_eq_zero_iff.mp z) h
          · exact z
        have hm' : (a, o') ∈ [(l, o)] ++ ((e, AO.pls []) :: W) := by rcases List.mem_append.mp hm with q | q; exact List.mem_append_left _ q; exact mem_app (.tail _ q)
        walk_at "go"
        refine sub_last hm' ho' (by omega) 1 rfl (by omega) (by omega) ?_
        walk_at "go"
        refine br_eq' (fun h0 => ?_) (fun h0 => ?_)
        · walk_at "go"
          refine sl_butI hm' ho' (by simp [sizeLine]; omega) 1 rfl (by omega) fun b => ?_
          refine exs_nil (turn_next (W' := [(b, .pls (Ints (ys.take (ys.length - 1))))]) (by walk_at "vars") (.of_sublist (.cons_cons _ (List.nil_sublist _))) ⟨ys.length - 1, Nat.sub_lt hp Nat.one_pos, b, ys.take (ys.length - 1), rfl, by rw [List.length_take]; exact Nat.min_eq_left (Nat.sub_le _ _), Nat.le_trans (Nat.sub_le _ _) hn, by rw [trim_but hp h0, ht], .inr rfl⟩)
        · exact br_f (fin (trim_last hp h0) e)
      · exact br_f (fin (by rw [h]; rfl) e)
    · rintro m W ⟨a, rfl, hW⟩
      walk_at "go"
      rcases hW with ⟨rfl, rfl, h⟩ | rfl
      · exact ret_ret .refl (.inr ⟨rfl, rfl, h⟩)
      · exact ret_ret .refl (.inl ⟨a, rfl, rfl⟩)

/-- what a draw gives -/
noncomputable def draw (cs : List Int) (spot many : Int) : Int := if spot < cs.length then (if cs.getD spot.toNat 0 < 0 then -cs.getD spot.toNat 0 else cs.getD spot.toNat 0).fmod many else (5 * spot + 4).fmod many
theorem draw_in {cs : List Int} {spot many : Int} (h : 0 < many) : 0 ≤ draw cs spot many ∧ draw cs spot many < many := by
  unfold draw
  split <;> exact fm h _
theorem draw_fn (B : Bs w hb) {lp lc : Addr} {o oc : AO} {cs : List Int} {spot many : Int} (ho : o.lx = some [.ref lc, .int spot]) (hc : oc.lx = some (Ints cs)) (hs : 0 ≤ spot ∧ spot < 100) (hcl : cs.length ≤ 64) (hm : 0 < many) :
    FnM w hb 206 1 [.ref lp, .int many] [(lc, oc)] [(lp, o)] (fun r N => r = .int (draw cs spot many) ∧ N = [(lp, .lst [.ref lc, .int (spot + 1)])]) := by
  refine fn_ofM (k := 0) (xs := ["pool", "many"]) B (by with_unfolding_all rfl) (by with_unfolding_all rfl) (bind2 fun _ _ => by with_unfolding_all rfl) ?_ (by decide) rfl (by decide) rfl rfl rfl fun L => ?_
  · exact faS rfl (faS rfl fa0)
  · walk_at "go"
    refine sub_lst (o := o) (x := .int spot) (by walk_at "mem") ho (by simp) rfl ?_
    walk_at "go"
    refine set_k .here ho (by omega) (by simp) (by simp) ?_
    rw [show [AV.ref lc, AV.int spot].set (1 : Int).toNat (.int (spot + 1)) = [.ref lc, .int (spot + 1)] from rfl]
    walk_at "go"
    refine sub_lst (o := .lst [.ref lc, .int (spot + 1)]) (x := .ref lc) (by walk_at "mem") rfl (by simp) rfl ?_
    walk_at "go"
    refine cal_lenI (by walk_at "mem") hc (by omega) ?_
    walk_at "go"
    refine br_dec (fun h => ?_) (fun h => ?_)
    · walk_at "go"
      refine sub_lst (o := .lst [.ref lc, .int (spot + 1)]) (x := .ref lc) (by walk_at "mem") rfl (by simp) rfl ?_
      walk_at "go"
      refine sub_I (by walk_at "mem") hc (by omega) hs.1 h ?_
      walk_at "go"
      refine cal_abs ?_
      walk_at "go"
      exact ret_ret .refl ⟨by rw [draw, if_pos h], rfl⟩
    · walk_at "go"
      exact ret_ret .refl ⟨by rw [draw, if_neg h], rfl⟩

theorem values_fn (B : Bs w hb) {lf la ls lm : Addr} {of oa os om : AO} {fs xs ls' m : List Int} {p : Int} (hf : of.lx = some (Ints fs)) (ha : oa.lx = some (Ints xs)) (hs : os.lx = some (Ints ls')) (hm : om.lx = some (Ints m)) (F : Fd m p) (hx : El m p xs)
    (hlf : fs.length ≤ 10) (hfs : All p fs) (hls : ls'.length ≤ 10) (hl0 : 0 < ls'.length) (hl1 : ls'.getD (ls'.length - 1) 0 = 1) :
    Fn w hb 220 8 [.ref lf, .ref la, .ref ls, .ref lm, .int p] [(lf, of), (la, oa), (ls, os), (lm, om)] (fun r N => r = .bool (values fs xs ls' m p) ∧ N = []) := by
  refine fn_of (k := 7) (xs := ["f", "a", "least", "m", "p"]) B (by with_unfolding_all rfl) (by with_unfolding_all rfl) (bind5 fun _ _ _ _ _ => by with_unfolding_all rfl) ?_ (by decide) rfl (by decide) rfl rfl rfl fun L => ?_
  · exact faS rfl (faS rfl (faS rfl (faS rfl (faS rfl fa0))))
  · have := F.two
    have := F.len
    have := F.pos
    have := hx.len
    have hfs' : ∀ x ∈ fs, -1000 < x ∧ x < 1000 := fun x hx => by have := hfs x hx; omega
    have V : El m p (gfat fs xs m p) := atN_el F fs xs _
    have := V.len
    have hrl := mrest_len fs ls' p
    have hra := mrest_all (by omega : 0 < p) ls' hfs
    have hrs : ∀ x ∈ mrest fs ls' p, -1000 < x ∧ x < 1000 := fun x hx => by have := hra x hx; omega
    have G := gfp_el F xs p.toNat
    have := G.len
    have V2 : El m p (gfat (mrest fs ls' p) xs m p) := atN_el F _ xs _
    walk_at "go"
    refine cal_fn1 (at_fn B hf ha hm F (by omega) (by omega) hfs') (by decide) (by walk_at "reads") fun lv => ?_
    walk_at "go"
    refine cal_fn1 (gfp_fn (oa := .pls (Ints _)) B rfl hm F V) (by decide) (by walk_at "reads") fun l1 => ?_
    walk_at "go"
    refine cal_fn1 (gfp_fn B ha hm F hx) (by decide) (by walk_at "reads") fun l2 => ?_
    walk_at "go"
    refine cal_fn1 (at_fn (oa := .pls (Ints _)) (xs := gfp xs p.toNat m p) B hf rfl hm F (by omega) (by omega) hfs') (by decide) (by walk_at "reads") fun l3 => ?_
    refine cmp_neL (o := .pls (Ints _)) (o' := .pls (Ints _)) (by walk_at "mem") rfl (by walk_at "mem") rfl ?_
    refine br_nd (fun h => ?_) (fun h => ?_)
    · walk_at "go"
      refine ret_ret (W' := []) .nil ⟨?_, rfl⟩
      rw [show values fs xs ls' m p = false from by unfold values; exact if_pos h]
    walk_at "go"
    refine cal_fn1 (mrest_fn B hf hs (by omega) (by omega) F.pr hl0 hl1) (by decide) (by walk_at "reads") fun lr => ?_
    walk_at "go"
    refine ev_and2 ?_
    walk_at "go"
    refine cal_lenI (o := .pls (Ints _)) (by walk_at "mem") rfl (by omega) ?_
    walk_at "go"
    refine cal_lenI (by walk_at "mem") hs (by omega) ?_
    walk_at "go"
    have hv : values fs xs ls' m p = (decide ((mrest fs ls' p).length < ls'.length) && decide (gfat (mrest fs ls' p) xs m p = gfat fs xs m p) && (decide (mrest fs ls' p = []) == decide (gfat fs xs m p = []))) := by
      unfold values
      exact if_neg (fun q => q h)
    have e1 : decide (((mrest fs ls' p).length : Int) < (ls'.length : Int)) = decide ((mrest fs ls' p).length < ls'.length) := decide_eq_decide.mpr Int.ofNat_lt
    rw [e1]
    refine ⟨_, rfl, fun h1 => ?_, fun h1 => ?_⟩
    · exact ret_ret (W' := []) .nil ⟨by rw [hv, h1]; rfl, rfl⟩
    refine ev_and2 ?_
    walk_at "go"
    refine cal_fn1 (at_fn (of := .pls (Ints _)) (fs := mrest fs ls' p) B rfl ha hm F (by omega) (by omega) hrs) (by decide) (by walk_at "reads") fun l4 => ?_
    walk_at "go"
    refine cmp_eqL (o := .pls (Ints _)) (o' := .pls (Ints _)) (by walk_at "mem") rfl (by walk_at "mem") rfl ?_
    refine ⟨_, rfl, fun h2 => ?_, fun h2 => ?_⟩
    · exact ret_ret (W' := []) .nil ⟨by rw [hv, h1, h2]; rfl, rfl⟩
    refine ev_and1 ?_
    walk_at "go"
    refine lst_k rfl fun l5 => ?_
    refine cmp_eqL (o := .pls (Ints _)) (o' := .pls []) (ys := []) (by walk_at "mem") rfl (by walk_at "mem") rfl ?_
    walk_at "go"
    refine lst_k rfl fun l6 => ?_
    refine cmp_eqL (o := .pls (Ints _)) (o' := .pls []) (ys := []) (by walk_at "mem") rfl (by walk_at "mem") rfl ?_
    refine cmp_eqB ?_
    exact ret_ret (W' := []) .nil ⟨by rw [hv, h1, h2]; rfl, rfl⟩
end

section
theorem mem_left {R W : Led} {e : Addr × AO} (h : e ∈ R) : e ∈ R ++ W := List.mem_append_left _ h
local macro_rules | `(tactic| walk_at "mem") => `(tactic| ((with_reducible refine mem_left ?_); assumption))
local macro_rules | `(tactic| walk_at "mem") => `(tactic| ((with_reducible refine mem_app ?_); walk_at "mem"))
theorem ex_grounds {w : World} {hb : Heap} {L : Addr} {k : Nat} {m : Vars} {R W : Led} {P : FL → Vars → Led → Prop} {t : Sem Flow} : ∀ {G : Led}, (∀ e ∈ G, e.2.at hb e.1) → Ex w hb L k (G ++ R) t m W P → Ex w hb L k R t m W P
  | [], _, h => h
  | e :: G, hG, h => ex_grounds (fun x hx => hG x (.tail _ hx)) (ex_ground (hG e (.head _)) h)

noncomputable def fld (i : Nat) : Int × List Int := fields.getD i (0, [])
/-- the table of the fields, as it stands at the top -/
noncomputable def GR : Led := (199, .tup ((List.range 8).map fun (i : Nat) => .ref (184 + 2 * i))) :: (List.range 8).flatMap fun (i : Nat) => [(184 + 2 * i, .tup [.int (fld i).1, .ref (183 + 2 * i)]), (183 + 2 * i, .lst (Ints (fld i).2))]
theorem gr_tup {i : Nat} (h : i < 8) : (184 + 2 * i, AO.tup [.int (fld i).1, .ref (183 + 2 * i)]) ∈ GR := .tail _ (List.mem_flatMap.mpr ⟨i, List.mem_range.mpr h, .head _⟩)
theorem gr_lst {i : Nat} (h : i < 8) : (183 + 2 * i, AO.lst (Ints (fld i).2)) ∈ GR := .tail _ (List.mem_flatMap.mpr ⟨i, List.mem_range.mpr h, .tail _ (.head _)⟩)
theorem lt8 : ∀ i : Nat, i < 8 → i = 0 ∨ i = 1 ∨ i = 2 ∨ i = 3 ∨ i = 4 ∨ i = 5 ∨ i = 6 ∨ i = 7 := by decide
theorem gr_idx {i : Nat} (h : i < 8) : idx? (i : Int) ((List.range 8).map fun (i : Nat) => AV.ref (184 + 2 * i)) = some (.ref (184 + 2 * i)) := by
  have hi := lt8 i h
  rcases hi with rfl | rfl | rfl | rfl | rfl | rfl | rfl | rfl <;> rfl
theorem fld_Fd {i : Nat} (h : i < 8) : Fd (fld i).2 (fld i).1 := by
  have hi := lt8 i h
  rcases hi with rfl | rfl | rfl | rfl | rfl | rfl | rfl | rfl
  all_goals exact ⟨by first | exact .inl rfl | exact .inr (.inl rfl) | exact .inr (.inr rfl), by decide, by decide, by decide⟩
theorem gr_at {w : World} {hb : Heap} (B : Bs w hb) : ∀ e ∈ GR, e.2.at hb e.1 := by
  have T : ∀ (t l : Addr) (p : Int) (u n n' : Nat) (m : List Int) (vs : List Value), (hd.heap_39 w.params).lookup t = some { cls := .type "tuple", data := .seq #[.int p u, .ref l] n } →
      (hd.heap_39 w.params).lookup l = some { cls := .type "list", data := .seq vs.toArray n' } → vs.map av = (Ints m).map some →
      (AO.tup [.int p, .ref l]).at hb t ∧ (AO.lst (Ints m)).at hb l := fun t l p u n n' m vs h1 h2 h3 =>
    ⟨⟨[.int p u, .ref l], ⟨_, B.X _ _ h1, rfl, n, rfl⟩, rfl⟩, ⟨vs, ⟨_, B.X _ _ h2, rfl, n', rfl⟩, h3⟩⟩
  intro e he
  rcases List.mem_cons.mp he with rfl | he
  · exact ⟨[.ref 184, .ref 186, .ref 188, .ref 190, .ref 192, .ref 194, .ref 196, .ref 198], ⟨_, B.X 199 _ (by with_unfolding_all rfl), rfl, _, rfl⟩, rfl⟩
  · obtain ⟨i, hi, he⟩ := List.mem_flatMap.mp he
    have hi := List.mem_range.mp hi
    have hi := lt8 i hi
    have key : (AO.tup [.int (fld i).1, .ref (183 + 2 * i)]).at hb (184 + 2 * i) ∧ (AO.lst (Ints (fld i).2)).at hb (183 + 2 * i) := by
      rcases hi with rfl | rfl | rfl | rfl | rfl | rfl | rfl | rfl
      · exact T 184 183 2 _ _ _ [1, 1, 0, 1] [.int 1 _, .int 1 _, .int 0 _, .int 1 _] (by with_unfolding_all rfl) (by with_unfolding_all rfl) rfl
      · exact T 186 185 2 _ _ _ [1, 1, 0, 0, 1] [.int 1 _, .int 1 _, .int 0 _, .int 0 _, .int 1 _] (by with_unfolding_all rfl) (by with_unfolding_all rfl) rfl
      · exact T 188 187 5 _ _ _ [2, 0, 1] [.int 2 _, .int 0 _, .int 1 _] (by with_unfolding_all rfl) (by with_unfolding_all rfl) rfl
      · exact T 190 189 2 _ _ _ [1, 0, 0, 1, 1] [.int 1 _, .int 0 _, .int 0 _, .int 1 _, .int 1 _] (by with_unfolding_all rfl) (by with_unfolding_all rfl) rfl
      · exact T 192 191 3 _ _ _ [1, 0, 1] [.int 1 _, .int 0 _, .int 1 _] (by with_unfolding_all rfl) (by with_unfolding_all rfl) rfl
      · exact T 194 193 3 _ _ _ [1, 2, 0, 1] [.int 1 _, .int 2 _, .int 0 _, .int 1 _] (by with_unfolding_all rfl) (by with_unfolding_all rfl) rfl
      · exact T 196 195 3 _ _ _ [2, 1, 1] [.int 2 _, .int 1 _, .int 1 _] (by with_unfolding_all rfl) (by with_unfolding_all rfl) rfl
      · exact T 198 197 2 _ _ _ [1, 1, 1, 1, 1] [.int 1 _, .int 1 _, .int 1 _, .int 1 _, .int 1 _] (by with_unfolding_all rfl) (by with_unfolding_all rfl) rfl
    simp only [List.mem_cons, List.not_mem_nil, or_false] at he
    rcases he with rfl | rfl
    · exact key.1
    · exact key.2

theorem spot_ok {n : Nat} (h : n < 100) : 0 ≤ (n : Int) ∧ (n : Int) < 100 := ⟨Int.natCast_nonneg _, by omega⟩
theorem cal_draw {w : World} {hb : Heap} {L : Addr} {k : Nat} {m : Vars} {R W W' : Led} {P : AV → Led → Prop} (B : Bs w hb) {lp lc : Addr} {o oc : AO} {cs : List Int} {spot many : Int} (hk : 1 ≤ k) (hp : Pick W (lp, o) W') (ho : o.lx = some [.ref lc, .int spot]) (hm : (lc, oc) ∈ R ++ W')
    (hc : oc.lx = some (Ints cs)) (hs : 0 ≤ spot ∧ spot < 100) (hcl : cs.length ≤ 64) (h0 : 0 < many) (h : P (.int (draw cs spot many)) ((lp, .lst [.ref lc, .int (spot + 1)]) :: W')) : Cal w hb L k m R (.ref 206) [.ref lp, .int many] W P :=
  cal_fnM (W₁ := W') (draw_fn B ho hc hs hcl h0) hk hp.perm (rd_cons hm rd_nil) fun a N hN => by
    obtain ⟨rfl, rfl⟩ := hN
    exact h

/-- what a cut row of draws is -/
def Dg (p : Int) (n : Nat) (xs : List Int) : Prop := ∃ d : List Int, d.length = n ∧ All p d ∧ xs = cut d
theorem Dg.len {p : Int} {n : Nat} {xs : List Int} (h : Dg p n xs) : xs.length ≤ n := by
  obtain ⟨d, h1, _, rfl⟩ := h
  exact h1 ▸ trim_len d
theorem Dg.all {p : Int} {n : Nat} {xs : List Int} (h : Dg p n xs) : All p xs := by
  obtain ⟨d, _, h2, rfl⟩ := h
  exact h2.trim
theorem Dg.el {p : Int} {K : Nat} {m xs : List Int} (h : Dg p K xs) (hK : K = m.length - 1) (F : Fd m p) : El m p xs := ⟨by have := h.len; have := F.pos; omega, h.all⟩
/-- what the law asks, in plain Lean -/
structure LawOk (m : List Int) (p : Int) (a b f : List Int) (rows : List (List Int)) : Prop where
  c : conj a m p = some rows
  pos : rows.length ≠ 0
  dv : (m.length - 1) % rows.length = 0
  len : (least rows m p).length = rows.length + 1
  lead : (least rows m p).getD rows.length 0 = 1
  tr : trace a m p = ((0 - (least rows m p).getD (rows.length - 1) 0) * (((m.length - 1) / rows.length : Nat) : Int)).fmod p
  no : norm a m p = (((-1) ^ rows.length * (least rows m p).getD 0 0) ^ ((m.length - 1) / rows.length)).fmod p
  nought : decide (gfat (least rows m p) b m p = []) = decide (b ∈ rows)
  vals : values f a (least rows m p) m p = true

theorem Rows.snoc {W : Led} {As : List Addr} {rows : List (List Int)} {a : Addr} {r : List Int} (h : Rows W As rows) (ha : (a, AO.pls (Ints r)) ∈ W) : Rows W (As ++ [a]) (rows ++ [r]) := ⟨by simp [h.1], fun i hi => by
  have h1 := h.1
  by_cases e : i < rows.length
  · have := h.2 i e
    simpa [List.getD_eq_getElem?_getD, List.getElem?_append_left e, List.getElem?_append_left (show i < As.length by omega)] using this
  · have e' : i = rows.length := by simp at hi; omega
    subst e'
    simpa [List.getD_eq_getElem?_getD, ← h1] using ha⟩
theorem evl_weak {w : World} {hb : Heap} {L : Addr} {k : Nat} {m : Vars} {R W W' : Led} {t : Sem (List Value)} {P : List AV → Led → Prop} (hw : Sub W' W) (h : EvL w hb L k m R t W' P) : EvL w hb L k m R t W P :=
  fun A s Q E r S hQ => h A s Q E r (S.sub (fun _ h => h) hw) fun vs as W₂ h' tk e p S' st => hQ vs as W₂ h' tk e p S' ⟨fun b o hb' e => st.keep b o (fun q => hb' (map_mem hw q)) e, fun a ha => (st.fresh a ha).imp (map_mem hw) id⟩
theorem least_all {m : List Int} {p : Int} (F : Fd m p) (rows : List (List Int)) : All p (least rows m p) := fun x hx => by
  have := F.two
  obtain ⟨r, hr, rfl⟩ := List.mem_map.mp hx
  obtain ⟨j, hj, rfl⟩ := List.mem_iff_getElem.mp hr
  have E := lsR_el F rows rows.length j
  rw [List.getD_eq_getElem?_getD, List.getElem?_eq_getElem hj] at E
  simp only [Option.getD_some] at E
  generalize (lsR m p rows rows.length)[j] = r at E
  unfold num
  cases r with
  | nil => simp; omega
  | cons y r => simpa using E.all y (.head _)
theorem negpow : ∀ n : Nat, (-1 : Int) ^ n = 1 ∨ (-1 : Int) ^ n = -1
  | 0 => .inl rfl
  | n + 1 => by
    rw [Int.pow_succ]
    rcases negpow n with q | q <;> rw [q] <;> decide
/-- what the walk's second half needs, reckoned once -/
structure LawF (K : Nat) (m : List Int) (p : Int) (r : Nat) (ls : List Int) : Prop where
  hl : (ls.length : Int) = (r : Int) + 1
  c62 : r < 2 ^ 62
  r0 : (r : Int) ≠ 0
  rn : (r : Int).natAbs < 1073741824
  rp : 0 ≤ (r : Int) ∧ (r : Int) ≤ 1000
  l62 : ls.length < 2 ^ 62
  l20 : ls.length ≤ 20
  l10 : ls.length ≤ 10
  l1 : 1 ≤ ls.length
  l2 : 2 ≤ ls.length
  li : (0 : Int) < ls.length
  m1 : ls.length - 1 = r
  m2 : ls.length - 2 = r - 1
  e1 : (K : Int).fmod (r : Int) = 0
  e2 : (K : Int).fdiv (r : Int) = ((K / r : Nat) : Int)
  q : 0 ≤ ((K / r : Nat) : Int) ∧ ((K / r : Nat) : Int) ≤ 1000
  sm : ∀ x ∈ ls, -1000 < x ∧ x < 1000
  s0 : -1000 < 0 - ls.getD (r - 1) 0
  s1 : 0 - ls.getD (r - 1) 0 < 1000
  t0 : -1000 < ls.getD 0 0
  t1 : ls.getD 0 0 < 1000
  b : -1000 < (-1 : Int) ^ r * ls.getD 0 0 ∧ (-1 : Int) ^ r * ls.getD 0 0 < 1000
theorem lawF_nat : ∀ r : Nat, r < 8 → r ≠ 0 → r < 2 ^ 62 ∧ (r : Int) ≠ 0 ∧ (r : Int).natAbs < 1073741824 ∧ (0 ≤ (r : Int) ∧ (r : Int) ≤ 1000) ∧ r + 1 < 2 ^ 62 ∧ r + 1 ≤ 20 ∧ r + 1 ≤ 10 ∧ 1 ≤ r + 1 ∧ 2 ≤ r + 1 ∧ (0 : Int) < ((r + 1 : Nat) : Int) ∧ r + 1 - 1 = r ∧ r + 1 - 2 = r - 1 ∧ r - 1 < r + 1 := by decide
theorem neg_bd {x p : Int} (hp : p ≤ 5) (h : 0 ≤ x ∧ x < p) : (-1000 < 0 - x ∧ 0 - x < 1000) ∧ (-1000 < x ∧ x < 1000) ∧ (-1000 < 1 * x ∧ 1 * x < 1000) ∧ (-1000 < -1 * x ∧ -1 * x < 1000) := by
  have l : x < 1000 := Int.lt_of_lt_of_le h.2 (Int.le_trans hp (by decide))
  have a : -1000 < x := Int.lt_of_lt_of_le (by decide) h.1
  have b : -1000 < -x := Int.neg_lt_neg l
  have c : -x < 1000 := Int.lt_of_le_of_lt (Int.neg_le_neg h.1) (by decide)
  rw [Int.zero_sub, Int.one_mul, Int.neg_mul, Int.one_mul]
  exact ⟨⟨b, c⟩, ⟨a, l⟩, ⟨a, l⟩, ⟨b, c⟩⟩
theorem LawF.of {K : Nat} {m : List Int} {p : Int} {rows : List (List Int)} {a b f : List Int} (F : Fd m p) (ok : LawOk m p a b f rows) (hK : K = m.length - 1) : LawF K m p rows.length (least rows m p) := by
  have hr := conj_len ok.c
  have hl := ok.len
  have N := lawF_nat rows.length (by omega) ok.pos
  have two := F.two
  have len := F.len
  have hls := least_all F rows
  have h0 := neg_bd two.2 (hls _ (getD_mem (xs := least rows m p) (i := 0) (by omega)))
  have h2 := neg_bd two.2 (hls _ (getD_mem (xs := least rows m p) (i := rows.length - 1) (by omega)))
  have hq : K / rows.length ≤ K := Nat.div_le_self _ _
  have hq' : K ≤ 6 := hK ▸ Nat.le_trans (Nat.sub_le _ _) len
  clear hr
  have dv := ok.dv
  rw [← hK] at dv
  clear ok
  generalize rows.length = r at *
  generalize least rows m p = ls at *
  obtain ⟨n1, n2, n3, n4, n5, n6, n7, n8, n9, n10, n11, n12, n13⟩ := N
  rw [← hl] at n5 n6 n7 n8 n9 n10 n11 n12
  exact {
    hl := by rw [hl]; push_cast; rfl
    c62 := n1, r0 := n2, rn := n3, rp := n4, l62 := n5, l20 := n6, l10 := n7, l1 := n8, l2 := n9, li := n10, m1 := n11, m2 := n12
    e1 := by rw [Int.fmod_eq_emod_of_nonneg _ n4.1]; exact_mod_cast dv
    e2 := by rw [Int.fdiv_eq_ediv_of_nonneg _ n4.1]; exact (Int.natCast_ediv _ _).symm
    q := ⟨Int.natCast_nonneg _, Int.ofNat_le.mpr (Nat.le_trans hq (Nat.le_trans hq' (by decide)))⟩
    sm := fun x hx => (neg_bd two.2 (hls x hx)).2.1
    s0 := h2.1.1, s1 := h2.1.2, t0 := h0.2.1.1, t1 := h0.2.1.2
    b := (negpow r).elim (fun q => by rw [q]; exact h0.2.2.1) (fun q => by rw [q]; exact h0.2.2.2) }
variable {w : World} {hb : Heap}
set_option maxHeartbeats 4000000 in
theorem law_fn (B : Bs w hb) {l : Addr} {ns : List Int} (hlen : ns.length ≤ 63) (H : ∀ i < 8, ∀ a b f, Dg (fld i).1 ((fld i).2.length - 1) a → Dg (fld i).1 ((fld i).2.length - 1) b → Dg (fld i).1 3 f → ∃ rows, LawOk (fld i).2 (fld i).1 a b f rows) :
    Fn w hb 225 9 [.ref l] [(l, .lst (Ints ns))] (fun r N => r = .bool true ∧ N = []) := by
  refine fn_ofC (k := 8) (xs := ["script"]) (m0 := [("script", .ref l)]) (W0 := fun L => [(L + 1, .emp), (L + 1 + 1, .emp), (L + 1 + 1 + 1, .emp)]) B (by with_unfolding_all rfl) (by with_unfolding_all rfl) (bind1 fun _ => by with_unfolding_all rfl) rfl ?_ (fun L vs e => ?_) (fun L vs e => ?_) (fun L => by simp) rfl rfl rfl fun L => ?_
  · intro L
    exact faS (.inl rfl) fa0
  · obtain ⟨v, rfl, e1⟩ := av1 e
    simp only [List.forall_mem_cons]
    exact ⟨⟨v, rfl, e1⟩, fun _ h => nomatch h⟩
  · obtain ⟨v, rfl, e1⟩ := av1 e
    simp only [List.forall_mem_cons]
    exact ⟨⟨"pool", rfl, .inl ⟨trivial, rfl⟩⟩, ⟨"p", rfl, .inl ⟨trivial, rfl⟩⟩, ⟨"k", rfl, .inl ⟨trivial, rfl⟩⟩, fun _ h => nomatch h⟩
  · refine ret_abs fun K0 hK0 => ?_
    refine ex_grounds (gr_at B) ?_
    have hR : (l, AO.lst (Ints ns)) ∈ GR ++ [(l, AO.lst (Ints ns))] := List.mem_append_right _ (.head _)
    have hT : (199, AO.tup ((List.range 8).map fun (i : Nat) => .ref (184 + 2 * i))) ∈ GR ++ [(l, AO.lst (Ints ns))] := List.mem_append_left _ (.head _)
    have hTi : ∀ i < 8, (184 + 2 * i, AO.tup [.int (fld i).1, .ref (183 + 2 * i)]) ∈ GR ++ [(l, AO.lst (Ints ns))] := fun i hi => List.mem_append_left _ (gr_tup hi)
    have hMi : ∀ i < 8, (183 + 2 * i, AO.lst (Ints (fld i).2)) ∈ GR ++ [(l, AO.lst (Ints ns))] := fun i hi => List.mem_append_left _ (gr_lst hi)
    generalize GR ++ [(l, AO.lst (Ints ns))] = R at *
    -- pool
    refine exs_assignC rfl rfl rfl rfl ?_
    walk_at "go"
    refine ev_comp rfl (by decide) rfl (by decide) rfl (fun _ => rfl) ?_
    walk_at "go"
    refine sl_uptoI (List.mem_append_left _ hR) rfl (by simp [sizeLine]; omega) (by omega) fun l16 => ?_
    refine comp_k (fun i done W => done = Ints ((ns.take 16).take i) ∧ W = [(L + 1, .emp), (L + 1 + 1, .emp), (L + 1 + 1 + 1, .emp)]) (iter_list (mem_app (.head _)) rfl (Pick.here).sub (apart_W .here)) .refl (by simp [sizeLine]; omega) ⟨rfl, rfl⟩ ?_ ?_
    · rintro C i done W hi hd ⟨rfl, rfl⟩ T hT
      have hi' : i < (ns.take 16).length := by simpa using hi
      rw [show (16 : Int).toNat = 16 from rfl, ints_getD (by simpa using hi')]
      refine c_int B ⟨rfl, rfl, rfl⟩ rfl rfl rfl ?_
      walk_at "go"
      refine cal_int ?_
      refine hT .refl ⟨?_, rfl⟩
      rw [take_snoc hi']
      simp [Ints]
    rintro done W hd ⟨rfl, rfl⟩ lc
    rw [show (Ints (ns.take (16 : Int).toNat)).length = (ns.take 16).length from by simp, List.take_length]
    have hcl : (ns.take 16).length ≤ 64 := by simp; omega
    generalize ns.take 16 = cs at hcl ⊢
    walk_at "go"
    refine lst_k rfl fun lp => asc_k (.there (.there .here)) rfl ?_
    -- p, m
    refine exs_unpackCL rfl rfl rfl rfl rfl rfl rfl ?_
    refine ev_sub (fun _ _ => rfl) (ev_glob B rfl rfl rfl (by with_unfolding_all rfl) rfl ?_ (by decide))
    walk_at "go"
    refine cal_draw B (by omega) (.there .here) rfl (mem_app (.tail _ (.head _))) rfl (by omega) hcl (by omega) ?_
    obtain ⟨i, hd0, hi⟩ : ∃ i : Nat, draw cs 0 8 = i ∧ i < 8 := by
      have := draw_in (cs := cs) (spot := 0) (many := 8) (by omega)
      exact ⟨(draw cs 0 8).toNat, by omega, by omega⟩
    rw [hd0]
    refine sub_tup (mem_left hT) rfl (gr_idx hi) ?_
    have F := fld_Fd hi
    have H := H i hi
    refine unc_k (o := .emp) (mem_left (hTi i hi)) (.there (.there (.there .here))) rfl ?_
    have hm := hMi i hi
    clear hTi hMi hT hR hd0
    generalize fld i = pm at *
    obtain ⟨p, m⟩ := pm
    simp only at F H hm ⊢
    generalize 183 + 2 * i = lm at *
    have hpp := F.two
    have hml := F.len
    have hmp := F.pos
    -- k
    refine exs_assignC rfl rfl rfl rfl ?_
    walk_at "go"
    refine cal_lenI (mem_left hm) rfl (by omega) ?_
    walk_at "go"
    rw [pred_cast (Nat.le_of_succ_le hmp)]
    refine asc_k (o := .emp) (.there (.there (.there (.there .here)))) rfl ?_
    obtain ⟨K, hK⟩ : ∃ K, K = m.length - 1 := ⟨_, rfl⟩
    rw [← hK] at H ⊢
    have hK6 : K ≤ 6 := hK ▸ Nat.le_trans (Nat.sub_le _ _) hml
    have hp0 := F.ne
    have hpg := F.gt
    -- a, b
    refine exs_unpack2L rfl rfl rfl rfl rfl rfl ?_
    refine ev_comp rfl (by decide) rfl (by decide) rfl (fun _ => rfl) ?_
    walk_at "go"
    refine cal_range1 fun rg => ?_
    have g1 : (L + 1, AO.cel (.ref lp)) ∈ ([(L + 1 + 1 + 1, .cel (.int K)), (L + 1 + 1, .cel (.int p)), (L + 1, .cel (.ref lp)), (lc, .pls (Ints cs))] : Led) := .tail _ (.tail _ (.head _))
    refine comp_k (W'' := (lp, .lst [.ref lc, .int (0 + 1)]) :: [(L + 1 + 1 + 1, .cel (.int K)), (L + 1 + 1, .cel (.int p)), (L + 1, .cel (.ref lp)), (lc, .pls (Ints cs))])
      (fun i done W => ∃ As rows o G, done = Refs As ∧ W = (lp, o) :: G ∧ o.lx = some [.ref lc, .int ((1 + i * K : Nat) : Int)] ∧ (L + 1, AO.cel (.ref lp)) ∈ G ∧ (L + 1 + 1, AO.cel (.int p)) ∈ G ∧ (L + 1 + 1 + 1, AO.cel (.int K)) ∈ G ∧ (lc, AO.pls (Ints cs)) ∈ G ∧ Rows G As rows ∧ ∀ r ∈ rows, Dg p K r)
      (iter_range0 (N := 2) (by walk_at "mem") (by decide)) ?sub1 (by simp [sizeLine]) ⟨[], [], .lst [.ref lc, .int (0 + 1)], _, rfl, rfl, by simp [AO.lx], g1, .tail _ (.head _), .head _, .tail _ (.tail _ (.tail _ (.head _))), ⟨rfl, fun _ h => nomatch h⟩, (fun _ h => nomatch h)⟩ ?turn1 ?rest1
    case sub1 => exact (Sub.of_perm (List.Perm.trans (.swap _ _ _) ((List.Perm.swap _ _ _).cons _))).drop
    case turn1 =>
      rintro C i done W hi' hdn ⟨As, rows, o, G, rfl, rfl, ho, g1, g2, g3, g4, hAs, hrs⟩ T hT
      have hiK : i * K ≤ 1 * K := Nat.mul_le_mul_right K (by omega)
      walk_at "go"
      refine ev_comp rfl (by decide) rfl (by decide) rfl (fun _ => rfl) ?_
      walk_at "go"
      refine cal_range1 fun rg => ?_
      refine comp_k (W'' := (lp, o) :: G) (fun j ds W => ∃ d o, ds = Ints d ∧ All p d ∧ W = (lp, o) :: G ∧ o.lx = some [.ref lc, .int ((1 + i * K + j : Nat) : Int)]) (iter_range0 (N := K) (by walk_at "mem") (Nat.lt_of_le_of_lt hK6 (by decide))) (.of_sublist (.cons _ (.refl _))) (Nat.le_trans hK6 (by decide)) ⟨[], o, rfl, (fun _ h => nomatch h), rfl, ho⟩ ?_ ?_
      · rintro C j ds W hj hd ⟨d, o, rfl, hda, rfl, ho⟩ T2 hT2
        walk_at "go"
        refine cal_draw B (by omega) .here ho (mem_app g4) rfl (spot_ok (by omega)) hcl hpg ?_
        have hin := draw_in (cs := cs) (spot := ((1 + i * K + j : Nat) : Int)) (many := p) (by omega)
        refine hT2 .refl ⟨d ++ [draw cs ((1 + i * K + j : Nat) : Int) p], .lst [.ref lc, .int (((1 + i * K + j : Nat) : Int) + 1)], by simp [Ints], fun x hx => ?_, rfl, by simp only [AO.lx]; push_cast; rfl⟩
        rcases List.mem_append.mp hx with q | q
        · exact hda x q
        · rw [List.mem_singleton.mp q]; exact hin
      · rintro ds W hd ⟨d, o, rfl, hda, rfl, ho⟩ D
        rw [List.length_map] at hd
        have dl : d.length ≤ 64 := hd ▸ Nat.le_trans hK6 (by decide)
        walk_at "go"
        refine cal_fn (cut_fn (o := .pls (Ints d)) B rfl dl) (by decide) (rd_cons (mem_app (.head _)) rd_nil) ?_
        rintro _ _ (⟨a', rfl, rfl⟩ | ⟨rfl, rfl, he⟩)
        · refine hT (W' := (lp, o) :: (a', .pls (Ints (cut d))) :: G) ((Sub.of_perm (.swap _ _ _)).trans (.of_sublist (.cons_cons _ (.cons _ (.refl _))))) ⟨As ++ [a'], rows ++ [cut d], o, _, by simp [Refs], rfl, ?_, .tail _ g1, .tail _ g2, .tail _ g3, .tail _ g4, (hAs.mono fun e he => .tail _ he).snoc (.head _), ?_⟩
          · rw [ho, Nat.add_assoc, ← Nat.succ_mul]
          · intro r hr
            rcases List.mem_append.mp hr with q | q
            · exact hrs r q
            · exact ⟨d, hd, hda, List.mem_singleton.mp q⟩
        · refine hT (W' := (lp, o) :: (D, .pls (Ints d)) :: G) (.of_perm (.swap _ _ _)) ⟨As ++ [D], rows ++ [d], o, _, by simp [Refs], rfl, ?_, .tail _ g1, .tail _ g2, .tail _ g3, .tail _ g4, (hAs.mono fun e he => .tail _ he).snoc (.head _), ?_⟩
          · rw [ho, Nat.add_assoc, ← Nat.succ_mul]
          · intro r hr
            rcases List.mem_append.mp hr with q | q
            · exact hrs r q
            · exact ⟨d, hd, hda, by rw [he]; exact List.mem_singleton.mp q⟩
    case rest1 =>
      rintro done W hdn ⟨As, rows, o, G, rfl, rfl, ho, g1, g2, g3, g4, hAs, hrs⟩ D2
      obtain ⟨aa, ab, rfl⟩ : ∃ x y, As = [x, y] := by
        match As, hdn with
        | [x, y], _ => exact ⟨x, y, rfl⟩
      obtain ⟨ra, rb, rfl⟩ : ∃ x y, rows = [x, y] := by
        match rows, hAs.1 with
        | [x, y], _ => exact ⟨x, y, rfl⟩
      have ga : (aa, AO.pls (Ints ra)) ∈ G := hAs.2 0 (by simp)
      have gb : (ab, AO.pls (Ints rb)) ∈ G := hAs.2 1 (by simp)
      have da : Dg p K ra := hrs _ (.head _)
      have db : Dg p K rb := hrs _ (.tail _ (.head _))
      refine un2_k (o := .pls [.ref aa, .ref ab]) (mem_app (.head _)) rfl ?_
      refine ex_sub (fun _ h => h) (W' := (lp, o) :: G) (.of_sublist (.cons _ (.refl _))) ?_
      -- f
      refine exs_assign rfl rfl rfl rfl (Ev.mono (P := fun a W' => ∃ lf rf, a = .ref lf ∧ Sub ((lf, .pls (Ints rf)) :: G) W' ∧ Dg p 3 rf) ?_ ?_)
      · walk_at "go"
        refine ev_comp rfl (by decide) rfl (by decide) rfl (fun _ => rfl) ?_
        walk_at "go"
        refine cal_range1 fun rg => ?_
        refine comp_k (W'' := (lp, o) :: G) (fun j ds W => ∃ d o, ds = Ints d ∧ All p d ∧ W = (lp, o) :: G ∧ o.lx = some [.ref lc, .int ((1 + 2 * K + j : Nat) : Int)]) (iter_range0 (N := 3) (by walk_at "mem") (by decide)) (.of_sublist (.cons _ (.refl _))) (by simp [sizeLine]) ⟨[], o, rfl, (fun _ h => nomatch h), rfl, ho⟩ ?_ ?_
        · rintro C j ds W hj hd ⟨d, o, rfl, hda, rfl, ho⟩ T2 hT2
          walk_at "go"
          refine cal_draw B (by omega) .here ho (mem_app g4) rfl (spot_ok (by omega)) hcl hpg ?_
          have hin := draw_in (cs := cs) (spot := ((1 + 2 * K + j : Nat) : Int)) (many := p) (by omega)
          refine hT2 .refl ⟨d ++ [draw cs ((1 + 2 * K + j : Nat) : Int) p], .lst [.ref lc, .int (((1 + 2 * K + j : Nat) : Int) + 1)], by simp [Ints], fun x hx => ?_, rfl, by simp only [AO.lx]; push_cast; rfl⟩
          rcases List.mem_append.mp hx with q | q
          · exact hda x q
          · rw [List.mem_singleton.mp q]; exact hin
        · rintro ds W hd ⟨d, o, rfl, hda, rfl, ho⟩ D
          rw [List.length_map] at hd
          have dl : d.length ≤ 64 := hd ▸ (by decide)
          walk_at "go"
          refine cal_fn (cut_fn (o := .pls (Ints d)) B rfl dl) (by decide) (rd_cons (mem_app (.head _)) rd_nil) ?_
          rintro _ _ (⟨a', rfl, rfl⟩ | ⟨rfl, rfl, he⟩)
          · exact ⟨a', cut d, rfl, .of_sublist (.cons_cons _ (.cons _ (.cons _ (.refl _)))), ⟨d, hd, hda, rfl⟩⟩
          · exact ⟨D, d, rfl, .of_sublist (.cons_cons _ (.cons _ (.refl _))), ⟨d, hd, hda, he.symm⟩⟩
      rintro _ W' ⟨lf, rf, rfl, hsub, df⟩
      refine ex_sub (fun _ h => h) hsub ?_
      obtain ⟨rows, ok⟩ := H ra rb rf da db df
      have Z := LawF.of F ok hK
      have r0 := Z.r0
      have s0 := Z.s0
      have s1 := Z.s1
      have t0 := Z.t0
      have t1 := Z.t1
      have tr := ok.tr
      have no := ok.no
      rw [← hK] at tr no
      have Ea := da.el hK F
      have Eb := db.el hK F
      have hfl := df.len
      have al := Ea.len
      have bl : rb.length ≤ 20 := Nat.le_trans (Nat.le_of_lt Eb.len) (Nat.le_trans hml (by decide))
      clear H hAs hrs hsub
      -- row, least
      walk_at "go"
      refine cal_fn (conj_fn (oa := .pls (Ints ra)) (om := .lst (Ints m)) B rfl rfl F Ea ok.c) (by decide) (rd_cons (mem_app (.tail _ ga)) (by walk_at "reads")) ?_
      rintro _ _ ⟨lr, Cs, rfl, hcl', rfl⟩
      refine evl_weak (W' := (lr, .pls (Refs Cs)) :: (lf, .pls (Ints rf)) :: (G ++ rowsL Cs rows)) (.of_perm (List.Perm.cons _ (List.perm_append_comm (l₁ := (lf, AO.pls (Ints rf)) :: G) (l₂ := rowsL Cs rows)))) ?_
      have hRw : Rows (G ++ rowsL Cs rows) Cs rows := (Rows.of hcl').mono fun e he => List.mem_append_right _ he
      replace g2 : (L + 1 + 1, AO.cel (.int p)) ∈ G ++ rowsL Cs rows := List.mem_append_left _ g2
      replace g3 : (L + 1 + 1 + 1, AO.cel (.int K)) ∈ G ++ rowsL Cs rows := List.mem_append_left _ g3
      replace ga : (aa, AO.pls (Ints ra)) ∈ G ++ rowsL Cs rows := List.mem_append_left _ ga
      replace gb : (ab, AO.pls (Ints rb)) ∈ G ++ rowsL Cs rows := List.mem_append_left _ gb
      clear g1 g4
      generalize G ++ rowsL Cs rows = G at *
      walk_at "go"
      refine cal_fn1 (least_fn (oa := .pls (Ints ra)) (om := .lst (Ints m)) B rfl rfl F Ea ok.c) (by decide) (rd_cons (mem_app (.tail _ (.tail _ ga))) (by walk_at "reads")) fun ll => ?_
      walk_at "go"
      refine tup_k ?_
      walk_at "go"
      refine cal_len (o := .pls (Refs Cs)) (by walk_at "mem") rfl (by rw [List.length_map, hcl']; exact Z.c62) ?_
      rw [show (Refs Cs).length = rows.length from by rw [List.length_map]; exact hcl']
      walk_at "go"
      rw [Z.e1]
      refine br_ne (fun h => absurd rfl h) (fun _ => ?_)
      walk_at "go"
      refine cal_lenI (o := .pls (Ints (least rows m p))) (by walk_at "mem") rfl Z.l62 ?_
      walk_at "go"
      refine br_ne (fun h => absurd Z.hl h) (fun _ => ?_)
      walk_at "go"
      refine sub_last (o := .pls (Ints (least rows m p))) (by walk_at "mem") rfl Z.l62 1 rfl (by decide) Z.l1 ?_
      walk_at "go"
      rw [Z.m1, ok.lead]
      refine br_ne (fun h => absurd rfl h) (fun _ => ?_)
      walk_at "go"
      -- trace
      refine cal_fnI (trace_fn (oa := .pls (Ints ra)) (om := .lst (Ints m)) B rfl rfl F Ea) (by decide) (rd_cons (by walk_at "mem") (by walk_at "reads")) ?_
      walk_at "go"
      refine sub_last (o := .pls (Ints (least rows m p))) (by walk_at "mem") rfl Z.l62 2 rfl (by decide) Z.l2 ?_
      rw [Z.m2]
      walk_at "go"
      refine op_div r0 (PyProof.noPylong_small Z.rn) ?_
      rw [Z.e2]
      walk_at "go"
      refine br_ne (fun h => absurd tr h) (fun _ => ?_)
      walk_at "go"
      -- norm
      refine cal_fnI (norm_fn (oa := .pls (Ints ra)) (om := .lst (Ints m)) B rfl rfl F Ea) (by decide) (rd_cons (by walk_at "mem") (by walk_at "reads")) ?_
      walk_at "go"
      refine op_pow (by decide) Z.rp ?_
      rw [Int.toNat_natCast]
      walk_at "go"
      refine sub_I (o := .pls (Ints (least rows m p))) (by walk_at "mem") rfl Z.l62 (by decide) Z.li ?_
      rw [show (0 : Int).toNat = 0 from rfl]
      walk_at "go"
      refine op_div r0 (PyProof.noPylong_small Z.rn) ?_
      rw [Z.e2]
      walk_at "go"
      refine op_pow Z.b Z.q ?_
      rw [Int.toNat_natCast]
      walk_at "go"
      refine br_ne (fun h => absurd no h) (fun _ => ?_)
      walk_at "go"
      -- nought
      refine cal_fn1 (at_fn (of := .pls (Ints (least rows m p))) (oa := .pls (Ints rb)) (om := .lst (Ints m)) B rfl rfl rfl F bl Z.l20 Z.sm) (by decide) (by walk_at "reads") fun lv => ?_
      walk_at "go"
      refine lst_k rfl fun le => ?_
      refine cmp_eqL (o := .pls (Ints _)) (o' := .pls []) (ys := []) (by walk_at "mem") rfl (by walk_at "mem") rfl ?_
      walk_at "go"
      refine cmp_inL (o := .pls (Ints rb)) (o' := .pls (Refs Cs)) (rows := rows) (by walk_at "mem") rfl (by walk_at "mem") rfl hcl' (fun i hi => mem_app (.tail _ (.tail _ (.tail _ (.tail _ (.tail _ (hRw.2 i hi))))))) ?_
      refine cmp_neB ?_
      rw [ok.nought, bne_self_eq_false]
      walk_at "go"
      -- the values
      refine cal_fnI (values_fn (of := .pls (Ints rf)) (oa := .pls (Ints ra)) (os := .pls (Ints (least rows m p))) (om := .lst (Ints m)) B rfl rfl rfl rfl F Ea (Nat.le_trans hfl (by decide)) df.all Z.l10 Z.l1 (by rw [Z.m1]; exact ok.lead)) (by decide) (by walk_at "reads") ?_
      rw [ok.vals]
      exact hK0.ret (W' := []) .nil ⟨rfl, rfl⟩
end

section
/-! the fields by their codes: a thing's digits to the base p, the low one first -/
structure Tb where
  p : Nat
  k : Nat
  q : Nat
  m : List Int
  M : Nat
  S : Nat
  N : Nat
noncomputable def dec (p : Nat) : Nat → Nat → List Int
  | 0, _ => []
  | n + 1, c => if c = 0 then [] else ((c % p : Nat) : Int) :: dec p n (c / p)
noncomputable def enc (p : Nat) : List Int → Nat
  | [] => 0
  | x :: xs => x.toNat + p * enc p xs
namespace Tb
noncomputable def D (t : Tb) (c : Nat) : List Int := dec t.p t.k c
noncomputable def mul (t : Tb) (a b : Nat) : Nat := Nat.mod (Nat.shiftRight t.M (Nat.mul 5 (Nat.add (Nat.mul 32 a) b))) 32
noncomputable def add (t : Tb) (a b : Nat) : Nat := Nat.mod (Nat.shiftRight t.S (Nat.mul 5 (Nat.add (Nat.mul 32 a) b))) 32
noncomputable def neg (t : Tb) (a : Nat) : Nat := Nat.mod (Nat.shiftRight t.N (Nat.mul 5 a)) 32
end Tb
noncomputable def tb0 : Tb := ⟨2, 3, 8, [1, 1, 0, 1], 1532191584351794926980154669506252583726354885626144188843490891170576307388916756230049899003508164607867055290575022367253258217314381065087660614164236508795177506855996491672768865238596066452212536460115259153595501160780356508539290732243098441184973280220388383473102989186237129497241697633073645661608076020361902045326331016754916881334272, 16295646029783969283280994422008287632980316836376339645009972011673077498795670596313538227661609967447604310291387512916008830130376016424114027959633591485447087706965595009872806587811426935730611482287180089245897429970041206043880034502797586945807317826510594393291282251469324825474073428172842263870221234259715085250837151169271002400800, 247132686368⟩
noncomputable def tb1 : Tb := ⟨2, 4, 16, [1, 1, 0, 0, 1], 113834901736813981657011150126122014703246238443456973355022480284718416453965503884327111726720474247970486314941812591407985082399515952374424080207963700889218246099205403730260291098122355125485097469278907694772135207766831343345822728442574190279278755988057285961700710275429695707112003803449844780730047276152704602334626056599875876986497715817181283857422278909899946908348679390753817398970197463092930406206668559205008013679269182992017017108041991072026691928203207298706482912200004834907087342844411772322713137214299764246710932109687863244773982218915782080373119713296617697218985258233003531492608448317498651922590095550987526774542856205959938351060179525831235804190909010594066629281523597464954612420149357440968981217280, 372963094021404401006319433819637342863936836286309953735067237309143113432579637684918301806160424964671839947963724104476651837020425776228155297118150386344491256045364734466615096124413716470743223923964404439029605562484194740703550538227099138577077810286427977626480413640413463630505714024006661538984519754343456056846102810349565231464523024252215728495438100610901632225198806788103098527833532739594917907907029886700884820298816288867203694674461920632819160205495692609760063156602911804080141063425654280096397433704356287094586496950795308230286741389574782471246323297277398085737831704146889830073925034157111209387504843477885418665349301893406631022840453045707632026244682835304893062508455499600795445832536176373075642400, 583706118939841765935136⟩
noncomputable def tb2 : Tb := ⟨5, 2, 25, [2, 0, 1], 173712489134743886280611383394172975089473738847273873051943991595325622056326394612761512624686795628296967077629697489523818889425901398845867987969269577341937301941723730104922027569843226633065155964547500141794901281742159451464010871345667874013150020366046341565629880331782142567587196350201527282189550064151468918906549083235507555920141690819160324783725248206441024484612952468917653475289412586413966743518977550310573861835064293099337074953684430303893819290013581288842194307446091687366666773947510621415763518964686423985329511398461543855824945105683432996853637720147181543715816693020392580635130813411878278541525964091988842220732926100616175775620632344686277843058396016750599409599161906838009544665567954754823818468303029172339464031183742155113562439172880443021650573269493736164588624614448065381132511171138395990016441971894216720030294741211101235109753267305316521804095558632215887658909571786849022439723859261928473878438644487120088392838827780198164467605113219220319248129024562324490817366783324194956840181384763732993918634487685036458035538915452014529418344512210061872757963901101677157972584888844959982445240359112466384346473544803952885760000, 222364127537613574420233834205649135193453865794018555691565483103261885683584861065123645506396650281117880890466326029732281398612559678950288461076826880309801435227913055511279154709967894144946997369233545918618500883505542391312548757799310043333937327000650454722775429226690539869982521922828893233636118129875984463146245959200664222882681463851779581030792008207759108590598573988911985600833355801498640183835392422249756458476263811684499976461392806209987431945245024270633417093116431754790921266480253705377768651190862511170354822528023552465259383387464781551170561539838221794346970503997139722583132349076233174039143423920554941618452879163175672905314079968202383382409637389933949170317659903018441339499015736225021075079495671652144067214047213098314259710237582944621456982053700337439932645963747764756346469028833989562524392455068480869096255300713181801239877346863220273941879407458328043569858234035740519688852677854989244714801679798137465658764834510466861332854135989743784920538669620063163142779760358732661660912345992377480946379013726673116484545658980321435452340795816710088391057326875576613176918809070485534875743346037907154833773731824887624992800, 8276893065260791840833606450215455872⟩
noncomputable def tb3 : Tb := ⟨2, 4, 16, [1, 0, 0, 1, 1], 37849500946234271851992860441170271014284132307680292873348190972888484307825315112198228331343016685721105628865600685120673327754664628823217370015278014802336817161442055778622605698994921034627008611142195404501440650018603837977695782069884754514261432977348529915686260347504915780243214484659734123977352984829223170952050922871359754461104156097577449254513192781777370187850345897791841100339127163301578401963818847244742414772485911768552264788840526745957293688367439168126546706906159283578922176606730981500546287066603955407143414450898476087755414945600915151152385729037994385750553697162837008020348746623344300227827625716005990967029056711776170663546980477093488076877813430262747408896079220112936727721111204948185532334080, 372963094021404401006319433819637342863936836286309953735067237309143113432579637684918301806160424964671839947963724104476651837020425776228155297118150386344491256045364734466615096124413716470743223923964404439029605562484194740703550538227099138577077810286427977626480413640413463630505714024006661538984519754343456056846102810349565231464523024252215728495438100610901632225198806788103098527833532739594917907907029886700884820298816288867203694674461920632819160205495692609760063156602911804080141063425654280096397433704356287094586496950795308230286741389574782471246323297277398085737831704146889830073925034157111209387504843477885418665349301893406631022840453045707632026244682835304893062508455499600795445832536176373075642400, 583706118939841765935136⟩
noncomputable def tb4 : Tb := ⟨3, 2, 9, [1, 0, 1], 138152158880271204397582885213048489963966764236665373199272421221232045020237471175625472830283811491865194411438956948669338754566426335697596207952576443690140798367974147671361127555872797964061746839242358278923021625353408880280950405331927128153113767656407763908675550025674179592848645629104886517769131237771156968824286315694842133831294984626202670581577509180358084311379288721142579200, 93807277019118456224640587023517355096215633472923732714620812529974486536212715129712131194714801883298941016554175890072995955743762175872195834862917457952995616165570313473089032300574757480375839724240929536013450157461948374849584941574950163740293953943589281694255369543331403048430443846284708328085929573672491000818419894117665756869606902712914569779759925837521288565631935650308655136, 4573309895744⟩
noncomputable def tb5 : Tb := ⟨3, 3, 27, [1, 2, 0, 1], 305860480877175633896460820947753031987224679543420391255338352437872714807618069992340948562340239593541923354162937194303585758351601758448768541049521908431585058125799409314633737940466102982406989067171640654073600689537051186000592561133975664169602804696679486950010091355927634412618515718153637865698746695342648246907452497610559787177786128037462335067757819490077781961208126199008678322789062417343571509555797877090799923068757762747028300933409882605791618878931782526806397186477806295323552082218753427379196878745250780023228626375623370340273740986475978997029155427063672058092976141119212941801953773835628287558024451186170937094635962995787334157279402008021886535834955525194650562361786835357225954030257006798544249190118228942635055791051921339358681352792370613627080289443641718805401719204977699494579555449090468763693715634318475449753064560684659071293216890510707651078089226175578577696248338084830724360029917285548102051354739366730765003918551936056539827597152088825138686011357629862597157019800621533591729762112409930765324981143933424041425063376690185414866395399660479651937798892360772035143262140617783708249974822117591424695469569796566936530565761427988135392345204903290487099293174597121075458025110267746733876979653633898063946666219667456, 351098589857645564832767801905095160024940478923530310530783808995068847510186980471927972491766836410802311009208978807345245479680335758285599587049785853137863490658389324581815997621438236014846153655133405962149922870662999536861882933579203764369847835386569940202715049072665294300788860283042890385524091836883516437882453765289465912178735424820608402733877025841873837060346163936792541086878457907659435564456481190185303348185090443523623931484410535753207375572760397697860199616820306411401730048008311439321810788272937112635610148799457221644174525739533095997224614816675657982885592263599682893235610529420936023980958940737055245652519581063579839507030457714397910528120617774854481824150628770883298856684434095654354805759166904758423601529793500900134663979844174848818921172719034420275462676920724373005449431386517948521493026252888430063777913224933718287183450901328464764570558974011547218442238394179179165160951524498354858348647520023901019953835988632975803258503822594385955418237099537512748403257347786735891698402127048458362909492104725445132673485650135683624115852646424897813498390795738574386450570910248847061945822027836262209109063374672142708181100254634494843982814851629360809240171655211387149597157068239340100983931931303728616282104422041632, 18306815260805972811530360991366254888000⟩
noncomputable def tb6 : Tb := ⟨3, 2, 9, [2, 1, 1], 118752391118909438131446860469754866661573164282316573608159280620810559770086147936401180454219780497310310238197213783748321628921915765673550395865245645785756089838492963108123752751090515104958493923404234375974439006748873526120774257315520451531930644921048868861093680037490322886000971921972597892697609105100398349118301694495113496644939950739802810837006278797416570972535291314700288000, 93807277019118456224640587023517355096215633472923732714620812529974486536212715129712131194714801883298941016554175890072995955743762175872195834862917457952995616165570313473089032300574757480375839724240929536013450157461948374849584941574950163740293953943589281694255369543331403048430443846284708328085929573672491000818419894117665756869606902712914569779759925837521288565631935650308655136, 4573309895744⟩
noncomputable def tb7 : Tb := ⟨2, 4, 16, [1, 1, 1, 1, 1], 92155104994747012142168530371190508564616542347965963727010543179595086933152763296253042552820726995587336776502949330459209443144319717653128636046710727635759391474098627055815413337278678667720847332556337548210271211718656643652762558578015374576388876091780940943289964754207595868588819626841128879553800082459469492771259745711731853137419259745904744261381707752388591357078553683478164028042699195782703028366617213724040879785856466377550805498418313436184415021414411460119310259585864831222761420151397407781081402705185729882767516694191742652452998435968630022835606047486330571607032713544362670652938780899208697171540418505196821887581658034752350244067984832622290871808904344265862026444126893876845106237897629916327292436480, 372963094021404401006319433819637342863936836286309953735067237309143113432579637684918301806160424964671839947963724104476651837020425776228155297118150386344491256045364734466615096124413716470743223923964404439029605562484194740703550538227099138577077810286427977626480413640413463630505714024006661538984519754343456056846102810349565231464523024252215728495438100610901632225198806788103098527833532739594917907907029886700884820298816288867203694674461920632819160205495692609760063156602911804080141063425654280096397433704356287094586496950795308230286741389574782471246323297277398085737831704146889830073925034157111209387504843477885418665349301893406631022840453045707632026244682835304893062508455499600795445832536176373075642400, 583706118939841765935136⟩

noncomputable def okMul (t : Tb) (a : Nat) : Bool := (List.range t.q).all fun b => decide (gfm (t.D a) (t.D b) t.m t.p = t.D (t.mul a b)) && decide (t.mul a b < t.q)
noncomputable def okAdd (t : Tb) (a : Nat) : Bool := (List.range t.q).all fun b => decide (madd (t.D a) (t.D b) t.p = t.D (t.add a b)) && decide (t.add a b < t.q)
noncomputable def okOne (t : Tb) (a : Nat) : Bool := decide (mneg (t.D a) t.p = t.D (t.neg a)) && decide (t.neg a < t.q) && decide (enc t.p (t.D a) = a) && decide (num (t.D a) = ((a % t.p : Nat) : Int))
noncomputable def allN (p : Nat) : Nat → List (List Int)
  | 0 => [[]]
  | n + 1 => (allN p n).flatMap fun r => (List.range p).map fun (i : Nat) => (i : Int) :: r
noncomputable def okTop (t : Tb) : Bool := decide (t.D 1 = [1]) && decide (t.D 0 = []) && ((List.range t.p).all fun (n : Nat) => decide (mscale [1] n t.p = t.D n)) && ((allN t.p t.k).all fun d => decide (cut d = t.D (enc t.p d)) && decide (enc t.p d < t.q)) && decide (t.p ≤ t.q) && decide (1 < t.q) && decide (0 < t.p) && decide (t.m.length - 1 = t.k)
theorem top0 : okTop tb0 = true := by decide +kernel
theorem one0 : ((List.range tb0.q).all (okOne tb0)) = true := by decide +kernel
theorem add0 : ((List.range tb0.q).all (okAdd tb0)) = true := by decide +kernel
theorem top1 : okTop tb1 = true := by decide +kernel
theorem one1 : ((List.range tb1.q).all (okOne tb1)) = true := by decide +kernel
theorem add1 : ((List.range tb1.q).all (okAdd tb1)) = true := by decide +kernel
theorem top2 : okTop tb2 = true := by decide +kernel
theorem one2 : ((List.range tb2.q).all (okOne tb2)) = true := by decide +kernel
theorem add2 : ((List.range tb2.q).all (okAdd tb2)) = true := by decide +kernel
theorem top3 : okTop tb3 = true := by decide +kernel
theorem one3 : ((List.range tb3.q).all (okOne tb3)) = true := by decide +kernel
theorem add3 : ((List.range tb3.q).all (okAdd tb3)) = true := by decide +kernel
theorem top4 : okTop tb4 = true := by decide +kernel
theorem one4 : ((List.range tb4.q).all (okOne tb4)) = true := by decide +kernel
theorem add4 : ((List.range tb4.q).all (okAdd tb4)) = true := by decide +kernel
theorem top5 : okTop tb5 = true := by decide +kernel
theorem one5 : ((List.range tb5.q).all (okOne tb5)) = true := by decide +kernel
theorem add5 : ((List.range tb5.q).all (okAdd tb5)) = true := by decide +kernel
theorem top6 : okTop tb6 = true := by decide +kernel
theorem one6 : ((List.range tb6.q).all (okOne tb6)) = true := by decide +kernel
theorem add6 : ((List.range tb6.q).all (okAdd tb6)) = true := by decide +kernel
theorem top7 : okTop tb7 = true := by decide +kernel
theorem one7 : ((List.range tb7.q).all (okOne tb7)) = true := by decide +kernel
theorem add7 : ((List.range tb7.q).all (okAdd tb7)) = true := by decide +kernel
theorem mul0 : ((List.range tb0.q).all (okMul tb0)) = true := by decide +kernel
theorem mul1 : ((List.range tb1.q).all (okMul tb1)) = true := by decide +kernel
theorem mul2_0 : ((List.range' 0 13).all (okMul tb2)) = true := by decide +kernel
theorem mul2_1 : ((List.range' 13 12).all (okMul tb2)) = true := by decide +kernel
theorem mul2 : ((List.range tb2.q).all (okMul tb2)) = true := by
  have e : List.range tb2.q = List.range' 0 13 ++ List.range' 13 12 := by decide +kernel
  rw [e]
  simp only [List.all_append, mul2_0, mul2_1, Bool.and_self]
theorem mul3 : ((List.range tb3.q).all (okMul tb3)) = true := by decide +kernel
theorem mul4 : ((List.range tb4.q).all (okMul tb4)) = true := by decide +kernel
theorem mul5_0 : ((List.range' 0 7).all (okMul tb5)) = true := by decide +kernel
theorem mul5_1 : ((List.range' 7 7).all (okMul tb5)) = true := by decide +kernel
theorem mul5_2 : ((List.range' 14 7).all (okMul tb5)) = true := by decide +kernel
theorem mul5_3 : ((List.range' 21 6).all (okMul tb5)) = true := by decide +kernel
theorem mul5 : ((List.range tb5.q).all (okMul tb5)) = true := by
  have e : List.range tb5.q = List.range' 0 7 ++ List.range' 7 7 ++ List.range' 14 7 ++ List.range' 21 6 := by decide +kernel
  rw [e]
  simp only [List.all_append, mul5_0, mul5_1, mul5_2, mul5_3, Bool.and_self]
theorem mul6 : ((List.range tb6.q).all (okMul tb6)) = true := by decide +kernel
theorem mul7 : ((List.range tb7.q).all (okMul tb7)) = true := by decide +kernel
end

section
namespace Tb
noncomputable def powC (t : Tb) : Nat → Nat → Nat → Nat → Nat
  | 0, f, _, _ => f
  | k + 1, f, s, n => if n = 0 then f else powC t k (if n % 2 = 1 then t.mul f s else f) (if 0 < n / 2 then t.mul s s else s) (n / 2)
noncomputable def fro (t : Tb) (a : Nat) : Nat := t.powC t.p 1 a t.p
noncomputable def conjC (t : Tb) (a : Nat) : Nat → Nat → List Nat → Option (List Nat)
  | 0, _, _ => none
  | k + 1, here, acc => if here = a then some acc else conjC t a k (t.fro here) (acc ++ [here])
noncomputable def trC (t : Tb) (a : Nat) : Nat → Nat × Nat
  | 0 => (0, a)
  | i + 1 => let s := trC t a i; (t.add s.1 s.2, t.fro s.2)
noncomputable def noC (t : Tb) (a : Nat) : Nat → Nat × Nat
  | 0 => (1, a)
  | i + 1 => let s := noC t a i; (t.mul s.1 s.2, t.fro s.2)
noncomputable def lsNC (t : Tb) (root : Nat) (found : List Nat) : Nat → List Nat
  | 0 => 0 :: found
  | i + 1 => let l := lsNC t root found i; l.set i (t.add (l.getD i 0) (t.neg (t.mul (found.getD i 0) root)))
noncomputable def lsRC (t : Tb) (rows : List Nat) : Nat → List Nat
  | 0 => [1]
  | i + 1 => let f := lsRC t rows i; lsNC t (rows.getD i 0) f f.length
noncomputable def leC (t : Tb) (rows : List Nat) : List Nat := (t.lsRC rows rows.length).map (· % t.p)
noncomputable def atC (t : Tb) (f : List Nat) (a : Nat) : Nat → Nat
  | 0 => 0
  | i + 1 => t.add (t.mul (atC t f a i) a) (f.reverse.getD i 0)
abbrev Z (xs : List Nat) : List Int := xs.map fun (n : Nat) => (n : Int)
noncomputable def chkA (t : Tb) (a : Nat) (rows ls : List Nat) : Bool :=
  decide (rows.length ≠ 0) && decide (t.k % rows.length = 0) && decide (ls.length = rows.length + 1) && decide (ls.getD rows.length 0 = 1) &&
    decide ((((t.trC a t.k).1 % t.p : Nat) : Int) = ((0 - ((ls.getD (rows.length - 1) 0 : Nat) : Int)) * ((t.k / rows.length : Nat) : Int)).fmod t.p) &&
    decide ((((t.noC a t.k).1 % t.p : Nat) : Int) = (((-1) ^ rows.length * ((ls.getD 0 0 : Nat) : Int)) ^ (t.k / rows.length)).fmod t.p)
noncomputable def chkB (t : Tb) (rows ls : List Nat) (b : Nat) : Bool := decide (t.atC ls b ls.length = 0) == decide (b ∈ rows)
noncomputable def chkF (t : Tb) (a : Nat) (ls : List Nat) (f : List Int) : Bool :=
  decide (t.fro (t.atC (f.map Int.toNat) a (f.map Int.toNat).length) = t.atC (f.map Int.toNat) (t.fro a) (f.map Int.toNat).length) &&
    (decide ((mrest f (Z ls) t.p).length < ls.length) && decide (t.atC ((mrest f (Z ls) t.p).map Int.toNat) a ((mrest f (Z ls) t.p).map Int.toNat).length = t.atC (f.map Int.toNat) a (f.map Int.toNat).length) &&
      (decide (mrest f (Z ls) t.p = []) == decide (t.atC (f.map Int.toNat) a (f.map Int.toNat).length = 0)))
noncomputable def chk (t : Tb) (a : Nat) : Bool := match t.conjC a 6 (t.fro a) [a] with
  | none => false
  | some rows => t.chkA a rows (t.leC rows) && ((List.range t.q).all fun b => t.chkB rows (t.leC rows) b) && ((allN t.p 3).all fun d => t.chkF a (t.leC rows) (cut d))
end Tb
theorem chk0 : ((List.range tb0.q).all tb0.chk) = true := by decide +kernel
theorem chk1 : ((List.range tb1.q).all tb1.chk) = true := by decide +kernel
theorem chk2 : ((List.range tb2.q).all tb2.chk) = true := by decide +kernel
theorem chk3 : ((List.range tb3.q).all tb3.chk) = true := by decide +kernel
theorem chk4 : ((List.range tb4.q).all tb4.chk) = true := by decide +kernel
theorem chk5 : ((List.range tb5.q).all tb5.chk) = true := by decide +kernel
theorem chk6 : ((List.range tb6.q).all tb6.chk) = true := by decide +kernel
theorem chk7 : ((List.range tb7.q).all tb7.chk) = true := by decide +kernel
end

section
namespace Tb
structure Ok (t : Tb) : Prop where
  mul : ∀ a b, a < t.q → b < t.q → gfm (t.D a) (t.D b) t.m t.p = t.D (t.mul a b) ∧ t.mul a b < t.q
  add : ∀ a b, a < t.q → b < t.q → madd (t.D a) (t.D b) t.p = t.D (t.add a b) ∧ t.add a b < t.q
  neg : ∀ a, a < t.q → mneg (t.D a) t.p = t.D (t.neg a) ∧ t.neg a < t.q
  enc : ∀ a, a < t.q → Mine.enc t.p (t.D a) = a
  num : ∀ a, a < t.q → Mine.num (t.D a) = ((a % t.p : Nat) : Int)
  o1 : t.D 1 = [1]
  o0 : t.D 0 = []
  sc : ∀ n, n < t.p → mscale [1] (n : Int) t.p = t.D n
  cu : ∀ d ∈ allN t.p t.k, cut d = t.D (Mine.enc t.p d) ∧ Mine.enc t.p d < t.q
  pq : t.p ≤ t.q
  q1 : 1 < t.q
  p0 : 0 < t.p
  k : t.m.length - 1 = t.k
theorem Ok.of {t : Tb} (h1 : okTop t = true) (h2 : ((List.range t.q).all (okOne t)) = true) (h3 : ((List.range t.q).all (okAdd t)) = true) (h4 : ((List.range t.q).all (okMul t)) = true) : Ok t := by
  simp only [okTop, Bool.and_eq_true, decide_eq_true_eq, List.all_eq_true, List.mem_range] at h1
  simp only [okOne, Bool.and_eq_true, decide_eq_true_eq, List.all_eq_true, List.mem_range] at h2
  simp only [okAdd, Bool.and_eq_true, decide_eq_true_eq, List.all_eq_true, List.mem_range] at h3
  simp only [okMul, Bool.and_eq_true, decide_eq_true_eq, List.all_eq_true, List.mem_range] at h4
  obtain ⟨⟨⟨⟨⟨⟨⟨x1, x2⟩, x3⟩, x4⟩, x5⟩, x6⟩, x7⟩, x8⟩ := h1
  exact ⟨fun a b ha hb => h4 a ha b hb, fun a b ha hb => h3 a ha b hb, fun a ha => ⟨(h2 a ha).1.1.1, (h2 a ha).1.1.2⟩, fun a ha => (h2 a ha).1.2, fun a ha => (h2 a ha).2, x1, x2, x3, x4, x5, x6, x7, x8⟩
variable {t : Tb} (H : Ok t)
include H
theorem inj {a b : Nat} (ha : a < t.q) (hb : b < t.q) (h : t.D a = t.D b) : a = b := by rw [← H.enc a ha, ← H.enc b hb, h]
theorem q0 : 0 < t.q := Nat.lt_of_succ_lt H.q1
theorem powC_ok : ∀ (k f s n : Nat), f < t.q → s < t.q → powL t.m t.p k (t.D f) (t.D s) n = t.D (t.powC k f s n) ∧ t.powC k f s n < t.q
  | 0, f, s, n, hf, hs => ⟨rfl, hf⟩
  | k + 1, f, s, n, hf, hs => by
    rw [powL, powC]
    split
    · exact ⟨rfl, hf⟩
    · have e1 : (if n % 2 = 1 then gfm (t.D f) (t.D s) t.m t.p else t.D f) = t.D (if n % 2 = 1 then t.mul f s else f) := by
        split
        · exact (H.mul f s hf hs).1
        · rfl
      have e2 : (if 0 < n / 2 then gfm (t.D s) (t.D s) t.m t.p else t.D s) = t.D (if 0 < n / 2 then t.mul s s else s) := by
        split
        · exact (H.mul s s hs hs).1
        · rfl
      rw [e1, e2]
      refine powC_ok k _ _ _ ?_ ?_
      · split
        · exact (H.mul f s hf hs).2
        · exact hf
      · split
        · exact (H.mul s s hs hs).2
        · exact hs
theorem fro_ok {a : Nat} (ha : a < t.q) : gfp (t.D a) (t.p : Int).toNat t.m t.p = t.D (t.fro a) ∧ t.fro a < t.q := by
  have := powC_ok H t.p 1 a t.p H.q1 ha
  rw [H.o1] at this
  exact this
theorem conjC_ok {a : Nat} (ha : a < t.q) : ∀ (k here : Nat) (acc : List Nat), here < t.q → (∀ x ∈ acc, x < t.q) →
    conjL t.m t.p (t.D a) k (t.D here) (acc.map t.D) = (t.conjC a k here acc).map (List.map t.D) ∧ ∀ rows, t.conjC a k here acc = some rows → ∀ x ∈ rows, x < t.q
  | 0, here, acc, hh, hacc => ⟨rfl, fun rows h => by simp [conjC] at h⟩
  | k + 1, here, acc, hh, hacc => by
    rw [conjL, conjC]
    by_cases e : here = a
    · rw [if_pos (by rw [e]), if_pos e]
      exact ⟨rfl, fun rows h => by cases h; exact hacc⟩
    · rw [if_neg (fun z => e (inj H hh ha z)), if_neg e]
      have := conjC_ok ha k (t.fro here) (acc ++ [here]) (fro_ok H hh).2 (fun x hx => by
        rcases List.mem_append.mp hx with q | q
        · exact hacc x q
        · rw [List.mem_singleton.mp q]; exact hh)
      rw [List.map_append, List.map_cons, List.map_nil, ← (fro_ok H hh).1] at this
      exact this
theorem trC_ok {a : Nat} (ha : a < t.q) : ∀ i, (trN t.m t.p (t.D a) i = (t.D (t.trC a i).1, t.D (t.trC a i).2)) ∧ (t.trC a i).1 < t.q ∧ (t.trC a i).2 < t.q
  | 0 => ⟨by rw [trN, trC]; simp only; rw [H.o0], q0 H, ha⟩
  | i + 1 => by
    obtain ⟨h1, h2, h3⟩ := trC_ok ha i
    rw [trN, trC, h1]
    simp only
    rw [(H.add _ _ h2 h3).1, (fro_ok H h3).1]
    exact ⟨rfl, (H.add _ _ h2 h3).2, (fro_ok H h3).2⟩
theorem noC_ok {a : Nat} (ha : a < t.q) : ∀ i, (noN t.m t.p (t.D a) i = (t.D (t.noC a i).1, t.D (t.noC a i).2)) ∧ (t.noC a i).1 < t.q ∧ (t.noC a i).2 < t.q
  | 0 => ⟨by rw [noN, noC]; simp only; rw [H.o1], H.q1, ha⟩
  | i + 1 => by
    obtain ⟨h1, h2, h3⟩ := noC_ok ha i
    rw [noN, noC, h1]
    simp only
    rw [(H.mul _ _ h2 h3).1, (fro_ok H h3).1]
    exact ⟨rfl, (H.mul _ _ h2 h3).2, (fro_ok H h3).2⟩
theorem getD_map (l : List Nat) (j : Nat) : (l.map t.D).getD j [] = t.D (l.getD j 0) := by
  simp only [List.getD_eq_getElem?_getD, List.getElem?_map]
  cases l[j]? with
  | none => simp [H.o0]
  | some x => rfl
theorem getD_lt {l : List Nat} (h : ∀ x ∈ l, x < t.q) (j : Nat) : l.getD j 0 < t.q := by
  rw [List.getD_eq_getElem?_getD]
  cases e : l[j]? with
  | none => exact q0 H
  | some x => exact h x (List.mem_of_getElem? e)
theorem lsNC_ok {root : Nat} {found : List Nat} (hr : root < t.q) (hf : ∀ x ∈ found, x < t.q) : ∀ i, lsN t.m t.p (t.D root) (found.map t.D) i = (t.lsNC root found i).map t.D ∧ ∀ x ∈ t.lsNC root found i, x < t.q
  | 0 => ⟨by rw [lsN, lsNC, List.map_cons, H.o0], fun x hx => by
      rcases List.mem_cons.mp hx with rfl | hx
      · exact q0 H
      · exact hf x hx⟩
  | i + 1 => by
    obtain ⟨h1, h2⟩ := lsNC_ok hr hf i
    rw [lsN, lsNC]
    have f1 := getD_lt H hf i
    have f2 := getD_lt H h2 i
    have m1 := H.mul _ _ f1 hr
    have n1 := H.neg _ m1.2
    have a1 := H.add _ _ f2 n1.2
    rw [h1, getD_map H, getD_map H, m1.1, n1.1, a1.1, ← List.map_set]
    refine ⟨rfl, fun x hx => ?_⟩
    rcases List.mem_or_eq_of_mem_set hx with q | rfl
    · exact h2 x q
    · exact a1.2
theorem lsRC_ok {rows : List Nat} (hr : ∀ x ∈ rows, x < t.q) : ∀ i, lsR t.m t.p (rows.map t.D) i = (t.lsRC rows i).map t.D ∧ ∀ x ∈ t.lsRC rows i, x < t.q
  | 0 => ⟨by rw [lsR, lsRC, List.map_cons, List.map_nil, H.o1], fun x hx => by rw [List.mem_singleton.mp hx]; exact H.q1⟩
  | i + 1 => by
    obtain ⟨h1, h2⟩ := lsRC_ok hr i
    rw [lsR, lsRC]
    rw [h1, getD_map H, List.length_map]
    exact lsNC_ok H (getD_lt H hr i) h2 _
theorem leC_ok {rows : List Nat} (hr : ∀ x ∈ rows, x < t.q) : least (rows.map t.D) t.m t.p = Z (t.leC rows) := by
  obtain ⟨h1, h2⟩ := lsRC_ok H hr rows.length
  rw [least, List.length_map, h1, leC, List.map_map, Z, List.map_map]
  exact List.map_congr_left fun x hx => H.num x (h2 x hx)
theorem atC_ok {f : List Nat} (hf : ∀ x ∈ f, x < t.p) {a : Nat} (ha : a < t.q) : ∀ i, atN (Z f) (t.D a) t.m t.p i = t.D (t.atC f a i) ∧ t.atC f a i < t.q
  | 0 => ⟨by rw [atN, atC, H.o0], q0 H⟩
  | i + 1 => by
    obtain ⟨h1, h2⟩ := atC_ok hf ha i
    rw [atN, atC, h1]
    have e : (Z f).reverse.getD i 0 = ((f.reverse.getD i 0 : Nat) : Int) := by
      simp only [Z, ← List.map_reverse, List.getD_eq_getElem?_getD, List.getElem?_map]
      cases f.reverse[i]? <;> simp
    have hlt : f.reverse.getD i 0 < t.p := by
      rw [List.getD_eq_getElem?_getD]
      cases e : f.reverse[i]? with
      | none => exact H.p0
      | some x => exact hf x (List.mem_reverse.mp (List.mem_of_getElem? e))
    have m1 := H.mul _ _ h2 ha
    have a1 := H.add _ _ m1.2 (Nat.lt_of_lt_of_le hlt H.pq)
    rw [e, H.sc _ hlt, m1.1, a1.1]
    exact ⟨rfl, a1.2⟩
theorem gfat_ok {f : List Nat} (hf : ∀ x ∈ f, x < t.p) {a : Nat} (ha : a < t.q) : gfat (Z f) (t.D a) t.m t.p = t.D (t.atC f a f.length) ∧ t.atC f a f.length < t.q := by
  have := atC_ok H hf ha f.length
  rw [gfat, List.length_map]
  exact this
omit H in
theorem Z_toNat {p : Int} {f : List Int} (h : All p f) : Z (f.map Int.toNat) = f := by
  rw [Z, List.map_map]
  conv => rhs; rw [← List.map_id f]
  exact List.map_congr_left fun x hx => Int.toNat_of_nonneg (h x hx).1
omit H in
theorem lt_toNat {p : Nat} {f : List Int} (h : All p f) : ∀ x ∈ f.map Int.toNat, x < p := fun x hx => by
  obtain ⟨y, hy, rfl⟩ := List.mem_map.mp hx
  have := h y hy
  omega
omit H in
theorem mem_allN {p : Nat} : ∀ (n : Nat) (d : List Int), d.length = n → All p d → d ∈ allN p n
  | 0, d, hl, _ => by rw [List.length_eq_zero_iff.mp hl]; exact .head _
  | n + 1, [], hl, _ => by simp at hl
  | n + 1, x :: d, hl, hd => by
    have hx := hd x (.head _)
    refine List.mem_flatMap.mpr ⟨d, mem_allN n d (by simpa using hl) (fun y hy => hd y (.tail _ hy)), List.mem_map.mpr ⟨x.toNat, List.mem_range.mpr (by omega), ?_⟩⟩
    rw [Int.toNat_of_nonneg hx.1]
theorem D_nil {v : Nat} (hv : v < t.q) : t.D v = [] ↔ v = 0 := ⟨fun h => inj H hv (q0 H) (h.trans H.o0.symm), fun h => by rw [h]; exact H.o0⟩

theorem law {a : Nat} (ha : a < t.q) (hc : t.chk a = true) {b f : List Int} (hb : Dg t.p t.k b) (hf : Dg t.p 3 f) : ∃ rows, LawOk t.m t.p (t.D a) b f rows := by
  unfold chk at hc
  have CJ := conjC_ok H ha 6 (t.fro a) [a] (fro_ok H ha).2 (fun x hx => by rw [List.mem_singleton.mp hx]; exact ha)
  cases e : t.conjC a 6 (t.fro a) [a] with
  | none => rw [e] at hc; exact absurd hc (by simp)
  | some rows =>
    rw [e] at hc CJ
    have hr := CJ.2 rows rfl
    have cj : conj (t.D a) t.m t.p = some (rows.map t.D) := by
      have := CJ.1
      rw [conj, (fro_ok H ha).1]
      exact this
    have hl := leC_ok H hr
    simp only [Bool.and_eq_true, List.all_eq_true, List.mem_range] at hc
    obtain ⟨⟨hA, hB⟩, hF⟩ := hc
    simp only [chkA, Bool.and_eq_true, decide_eq_true_eq] at hA
    obtain ⟨⟨⟨⟨⟨c1, c2⟩, c3⟩, c4⟩, c5⟩, c6⟩ := hA
    have zd : ∀ j, (Z (t.leC rows)).getD j 0 = (((t.leC rows).getD j 0 : Nat) : Int) := fun j => by
      simp only [Z, List.getD_eq_getElem?_getD, List.getElem?_map]
      cases (t.leC rows)[j]? <;> simp
    have hlt : ∀ x ∈ t.leC rows, x < t.p := fun x hx => by
      obtain ⟨y, _, rfl⟩ := List.mem_map.mp hx
      exact Nat.mod_lt _ H.p0
    obtain ⟨db, hb1, hb2, rfl⟩ := hb
    obtain ⟨df, hf1, hf2, rfl⟩ := hf
    have Cb := H.cu db (mem_allN _ _ hb1 hb2)
    have cB := hB _ Cb.2
    have cF := hF _ (mem_allN _ _ hf1 hf2)
    have fa : All t.p (cut df) := hf2.trim
    refine ⟨rows.map t.D, ⟨cj, by rw [List.length_map]; exact c1, by rw [List.length_map, H.k]; exact c2, by rw [hl, List.length_map, List.length_map]; exact c3, by rw [hl, List.length_map, zd, c4]; rfl, ?_, ?_, ?_, ?_⟩⟩
    · have T := trC_ok H ha t.k
      rw [trace, H.k, T.1, hl, List.length_map, zd]
      exact (H.num _ T.2.1).trans c5
    · have T := noC_ok H ha t.k
      rw [norm, H.k, T.1, hl, List.length_map, zd]
      exact (H.num _ T.2.1).trans c6
    · rw [Cb.1, hl]
      have G := gfat_ok H hlt Cb.2
      rw [G.1]
      have c : decide (t.atC (t.leC rows) (Mine.enc t.p db) (t.leC rows).length = 0) = decide (Mine.enc t.p db ∈ rows) := by simpa [chkB] using cB
      rw [decide_eq_decide.mpr (D_nil H G.2), c]
      refine decide_eq_decide.mpr ⟨fun h => List.mem_map.mpr ⟨_, h, rfl⟩, fun h => ?_⟩
      obtain ⟨x, hx, e⟩ := List.mem_map.mp h
      exact inj H (hr x hx) Cb.2 e ▸ hx
    · have ef := Z_toNat fa
      have lf := lt_toNat fa
      have G1 := gfat_ok H lf ha
      have G2 := gfat_ok H lf (fro_ok H ha).2
      rw [ef] at G1 G2
      have ma := mrest_all (by exact_mod_cast H.p0) (Z (t.leC rows)) fa
      have em := Z_toNat ma
      have lm := lt_toNat ma
      have G3 := gfat_ok H lm ha
      rw [em] at G3
      simp only [chkF, Bool.and_eq_true, decide_eq_true_eq] at cF
      obtain ⟨d1, ⟨d2, d3⟩, d4⟩ := cF
      unfold values
      rw [hl]
      simp only
      rw [G1.1, (fro_ok H G1.2).1, (fro_ok H ha).1, G2.1, d1, if_neg (fun h => h rfl), G3.1, d3]
      rw [List.length_map, decide_eq_true d2, decide_eq_decide.mpr (D_nil H G1.2), d4]
      simp
end Tb
end

section
theorem map_ints : ∀ {vs : List Value} {ns : List Int}, IntsAre vs ns → vs.map av = (Ints ns).map some
  | _, _, .nil => rfl
  | _, _, .cons n t h => by
    have := map_ints h
    simp only [List.map_cons, this]
    rfl
theorem roomC : Room callerA 9 := ⟨rfl, by decide, by decide⟩
theorem field_of {t : Tb} (H : t.Ok) (hc : ((List.range t.q).all t.chk) = true) {a b f : List Int} (ha : Dg t.p t.k a) (hb : Dg t.p t.k b) (hf : Dg t.p 3 f) : ∃ rows, LawOk t.m t.p a b f rows := by
  obtain ⟨d, h1, h2, rfl⟩ := ha
  have C := H.cu d (Tb.mem_allN _ _ h1 h2)
  rw [C.1]
  exact Tb.law H C.2 (List.all_eq_true.mp hc _ (List.mem_range.mpr C.2)) hb hf
theorem plain (i : Nat) (hi : i < 8) (a b f : List Int) (ha : Dg (fld i).1 ((fld i).2.length - 1) a) (hb : Dg (fld i).1 ((fld i).2.length - 1) b) (hf : Dg (fld i).1 3 f) : ∃ rows, LawOk (fld i).2 (fld i).1 a b f rows := by
  have hi := lt8 i hi
  rcases hi with rfl | rfl | rfl | rfl | rfl | rfl | rfl | rfl
  · exact field_of (t := tb0) (.of top0 one0 add0 mul0) chk0 ha hb hf
  · exact field_of (t := tb1) (.of top1 one1 add1 mul1) chk1 ha hb hf
  · exact field_of (t := tb2) (.of top2 one2 add2 mul2) chk2 ha hb hf
  · exact field_of (t := tb3) (.of top3 one3 add3 mul3) chk3 ha hb hf
  · exact field_of (t := tb4) (.of top4 one4 add4 mul4) chk4 ha hb hf
  · exact field_of (t := tb5) (.of top5 one5 add5 mul5) chk5 ha hb hf
  · exact field_of (t := tb6) (.of top6 one6 add6 mul6) chk6 ha hb hf
  · exact field_of (t := tb7) (.of top7 one7 add7 mul7) chk7 ha hb hf
set_option maxHeartbeats 4000000 in
theorem row_of (H : ∀ i < 8, ∀ a b f, Dg (fld i).1 ((fld i).2.length - 1) a → Dg (fld i).1 ((fld i).2.length - 1) b → Dg (fld i).1 3 f → ∃ rows, LawOk (fld i).2 (fld i).1 a b f rows) : PySem.Challenge.rw_sa0098_01.Holds := by
  refine hd ?_
  intro w s₀ s₁ mg mb G Y fa o pm cd doc dV kV ho hd' hcd hD hmg hg args vals as hpre hlay hrd hwl hlo
  have KX := kIn_of Y
  refine Ground.open G ?_
  intro T B D TE TW
  clear hd' hcd hD
  have hfa : mg (Str.ofString "law") = some (.ref 225) := mg_of KX T.g (by with_unfolding_all rfl)
  have hfa' : Value.ref fa = .ref 225 := Option.some.inj (hmg.symm.trans hfa)
  cases hfa'
  clear hmg ho
  wrow_args hpre hlay hrd hwl hlo
  rename_i ns hs _ _ _ _ _ _ l vs _ hL _ _ _ hI _ hc _
  have F := law_fn (w := w) (hb := s₁.heap) ⟨KX, ⟨_, mg, mb, T⟩⟩ (l := l) (ns := ns) (by omega) H
  refine F callerA s₁ _ _ [.ref l] roomC rfl (fun _ _ e => e) (fun p hp => ?_) fun v a' N h' tk ea ⟨ha, hN⟩ hk _ _ => ?_
  · rw [List.mem_singleton.mp hp]
    exact ⟨vs, hL, map_ints hI⟩
  · subst ha
    have := av_bool ea
    subst this
    exact ⟨.inl ⟨.bool true, .bool true, [], rfl, fun _ => rfl, .bool true, postW_of (r := PySem.Challenge.rw_sa0098_01.row.toRowW) (X := true) rfl (w_eq_bool (k := true) (l := true) rfl rfl) rfl, fun _ => ⟨.nil, fun _ h => nomatch h⟩⟩, .of_keep hk, rfl, .of_eq hg⟩
end
end Mine

theorem PySem.Challenge.cw_sa0098_01_holds : PySem.Challenge.rw_sa0098_01.Holds :=
  Mine.row_of Mine.plain
