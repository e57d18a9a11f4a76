/- Part 1 of the proof: an abstract machine for the loaded code, and what the functions compute. No conditions. -/
import Derived.RowKit3
import Derived.Test.Ytnldohnfdeineaaq0
set_option linter.unusedVariables false
set_option linter.unusedSimpArgs false
/- The abstract machine: operations that may change places. -/
namespace Go.Proofs.Ytnldohnfdeineaa.Abs
open Go

/-- Operations that write nothing that another one sees. -/
def mvb : AOp → Bool
  | .allocH _ | .boxH _ | .store .. | .storeL .. | .app .. | .cp .. | .mkArr .. | .call .. | .callV .. | .bad => false
  | _ => true
def allocd (d : Option Nat) : AOp → Option Nat
  | .alloc _ | .box _ => d
  | _ => none
abbrev Dl := AV × Option (List AV)
def mvalB (d : Option Nat) (tm : List (Nat × AV)) (cs : List AV) : Option Dl := match d with
  | some d => if noLocs d tm = true then some (.loc d 0, some cs) else none
  | none => none
def mval (d : Option Nat) (st : St) : AOp → Option Dl
  | .alloc z => mvalB d st.tm z
  | .box x => if (x.ev st.tm).mem = true then mvalB d st.tm (x.ev st.tm).cells else none
  | op => (pv st.tm st.lo st.hp op).map (·, none)
def gval (g : Option (Nat × Bool)) (tm : List (Nat × AV)) : Option Bool := match g with
  | none => some true
  | some (g, w) => isB w (fnd .undef tm g)
def mdl (o : AOper) (st : St) : Option Dl := match gval o.guard st.tm with
  | some true => mval o.dst st o.op
  | some false => some (.tup [], none)
  | none => none
def lofx (lo : List (Nat × List AV)) (d : Option Nat) (c : Option (List AV)) : List (Nat × List AV) := match c, d with
  | some cs, some d => ins d cs lo
  | _, _ => lo
def mapp (d : Option Nat) (st : St) (r : Dl) : St := ⟨putT st.tm d r.1, lofx st.lo d r.2, st.hp⟩

variable {C : CallRel} {K : Cont} {Kp : AV → List AO → Prop} {st : St}

theorem awp_one {o : AOper} : awpOps C [o] K Kp st ↔ (gval o.guard st.tm = some true ∧ astep C o.dst K Kp st o.op) ∨ (gval o.guard st.tm = some false ∧ K (st.put o.dst (.tup []))) := by
  obtain ⟨d, op, g⟩ := o
  cases g with
  | none => simp [awpOps_cons, gval, show awpOps C [] K Kp = K from rfl]
  | some g =>
    obtain ⟨g, w⟩ := g
    rw [awpOps_guard]
    simp only [gval]
    cases isB w (fnd .undef st.tm g) with
    | none => simp [guardK]
    | some b => cases b <;> simp [guardK, astepK, skipK, show awpOps C [] K Kp = K from rfl]
theorem mval_step {d : Option Nat} {op : AOp} (h : mvb op = true) : astep C d K Kp st op ↔ ∃ r, mval d st op = some r ∧ K (mapp d st r) := by
  have plain : ∀ x : Option AV, bindT (x.map (st.put d)) K ↔ ∃ r : Dl, x.map (·, (none : Option (List AV))) = some r ∧ K (mapp d st r) := by
    intro x
    cases x with
    | none => simp [bindT]
    | some v => simp [bindT, mapp, lofx, St.put]
  have hbox : ∀ cs, bindT (boxL st d cs) K ↔ ∃ r : Dl, mvalB d st.tm cs = some r ∧ K (mapp d st r) := by
    intro cs
    cases d with
    | none => simp [boxL, mvalB, bindT]
    | some d => cases hn : noLocs d st.tm <;> simp [boxL, boxLd, mvalB, bindT, hn, mapp, lofx, putT]
  cases op <;> first | (cases h; done) | exact plain _ | exact plain (pv st.tm st.lo st.hp (.mv _)) | skip
  case alloc z => exact hbox z
  case box x =>
    simp only [astep, stepF, mval]
    cases (x.ev st.tm).mem with
    | true => simp only [ifv, if_true]; exact hbox _
    | false => simp [ifv, bindT]
theorem awp_mv {o : AOper} (h : mvb o.op = true) : awpOps C [o] K Kp st ↔ ∃ r, mdl o st = some r ∧ K (mapp o.dst st r) := by
  rw [awp_one, mval_step h]
  unfold mdl
  cases gval o.guard st.tm with
  | none => simp
  | some b => cases b <;> simp [mapp, lofx, St.put]

/-- Memory that a movable operation looks at. -/
def memoS (st st' : St) (op : AOp) : Prop := memo st.lo st'.lo st.hp st'.hp st.tm op
theorem gval_congr {g : Option (Nat × Bool)} {tm tm'} (h : Agree (grd g) tm tm') : gval g tm = gval g tm' := by
  cases g with
  | none => rfl
  | some g => obtain ⟨g, w⟩ := g; simp only [gval]; rw [h g (by simp [grd])]
theorem mvalB_stable {d : Option Nat} {tm tm' cs} (hn : ∀ e, d = some e → noLocs e tm' = true) {r : Dl} (h : mvalB d tm cs = some r) : mvalB d tm' cs = some r := by
  cases d with
  | none => cases h
  | some d =>
    simp only [mvalB] at h ⊢
    split at h
    · rw [if_pos (hn d rfl)]; exact h
    · cases h
theorem mval_stable {d : Option Nat} {op : AOp} {st st' : St} (hm : mvb op = true) (ha : Agree (rds op) st.tm st'.tm) (hmm : memoS st st' op) (hn : ∀ e, allocd d op = some e → noLocs e st'.tm = true) {r} (h : mval d st op = some r) : mval d st' op = some r := by
  have plain : (pv st.tm st.lo st.hp op).map (·, (none : Option (List AV))) = some r → (pv st'.tm st'.lo st'.hp op).map (·, (none : Option (List AV))) = some r := by
    intro h
    rw [← pv_congr ha hmm]
    exact h
  cases op <;> first | (cases hm; done) | exact plain h | skip
  case alloc z => exact mvalB_stable hn h
  case box x =>
    simp only [mval] at h ⊢
    rw [← ev_congr (x := x) ha]
    split at h
    · rename_i hx; rw [if_pos hx]; exact mvalB_stable hn h
    · cases h
theorem mdl_stable {o : AOper} {st st' : St} (hm : mvb o.op = true) (ha : Agree (rds o.op) st.tm st'.tm) (hg : Agree (grd o.guard) st.tm st'.tm) (hmm : memoS st st' o.op) (hn : ∀ e, allocd o.dst o.op = some e → noLocs e st'.tm = true) {r} (h : mdl o st = some r) : mdl o st' = some r := by
  unfold mdl at *
  rw [← gval_congr hg]
  cases hv : gval o.guard st.tm with
  | none => rw [hv] at h; cases h
  | some b =>
    rw [hv] at h
    cases b with
    | true => exact mval_stable hm ha hmm hn h
    | false => exact h

theorem putT_comm {a b : Option Nat} {x y : AV} {tm} (h : ∀ k, a = some k → b ≠ some k) : putT (putT tm b y) a x = putT (putT tm a x) b y := by
  cases a with
  | none => rfl
  | some a =>
    cases b with
    | none => rfl
    | some b => exact ins_comm (fun e => h a rfl (by rw [e]))
theorem lofx_comm {a b : Option Nat} {x y} {lo} (h : ∀ k, a = some k → b ≠ some k) : lofx (lofx lo b y) a x = lofx (lofx lo a x) b y := by
  cases x with
  | none => simp [lofx]
  | some x =>
    cases y with
    | none => simp [lofx]
    | some y =>
      cases a with
      | none => simp [lofx]
      | some a =>
        cases b with
        | none => simp [lofx]
        | some b => exact ins_comm (fun e => h a rfl (by rw [e]))
theorem mapp_comm {d e : Option Nat} {r r2 : Dl} (h : ∀ k, d = some k → e ≠ some k) : mapp d (mapp e st r2) r = mapp e (mapp d st r) r2 := by
  simp only [mapp]
  rw [putT_comm h, lofx_comm h]
theorem fnd_ins_ne {α : Type} {dd : α} {k t : Nat} {v : α} (h : k ≠ t) : ∀ {l : List (Nat × α)}, fnd dd (ins k v l) t = fnd dd l t
  | [] => by simp [ins, fnd, sel, show (k == t) = false by simpa using h]
  | (j, u) :: l => by
    have hk : (k == t) = false := by simpa using h
    simp only [ins]
    cases decide (k < j) with
    | true => simp [sel, fnd, hk]
    | false =>
      cases hkj : (k == j) with
      | true => have := beq_iff_eq.1 hkj; subst this; simp [sel, fnd, hk]
      | false => simp only [sel, fnd, fnd_ins_ne h]
theorem agree_put {l : List Nat} {d : Option Nat} {v : AV} {tm} (h : ∀ k, d = some k → k ∉ l) : Agree l tm (putT tm d v) := by
  intro t ht
  cases d with
  | none => rfl
  | some d => exact (fnd_ins_ne (fun e => h d rfl (by rw [e]; exact ht))).symm
theorem Agree.symm {l tm tm'} (h : Agree l tm tm') : Agree l tm' tm := fun t ht => (h t ht).symm

/-- What a movable operation brings is no address of another's box. -/
theorem mdl_notLoc {o : AOper} {st : St} {r : Dl} {d : Nat} (hc : csOk o.op = true) (hn : noLocs d st.tm = true) (hd : o.dst ≠ some d) (h : mdl o st = some r) : notLoc d r.1 = true := by
  have hb : ∀ cs, mvalB o.dst st.tm cs = some r → notLoc d r.1 = true := by
    intro cs h
    cases hod : o.dst with
    | none => rw [hod] at h; cases h
    | some e =>
      rw [hod] at h hd
      simp only [mvalB] at h
      split at h
      · simp only [Option.some.injEq] at h
        subst h
        simp only [notLoc, Bool.not_eq_true', beq_eq_false_iff_ne]
        exact fun e' => hd (by rw [e'])
      · cases h
  have hp : (pv st.tm st.lo st.hp o.op).map (·, (none : Option (List AV))) = some r → notLoc d r.1 = true := by
    intro h
    simp only [Option.map_eq_some_iff] at h
    obtain ⟨v, hv, rfl⟩ := h
    exact pv_notLoc hc hn hv
  unfold mdl at h
  cases hv : gval o.guard st.tm with
  | none => rw [hv] at h; cases h
  | some b =>
    rw [hv] at h
    cases b with
    | false => simp only [Option.some.injEq] at h; subst h; rfl
    | true =>
      simp only at h
      obtain ⟨dst, op, g⟩ := o
      cases op <;> first | exact hp h | exact hb _ h | skip
      case box x =>
        simp only [mval] at h
        split at h
        · exact hb _ h
        · cases h
/-- A movable operation that brings a box has found no address of it. -/
theorem mdl_alloc {o : AOper} {st : St} {r : Dl} {cs : List AV} (h : mdl o st = some r) (hr : r.2 = some cs) : ∃ e, o.dst = some e ∧ allocd o.dst o.op = some e ∧ noLocs e st.tm = true := by
  have hb : ∀ cs, mvalB o.dst st.tm cs = some r → ∃ e, o.dst = some e ∧ noLocs e st.tm = true := by
    intro cs h
    cases hod : o.dst with
    | none => rw [hod] at h; cases h
    | some e =>
      rw [hod] at h
      simp only [mvalB] at h
      split at h
      · rename_i hn; exact ⟨e, rfl, hn⟩
      · cases h
  have hp : (pv st.tm st.lo st.hp o.op).map (·, (none : Option (List AV))) = some r → False := by
    intro h
    simp only [Option.map_eq_some_iff] at h
    obtain ⟨v, hv, rfl⟩ := h
    cases hr
  unfold mdl at h
  cases hv : gval o.guard st.tm with
  | none => rw [hv] at h; cases h
  | some b =>
    rw [hv] at h
    cases b with
    | false => simp only [Option.some.injEq] at h; subst h; cases hr
    | true =>
      simp only at h
      obtain ⟨dst, op, g⟩ := o
      cases op <;> first | exact (hp h).elim | skip
      case alloc z => obtain ⟨e, h1, h2⟩ := hb _ h; exact ⟨e, h1, h1, h2⟩
      case box x =>
        simp only [mval] at h
        split at h
        · obtain ⟨e, h1, h2⟩ := hb _ h; exact ⟨e, h1, h1, h2⟩
        · cases h
end Go.Proofs.Ytnldohnfdeineaa.Abs
/- The abstract machine: a movable operation and its neighbour change places. -/
namespace Go.Proofs.Ytnldohnfdeineaa.Abs
open Go

def memA (o x : AOper) : Bool := match o.op with
  | .load .. => match x.op with
    | .store .. | .storeL .. | .app .. | .cp .. | .mkArr .. | .allocH _ | .boxH _ | .call .. | .callV .. => false
    | _ => true
  | .loadS (some s) _ _ _ => match x.op with
    | .store .. => false
    | .storeL k _ _ _ => k != s
    | .alloc _ | .box _ => x.dst != some s
    | _ => true
  | .alloc _ | .box _ => match x.op with
    | .storeL k _ _ _ => o.dst != some k
    | .loadS (some k) _ _ _ => o.dst != some k
    | _ => true
  | _ => true
def offA (d : Option Nat) (x : AOper) : Bool := match d with
  | some d => !(rds x.op ++ grd x.guard).contains d
  | none => true
def apartA (o x : AOper) : Bool := offA o.dst x && offA x.dst o && (o.dst.isNone || o.dst != x.dst) && memA o x

variable {C : CallRel} {K : Cont} {Kp : AV → List AO → Prop} {st : St}

theorem offA_agree {d : Option Nat} {x : AOper} {v : AV} {tm} (h : offA d x = true) : Agree (rds x.op) tm (putT tm d v) ∧ Agree (grd x.guard) tm (putT tm d v) := by
  have hk : ∀ k, d = some k → k ∉ rds x.op ++ grd x.guard := by
    intro k hk
    subst hk
    simpa [offA] using h
  exact ⟨agree_put fun k e hm => hk k e (List.mem_append_left _ hm), agree_put fun k e hm => hk k e (List.mem_append_right _ hm)⟩

/-- A box that is made is not looked at by an operation that holds no address of it. -/
theorem memo_lofx {op : AOp} {tm lo hp} {d : Option Nat} {c : Option (List AV)} (hc : csOk op = true) (hn : ∀ cs e, c = some cs → d = some e → noLocs e tm = true ∧ ∀ s n ag a, op = .loadS (some s) n ag a → s ≠ e) : memo lo (lofx lo d c) hp hp tm op := by
  cases op <;> try trivial
  case load n ag a =>
    simp only [memo]
    cases c with
    | none => rfl
    | some cs =>
      cases d with
      | none => rfl
      | some e =>
        have h1 := ev_notLoc (d := e) (x := a) (tm := tm) hc (hn cs e rfl rfl).1
        cases hv : a.ev tm <;> rw [hv] at h1 <;> try rfl
        rename_i s o
        simp only [notLoc, Bool.not_eq_true', beq_eq_false_iff_ne] at h1
        simp only [loadV, lofx]
        rw [fnd_ins_ne (fun e' => h1 e'.symm)]
  case loadS s n ag a =>
    cases s with
    | none => trivial
    | some s =>
      simp only [memo]
      cases c with
      | none => rfl
      | some cs =>
        cases d with
        | none => rfl
        | some e =>
          simp only [lofx]
          exact (fnd_ins_ne (fun e' => (hn cs e rfl rfl).2 s n ag a rfl e'.symm)).symm
theorem memo_symm {op : AOp} {tm tm' lo lo' hp hp'} (ha : Agree (rds op) tm tm') (h : memo lo lo' hp hp' tm op) : memo lo' lo hp' hp tm' op := by
  cases op <;> try trivial
  case load n ag a =>
    simp only [memo] at *
    rw [← ev_congr (x := a) ha]
    exact h.symm
  case loadS s n ag a =>
    cases s with
    | none => trivial
    | some s => exact Eq.symm h

/-- Another memory, in which the operation sees the same. -/
theorem mdl_put {o x : AOper} {r : Dl} {v : AV} {lo' hp'} (hm : mvb o.op = true) (ho : mdl o st = some r) (hx : offA x.dst o = true) (hv : ∀ e, allocd o.dst o.op = some e → noLocs e st.tm = true → notLoc e v = true) (hmm : memo st.lo lo' st.hp hp' st.tm o.op) :
    mdl o ⟨putT st.tm x.dst v, lo', hp'⟩ = some r := by
  obtain ⟨h1, h2⟩ := offA_agree (v := v) (tm := st.tm) hx
  unfold mdl at ho ⊢
  have hg := gval_congr (g := o.guard) (tm := st.tm) (tm' := putT st.tm x.dst v) h2
  simp only at hg ⊢
  rw [← hg]
  cases hgv : gval o.guard st.tm with
  | none => rw [hgv] at ho; cases ho
  | some b =>
    rw [hgv] at ho
    cases b with
    | false => exact ho
    | true =>
      simp only at ho ⊢
      refine mval_stable (st' := ⟨putT st.tm x.dst v, lo', hp'⟩) hm h1 hmm (fun e he => ?_) ho
      have hb : ∀ cs, mvalB (some e) st.tm cs = some r → noLocs e st.tm = true := by
        intro cs h
        simp only [mvalB] at h
        split at h
        · assumption
        · cases h
      have hne : noLocs e st.tm = true := by
        obtain ⟨dst, op, g⟩ := o
        cases op <;> first | (cases he; done) | skip
        case alloc z =>
          simp only [allocd] at he
          subst he
          exact hb _ ho
        case box y =>
          simp only [allocd] at he
          subst he
          simp only [mval] at ho
          split at ho
          · exact hb _ ho
          · cases ho
      exact noLocs_put hne (hv e he hne)

abbrev CStrong (C : CallRel) : Prop := ∀ f args hp (Q : ARes → List AO → Prop), C f args hp Q → C f args hp fun r hp' => Q r hp' ∧ ∀ v, r = .ret v → notL v = true

theorem apart_parts {o x : AOper} (h : apartA o x = true) : offA o.dst x = true ∧ offA x.dst o = true ∧ (∀ k, o.dst = some k → x.dst ≠ some k) ∧ memA o x = true := by
  simp only [apartA, Bool.and_eq_true, Bool.or_eq_true] at h
  obtain ⟨⟨⟨h1, h2⟩, h3⟩, h4⟩ := h
  refine ⟨h1, h2, fun k hk hx => ?_, h4⟩
  rcases h3 with h3 | h3
  · rw [hk] at h3; cases h3
  · rw [hk, hx] at h3; simp at h3
theorem alloc_dst {d : Option Nat} {op : AOp} {e : Nat} (h : allocd d op = some e) : d = some e ∧ ((∃ z, op = .alloc z) ∨ ∃ y, op = .box y) := by
  cases op <;> first | (cases h; done) | skip
  case alloc z => exact ⟨h, .inl ⟨z, rfl⟩⟩
  case box y => exact ⟨h, .inr ⟨y, rfl⟩⟩

/-- Two movable operations. -/
theorem swap_mv {o x : AOper} {r : Dl} (hm : mvb o.op = true) (hmx : mvb x.op = true) (hap : apartA o x = true) (hco : csOk o.op = true) (hcx : csOk x.op = true) (hx : ∀ e, allocd x.dst x.op = some e → noLocs e st.tm = true) (ho : mdl o st = some r)
    {r2 : Dl} (h : mdl x (mapp o.dst st r) = some r2) : mdl x st = some r2 ∧ mdl o (mapp x.dst st r2) = some r ∧ mapp o.dst (mapp x.dst st r2) r = mapp x.dst (mapp o.dst st r) r2 := by
  obtain ⟨h1, h2, h3, h4⟩ := apart_parts hap
  obtain ⟨a1, a2⟩ := offA_agree (v := r.1) (tm := st.tm) h1
  have m1 : memo st.lo (lofx st.lo o.dst r.2) st.hp st.hp st.tm x.op := memo_lofx hcx fun cs e hc hd => by
    obtain ⟨e', g1, g2, g3⟩ := mdl_alloc ho hc
    have : e' = e := by rw [hd] at g1; cases g1; rfl
    subst this
    refine ⟨g3, fun s n ag a hop hs => ?_⟩
    subst hs
    obtain ⟨-, ⟨z, hz⟩ | ⟨y, hz⟩⟩ := alloc_dst g2 <;> simp [memA, hz, hop, hd] at h4
  have e1 : mdl x st = some r2 := mdl_stable (st := mapp o.dst st r) (st' := st) hmx a1.symm a2.symm (memo_symm a1 m1) hx h
  refine ⟨e1, ?_, mapp_comm h3⟩
  refine mdl_put hm ho h2 (fun e he hn => mdl_notLoc hcx hn (fun hd => h3 e (alloc_dst he).1 hd) e1) ?_
  refine memo_lofx hco fun cs e hc hd => ?_
  obtain ⟨e', g1, g2, g3⟩ := mdl_alloc e1 hc
  have : e' = e := by rw [hd] at g1; cases g1; rfl
  subst this
  refine ⟨g3, fun s n ag a hop hs => ?_⟩
  subst hs
  obtain ⟨-, ⟨z, hz⟩ | ⟨y, hz⟩⟩ := alloc_dst g2 <;> simp [memA, hz, hop, hd] at h4

/-- Not a load out of the heap: sees the boxes alone. -/
theorem memo_hp {o x : AOper} {lo lo' hp hp' tm} (h4 : memA o x = true) (hx : mvb x.op = false) (hb : x.op ≠ .bad) (hlo : ∀ s n ag a, o.op = .loadS (some s) n ag a → fnd [] lo s = fnd [] lo' s) : memo lo lo' hp hp' tm o.op := by
  obtain ⟨d, op, g⟩ := o
  cases op <;> try trivial
  case load n ag a =>
    exfalso
    obtain ⟨d', op', g'⟩ := x
    cases op' <;> first | (cases hx; done) | (exact hb rfl) | (simp [memA] at h4)
  case loadS s n ag a =>
    cases s with
    | none => trivial
    | some s => exact hlo s n ag a rfl

theorem apx_notLoc {mu e hp s x p} {d : Nat} (h : apx mu e hp s x = some p) : notLoc d p.1 = true := by
  unfold apx at h
  repeat' split at h
  all_goals first
    | (cases h; done)
    | (simp only [Option.some.injEq] at h; subst h; rfl)
theorem swap_store {d : Option Nat} {r : Dl} {n : Nat} {v : AV} {s off : Nat} {s2 : St} (hne : ∀ cs e, r.2 = some cs → d = some e → e ≠ s) (h : storeL (mapp d st r) s (okv n v) (upd off v.cells (fnd [] (mapp d st r).lo s)) = some s2) :
    ∃ s3, storeL st s (okv n v) (upd off v.cells (fnd [] st.lo s)) = some s3 ∧ s3 = ⟨st.tm, ins s ((upd off v.cells (fnd [] st.lo s)).getD []) st.lo, st.hp⟩ ∧ mapp d s3 r = s2 := by
  have e1 : fnd [] (mapp d st r).lo s = fnd [] st.lo s := by
    simp only [mapp]
    cases hr : r.2 with
    | none => rfl
    | some cs =>
      cases d with
      | none => rfl
      | some e => exact fnd_ins_ne (hne cs e hr rfl)
  rw [e1] at h
  cases hk : okv n v <;> rw [hk] at h <;> simp only [storeL, reduceCtorEq] at h ⊢
  cases hu : upd off v.cells (fnd [] st.lo s) <;> rw [hu] at h <;> simp only [reduceCtorEq, Option.some.injEq] at h ⊢
  refine ⟨_, rfl, rfl, ?_⟩
  rw [← h]
  simp only [mapp, Option.getD_some]
  cases hr : r.2 with
  | none => rfl
  | some cs =>
    cases d with
    | none => rfl
    | some e =>
      simp only [lofx]
      rw [ins_comm (hne cs e hr rfl)]

theorem cpx_notLoc {e hp s x p} {d : Nat} (h : cpx e hp s x = some p) : notLoc d p.1 = true := by
  cases x with
  | arr id e' off n =>
    simp only [cpx] at h
    split at h
    · simp only [Option.bind_eq_some_iff, Option.map_eq_some_iff] at h
      obtain ⟨_, _, _, _, _, _, rfl⟩ := h
      rfl
    · cases h
  | _ => simp [cpx] at h

/-- What an operation with an effect does beside one that can move. -/
theorem swap_eff {o x : AOper} {r : Dl} (hm : mvb o.op = true) (hmx : mvb x.op = false) (hap : apartA o x = true) (hcx : csOk x.op = true) (ho : mdl o st = some r)
    {s2 : St} (h : stepF x.dst (mapp o.dst st r) x.op = some s2) : ∃ s3, stepF x.dst st x.op = some s3 ∧ mdl o s3 = some r ∧ mapp o.dst s3 r = s2 := by
  obtain ⟨h1, h2, h3, h4⟩ := apart_parts hap
  obtain ⟨a1, a2⟩ := offA_agree (v := r.1) (tm := st.tm) h1
  have hb : x.op ≠ .bad := fun e => by rw [e] at h; simp [stepF, pv] at h
  have hput : ∀ (v : AV) hp' , (∀ e, notLoc e v = true) → mdl o ⟨putT st.tm x.dst v, st.lo, hp'⟩ = some r := fun v hp' hv => mdl_put hm ho h2 (fun e _ _ => hv e) (memo_hp h4 hmx hb fun _ _ _ _ _ => rfl)
  have hcom : ∀ (v : AV) hp', mapp o.dst ⟨putT st.tm x.dst v, st.lo, hp'⟩ r = ⟨putT (mapp o.dst st r).tm x.dst v, (mapp o.dst st r).lo, hp'⟩ := fun v hp' => by
    simp only [mapp]
    rw [putT_comm h3]
  have hst : ∀ (lo' : List (Nat × List AV)) hp', (∀ s n ag a, o.op = .loadS (some s) n ag a → fnd [] st.lo s = fnd [] lo' s) → mdl o ⟨st.tm, lo', hp'⟩ = some r := fun lo' hp' hl => by
    have := mdl_put (x := ⟨none, x.op, none⟩) (v := .undef) (lo' := lo') (hp' := hp') hm ho rfl (fun _ _ _ => rfl) (memo_hp (x := x) h4 hmx hb hl)
    exact this
  obtain ⟨d, op, g⟩ := x
  cases op <;> first | (cases hmx; done) | skip
  case bad => exact (hb rfl).elim
  case call f args => simp [stepF, pv] at h
  case callV f args => simp [stepF, pv] at h
  case allocH z =>
    simp only [stepF, Option.some.injEq] at h
    exact ⟨_, rfl, hput _ _ (fun _ => rfl), by rw [← h]; exact hcom _ _⟩
  case boxH y =>
    simp only [stepF] at h ⊢
    rw [show y.ev (mapp o.dst st r).tm = y.ev st.tm from (ev_congr a1).symm] at h
    cases hv : (y.ev st.tm).mem with
    | false => rw [hv] at h; cases h
    | true =>
      rw [hv] at h
      simp only [ifv, Option.some.injEq] at h
      exact ⟨_, rfl, hput _ _ (fun _ => rfl), by rw [← h]; exact hcom _ _⟩
  case mkArr z y =>
    simp only [stepF] at h ⊢
    rw [show y.ev (mapp o.dst st r).tm = y.ev st.tm from (ev_congr a1).symm] at h
    cases hv : y.ev st.tm <;> rw [hv] at h <;> simp only [mkArrV, reduceCtorEq] at h ⊢
    split at h
    · rename_i hr
      rw [if_pos hr]
      simp only [Option.some.injEq] at h
      exact ⟨_, rfl, hput _ _ (fun _ => rfl), by rw [← h]; exact hcom _ _⟩
    · cases h
  case app mu e y z =>
    simp only [stepF] at h ⊢
    rw [show y.ev (mapp o.dst st r).tm = y.ev st.tm from (ev_congr a1.left).symm, show z.ev (mapp o.dst st r).tm = z.ev st.tm from (ev_congr a1.right).symm] at h
    simp only [Option.map_eq_some_iff] at h ⊢
    obtain ⟨p, hp, hq⟩ := h
    refine ⟨_, ⟨p, hp, rfl⟩, hput _ _ (fun e => ?_), by rw [← hq]; exact hcom _ _⟩
    exact apx_notLoc hp
  case cp e y z =>
    simp only [stepF] at h ⊢
    rw [show y.ev (mapp o.dst st r).tm = y.ev st.tm from (ev_congr a1.left).symm, show z.ev (mapp o.dst st r).tm = z.ev st.tm from (ev_congr a1.right).symm] at h
    simp only [Option.map_eq_some_iff] at h ⊢
    obtain ⟨p, hp, hq⟩ := h
    refine ⟨_, ⟨p, hp, rfl⟩, hput _ _ (fun e => ?_), by rw [← hq]; exact hcom _ _⟩
    exact cpx_notLoc hp
  case store n y z =>
    simp only [stepF] at h ⊢
    rw [show y.ev (mapp o.dst st r).tm = y.ev st.tm from (ev_congr a1.left).symm, show z.ev (mapp o.dst st r).tm = z.ev st.tm from (ev_congr a1.right).symm] at h
    cases hv : y.ev st.tm <;> rw [hv] at h <;> simp only [storeV, reduceCtorEq] at h ⊢
    · rename_i id off
      cases hk : okv n (z.ev st.tm) <;> rw [hk] at h <;> simp only [storeP, reduceCtorEq] at h ⊢
      rw [show (mapp o.dst st r).hp = st.hp from rfl] at h
      cases hu : (hcells st.hp id).bind (upd off (z.ev st.tm).cells) <;> rw [hu] at h <;> simp only [reduceCtorEq, Option.some.injEq] at h ⊢
      exact ⟨_, rfl, hst _ _ fun _ _ _ _ _ => rfl, h⟩
    · rename_i s off
      have hne : ∀ cs e, r.2 = some cs → o.dst = some e → e ≠ s := fun cs e hc hd => by
        obtain ⟨e', g1, g2, g3⟩ := mdl_alloc ho hc
        have : e' = e := by rw [hd] at g1; cases g1; rfl
        subst this
        have := ev_notLoc (d := e') (x := y) hcx g3
        rw [hv] at this
        simp only [notLoc, Bool.not_eq_true', beq_eq_false_iff_ne] at this
        exact fun e => this e.symm
      obtain ⟨s3, q1, q2, q3⟩ := swap_store hne h
      refine ⟨s3, q1, ?_, q3⟩
      rw [q2]
      refine hst _ _ fun s' n' ag a hop => ?_
      simp [memA, hop] at h4
  case storeL k n y z =>
    simp only [stepF] at h ⊢
    rw [show y.ev (mapp o.dst st r).tm = y.ev st.tm from (ev_congr a1.left).symm, show z.ev (mapp o.dst st r).tm = z.ev st.tm from (ev_congr a1.right).symm] at h
    cases hv : y.ev st.tm <;> rw [hv] at h <;> simp only [storeSV, reduceCtorEq] at h ⊢
    rename_i s off
    cases hks : (k == s) <;> rw [hks] at h <;> simp only [sel, reduceCtorEq] at h ⊢
    have hks := beq_iff_eq.1 hks
    subst hks
    have hne : ∀ cs e, r.2 = some cs → o.dst = some e → e ≠ k := fun cs e hc hd => by
      obtain ⟨e', g1, g2, g3⟩ := mdl_alloc ho hc
      have : e' = e := by rw [hd] at g1; cases g1; rfl
      subst this
      have := ev_notLoc (d := e') (x := y) hcx g3
      rw [hv] at this
      simp only [notLoc, Bool.not_eq_true', beq_eq_false_iff_ne] at this
      exact fun e => this e.symm
    obtain ⟨s3, q1, q2, q3⟩ := swap_store hne h
    refine ⟨s3, q1, ?_, q3⟩
    rw [q2]
    refine hst _ _ fun s' n' ag a hop => ?_
    have hk' : k ≠ s' := by simpa [memA, hop] using h4
    exact (fnd_ins_ne hk').symm
end Go.Proofs.Ytnldohnfdeineaa.Abs
/- The abstract machine: every order of a region. -/
namespace Go.Proofs.Ytnldohnfdeineaa.Abs
open Go

variable {C : CallRel} {K : Cont} {Kp : AV → List AO → Prop} {st : St}

/-- What an operation leaves free of a box's addresses. -/
theorem stepF_free {d : Option Nat} {op : AOp} {s2 : St} {e : Nat} (hc : csOk op = true) (hd : d ≠ some e) (h : stepF d st op = some s2) (hn : noLocs e st.tm = true) : noLocs e s2.tm = true := by
  have plain : (pv st.tm st.lo st.hp op).map (st.put d) = some s2 → noLocs e s2.tm = true := by
    intro h
    simp only [Option.map_eq_some_iff] at h
    obtain ⟨v, hv, rfl⟩ := h
    exact noLocs_put hn (pv_notLoc hc hn hv)
  have hbox : ∀ cs, boxL st d cs = some s2 → noLocs e s2.tm = true := by
    intro cs h
    cases d with
    | none => cases h
    | some k =>
      simp only [boxL, Option.bind_some] at h
      cases hk : noLocs k st.tm <;> rw [hk] at h <;> simp only [boxLd, reduceCtorEq, Option.some.injEq] at h
      subst h
      refine noLocs_ins hn ?_
      simp only [notLoc, Bool.not_eq_true', beq_eq_false_iff_ne]
      exact fun e' => hd (by rw [e'])
  have hstore : ∀ {s n v} {x : Option (List AV)}, storeL st s (okv n v) x = some s2 → noLocs e s2.tm = true := by
    intro s n v x h
    generalize okv n v = b at h
    cases b <;> cases x <;> simp only [storeL, reduceCtorEq, Option.some.injEq] at h
    subst h
    exact hn
  cases op <;> first | exact plain h | exact hbox _ h | skip
  case box y =>
    simp only [stepF] at h
    cases hy : (y.ev st.tm).mem <;> rw [hy] at h
    · cases h
    · exact hbox _ h
  case allocH z => simp only [stepF, Option.some.injEq] at h; subst h; exact noLocs_put hn rfl
  case boxH y =>
    simp only [stepF] at h
    cases hy : (y.ev st.tm).mem <;> rw [hy] at h
    · cases h
    · simp only [ifv, Option.some.injEq] at h; subst h; exact noLocs_put hn rfl
  case store n y z =>
    simp only [stepF] at h
    cases hv : y.ev st.tm <;> rw [hv] at h <;> simp only [storeV, reduceCtorEq] at h
    · rename_i id off
      cases hk : okv n (z.ev st.tm) <;> rw [hk] at h <;> simp only [storeP, reduceCtorEq] at h
      cases hu : (hcells st.hp id).bind (upd off (z.ev st.tm).cells) <;> rw [hu] at h <;> simp only [reduceCtorEq, Option.some.injEq] at h
      subst h
      exact hn
    · exact hstore h
  case storeL k n y z =>
    simp only [stepF] at h
    cases hv : y.ev st.tm <;> rw [hv] at h <;> simp only [storeSV, reduceCtorEq] at h
    rename_i s off
    cases hks : (k == s) <;> rw [hks] at h <;> simp only [sel, reduceCtorEq] at h
    exact hstore h
  case app mu k y z =>
    simp only [stepF, Option.map_eq_some_iff] at h
    obtain ⟨p, hp, rfl⟩ := h
    exact noLocs_put hn (apx_notLoc hp)
  case cp k y z =>
    simp only [stepF, Option.map_eq_some_iff] at h
    obtain ⟨p, hp, rfl⟩ := h
    exact noLocs_put hn (cpx_notLoc hp)
  case mkArr z y =>
    simp only [stepF] at h
    cases hv : y.ev st.tm <;> rw [hv] at h <;> simp only [mkArrV, reduceCtorEq] at h
    split at h
    · simp only [Option.some.injEq] at h; subst h; exact noLocs_put hn rfl
    · cases h

theorem callK_strong (hS : CStrong C) {f args hp} {Q : ARes → List AO → Prop} (h : callK C f args hp Q) : callK C f args hp fun r hp' => Q r hp' ∧ ∀ v, r = .ret v → notL v = true := ⟨h.1, hS _ _ _ _ h.2⟩
theorem callVK_strong (hS : CStrong C) {args hp} {Q : ARes → List AO → Prop} : ∀ {v}, callVK C args hp Q v → callVK C args hp (fun r hp' => Q r hp' ∧ ∀ v, r = .ret v → notL v = true) v
  | .fn .., h => callK_strong hS h

/-- Calls: a rule to change what follows. -/
theorem retK_imp (hC : CMono C) (hS : CStrong C) {d d' : Option Nat} {st st' : St} {K K' : Cont} {Kp : AV → List AO → Prop} (hK : ∀ v hp', notL v = true → K ⟨putT st.tm d v, st.lo, hp'⟩ → K' ⟨putT st'.tm d' v, st'.lo, hp'⟩) {f args hp} (h : callK C f args hp (retK d st K Kp)) : callK C f args hp (retK d' st' K' Kp) := by
  refine callK_mono hC (callK_strong hS h) ?_
  intro r hp' h
  cases r with
  | ret v => exact hK v hp' (h.2 v rfl) h.1
  | pan v => exact h.1
theorem retVK_imp (hC : CMono C) (hS : CStrong C) {d d' : Option Nat} {st st' : St} {K K' : Cont} {Kp : AV → List AO → Prop} (hK : ∀ v hp', notL v = true → K ⟨putT st.tm d v, st.lo, hp'⟩ → K' ⟨putT st'.tm d' v, st'.lo, hp'⟩) {args hp} : ∀ {v}, callVK C args hp (retK d st K Kp) v → callVK C args hp (retK d' st' K' Kp) v
  | .fn .., h => retK_imp hC hS hK h

theorem frame (hC : CMono C) (hS : CStrong C) {x : AOper} (hc : csOk x.op = true) (h : awpOps C [x] K Kp st) : awpOps C [x] (fun st' => K st' ∧ ∀ e, x.dst ≠ some e → noLocs e st.tm = true → noLocs e st'.tm = true) Kp st := by
  rw [awp_one] at h ⊢
  rcases h with ⟨h1, h2⟩ | ⟨h1, h2⟩
  · refine .inl ⟨h1, ?_⟩
    have plain : bindT (stepF x.dst st x.op) K → bindT (stepF x.dst st x.op) fun st' => K st' ∧ ∀ e, x.dst ≠ some e → noLocs e st.tm = true → noLocs e st'.tm = true := by
      intro h
      cases hs : stepF x.dst st x.op with
      | none => rw [hs] at h; exact h.elim
      | some s2 => rw [hs] at h; exact ⟨h, fun e hd hn => stepF_free hc hd hs hn⟩
    obtain ⟨d, op, g⟩ := x
    cases op <;> first | exact plain h2 | skip
    case call f args => exact retK_imp hC hS (fun v hp' hv h => ⟨h, fun e _ hn => noLocs_put hn (notLoc_of_notL hv)⟩) h2
    case callV f args => exact retVK_imp hC hS (fun v hp' hv h => ⟨h, fun e _ hn => noLocs_put hn (notLoc_of_notL hv)⟩) h2
  · exact .inr ⟨h1, h2, fun e _ hn => noLocs_put hn rfl⟩

theorem swap (hC : CMono C) (hS : CStrong C) {o x : AOper} {r : Dl} (hm : mvb o.op = true) (hap : apartA o x = true) (hco : csOk o.op = true) (hcx : csOk x.op = true) (hx : ∀ e, allocd x.dst x.op = some e → noLocs e st.tm = true) (ho : mdl o st = some r)
    (h : awpOps C [x] K Kp (mapp o.dst st r)) : awpOps C [x] (fun st' => ∃ r', mdl o st' = some r' ∧ K (mapp o.dst st' r')) Kp st := by
  cases hmx : mvb x.op with
  | true =>
    rw [awp_mv hmx] at h ⊢
    obtain ⟨r2, h1, h2⟩ := h
    obtain ⟨g1, g2, g3⟩ := swap_mv hm hmx hap hco hcx hx ho h1
    exact ⟨r2, g1, r, g2, by rw [g3]; exact h2⟩
  | false =>
    obtain ⟨h1, h2, h3, h4⟩ := apart_parts hap
    obtain ⟨a1, a2⟩ := offA_agree (v := r.1) (tm := st.tm) h1
    have hcom : ∀ (v : AV) hp', mapp o.dst ⟨putT st.tm x.dst v, st.lo, hp'⟩ r = ⟨putT (mapp o.dst st r).tm x.dst v, (mapp o.dst st r).lo, hp'⟩ := fun v hp' => by
      simp only [mapp]
      rw [putT_comm h3]
    rw [awp_one] at h ⊢
    rw [show gval x.guard (mapp o.dst st r).tm = gval x.guard st.tm from (gval_congr a2).symm] at h
    rcases h with ⟨hg, h⟩ | ⟨hg, h⟩
    · refine .inl ⟨hg, ?_⟩
      have plain : bindT (stepF x.dst (mapp o.dst st r) x.op) K → bindT (stepF x.dst st x.op) fun st' => ∃ r', mdl o st' = some r' ∧ K (mapp o.dst st' r') := by
        intro h
        cases hs : stepF x.dst (mapp o.dst st r) x.op with
        | none => rw [hs] at h; exact h.elim
        | some s2 =>
          rw [hs] at h
          obtain ⟨s3, q1, q2, q3⟩ := swap_eff hm hmx hap hcx ho hs
          rw [q1]
          exact ⟨r, q2, by rw [q3]; exact h⟩
      have hcall : ∀ v hp', x.op ≠ .bad → notL v = true → K ⟨putT (mapp o.dst st r).tm x.dst v, (mapp o.dst st r).lo, hp'⟩ → ∃ r', mdl o ⟨putT st.tm x.dst v, st.lo, hp'⟩ = some r' ∧ K (mapp o.dst ⟨putT st.tm x.dst v, st.lo, hp'⟩ r') := by
        intro v hp' hb hv h
        exact ⟨r, mdl_put hm ho h2 (fun e _ _ => notLoc_of_notL hv) (memo_hp h4 hmx hb fun _ _ _ _ _ => rfl), by rw [hcom]; exact h⟩
      obtain ⟨d, op, g⟩ := x
      cases op <;> first | (cases hmx; done) | exact plain h | skip
      case call f args =>
        simp only [astep] at h ⊢
        rw [show args.map (AR.ev (mapp o.dst st r).tm ·) = args.map (AR.ev st.tm ·) from (evs_congr a1).symm] at h
        exact retK_imp hC hS (fun v hp' hv h => hcall v hp' (by simp) hv h) h
      case callV f args =>
        simp only [astep] at h ⊢
        rw [show args.map (AR.ev (mapp o.dst st r).tm ·) = args.map (AR.ev st.tm ·) from (evs_congr a1.right).symm, show f.ev (mapp o.dst st r).tm = f.ev st.tm from (ev_congr a1.left).symm] at h
        exact retVK_imp hC hS (fun v hp' hv h => hcall v hp' (by simp) hv h) h
    · refine .inr ⟨hg, ?_⟩
      refine ⟨r, mdl_put (x := x) (v := .tup []) (lo' := st.lo) (hp' := st.hp) hm ho h2 (fun e _ _ => rfl) ?_, ?_⟩
      · cases ho' : o.op <;> try trivial
        rename_i s n ag a
        cases s <;> first | trivial | rfl
      · rw [show st.put x.dst (.tup []) = ⟨putT st.tm x.dst (.tup []), st.lo, st.hp⟩ from rfl, hcom]; exact h

/-- Every order of the operations that are not listed yet. -/
def awpAny (C : CallRel) (gops : Array Oper) (aops : List AOper) (K : Cont) (Kp : AV → List AO → Prop) : Nat → Array Bool → Cont
  | 0, L, st => Region.ready .any gops L = [] ∧ K st
  | fuel + 1, L, st => (Region.ready .any gops L = [] → K st) ∧ ∀ i ∈ Region.ready .any gops L, awp1 C (awpAny C gops aops K Kp fuel (L.setIfInBounds i true)) Kp st aops[i]?

def freeA (gops : Array Oper) (aops : List AOper) (L : Array Bool) (i : Nat) : Bool := match aops[i]? with
  | none => false
  | some o => (List.range gops.size).all fun j => j == i || L.getD j true || match gops[j]?, aops[j]? with
    | some g, some x => g.after.any (fun e => Region.binds .any e && e.on == i) || apartA o x
    | _, _ => false
def mvA (aops : List AOper) (i : Nat) : Bool := match aops[i]? with
  | some o => mvb o.op
  | none => false
/-- No address of a box that is still to be made is held. -/
def Inv (aops : List AOper) (L : Array Bool) (st : St) : Prop := ∀ (j : Nat) x e, aops[j]? = some x → L.getD j true = false → allocd x.dst x.op = some e → noLocs e st.tm = true
structure Good (gops : Array Oper) (aops : List AOper) : Prop where
  size : gops.size = aops.length
  cs : ∀ (j : Nat) x, aops[j]? = some x → csOk x.op = true
  dst : ∀ (j k : Nat) x y e, j ≠ k → aops[j]? = some x → aops[k]? = some y → x.dst = some e → y.dst ≠ some e

variable {gops : Array Oper} {aops : List AOper}

theorem Inv.step {L : Array Bool} {j : Nat} {x : AOper} {st st' : St} (hG : Good gops aops) (h : Inv aops L st) (hj : aops[j]? = some x) (hL : j < L.size) (hf : ∀ e, x.dst ≠ some e → noLocs e st.tm = true → noLocs e st'.tm = true) : Inv aops (L.setIfInBounds j true) st' := by
  intro k y e hk hun he
  by_cases hjk : j = k
  · subst hjk
    simp [hL] at hun
  · rw [getD_set_ne true hjk] at hun
    exact hf e (fun hd => hG.dst j k x y e hjk hj hk hd (alloc_dst he).1) (h k y e hk hun he)

theorem ready_lt {L : Array Bool} {j : Nat} (h : j ∈ Region.ready .any gops L) : j < gops.size ∧ j < L.size := by
  obtain ⟨h0, o, ho, -⟩ := mem_ready.1 h
  refine ⟨(Array.getElem?_eq_some_iff.1 ho).1, ?_⟩
  rcases Nat.lt_or_ge j L.size with h' | h'
  · exact h'
  · simp [Array.getElem?_eq_none h'] at h0

theorem take (hC : CMono C) (hS : CStrong C) (hG : Good gops aops) {i : Nat} {o : AOper} (hi : aops[i]? = some o) (hm : mvb o.op = true) :
    ∀ (fuel : Nat) (L : Array Bool) (st : St) (r : Dl),
      (∀ j g x, gops[j]? = some g → aops[j]? = some x → j ≠ i → L.getD j true = false → (∀ e ∈ g.after, Region.binds .any e = true → e.on ≠ i) → apartA o x = true) →
      i ∈ Region.ready .any gops L → Inv aops L st → mdl o st = some r →
      awpAny C gops aops K Kp fuel (L.setIfInBounds i true) (mapp o.dst st r) → awpAny C gops aops K Kp (fuel + 1) L st := by
  intro fuel
  have first : ∀ (fuel : Nat) (L : Array Bool) (st : St) (r : Dl), mdl o st = some r → awpAny C gops aops K Kp fuel (L.setIfInBounds i true) (mapp o.dst st r) → awp1 C (awpAny C gops aops K Kp fuel (L.setIfInBounds i true)) Kp st aops[i]? := by
    intro fuel L st r ho H
    rw [hi]
    exact (awp_mv hm).2 ⟨r, ho, H⟩
  induction fuel with
  | zero =>
    intro L st r _ hr _ ho H
    refine ⟨fun h => (by rw [h] at hr; cases hr), fun j hj => ?_⟩
    by_cases hji : j = i
    · subst hji; exact first _ _ _ _ ho H
    · have := ready_mono hj hji
      rw [H.1] at this
      cases this
  | succ fuel ih =>
    intro L st r hfree hr hinv ho H
    refine ⟨fun h => (by rw [h] at hr; cases hr), fun j hj => ?_⟩
    by_cases hji : j = i
    · subst hji; exact first _ _ _ _ ho H
    · have h1 := H.2 j (ready_mono hj hji)
      obtain ⟨hjun, oj, hoj, hall⟩ := mem_ready.1 hj
      have hnot : ∀ e ∈ oj.after, Region.binds .any e = true → e.on ≠ i := fun e he hb heq => by
        have h1 := hall e he hb
        have h0 := (mem_ready.1 hr).1
        rw [heq] at h1
        have h' := (ready_lt hr).2
        simp [h'] at h0 h1
        rw [h0] at h1
        cases h1
      obtain ⟨hjg, hjL⟩ := ready_lt hj
      obtain ⟨x, hx⟩ : ∃ x, aops[j]? = some x := ⟨aops[j]'(by rw [← hG.size]; exact hjg), List.getElem?_eq_getElem _⟩
      rw [hx] at h1 ⊢
      have hcx := hG.cs j x hx
      have h2 := frame hC hS hcx (swap hC hS hm (hfree j oj x hoj hx hji hjun hnot) (hG.cs i o hi) hcx (fun e he => hinv j x e hx hjun he) ho h1)
      refine awpOps_mono hC [x] h2 (fun st' h3 => ?_) (fun _ _ h => h)
      obtain ⟨⟨r', g1, g2⟩, g3⟩ := h3
      refine ih (L.setIfInBounds j true) st' r' (fun k g y hg hk hki hun hno => hfree k g y hg hk hki ?_ hno) (ready_mono hr (Ne.symm hji)) (hinv.step hG hx hjL g3) g1 ?_
      · by_cases hjk : j = k
        · subst hjk; exact hjun
        · rw [getD_set_ne true hjk] at hun; exact hun
      · rw [Array.setIfInBounds_comm _ _ hji]
        exact g2
end Go.Proofs.Ytnldohnfdeineaa.Abs
/- The abstract machine and the given one: regions that draw their order. -/
namespace Go.Proofs.Ytnldohnfdeineaa.Abs
open Go

variable {C : CallRel} {K : Cont} {Kp : AV → List AO → Prop} {st : St} {gops : Array Oper} {aops : List AOper}

def Sch.depth : Sch → Nat
  | .nil => 0
  | .op _ r => r.depth + 1
  | .alt _ r e => max (r.depth + 1) e.depth
def okS (gops : Array Oper) (aops : List AOper) : Array Bool → List Nat → Sch → Bool
  | L, _, .nil => (Region.ready .any gops L).isEmpty
  | L, cov, .op i r => (Region.ready .any gops L).contains i && ((cov.isEmpty && mvA aops i && freeA gops aops L i) || (Region.ready .any gops L).all fun j => j == i || cov.contains j) && okS gops aops (L.setIfInBounds i true) [] r
  | L, cov, .alt i r e => (Region.ready .any gops L).contains i && okS gops aops (L.setIfInBounds i true) [] r && okS gops aops L (i :: cov) e

theorem awpAny_done {L : Array Bool} (hr : Region.ready .any gops L = []) (h : K st) : ∀ fuel, awpAny C gops aops K Kp fuel L st
  | 0 => ⟨hr, h⟩
  | _ + 1 => ⟨fun _ => h, by rw [hr]; simp⟩

theorem okS_sound (hC : CMono C) (hS : CStrong C) (hG : Good gops aops) : ∀ (s : Sch) (L : Array Bool) (cov : List Nat) (st : St) (fuel : Nat), okS gops aops L cov s = true → Inv aops L st → s.depth ≤ fuel → awpS C aops K Kp s st →
    (cov = [] → awpAny C gops aops K Kp fuel L st) ∧ ∀ f, fuel = f + 1 → ∀ j ∈ Region.ready .any gops L, j ∉ cov → awp1 C (awpAny C gops aops K Kp f (L.setIfInBounds j true)) Kp st aops[j]?
  | .nil, L, cov, st, fuel, h, hinv, hd, hw => by
    have hr : Region.ready .any gops L = [] := by simpa [okS] using h
    refine ⟨fun _ => awpAny_done hr hw fuel, fun f _ j hj => ?_⟩
    rw [hr] at hj
    cases hj
  | .op i r, L, cov, st, fuel, h, hinv, hd, hw => by
    simp only [okS, Bool.and_eq_true] at h
    obtain ⟨⟨h1, h2⟩, h3⟩ := h
    have hi : i ∈ Region.ready .any gops L := by simpa using h1
    obtain ⟨hig, hiL⟩ := ready_lt hi
    obtain ⟨x, hx⟩ : ∃ x, aops[i]? = some x := ⟨aops[i]'(by rw [← hG.size]; exact hig), List.getElem?_eq_getElem _⟩
    simp only [Sch.depth] at hd
    obtain ⟨f, rfl⟩ : ∃ f, fuel = f + 1 := ⟨fuel - 1, by omega⟩
    simp only [awpS] at hw
    rw [hx] at hw
    have step : awp1 C (awpAny C gops aops K Kp f (L.setIfInBounds i true)) Kp st aops[i]? := by
      rw [hx]
      refine awpOps_mono hC [x] (frame hC hS (hG.cs i x hx) hw) (fun st' h' => ?_) (fun _ _ h => h)
      exact (okS_sound hC hS hG r (L.setIfInBounds i true) [] st' f h3 (hinv.step hG hx hiL h'.2) (by omega) h'.1).1 rfl
    rcases Bool.or_eq_true .. ▸ h2 with h2 | h2
    · simp only [Bool.and_eq_true] at h2
      obtain ⟨⟨hcov, hmv⟩, hfree⟩ := h2
      have hm : mvb x.op = true := by simpa [mvA, hx] using hmv
      rw [hx] at step
      obtain ⟨r', g1, g2⟩ := (awp_mv hm).1 step
      have hall : awpAny C gops aops K Kp (f + 1) L st := by
        refine take hC hS hG hx hm f L st r' (fun j g y hg hy hji hun hno => ?_) hi hinv g1 g2
        simp only [freeA, hx, List.all_eq_true, List.mem_range] at hfree
        have q := hfree j (Array.getElem?_eq_some_iff.1 hg).1
        simp only [hg, hy, Bool.or_eq_true, beq_iff_eq, hji, false_or, hun, Bool.false_eq_true] at q
        rcases q with q | q
        · obtain ⟨e, he, hb⟩ := Array.any_eq_true'.1 q
          simp only [Bool.and_eq_true, beq_iff_eq] at hb
          exact absurd hb.2 (hno e he hb.1)
        · exact q
      exact ⟨fun _ => hall, fun f' hf j hj _ => by cases hf; exact hall.2 j hj⟩
    · simp only [List.all_eq_true, Bool.or_eq_true, beq_iff_eq] at h2
      have hall : ∀ j ∈ Region.ready .any gops L, j ∉ cov → awp1 C (awpAny C gops aops K Kp f (L.setIfInBounds j true)) Kp st aops[j]? := by
        intro j hj hc
        rcases h2 j hj with e | e
        · subst e; exact step
        · exact absurd (by simpa using e) hc
      refine ⟨fun hc => ⟨fun h0 => (by rw [h0] at hi; cases hi), fun j hj => hall j hj (by rw [hc]; simp)⟩, fun f' hf j hj hc => by cases hf; exact hall j hj hc⟩
  | .alt i r e, L, cov, st, fuel, h, hinv, hd, hw => by
    simp only [okS, Bool.and_eq_true] at h
    obtain ⟨⟨h1, h3⟩, h4⟩ := h
    have hi : i ∈ Region.ready .any gops L := by simpa using h1
    obtain ⟨hig, hiL⟩ := ready_lt hi
    obtain ⟨x, hx⟩ : ∃ x, aops[i]? = some x := ⟨aops[i]'(by rw [← hG.size]; exact hig), List.getElem?_eq_getElem _⟩
    simp only [Sch.depth] at hd
    obtain ⟨f, rfl⟩ : ∃ f, fuel = f + 1 := ⟨fuel - 1, by omega⟩
    simp only [awpS] at hw
    rw [hx] at hw
    have step : awp1 C (awpAny C gops aops K Kp f (L.setIfInBounds i true)) Kp st aops[i]? := by
      rw [hx]
      refine awpOps_mono hC [x] (frame hC hS (hG.cs i x hx) hw.1) (fun st' h' => ?_) (fun _ _ h => h)
      exact (okS_sound hC hS hG r (L.setIfInBounds i true) [] st' f h3 (hinv.step hG hx hiL h'.2) (by omega) h'.1).1 rfl
    have rest := (okS_sound hC hS hG e L (i :: cov) st (f + 1) h4 hinv (by omega) hw.2).2 f rfl
    have hall : ∀ j ∈ Region.ready .any gops L, j ∉ cov → awp1 C (awpAny C gops aops K Kp f (L.setIfInBounds j true)) Kp st aops[j]? := by
      intro j hj hc
      by_cases hji : j = i
      · subst hji; exact step
      · exact rest j hj (by simp [hji, hc])
    exact ⟨fun hc => ⟨fun h0 => (by rw [h0] at hi; cases hi), fun j hj => hall j hj (by rw [hc]; simp)⟩, fun f' hf j hj hc => by cases hf; exact hall j hj hc⟩

variable {P : Program} {TT : List (Nat × TI)} {E E' E0 : Env} {lb : Nat → Nat} {n : Nat} {a : Act}

theorem sim_strong : CStrong (Sim P) := by
  intro f args hp Q h
  refine ⟨h.1, fun E vals h1 h2 h3 => (h.2 E vals h1 h2 h3).mono ?_⟩
  rintro e w' ⟨E', g1, g2, g3, g4, g5⟩
  refine ⟨E', g1, g2, g3, g4, ?_⟩
  rcases g5 with ⟨v, x, r1, r2, r3⟩ | ⟨v, x, r1, r2, r3⟩
  · refine .inl ⟨v, x, r1, r2, r3, fun u hu => ?_⟩
    cases hu
    cases r2 <;> rfl
  · exact .inr ⟨v, x, r1, r2, r3, fun u hu => by cases hu⟩

/-- One operation among many. -/
theorem one_sound {i : Nat} {K : Cont} {Kp : AV → List AO → Prop} {Kc : Act → World → Prop} {Qc : Exit → Act → World → Prop} (hT : ttOk P TT = true) (hok : ∀ (i : Nat) ao o, aops[i]? = some ao → gops[i]? = some o → okOper TT n gops ao o = true) (hlen : gops.size = aops.length) (hk : KR E0 n K Kp Kc Qc) (h : SR E0 E lb n st a) (hi : i < gops.size)
    (hw : awp1 (Sim P) K Kp st aops[i]?) : wpOp P gops Qc i Kc a E.w := by
  have hia : i < aops.length := by rw [← hlen]; exact hi
  have hai : aops[i]? = some aops[i] := List.getElem?_eq_getElem hia
  have hgi : gops[i]? = some gops[i] := Array.getElem?_eq_getElem _
  have hoki := hok i _ _ hai hgi
  rw [hai] at hw
  simp only [wpOp, hgi]
  generalize aops[i] = ao at hw hai hoki
  generalize gops[i] = o at hgi hoki ⊢
  simp only [awp1] at hw
  rw [awp_one] at hw
  obtain ⟨h1, h2, _, h4, _⟩ := okOper_parts hoki
  have hgv : ∀ b, gval ao.guard st.tm = some b → Region.wanted o (yielded gops a.tmps) = b := by
    intro b hb
    refine wanted_of (b := b) h.tr h4 ?_
    obtain ⟨d, op, g⟩ := ao
    cases g with
    | none => exact hb
    | some g => obtain ⟨g, w⟩ := g; exact hb
  rcases hw with ⟨hg, hw⟩ | ⟨hg, hw⟩
  · rw [hgv true hg, if_pos rfl]
    exact .inl (op_sound hT h hk hoki hw)
  · rw [hgv false hg, if_neg (by simp)]
    have hp := h.put h2 (v := .tup []) (x := undef) rt_no'
    rw [h1] at hp hw
    exact hk.next E lb _ _ hp hw

theorem any_run {K : Cont} {Kp : AV → List AO → Prop} {Qc : Exit → Act → World → Prop} (hT : ttOk P TT = true) (hok : ∀ (i : Nat) ao o, aops[i]? = some ao → gops[i]? = some o → okOper TT n gops ao o = true) (hlen : gops.size = aops.length) (hk : KR E0 n K Kp (Qc .normal) Qc) :
    ∀ (fuel : Nat) (L : Array Bool) {E lb st a}, SR E0 E lb n st a → awpAny (Sim P) gops aops K Kp fuel L st → wpAny P .any gops Qc fuel L a E.w
  | 0, L, E, lb, st, a, h, hw => ⟨hw.1, hk.next E lb st a h hw.2⟩
  | fuel + 1, L, E, lb, st, a, h, hw => by
    refine ⟨fun h0 => hk.next E lb st a h (hw.1 h0), fun i hi => ?_⟩
    exact one_sound hT hok hlen (Kc := wpAny P .any gops Qc fuel (L.setIfInBounds i true)) ⟨fun E lb st a h hw => any_run hT hok hlen hk fuel _ h hw, hk.pan⟩ h (ready_lt hi).1 (hw.2 i hi)

def dstNot (d : Option Nat) (l : List AOper) : Bool := match d with
  | none => true
  | some e => l.all fun y => y.dst != some e
def dstsOk : List AOper → Bool
  | [] => true
  | x :: l => dstNot x.dst l && dstsOk l
theorem dstsOk_spec : ∀ {l : List AOper}, dstsOk l = true → ∀ (j k : Nat) x y e, j ≠ k → l[j]? = some x → l[k]? = some y → x.dst = some e → y.dst ≠ some e
  | [], _, j, k, x, y, e, _, hj, _, _ => by simp at hj
  | z :: l, h, j, k, x, y, e, hne, hj, hk, hd => by
    simp only [dstsOk, Bool.and_eq_true] at h
    have hin : ∀ {e y} {k : Nat}, z.dst = some e → l[k]? = some y → y.dst ≠ some e := by
      intro e y k hz hy
      have h1 := h.1
      rw [hz] at h1
      simp only [dstNot, List.all_eq_true] at h1
      simpa using h1 y (List.mem_of_getElem? hy)
    cases j with
    | zero =>
      cases k with
      | zero => exact absurd rfl hne
      | succ k =>
        simp only [List.getElem?_cons_zero, Option.some.injEq] at hj
        subst hj
        exact hin hd (by simpa using hk)
    | succ j =>
      cases k with
      | zero =>
        simp only [List.getElem?_cons_zero, Option.some.injEq] at hk
        subst hk
        exact fun hy => hin hy (by simpa using hj) hd
      | succ k => exact dstsOk_spec h.2 j k x y e (fun e => hne (by rw [e])) (by simpa using hj) (by simpa using hk) hd

def anyOk : AnyOk := fun gops aops s => gops.size == aops.length && aops.all (fun x => csOk x.op) && dstsOk aops && decide (s.depth ≤ gops.size) && okS gops aops (Array.replicate gops.size false) [] s

theorem locsFree_spec {tm : List (Nat × AV)} : ∀ {l : List AOper}, locsFree tm l = true → ∀ x ∈ l, ∀ e, allocd x.dst x.op = some e → noLocs e tm = true
  | [], _, x, hx, _, _ => by cases hx
  | z :: l, h, x, hx, e, he => by
    have hl : locsFree tm l = true ∧ ∀ e, allocd z.dst z.op = some e → noLocs e tm = true := by
      obtain ⟨d, op, g⟩ := z
      cases d with
      | none => cases op <;> exact ⟨h, fun e he => by cases he⟩
      | some d =>
        cases op <;> first
          | exact ⟨h, fun e he => by cases he⟩
          | (simp only [locsFree, Bool.and_eq_true] at h; exact ⟨h.2, fun e he => by cases he; exact h.1⟩)
    rcases List.mem_cons.1 hx with rfl | hx
    · exact hl.2 e he
    · exact locsFree_spec hl.1 x hx e he

theorem SR.drawn (h : SR E0 E lb n st a) : SR E0 { E with w := { E.w with drawn := E.w.drawn + 1 } } lb n st a := by
  have hl : Le E { E with w := { E.w with drawn := E.w.drawn + 1 } } := by
    have := Le.refl E
    exact ⟨this.len, this.blk, this.fil, this.siz, this.size, this.os, this.tape, this.out, this.frz, this.ktok, this.kcells, this.pr, this.pr', this.new, this.cell⟩
  have hw : WR { E with w := { E.w with drawn := E.w.drawn + 1 } } := by
    refine ⟨h.wr.tok, fun id cs hid => ?_, h.wr.inj, h.wr.npr, h.wr.prlt⟩
    obtain ⟨cur, te, h1, h2, h3, h4⟩ := h.wr.cells id cs hid
    refine ⟨cur, te, h1, h2, h3, fun j y hj => ?_⟩
    obtain ⟨v, g1, g2, g3⟩ := h4 j y hj
    exact ⟨v, g1, g2, g3.le hl⟩
  have := h.move hl (fun _ _ _ => rfl) hw
  have e : (⟨st.tm, st.lo, E.hp⟩ : St) = st := by rw [h.hp]
  exact e ▸ this

theorem any_sound (hm : P.follows .mixedOrders = true) (hT : ttOk P TT = true) : AnySound P TT anyOk := by
  intro E0 E lb n st a gops aops s K Kp Qc id hok hany hk h hf hw
  simp only [anyOk, Bool.and_eq_true, beq_iff_eq, decide_eq_true_eq, List.all_eq_true] at hany
  obtain ⟨⟨⟨⟨h1, h2⟩, h3⟩, h4⟩, h5⟩ := hany
  have hG : Good gops aops := ⟨h1, fun j x hj => h2 x (List.mem_of_getElem? hj), dstsOk_spec h3⟩
  have hinv : Inv aops (Array.replicate gops.size false) st := fun j x e hj _ he => locsFree_spec hf x (List.mem_of_getElem? hj) e he
  refine wp_region_any hm ?_
  have hdr : SR E0 { E with w := { E.w with drawn := E.w.drawn + 1 } } lb n st a := h.drawn
  exact any_run hT (fun i ao o hi ho => (okOpers_get hok).2 i ao o hi (by simpa using ho)) h1 hk gops.size _ hdr ((okS_sound Sim.mono sim_strong hG s _ [] st gops.size h5 hinv h4 hw).1 rfl)
end Go.Proofs.Ytnldohnfdeineaa.Abs
/- The abstract machine and the given one: all calls. -/
namespace Go.Proofs.Ytnldohnfdeineaa.Abs
open Go

variable {P : Program} {TT : List (Nat × TI)} {T : FuncId → Option AFunc} {Pr : CallRel}
theorem calls_sound (hm : P.follows .mixedOrders = true) (hT : ttOk P TT = true) (hF : ∀ f af, T f = some af → ∃ fn, P.funcs[f]? = some fn ∧ okFunc TT anyOk af fn = true) (hP : ∀ f args hp Q, Pr f args hp Q → Sim P f args hp Q)
    {f args hp} {Q : ARes → List AO → Prop} (h : ACalls T Pr f args hp Q) : Sim P f args hp Q := by
  refine h (Sim P) (fun f af args hp Q hf hw => ?_) hP
  obtain ⟨fn, h1, h2⟩ := hF f af hf
  exact func_sound hT (any_sound hm hT) h1 h2 hw

/-- A table of functions, by their numbers. -/
def tab : List (Nat × AFunc) → FuncId → Option AFunc
  | [], _ => none
  | (k, a) :: l, f => sel (k == f) (some a) (tab l f)
def Held (P : Program) (TT : List (Nat × TI)) (l : List (Nat × AFunc)) : Prop := ∀ p ∈ l, ∃ fn, P.funcs[p.1]? = some fn ∧ okFunc TT anyOk p.2 fn = true
theorem tab_mem {l : List (Nat × AFunc)} {f af} (h : tab l f = some af) : (f, af) ∈ l := by
  induction l with
  | nil => cases h
  | cons p l ih =>
    obtain ⟨k, a⟩ := p
    simp only [tab] at h
    cases hk : (k == f) with
    | true => rw [hk] at h; have := beq_iff_eq.1 hk; subst this; cases h; exact List.mem_cons_self
    | false => rw [hk] at h; exact List.mem_cons_of_mem _ (ih h)
theorem Held.nil : Held P TT [] := fun _ h => by cases h
theorem Held.cons {k : Nat} {a : AFunc} {l fn} (h1 : P.funcs[k]? = some fn) (h2 : okFunc TT anyOk a fn = true) (h : Held P TT l) : Held P TT ((k, a) :: l) := by
  intro p hp
  rcases List.mem_cons.1 hp with rfl | hp
  · exact ⟨fn, h1, h2⟩
  · exact h p hp
theorem Held.tab {l : List (Nat × AFunc)} (h : Held P TT l) : ∀ f af, tab l f = some af → ∃ fn, P.funcs[f]? = some fn ∧ okFunc TT anyOk af fn = true := fun f af hf => h (f, af) (tab_mem hf)
end Go.Proofs.Ytnldohnfdeineaa.Abs
/- The abstract machine and the given one: what a law's walk is told. -/
namespace Go.Proofs.Ytnldohnfdeineaa.Abs
open Go

variable {P : Program}
/-- A moment at which nothing is held. -/
def Env.zero (w : World) : Env := { hp := [], blk := fun _ => 0, fil := fun _ => 0, siz := fun _ => 0, pr := fun _ => False, w := w }
theorem wr_zero (w : World) : WR (Env.zero w) := ⟨fun _ h => by simp [Env.zero] at h, fun _ _ h => by simp [Env.zero] at h, fun _ _ _ _ h => by simp [Env.zero] at h, fun _ _ h => by simp [Env.zero] at h, fun _ h => h.elim⟩
theorem grown_of {w : World} {E' : Env} (hl : Le (Env.zero w) E') (hk : Kept (Env.zero w) E') : RowKit.Grown w E'.w := by
  have old : ∀ b, b < w.heap.size → E'.w.heap[b]? = w.heap[b]? := fun b hb => hk b hb fun i o h => by simp [Env.zero] at h
  refine ⟨⟨hl.os, hl.out, fun i hi => ?_⟩, fun a => ?_, hl.size⟩
  · rw [old i hi]
    have := (World.keptBut_refl w (fun _ => False)).2.2 i hi
    exact this
  · have := hl.frz a.block
    simp only [frz, Env.zero] at this
    simp only [World.frozen?]
    cases h1 : E'.w.heap[a.block]? with
    | none =>
      cases h2 : w.heap[a.block]? with
      | none => rfl
      | some y =>
        rw [h1, h2] at this
        cases y <;> try rfl
        rename_i c t r
        simp only at this
        subst this
        simp
    | some x =>
      cases h2 : w.heap[a.block]? with
      | none =>
        rw [h1, h2] at this
        cases x <;> try rfl
        rename_i c t r
        simp only at this
        subst this
        simp
      | some y =>
        rw [h1, h2] at this
        cases x <;> cases y <;> simp only at this <;> first | rfl | (subst this; simp) | (subst this; rfl)
theorem law_true {k : FuncId} {args : List AV} {vals : List Value} (h : Sim P k args [] fun r _ => r = .ret (.bool true)) (hv : ∀ E, Sim.CsV E args vals) (w : World) : Calls P k vals.toArray w fun e w' => e = .returned (.bool true) ∧ RowKit.Grown w w' := by
  refine (h.2 (Env.zero w) vals rfl (wr_zero w) (hv _)).mono ?_
  rintro e w' ⟨E', rfl, _, h3, h4, h5⟩
  refine ⟨?_, grown_of h3 h4⟩
  rcases h5 with ⟨v, x, rfl, r, h⟩ | ⟨v, x, rfl, r, h⟩
  · cases h; cases r; rfl
  · cases h
theorem csv_nil (E : Env) : Sim.CsV E [] [] := ⟨rfl, fun j y v h => by simp at h⟩
theorem csv_cons {E : Env} {y : AV} {v : Value} {ys vs} (h : RV E y v) (hs : Sim.CsV E ys vs) : Sim.CsV E (y :: ys) (v :: vs) := by
  refine ⟨by simp [hs.1], fun j y' v' hj hj' => ?_⟩
  cases j with
  | zero => simp at hj hj'; rw [← hj, ← hj']; exact h
  | succ j => simp at hj hj'; exact hs.2 j y' v' hj hj'
/-- The bytes of a string. -/
def bytesOf (b : ByteArray) : List Nat := b.data.toList.map UInt8.toNat
end Go.Proofs.Ytnldohnfdeineaa.Abs
/- The abstract machine as a test that the kernel can run at one input. -/
namespace Go.Proofs.Ytnldohnfdeineaa.Abs
open Go

abbrev CallB := FuncId → List AV → List AO → (ARes → List AO → Bool) → Bool
def retB (d : Option Nat) (st : St) (K : St → Bool) (Kp : AV → List AO → Bool) : ARes → List AO → Bool
  | .ret v, hp => K ⟨putT st.tm d v, st.lo, hp⟩
  | .pan v, hp => Kp v hp
def ifb (b : Bool) (x : Bool) : Bool := match b with
  | true => x
  | false => false
def callVB (C : CallB) (args : List AV) (hp : List AO) (Q : ARes → List AO → Bool) : AV → Bool
  | .fn f caps => ifb ((args ++ caps).all AV.mem) (C f (args ++ caps) hp Q)
  | _ => false
def bindB (x : Option St) (K : St → Bool) : Bool := match x with
  | some st => K st
  | none => false
def astepB (C : CallB) (d : Option Nat) (K : St → Bool) (Kp : AV → List AO → Bool) (st : St) : AOp → Bool
  | .call f args => ifb ((args.map (·.ev st.tm)).all AV.mem) (C f (args.map (·.ev st.tm)) st.hp (retB d st K Kp))
  | .callV f args => callVB C (args.map (·.ev st.tm)) st.hp (retB d st K Kp) (f.ev st.tm)
  | op => bindB (stepF d st op) K
def guardB (x : Option Bool) (p q : Bool) : Bool := match x with
  | some true => p
  | some false => q
  | none => false
def awpOpsB (C : CallB) : List AOper → (St → Bool) → (AV → List AO → Bool) → St → Bool
  | [], K, _, st => K st
  | ⟨d, op, none⟩ :: r, K, Kp, st => astepB C d (awpOpsB C r K Kp) Kp st op
  | ⟨d, op, some (g, w)⟩ :: r, K, Kp, st => guardB (isB w (fnd .undef st.tm g)) (astepB C d (awpOpsB C r K Kp) Kp st op) (awpOpsB C r K Kp (st.put d (.tup [])))
def awp1B (C : CallB) (K : St → Bool) (Kp : AV → List AO → Bool) (st : St) : Option AOper → Bool
  | none => K st
  | some o => awpOpsB C [o] K Kp st
def awpSB (C : CallB) (ops : List AOper) (K : St → Bool) (Kp : AV → List AO → Bool) : Sch → St → Bool
  | .nil, st => K st
  | .op i r, st => awp1B C (awpSB C ops K Kp r) Kp st ops[i]?
  | .alt i r e, st => ifb (awp1B C (awpSB C ops K Kp r) Kp st ops[i]?) (awpSB C ops K Kp e st)
abbrev APostB := AExit → St → Bool
def seqB (k : St → Bool) (Q : APostB) : APostB
  | .normal, st => k st
  | e, st => Q e st
def blockB (id : Nat) (Q : APostB) : APostB
  | .exit j, st => match j == id with
    | true => Q .normal st
    | false => Q (.exit j) st
  | e, st => Q e st
def condB (p q : St → Bool) (st : St) : AV → Bool
  | .bool true => p st
  | .bool false => q st
  | _ => false
def loopB (body : APostB → St → Bool) (live : List Nat) (Q : APostB) : Nat → St → Bool
  | 0, _ => false
  | n + 1, st => body (seqB (fun st => loopB body live Q n (st.keep live)) Q) st
def awpB (C : CallB) (n : Nat) : ACode → APostB → St → Bool
  | .skip, Q, st => Q .normal st
  | .reg live ops, Q, st => awpOpsB C ops (fun st => Q .normal (st.keep live)) (fun v hp => Q (.pan v) ⟨[], [], hp⟩) st
  | .any live ops sch, Q, st => ifb (locsFree st.tm ops) (awpSB C ops (fun st => Q .normal (st.keep live)) (fun v hp => Q (.pan v) ⟨[], [], hp⟩) sch st)
  | .seq a b, Q, st => awpB C n a (seqB (awpB C n b Q) Q) st
  | .cond c a b, Q, st => condB (awpB C n a Q) (awpB C n b Q) st (c.ev st.tm)
  | .keep live a, Q, st => awpB C n a Q (st.keep live)
  | .block id a, Q, st => awpB C n a (blockB id Q) st
  | .loop live a, Q, st => loopB (awpB C n a) live Q n (st.keep live)
  | .exit id, Q, st => Q (.exit id) st
  | .ret, Q, st => Q .ret st
  | .dead, _, _ => false
def retQB (Q : ARes → List AO → Bool) (hp : List AO) : Option (List AV) → Bool
  | some vs => ifb (vs.all AV.mem) (Q (.ret (resOf vs)) hp)
  | none => false
def resQB (res : List ARV) (Q : ARes → List AO → Bool) : APostB
  | .normal, st | .ret, st => retQB Q st.hp (evRes st res)
  | .pan v, st => Q (.pan v) st.hp
  | .exit _, _ => false
def funB (C : CallB) (n : Nat) (args : List AV) (hp : List AO) (Q : ARes → List AO → Bool) : Option AFunc → Bool
  | some af => awpB C n af.body (resQB af.res Q) ⟨enum 0 args, [], hp⟩
  | none => false
def callB (T : FuncId → Option AFunc) : Nat → CallB
  | 0, _, _, _, _ => false
  | n + 1, f, args, hp, Q => funB (callB T n) n args hp Q (T f)

def BSound (B : CallB) (C : CallRel) : Prop := ∀ f args hp q, B f args hp q = true → C f args hp fun r hp => q r hp = true
variable {B : CallB} {C : CallRel}
theorem ifb_iff {b x : Bool} : ifb b x = true ↔ b = true ∧ x = true := by cases b <;> simp [ifb]
theorem callVB_sound (hB : BSound B C) {args hp q} : ∀ {v}, callVB B args hp q v = true → callVK C args hp (fun r hp => q r hp = true) v
  | .fn f caps, h => by
    simp only [callVB, ifb_iff] at h
    exact ⟨h.1, hB _ _ _ _ h.2⟩
theorem astepB_sound (hC : CMono C) (hB : BSound B C) {d K Kp st} : ∀ {op}, astepB B d K Kp st op = true → astep C d (fun st => K st = true) (fun v hp => Kp v hp = true) st op := by
  intro op h
  have hr : ∀ r hp, retB d st K Kp r hp = true → retK d st (fun st => K st = true) (fun v hp => Kp v hp = true) r hp := fun r hp h => by
    cases r <;> exact h
  have plain : bindB (stepF d st op) K = true → bindT (stepF d st op) (fun st => K st = true) := fun h => by
    cases hs : stepF d st op with
    | none => rw [hs] at h; cases h
    | some s => rw [hs] at h; exact h
  cases op <;> first | exact plain h | skip
  case call f args =>
    simp only [astepB, ifb_iff] at h
    exact ⟨h.1, hC _ _ _ _ _ (hB _ _ _ _ h.2) hr⟩
  case callV f args => exact callVK_mono hC hr (callVB_sound hB h)
theorem awpOpsB_sound (hC : CMono C) (hB : BSound B C) {K Kp} : ∀ (ops : List AOper) {st}, awpOpsB B ops K Kp st = true → awpOps C ops (fun st => K st = true) (fun v hp => Kp v hp = true) st
  | [], st, h => h
  | ⟨d, op, none⟩ :: r, st, h => astep_mono hC (fun st h => awpOpsB_sound hC hB r h) (fun _ _ h => h) (astepB_sound hC hB h)
  | ⟨d, op, some (g, w)⟩ :: r, st, h => by
    simp only [awpOpsB] at h
    rw [awpOps_guard]
    cases hb : isB w (fnd .undef st.tm g) with
    | none => rw [hb] at h; cases h
    | some b =>
      rw [hb] at h
      cases b with
      | true => exact astep_mono hC (fun st h => awpOpsB_sound hC hB r h) (fun _ _ h => h) (astepB_sound hC hB h)
      | false => exact awpOpsB_sound hC hB r h
theorem awpSB_sound (hC : CMono C) (hB : BSound B C) {ops K Kp} : ∀ (s : Sch) {st}, awpSB B ops K Kp s st = true → awpS C ops (fun st => K st = true) (fun v hp => Kp v hp = true) s st := by
  have one : ∀ {o : Option AOper} {K : St → Bool} {K' : Cont} {st}, (∀ st, K st = true → K' st) → awp1B B K Kp st o = true → awp1 C K' (fun v hp => Kp v hp = true) st o := by
    intro o K K' st hK h
    cases o with
    | none => exact hK _ h
    | some o => exact awpOps_mono hC [o] (awpOpsB_sound hC hB [o] h) hK (fun _ _ h => h)
  intro s
  induction s with
  | nil => exact fun h => h
  | op i r ih => exact fun h => one (fun st h => ih h) h
  | alt i r e ih1 ih2 =>
    intro st h
    simp only [awpSB, ifb_iff] at h
    exact ⟨one (fun st h => ih1 h) h.1, ih2 h.2⟩
theorem awpB_sound (hC : CMono C) (hB : BSound B C) {n : Nat} : ∀ (c : ACode) {q : APostB} {st}, awpB B n c q st = true → awp C c (fun e st => q e st = true) st
  | .skip, q, st, h => h
  | .reg live ops, q, st, h => awpOpsB_sound hC hB ops h
  | .any live ops s, q, st, h => by
    simp only [awpB, ifb_iff] at h
    exact ⟨h.1, awpSB_sound hC hB s h.2⟩
  | .seq a b, q, st, h => awp_mono hC a (awpB_sound hC hB a h) fun e st h => by
      cases e <;> first | exact awpB_sound hC hB b h | exact h
  | .cond c a b, q, st, h => by
    simp only [awpB] at h
    simp only [awp]
    cases hv : c.ev st.tm with
    | bool t =>
      rw [hv] at h
      cases t with
      | true => exact ⟨fun _ => awpB_sound hC hB a h, fun e => by cases e⟩
      | false => exact ⟨fun e => (by cases e), fun _ => awpB_sound hC hB b h⟩
    | _ => rw [hv] at h; cases h
  | .keep live a, q, st, h => awpB_sound hC hB a h
  | .block id a, q, st, h => awp_mono hC a (awpB_sound hC hB a h) fun e st h => by
      cases e <;> first | exact h | skip
      rename_i j
      simp only [blockB] at h
      simp only [blockQ]
      by_cases hj : j = id
      · subst hj; rw [if_pos rfl]; simpa using h
      · rw [if_neg hj]
        rw [show (j == id) = false by simpa using hj] at h
        exact h
  | .loop live a, q, st, h => by
    intro I hI
    have : ∀ (k : Nat) st, loopB (awpB B n a) live q k st = true → I st := by
      intro k
      induction k with
      | zero => intro st h; cases h
      | succ k ih =>
        intro st h
        refine hI st (awp_mono hC a (awpB_sound hC hB a h) fun e st h => ?_)
        cases e <;> first | exact ih _ h | exact h
    exact this n _ h
  | .exit id, q, st, h => h
  | .ret, q, st, h => h
  | .dead, q, st, h => by cases h
theorem callB_sound {T : FuncId → Option AFunc} {Pr : CallRel} (hPr : CMono Pr) : ∀ n, BSound (callB T n) (ACalls T Pr)
  | 0, _, _, _, _, h => by cases h
  | n + 1, f, args, hp, q, h => by
    simp only [callB] at h
    cases hT : T f with
    | none => rw [hT] at h; cases h
    | some af =>
      rw [hT] at h
      refine ACalls.intro hPr hT ?_
      refine awp_mono (ACalls.mono hPr) af.body (awpB_sound (ACalls.mono hPr) (callB_sound hPr n) af.body h) fun e st h => ?_
      have hr : ∀ x, retQB q st.hp x = true → retQ (fun r hp => q r hp = true) st.hp x := fun x h => by
        cases x with
        | none => cases h
        | some vs => simp only [retQB, ifb_iff] at h; exact h
      cases e with
      | normal => exact hr _ h
      | ret => exact hr _ h
      | pan v => exact h
      | exit _ => cases h
end Go.Proofs.Ytnldohnfdeineaa.Abs
/- The abstract machine's code, read once more: a form whose steps the kernel turns into plain formulas over values. -/
namespace Go.Proofs.Ytnldohnfdeineaa.Abs
open Go
/-- An operation with a place for its value; one without. -/
def o1 (d : Nat) (op : AOp) : AOper := ⟨some d, op, none⟩
def o0 (op : AOp) : AOper := ⟨none, op, none⟩
abbrev RP := ARes → List AO → Prop

/-- Code with its cuts: behind a jn, and at a loop, a formula of its own begins. hs: which addresses aren't a local box's. -/
inductive XC where
  | skip
  | reg (live : List Nat) (ops : List AOper) (hs : List Bool)
  | any (live : List Nat) (ops : List AOper) (sch : Sch) (hs : List Bool)
  | seq (a b : XC)
  | jn (live : List Nat) (a : XC) (b : ACode)
  | cond (c : AR) (thn els : XC)
  | block (id : Nat) (body : XC)
  | loop (live : List Nat) (body : ACode)
  | exit (id : Nat)
  | ret
  | dead

def XC.code : XC → ACode
  | .skip => .skip
  | .reg l o _ => .reg l o
  | .any l o s _ => .any l o s
  | .seq a b => .seq a.code b.code
  | .jn l a b => .seq a.code (.keep l b)
  | .cond c a b => .cond c a.code b.code
  | .block i a => .block i a.code
  | .loop l b => .loop l b
  | .exit i => .exit i
  | .ret => .ret
  | .dead => .dead

/-! the words of the formulas -/
def bv (x : Option AV) (k : AV → Prop) : Prop := match x with
  | some v => k v
  | none => False
def ba (x : Option (AV × List AO)) (k : AV → List AO → Prop) : Prop := match x with
  | some (v, hp) => k v hp
  | none => False
def bs (x : Option (List AO)) (k : List AO → Prop) : Prop := match x with
  | some v => k v
  | none => False
def bl (x : Option (List AV)) (k : List AV → Prop) : Prop := match x with
  | some v => k v
  | none => False
def ifT (b : Bool) (p : Prop) : Prop := match b with
  | true => p
  | false => False
def cnd (v : AV) (p q : Prop) : Prop := match v with
  | .bool t => (t = true → p) ∧ (t = false → q)
  | _ => False
def rx (kp k : AV → List AO → Prop) : ARes → List AO → Prop
  | .ret v, hp => k v hp
  | .pan v, hp => kp v hp
def bn (v : AV) (hp : List AO) (k : AV → List AO → Prop) : Prop := k v hp
def pn (R : ARes → List AO → Prop) : AV → List AO → Prop := fun v hp => R (.pan v) hp
def gv (x : Option Bool) (e : Option AV) : Option AV := match x with
  | some true => e
  | some false => some (.tup [])
  | none => none
def gcal (C : CallRel) (x : Option Bool) (f : FuncId) (args : List AV) (hp : List AO) (kp k : AV → List AO → Prop) : Prop := match x with
  | some true => callK C f args hp (rx kp k)
  | some false => k (.tup []) hp
  | none => False
def gcalV (C : CallRel) (x : Option Bool) (v : AV) (args : List AV) (hp : List AO) (kp k : AV → List AO → Prop) : Prop := match x with
  | some true => callVK C args hp (rx kp k) v
  | some false => k (.tup []) hp
  | none => False
def ldE (n : Nat) (ag : Bool) : AV → Option AV
  | .el cs o => ld n ag cs o
  | _ => none
def ldH (hp : List AO) (n : Nat) (ag : Bool) : AV → Option AV
  | .el cs o => ld n ag cs o
  | .ptr id o => (hcells hp id).bind fun cs => ld n ag cs o
  | _ => none
def ldL (lo : List (Nat × List AV)) (n : Nat) (ag : Bool) : AV → Option AV
  | .loc s o => ld n ag (fnd [] lo s) o
  | _ => none
def ldV (h : Bool) (lo : List (Nat × List AV)) (hp : List AO) (n : Nat) (ag : Bool) (v : AV) : Option AV := match h with
  | true => ldH hp n ag v
  | false => ldL lo n ag v
def lsV (s : Option Nat) (lo : List (Nat × List AV)) (n : Nat) (ag : Bool) (v : AV) : Option AV := match s with
  | none => ldE n ag v
  | some k => loadSV lo (some k) n ag v
def stH (hp : List AO) (n : Nat) (v : AV) : AV → Option (List AO)
  | .ptr id o => match okv n v with
    | true => ((hcells hp id).bind (upd o v.cells)).map fun cs => hp.set id (.cells cs)
    | false => none
  | _ => none
def layV : List AV → List (Nat × Nat × AV) → Option (List AV)
  | cs, [] => some cs
  | cs, (o, n, v) :: r => (ifc (okv n v) (upd o v.cells cs)).bind fun cs => layV cs r
def bld (z : List AV) (ps : List (Nat × Nat × AV)) : Option AV := (layV z ps).map .agg
def bnX (d : Nat) : Option AV → Option Nat
  | none => some d
  | some v => bndV v
def mkA (hp : List AO) (z : List AV) : AV → Option (AV × List AO)
  | .int _ n => if 0 ≤ n ∧ n ≤ 4294967296 then some (.arr hp.length z.length 0 n.toNat, hp ++ [.cells ((List.replicate n.toNat z).flatten)]) else none
  | _ => none

/-- What an operation yields that writes nothing, in its place's terms. -/
def xv (h : Bool) (st : St) : AOp → Option AV
  | .mv x => some (x.ev st.tm)
  | .pick c a b => pickV (c.ev st.tm) (a.ev st.tm) (b.ev st.tm)
  | .build z ps => bld z (ps.map fun p => (p.1, p.2.1, p.2.2.ev st.tm))
  | .mkSl e [] => some (.sl .cap0 e [])
  | .mkSl e (p :: ps) => mkSlV e ((p :: ps).map (AR.ev st.tm ·))
  | .load n ag a => ldV h st.lo st.hp n ag (a.ev st.tm)
  | .loadS s n ag a => lsV s st.lo n ag (a.ev st.tm)
  | .fadd d a => faddV d (a.ev st.tm)
  | .ixa e x i => ixaV e (x.ev st.tm) (i.ev st.tm)
  | .ixs x i => ixsV (x.ev st.tm) (i.ev st.tm)
  | .bin op x y => abin op (x.ev st.tm) (y.ev st.tm)
  | .beq pr ne x y => beqW pr ne (x.ev st.tm) (y.ev st.tm)
  | .un op x => aun op (x.ev st.tm)
  | .conv k x => convV k (x.ev st.tm)
  | .len b x => lenV b (x.ev st.tm)
  | .slstr x lo hi => slstrV (x.ev st.tm) (bnX 0 (lo.map (AR.ev st.tm ·))) (bnX (lenN (x.ev st.tm)) (hi.map (AR.ev st.tm ·)))
  | .slsl e x lo hi => slslV e hi.isNone (x.ev st.tm) (bnX 0 (lo.map (AR.ev st.tm ·))) (bnX (lenN (x.ev st.tm)) (hi.map (AR.ev st.tm ·)))
  | .ext x i => extV i (x.ev st.tm)
  | .mkFn f caps => mkFnV f (caps.map (AR.ev st.tm ·))
  | .nilck x => nilckV (x.ev st.tm)
  | _ => none

/-- The address of a local box, known. -/
def faddL (d : Nat) (k : AV → Prop) : AV → Prop
  | .loc s o => k (.loc s (o + d))
  | _ => False
def nilckL (k : AV → Prop) : AV → Prop
  | .loc s o => k (.loc s o)
  | _ => False
def stL (st : St) (n : Nat) (v : AV) (K : Cont) : AV → Prop
  | .loc s o => ifT (okv n v) (bl (upd o v.cells (fnd [] st.lo s)) fun cs => K ⟨st.tm, ins s cs st.lo, st.hp⟩)
  | _ => False
def stSL (st : St) (k n : Nat) (v : AV) (K : Cont) : AV → Prop
  | .loc s o => ifT (k == s) (ifT (okv n v) (bl (upd o v.cells (fnd [] st.lo s)) fun cs => K ⟨st.tm, ins s cs st.lo, st.hp⟩))
  | _ => False
def putK (d : Option Nat) (K : Cont) (st : St) : AV → Prop := fun v => K ⟨putT st.tm d v, st.lo, st.hp⟩
def putH (d : Option Nat) (K : Cont) (st : St) : AV → List AO → Prop := fun v hp => K ⟨putT st.tm d v, st.lo, hp⟩
def alK (d : Option Nat) (cs : List AV) (K : Cont) (st : St) : Prop := match d with
  | some d => ifT (noLocs d st.tm) (K ⟨ins d (.loc d 0) st.tm, ins d cs st.lo, st.hp⟩)
  | none => False
def xstep (C : CallRel) (d : Option Nat) (h : Bool) (K : Cont) (Kp : AV → List AO → Prop) (st : St) : AOp → Prop
  | .mv x => K ⟨putT st.tm d (x.ev st.tm), st.lo, st.hp⟩
  | .alloc z => alK d z K st
  | .box x => ifT (x.ev st.tm).mem (alK d (x.ev st.tm).cells K st)
  | .allocH z => bn (.ptr st.hp.length 0) (st.hp ++ [.cells z]) (putH d K st)
  | .boxH x => ifT (x.ev st.tm).mem (bn (.ptr st.hp.length 0) (st.hp ++ [.cells (x.ev st.tm).cells]) (putH d K st))
  | .store n a x => match h with
    | true => bs (stH st.hp n (x.ev st.tm) (a.ev st.tm)) fun hp => K ⟨st.tm, st.lo, hp⟩
    | false => stL st n (x.ev st.tm) K (a.ev st.tm)
  | .storeL s n a x => stSL st s n (x.ev st.tm) K (a.ev st.tm)
  | .app m e s x => ba (apx m e st.hp (s.ev st.tm) (x.ev st.tm)) (putH d K st)
  | .cp e x y => ba (cpx e st.hp (y.ev st.tm) (x.ev st.tm)) (putH d K st)
  | .mkArr z n => ba (mkA st.hp z (n.ev st.tm)) (putH d K st)
  | .call f args => callK C f (args.map (AR.ev st.tm ·)) st.hp (rx Kp (putH d K st))
  | .callV f args => callVK C (args.map (AR.ev st.tm ·)) st.hp (rx Kp (putH d K st)) (f.ev st.tm)
  | .mkSl e [] => K ⟨putT st.tm d (.sl .cap0 e []), st.lo, st.hp⟩
  | .fadd n a => match h with
    | true => bv (faddV n (a.ev st.tm)) (putK d K st)
    | false => faddL n (putK d K st) (a.ev st.tm)
  | .nilck a => match h with
    | true => bv (nilckV (a.ev st.tm)) (putK d K st)
    | false => nilckL (putK d K st) (a.ev st.tm)
  | op => bv (xv h st op) (putK d K st)
def xgrd (C : CallRel) (x : Option Bool) (d : Option Nat) (h : Bool) (K : Cont) (Kp : AV → List AO → Prop) (st : St) : AOp → Prop
  | .call f args => gcal C x f (args.map (AR.ev st.tm ·)) st.hp Kp (putH d K st)
  | .callV f args => gcalV C x (f.ev st.tm) (args.map (AR.ev st.tm ·)) st.hp Kp (putH d K st)
  | op => bv (gv x (xv h st op)) (putK d K st)
def xop (C : CallRel) (h : Bool) (K : Cont) (Kp : AV → List AO → Prop) (st : St) : AOper → Prop
  | ⟨d, op, none⟩ => xstep C d h K Kp st op
  | ⟨d, op, some (g, w)⟩ => xgrd C (isB w (fnd .undef st.tm g)) d h K Kp st op
def hd : List Bool → Bool
  | [] => false
  | b :: _ => b
def tl' : List Bool → List Bool
  | [] => []
  | _ :: l => l
def xops (C : CallRel) : List AOper → List Bool → Cont → (AV → List AO → Prop) → Cont
  | [], _, K, _, st => K st
  | o :: r, hs, K, Kp, st => xop C (hd hs) (xops C r (tl' hs) K Kp) Kp st o
def nthB : List Bool → Nat → Bool
  | [], _ => false
  | b :: _, 0 => b
  | _ :: l, n + 1 => nthB l n
def xo1 (C : CallRel) (h : Bool) (K : Cont) (Kp : AV → List AO → Prop) (st : St) : Option AOper → Prop
  | none => K st
  | some o => xop C h K Kp st o
def xS (C : CallRel) (ops : List AOper) (hs : List Bool) (K : Cont) (Kp : AV → List AO → Prop) : Sch → Cont
  | .nil, st => K st
  | .op i r, st => xo1 C (nthB hs i) (xS C ops hs K Kp r) Kp st ops[i]?
  | .alt i r e, st => xo1 C (nthB hs i) (xS C ops hs K Kp r) Kp st ops[i]? ∧ xS C ops hs K Kp e st
def xwp (C : CallRel) : XC → APost → Cont
  | .skip, Q, st => Q .normal st
  | .reg live ops hs, Q, st => xops C ops hs (regK live Q) (panK Q) st
  | .any live ops sch hs, Q, st => ifT (locsFree st.tm ops) (xS C ops hs (regK live Q) (panK Q) sch st)
  | .seq a b, Q, st => xwp C a (seqQ (xwp C b Q) Q) st
  | .jn l a b, Q, st => xwp C a (seqQ (fun st => awp C b Q (st.keep l)) Q) st
  | .cond c a b, Q, st => cnd (c.ev st.tm) (xwp C a Q st) (xwp C b Q st)
  | .block id a, Q, st => xwp C a (blockQ id Q) st
  | .loop l b, Q, st => awp C (.loop l b) Q (st.keep l)
  | .exit id, Q, st => Q (.exit id) st
  | .ret, Q, st => Q .ret st
  | .dead, _, _ => False

/-! it says what the other form says -/
section
variable {C : CallRel} {K : Cont} {Kp : AV → List AO → Prop} {st : St} {d : Option Nat} {h : Bool}
theorem bv_iff {x : Option AV} {k : AV → Prop} : bv x k ↔ ∃ v, x = some v ∧ k v := by cases x <;> simp [bv]
theorem ba_iff {x : Option (AV × List AO)} {k : AV → List AO → Prop} : ba x k ↔ ∃ v hp, x = some (v, hp) ∧ k v hp := by
  cases x with
  | none => simp [ba]
  | some p =>
    obtain ⟨v, hp⟩ := p
    exact ⟨fun h => ⟨v, hp, rfl, h⟩, fun ⟨_, _, e, h⟩ => by cases e; exact h⟩
theorem bs_iff {x : Option (List AO)} {k : List AO → Prop} : bs x k ↔ ∃ v, x = some v ∧ k v := by cases x <;> simp [bs]
theorem bl_iff {x : Option (List AV)} {k : List AV → Prop} : bl x k ↔ ∃ v, x = some v ∧ k v := by cases x <;> simp [bl]
theorem ifT_iff {b : Bool} {p : Prop} : ifT b p ↔ b = true ∧ p := by cases b <;> simp [ifT]
theorem lay_eq {tm} : ∀ {ps : List (Nat × Nat × AR)} {cs}, lay tm cs ps = layV cs (ps.map fun p => (p.1, p.2.1, p.2.2.ev tm))
  | [], _ => rfl
  | (o, n, x) :: r, cs => by
    simp only [lay, layV, List.map_cons]
    cases ifc (okv n (x.ev tm)) (upd o (x.ev tm).cells cs) with
    | none => rfl
    | some cs => simp only [Option.bind_some]; exact lay_eq
theorem bnX_eq {tm e} {x : Option AR} : bnd tm e x = bnX e (x.map (AR.ev tm ·)) := by
  cases x with
  | none => rfl
  | some x => exact bnd_some
theorem ldV_load {lo hp n ag v r} (e : ldV h lo hp n ag v = some r) : loadV lo hp n ag v = some r := by
  cases h <;> cases v <;> first | exact e | cases e
theorem lsV_load {s lo n ag v r} (e : lsV s lo n ag v = some r) : loadSV lo s n ag v = some r := by
  cases s <;> cases v <;> first | exact e | cases e
theorem xv_pv {op : AOp} {r : AV} (e : xv h st op = some r) : pv st.tm st.lo st.hp op = some r := by
  cases op <;> first | exact e | cases e | skip
  case build z ps => simp only [xv, bld] at e; simp only [pv, lay_eq]; exact e
  case mkSl e' l => cases l <;> exact e
  case load n ag a => exact ldV_load e
  case loadS s n ag a => exact lsV_load e
  case slstr x lo hi => simp only [xv] at e; simp only [pv, bnX_eq]; exact e
  case slsl e' x lo hi => simp only [xv] at e; simp only [pv, bnX_eq]; exact e
theorem xv_step {op : AOp} {r : AV} (e : xv h st op = some r) (hk : K ⟨putT st.tm d r, st.lo, st.hp⟩) : astep C d K Kp st op := by
  have hp := xv_pv e
  have key : bindT ((pv st.tm st.lo st.hp op).map (st.put d)) K := by rw [hp]; exact hk
  cases op <;> first | exact key | cases hp
theorem rx_retK : ∀ r hp, rx Kp (putH d K st) r hp → retK d st K Kp r hp
  | .ret _, _, h => h
  | .pan _, _, h => h
theorem alK_bind {cs : List AV} (e : alK d cs K st) : bindT (boxL st d cs) K := by
  cases d with
  | none => exact e.elim
  | some d =>
    simp only [alK, ifT_iff] at e
    rw [boxL_some, e.1, boxLd_true]
    exact e.2
theorem xstep_sound (hC : CMono C) {op : AOp} (e : xstep C d h K Kp st op) : astep C d K Kp st op := by
  have plain : ∀ op, bv (xv h st op) (putK d K st) → astep C d K Kp st op := fun op e => by
    obtain ⟨v, h1, h2⟩ := bv_iff.1 e
    exact xv_step h1 h2
  have tra : ∀ {x : Option (AV × List AO)}, ba x (putH d K st) → bindT (x.map fun r => ⟨putT st.tm d r.1, st.lo, r.2⟩) K := fun {x} e => by
    obtain ⟨v, hp, rfl, h2⟩ := ba_iff.1 e
    exact h2
  cases op <;> first | exact plain _ e | exact e | skip
  case alloc z => rw [astep_alloc]; exact alK_bind e
  case box x =>
    simp only [xstep, ifT_iff] at e
    rw [astep_box, e.1, ifv_true]
    exact alK_bind e.2
  case boxH x =>
    simp only [xstep, ifT_iff] at e
    rw [astep_boxH, e.1, ifv_true]
    exact e.2
  case mkSl e' l =>
    cases l with
    | nil => exact e
    | cons p ps => exact plain _ e
  case store n a x =>
    rw [astep_store]
    cases h with
    | true =>
      obtain ⟨hp, h1, h2⟩ := bs_iff.1 e
      cases hv : a.ev st.tm with
      | ptr id o =>
        rw [hv] at h1
        simp only [stH] at h1
        cases hk : okv n (x.ev st.tm) with
        | false => rw [hk] at h1; cases h1
        | true =>
          rw [hk] at h1
          simp only [Option.map_eq_some_iff] at h1
          obtain ⟨cs, h3, rfl⟩ := h1
          rw [storeV_ptr, hk, h3, storeP_true]
          exact h2
      | _ => rw [hv] at h1; cases h1
    | false =>
      simp only [xstep] at e
      cases hv : a.ev st.tm with
      | loc s o =>
        rw [hv] at e
        simp only [stL, ifT_iff, bl_iff] at e
        obtain ⟨h1, cs, h2, h3⟩ := e
        rw [storeV_loc, h1, h2, storeL_true]
        exact h3
      | _ => rw [hv] at e; exact e.elim
  case storeL k n a x =>
    rw [astep_storeL]
    simp only [xstep] at e
    cases hv : a.ev st.tm with
    | loc s o =>
      rw [hv] at e
      simp only [stSL, ifT_iff, bl_iff] at e
      obtain ⟨h0, h1, cs, h2, h3⟩ := e
      rw [storeSV_loc, h0, sel_true, h1, h2, storeL_true]
      exact h3
    | _ => rw [hv] at e; exact e.elim
  case app m e' s x => rw [astep_app]; exact tra e
  case cp e' x y => rw [astep_cp]; exact tra e
  case mkArr z n =>
    rw [astep_mkArr]
    obtain ⟨v, hp, h1, h2⟩ := ba_iff.1 e
    cases hv : n.ev st.tm with
    | int k m =>
      rw [hv] at h1
      simp only [mkA] at h1
      simp only [mkArrV]
      split at h1
      · rename_i hm
        cases h1
        rw [if_pos hm]
        exact h2
      · cases h1
    | _ => rw [hv] at h1; cases h1
  case fadd n a =>
    cases h with
    | true =>
      obtain ⟨v, h1, h2⟩ := bv_iff.1 e
      rw [astep_fadd, h1]; exact h2
    | false =>
      rw [astep_fadd]
      simp only [xstep] at e
      cases hv : a.ev st.tm with
      | loc s o => rw [hv] at e; exact e
      | _ => rw [hv] at e; exact e.elim
  case nilck a =>
    cases h with
    | true =>
      obtain ⟨v, h1, h2⟩ := bv_iff.1 e
      rw [astep_nilck, h1]; exact h2
    | false =>
      rw [astep_nilck]
      simp only [xstep] at e
      cases hv : a.ev st.tm with
      | loc s o => rw [hv] at e; exact e
      | _ => rw [hv] at e; exact e.elim
theorem xop_sound (hC : CMono C) {o : AOper} (e : xop C h K Kp st o) : awpOps C [o] K Kp st := by
  obtain ⟨d, op, g⟩ := o
  cases g with
  | none => exact xstep_sound hC e
  | some p =>
    obtain ⟨g, w⟩ := p
    rw [awpOps_guard]
    simp only [xop] at e
    have plain : ∀ op, bv (gv (isB w (fnd .undef st.tm g)) (xv h st op)) (putK d K st) → guardK (isB w (fnd .undef st.tm g)) (astepK C d op (awpOps C [] K Kp) Kp) (skipK d (awpOps C [] K Kp)) st := fun op e => by
      obtain ⟨v, h1, h2⟩ := bv_iff.1 e
      cases hb : isB w (fnd .undef st.tm g) with
      | none => rw [hb] at h1; cases h1
      | some b =>
        rw [hb] at h1
        cases b with
        | true => exact xv_step (K := K) h1 h2
        | false => simp only [gv, Option.some.injEq] at h1; subst h1; exact h2
    cases op <;> first | exact plain _ e | skip
    case call f args =>
      simp only [xgrd] at e
      cases hb : isB w (fnd .undef st.tm g) with
      | none => rw [hb] at e; exact e.elim
      | some b =>
        rw [hb] at e
        cases b with
        | true => exact callK_mono hC e rx_retK
        | false => exact e
    case callV f args =>
      simp only [xgrd] at e
      cases hb : isB w (fnd .undef st.tm g) with
      | none => rw [hb] at e; exact e.elim
      | some b =>
        rw [hb] at e
        cases b with
        | true => exact callVK_mono hC rx_retK e
        | false => exact e
theorem xops_sound (hC : CMono C) {K : Cont} {Kp : AV → List AO → Prop} : ∀ (ops : List AOper) (hs : List Bool) {st}, xops C ops hs K Kp st → awpOps C ops K Kp st
  | [], _, _, e => e
  | o :: r, hs, st, e => by
    rw [awpOps_one]
    exact awpOps_mono hC [o] (xop_sound hC e) (fun st e => xops_sound hC r (tl' hs) e) (fun _ _ h => h)
theorem xo1_sound (hC : CMono C) {K K' : Cont} {Kp : AV → List AO → Prop} {st} {o : Option AOper} (hK : ∀ st, K st → K' st) (e : xo1 C h K Kp st o) : awp1 C K' Kp st o := by
  cases o with
  | none => exact hK _ e
  | some o => exact awpOps_mono hC [o] (xop_sound hC e) hK (fun _ _ h => h)
theorem xS_sound (hC : CMono C) {ops : List AOper} {hs : List Bool} {K : Cont} {Kp : AV → List AO → Prop} : ∀ (s : Sch) {st}, xS C ops hs K Kp s st → awpS C ops K Kp s st
  | .nil, _, e => e
  | .op i r, st, e => xo1_sound hC (fun _ e => xS_sound hC r e) e
  | .alt i r t, st, e => ⟨xo1_sound hC (fun _ e => xS_sound hC r e) e.1, xS_sound hC t e.2⟩
theorem keepL_keep {α : Type} (l : List Nat) : ∀ (m : List (Nat × α)), keep l (keep l m) = keep l m
  | [] => rfl
  | (k, v) :: m => by
    rw [keep_cons]
    cases hh : hasN l k with
    | true => rw [sel_true, keep_cons, hh, sel_true, keepL_keep l m]
    | false => rw [sel_false, keepL_keep l m]
theorem keep_keep (l : List Nat) (st : St) : (st.keep l).keep l = st.keep l := by
  simp only [St.keep, keepL_keep]
theorem awp_loop_keep {l : List Nat} {b : ACode} {Q : APost} {st : St} (e : awp C (.loop l b) Q (st.keep l)) : awp C (.loop l b) Q st := fun I hI => by
  have := e I hI
  rw [keep_keep] at this
  exact this
theorem xwp_sound (hC : CMono C) : ∀ (x : XC) {Q : APost} {st}, xwp C x Q st → awp C x.code Q st
  | .skip, _, _, e => e
  | .reg live ops hs, _, _, e => xops_sound hC ops hs e
  | .any live ops sch hs, _, _, e => ⟨(ifT_iff.1 e).1, xS_sound hC sch (ifT_iff.1 e).2⟩
  | .seq a b, Q, st, e => awp_mono hC a.code (xwp_sound hC a e) (seqQ_mono (fun _ e => xwp_sound hC b e) (fun _ _ h => h))
  | .jn l a b, Q, st, e => awp_mono hC a.code (xwp_sound hC a e) (fun _ _ h => h)
  | .cond c a b, Q, st, e => by
    simp only [xwp] at e
    show condK _ _ st (c.ev st.tm)
    cases hv : c.ev st.tm with
    | bool t => rw [hv] at e; exact ⟨fun h => xwp_sound hC a (e.1 h), fun h => xwp_sound hC b (e.2 h)⟩
    | _ => rw [hv] at e; exact e.elim
  | .block id a, Q, st, e => xwp_sound hC a e
  | .loop l b, Q, st, e => awp_loop_keep e
  | .exit id, _, _, e => e
  | .ret, _, _, e => e
  | .dead, _, _, e => e.elim
end
/-- A cut's formula, taken for its code. -/
theorem cut_in {C : CallRel} (hC : CMono C) {x : XC} {Q : APost} {st : St} {p : Prop} (e : p = xwp C x Q st) (h : p) : awp C x.code Q st := xwp_sound hC x (e ▸ h)
theorem cut_loop {C : CallRel} (hC : CMono C) {x : XC} {l : List Nat} {Q : APost} {st : St} {p : Prop} (e : p = xwp C x (seqQ (awp C (.loop l x.code) Q) Q) (st.keep l)) (h : p) : awp C (.loop l x.code) Q st := awp_loop_round hC (cut_in hC e h)
end Go.Proofs.Ytnldohnfdeineaa.Abs
/- The calls that may forget what a slice's token says; sound; an abstract run at one input counts. -/
namespace Go.Proofs.Ytnldohnfdeineaa.Abs
open Go

mutual
/-- The same value, with tokens forgotten. -/
inductive Wk : AV → AV → Prop
  | refl {v} : Wk v v
  | sl {t t' e xs ys} (ht : t' = t ∨ t' = .no) (h : Wks xs ys) : Wk (.sl t e xs) (.sl t' e ys)
  | agg {xs ys} (h : Wks xs ys) : Wk (.agg xs) (.agg ys)
  | tup {xs ys} (h : Wks xs ys) : Wk (.tup xs) (.tup ys)
inductive Wks : List AV → List AV → Prop
  | nil : Wks [] []
  | cons {x y xs ys} (h : Wk x y) (hs : Wks xs ys) : Wks (x :: xs) (y :: ys)
end
theorem Wks.refl : ∀ {l : List AV}, Wks l l
  | [] => .nil
  | _ :: _ => .cons .refl Wks.refl
theorem Wks.length : ∀ {xs ys : List AV}, Wks xs ys → xs.length = ys.length
  | _, _, .nil => rfl
  | _, _, .cons _ hs => congrArg (· + 1) hs.length
theorem Wks.get : ∀ {xs ys : List AV}, Wks xs ys → ∀ {i : Nat} {y : AV}, ys[i]? = some y → ∃ x, xs[i]? = some x ∧ Wk x y
  | _, _, .nil, _, _, h => by simp at h
  | _, _, .cons (x := x) h0 hs, i, y, h => by
    cases i with
    | zero => simp at h; subst h; exact ⟨x, rfl, h0⟩
    | succ i => simp at h; simpa using hs.get h
theorem Wk.cells : ∀ {x y : AV}, Wk x y → Wks x.cells y.cells
  | _, _, .refl => Wks.refl
  | _, _, .sl ht h => .cons (.sl ht h) .nil
  | _, _, .agg h => h
  | _, _, .tup h => .cons (.tup h) .nil
theorem Wks.map {α : Type} {f g : α → AV} {l : List α} (h : ∀ x ∈ l, Wk (f x) (g x)) : Wks (l.map f) (l.map g) := by
  induction l with
  | nil => exact .nil
  | cons x l ih => exact .cons (h x List.mem_cons_self) (ih fun y hy => h y (List.mem_cons_of_mem _ hy))
theorem rv_weak {E : Env} {v : AV} {x : Value} (h : RV E v x) : ∀ {v' : AV}, Wk v v' → RV E v' x := by
  induction h with
  | int => intro v' hw; cases hw; exact .int
  | bool => intro v' hw; cases hw; exact .bool
  | str h => intro v' hw; cases hw; exact .str h
  | nilp => intro v' hw; cases hw; exact .nilp
  | nil h =>
    intro v' hw
    cases hw with
    | refl => exact .nil h
    | sl ht hs =>
      cases hs
      rcases ht with rfl | rfl
      · exact .nil h
      · exact .nil (fun _ e => by cases e)
  | sl cv hlen hcap hsz hcell hone hrel hst ht ih =>
    intro v' hw
    cases hw with
    | refl => exact .sl cv hlen hcap hsz hcell hone hrel hst ht
    | @sl _ t' _ _ ys htt hs =>
      have hl := hs.length
      rw [hl]
      refine .sl cv (hl ▸ hlen) hcap (fun y hy => ?_) (hl ▸ hcell) (hl ▸ hone) (fun i y j c hi hj => ?_) (hl ▸ hst) ?_
      · obtain ⟨i, hi⟩ := List.getElem?_of_mem hy
        obtain ⟨x, hx, hw⟩ := hs.get hi
        rw [← hw.cells.length]
        exact hsz x (List.mem_of_getElem? hx)
      · obtain ⟨x, hx, hw⟩ := hs.get hi
        obtain ⟨d, hd, hw2⟩ := hw.cells.get hj
        exact ih i x j d hx hd hw2
      · rcases htt with rfl | rfl
        · exact hl ▸ ht
        · exact trivial
  | arr h1 h2 h3 h4 => intro v' hw; cases hw; exact .arr h1 h2 h3 h4
  | ptr h1 => intro v' hw; cases hw; exact .ptr h1
  | agg hl h1 h ih =>
    intro v' hw
    cases hw with
    | refl => exact .agg hl h1 h
    | agg hs =>
      refine .agg (by rw [hl, hs.length]) h1 fun j y v hy hv => ?_
      obtain ⟨x, hx, hw⟩ := hs.get hy
      exact ih j x v hx hv hw
  | tup hl h ih =>
    intro v' hw
    cases hw with
    | refl => exact .tup hl h
    | tup hs =>
      refine .tup (by rw [hl, hs.length]) fun j y v hy hv => ?_
      obtain ⟨x, hx, hw⟩ := hs.get hy
      exact ih j x v hx hv hw
  | fn hl h ih => intro v' hw; cases hw; exact .fn hl h
  | undef h => intro v' hw; cases hw; exact .undef h

/-- What a result says once tokens may be forgotten. -/
def WkQ (Q : ARes → List AO → Prop) : ARes → List AO → Prop
  | .ret v, hp => ∃ v', Wk v v' ∧ Q (.ret v') hp
  | .pan v, hp => ∃ v', Wk v v' ∧ Q (.pan v') hp
theorem WkQ.intro {Q : ARes → List AO → Prop} : ∀ {r hp}, Q r hp → WkQ Q r hp
  | .ret v, _, h => ⟨v, .refl, h⟩
  | .pan v, _, h => ⟨v, .refl, h⟩
/-- The least relation that the bodies shut, and forgetting. -/
def Runs (T : FuncId → Option AFunc) : CallRel := fun f args hp Q =>
  ∀ X : CallRel, (∀ f af args hp Q, T f = some af → awp X af.body (resQ af.res Q) ⟨enum 0 args, [], hp⟩ → X f args hp Q) →
    (∀ f args args' hp (Q Q' : ARes → List AO → Prop), X f args' hp Q' → Wks args args' → (∀ r hp, Q' r hp → WkQ Q r hp) → X f args hp Q) → X f args hp Q
section
variable {T : FuncId → Option AFunc}
theorem Runs.weak {f args args' hp} {Q Q' : ARes → List AO → Prop} (h : Runs T f args' hp Q') (ha : Wks args args') (hq : ∀ r hp, Q' r hp → WkQ Q r hp) : Runs T f args hp Q :=
  fun X h1 h2 => h2 _ _ _ _ _ _ (h X h1 h2) ha hq
theorem Runs.mono : CMono (Runs T) := fun _ _ _ _ _ h hq => h.weak Wks.refl (fun r hp hr => (hq r hp hr) |> WkQ.intro)
theorem Runs.intro {f af args hp} {Q : ARes → List AO → Prop} (hT : T f = some af) (h : awp (Runs T) af.body (resQ af.res Q) ⟨enum 0 args, [], hp⟩) : Runs T f args hp Q :=
  fun X h1 h2 => h1 f af args hp Q hT (awp_mono (C := Runs T) (C' := X) (fun _ _ _ _ _ h hq => (Runs.mono _ _ _ _ _ h hq) X h1 h2) af.body h (fun _ _ h => h))
theorem Runs.of_run {f args hp} {Q : ARes → List AO → Prop} (h : ACalls T (fun _ _ _ _ => False) f args hp Q) : Runs T f args hp Q :=
  h (Runs T) (fun _ _ _ _ _ hT h => Runs.intro hT h) (fun _ _ _ _ h => h.elim)
theorem Runs.of_test {n f args hp} {q : ARes → List AO → Bool} (h : callB T n f args hp q = true) : Runs T f args hp fun r hp => q r hp = true :=
  Runs.of_run (callB_sound (fun _ _ _ _ _ h _ => h.elim) n _ _ _ _ h)
variable {P : Program} {TT : List (Nat × TI)}
theorem sim_weak {f args args' hp} {Q Q' : ARes → List AO → Prop} (h : Sim P f args' hp Q') (ha : Wks args args') (hq : ∀ r hp, Q' r hp → WkQ Q r hp) : Sim P f args hp Q := by
  refine ⟨h.1, fun E vals h1 h2 h3 => (h.2 E vals h1 h2 ⟨by rw [h3.1, ha.length], fun j y v hy hv => ?_⟩).mono ?_⟩
  · obtain ⟨x, hx, hw⟩ := ha.get hy
    exact rv_weak (h3.2 j x v hx hv) hw
  · rintro e w' ⟨E', g1, g2, g3, g4, g5⟩
    refine ⟨E', g1, g2, g3, g4, ?_⟩
    rcases g5 with ⟨v, x, r1, r2, r3⟩ | ⟨v, x, r1, r2, r3⟩
    · obtain ⟨v', hw, h⟩ := hq _ _ r3
      exact .inl ⟨v', x, r1, rv_weak r2 hw, h⟩
    · obtain ⟨v', hw, h⟩ := hq _ _ r3
      exact .inr ⟨v', x, r1, rv_weak r2 hw, h⟩
theorem runs_sound (hm : P.follows .mixedOrders = true) (hT : ttOk P TT = true) (hF : ∀ f af, T f = some af → ∃ fn, P.funcs[f]? = some fn ∧ okFunc TT anyOk af fn = true)
    {f args hp} {Q : ARes → List AO → Prop} (h : Runs T f args hp Q) : Sim P f args hp Q := by
  refine h (Sim P) (fun f af args hp Q hf hw => ?_) (fun _ _ _ _ _ _ h ha hq => sim_weak h ha hq)
  obtain ⟨fn, h1, h2⟩ := hF f af hf
  exact func_sound hT (any_sound hm hT) h1 h2 hw
end
/-- A function's contract out of its formula. -/
theorem Runs.body {T : FuncId → Option AFunc} {f af args hp} {Q : ARes → List AO → Prop} (hT : T f = some af) (h : CMono (Runs T) → awp (Runs T) af.body (resQ af.res Q) ⟨enum 0 args, [], hp⟩) : Runs T f args hp Q := Runs.intro hT (h Runs.mono)
end Go.Proofs.Ytnldohnfdeineaa.Abs
/- Code for the abstract machine, printed by a program out of the loaded functions. -/
namespace Go.Proofs.Ytnldohnfdeineaa.Abs
open Go
set_option maxRecDepth 100000
/-! ### 9 rewind/rewindlaw09.LeanFalls -/
def r9_0 : List AOper := [o1 2 (.mv (.c (.bool false)))]
def r9_1 : List AOper := [o1 8 (.call 21 []),
 o1 9 (.un .not (.t 8))]
def r9_2 : List AOper := [o1 2 (.mv (.c (.bool false)))]
def r9_3 : List AOper := [o1 11 (.mv (.t 0)),
 o1 12 (.call 15 [.t 11]),
 o1 10 (.mv (.t 12)),
 o1 13 (.ext (.t 10) 0),
 o1 14 (.ext (.t 10) 1),
 o1 3 (.alloc [.sl .cap0 9 [], .sl .cap0 9 [], .sl .cap0 6 []]),
 o0 (.store 3 (.t 3) (.t 13)),
 o1 4 (.mv (.t 14))]
def r9_4 : List AOper := [o1 15 (.mv (.t 4)),
 o1 16 (.un .not (.t 15))]
def r9_5 : List AOper := [o1 2 (.mv (.c (.bool true)))]
def r9_6 : List AOper := [o1 17 (.load 3 true (.t 3)),
 o1 18 (.call 22 [.t 17]),
 o1 5 (.mv (.t 18))]
def r9_7 : List AOper := [o1 19 (.mv (.t 5)),
 o1 20 (.len false (.t 19)),
 o1 21 (.fadd 1 (.t 3)),
 o1 22 (.load 1 false (.t 21)),
 o1 23 (.len false (.t 22)),
 o1 24 (.bin .neq (.t 20) (.t 23))]
def r9_8 : List AOper := [o1 2 (.mv (.c (.bool false)))]
def r9_9 : List AOper := [o1 25 (.load 3 true (.t 3)),
 o1 26 (.call 23 [.t 25]),
 o1 6 (.mv (.t 26))]
def r9_16 : List AOper := [o1 2 (.mv (.c (.bool true)))]
def x9_2 : XC := (.seq (.reg [2] r9_16 []) .ret)
def j9_2 : ACode := x9_2.code
def r9_10 : List AOper := [o1 27 (.mv (.t 5)),
 o1 28 (.len false (.t 27)),
 o1 29 (.mv (.c (.int .i64 0)))]
def r9_11 : List AOper := [o1 30 (.bin .lss (.t 29) (.t 28))]
def r9_12 : List AOper := [o1 31 (.mv (.t 29)),
 o1 7 (.mv (.t 31))]
def r9_13 : List AOper := [o1 32 (.mv (.t 5)),
 o1 33 (.mv (.t 7)),
 o1 34 (.ixa 1 (.t 32) (.t 33)),
 o1 35 (.load 1 false (.t 34)),
 o1 36 (.loadS (some 3) 3 true (.t 3)),
 o1 37 (.mv (.t 6)),
 o1 38 (.mv (.t 7)),
 o1 39 (.call 24 [.t 36, .t 37, .t 38]),
 o1 40 (.bin .neq (.t 35) (.t 39))]
def o9_13 : Sch := .op 0 (.op 1 (.op 2 (.op 4 (.op 5 (.op 6 (.alt 3 (.op 7 <| .op 8 <| .nil) (.op 7 <| .op 3 <| .op 8 <| .nil)))))))
def r9_14 : List AOper := [o1 2 (.mv (.c (.bool false)))]
def r9_15 : List AOper := [o1 41 (.bin .add (.t 29) (.c (.int .i64 1))),
 o1 29 (.mv (.t 41))]
def x9_1 : XC := (.seq (.reg [3, 5, 6, 28, 29, 30] r9_11 []) (.seq (.cond (.t 30) .skip (.exit 0)) (.seq (.block 1 (.seq (.reg [3, 5, 6, 7, 28, 29] r9_12 []) (.seq (.any [3, 5, 6, 28, 29, 40] r9_13 o9_13 [false, false, false, true]) (.cond (.t 40) (.seq (.reg [2] r9_14 []) .ret) .skip)))) (.reg [3, 5, 6, 28, 29] r9_15 []))))
def j9_1 : ACode := x9_1.code
def x9_0 : XC := (.seq (.reg [0] r9_0 []) (.seq (.seq (.reg [0, 9] r9_1 []) (.cond (.t 9) (.seq (.reg [2] r9_2 []) .ret) .skip)) (.seq (.reg [3, 4] r9_3 []) (.seq (.seq (.reg [3, 16] r9_4 []) (.cond (.t 16) (.seq (.reg [2] r9_5 []) .ret) .skip)) (.seq (.reg [3, 5] r9_6 []) (.seq (.seq (.reg [3, 5, 24] r9_7 []) (.cond (.t 24) (.seq (.reg [2] r9_8 []) .ret) .skip)) (.seq (.reg [3, 5, 6] r9_9 []) (.jn [] (.seq (.reg [3, 5, 6, 28, 29] r9_10 []) (.block 0 (.loop [3, 5, 6, 28, 29] j9_1))) j9_2))))))))
def a9 : AFunc := ⟨[.tmp 2], x9_0.code⟩
/-! ### 12 rewind/fence.Next -/
def r12_0 : List AOper := [o1 1 (.box (.t 0)),
 o1 2 (.mv (.c (.sl .cap0 1 [])))]
def r12_1 : List AOper := [o1 5 (.loadS (some 1) 2 true (.t 1)),
 o1 6 (.mkSl 1 [(.c (.int .i64 (-2)))]),
 o1 7 (.fadd 1 (.t 1)),
 o1 8 (.loadS (some 1) 1 false (.t 7)),
 o1 9 (.len false (.t 8)),
 o1 10 (.call 27 [.t 6, .t 9]),
 o1 11 (.fadd 1 (.t 1)),
 o1 12 (.loadS (some 1) 1 false (.t 11)),
 o1 13 (.len false (.t 12)),
 o1 14 (.mkArr [.int .i64 0] (.t 13)),
 o1 15 (.build [.sl .cap0 1 [], .sl .cap0 1 [], .sl .cap0 1 [], .sl .cap0 1 []] [(0, 2, (.t 5)), (2, 1, (.t 10)), (3, 1, (.t 14))]),
 o1 16 (.boxH (.t 15)),
 o1 3 (.mv (.t 16))]
def o12_1 : Sch := .op 0 (.op 1 (.op 2 (.op 3 (.op 4 (.op 6 (.op 7 (.op 8 (.alt 5 (.op 9 <| .op 10 <| .op 11 <| .op 12 <| .nil) (.op 9 <| .op 5 <| .op 10 <| .op 11 <| .op 12 <| .nil)))))))))
def r12_2 : List AOper := [o1 17 (.mv (.t 3)),
 o1 18 (.call 28 [.t 17]),
 o1 4 (.mv (.t 18))]
def r12_4 : List AOper := [o1 22 (.mv (.t 3)),
 o1 23 (.nilck (.t 22)),
 o1 24 (.fadd 2 (.t 23)),
 o1 25 (.load 1 false (.t 24)),
 o1 2 (.mv (.t 25))]
def x12_2 : XC := (.seq (.reg [2] r12_4 [false, true, true, true]) .ret)
def j12_2 : ACode := x12_2.code
def r12_3 : List AOper := [o1 19 (.mv (.t 3)),
 o1 20 (.mv (.t 4)),
 o1 21 (.call 29 [.t 19, .t 20])]
def x12_1 : XC := (.seq (.seq (.reg [3, 4, 21] r12_3 []) (.cond (.t 21) .skip (.exit 0))) (.block 1 .skip))
def j12_1 : ACode := x12_1.code
def x12_0 : XC := (.seq (.reg [1] r12_0 []) (.seq (.any [3] r12_1 o12_1 []) (.seq (.reg [3, 4] r12_2 []) (.jn [3] (.block 0 (.loop [3, 4] j12_1)) j12_2))))
def a12 : AFunc := ⟨[.tmp 2], x12_0.code⟩
/-! ### 15 rewind/rewindlaw07.Right -/
def r15_0 : List AOper := [o1 2 (.alloc [.sl .cap0 9 [], .sl .cap0 9 [], .sl .cap0 6 []]),
 o1 3 (.mv (.c (.bool false)))]
def r15_1 : List AOper := [o1 10 (.mv (.t 0)),
 o1 11 (.len true (.t 10)),
 o1 12 (.bin .gtr (.t 11) (.c (.int .i64 800)))]
def r15_2 : List AOper := [o1 13 (.build [.sl .cap0 9 [], .sl .cap0 9 [], .sl .cap0 6 []] []),
 o0 (.store 3 (.t 2) (.t 13)),
 o1 3 (.mv (.c (.bool false)))]
def r15_3 : List AOper := [o1 15 (.mv (.t 0)),
 o1 16 (.call 31 [.t 15]),
 o1 14 (.mv (.t 16)),
 o1 17 (.ext (.t 14) 0),
 o1 18 (.ext (.t 14) 1),
 o1 19 (.ext (.t 14) 2),
 o1 4 (.alloc [.sl .cap0 9 [], .sl .cap0 9 [], .sl .cap0 6 []]),
 o0 (.store 3 (.t 4) (.t 17)),
 o1 5 (.mv (.t 18)),
 o1 6 (.mv (.t 19))]
def r15_4 : List AOper := [o1 20 (.mv (.t 6)),
 o1 21 (.bin .neq (.t 20) (.c (.int .i64 0)))]
def r15_5 : List AOper := [o1 22 (.build [.sl .cap0 9 [], .sl .cap0 9 [], .sl .cap0 6 []] []),
 o0 (.store 3 (.t 2) (.t 22)),
 o1 3 (.mv (.c (.bool false)))]
def r15_6 : List AOper := [o1 24 (.load 3 true (.t 4)),
 o1 25 (.call 32 [.t 24]),
 o1 23 (.mv (.t 25)),
 o1 26 (.ext (.t 23) 0),
 o1 27 (.ext (.t 23) 1),
 o1 28 (.ext (.t 23) 2),
 o1 7 (.alloc [.sl .cap0 1 [], .sl .cap0 1 [], .sl .cap0 1 [], .sl .cap0 1 [], .sl .cap0 1 []]),
 o0 (.store 5 (.t 7) (.t 26)),
 o1 8 (.mv (.t 27)),
 o1 9 (.mv (.t 28))]
def r15_7 : List AOper := [o1 29 (.load 3 true (.t 4)),
 o1 30 (.mv (.t 9)),
 o1 31 (.bin .eql (.t 30) (.c (.int .i64 0))),
 o0 (.store 3 (.t 2) (.t 29)),
 o1 3 (.mv (.t 31))]
def x15_0 : XC := (.seq (.reg [0, 2] r15_0 []) (.seq (.seq (.reg [0, 2, 12] r15_1 []) (.cond (.t 12) (.seq (.reg [2, 3] r15_2 []) .ret) .skip)) (.seq (.reg [2, 4, 6] r15_3 []) (.seq (.seq (.reg [2, 4, 21] r15_4 []) (.cond (.t 21) (.seq (.reg [2, 3] r15_5 []) .ret) .skip)) (.seq (.reg [2, 4, 9] r15_6 []) (.seq (.reg [2, 3] r15_7 []) .ret))))))
def a15 : AFunc := ⟨[.cell 2 3 true, .tmp 3], x15_0.code⟩
/-! ### 21 rewind/rewindlaw09.awake -/
def r21_0 : List AOper := [o1 0 (.mv (.c (.bool false)))]
def r21_1 : List AOper := [o1 5 (.call 15 [(.c (.str [102, 117, 110, 99, 32, 109, 97, 105, 110, 40, 41, 32, 123, 32, 119, 104, 105, 108, 101, 32, 116, 114, 117, 101, 32, 123, 32, 112, 114, 105, 110, 116, 32, 49, 59, 32, 125, 32, 125]))]),
 o1 4 (.mv (.t 5)),
 o1 6 (.ext (.t 4) 0),
 o1 7 (.ext (.t 4) 1),
 o1 1 (.alloc [.sl .cap0 9 [], .sl .cap0 9 [], .sl .cap0 6 []]),
 o0 (.store 3 (.t 1) (.t 6)),
 o1 2 (.mv (.t 7))]
def r21_2 : List AOper := [o1 8 (.loadS (some 1) 3 true (.t 1)),
 o1 9 (.call 25 [.t 8]),
 o1 10 (.loadS (some 1) 3 true (.t 1)),
 o1 11 (.call 26 [.t 10]),
 o1 12 (.build [.sl .cap0 1 [], .sl .cap0 1 []] [(0, 1, (.t 9)), (1, 1, (.t 11))]),
 o1 13 (.call 34 [.t 12]),
 o1 3 (.mv (.t 13))]
def o21_2 : Sch := .op 0 <| .op 2 <| .op 1 <| .op 3 <| .op 4 <| .op 5 <| .op 6 <| .nil
def r21_3 : List AOper := [o1 14 (.mv (.t 2)),
 o1 15 (.mv (.t 14)),
 ⟨(some 16), .mv (.t 3), some (15, true)⟩,
 ⟨(some 17), .len false (.t 16), some (15, true)⟩,
 ⟨(some 18), .bin .eql (.t 17) (.c (.int .i64 2)), some (15, true)⟩,
 o1 19 (.pick (.t 15) (.t 18) (.c (.bool false))),
 o1 20 (.mv (.t 19)),
 ⟨(some 21), .mv (.t 3), some (20, true)⟩,
 ⟨(some 22), .ixa 1 (.t 21) (.c (.int .i64 0)), some (20, true)⟩,
 ⟨(some 23), .load 1 false (.t 22), some (20, true)⟩,
 ⟨(some 24), .len false (.t 23), some (20, true)⟩,
 ⟨(some 25), .bin .eql (.t 24) (.c (.int .i64 1)), some (20, true)⟩,
 o1 26 (.pick (.t 20) (.t 25) (.c (.bool false))),
 o1 27 (.mv (.t 26)),
 ⟨(some 28), .mv (.t 3), some (27, true)⟩,
 ⟨(some 29), .ixa 1 (.t 28) (.c (.int .i64 0)), some (27, true)⟩,
 ⟨(some 30), .load 1 false (.t 29), some (27, true)⟩,
 ⟨(some 31), .ixa 2 (.t 30) (.c (.int .i64 0)), some (27, true)⟩,
 ⟨(some 32), .load 2 true (.t 31), some (27, true)⟩,
 ⟨(some 33), .build [.int .i64 0, .int .i64 0] [(0, 1, (.c (.int .i64 1)))], some (27, true)⟩,
 ⟨(some 34), .beq true false (.t 32) (.t 33), some (27, true)⟩,
 o1 35 (.pick (.t 27) (.t 34) (.c (.bool false))),
 o1 36 (.mv (.t 35)),
 ⟨(some 37), .mv (.t 3), some (36, true)⟩,
 ⟨(some 38), .ixa 1 (.t 37) (.c (.int .i64 1)), some (36, true)⟩,
 ⟨(some 39), .load 1 false (.t 38), some (36, true)⟩,
 ⟨(some 40), .len false (.t 39), some (36, true)⟩,
 ⟨(some 41), .bin .eql (.t 40) (.c (.int .i64 1)), some (36, true)⟩,
 o1 42 (.pick (.t 36) (.t 41) (.c (.bool false))),
 o1 43 (.mv (.t 42)),
 ⟨(some 44), .mv (.t 3), some (43, true)⟩,
 ⟨(some 45), .ixa 1 (.t 44) (.c (.int .i64 1)), some (43, true)⟩,
 ⟨(some 46), .load 1 false (.t 45), some (43, true)⟩,
 ⟨(some 47), .ixa 2 (.t 46) (.c (.int .i64 0)), some (43, true)⟩,
 ⟨(some 48), .load 2 true (.t 47), some (43, true)⟩,
 ⟨(some 49), .build [.int .i64 0, .int .i64 0] [(0, 1, (.c (.int .i64 1)))], some (43, true)⟩,
 ⟨(some 50), .beq true false (.t 48) (.t 49), some (43, true)⟩,
 o1 51 (.pick (.t 43) (.t 50) (.c (.bool false))),
 o1 0 (.mv (.t 51))]
def x21_0 : XC := (.seq (.reg [] r21_0 []) (.seq (.reg [1, 2] r21_1 []) (.seq (.any [2, 3] r21_2 o21_2 []) (.seq (.reg [0] r21_3 [false, false, false, false, false, false, false, false, false, true, false, false, false, false, false, false, true, false, true, false, false, false, false, false, false, true, false, false, false, false, false, false, true, false, true]) .ret))))
def a21 : AFunc := ⟨[.tmp 0], x21_0.code⟩
/-! ### 22 rewind/lean.Falls -/
def r22_0 : List AOper := [o1 1 (.box (.t 0)),
 o1 2 (.mv (.c (.sl .cap0 1 [])))]
def r22_1 : List AOper := [o1 6 (.loadS (some 1) 3 true (.t 1)),
 o1 7 (.fadd 1 (.t 1)),
 o1 8 (.loadS (some 1) 1 false (.t 7)),
 o1 9 (.len false (.t 8)),
 o1 10 (.mkArr [.int .i64 0] (.t 9)),
 o1 11 (.build [.sl .cap0 9 [], .sl .cap0 9 [], .sl .cap0 6 [], .sl .cap0 1 []] [(0, 3, (.t 6)), (3, 1, (.t 10))]),
 o1 12 (.boxH (.t 11)),
 o1 3 (.mv (.t 12))]
def o22_1 : Sch := .op 0 <| .op 1 <| .op 2 <| .op 3 <| .op 4 <| .op 5 <| .op 6 <| .op 7 <| .nil
def r22_7 : List AOper := [o1 25 (.mv (.t 3)),
 o1 26 (.nilck (.t 25)),
 o1 27 (.fadd 3 (.t 26)),
 o1 28 (.load 1 false (.t 27)),
 o1 2 (.mv (.t 28))]
def x22_2 : XC := (.seq (.reg [2] r22_7 [false, true, true, true]) .ret)
def j22_2 : ACode := x22_2.code
def r22_2 : List AOper := [o1 13 (.fadd 2 (.t 1)),
 o1 14 (.load 1 false (.t 13)),
 o1 15 (.len false (.t 14)),
 o1 16 (.mv (.c (.int .i64 0)))]
def r22_3 : List AOper := [o1 17 (.bin .lss (.t 16) (.t 15))]
def r22_4 : List AOper := [o1 18 (.ixa 6 (.t 14) (.t 16)),
 o1 19 (.load 6 true (.t 18)),
 o1 5 (.alloc [.str [], .int .i64 0, .int .i64 0, .sl .cap0 1 [], .int .i64 0, .sl .cap0 1 []]),
 o0 (.store 6 (.t 5) (.t 19))]
def r22_5 : List AOper := [o1 20 (.mv (.t 3)),
 o1 21 (.fadd 5 (.t 5)),
 o1 22 (.load 1 false (.t 21)),
 o1 23 (.call 35 [(.t 20), (.t 22), (.c (.int .i64 (-1)))])]
def r22_6 : List AOper := [o1 24 (.bin .add (.t 16) (.c (.int .i64 1))),
 o1 16 (.mv (.t 24))]
def x22_1 : XC := (.seq (.reg [3, 14, 15, 16, 17] r22_3 []) (.seq (.cond (.t 17) .skip (.exit 0)) (.seq (.block 1 (.seq (.reg [3, 5, 14, 15, 16] r22_4 [false, true]) (.reg [3, 14, 15, 16] r22_5 []))) (.reg [3, 14, 15, 16] r22_6 []))))
def j22_1 : ACode := x22_1.code
def x22_0 : XC := (.seq (.reg [1] r22_0 []) (.seq (.any [1, 3] r22_1 o22_1 []) (.jn [3] (.seq (.reg [3, 14, 15, 16] r22_2 []) (.block 0 (.loop [3, 14, 15, 16] j22_1))) j22_2)))
def a22 : AFunc := ⟨[.tmp 2], x22_0.code⟩
/-! ### 23 rewind/rewindref07.Places -/
def r23_0 : List AOper := [o1 1 (.box (.t 0)),
 o1 2 (.mv (.c (.sl .cap0 4 [])))]
def r23_1 : List AOper := [o1 5 (.fadd 1 (.t 1)),
 o1 6 (.load 1 false (.t 5)),
 o1 7 (.len false (.t 6)),
 o1 8 (.mkArr [.sl .cap0 1 [], .int .i64 0, .int .i64 0, .int .i64 0] (.t 7)),
 o1 3 (.mv (.t 8))]
def r23_7 : List AOper := [o1 25 (.mv (.t 3)),
 o1 2 (.mv (.t 25))]
def x23_2 : XC := (.seq (.reg [2] r23_7 []) .ret)
def j23_2 : ACode := x23_2.code
def r23_2 : List AOper := [o1 9 (.fadd 2 (.t 1)),
 o1 10 (.load 1 false (.t 9)),
 o1 11 (.len false (.t 10)),
 o1 12 (.mv (.c (.int .i64 0)))]
def r23_3 : List AOper := [o1 13 (.bin .lss (.t 12) (.t 11))]
def r23_4 : List AOper := [o1 14 (.mv (.t 12)),
 o1 4 (.mv (.t 14))]
def r23_5 : List AOper := [o1 15 (.loadS (some 1) 3 true (.t 1)),
 o1 16 (.mv (.t 3)),
 o1 17 (.fadd 2 (.t 1)),
 o1 18 (.loadS (some 1) 1 false (.t 17)),
 o1 19 (.mv (.t 4)),
 o1 20 (.ixa 6 (.t 18) (.t 19)),
 o1 21 (.fadd 5 (.t 20)),
 o1 22 (.load 1 false (.t 21)),
 o1 23 (.call 36 [(.t 15), (.t 16), (.t 22), (.c (.int .i64 (-1))), (.c (.int .i64 (-1)))]),
 o1 3 (.mv (.t 23))]
def o23_5 : Sch := .op 0 <| .op 1 <| .op 2 <| .op 3 <| .op 4 <| .op 5 <| .op 6 <| .op 7 <| .op 8 <| .op 9 <| .nil
def r23_6 : List AOper := [o1 24 (.bin .add (.t 12) (.c (.int .i64 1))),
 o1 12 (.mv (.t 24))]
def x23_1 : XC := (.seq (.reg [1, 3, 11, 12, 13] r23_3 []) (.seq (.cond (.t 13) .skip (.exit 0)) (.seq (.block 1 (.seq (.reg [1, 3, 4, 11, 12] r23_4 []) (.any [1, 3, 11, 12] r23_5 o23_5 [false, false, false, false, false, false, true, true]))) (.reg [1, 3, 11, 12] r23_6 []))))
def j23_1 : ACode := x23_1.code
def x23_0 : XC := (.seq (.reg [1] r23_0 []) (.seq (.reg [1, 3] r23_1 []) (.jn [3] (.seq (.reg [1, 3, 11, 12] r23_2 []) (.block 0 (.loop [1, 3, 11, 12] j23_1))) j23_2)))
def a23 : AFunc := ⟨[.tmp 2], x23_0.code⟩
/-! ### 24 rewind/rewindref07.Behind -/
def r24_0 : List AOper := [o1 3 (.box (.t 0)),
 o1 6 (.mv (.c (.int .i64 0)))]
def r24_1 : List AOper := [o1 8 (.mv (.t 1)),
 o1 9 (.mv (.t 2)),
 o1 10 (.ixa 4 (.t 8) (.t 9)),
 o1 11 (.load 4 true (.t 10)),
 o1 7 (.alloc [.sl .cap0 1 [], .int .i64 0, .int .i64 0, .int .i64 0]),
 o0 (.store 4 (.t 7) (.t 11))]
def r24_2 : List AOper := [o1 12 (.fadd 1 (.t 7)),
 o1 13 (.load 1 false (.t 12)),
 o1 14 (.bin .add (.t 13) (.c (.int .i64 1))),
 o1 15 (.fadd 0 (.t 7)),
 o1 16 (.load 1 false (.t 15)),
 o1 17 (.len false (.t 16)),
 o1 18 (.bin .lss (.t 14) (.t 17))]
def r24_3 : List AOper := [o1 19 (.fadd 0 (.t 7)),
 o1 20 (.load 1 false (.t 19)),
 o1 21 (.fadd 1 (.t 7)),
 o1 22 (.load 1 false (.t 21)),
 o1 23 (.bin .add (.t 22) (.c (.int .i64 1))),
 o1 24 (.ixa 1 (.t 20) (.t 23)),
 o1 25 (.load 1 false (.t 24)),
 o1 6 (.mv (.t 25))]
def r24_4 : List AOper := [o1 26 (.fadd 2 (.t 7)),
 o1 27 (.load 1 false (.t 26)),
 o1 28 (.bin .lss (.t 27) (.c (.int .i64 0)))]
def r24_5 : List AOper := [o1 6 (.mv (.c (.int .i64 (-1))))]
def r24_6 : List AOper := [o1 29 (.fadd 1 (.t 3)),
 o1 30 (.load 1 false (.t 29)),
 o1 31 (.fadd 2 (.t 7)),
 o1 32 (.load 1 false (.t 31)),
 o1 33 (.ixa 9 (.t 30) (.t 32)),
 o1 34 (.fadd 0 (.t 33)),
 o1 35 (.load 1 false (.t 34)),
 o1 36 (.bin .eql (.t 35) (.c (.int .i64 6)))]
def r24_7 : List AOper := [o1 37 (.fadd 2 (.t 7)),
 o1 38 (.load 1 false (.t 37)),
 o1 6 (.mv (.t 38))]
def r24_8 : List AOper := [o1 39 (.load 3 true (.t 3)),
 o1 40 (.mv (.t 1)),
 o1 41 (.fadd 2 (.t 7)),
 o1 42 (.load 1 false (.t 41)),
 o1 43 (.call 24 [.t 39, .t 40, .t 42]),
 o1 6 (.mv (.t 43))]
def x24_0 : XC := (.seq (.reg [1, 2, 3] r24_0 []) (.seq (.reg [1, 3, 7] r24_1 [false, false, false, true]) (.seq (.seq (.reg [1, 3, 7, 18] r24_2 []) (.cond (.t 18) (.seq (.reg [6] r24_3 [false, false, false, false, false, false, true]) .ret) .skip)) (.seq (.seq (.reg [1, 3, 7, 28] r24_4 []) (.cond (.t 28) (.seq (.reg [6] r24_5 []) .ret) .skip)) (.seq (.seq (.reg [1, 3, 7, 36] r24_6 [false, false, false, false, false, true, true]) (.cond (.t 36) (.seq (.reg [6] r24_7 []) .ret) .skip)) (.seq (.reg [6] r24_8 []) .ret))))))
def a24 : AFunc := ⟨[.tmp 6], x24_0.code⟩
/-! ### 25 rewind/rewindlaw07.Firsts -/
def r25_0 : List AOper := [o1 1 (.box (.t 0)),
 o1 2 (.mv (.c (.sl .cap0 1 [])))]
def r25_1 : List AOper := [o1 6 (.fadd 2 (.t 1)),
 o1 7 (.load 1 false (.t 6)),
 o1 8 (.len false (.t 7)),
 o1 9 (.mkArr [.int .i64 0] (.t 8)),
 o1 3 (.mv (.t 9))]
def r25_9 : List AOper := [o1 33 (.mv (.t 3)),
 o1 2 (.mv (.t 33))]
def x25_3 : XC := (.seq (.reg [2] r25_9 []) .ret)
def j25_3 : ACode := x25_3.code
def r25_2 : List AOper := [o1 10 (.fadd 2 (.t 1)),
 o1 11 (.load 1 false (.t 10)),
 o1 12 (.len false (.t 11)),
 o1 13 (.mv (.c (.int .i64 0)))]
def r25_3 : List AOper := [o1 14 (.bin .lss (.t 13) (.t 12))]
def r25_8 : List AOper := [o1 32 (.bin .add (.t 13) (.c (.int .i64 1))),
 o1 13 (.mv (.t 32))]
def x25_2 : XC := (.reg [3, 11, 12, 13] r25_8 [])
def j25_2 : ACode := x25_2.code
def r25_4 : List AOper := [o1 15 (.mv (.t 13)),
 o1 16 (.ixa 6 (.t 11) (.t 13)),
 o1 17 (.load 6 true (.t 16)),
 o1 5 (.alloc [.str [], .int .i64 0, .int .i64 0, .sl .cap0 1 [], .int .i64 0, .sl .cap0 1 []]),
 o1 4 (.mv (.t 15)),
 o0 (.store 6 (.t 5) (.t 17))]
def r25_5 : List AOper := [o1 18 (.mv (.t 3)),
 o1 19 (.mv (.t 4)),
 o1 20 (.ixa 1 (.t 18) (.t 19)),
 o0 (.store 1 (.t 20) (.c (.int .i64 (-1))))]
def r25_6 : List AOper := [o1 21 (.fadd 5 (.t 5)),
 o1 22 (.load 1 false (.t 21)),
 o1 23 (.len false (.t 22)),
 o1 24 (.bin .gtr (.t 23) (.c (.int .i64 0)))]
def r25_7 : List AOper := [o1 25 (.mv (.t 3)),
 o1 26 (.mv (.t 4)),
 o1 27 (.fadd 5 (.t 5)),
 o1 28 (.load 1 false (.t 27)),
 o1 29 (.ixa 1 (.t 28) (.c (.int .i64 0))),
 o1 30 (.load 1 false (.t 29)),
 o1 31 (.ixa 1 (.t 25) (.t 26)),
 o0 (.store 1 (.t 31) (.t 30))]
def x25_1 : XC := (.seq (.reg [3, 11, 12, 13, 14] r25_3 []) (.seq (.cond (.t 14) .skip (.exit 0)) (.jn [3, 11, 12, 13] (.block 1 (.seq (.reg [3, 4, 5, 11, 12, 13] r25_4 [false, false, true]) (.seq (.reg [3, 4, 5, 11, 12, 13] r25_5 [false, false, false, true]) (.seq (.reg [3, 4, 5, 11, 12, 13, 24] r25_6 []) (.cond (.t 24) (.reg [3, 11, 12, 13] r25_7 [false, false, false, false, false, true, false, true]) .skip))))) j25_2)))
def j25_1 : ACode := x25_1.code
def x25_0 : XC := (.seq (.reg [1] r25_0 []) (.seq (.reg [1, 3] r25_1 []) (.jn [3] (.seq (.reg [3, 11, 12, 13] r25_2 []) (.block 0 (.loop [3, 11, 12, 13] j25_1))) j25_3)))
def a25 : AFunc := ⟨[.tmp 2], x25_0.code⟩
/-! ### 26 rewind/rewindref07.All -/
def r26_0 : List AOper := [o1 1 (.box (.t 0)),
 o1 2 (.mv (.c (.sl .cap0 1 [])))]
def r26_1 : List AOper := [o1 6 (.load 3 true (.t 1)),
 o1 7 (.call 23 [.t 6]),
 o1 3 (.mv (.t 7))]
def r26_2 : List AOper := [o1 4 (.mv (.c (.sl .cap0 1 [])))]
def r26_8 : List AOper := [o1 22 (.mv (.t 4)),
 o1 2 (.mv (.t 22))]
def x26_2 : XC := (.seq (.reg [2] r26_8 []) .ret)
def j26_2 : ACode := x26_2.code
def r26_3 : List AOper := [o1 8 (.fadd 1 (.t 1)),
 o1 9 (.load 1 false (.t 8)),
 o1 10 (.len false (.t 9)),
 o1 11 (.mv (.c (.int .i64 0)))]
def r26_4 : List AOper := [o1 12 (.bin .lss (.t 11) (.t 10))]
def r26_5 : List AOper := [o1 13 (.mv (.t 11)),
 o1 5 (.mv (.t 13))]
def r26_6 : List AOper := [o1 14 (.mv (.t 4)),
 o1 15 (.load 3 true (.t 1)),
 o1 16 (.mv (.t 3)),
 o1 17 (.mv (.t 5)),
 o1 18 (.call 37 [.t 15, .t 16, .t 17]),
 o1 19 (.mkSl 1 [.t 18]),
 o1 20 (.app false 1 (.t 14) (.t 19)),
 o1 4 (.mv (.t 20))]
def r26_7 : List AOper := [o1 21 (.bin .add (.t 11) (.c (.int .i64 1))),
 o1 11 (.mv (.t 21))]
def x26_1 : XC := (.seq (.reg [1, 3, 4, 10, 11, 12] r26_4 []) (.seq (.cond (.t 12) .skip (.exit 0)) (.seq (.block 1 (.seq (.reg [1, 3, 4, 5, 10, 11] r26_5 []) (.reg [1, 3, 4, 10, 11] r26_6 []))) (.reg [1, 3, 4, 10, 11] r26_7 []))))
def j26_1 : ACode := x26_1.code
def x26_0 : XC := (.seq (.reg [1] r26_0 []) (.seq (.reg [1, 3] r26_1 []) (.seq (.reg [1, 3, 4] r26_2 []) (.jn [4] (.seq (.reg [1, 3, 4, 10, 11] r26_3 []) (.block 0 (.loop [1, 3, 4, 10, 11] j26_1))) j26_2))))
def a26 : AFunc := ⟨[.tmp 2], x26_0.code⟩
/-! ### 27 slices.Repeat[[]int,int] -/
def r27_0 : List AOper := [o1 4 (.mv (.c (.sl .cap0 1 [])))]
def r27_3 : List AOper := [o1 13 (.mv (.t 0)),
 o1 14 (.len false (.t 13)),
 o1 15 (.conv .u64 (.t 14)),
 o1 16 (.mv (.t 1)),
 o1 17 (.conv .u64 (.t 16)),
 o1 18 (.call 38 [.t 15, .t 17]),
 o1 12 (.mv (.t 18)),
 o1 19 (.ext (.t 12) 0),
 o1 20 (.ext (.t 12) 1),
 o1 5 (.mv (.t 19)),
 o1 6 (.mv (.t 20))]
def r27_6 : List AOper := [o1 28 (.mv (.t 6)),
 o1 29 (.conv .i64 (.t 28)),
 o1 30 (.mkArr [.int .i64 0] (.t 29)),
 o1 7 (.mv (.t 30))]
def r27_7 : List AOper := [o1 31 (.mv (.t 7)),
 o1 32 (.mv (.t 0)),
 o1 33 (.cp 1 (.t 31) (.t 32)),
 o1 8 (.mv (.t 33))]
def r27_10 : List AOper := [o1 47 (.mv (.t 7)),
 o1 4 (.mv (.t 47))]
def x27_2 : XC := (.seq (.reg [4] r27_10 []) .ret)
def j27_2 : ACode := x27_2.code
def r27_8 : List AOper := [o1 34 (.mv (.t 8)),
 o1 35 (.mv (.t 7)),
 o1 36 (.len false (.t 35)),
 o1 37 (.bin .lss (.t 34) (.t 36))]
def r27_9 : List AOper := [o1 38 (.mv (.t 8)),
 o1 39 (.mv (.t 7)),
 o1 40 (.mv (.t 8)),
 o1 41 (.slsl 1 (.t 39) (some (.t 40)) none),
 o1 42 (.mv (.t 7)),
 o1 43 (.mv (.t 8)),
 o1 44 (.slsl 1 (.t 42) none (some (.t 43))),
 o1 45 (.cp 1 (.t 41) (.t 44)),
 o1 46 (.bin .add (.t 38) (.t 45)),
 o1 8 (.mv (.t 46))]
def o27_9 : Sch := .op 0 <| .op 1 <| .op 2 <| .op 3 <| .op 4 <| .op 5 <| .op 6 <| .op 7 <| .op 8 <| .op 9 <| .nil
def x27_1 : XC := (.seq (.seq (.reg [7, 8, 37] r27_8 []) (.cond (.t 37) .skip (.exit 0))) (.block 1 (.any [7, 8] r27_9 o27_9 [])))
def j27_1 : ACode := x27_1.code
def x27_3 : XC := (.seq (.reg [0, 7] r27_6 []) (.seq (.reg [7, 8] r27_7 []) (.jn [7] (.block 0 (.loop [7, 8] j27_1)) j27_2)))
def j27_3 : ACode := x27_3.code
def r27_4 : List AOper := [o1 21 (.mv (.t 5)),
 o1 22 (.bin .gtr (.t 21) (.c (.int .u64 0))),
 o1 23 (.mv (.t 22)),
 ⟨(some 24), .mv (.t 6), some (23, false)⟩,
 ⟨(some 25), .bin .gtr (.t 24) (.c (.int .u64 9223372036854775807)), some (23, false)⟩,
 o1 26 (.pick (.t 23) (.c (.bool true)) (.t 25))]
def r27_5 : List AOper := [o1 27 (.bad),
 o0 (.bad)]
def x27_4 : XC := (.seq (.reg [0, 5, 6] r27_3 []) (.jn [0, 6] (.seq (.reg [0, 6, 26] r27_4 []) (.cond (.t 26) (.reg [0, 6] r27_5 []) .skip)) j27_3))
def j27_4 : ACode := x27_4.code
def r27_1 : List AOper := [o1 9 (.mv (.t 1)),
 o1 10 (.bin .lss (.t 9) (.c (.int .i64 0)))]
def r27_2 : List AOper := [o1 11 (.bad),
 o0 (.bad)]
def x27_0 : XC := (.seq (.reg [0, 1] r27_0 []) (.jn [0, 1] (.seq (.reg [0, 1, 10] r27_1 []) (.cond (.t 10) (.reg [0, 1] r27_2 []) .skip)) j27_4))
def a27 : AFunc := ⟨[.tmp 4], x27_0.code⟩
/-! ### 28 (*rewind/fence.tree).finish -/
def r28_0 : List AOper := [o1 2 (.mv (.c (.sl .cap0 1 [])))]
def r28_1 : List AOper := [o1 11 (.mv (.t 0)),
 o1 12 (.nilck (.t 11)),
 o1 13 (.fadd 0 (.t 12)),
 o1 14 (.load 2 true (.t 13)),
 o1 15 (.call 39 [.t 14]),
 o1 3 (.allocH [.sl .cap0 1 []]),
 o0 (.store 1 (.t 3) (.t 15))]
def r28_2 : List AOper := [o1 4 (.allocH [.sl .cap0 1 []])]
def r28_3 : List AOper := [o1 16 (.mv (.t 0)),
 o1 17 (.nilck (.t 16)),
 o1 18 (.fadd 0 (.t 17)),
 o1 19 (.fadd 1 (.t 18)),
 o1 20 (.load 1 false (.t 19)),
 o1 21 (.len false (.t 20)),
 o1 22 (.mkArr [.bool false] (.t 21)),
 o1 5 (.allocH [.sl .cap0 1 []]),
 o0 (.store 1 (.t 5) (.t 22))]
def r28_4 : List AOper := [o1 6 (.allocH [.undef])]
def r28_5 : List AOper := [o1 23 (.mkFn 40 [.t 5, .t 3, .t 6, .t 4]),
 o0 (.store 1 (.t 6) (.t 23))]
def r28_12 : List AOper := [o1 48 (.load 1 false (.t 4)),
 o1 49 (.call 41 [.t 48])]
def r28_18 : List AOper := [o1 65 (.load 1 false (.t 4)),
 o1 2 (.mv (.t 65))]
def x28_4 : XC := (.seq (.reg [2] r28_18 [true]) .ret)
def j28_4 : ACode := x28_4.code
def r28_13 : List AOper := [o1 50 (.load 1 false (.t 4)),
 o1 51 (.len false (.t 50)),
 o1 52 (.mv (.c (.int .i64 0)))]
def r28_14 : List AOper := [o1 53 (.bin .lss (.t 52) (.t 51))]
def r28_15 : List AOper := [o1 54 (.mv (.t 52)),
 o1 55 (.ixa 1 (.t 50) (.t 52)),
 o1 56 (.load 1 false (.t 55)),
 o1 9 (.mv (.t 54)),
 o1 10 (.mv (.t 56))]
def r28_16 : List AOper := [o1 57 (.mv (.t 0)),
 o1 58 (.nilck (.t 57)),
 o1 59 (.fadd 3 (.t 58)),
 o1 60 (.load 1 false (.t 59)),
 o1 61 (.mv (.t 10)),
 o1 62 (.mv (.t 9)),
 o1 63 (.ixa 1 (.t 60) (.t 61)),
 o0 (.store 1 (.t 63) (.t 62))]
def r28_17 : List AOper := [o1 64 (.bin .add (.t 52) (.c (.int .i64 1))),
 o1 52 (.mv (.t 64))]
def x28_3 : XC := (.seq (.reg [0, 4, 50, 51, 52, 53] r28_14 []) (.seq (.cond (.t 53) .skip (.exit 2)) (.seq (.block 3 (.seq (.reg [0, 4, 9, 10, 50, 51, 52] r28_15 [false, false, true]) (.reg [0, 4, 50, 51, 52] r28_16 [false, true, true, true, false, false, false, true]))) (.reg [0, 4, 50, 51, 52] r28_17 []))))
def j28_3 : ACode := x28_3.code
def x28_5 : XC := (.seq (.reg [0, 4] r28_12 [true]) (.jn [4] (.seq (.reg [0, 4, 50, 51, 52] r28_13 [true]) (.block 2 (.loop [0, 4, 50, 51, 52] j28_3))) j28_4))
def j28_5 : ACode := x28_5.code
def r28_6 : List AOper := [o1 24 (.mv (.t 0)),
 o1 25 (.nilck (.t 24)),
 o1 26 (.fadd 0 (.t 25)),
 o1 27 (.fadd 1 (.t 26)),
 o1 28 (.load 1 false (.t 27)),
 o1 29 (.len false (.t 28)),
 o1 30 (.mv (.c (.int .i64 0)))]
def r28_7 : List AOper := [o1 31 (.bin .lss (.t 30) (.t 29))]
def r28_11 : List AOper := [o1 47 (.bin .add (.t 30) (.c (.int .i64 1))),
 o1 30 (.mv (.t 47))]
def x28_2 : XC := (.reg [0, 4, 5, 6, 28, 29, 30] r28_11 [])
def j28_2 : ACode := x28_2.code
def r28_8 : List AOper := [o1 32 (.mv (.t 30)),
 o1 33 (.ixa 1 (.t 28) (.t 30)),
 o1 34 (.load 1 false (.t 33)),
 o1 7 (.mv (.t 32)),
 o1 8 (.mv (.t 34))]
def r28_9 : List AOper := [o1 35 (.mv (.t 8)),
 o1 36 (.call 33 [(.t 35), (.c (.int .i64 (-1)))]),
 o1 37 (.mv (.t 36)),
 ⟨(some 38), .load 1 false (.t 5), some (37, true)⟩,
 ⟨(some 39), .mv (.t 7), some (37, true)⟩,
 ⟨(some 40), .ixa 1 (.t 38) (.t 39), some (37, true)⟩,
 ⟨(some 41), .load 1 false (.t 40), some (37, true)⟩,
 ⟨(some 42), .un .not (.t 41), some (37, true)⟩,
 o1 43 (.pick (.t 37) (.t 42) (.c (.bool false)))]
def r28_10 : List AOper := [o1 44 (.load 1 false (.t 6)),
 o1 45 (.mv (.t 7)),
 o1 46 (.callV (.t 44) [.t 45])]
def x28_1 : XC := (.seq (.reg [0, 4, 5, 6, 28, 29, 30, 31] r28_7 []) (.seq (.cond (.t 31) .skip (.exit 0)) (.jn [0, 4, 5, 6, 28, 29, 30] (.block 1 (.seq (.reg [0, 4, 5, 6, 7, 8, 28, 29, 30] r28_8 [false, false, true]) (.seq (.reg [0, 4, 5, 6, 7, 28, 29, 30, 43] r28_9 [false, false, false, true, false, false, true]) (.cond (.t 43) (.reg [0, 4, 5, 6, 28, 29, 30] r28_10 [true]) .skip)))) j28_2)))
def j28_1 : ACode := x28_1.code
def x28_0 : XC := (.seq (.reg [0] r28_0 []) (.seq (.reg [0, 3] r28_1 [false, true, true, true, false, false, true]) (.seq (.reg [0, 3, 4] r28_2 []) (.seq (.reg [0, 3, 4, 5] r28_3 [false, true, true, true, true, false, false, false, true]) (.seq (.reg [0, 3, 4, 5, 6] r28_4 []) (.seq (.reg [0, 4, 5, 6] r28_5 [false, true]) (.jn [0, 4] (.seq (.reg [0, 4, 5, 6, 28, 29, 30] r28_6 [false, true, true, true, true]) (.block 0 (.loop [0, 4, 5, 6, 28, 29, 30] j28_1))) j28_5)))))))
def a28 : AFunc := ⟨[.tmp 2], x28_0.code⟩
/-! ### 29 (*rewind/fence.tree).pass -/
def r29_0 : List AOper := [o1 4 (.mv (.c (.bool false)))]
def r29_1 : List AOper := [o1 5 (.mv (.c (.bool false)))]
def r29_17 : List AOper := [o1 69 (.mv (.t 5)),
 o1 4 (.mv (.t 69))]
def x29_6 : XC := (.seq (.reg [4] r29_17 []) .ret)
def j29_6 : ACode := x29_6.code
def r29_2 : List AOper := [o1 11 (.mv (.t 1)),
 o1 12 (.len false (.t 11)),
 o1 13 (.mv (.c (.int .i64 0)))]
def r29_3 : List AOper := [o1 14 (.bin .lss (.t 13) (.t 12))]
def r29_16 : List AOper := [o1 68 (.bin .add (.t 13) (.c (.int .i64 1))),
 o1 13 (.mv (.t 68))]
def x29_5 : XC := (.reg [0, 5, 11, 12, 13] r29_16 [])
def j29_5 : ACode := x29_5.code
def r29_4 : List AOper := [o1 15 (.ixa 1 (.t 11) (.t 13)),
 o1 16 (.load 1 false (.t 15)),
 o1 7 (.mv (.t 16))]
def r29_5 : List AOper := [o1 8 (.mv (.c (.int .i64 (-2))))]
def r29_14 : List AOper := [o1 52 (.mv (.t 8)),
 o1 53 (.mv (.t 0)),
 o1 54 (.nilck (.t 53)),
 o1 55 (.fadd 2 (.t 54)),
 o1 56 (.load 1 false (.t 55)),
 o1 57 (.mv (.t 7)),
 o1 58 (.ixa 1 (.t 56) (.t 57)),
 o1 59 (.load 1 false (.t 58)),
 o1 60 (.bin .neq (.t 52) (.t 59))]
def r29_15 : List AOper := [o1 61 (.mv (.t 0)),
 o1 62 (.nilck (.t 61)),
 o1 63 (.fadd 2 (.t 62)),
 o1 64 (.load 1 false (.t 63)),
 o1 65 (.mv (.t 7)),
 o1 66 (.mv (.t 8)),
 o1 67 (.ixa 1 (.t 64) (.t 65)),
 o0 (.store 1 (.t 67) (.t 66)),
 o1 5 (.mv (.c (.bool true)))]
def x29_4 : XC := (.seq (.reg [0, 5, 7, 8, 11, 12, 13, 60] r29_14 [false, false, true, true, true, false, false, true]) (.cond (.t 60) (.reg [0, 5, 11, 12, 13] r29_15 [false, true, true, true, false, false, false, true]) .skip))
def j29_4 : ACode := x29_4.code
def r29_6 : List AOper := [o1 17 (.mv (.t 0)),
 o1 18 (.nilck (.t 17)),
 o1 19 (.fadd 0 (.t 18)),
 o1 20 (.fadd 1 (.t 19)),
 o1 21 (.load 1 false (.t 20)),
 o1 22 (.mv (.t 7)),
 o1 23 (.ixa 1 (.t 21) (.t 22)),
 o1 24 (.load 1 false (.t 23)),
 o1 25 (.len false (.t 24)),
 o1 26 (.mv (.c (.int .i64 0)))]
def r29_7 : List AOper := [o1 27 (.bin .lss (.t 26) (.t 25))]
def r29_13 : List AOper := [o1 51 (.bin .add (.t 26) (.c (.int .i64 1))),
 o1 26 (.mv (.t 51))]
def x29_3 : XC := (.reg [0, 5, 7, 8, 11, 12, 13, 24, 25, 26] r29_13 [])
def j29_3 : ACode := x29_3.code
def r29_8 : List AOper := [o1 28 (.ixa 1 (.t 24) (.t 26)),
 o1 29 (.load 1 false (.t 28)),
 o1 10 (.mv (.t 29))]
def r29_10 : List AOper := [o1 35 (.mv (.t 10)),
 o1 36 (.bin .neq (.t 35) (.c (.int .i64 (-1)))),
 o1 37 (.mv (.t 36)),
 ⟨(some 38), .mv (.t 0), some (37, true)⟩,
 ⟨(some 39), .nilck (.t 38), some (37, true)⟩,
 ⟨(some 40), .fadd 2 (.t 39), some (37, true)⟩,
 ⟨(some 41), .load 1 false (.t 40), some (37, true)⟩,
 ⟨(some 42), .mv (.t 10), some (37, true)⟩,
 ⟨(some 43), .ixa 1 (.t 41) (.t 42), some (37, true)⟩,
 ⟨(some 44), .load 1 false (.t 43), some (37, true)⟩,
 ⟨(some 45), .bin .eql (.t 44) (.c (.int .i64 (-2))), some (37, true)⟩,
 o1 46 (.pick (.t 37) (.t 45) (.c (.bool false))),
 o1 34 (.mv (.t 46))]
def r29_11 : List AOper := [o1 48 (.mv (.t 8)),
 o1 49 (.bin .eql (.t 48) (.c (.int .i64 (-2)))),
 o1 47 (.mv (.t 49))]
def r29_12 : List AOper := [o1 50 (.mv (.t 10)),
 o1 8 (.mv (.t 50))]
def r29_9 : List AOper := [o1 30 (.mv (.t 0)),
 o1 31 (.mv (.t 8)),
 o1 32 (.mv (.t 10)),
 o1 33 (.call 42 [.t 30, .t 31, .t 32]),
 o1 8 (.mv (.t 33))]
def x29_2 : XC := (.seq (.reg [0, 5, 7, 8, 11, 12, 13, 24, 25, 26, 27] r29_7 []) (.seq (.cond (.t 27) .skip (.exit 2)) (.jn [0, 5, 7, 8, 11, 12, 13, 24, 25, 26] (.block 3 (.seq (.reg [0, 5, 7, 8, 10, 11, 12, 13, 24, 25, 26] r29_8 [false, true]) (.block 4 (.seq (.reg [0, 5, 7, 8, 10, 11, 12, 13, 24, 25, 26, 34] r29_10 [false, false, false, false, true, true, true, false, false, true]) (.cond (.t 34) .skip (.seq (.reg [0, 5, 7, 8, 10, 11, 12, 13, 24, 25, 26, 47] r29_11 []) (.cond (.t 47) (.reg [0, 5, 7, 8, 11, 12, 13, 24, 25, 26] r29_12 []) (.reg [0, 5, 7, 8, 11, 12, 13, 24, 25, 26] r29_9 [])))))))) j29_3)))
def j29_2 : ACode := x29_2.code
def x29_1 : XC := (.seq (.reg [0, 5, 11, 12, 13, 14] r29_3 []) (.seq (.cond (.t 14) .skip (.exit 0)) (.jn [0, 5, 11, 12, 13] (.block 1 (.seq (.reg [0, 5, 7, 11, 12, 13] r29_4 [false, true]) (.seq (.reg [0, 5, 7, 8, 11, 12, 13] r29_5 []) (.jn [0, 5, 7, 8, 11, 12, 13] (.seq (.reg [0, 5, 7, 8, 11, 12, 13, 24, 25, 26] r29_6 [false, true, true, true, true, false, false, true]) (.block 2 (.loop [0, 5, 7, 8, 11, 12, 13, 24, 25, 26] j29_2))) j29_4)))) j29_5)))
def j29_1 : ACode := x29_1.code
def x29_0 : XC := (.seq (.reg [0, 1] r29_0 []) (.seq (.reg [0, 1, 5] r29_1 []) (.jn [5] (.seq (.reg [0, 5, 11, 12, 13] r29_2 []) (.block 0 (.loop [0, 5, 11, 12, 13] j29_1))) j29_6)))
def a29 : AFunc := ⟨[.tmp 4], x29_0.code⟩
/-! ### 31 rewind/rewindref04.Parse -/
def r31_0 : List AOper := [o1 2 (.alloc [.sl .cap0 9 [], .sl .cap0 9 [], .sl .cap0 6 []]),
 o1 3 (.mv (.c (.int .i64 0))),
 o1 4 (.mv (.c (.int .i64 0)))]
def r31_1 : List AOper := [o1 10 (.mv (.t 0)),
 o1 11 (.call 43 [.t 10]),
 o1 9 (.mv (.t 11)),
 o1 12 (.ext (.t 9) 0),
 o1 13 (.ext (.t 9) 1),
 o1 14 (.ext (.t 9) 2),
 o1 5 (.mv (.t 12)),
 o1 6 (.mv (.t 13)),
 o1 7 (.mv (.t 14))]
def r31_2 : List AOper := [o1 15 (.mv (.t 7)),
 o1 16 (.bin .neq (.t 15) (.c (.int .i64 0)))]
def r31_3 : List AOper := [o1 17 (.build [.sl .cap0 9 [], .sl .cap0 9 [], .sl .cap0 6 []] []),
 o1 18 (.mv (.t 6)),
 o1 19 (.mv (.t 7)),
 o0 (.store 3 (.t 2) (.t 17)),
 o1 3 (.mv (.t 18)),
 o1 4 (.mv (.t 19))]
def r31_4 : List AOper := [o1 20 (.mv (.t 0)),
 o1 21 (.mv (.t 5)),
 o1 22 (.build [.str [], .sl .cap0 3 [], .int .i64 0, .sl .cap0 9 [], .sl .cap0 9 [], .sl .cap0 6 [], .int .i64 0, .int .i64 0] [(0, 1, (.t 20)), (1, 1, (.t 21))]),
 o1 8 (.alloc [.str [], .sl .cap0 3 [], .int .i64 0, .sl .cap0 9 [], .sl .cap0 9 [], .sl .cap0 6 [], .int .i64 0, .int .i64 0]),
 o0 (.store 8 (.t 8) (.t 22))]
def r31_7 : List AOper := [o1 45 (.fadd 6 (.t 8)),
 o1 46 (.load 1 false (.t 45)),
 o1 47 (.bin .neq (.t 46) (.c (.int .i64 0)))]
def r31_8 : List AOper := [o1 48 (.build [.sl .cap0 9 [], .sl .cap0 9 [], .sl .cap0 6 []] []),
 o1 49 (.fadd 7 (.t 8)),
 o1 50 (.loadS (some 8) 1 false (.t 49)),
 o1 51 (.fadd 6 (.t 8)),
 o1 52 (.loadS (some 8) 1 false (.t 51)),
 o0 (.storeL 2 3 (.t 2) (.t 48)),
 o1 3 (.mv (.t 50)),
 o1 4 (.mv (.t 52))]
def o31_8 : Sch := .op 0 <| .op 1 <| .op 2 <| .op 3 <| .op 4 <| .op 5 <| .op 6 <| .op 7 <| .nil
def r31_9 : List AOper := [o1 53 (.fadd 3 (.t 8)),
 o1 54 (.load 3 true (.t 53)),
 o0 (.store 3 (.t 2) (.t 54)),
 o1 3 (.mv (.c (.int .i64 0))),
 o1 4 (.mv (.c (.int .i64 0)))]
def x31_2 : XC := (.seq (.seq (.reg [2, 8, 47] r31_7 []) (.cond (.t 47) (.seq (.any [2, 3, 4] r31_8 o31_8 []) .ret) .skip)) (.seq (.reg [2, 3, 4] r31_9 []) .ret))
def j31_2 : ACode := x31_2.code
def r31_5 : List AOper := [o1 23 (.fadd 6 (.t 8)),
 o1 24 (.load 1 false (.t 23)),
 o1 25 (.bin .eql (.t 24) (.c (.int .i64 0))),
 o1 26 (.mv (.t 25)),
 ⟨(some 27), .fadd 3 (.t 8), some (26, true)⟩,
 ⟨(some 28), .fadd 2 (.t 27), some (26, true)⟩,
 ⟨(some 29), .load 1 false (.t 28), some (26, true)⟩,
 ⟨(some 30), .len false (.t 29), some (26, true)⟩,
 ⟨(some 31), .bin .eql (.t 30) (.c (.int .i64 0)), some (26, true)⟩,
 ⟨(some 32), .mv (.t 31), some (26, true)⟩,
 ⟨(some 33), .fadd 1 (.t 8), some (32, false)⟩,
 ⟨(some 34), .load 1 false (.t 33), some (32, false)⟩,
 ⟨(some 35), .fadd 2 (.t 8), some (32, false)⟩,
 ⟨(some 36), .load 1 false (.t 35), some (32, false)⟩,
 ⟨(some 37), .ixa 3 (.t 34) (.t 36), some (32, false)⟩,
 ⟨(some 38), .fadd 0 (.t 37), some (32, false)⟩,
 ⟨(some 39), .load 1 false (.t 38), some (32, false)⟩,
 ⟨(some 40), .bin .neq (.t 39) (.c (.int .i64 0)), some (32, false)⟩,
 ⟨(some 41), .pick (.t 32) (.c (.bool true)) (.t 40), some (26, true)⟩,
 o1 42 (.pick (.t 26) (.t 41) (.c (.bool false)))]
def r31_6 : List AOper := [o1 43 (.load 8 true (.t 8)),
 o1 44 (.call 44 [.t 43]),
 o0 (.store 8 (.t 8) (.t 44))]
def x31_1 : XC := (.seq (.seq (.reg [2, 8, 42] r31_5 [false, false, false, false, false, false, false, false, false, false, false, false, false, false, false, true, true]) (.cond (.t 42) .skip (.exit 0))) (.block 1 (.reg [2, 8] r31_6 [])))
def j31_1 : ACode := x31_1.code
def x31_0 : XC := (.seq (.reg [0, 2] r31_0 []) (.seq (.reg [0, 2, 5, 6, 7] r31_1 []) (.seq (.seq (.reg [0, 2, 5, 6, 7, 16] r31_2 []) (.cond (.t 16) (.seq (.reg [2, 3, 4] r31_3 []) .ret) .skip)) (.seq (.reg [2, 8] r31_4 []) (.jn [2, 8] (.block 0 (.loop [2, 8] j31_1)) j31_2)))))
def a31 : AFunc := ⟨[.cell 2 3 true, .tmp 3, .tmp 4], x31_0.code⟩
/-! ### 32 rewind/rewindref06.Check -/
def r32_0 : List AOper := [o1 1 (.box (.t 0)),
 o1 2 (.alloc [.sl .cap0 1 [], .sl .cap0 1 [], .sl .cap0 1 [], .sl .cap0 1 [], .sl .cap0 1 []]),
 o1 3 (.mv (.c (.int .i64 0))),
 o1 4 (.mv (.c (.int .i64 0)))]
def r32_1 : List AOper := [o1 11 (.load 3 true (.t 1)),
 o1 12 (.build [.sl .cap0 9 [], .sl .cap0 9 [], .sl .cap0 6 [], .sl .cap0 1 [], .sl .cap0 1 [], .sl .cap0 1 [], .sl .cap0 1 [], .sl .cap0 1 [], .int .i64 0, .sl .cap0 3 [], .int .i64 0, .int .i64 0, .int .i64 0, .int .i64 0] [(0, 3, (.t 11))]),
 o1 5 (.alloc [.sl .cap0 9 [], .sl .cap0 9 [], .sl .cap0 6 [], .sl .cap0 1 [], .sl .cap0 1 [], .sl .cap0 1 [], .sl .cap0 1 [], .sl .cap0 1 [], .int .i64 0, .sl .cap0 3 [], .int .i64 0, .int .i64 0, .int .i64 0, .int .i64 0]),
 o0 (.store 14 (.t 5) (.t 12))]
def r32_21 : List AOper := [o1 94 (.loadS (some 5) 14 true (.t 5)),
 o1 95 (.fadd 2 (.t 1)),
 o1 96 (.loadS (some 1) 1 false (.t 95)),
 o1 97 (.ixa 6 (.t 96) (.c (.int .i64 0))),
 o1 98 (.fadd 0 (.t 97)),
 o1 99 (.loadS none 1 false (.t 98)),
 o1 100 (.bin .eql (.t 99) (.c (.str [109, 97, 105, 110]))),
 o1 101 (.call 45 [(.t 94), (.t 100), (.c (.int .i64 0)), (.c (.int .i64 17))]),
 o0 (.storeL 5 14 (.t 5) (.t 101))]
def o32_21 : Sch := .op 0 <| .op 1 <| .op 2 <| .op 3 <| .op 4 <| .op 5 <| .op 6 <| .op 7 <| .op 8 <| .nil
def r32_22 : List AOper := [o1 102 (.loadS (some 5) 14 true (.t 5)),
 o1 103 (.fadd 2 (.t 1)),
 o1 104 (.loadS (some 1) 1 false (.t 103)),
 o1 105 (.ixa 6 (.t 104) (.c (.int .i64 0))),
 o1 106 (.fadd 3 (.t 105)),
 o1 107 (.loadS none 1 false (.t 106)),
 o1 108 (.len false (.t 107)),
 o1 109 (.bin .eql (.t 108) (.c (.int .i64 0))),
 o1 110 (.mv (.t 109)),
 ⟨(some 111), .fadd 2 (.t 1), some (110, true)⟩,
 ⟨(some 112), .loadS (some 1) 1 false (.t 111), some (110, true)⟩,
 ⟨(some 113), .ixa 6 (.t 112) (.c (.int .i64 0)), some (110, true)⟩,
 ⟨(some 114), .fadd 4 (.t 113), some (110, true)⟩,
 ⟨(some 115), .loadS none 1 false (.t 114), some (110, true)⟩,
 ⟨(some 116), .bin .eql (.t 115) (.c (.int .i64 4)), some (110, true)⟩,
 o1 117 (.pick (.t 110) (.t 116) (.c (.bool false))),
 o1 118 (.fadd 2 (.t 1)),
 o1 119 (.loadS (some 1) 1 false (.t 118)),
 o1 120 (.ixa 6 (.t 119) (.c (.int .i64 0))),
 o1 121 (.fadd 1 (.t 120)),
 o1 122 (.fadd 0 (.t 121)),
 o1 123 (.loadS none 1 false (.t 122)),
 o1 124 (.call 45 [(.t 102), (.t 117), (.t 123), (.c (.int .i64 8))]),
 o0 (.storeL 5 14 (.t 5) (.t 124))]
def o32_22 : Sch := .op 0 <| .op 1 <| .op 2 <| .op 3 <| .op 4 <| .op 5 <| .op 6 <| .op 7 <| .op 8 <| .op 9 <| .op 10 <| .op 11 <| .op 12 <| .op 13 <| .op 14 <| .op 15 <| .op 16 <| .op 17 <| .op 18 <| .op 19 <| .op 20 <| .op 21 <| .op 22 <| .op 23 <| .nil
def r32_41 : List AOper := [o1 193 (.fadd 12 (.t 5)),
 o1 194 (.load 1 false (.t 193)),
 o1 195 (.bin .neq (.t 194) (.c (.int .i64 0)))]
def r32_42 : List AOper := [o1 196 (.build [.sl .cap0 1 [], .sl .cap0 1 [], .sl .cap0 1 [], .sl .cap0 1 [], .sl .cap0 1 []] []),
 o1 197 (.fadd 13 (.t 5)),
 o1 198 (.loadS (some 5) 1 false (.t 197)),
 o1 199 (.fadd 12 (.t 5)),
 o1 200 (.loadS (some 5) 1 false (.t 199)),
 o0 (.storeL 2 5 (.t 2) (.t 196)),
 o1 3 (.mv (.t 198)),
 o1 4 (.mv (.t 200))]
def o32_42 : Sch := .op 0 <| .op 1 <| .op 2 <| .op 3 <| .op 4 <| .op 5 <| .op 6 <| .op 7 <| .nil
def r32_43 : List AOper := [o1 201 (.fadd 3 (.t 5)),
 o1 202 (.load 5 true (.t 201)),
 o0 (.store 5 (.t 2) (.t 202)),
 o1 3 (.mv (.c (.int .i64 0))),
 o1 4 (.mv (.c (.int .i64 0)))]
def x32_12 : XC := (.seq (.seq (.reg [2, 5, 195] r32_41 []) (.cond (.t 195) (.seq (.any [2, 3, 4] r32_42 o32_42 []) .ret) .skip)) (.seq (.reg [2, 3, 4] r32_43 []) .ret))
def j32_12 : ACode := x32_12.code
def r32_23 : List AOper := [o1 125 (.fadd 2 (.t 1)),
 o1 126 (.load 1 false (.t 125)),
 o1 127 (.len false (.t 126)),
 o1 128 (.mv (.c (.int .i64 0)))]
def r32_24 : List AOper := [o1 129 (.bin .lss (.t 128) (.t 127))]
def r32_40 : List AOper := [o1 192 (.bin .add (.t 128) (.c (.int .i64 1))),
 o1 128 (.mv (.t 192))]
def x32_11 : XC := (.reg [1, 2, 5, 127, 128] r32_40 [])
def j32_11 : ACode := x32_11.code
def r32_25 : List AOper := [o1 130 (.mv (.t 128)),
 o1 8 (.mv (.t 130))]
def r32_26 : List AOper := [o1 131 (.mv (.t 8)),
 o1 132 (.fadd 8 (.t 5)),
 o0 (.store 1 (.t 132) (.t 131))]
def r32_27 : List AOper := [o1 133 (.fadd 9 (.t 5)),
 o0 (.store 1 (.t 133) (.c (.sl .cap0 3 [])))]
def r32_28 : List AOper := [o1 134 (.fadd 10 (.t 5)),
 o0 (.store 1 (.t 134) (.c (.int .i64 0)))]
def r32_35 : List AOper := [o1 170 (.fadd 2 (.t 1)),
 o1 171 (.load 1 false (.t 170)),
 o1 172 (.mv (.t 8)),
 o1 173 (.ixa 6 (.t 171) (.t 172)),
 o1 174 (.fadd 5 (.t 173)),
 o1 175 (.load 1 false (.t 174)),
 o1 176 (.len false (.t 175)),
 o1 177 (.mv (.c (.int .i64 0)))]
def r32_36 : List AOper := [o1 178 (.bin .lss (.t 177) (.t 176))]
def r32_37 : List AOper := [o1 179 (.mv (.t 177)),
 o1 10 (.mv (.t 179))]
def r32_38 : List AOper := [o1 180 (.loadS (some 5) 14 true (.t 5)),
 o1 181 (.fadd 2 (.t 1)),
 o1 182 (.loadS (some 1) 1 false (.t 181)),
 o1 183 (.mv (.t 8)),
 o1 184 (.ixa 6 (.t 182) (.t 183)),
 o1 185 (.fadd 5 (.t 184)),
 o1 186 (.loadS none 1 false (.t 185)),
 o1 187 (.mv (.t 10)),
 o1 188 (.ixa 1 (.t 186) (.t 187)),
 o1 189 (.loadS none 1 false (.t 188)),
 o1 190 (.call 47 [.t 180, .t 189]),
 o0 (.storeL 5 14 (.t 5) (.t 190))]
def o32_38 : Sch := .op 0 <| .op 1 <| .op 2 <| .op 3 <| .op 4 <| .op 5 <| .op 6 <| .op 7 <| .op 8 <| .op 9 <| .op 10 <| .op 11 <| .nil
def r32_39 : List AOper := [o1 191 (.bin .add (.t 177) (.c (.int .i64 1))),
 o1 177 (.mv (.t 191))]
def x32_9 : XC := (.seq (.reg [1, 2, 5, 8, 127, 128, 176, 177, 178] r32_36 []) (.seq (.cond (.t 178) .skip (.exit 12)) (.seq (.block 13 (.seq (.reg [1, 2, 5, 8, 10, 127, 128, 176, 177] r32_37 []) (.any [1, 2, 5, 8, 127, 128, 176, 177] r32_38 o32_38 [false, false, false, false, false, true]))) (.reg [1, 2, 5, 8, 127, 128, 176, 177] r32_39 []))))
def j32_9 : ACode := x32_9.code
def x32_10 : XC := (.seq (.reg [1, 2, 5, 8, 127, 128, 176, 177] r32_35 [false, false, false, false, true, true]) (.block 12 (.loop [1, 2, 5, 8, 127, 128, 176, 177] j32_9)))
def j32_10 : ACode := x32_10.code
def r32_29 : List AOper := [o1 135 (.fadd 2 (.t 1)),
 o1 136 (.load 1 false (.t 135)),
 o1 137 (.mv (.t 8)),
 o1 138 (.ixa 6 (.t 136) (.t 137)),
 o1 139 (.fadd 3 (.t 138)),
 o1 140 (.load 1 false (.t 139)),
 o1 141 (.len false (.t 140)),
 o1 142 (.mv (.c (.int .i64 0)))]
def r32_30 : List AOper := [o1 143 (.bin .lss (.t 142) (.t 141))]
def r32_34 : List AOper := [o1 169 (.bin .add (.t 142) (.c (.int .i64 1))),
 o1 142 (.mv (.t 169))]
def x32_8 : XC := (.reg [1, 2, 5, 8, 127, 128, 141, 142] r32_34 [])
def j32_8 : ACode := x32_8.code
def r32_31 : List AOper := [o1 144 (.mv (.t 142)),
 o1 9 (.mv (.t 144))]
def r32_32 : List AOper := [o1 145 (.fadd 12 (.t 5)),
 o1 146 (.load 1 false (.t 145)),
 o1 147 (.bin .eql (.t 146) (.c (.int .i64 0)))]
def r32_33 : List AOper := [o1 149 (.loadS (some 5) 14 true (.t 5)),
 o1 150 (.fadd 2 (.t 1)),
 o1 151 (.loadS (some 1) 1 false (.t 150)),
 o1 152 (.mv (.t 8)),
 o1 153 (.ixa 6 (.t 151) (.t 152)),
 o1 154 (.fadd 3 (.t 153)),
 o1 155 (.loadS none 1 false (.t 154)),
 o1 156 (.mv (.t 9)),
 o1 157 (.ixa 1 (.t 155) (.t 156)),
 o1 158 (.loadS none 1 false (.t 157)),
 o1 159 (.fadd 2 (.t 1)),
 o1 160 (.loadS (some 1) 1 false (.t 159)),
 o1 161 (.mv (.t 8)),
 o1 162 (.ixa 6 (.t 160) (.t 161)),
 o1 163 (.fadd 1 (.t 162)),
 o1 164 (.fadd 0 (.t 163)),
 o1 165 (.loadS none 1 false (.t 164)),
 o1 166 (.call 46 [(.t 149), (.t 158), (.c (.int .i64 1)), (.t 165)]),
 o1 148 (.mv (.t 166)),
 o1 167 (.ext (.t 148) 0),
 o1 168 (.ext (.t 148) 1),
 o0 (.storeL 5 14 (.t 5) (.t 167))]
def o32_33 : Sch := .op 0 <| .op 1 <| .op 2 <| .op 3 <| .op 4 <| .op 5 <| .op 6 <| .op 7 <| .op 8 <| .op 9 <| .op 10 <| .op 11 <| .op 12 <| .op 13 <| .op 14 <| .op 15 <| .op 16 <| .op 17 <| .op 18 <| .op 19 <| .op 20 <| .op 21 <| .nil
def x32_7 : XC := (.seq (.reg [1, 2, 5, 8, 127, 128, 141, 142, 143] r32_30 []) (.seq (.cond (.t 143) .skip (.exit 10)) (.jn [1, 2, 5, 8, 127, 128, 141, 142] (.block 11 (.seq (.reg [1, 2, 5, 8, 9, 127, 128, 141, 142] r32_31 []) (.seq (.reg [1, 2, 5, 8, 9, 127, 128, 141, 142, 147] r32_32 []) (.cond (.t 147) (.any [1, 2, 5, 8, 127, 128, 141, 142] r32_33 o32_33 [false, false, false, false, false, true, false, false, false, false, false, false, false, false, true, true]) .skip)))) j32_8)))
def j32_7 : ACode := x32_7.code
def x32_6 : XC := (.seq (.reg [1, 2, 5, 127, 128, 129] r32_24 []) (.seq (.cond (.t 129) .skip (.exit 8)) (.jn [1, 2, 5, 127, 128] (.block 9 (.seq (.reg [1, 2, 5, 8, 127, 128] r32_25 []) (.seq (.reg [1, 2, 5, 8, 127, 128] r32_26 []) (.seq (.reg [1, 2, 5, 8, 127, 128] r32_27 []) (.seq (.reg [1, 2, 5, 8, 127, 128] r32_28 []) (.jn [1, 2, 5, 8, 127, 128] (.seq (.reg [1, 2, 5, 8, 127, 128, 141, 142] r32_29 [false, false, false, false, true, true]) (.block 10 (.loop [1, 2, 5, 8, 127, 128, 141, 142] j32_7))) j32_10)))))) j32_11)))
def j32_6 : ACode := x32_6.code
def x32_13 : XC := (.seq (.any [1, 2, 5] r32_21 o32_21 [false, false, false, false, true]) (.seq (.any [1, 2, 5] r32_22 o32_22 [false, false, false, false, true, false, false, false, false, false, false, false, true, false, false, false, false, false, false, true, true]) (.jn [2, 5] (.seq (.reg [1, 2, 5, 127, 128] r32_23 []) (.block 8 (.loop [1, 2, 5, 127, 128] j32_6))) j32_12)))
def j32_13 : ACode := x32_13.code
def r32_12 : List AOper := [o1 53 (.fadd 2 (.t 1)),
 o1 54 (.load 1 false (.t 53)),
 o1 55 (.len false (.t 54)),
 o1 56 (.mv (.c (.int .i64 0)))]
def r32_13 : List AOper := [o1 57 (.bin .lss (.t 56) (.t 55))]
def r32_20 : List AOper := [o1 93 (.bin .add (.t 56) (.c (.int .i64 1))),
 o1 56 (.mv (.t 93))]
def x32_5 : XC := (.reg [1, 2, 5, 55, 56] r32_20 [])
def j32_5 : ACode := x32_5.code
def r32_14 : List AOper := [o1 58 (.mv (.t 56)),
 o1 6 (.mv (.t 58))]
def r32_15 : List AOper := [o1 59 (.fadd 3 (.t 5)),
 o1 60 (.fadd 4 (.t 59)),
 o1 61 (.load 1 false (.t 60)),
 o1 62 (.mkSl 1 [(.c (.sl .cap0 1 []))]),
 o1 63 (.app true 1 (.t 61) (.t 62)),
 o1 64 (.fadd 3 (.t 5)),
 o1 65 (.fadd 4 (.t 64)),
 o0 (.store 1 (.t 65) (.t 63))]
def r32_16 : List AOper := [o1 7 (.mv (.c (.int .i64 0)))]
def r32_17 : List AOper := [o1 66 (.mv (.t 7)),
 o1 67 (.mv (.t 6)),
 o1 68 (.bin .lss (.t 66) (.t 67))]
def r32_19 : List AOper := [o1 71 (.loadS (some 5) 14 true (.t 5)),
 o1 72 (.fadd 2 (.t 1)),
 o1 73 (.loadS (some 1) 1 false (.t 72)),
 o1 74 (.mv (.t 7)),
 o1 75 (.ixa 6 (.t 73) (.t 74)),
 o1 76 (.fadd 0 (.t 75)),
 o1 77 (.loadS none 1 false (.t 76)),
 o1 78 (.fadd 2 (.t 1)),
 o1 79 (.loadS (some 1) 1 false (.t 78)),
 o1 80 (.mv (.t 6)),
 o1 81 (.ixa 6 (.t 79) (.t 80)),
 o1 82 (.fadd 0 (.t 81)),
 o1 83 (.loadS none 1 false (.t 82)),
 o1 84 (.bin .neq (.t 77) (.t 83)),
 o1 85 (.fadd 2 (.t 1)),
 o1 86 (.loadS (some 1) 1 false (.t 85)),
 o1 87 (.mv (.t 6)),
 o1 88 (.ixa 6 (.t 86) (.t 87)),
 o1 89 (.fadd 1 (.t 88)),
 o1 90 (.fadd 0 (.t 89)),
 o1 91 (.loadS none 1 false (.t 90)),
 o1 92 (.call 45 [(.t 71), (.t 84), (.t 91), (.c (.int .i64 7))]),
 o0 (.storeL 5 14 (.t 5) (.t 92))]
def o32_19 : Sch := .op 0 <| .op 1 <| .op 2 <| .op 3 <| .op 4 <| .op 5 <| .op 6 <| .op 7 <| .op 8 <| .op 9 <| .op 10 <| .op 11 <| .op 12 <| .op 13 <| .op 14 <| .op 15 <| .op 16 <| .op 17 <| .op 18 <| .op 19 <| .op 20 <| .op 21 <| .op 22 <| .nil
def r32_18 : List AOper := [o1 69 (.mv (.t 7)),
 o1 70 (.bin .add (.t 69) (.c (.int .i64 1))),
 o1 7 (.mv (.t 70))]
def x32_4 : XC := (.seq (.seq (.reg [1, 2, 5, 6, 7, 55, 56, 68] r32_17 []) (.cond (.t 68) .skip (.exit 6))) (.seq (.block 7 (.any [1, 2, 5, 6, 7, 55, 56] r32_19 o32_19 [false, false, false, false, false, true, false, false, false, false, false, true, false, false, false, false, false, false, true, true])) (.reg [1, 2, 5, 6, 7, 55, 56] r32_18 [])))
def j32_4 : ACode := x32_4.code
def x32_3 : XC := (.seq (.reg [1, 2, 5, 55, 56, 57] r32_13 []) (.seq (.cond (.t 57) .skip (.exit 4)) (.jn [1, 2, 5, 55, 56] (.block 5 (.seq (.reg [1, 2, 5, 6, 55, 56] r32_14 []) (.seq (.reg [1, 2, 5, 6, 55, 56] r32_15 []) (.seq (.reg [1, 2, 5, 6, 7, 55, 56] r32_16 []) (.block 6 (.loop [1, 2, 5, 6, 7, 55, 56] j32_4)))))) j32_5)))
def j32_3 : ACode := x32_3.code
def x32_14 : XC := (.jn [1, 2, 5] (.seq (.reg [1, 2, 5, 55, 56] r32_12 []) (.block 4 (.loop [1, 2, 5, 55, 56] j32_3))) j32_13)
def j32_14 : ACode := x32_14.code
def r32_7 : List AOper := [o1 33 (.fadd 1 (.t 1)),
 o1 34 (.load 1 false (.t 33)),
 o1 35 (.len false (.t 34)),
 o1 36 (.mv (.c (.int .i64 0)))]
def r32_8 : List AOper := [o1 37 (.bin .lss (.t 36) (.t 35))]
def r32_9 : List AOper := [o1 38 (.fadd 3 (.t 5)),
 o1 39 (.fadd 2 (.t 38)),
 o1 40 (.load 1 false (.t 39)),
 o1 41 (.mkSl 1 [(.c (.int .i64 (-1)))]),
 o1 42 (.app true 1 (.t 40) (.t 41)),
 o1 43 (.fadd 3 (.t 5)),
 o1 44 (.fadd 2 (.t 43)),
 o0 (.store 1 (.t 44) (.t 42))]
def r32_10 : List AOper := [o1 45 (.fadd 3 (.t 5)),
 o1 46 (.fadd 3 (.t 45)),
 o1 47 (.load 1 false (.t 46)),
 o1 48 (.mkSl 1 [(.c (.int .i64 0))]),
 o1 49 (.app true 1 (.t 47) (.t 48)),
 o1 50 (.fadd 3 (.t 5)),
 o1 51 (.fadd 3 (.t 50)),
 o0 (.store 1 (.t 51) (.t 49))]
def r32_11 : List AOper := [o1 52 (.bin .add (.t 36) (.c (.int .i64 1))),
 o1 36 (.mv (.t 52))]
def x32_2 : XC := (.seq (.reg [1, 2, 5, 35, 36, 37] r32_8 []) (.seq (.cond (.t 37) .skip (.exit 2)) (.seq (.block 3 (.seq (.reg [1, 2, 5, 35, 36] r32_9 []) (.reg [1, 2, 5, 35, 36] r32_10 []))) (.reg [1, 2, 5, 35, 36] r32_11 []))))
def j32_2 : ACode := x32_2.code
def x32_15 : XC := (.jn [1, 2, 5] (.seq (.reg [1, 2, 5, 35, 36] r32_7 []) (.block 2 (.loop [1, 2, 5, 35, 36] j32_2))) j32_14)
def j32_15 : ACode := x32_15.code
def r32_2 : List AOper := [o1 13 (.fadd 0 (.t 1)),
 o1 14 (.load 1 false (.t 13)),
 o1 15 (.len false (.t 14)),
 o1 16 (.mv (.c (.int .i64 0)))]
def r32_3 : List AOper := [o1 17 (.bin .lss (.t 16) (.t 15))]
def r32_4 : List AOper := [o1 18 (.fadd 3 (.t 5)),
 o1 19 (.fadd 0 (.t 18)),
 o1 20 (.load 1 false (.t 19)),
 o1 21 (.mkSl 1 [(.c (.int .i64 0))]),
 o1 22 (.app true 1 (.t 20) (.t 21)),
 o1 23 (.fadd 3 (.t 5)),
 o1 24 (.fadd 0 (.t 23)),
 o0 (.store 1 (.t 24) (.t 22))]
def r32_5 : List AOper := [o1 25 (.fadd 3 (.t 5)),
 o1 26 (.fadd 1 (.t 25)),
 o1 27 (.load 1 false (.t 26)),
 o1 28 (.mkSl 1 [(.c (.int .i64 (-1)))]),
 o1 29 (.app true 1 (.t 27) (.t 28)),
 o1 30 (.fadd 3 (.t 5)),
 o1 31 (.fadd 1 (.t 30)),
 o0 (.store 1 (.t 31) (.t 29))]
def r32_6 : List AOper := [o1 32 (.bin .add (.t 16) (.c (.int .i64 1))),
 o1 16 (.mv (.t 32))]
def x32_1 : XC := (.seq (.reg [1, 2, 5, 15, 16, 17] r32_3 []) (.seq (.cond (.t 17) .skip (.exit 0)) (.seq (.block 1 (.seq (.reg [1, 2, 5, 15, 16] r32_4 []) (.reg [1, 2, 5, 15, 16] r32_5 []))) (.reg [1, 2, 5, 15, 16] r32_6 []))))
def j32_1 : ACode := x32_1.code
def x32_0 : XC := (.seq (.reg [1, 2] r32_0 []) (.seq (.reg [1, 2, 5] r32_1 []) (.jn [1, 2, 5] (.seq (.reg [1, 2, 5, 15, 16] r32_2 []) (.block 0 (.loop [1, 2, 5, 15, 16] j32_1))) j32_15)))
def a32 : AFunc := ⟨[.cell 2 5 true, .tmp 3, .tmp 4], x32_0.code⟩
/-! ### 33 slices.Contains[[]int,int] -/
def r33_0 : List AOper := [o1 4 (.mv (.c (.bool false)))]
def r33_1 : List AOper := [o1 5 (.mv (.t 0)),
 o1 6 (.mv (.t 1)),
 o1 7 (.call 48 [.t 5, .t 6]),
 o1 8 (.bin .geq (.t 7) (.c (.int .i64 0))),
 o1 4 (.mv (.t 8))]
def x33_0 : XC := (.seq (.reg [0, 1] r33_0 []) (.seq (.reg [4] r33_1 []) .ret))
def a33 : AFunc := ⟨[.tmp 4], x33_0.code⟩
/-! ### 34 rewind/lean.Of -/
def r34_0 : List AOper := [o1 1 (.box (.t 0)),
 o1 2 (.mv (.c (.sl .cap0 1 [])))]
def r34_1 : List AOper := [o1 11 (.load 2 true (.t 1)),
 o1 12 (.call 12 [.t 11]),
 o1 3 (.mv (.t 12))]
def r34_2 : List AOper := [o1 13 (.fadd 1 (.t 1)),
 o1 14 (.load 1 false (.t 13)),
 o1 15 (.len false (.t 14)),
 o1 16 (.mkArr [.sl .cap0 2 []] (.t 15)),
 o1 4 (.mv (.t 16))]
def r34_20 : List AOper := [o1 72 (.mv (.t 4)),
 o1 2 (.mv (.t 72))]
def x34_7 : XC := (.seq (.reg [2] r34_20 []) .ret)
def j34_7 : ACode := x34_7.code
def r34_15 : List AOper := [o1 63 (.mv (.t 4)),
 o1 64 (.len false (.t 63)),
 o1 65 (.mv (.c (.int .i64 0)))]
def r34_16 : List AOper := [o1 66 (.bin .lss (.t 65) (.t 64))]
def r34_17 : List AOper := [o1 67 (.ixa 1 (.t 63) (.t 65)),
 o1 68 (.load 1 false (.t 67)),
 o1 10 (.mv (.t 68))]
def r34_18 : List AOper := [o1 69 (.mv (.t 10)),
 o1 70 (.call 49 [(.t 69), (.c (.fn 50 []))])]
def r34_19 : List AOper := [o1 71 (.bin .add (.t 65) (.c (.int .i64 1))),
 o1 65 (.mv (.t 71))]
def x34_6 : XC := (.seq (.reg [4, 63, 64, 65, 66] r34_16 []) (.seq (.cond (.t 66) .skip (.exit 6)) (.seq (.block 7 (.seq (.reg [4, 10, 63, 64, 65] r34_17 [false, true]) (.reg [4, 63, 64, 65] r34_18 []))) (.reg [4, 63, 64, 65] r34_19 []))))
def j34_6 : ACode := x34_6.code
def x34_8 : XC := (.jn [4] (.seq (.reg [4, 63, 64, 65] r34_15 []) (.block 6 (.loop [4, 63, 64, 65] j34_6))) j34_7)
def j34_8 : ACode := x34_8.code
def r34_3 : List AOper := [o1 17 (.fadd 1 (.t 1)),
 o1 18 (.load 1 false (.t 17)),
 o1 19 (.len false (.t 18)),
 o1 20 (.mv (.c (.int .i64 0)))]
def r34_4 : List AOper := [o1 21 (.bin .lss (.t 20) (.t 19))]
def r34_14 : List AOper := [o1 62 (.bin .add (.t 20) (.c (.int .i64 1))),
 o1 20 (.mv (.t 62))]
def x34_5 : XC := (.reg [3, 4, 18, 19, 20] r34_14 [])
def j34_5 : ACode := x34_5.code
def r34_5 : List AOper := [o1 22 (.mv (.t 20)),
 o1 23 (.ixa 1 (.t 18) (.t 20)),
 o1 24 (.load 1 false (.t 23)),
 o1 5 (.mv (.t 22)),
 o1 6 (.mv (.t 24))]
def r34_6 : List AOper := [o1 25 (.mv (.t 6)),
 o1 26 (.len false (.t 25)),
 o1 27 (.bin .lss (.t 26) (.c (.int .i64 2)))]
def r34_7 : List AOper := [o1 28 (.mv (.t 6)),
 o1 29 (.len false (.t 28)),
 o1 30 (.mv (.c (.int .i64 0)))]
def r34_8 : List AOper := [o1 31 (.bin .lss (.t 30) (.t 29))]
def r34_13 : List AOper := [o1 61 (.bin .add (.t 30) (.c (.int .i64 1))),
 o1 30 (.mv (.t 61))]
def x34_4 : XC := (.reg [3, 4, 5, 18, 19, 20, 28, 29, 30] r34_13 [])
def j34_4 : ACode := x34_4.code
def r34_9 : List AOper := [o1 32 (.mv (.t 30)),
 o1 33 (.ixa 1 (.t 28) (.t 30)),
 o1 34 (.load 1 false (.t 33)),
 o1 7 (.mv (.t 32)),
 o1 8 (.mv (.t 34))]
def r34_10 : List AOper := [o1 35 (.mv (.t 8)),
 o1 36 (.mv (.t 3)),
 o1 37 (.mv (.t 5)),
 o1 38 (.ixa 1 (.t 36) (.t 37)),
 o1 39 (.load 1 false (.t 38)),
 o1 40 (.bin .neq (.t 35) (.t 39)),
 o1 41 (.mv (.t 40)),
 ⟨(some 42), .mv (.t 8), some (41, true)⟩,
 ⟨(some 43), .bin .neq (.t 42) (.c (.int .i64 (-1))), some (41, true)⟩,
 o1 44 (.pick (.t 41) (.t 43) (.c (.bool false)))]
def r34_12 : List AOper := [o1 49 (.mv (.t 4)),
 o1 50 (.mv (.t 8)),
 o1 51 (.mv (.t 4)),
 o1 52 (.mv (.t 8)),
 o1 53 (.ixa 1 (.t 51) (.t 52)),
 o1 54 (.load 1 false (.t 53)),
 o1 55 (.mv (.t 5)),
 o1 56 (.mv (.t 7)),
 o1 57 (.build [.int .i64 0, .int .i64 0] [(0, 1, (.t 55)), (1, 1, (.t 56))]),
 o1 58 (.mkSl 2 [.t 57]),
 o1 59 (.app true 2 (.t 54) (.t 58)),
 o1 60 (.ixa 1 (.t 49) (.t 50)),
 o0 (.store 1 (.t 60) (.t 59))]
def r34_11 : List AOper := [o1 45 (.mv (.t 3)),
 o1 46 (.mv (.t 8)),
 o1 47 (.ixa 1 (.t 45) (.t 46)),
 o1 48 (.load 1 false (.t 47)),
 o1 8 (.mv (.t 48))]
def x34_3 : XC := (.seq (.seq (.reg [3, 4, 5, 7, 8, 18, 19, 20, 28, 29, 30, 44] r34_10 [false, false, false, false, true]) (.cond (.t 44) .skip (.exit 4))) (.seq (.block 5 (.reg [3, 4, 5, 7, 8, 18, 19, 20, 28, 29, 30] r34_12 [false, false, false, false, false, true, false, false, false, false, false, false, true])) (.reg [3, 4, 5, 7, 8, 18, 19, 20, 28, 29, 30] r34_11 [false, false, false, true])))
def j34_3 : ACode := x34_3.code
def x34_2 : XC := (.seq (.reg [3, 4, 5, 18, 19, 20, 28, 29, 30, 31] r34_8 []) (.seq (.cond (.t 31) .skip (.exit 2)) (.jn [3, 4, 5, 18, 19, 20, 28, 29, 30] (.block 3 (.seq (.reg [3, 4, 5, 7, 8, 18, 19, 20, 28, 29, 30] r34_9 [false, false, true]) (.block 4 (.loop [3, 4, 5, 7, 8, 18, 19, 20, 28, 29, 30] j34_3)))) j34_4)))
def j34_2 : ACode := x34_2.code
def x34_1 : XC := (.seq (.reg [3, 4, 18, 19, 20, 21] r34_4 []) (.seq (.cond (.t 21) .skip (.exit 0)) (.jn [3, 4, 18, 19, 20] (.block 1 (.seq (.reg [3, 4, 5, 6, 18, 19, 20] r34_5 [false, false, true]) (.seq (.seq (.reg [3, 4, 5, 6, 18, 19, 20, 27] r34_6 []) (.cond (.t 27) (.exit 1) .skip)) (.seq (.reg [3, 4, 5, 18, 19, 20, 28, 29, 30] r34_7 []) (.block 2 (.loop [3, 4, 5, 18, 19, 20, 28, 29, 30] j34_2)))))) j34_5)))
def j34_1 : ACode := x34_1.code
def x34_0 : XC := (.seq (.reg [1] r34_0 []) (.seq (.reg [1, 3] r34_1 []) (.seq (.reg [1, 3, 4] r34_2 []) (.jn [4] (.seq (.reg [3, 4, 18, 19, 20] r34_3 []) (.block 0 (.loop [3, 4, 18, 19, 20] j34_1))) j34_8))))
def a34 : AFunc := ⟨[.tmp 2], x34_0.code⟩
/-! ### 35 (*rewind/lean.faller).list -/
def r35_0 : List AOper := [o1 10 (.mv (.t 1)),
 o1 11 (.len false (.t 10)),
 o1 12 (.mv (.c (.int .i64 0)))]
def r35_1 : List AOper := [o1 13 (.bin .lss (.t 12) (.t 11))]
def r35_12 : List AOper := [o1 57 (.bin .add (.t 12) (.c (.int .i64 1))),
 o1 12 (.mv (.t 57))]
def x35_4 : XC := (.reg [0, 1, 2, 10, 11, 12] r35_12 [])
def j35_4 : ACode := x35_4.code
def r35_2 : List AOper := [o1 14 (.mv (.t 12)),
 o1 15 (.ixa 1 (.t 10) (.t 12)),
 o1 16 (.load 1 false (.t 15)),
 o1 6 (.mv (.t 14)),
 o1 7 (.mv (.t 16))]
def r35_3 : List AOper := [o1 17 (.mv (.t 2)),
 o1 8 (.mv (.t 17))]
def r35_6 : List AOper := [o1 28 (.mv (.t 0)),
 o1 29 (.nilck (.t 28)),
 o1 30 (.fadd 3 (.t 29)),
 o1 31 (.load 1 false (.t 30)),
 o1 32 (.mv (.t 7)),
 o1 33 (.mv (.t 8)),
 o1 34 (.ixa 1 (.t 31) (.t 32)),
 o0 (.store 1 (.t 34) (.t 33))]
def r35_7 : List AOper := [o1 35 (.mv (.t 0)),
 o1 36 (.nilck (.t 35)),
 o1 37 (.fadd 0 (.t 36)),
 o1 38 (.fadd 1 (.t 37)),
 o1 39 (.load 1 false (.t 38)),
 o1 40 (.mv (.t 7)),
 o1 41 (.ixa 9 (.t 39) (.t 40)),
 o1 42 (.load 9 true (.t 41)),
 o1 9 (.alloc [.int .i64 0, .int .i64 0, .int .i64 0, .str [], .int .i64 0, .int .i64 0, .int .i64 0, .sl .cap0 1 [], .sl .cap0 1 []]),
 o0 (.store 9 (.t 9) (.t 42))]
def r35_10 : List AOper := [o1 47 (.mv (.t 0)),
 o1 48 (.fadd 7 (.t 9)),
 o1 49 (.load 1 false (.t 48)),
 o1 50 (.mv (.t 8)),
 o1 51 (.call 35 [.t 47, .t 49, .t 50])]
def r35_11 : List AOper := [o1 52 (.mv (.t 0)),
 o1 53 (.fadd 8 (.t 9)),
 o1 54 (.load 1 false (.t 53)),
 o1 55 (.mv (.t 8)),
 o1 56 (.call 35 [.t 52, .t 54, .t 55])]
def x35_2 : XC := (.seq (.reg [0, 1, 2, 8, 9, 10, 11, 12] r35_10 []) (.reg [0, 1, 2, 10, 11, 12] r35_11 []))
def j35_2 : ACode := x35_2.code
def r35_8 : List AOper := [o1 43 (.fadd 0 (.t 9)),
 o1 44 (.load 1 false (.t 43)),
 o1 45 (.bin .eql (.t 44) (.c (.int .i64 6)))]
def r35_9 : List AOper := [o1 46 (.mv (.t 7)),
 o1 8 (.mv (.t 46))]
def x35_3 : XC := (.seq (.reg [0, 1, 2, 7, 8, 10, 11, 12] r35_6 [false, true, true, true, false, false, false, true]) (.seq (.reg [0, 1, 2, 7, 8, 9, 10, 11, 12] r35_7 [false, true, true, true, true, false, false, true]) (.jn [0, 1, 2, 8, 9, 10, 11, 12] (.seq (.reg [0, 1, 2, 7, 8, 9, 10, 11, 12, 45] r35_8 []) (.cond (.t 45) (.reg [0, 1, 2, 8, 9, 10, 11, 12] r35_9 []) .skip)) j35_2)))
def j35_3 : ACode := x35_3.code
def r35_4 : List AOper := [o1 18 (.mv (.t 6)),
 o1 19 (.bin .add (.t 18) (.c (.int .i64 1))),
 o1 20 (.mv (.t 1)),
 o1 21 (.len false (.t 20)),
 o1 22 (.bin .lss (.t 19) (.t 21))]
def r35_5 : List AOper := [o1 23 (.mv (.t 1)),
 o1 24 (.mv (.t 6)),
 o1 25 (.bin .add (.t 24) (.c (.int .i64 1))),
 o1 26 (.ixa 1 (.t 23) (.t 25)),
 o1 27 (.load 1 false (.t 26)),
 o1 8 (.mv (.t 27))]
def x35_1 : XC := (.seq (.reg [0, 1, 2, 10, 11, 12, 13] r35_1 []) (.seq (.cond (.t 13) .skip (.exit 0)) (.jn [0, 1, 2, 10, 11, 12] (.block 1 (.seq (.reg [0, 1, 2, 6, 7, 10, 11, 12] r35_2 [false, false, true]) (.seq (.reg [0, 1, 2, 6, 7, 8, 10, 11, 12] r35_3 []) (.jn [0, 1, 2, 7, 8, 10, 11, 12] (.seq (.reg [0, 1, 2, 6, 7, 8, 10, 11, 12, 22] r35_4 []) (.cond (.t 22) (.reg [0, 1, 2, 7, 8, 10, 11, 12] r35_5 [false, false, false, false, true]) .skip)) j35_3)))) j35_4)))
def j35_1 : ACode := x35_1.code
def x35_0 : XC := (.seq (.reg [0, 1, 2, 10, 11, 12] r35_0 []) (.block 0 (.loop [0, 1, 2, 10, 11, 12] j35_1)))
def a35 : AFunc := ⟨[], x35_0.code⟩
/-! ### 36 rewind/rewindref07.lay -/
def r36_0 : List AOper := [o1 5 (.box (.t 0)),
 o1 10 (.mv (.c (.sl .cap0 4 [])))]
def r36_12 : List AOper := [o1 67 (.mv (.t 1)),
 o1 10 (.mv (.t 67))]
def x36_4 : XC := (.seq (.reg [10] r36_12 []) .ret)
def j36_4 : ACode := x36_4.code
def r36_1 : List AOper := [o1 14 (.mv (.t 2)),
 o1 15 (.len false (.t 14)),
 o1 16 (.mv (.c (.int .i64 0)))]
def r36_2 : List AOper := [o1 17 (.bin .lss (.t 16) (.t 15))]
def r36_11 : List AOper := [o1 66 (.bin .add (.t 16) (.c (.int .i64 1))),
 o1 16 (.mv (.t 66))]
def x36_3 : XC := (.reg [1, 2, 3, 4, 5, 15, 16] r36_11 [])
def j36_3 : ACode := x36_3.code
def r36_3 : List AOper := [o1 18 (.mv (.t 16)),
 o1 11 (.mv (.t 18))]
def r36_4 : List AOper := [o1 19 (.fadd 1 (.t 5)),
 o1 20 (.loadS (some 5) 1 false (.t 19)),
 o1 21 (.mv (.t 2)),
 o1 22 (.mv (.t 11)),
 o1 23 (.ixa 1 (.t 21) (.t 22)),
 o1 24 (.load 1 false (.t 23)),
 o1 25 (.ixa 9 (.t 20) (.t 24)),
 o1 26 (.load 9 true (.t 25)),
 o1 12 (.alloc [.int .i64 0, .int .i64 0, .int .i64 0, .str [], .int .i64 0, .int .i64 0, .int .i64 0, .sl .cap0 1 [], .sl .cap0 1 []]),
 o0 (.storeL 12 9 (.t 12) (.t 26))]
def o36_4 : Sch := .op 0 <| .op 1 <| .op 2 <| .op 3 <| .op 4 <| .op 8 <| .op 5 <| .op 6 <| .op 7 <| .op 9 <| .nil
def r36_5 : List AOper := [o1 27 (.mv (.t 1)),
 o1 28 (.mv (.t 2)),
 o1 29 (.mv (.t 11)),
 o1 30 (.ixa 1 (.t 28) (.t 29)),
 o1 31 (.load 1 false (.t 30)),
 o1 32 (.mv (.t 2)),
 o1 33 (.mv (.t 11)),
 o1 34 (.mv (.t 3)),
 o1 35 (.mv (.t 4)),
 o1 36 (.build [.sl .cap0 1 [], .int .i64 0, .int .i64 0, .int .i64 0] [(0, 1, (.t 32)), (1, 1, (.t 33)), (2, 1, (.t 34)), (3, 1, (.t 35))]),
 o1 37 (.ixa 4 (.t 27) (.t 31)),
 o0 (.store 4 (.t 37) (.t 36))]
def r36_6 : List AOper := [o1 38 (.mv (.t 4)),
 o1 13 (.mv (.t 38))]
def r36_9 : List AOper := [o1 46 (.loadS (some 5) 3 true (.t 5)),
 o1 47 (.mv (.t 1)),
 o1 48 (.fadd 7 (.t 12)),
 o1 49 (.loadS (some 12) 1 false (.t 48)),
 o1 50 (.mv (.t 2)),
 o1 51 (.mv (.t 11)),
 o1 52 (.ixa 1 (.t 50) (.t 51)),
 o1 53 (.load 1 false (.t 52)),
 o1 54 (.mv (.t 13)),
 o1 55 (.call 36 [.t 46, .t 47, .t 49, .t 53, .t 54]),
 o1 1 (.mv (.t 55))]
def o36_9 : Sch := .op 0 <| .op 1 <| .op 2 <| .op 3 <| .op 4 <| .op 5 <| .op 6 <| .op 8 <| .op 7 <| .op 9 <| .op 10 <| .nil
def r36_10 : List AOper := [o1 56 (.loadS (some 5) 3 true (.t 5)),
 o1 57 (.mv (.t 1)),
 o1 58 (.fadd 8 (.t 12)),
 o1 59 (.loadS (some 12) 1 false (.t 58)),
 o1 60 (.mv (.t 2)),
 o1 61 (.mv (.t 11)),
 o1 62 (.ixa 1 (.t 60) (.t 61)),
 o1 63 (.load 1 false (.t 62)),
 o1 64 (.mv (.t 13)),
 o1 65 (.call 36 [.t 56, .t 57, .t 59, .t 63, .t 64]),
 o1 1 (.mv (.t 65))]
def o36_10 : Sch := .op 0 <| .op 1 <| .op 2 <| .op 3 <| .op 4 <| .op 5 <| .op 6 <| .op 8 <| .op 7 <| .op 9 <| .op 10 <| .nil
def x36_2 : XC := (.seq (.any [1, 2, 3, 4, 5, 11, 12, 13, 15, 16] r36_9 o36_9 [false, false, false, false, false, false, false, true]) (.any [1, 2, 3, 4, 5, 15, 16] r36_10 o36_10 [false, false, false, false, false, false, false, true]))
def j36_2 : ACode := x36_2.code
def r36_7 : List AOper := [o1 39 (.fadd 0 (.t 12)),
 o1 40 (.load 1 false (.t 39)),
 o1 41 (.bin .eql (.t 40) (.c (.int .i64 6)))]
def r36_8 : List AOper := [o1 42 (.mv (.t 2)),
 o1 43 (.mv (.t 11)),
 o1 44 (.ixa 1 (.t 42) (.t 43)),
 o1 45 (.load 1 false (.t 44)),
 o1 13 (.mv (.t 45))]
def x36_1 : XC := (.seq (.reg [1, 2, 3, 4, 5, 15, 16, 17] r36_2 []) (.seq (.cond (.t 17) .skip (.exit 0)) (.jn [1, 2, 3, 4, 5, 15, 16] (.block 1 (.seq (.reg [1, 2, 3, 4, 5, 11, 15, 16] r36_3 []) (.seq (.any [1, 2, 3, 4, 5, 11, 12, 15, 16] r36_4 o36_4 [false, false, false, false, false, true, false, true]) (.seq (.reg [1, 2, 3, 4, 5, 11, 12, 15, 16] r36_5 [false, false, false, false, true, false, false, false, false, false, false, true]) (.seq (.reg [1, 2, 3, 4, 5, 11, 12, 13, 15, 16] r36_6 []) (.jn [1, 2, 3, 4, 5, 11, 12, 13, 15, 16] (.seq (.reg [1, 2, 3, 4, 5, 11, 12, 13, 15, 16, 41] r36_7 []) (.cond (.t 41) (.reg [1, 2, 3, 4, 5, 11, 12, 13, 15, 16] r36_8 [false, false, false, true]) .skip)) j36_2)))))) j36_3)))
def j36_1 : ACode := x36_1.code
def x36_0 : XC := (.seq (.reg [1, 2, 3, 4, 5] r36_0 []) (.jn [1] (.seq (.reg [1, 2, 3, 4, 5, 15, 16] r36_1 []) (.block 0 (.loop [1, 2, 3, 4, 5, 15, 16] j36_1))) j36_4))
def a36 : AFunc := ⟨[.tmp 10], x36_0.code⟩
/-! ### 37 rewind/rewindref07.Next -/
def r37_0 : List AOper := [o1 3 (.box (.t 0)),
 o1 6 (.mv (.c (.sl .cap0 1 [])))]
def r37_1 : List AOper := [o1 11 (.fadd 1 (.t 3)),
 o1 12 (.load 1 false (.t 11)),
 o1 13 (.mv (.t 2)),
 o1 14 (.ixa 9 (.t 12) (.t 13)),
 o1 15 (.load 9 true (.t 14)),
 o1 7 (.alloc [.int .i64 0, .int .i64 0, .int .i64 0, .str [], .int .i64 0, .int .i64 0, .int .i64 0, .sl .cap0 1 [], .sl .cap0 1 []]),
 o0 (.store 9 (.t 7) (.t 15))]
def r37_2 : List AOper := [o1 16 (.load 3 true (.t 3)),
 o1 17 (.mv (.t 1)),
 o1 18 (.mv (.t 2)),
 o1 19 (.call 24 [.t 16, .t 17, .t 18]),
 o1 8 (.mv (.t 19))]
def r37_21 : List AOper := [o1 82 (.mv (.t 8)),
 o1 83 (.mkSl 1 [.t 82]),
 o1 6 (.mv (.t 83))]
def x37_3 : XC := (.seq (.reg [6] r37_21 []) .ret)
def j37_3 : ACode := x37_3.code
def r37_3 : List AOper := [o1 20 (.fadd 0 (.t 7)),
 o1 21 (.load 1 false (.t 20))]
def r37_4 : List AOper := [o1 23 (.bin .eql (.t 21) (.c (.int .i64 5))),
 o1 22 (.mv (.t 23))]
def r37_5 : List AOper := [o1 24 (.mv (.t 8)),
 o1 25 (.mv (.t 8)),
 o1 9 (.mv (.t 24)),
 o1 10 (.mv (.t 25))]
def r37_10 : List AOper := [o1 42 (.mv (.t 9)),
 o1 43 (.mv (.t 10)),
 o1 44 (.mkSl 1 [.t 42, .t 43]),
 o1 6 (.mv (.t 44))]
def x37_1 : XC := (.seq (.reg [6] r37_10 []) .ret)
def j37_1 : ACode := x37_1.code
def r37_8 : List AOper := [o1 34 (.fadd 8 (.t 7)),
 o1 35 (.load 1 false (.t 34)),
 o1 36 (.len false (.t 35)),
 o1 37 (.bin .gtr (.t 36) (.c (.int .i64 0)))]
def r37_9 : List AOper := [o1 38 (.fadd 8 (.t 7)),
 o1 39 (.load 1 false (.t 38)),
 o1 40 (.ixa 1 (.t 39) (.c (.int .i64 0))),
 o1 41 (.load 1 false (.t 40)),
 o1 10 (.mv (.t 41))]
def x37_2 : XC := (.jn [9, 10] (.seq (.reg [7, 9, 10, 37] r37_8 []) (.cond (.t 37) (.reg [9, 10] r37_9 [false, false, false, true]) .skip)) j37_1)
def j37_2 : ACode := x37_2.code
def r37_6 : List AOper := [o1 26 (.fadd 7 (.t 7)),
 o1 27 (.load 1 false (.t 26)),
 o1 28 (.len false (.t 27)),
 o1 29 (.bin .gtr (.t 28) (.c (.int .i64 0)))]
def r37_7 : List AOper := [o1 30 (.fadd 7 (.t 7)),
 o1 31 (.load 1 false (.t 30)),
 o1 32 (.ixa 1 (.t 31) (.c (.int .i64 0))),
 o1 33 (.load 1 false (.t 32)),
 o1 9 (.mv (.t 33))]
def r37_11 : List AOper := [o1 46 (.bin .eql (.t 21) (.c (.int .i64 6))),
 o1 45 (.mv (.t 46))]
def r37_12 : List AOper := [o1 47 (.fadd 7 (.t 7)),
 o1 48 (.load 1 false (.t 47)),
 o1 49 (.len false (.t 48)),
 o1 50 (.bin .gtr (.t 49) (.c (.int .i64 0)))]
def r37_13 : List AOper := [o1 51 (.fadd 7 (.t 7)),
 o1 52 (.load 1 false (.t 51)),
 o1 53 (.ixa 1 (.t 52) (.c (.int .i64 0))),
 o1 54 (.load 1 false (.t 53)),
 o1 55 (.mv (.t 8)),
 o1 56 (.mkSl 1 [.t 54, .t 55]),
 o1 6 (.mv (.t 56))]
def r37_14 : List AOper := [o1 57 (.mv (.t 2)),
 o1 58 (.mv (.t 8)),
 o1 59 (.mkSl 1 [.t 57, .t 58]),
 o1 6 (.mv (.t 59))]
def r37_15 : List AOper := [o1 61 (.bin .eql (.t 21) (.c (.int .i64 7))),
 o1 60 (.mv (.t 61))]
def r37_16 : List AOper := [o1 62 (.loadS (some 3) 3 true (.t 3)),
 o1 63 (.mv (.t 1)),
 o1 64 (.mv (.t 1)),
 o1 65 (.mv (.t 2)),
 o1 66 (.ixa 4 (.t 64) (.t 65)),
 o1 67 (.fadd 3 (.t 66)),
 o1 68 (.load 1 false (.t 67)),
 o1 69 (.call 24 [.t 62, .t 63, .t 68]),
 o1 70 (.mkSl 1 [.t 69]),
 o1 6 (.mv (.t 70))]
def o37_16 : Sch := .op 0 <| .op 1 <| .op 2 <| .op 3 <| .op 4 <| .op 5 <| .op 6 <| .op 7 <| .op 8 <| .op 9 <| .nil
def r37_17 : List AOper := [o1 72 (.bin .eql (.t 21) (.c (.int .i64 8))),
 o1 71 (.mv (.t 72))]
def r37_18 : List AOper := [o1 73 (.mv (.t 1)),
 o1 74 (.mv (.t 2)),
 o1 75 (.ixa 4 (.t 73) (.t 74)),
 o1 76 (.fadd 3 (.t 75)),
 o1 77 (.load 1 false (.t 76)),
 o1 78 (.mkSl 1 [.t 77]),
 o1 6 (.mv (.t 78))]
def r37_19 : List AOper := [o1 80 (.bin .eql (.t 21) (.c (.int .i64 9))),
 o1 79 (.mv (.t 80))]
def r37_20 : List AOper := [o1 81 (.mkSl 1 [(.c (.int .i64 (-1)))]),
 o1 6 (.mv (.t 81))]
def x37_0 : XC := (.seq (.reg [1, 2, 3] r37_0 []) (.seq (.reg [1, 2, 3, 7] r37_1 [false, false, false, false, true]) (.seq (.reg [1, 2, 3, 7, 8] r37_2 []) (.jn [8] (.seq (.reg [1, 2, 3, 7, 8, 21] r37_3 []) (.block 0 (.seq (.reg [1, 2, 3, 7, 8, 21, 22] r37_4 []) (.cond (.t 22) (.seq (.reg [7, 9, 10] r37_5 []) (.jn [7, 9, 10] (.seq (.reg [7, 9, 10, 29] r37_6 []) (.cond (.t 29) (.reg [7, 9, 10] r37_7 [false, false, false, true]) .skip)) j37_2)) (.seq (.reg [1, 2, 3, 7, 8, 21, 45] r37_11 []) (.cond (.t 45) (.seq (.seq (.reg [2, 7, 8, 50] r37_12 []) (.cond (.t 50) (.seq (.reg [6] r37_13 [false, false, false, true]) .ret) .skip)) (.seq (.reg [6] r37_14 []) .ret)) (.seq (.reg [1, 2, 3, 8, 21, 60] r37_15 []) (.cond (.t 60) (.seq (.any [6] r37_16 o37_16 [false, false, false, false, false, true, true]) .ret) (.seq (.reg [1, 2, 8, 21, 71] r37_17 []) (.cond (.t 71) (.seq (.reg [6] r37_18 [false, false, false, true, true]) .ret) (.seq (.reg [8, 79] r37_19 []) (.cond (.t 79) (.seq (.reg [6] r37_20 []) .ret) .skip)))))))))))) j37_3))))
def a37 : AFunc := ⟨[.tmp 6], x37_0.code⟩
/-! ### 38 math/bits.Mul -/
def r38_0 : List AOper := [o1 4 (.mv (.c (.int .u64 0))),
 o1 5 (.mv (.c (.int .u64 0)))]
def r38_1 : List AOper := [o1 11 (.mv (.t 0)),
 o1 12 (.conv .u32 (.t 11)),
 o1 13 (.mv (.t 1)),
 o1 14 (.conv .u32 (.t 13)),
 o1 15 (.call 51 [.t 12, .t 14]),
 o1 10 (.mv (.t 15)),
 o1 16 (.ext (.t 10) 0),
 o1 17 (.ext (.t 10) 1),
 o1 6 (.mv (.t 16)),
 o1 7 (.mv (.t 17))]
def r38_2 : List AOper := [o1 18 (.mv (.t 6)),
 o1 19 (.conv .u64 (.t 18)),
 o1 20 (.mv (.t 7)),
 o1 21 (.conv .u64 (.t 20)),
 o1 4 (.mv (.t 19)),
 o1 5 (.mv (.t 21))]
def r38_3 : List AOper := [o1 23 (.mv (.t 0)),
 o1 24 (.mv (.t 1)),
 o1 25 (.call 52 [.t 23, .t 24]),
 o1 22 (.mv (.t 25)),
 o1 26 (.ext (.t 22) 0),
 o1 27 (.ext (.t 22) 1),
 o1 8 (.mv (.t 26)),
 o1 9 (.mv (.t 27))]
def r38_4 : List AOper := [o1 28 (.mv (.t 8)),
 o1 29 (.mv (.t 9)),
 o1 4 (.mv (.t 28)),
 o1 5 (.mv (.t 29))]
def x38_0 : XC := (.seq (.reg [0, 1] r38_0 []) (.seq (.cond (.c (.bool false)) (.seq (.reg [6, 7] r38_1 []) (.seq (.reg [4, 5] r38_2 []) .ret)) .skip) (.seq (.reg [8, 9] r38_3 []) (.seq (.reg [4, 5] r38_4 []) .ret))))
def a38 : AFunc := ⟨[.tmp 4, .tmp 5], x38_0.code⟩
/-! ### 39 (rewind/flow.Graph).Back -/
def r39_0 : List AOper := [o1 1 (.box (.t 0)),
 o1 2 (.mv (.c (.sl .cap0 1 [])))]
def r39_1 : List AOper := [o1 8 (.fadd 1 (.t 1)),
 o1 9 (.load 1 false (.t 8)),
 o1 10 (.len false (.t 9)),
 o1 11 (.mkArr [.sl .cap0 1 []] (.t 10)),
 o1 3 (.mv (.t 11))]
def r39_12 : List AOper := [o1 49 (.mv (.t 3)),
 o1 2 (.mv (.t 49))]
def x39_5 : XC := (.seq (.reg [2] r39_12 []) .ret)
def j39_5 : ACode := x39_5.code
def r39_2 : List AOper := [o1 12 (.fadd 1 (.t 1)),
 o1 13 (.load 1 false (.t 12)),
 o1 14 (.len false (.t 13)),
 o1 15 (.mv (.c (.int .i64 0)))]
def r39_3 : List AOper := [o1 16 (.bin .lss (.t 15) (.t 14))]
def r39_11 : List AOper := [o1 48 (.bin .add (.t 15) (.c (.int .i64 1))),
 o1 15 (.mv (.t 48))]
def x39_4 : XC := (.reg [3, 13, 14, 15] r39_11 [])
def j39_4 : ACode := x39_4.code
def r39_4 : List AOper := [o1 17 (.mv (.t 15)),
 o1 18 (.ixa 1 (.t 13) (.t 15)),
 o1 19 (.load 1 false (.t 18)),
 o1 4 (.mv (.t 17)),
 o1 5 (.mv (.t 19))]
def r39_5 : List AOper := [o1 20 (.mv (.t 5)),
 o1 21 (.len false (.t 20)),
 o1 22 (.mv (.c (.int .i64 0)))]
def r39_6 : List AOper := [o1 23 (.bin .lss (.t 22) (.t 21))]
def r39_10 : List AOper := [o1 47 (.bin .add (.t 22) (.c (.int .i64 1))),
 o1 22 (.mv (.t 47))]
def x39_3 : XC := (.reg [3, 4, 13, 14, 15, 20, 21, 22] r39_10 [])
def j39_3 : ACode := x39_3.code
def r39_7 : List AOper := [o1 24 (.ixa 1 (.t 20) (.t 22)),
 o1 25 (.load 1 false (.t 24)),
 o1 7 (.mv (.t 25))]
def r39_8 : List AOper := [o1 26 (.mv (.t 7)),
 o1 27 (.bin .neq (.t 26) (.c (.int .i64 (-1)))),
 o1 28 (.mv (.t 27)),
 ⟨(some 29), .mv (.t 3), some (28, true)⟩,
 ⟨(some 30), .mv (.t 7), some (28, true)⟩,
 ⟨(some 31), .ixa 1 (.t 29) (.t 30), some (28, true)⟩,
 ⟨(some 32), .load 1 false (.t 31), some (28, true)⟩,
 ⟨(some 33), .mv (.t 4), some (28, true)⟩,
 ⟨(some 34), .call 33 [.t 32, .t 33], some (28, true)⟩,
 ⟨(some 35), .un .not (.t 34), some (28, true)⟩,
 o1 36 (.pick (.t 28) (.t 35) (.c (.bool false)))]
def r39_9 : List AOper := [o1 37 (.mv (.t 3)),
 o1 38 (.mv (.t 7)),
 o1 39 (.mv (.t 3)),
 o1 40 (.mv (.t 7)),
 o1 41 (.ixa 1 (.t 39) (.t 40)),
 o1 42 (.load 1 false (.t 41)),
 o1 43 (.mv (.t 4)),
 o1 44 (.mkSl 1 [.t 43]),
 o1 45 (.app false 1 (.t 42) (.t 44)),
 o1 46 (.ixa 1 (.t 37) (.t 38)),
 o0 (.store 1 (.t 46) (.t 45))]
def x39_2 : XC := (.seq (.reg [3, 4, 13, 14, 15, 20, 21, 22, 23] r39_6 []) (.seq (.cond (.t 23) .skip (.exit 2)) (.jn [3, 4, 13, 14, 15, 20, 21, 22] (.block 3 (.seq (.reg [3, 4, 7, 13, 14, 15, 20, 21, 22] r39_7 [false, true]) (.seq (.reg [3, 4, 7, 13, 14, 15, 20, 21, 22, 36] r39_8 [false, false, false, false, false, false, true]) (.cond (.t 36) (.reg [3, 4, 13, 14, 15, 20, 21, 22] r39_9 [false, false, false, false, false, true, false, false, false, false, true]) .skip)))) j39_3)))
def j39_2 : ACode := x39_2.code
def x39_1 : XC := (.seq (.reg [3, 13, 14, 15, 16] r39_3 []) (.seq (.cond (.t 16) .skip (.exit 0)) (.jn [3, 13, 14, 15] (.block 1 (.seq (.reg [3, 4, 5, 13, 14, 15] r39_4 [false, false, true]) (.seq (.reg [3, 4, 13, 14, 15, 20, 21, 22] r39_5 []) (.block 2 (.loop [3, 4, 13, 14, 15, 20, 21, 22] j39_2))))) j39_4)))
def j39_1 : ACode := x39_1.code
def x39_0 : XC := (.seq (.reg [1] r39_0 []) (.seq (.reg [1, 3] r39_1 []) (.jn [3] (.seq (.reg [3, 13, 14, 15] r39_2 []) (.block 0 (.loop [3, 13, 14, 15] j39_1))) j39_5)))
def a39 : AFunc := ⟨[.tmp 2], x39_0.code⟩
/-! ### 40 (*rewind/fence.tree).finish$1 -/
def r40_0 : List AOper := [o1 8 (.load 1 false (.t 1)),
 o1 9 (.mv (.t 0)),
 o1 10 (.ixa 1 (.t 8) (.t 9)),
 o0 (.store 1 (.t 10) (.c (.bool true)))]
def r40_7 : List AOper := [o1 29 (.load 1 false (.t 4)),
 o1 30 (.mv (.t 0)),
 o1 31 (.mkSl 1 [.t 30]),
 o1 32 (.app true 1 (.t 29) (.t 31)),
 o0 (.store 1 (.t 4) (.t 32))]
def x40_3 : XC := (.reg [] r40_7 [true, false, false, false, true])
def j40_3 : ACode := x40_3.code
def r40_1 : List AOper := [o1 11 (.load 1 false (.t 2)),
 o1 12 (.mv (.t 0)),
 o1 13 (.ixa 1 (.t 11) (.t 12)),
 o1 14 (.load 1 false (.t 13)),
 o1 15 (.len false (.t 14)),
 o1 16 (.mv (.c (.int .i64 0)))]
def r40_2 : List AOper := [o1 17 (.bin .lss (.t 16) (.t 15))]
def r40_6 : List AOper := [o1 28 (.bin .add (.t 16) (.c (.int .i64 1))),
 o1 16 (.mv (.t 28))]
def x40_2 : XC := (.reg [0, 1, 3, 4, 14, 15, 16] r40_6 [])
def j40_2 : ACode := x40_2.code
def r40_3 : List AOper := [o1 18 (.ixa 1 (.t 14) (.t 16)),
 o1 19 (.load 1 false (.t 18)),
 o1 7 (.mv (.t 19))]
def r40_4 : List AOper := [o1 20 (.load 1 false (.t 1)),
 o1 21 (.mv (.t 7)),
 o1 22 (.ixa 1 (.t 20) (.t 21)),
 o1 23 (.load 1 false (.t 22)),
 o1 24 (.un .not (.t 23))]
def r40_5 : List AOper := [o1 25 (.load 1 false (.t 3)),
 o1 26 (.mv (.t 7)),
 o1 27 (.callV (.t 25) [.t 26])]
def x40_1 : XC := (.seq (.reg [0, 1, 3, 4, 14, 15, 16, 17] r40_2 []) (.seq (.cond (.t 17) .skip (.exit 0)) (.jn [0, 1, 3, 4, 14, 15, 16] (.block 1 (.seq (.reg [0, 1, 3, 4, 7, 14, 15, 16] r40_3 [false, true]) (.seq (.reg [0, 1, 3, 4, 7, 14, 15, 16, 24] r40_4 [true, false, false, true]) (.cond (.t 24) (.reg [0, 1, 3, 4, 14, 15, 16] r40_5 [true]) .skip)))) j40_2)))
def j40_1 : ACode := x40_1.code
def x40_0 : XC := (.seq (.reg [0, 1, 2, 3, 4] r40_0 [true, false, false, true]) (.jn [0, 4] (.seq (.reg [0, 1, 3, 4, 14, 15, 16] r40_1 [true, false, false, true]) (.block 0 (.loop [0, 1, 3, 4, 14, 15, 16] j40_1))) j40_3))
def a40 : AFunc := ⟨[], x40_0.code⟩
/-! ### 41 slices.Reverse[[]int,int] -/
def r41_0 : List AOper := [o1 4 (.mv (.t 0)),
 o1 5 (.len false (.t 4)),
 o1 6 (.bin .sub (.t 5) (.c (.int .i64 1))),
 o1 2 (.mv (.c (.int .i64 0))),
 o1 3 (.mv (.t 6))]
def r41_1 : List AOper := [o1 7 (.mv (.t 2)),
 o1 8 (.mv (.t 3)),
 o1 9 (.bin .lss (.t 7) (.t 8))]
def r41_3 : List AOper := [o1 14 (.mv (.t 0)),
 o1 15 (.mv (.t 2)),
 o1 16 (.mv (.t 0)),
 o1 17 (.mv (.t 3)),
 o1 18 (.mv (.t 0)),
 o1 19 (.mv (.t 3)),
 o1 20 (.ixa 1 (.t 18) (.t 19)),
 o1 21 (.load 1 false (.t 20)),
 o1 22 (.mv (.t 0)),
 o1 23 (.mv (.t 2)),
 o1 24 (.ixa 1 (.t 22) (.t 23)),
 o1 25 (.load 1 false (.t 24)),
 o1 26 (.ixa 1 (.t 14) (.t 15)),
 o0 (.store 1 (.t 26) (.t 21)),
 o1 27 (.ixa 1 (.t 16) (.t 17)),
 o0 (.store 1 (.t 27) (.t 25))]
def o41_3 : Sch := .op 0 <| .op 1 <| .op 2 <| .op 3 <| .op 4 <| .op 5 <| .op 6 <| .op 8 <| .op 9 <| .op 10 <| .op 7 <| .op 11 <| .op 12 <| .op 13 <| .op 14 <| .op 15 <| .nil
def r41_2 : List AOper := [o1 10 (.mv (.t 2)),
 o1 11 (.bin .add (.t 10) (.c (.int .i64 1))),
 o1 12 (.mv (.t 3)),
 o1 13 (.bin .sub (.t 12) (.c (.int .i64 1))),
 o1 2 (.mv (.t 11)),
 o1 3 (.mv (.t 13))]
def x41_1 : XC := (.seq (.seq (.reg [0, 2, 3, 9] r41_1 []) (.cond (.t 9) .skip (.exit 0))) (.seq (.block 1 (.any [0, 2, 3] r41_3 o41_3 [false, false, false, false, false, false, false, true, false, false, false, true, false, true, false, true])) (.reg [0, 2, 3] r41_2 [])))
def j41_1 : ACode := x41_1.code
def x41_0 : XC := (.seq (.reg [0, 2, 3] r41_0 []) (.block 0 (.loop [0, 2, 3] j41_1)))
def a41 : AFunc := ⟨[], x41_0.code⟩
/-! ### 42 (*rewind/fence.tree).meet -/
def r42_0 : List AOper := [o1 6 (.mv (.c (.int .i64 0)))]
def r42_7 : List AOper := [o1 47 (.mv (.t 1)),
 o1 6 (.mv (.t 47))]
def x42_2 : XC := (.seq (.reg [6] r42_7 []) .ret)
def j42_2 : ACode := x42_2.code
def r42_1 : List AOper := [o1 7 (.mv (.t 1)),
 o1 8 (.mv (.t 2)),
 o1 9 (.bin .neq (.t 7) (.t 8))]
def r42_3 : List AOper := [o1 18 (.mv (.t 1)),
 o1 19 (.bin .eql (.t 18) (.c (.int .i64 (-1)))),
 o1 20 (.mv (.t 19)),
 ⟨(some 21), .mv (.t 2), some (20, false)⟩,
 ⟨(some 22), .bin .eql (.t 21) (.c (.int .i64 (-1))), some (20, false)⟩,
 o1 23 (.pick (.t 20) (.c (.bool true)) (.t 22)),
 o1 17 (.mv (.t 23))]
def r42_4 : List AOper := [o1 6 (.mv (.c (.int .i64 (-1))))]
def r42_5 : List AOper := [o1 25 (.mv (.t 0)),
 o1 26 (.nilck (.t 25)),
 o1 27 (.fadd 3 (.t 26)),
 o1 28 (.load 1 false (.t 27)),
 o1 29 (.mv (.t 1)),
 o1 30 (.ixa 1 (.t 28) (.t 29)),
 o1 31 (.load 1 false (.t 30)),
 o1 32 (.mv (.t 0)),
 o1 33 (.nilck (.t 32)),
 o1 34 (.fadd 3 (.t 33)),
 o1 35 (.load 1 false (.t 34)),
 o1 36 (.mv (.t 2)),
 o1 37 (.ixa 1 (.t 35) (.t 36)),
 o1 38 (.load 1 false (.t 37)),
 o1 39 (.bin .gtr (.t 31) (.t 38)),
 o1 24 (.mv (.t 39))]
def o42_5 : Sch := .op 0 <| .op 1 <| .op 2 <| .op 3 <| .op 4 <| .op 5 <| .op 6 <| .op 7 <| .op 8 <| .op 9 <| .op 10 <| .op 11 <| .op 12 <| .op 13 <| .op 14 <| .op 15 <| .nil
def r42_6 : List AOper := [o1 40 (.mv (.t 0)),
 o1 41 (.nilck (.t 40)),
 o1 42 (.fadd 2 (.t 41)),
 o1 43 (.load 1 false (.t 42)),
 o1 44 (.mv (.t 1)),
 o1 45 (.ixa 1 (.t 43) (.t 44)),
 o1 46 (.load 1 false (.t 45)),
 o1 1 (.mv (.t 46))]
def r42_2 : List AOper := [o1 10 (.mv (.t 0)),
 o1 11 (.nilck (.t 10)),
 o1 12 (.fadd 2 (.t 11)),
 o1 13 (.load 1 false (.t 12)),
 o1 14 (.mv (.t 2)),
 o1 15 (.ixa 1 (.t 13) (.t 14)),
 o1 16 (.load 1 false (.t 15)),
 o1 2 (.mv (.t 16))]
def x42_1 : XC := (.seq (.seq (.reg [0, 1, 2, 9] r42_1 []) (.cond (.t 9) .skip (.exit 0))) (.block 1 (.block 2 (.seq (.reg [0, 1, 2, 17] r42_3 []) (.cond (.t 17) (.seq (.reg [6] r42_4 []) .ret) (.seq (.any [0, 1, 2, 24] r42_5 o42_5 [false, true, true, true, false, false, true, false, true, true, true, false, false, true]) (.cond (.t 24) (.reg [0, 1, 2] r42_6 [false, true, true, true, false, false, true]) (.reg [0, 1, 2] r42_2 [false, true, true, true, false, false, true]))))))))
def j42_1 : ACode := x42_1.code
def x42_0 : XC := (.seq (.reg [0, 1, 2] r42_0 []) (.jn [1] (.block 0 (.loop [0, 1, 2] j42_1)) j42_2))
def a42 : AFunc := ⟨[.tmp 6], x42_0.code⟩
/-! ### 43 rewind/rewindref02.All -/
def r43_0 : List AOper := [o1 2 (.mv (.c (.sl .cap0 3 []))),
 o1 3 (.mv (.c (.int .i64 0))),
 o1 4 (.mv (.c (.int .i64 0)))]
def r43_1 : List AOper := [o1 9 (.mv (.t 0)),
 o1 10 (.len true (.t 9)),
 o1 11 (.bin .gtr (.t 10) (.c (.int .i64 20000)))]
def r43_2 : List AOper := [o1 2 (.mv (.c (.sl .cap0 3 []))),
 o1 3 (.mv (.c (.int .i64 0))),
 o1 4 (.mv (.c (.int .i64 1)))]
def r43_3 : List AOper := [o1 5 (.mv (.c (.sl .cap0 3 [])))]
def r43_4 : List AOper := [o1 6 (.mv (.c (.int .i64 0)))]
def r43_5 : List AOper := [o1 13 (.mv (.t 0)),
 o1 14 (.mv (.t 6)),
 o1 15 (.call 53 [.t 13, .t 14]),
 o1 12 (.mv (.t 15)),
 o1 16 (.ext (.t 12) 0),
 o1 17 (.ext (.t 12) 1),
 o1 7 (.alloc [.int .i64 0, .int .i64 0, .int .i64 0]),
 o0 (.store 3 (.t 7) (.t 16)),
 o1 8 (.mv (.t 17))]
def r43_6 : List AOper := [o1 18 (.mv (.t 8)),
 o1 19 (.bin .neq (.t 18) (.c (.int .i64 0)))]
def r43_7 : List AOper := [o1 20 (.fadd 1 (.t 7)),
 o1 21 (.fadd 0 (.t 20)),
 o1 22 (.loadS (some 7) 1 false (.t 21)),
 o1 23 (.mv (.t 8)),
 o1 2 (.mv (.c (.sl .cap0 3 []))),
 o1 3 (.mv (.t 22)),
 o1 4 (.mv (.t 23))]
def o43_7 : Sch := .op 0 <| .op 1 <| .op 2 <| .op 3 <| .op 4 <| .op 5 <| .op 6 <| .nil
def r43_8 : List AOper := [o1 24 (.mv (.t 5)),
 o1 25 (.load 3 true (.t 7)),
 o1 26 (.mkSl 3 [.t 25]),
 o1 27 (.app false 3 (.t 24) (.t 26)),
 o1 5 (.mv (.t 27))]
def r43_9 : List AOper := [o1 28 (.fadd 0 (.t 7)),
 o1 29 (.load 1 false (.t 28)),
 o1 30 (.bin .eql (.t 29) (.c (.int .i64 0)))]
def r43_10 : List AOper := [o1 31 (.mv (.t 5)),
 o1 2 (.mv (.t 31)),
 o1 3 (.mv (.c (.int .i64 0))),
 o1 4 (.mv (.c (.int .i64 0)))]
def r43_11 : List AOper := [o1 32 (.fadd 1 (.t 7)),
 o1 33 (.fadd 1 (.t 32)),
 o1 34 (.load 1 false (.t 33)),
 o1 6 (.mv (.t 34))]
def x43_1 : XC := (.block 1 (.seq (.reg [0, 5, 7, 8] r43_5 []) (.seq (.seq (.reg [0, 5, 7, 8, 19] r43_6 []) (.cond (.t 19) (.seq (.any [2, 3, 4] r43_7 o43_7 []) .ret) .skip)) (.seq (.reg [0, 5, 7] r43_8 []) (.seq (.seq (.reg [0, 5, 7, 30] r43_9 []) (.cond (.t 30) (.seq (.reg [2, 3, 4] r43_10 []) .ret) .skip)) (.reg [0, 5, 6] r43_11 []))))))
def j43_1 : ACode := x43_1.code
def x43_0 : XC := (.seq (.reg [0] r43_0 []) (.seq (.seq (.reg [0, 11] r43_1 []) (.cond (.t 11) (.seq (.reg [2, 3, 4] r43_2 []) .ret) .skip)) (.seq (.reg [0, 5] r43_3 []) (.seq (.reg [0, 5, 6] r43_4 []) (.block 0 (.loop [0, 5, 6] j43_1))))))
def a43 : AFunc := ⟨[.tmp 2, .tmp 3, .tmp 4], x43_0.code⟩
/-! ### 44 rewind/rewindref04.function -/
def r44_0 : List AOper := [o1 1 (.box (.t 0)),
 o1 2 (.alloc [.str [], .sl .cap0 3 [], .int .i64 0, .sl .cap0 9 [], .sl .cap0 9 [], .sl .cap0 6 [], .int .i64 0, .int .i64 0])]
def r44_1 : List AOper := [o1 11 (.load 8 true (.t 1)),
 o1 12 (.call 54 [.t 11]),
 o1 3 (.mv (.t 12))]
def r44_4 : List AOper := [o1 25 (.load 8 true (.t 1)),
 o1 26 (.call 58 [(.t 25), (.c (.str [102, 117, 110, 99]))]),
 o1 27 (.call 57 [(.t 26), (.c (.int .i64 1))]),
 o1 24 (.mv (.t 27)),
 o1 28 (.ext (.t 24) 0),
 o1 29 (.ext (.t 24) 1),
 o1 4 (.alloc [.str [], .sl .cap0 3 [], .int .i64 0, .sl .cap0 9 [], .sl .cap0 9 [], .sl .cap0 6 [], .int .i64 0, .int .i64 0]),
 o0 (.store 8 (.t 4) (.t 28)),
 o1 5 (.mv (.t 29))]
def r44_5 : List AOper := [o1 30 (.load 8 true (.t 4)),
 o1 31 (.call 58 [(.t 30), (.c (.str [40]))]),
 o0 (.store 8 (.t 1) (.t 31))]
def r44_6 : List AOper := [o1 32 (.mv (.t 5)),
 o1 33 (.build [.str [], .int .i64 0, .int .i64 0, .sl .cap0 1 [], .int .i64 0, .sl .cap0 1 []] [(0, 1, (.t 32)), (4, 1, (.c (.int .i64 4)))]),
 o1 6 (.alloc [.str [], .int .i64 0, .int .i64 0, .sl .cap0 1 [], .int .i64 0, .sl .cap0 1 []]),
 o0 (.store 6 (.t 6) (.t 33))]
def r44_13 : List AOper := [o1 60 (.load 8 true (.t 1)),
 o1 61 (.call 58 [(.t 60), (.c (.str [41]))]),
 o0 (.store 8 (.t 1) (.t 61))]
def r44_17 : List AOper := [o1 68 (.load 8 true (.t 1)),
 o1 69 (.call 59 [(.t 68), (.c (.int .i64 1))]),
 o1 67 (.mv (.t 69)),
 o1 70 (.ext (.t 67) 0),
 o1 71 (.ext (.t 67) 1),
 o1 9 (.alloc [.str [], .sl .cap0 3 [], .int .i64 0, .sl .cap0 9 [], .sl .cap0 9 [], .sl .cap0 6 [], .int .i64 0, .int .i64 0]),
 o0 (.store 8 (.t 9) (.t 70)),
 o1 10 (.mv (.t 71))]
def r44_18 : List AOper := [o1 72 (.fadd 6 (.t 9)),
 o1 73 (.load 1 false (.t 72)),
 o1 74 (.bin .neq (.t 73) (.c (.int .i64 0)))]
def r44_19 : List AOper := [o1 75 (.load 8 true (.t 9)),
 o0 (.store 8 (.t 2) (.t 75))]
def r44_20 : List AOper := [o1 76 (.mv (.t 10)),
 o1 77 (.fadd 5 (.t 6)),
 o0 (.store 1 (.t 77) (.t 76))]
def r44_21 : List AOper := [o1 78 (.mv (.t 3)),
 o1 79 (.fadd 1 (.t 9)),
 o1 80 (.load 1 false (.t 79)),
 o1 81 (.fadd 2 (.t 9)),
 o1 82 (.load 1 false (.t 81)),
 o1 83 (.bin .sub (.t 82) (.c (.int .i64 1))),
 o1 84 (.ixa 3 (.t 80) (.t 83)),
 o1 85 (.fadd 1 (.t 84)),
 o1 86 (.fadd 1 (.t 85)),
 o1 87 (.load 1 false (.t 86)),
 o1 88 (.build [.int .i64 0, .int .i64 0] [(0, 1, (.t 78)), (1, 1, (.t 87))]),
 o1 89 (.fadd 1 (.t 6)),
 o0 (.store 2 (.t 89) (.t 88))]
def r44_22 : List AOper := [o1 90 (.fadd 3 (.t 9)),
 o1 91 (.fadd 2 (.t 90)),
 o1 92 (.load 1 false (.t 91)),
 o1 93 (.load 6 true (.t 6)),
 o1 94 (.mkSl 6 [.t 93]),
 o1 95 (.app false 6 (.t 92) (.t 94)),
 o1 96 (.fadd 3 (.t 9)),
 o1 97 (.fadd 2 (.t 96)),
 o0 (.store 1 (.t 97) (.t 95))]
def r44_23 : List AOper := [o1 98 (.load 8 true (.t 9)),
 o0 (.store 8 (.t 2) (.t 98))]
def x44_3 : XC := (.seq (.reg [2, 3, 6, 9, 10] r44_17 []) (.seq (.seq (.reg [2, 3, 6, 9, 10, 74] r44_18 []) (.cond (.t 74) (.seq (.reg [2] r44_19 []) .ret) .skip)) (.seq (.reg [2, 3, 6, 9] r44_20 []) (.seq (.reg [2, 6, 9] r44_21 [false, false, false, false, false, false, false, true, true, true]) (.seq (.reg [2, 9] r44_22 []) (.seq (.reg [2] r44_23 []) .ret))))))
def j44_3 : ACode := x44_3.code
def r44_14 : List AOper := [o1 62 (.load 8 true (.t 1)),
 o1 63 (.call 55 [(.t 62), (.c (.str [105, 110, 116]))])]
def r44_15 : List AOper := [o1 64 (.load 8 true (.t 1)),
 o1 65 (.call 58 [(.t 64), (.c (.str [105, 110, 116]))]),
 o0 (.store 8 (.t 1) (.t 65))]
def r44_16 : List AOper := [o1 66 (.fadd 4 (.t 6)),
 o0 (.store 1 (.t 66) (.c (.int .i64 1)))]
def x44_4 : XC := (.seq (.reg [1, 2, 3, 6] r44_13 []) (.jn [1, 2, 3, 6] (.seq (.reg [1, 2, 3, 6, 63] r44_14 []) (.cond (.t 63) (.seq (.reg [1, 2, 3, 6] r44_15 []) (.reg [1, 2, 3, 6] r44_16 [])) .skip)) j44_3))
def j44_4 : ACode := x44_4.code
def r44_7 : List AOper := [o1 34 (.fadd 6 (.t 1)),
 o1 35 (.load 1 false (.t 34)),
 o1 36 (.bin .eql (.t 35) (.c (.int .i64 0))),
 o1 37 (.mv (.t 36)),
 ⟨(some 38), .load 8 true (.t 1), some (37, true)⟩,
 ⟨(some 39), .call 55 [(.t 38), (.c (.str [41]))], some (37, true)⟩,
 ⟨(some 40), .un .not (.t 39), some (37, true)⟩,
 o1 41 (.pick (.t 37) (.t 40) (.c (.bool false)))]
def r44_10 : List AOper := [o1 49 (.load 8 true (.t 1)),
 o1 50 (.call 57 [(.t 49), (.c (.int .i64 1))]),
 o1 48 (.mv (.t 50)),
 o1 51 (.ext (.t 48) 0),
 o1 52 (.ext (.t 48) 1),
 o1 7 (.alloc [.str [], .sl .cap0 3 [], .int .i64 0, .sl .cap0 9 [], .sl .cap0 9 [], .sl .cap0 6 [], .int .i64 0, .int .i64 0]),
 o0 (.store 8 (.t 7) (.t 51)),
 o1 8 (.mv (.t 52))]
def r44_11 : List AOper := [o1 53 (.load 8 true (.t 7)),
 o0 (.store 8 (.t 1) (.t 53))]
def r44_12 : List AOper := [o1 54 (.fadd 3 (.t 6)),
 o1 55 (.load 1 false (.t 54)),
 o1 56 (.mv (.t 8)),
 o1 57 (.mkSl 1 [.t 56]),
 o1 58 (.app false 1 (.t 55) (.t 57)),
 o1 59 (.fadd 3 (.t 6)),
 o0 (.store 1 (.t 59) (.t 58))]
def x44_2 : XC := (.seq (.reg [1, 2, 3, 6, 7, 8] r44_10 []) (.seq (.reg [1, 2, 3, 6, 8] r44_11 []) (.reg [1, 2, 3, 6] r44_12 [])))
def j44_2 : ACode := x44_2.code
def r44_8 : List AOper := [o1 42 (.fadd 3 (.t 6)),
 o1 43 (.load 1 false (.t 42)),
 o1 44 (.len false (.t 43)),
 o1 45 (.bin .gtr (.t 44) (.c (.int .i64 0)))]
def r44_9 : List AOper := [o1 46 (.load 8 true (.t 1)),
 o1 47 (.call 58 [(.t 46), (.c (.str [44]))]),
 o0 (.store 8 (.t 1) (.t 47))]
def x44_1 : XC := (.seq (.seq (.reg [1, 2, 3, 6, 41] r44_7 []) (.cond (.t 41) .skip (.exit 0))) (.block 1 (.jn [1, 2, 3, 6] (.seq (.reg [1, 2, 3, 6, 45] r44_8 []) (.cond (.t 45) (.reg [1, 2, 3, 6] r44_9 []) .skip)) j44_2)))
def j44_1 : ACode := x44_1.code
def x44_5 : XC := (.seq (.reg [1, 2, 3, 4, 5] r44_4 []) (.seq (.reg [1, 2, 3, 5] r44_5 []) (.seq (.reg [1, 2, 3, 6] r44_6 []) (.jn [1, 2, 3, 6] (.block 0 (.loop [1, 2, 3, 6] j44_1)) j44_4))))
def j44_5 : ACode := x44_5.code
def r44_2 : List AOper := [o1 13 (.load 8 true (.t 1)),
 o1 14 (.call 55 [(.t 13), (.c (.str [102, 117, 110, 99]))]),
 o1 15 (.mv (.t 14)),
 ⟨(some 16), .fadd 3 (.t 1), some (15, true)⟩,
 ⟨(some 17), .fadd 2 (.t 16), some (15, true)⟩,
 ⟨(some 18), .load 1 false (.t 17), some (15, true)⟩,
 ⟨(some 19), .len false (.t 18), some (15, true)⟩,
 ⟨(some 20), .bin .geq (.t 19) (.c (.int .i64 32)), some (15, true)⟩,
 o1 21 (.pick (.t 15) (.t 20) (.c (.bool false)))]
def r44_3 : List AOper := [o1 22 (.load 8 true (.t 1)),
 o1 23 (.call 56 [(.t 22), (.c (.int .i64 5))]),
 o0 (.store 8 (.t 1) (.t 23))]
def x44_0 : XC := (.seq (.reg [1, 2] r44_0 []) (.seq (.reg [1, 2, 3] r44_1 []) (.jn [1, 2, 3] (.seq (.reg [1, 2, 3, 21] r44_2 []) (.cond (.t 21) (.reg [1, 2, 3] r44_3 []) .skip)) j44_5)))
def a44 : AFunc := ⟨[.cell 2 8 true], x44_0.code⟩
/-! ### 45 rewind/rewindref06.need -/
def r45_0 : List AOper := [o1 4 (.box (.t 0)),
 o1 8 (.alloc [.sl .cap0 9 [], .sl .cap0 9 [], .sl .cap0 6 [], .sl .cap0 1 [], .sl .cap0 1 [], .sl .cap0 1 [], .sl .cap0 1 [], .sl .cap0 1 [], .int .i64 0, .sl .cap0 3 [], .int .i64 0, .int .i64 0, .int .i64 0, .int .i64 0])]
def r45_4 : List AOper := [o1 20 (.load 14 true (.t 4)),
 o0 (.store 14 (.t 8) (.t 20))]
def x45_1 : XC := (.seq (.reg [8] r45_4 []) .ret)
def j45_1 : ACode := x45_1.code
def r45_1 : List AOper := [o1 9 (.fadd 12 (.t 4)),
 o1 10 (.load 1 false (.t 9)),
 o1 11 (.bin .eql (.t 10) (.c (.int .i64 0))),
 o1 12 (.mv (.t 11)),
 ⟨(some 13), .mv (.t 1), some (12, true)⟩,
 ⟨(some 14), .un .not (.t 13), some (12, true)⟩,
 o1 15 (.pick (.t 12) (.t 14) (.c (.bool false)))]
def r45_2 : List AOper := [o1 16 (.mv (.t 3)),
 o1 17 (.fadd 12 (.t 4)),
 o0 (.store 1 (.t 17) (.t 16))]
def r45_3 : List AOper := [o1 18 (.mv (.t 2)),
 o1 19 (.fadd 13 (.t 4)),
 o0 (.store 1 (.t 19) (.t 18))]
def x45_0 : XC := (.seq (.reg [1, 2, 3, 4, 8] r45_0 []) (.jn [4, 8] (.seq (.reg [2, 3, 4, 8, 15] r45_1 []) (.cond (.t 15) (.seq (.reg [2, 4, 8] r45_2 []) (.reg [4, 8] r45_3 [])) .skip)) j45_1))
def a45 : AFunc := ⟨[.cell 8 14 true], x45_0.code⟩
/-! ### 46 rewind/rewindref06.declare -/
def r46_0 : List AOper := [o1 4 (.box (.t 0)),
 o1 8 (.alloc [.sl .cap0 9 [], .sl .cap0 9 [], .sl .cap0 6 [], .sl .cap0 1 [], .sl .cap0 1 [], .sl .cap0 1 [], .sl .cap0 1 [], .sl .cap0 1 [], .int .i64 0, .sl .cap0 3 [], .int .i64 0, .int .i64 0, .int .i64 0, .int .i64 0]),
 o1 9 (.mv (.c (.int .i64 0)))]
def r46_1 : List AOper := [o1 10 (.mv (.c (.bool false)))]
def r46_7 : List AOper := [o1 42 (.fadd 3 (.t 4)),
 o1 43 (.fadd 4 (.t 42)),
 o1 44 (.load 1 false (.t 43)),
 o1 45 (.fadd 8 (.t 4)),
 o1 46 (.load 1 false (.t 45)),
 o1 47 (.ixa 1 (.t 44) (.t 46)),
 o1 48 (.load 1 false (.t 47)),
 o1 49 (.len false (.t 48)),
 o1 12 (.mv (.t 49))]
def r46_8 : List AOper := [o1 50 (.load 14 true (.t 4)),
 o1 51 (.mv (.t 10)),
 o1 52 (.un .not (.t 51)),
 o1 53 (.mv (.t 3)),
 o1 54 (.call 45 [(.t 50), (.t 52), (.t 53), (.c (.int .i64 7))]),
 o1 55 (.mv (.t 12)),
 o1 56 (.bin .lss (.t 55) (.c (.int .i64 64))),
 o1 57 (.mv (.t 3)),
 o1 58 (.call 45 [(.t 54), (.t 56), (.t 57), (.c (.int .i64 5))]),
 o0 (.store 14 (.t 4) (.t 58))]
def r46_9 : List AOper := [o1 59 (.fadd 12 (.t 4)),
 o1 60 (.load 1 false (.t 59)),
 o1 61 (.bin .neq (.t 60) (.c (.int .i64 0)))]
def r46_10 : List AOper := [o1 62 (.load 14 true (.t 4)),
 o0 (.store 14 (.t 8) (.t 62)),
 o1 9 (.mv (.c (.int .i64 (-1))))]
def r46_11 : List AOper := [o1 63 (.fadd 3 (.t 4)),
 o1 64 (.fadd 4 (.t 63)),
 o1 65 (.loadS (some 4) 1 false (.t 64)),
 o1 66 (.fadd 8 (.t 4)),
 o1 67 (.loadS (some 4) 1 false (.t 66)),
 o1 68 (.fadd 3 (.t 4)),
 o1 69 (.fadd 4 (.t 68)),
 o1 70 (.loadS (some 4) 1 false (.t 69)),
 o1 71 (.fadd 8 (.t 4)),
 o1 72 (.loadS (some 4) 1 false (.t 71)),
 o1 73 (.ixa 1 (.t 70) (.t 72)),
 o1 74 (.load 1 false (.t 73)),
 o1 75 (.mv (.t 2)),
 o1 76 (.mkSl 1 [.t 75]),
 o1 77 (.app false 1 (.t 74) (.t 76)),
 o1 78 (.ixa 1 (.t 65) (.t 67)),
 o0 (.store 1 (.t 78) (.t 77))]
def o46_11 : Sch := .op 0 <| .op 1 <| .op 2 <| .op 3 <| .op 4 <| .op 5 <| .op 6 <| .op 7 <| .op 8 <| .op 9 <| .op 10 <| .op 12 <| .op 13 <| .op 11 <| .op 14 <| .op 15 <| .op 16 <| .nil
def r46_12 : List AOper := [o1 79 (.mkSl 3 []),
 o1 80 (.fadd 9 (.t 4)),
 o1 81 (.loadS (some 4) 1 false (.t 80)),
 o1 82 (.app false 3 (.t 79) (.t 81)),
 o1 83 (.mv (.t 1)),
 o1 84 (.fadd 10 (.t 4)),
 o1 85 (.loadS (some 4) 1 false (.t 84)),
 o1 86 (.mv (.t 12)),
 o1 87 (.build [.str [], .int .i64 0, .int .i64 0] [(0, 1, (.t 83)), (1, 1, (.t 85)), (2, 1, (.t 86))]),
 o1 88 (.mkSl 3 [.t 87]),
 o1 89 (.app false 3 (.t 82) (.t 88)),
 o1 90 (.fadd 9 (.t 4)),
 o0 (.storeL 4 1 (.t 90) (.t 89))]
def o46_12 : Sch := .op 0 <| .op 1 <| .op 2 <| .op 4 <| .op 5 <| .op 6 <| .op 7 <| .op 8 <| .op 9 <| .op 3 <| .op 10 <| .op 11 <| .op 12 <| .nil
def r46_13 : List AOper := [o1 91 (.load 14 true (.t 4)),
 o1 92 (.mv (.t 12)),
 o0 (.store 14 (.t 8) (.t 91)),
 o1 9 (.mv (.t 92))]
def x46_2 : XC := (.seq (.reg [1, 2, 3, 4, 8, 10, 12] r46_7 [false, false, false, false, false, false, true]) (.seq (.reg [1, 2, 4, 8, 12] r46_8 []) (.seq (.seq (.reg [1, 2, 4, 8, 12, 61] r46_9 []) (.cond (.t 61) (.seq (.reg [8, 9] r46_10 []) .ret) .skip)) (.seq (.any [1, 4, 8, 12] r46_11 o46_11 [false, false, false, false, false, false, false, false, false, false, false, true, false, false, false, false, true]) (.seq (.any [4, 8, 12] r46_12 o46_12 []) (.seq (.reg [8, 9] r46_13 []) .ret))))))
def j46_2 : ACode := x46_2.code
def r46_2 : List AOper := [o1 13 (.fadd 9 (.t 4)),
 o1 14 (.load 1 false (.t 13)),
 o1 15 (.len false (.t 14)),
 o1 16 (.mv (.c (.int .i64 0)))]
def r46_3 : List AOper := [o1 17 (.bin .lss (.t 16) (.t 15))]
def r46_4 : List AOper := [o1 18 (.mv (.t 16)),
 o1 11 (.mv (.t 18))]
def r46_5 : List AOper := [o1 19 (.mv (.t 10)),
 o1 20 (.mv (.t 19)),
 ⟨(some 21), .fadd 9 (.t 4), some (20, false)⟩,
 ⟨(some 22), .loadS (some 4) 1 false (.t 21), some (20, false)⟩,
 ⟨(some 23), .mv (.t 11), some (20, false)⟩,
 ⟨(some 24), .ixa 3 (.t 22) (.t 23), some (20, false)⟩,
 ⟨(some 25), .fadd 0 (.t 24), some (20, false)⟩,
 ⟨(some 26), .load 1 false (.t 25), some (20, false)⟩,
 ⟨(some 27), .mv (.t 1), some (20, false)⟩,
 ⟨(some 28), .bin .eql (.t 26) (.t 27), some (20, false)⟩,
 ⟨(some 29), .mv (.t 28), some (20, false)⟩,
 ⟨(some 30), .fadd 9 (.t 4), some (29, true)⟩,
 ⟨(some 31), .loadS (some 4) 1 false (.t 30), some (29, true)⟩,
 ⟨(some 32), .mv (.t 11), some (29, true)⟩,
 ⟨(some 33), .ixa 3 (.t 31) (.t 32), some (29, true)⟩,
 ⟨(some 34), .fadd 1 (.t 33), some (29, true)⟩,
 ⟨(some 35), .load 1 false (.t 34), some (29, true)⟩,
 ⟨(some 36), .fadd 10 (.t 4), some (29, true)⟩,
 ⟨(some 37), .loadS (some 4) 1 false (.t 36), some (29, true)⟩,
 ⟨(some 38), .bin .eql (.t 35) (.t 37), some (29, true)⟩,
 ⟨(some 39), .pick (.t 29) (.t 38) (.c (.bool false)), some (20, false)⟩,
 o1 40 (.pick (.t 20) (.c (.bool true)) (.t 39)),
 o1 10 (.mv (.t 40))]
def o46_5 : Sch := .op 0 <| .op 1 <| .op 2 <| .op 3 <| .op 4 <| .op 5 <| .op 6 <| .op 7 <| .op 8 <| .op 9 <| .op 10 <| .op 11 <| .op 12 <| .op 13 <| .op 14 <| .op 15 <| .op 16 <| .op 17 <| .op 18 <| .op 19 <| .op 20 <| .op 21 <| .op 22 <| .nil
def r46_6 : List AOper := [o1 41 (.bin .add (.t 16) (.c (.int .i64 1))),
 o1 16 (.mv (.t 41))]
def x46_1 : XC := (.seq (.reg [1, 2, 3, 4, 8, 10, 15, 16, 17] r46_3 []) (.seq (.cond (.t 17) .skip (.exit 0)) (.seq (.block 1 (.seq (.reg [1, 2, 3, 4, 8, 10, 11, 15, 16] r46_4 []) (.any [1, 2, 3, 4, 8, 10, 15, 16] r46_5 o46_5 [false, false, false, false, false, false, true, true, false, false, false, false, false, false, false, true, true]))) (.reg [1, 2, 3, 4, 8, 10, 15, 16] r46_6 []))))
def j46_1 : ACode := x46_1.code
def x46_0 : XC := (.seq (.reg [1, 2, 3, 4, 8] r46_0 []) (.seq (.reg [1, 2, 3, 4, 8, 10] r46_1 []) (.jn [1, 2, 3, 4, 8, 10] (.seq (.reg [1, 2, 3, 4, 8, 10, 15, 16] r46_2 []) (.block 0 (.loop [1, 2, 3, 4, 8, 10, 15, 16] j46_1))) j46_2)))
def a46 : AFunc := ⟨[.cell 8 14 true, .tmp 9], x46_0.code⟩
/-! ### 47 rewind/rewindref06.Stmt -/
def r47_0 : List AOper := [o1 2 (.box (.t 0)),
 o1 4 (.alloc [.sl .cap0 9 [], .sl .cap0 9 [], .sl .cap0 6 [], .sl .cap0 1 [], .sl .cap0 1 [], .sl .cap0 1 [], .sl .cap0 1 [], .sl .cap0 1 [], .int .i64 0, .sl .cap0 3 [], .int .i64 0, .int .i64 0, .int .i64 0, .int .i64 0])]
def r47_1 : List AOper := [o1 21 (.fadd 12 (.t 2)),
 o1 22 (.load 1 false (.t 21)),
 o1 23 (.bin .neq (.t 22) (.c (.int .i64 0)))]
def r47_2 : List AOper := [o1 24 (.load 14 true (.t 2)),
 o0 (.store 14 (.t 4) (.t 24))]
def r47_3 : List AOper := [o1 25 (.fadd 0 (.t 2)),
 o1 26 (.fadd 1 (.t 25)),
 o1 27 (.load 1 false (.t 26)),
 o1 28 (.mv (.t 1)),
 o1 29 (.ixa 9 (.t 27) (.t 28)),
 o1 30 (.load 9 true (.t 29)),
 o1 5 (.alloc [.int .i64 0, .int .i64 0, .int .i64 0, .str [], .int .i64 0, .int .i64 0, .int .i64 0, .sl .cap0 1 [], .sl .cap0 1 []]),
 o0 (.store 9 (.t 5) (.t 30))]
def r47_4 : List AOper := [o1 31 (.fadd 1 (.t 5)),
 o1 32 (.fadd 0 (.t 31)),
 o1 33 (.load 1 false (.t 32)),
 o1 6 (.mv (.t 33))]
def r47_5 : List AOper := [o1 34 (.fadd 3 (.t 2)),
 o1 35 (.fadd 3 (.t 34)),
 o1 36 (.load 1 false (.t 35)),
 o1 37 (.mv (.t 1)),
 o1 38 (.fadd 8 (.t 2)),
 o1 39 (.load 1 false (.t 38)),
 o1 40 (.ixa 1 (.t 36) (.t 37)),
 o0 (.store 1 (.t 40) (.t 39))]
def r47_6 : List AOper := [o1 7 (.mv (.c (.int .i64 (-1))))]
def r47_55 : List AOper := [o1 273 (.load 14 true (.t 2)),
 o0 (.store 14 (.t 4) (.t 273))]
def x47_3 : XC := (.seq (.reg [4] r47_55 []) .ret)
def j47_3 : ACode := x47_3.code
def r47_53 : List AOper := [o1 264 (.fadd 12 (.t 2)),
 o1 265 (.load 1 false (.t 264)),
 o1 266 (.bin .eql (.t 265) (.c (.int .i64 0)))]
def r47_54 : List AOper := [o1 267 (.fadd 3 (.t 2)),
 o1 268 (.fadd 2 (.t 267)),
 o1 269 (.load 1 false (.t 268)),
 o1 270 (.mv (.t 1)),
 o1 271 (.mv (.t 7)),
 o1 272 (.ixa 1 (.t 269) (.t 270)),
 o0 (.store 1 (.t 272) (.t 271))]
def x47_4 : XC := (.jn [2, 4] (.seq (.reg [1, 2, 4, 7, 266] r47_53 []) (.cond (.t 266) (.reg [2, 4] r47_54 [false, false, false, false, false, false, true]) .skip)) j47_3)
def j47_4 : ACode := x47_4.code
def r47_7 : List AOper := [o1 41 (.fadd 0 (.t 5)),
 o1 42 (.load 1 false (.t 41))]
def r47_8 : List AOper := [o1 44 (.bin .eql (.t 42) (.c (.int .i64 1))),
 o1 43 (.mv (.t 44))]
def r47_9 : List AOper := [o1 46 (.load 14 true (.t 2)),
 o1 47 (.fadd 5 (.t 5)),
 o1 48 (.load 1 false (.t 47)),
 o1 49 (.call 60 [.t 46, .t 48]),
 o1 45 (.mv (.t 49)),
 o1 50 (.ext (.t 45) 0),
 o1 51 (.ext (.t 45) 1),
 o1 8 (.alloc [.sl .cap0 9 [], .sl .cap0 9 [], .sl .cap0 6 [], .sl .cap0 1 [], .sl .cap0 1 [], .sl .cap0 1 [], .sl .cap0 1 [], .sl .cap0 1 [], .int .i64 0, .sl .cap0 3 [], .int .i64 0, .int .i64 0, .int .i64 0, .int .i64 0]),
 o0 (.store 14 (.t 8) (.t 50)),
 o1 9 (.mv (.t 51))]
def r47_10 : List AOper := [o1 52 (.fadd 12 (.t 8)),
 o1 53 (.load 1 false (.t 52)),
 o1 54 (.bin .neq (.t 53) (.c (.int .i64 0)))]
def r47_11 : List AOper := [o1 55 (.load 14 true (.t 8)),
 o0 (.store 14 (.t 4) (.t 55))]
def r47_12 : List AOper := [o1 57 (.load 14 true (.t 8)),
 o1 58 (.fadd 3 (.t 5)),
 o1 59 (.load 1 false (.t 58)),
 o1 60 (.mv (.t 9)),
 o1 61 (.mv (.t 6)),
 o1 62 (.call 46 [.t 57, .t 59, .t 60, .t 61]),
 o1 56 (.mv (.t 62)),
 o1 63 (.ext (.t 56) 0),
 o1 64 (.ext (.t 56) 1),
 o0 (.store 14 (.t 2) (.t 63)),
 o1 7 (.mv (.t 64))]
def r47_13 : List AOper := [o1 66 (.bin .eql (.t 42) (.c (.int .i64 2))),
 o1 65 (.mv (.t 66))]
def r47_14 : List AOper := [o1 67 (.load 14 true (.t 2)),
 o1 68 (.fadd 4 (.t 5)),
 o1 69 (.load 1 false (.t 68)),
 o1 70 (.bin .geq (.t 69) (.c (.int .i64 1))),
 o1 71 (.mv (.t 70)),
 ⟨(some 72), .fadd 4 (.t 5), some (71, true)⟩,
 ⟨(some 73), .load 1 false (.t 72), some (71, true)⟩,
 ⟨(some 74), .bin .leq (.t 73) (.c (.int .i64 64)), some (71, true)⟩,
 o1 75 (.pick (.t 71) (.t 74) (.c (.bool false))),
 o1 76 (.mv (.t 6)),
 o1 77 (.call 45 [(.t 67), (.t 75), (.t 76), (.c (.int .i64 15))]),
 o0 (.store 14 (.t 2) (.t 77))]
def r47_15 : List AOper := [o1 78 (.fadd 12 (.t 2)),
 o1 79 (.load 1 false (.t 78)),
 o1 80 (.bin .neq (.t 79) (.c (.int .i64 0)))]
def r47_16 : List AOper := [o1 81 (.load 14 true (.t 2)),
 o0 (.store 14 (.t 4) (.t 81))]
def r47_17 : List AOper := [o1 83 (.load 14 true (.t 2)),
 o1 84 (.fadd 3 (.t 5)),
 o1 85 (.load 1 false (.t 84)),
 o1 86 (.mv (.t 6)),
 o1 87 (.call 46 [(.t 83), (.t 85), (.c (.int .i64 3)), (.t 86)]),
 o1 82 (.mv (.t 87)),
 o1 88 (.ext (.t 82) 0),
 o1 89 (.ext (.t 82) 1),
 o0 (.store 14 (.t 2) (.t 88)),
 o1 7 (.mv (.t 89))]
def r47_18 : List AOper := [o1 91 (.bin .eql (.t 42) (.c (.int .i64 3))),
 o1 90 (.mv (.t 91))]
def r47_19 : List AOper := [o1 93 (.load 14 true (.t 2)),
 o1 94 (.fadd 5 (.t 5)),
 o1 95 (.load 1 false (.t 94)),
 o1 96 (.call 60 [.t 93, .t 95]),
 o1 92 (.mv (.t 96)),
 o1 97 (.ext (.t 92) 0),
 o1 98 (.ext (.t 92) 1),
 o1 10 (.alloc [.sl .cap0 9 [], .sl .cap0 9 [], .sl .cap0 6 [], .sl .cap0 1 [], .sl .cap0 1 [], .sl .cap0 1 [], .sl .cap0 1 [], .sl .cap0 1 [], .int .i64 0, .sl .cap0 3 [], .int .i64 0, .int .i64 0, .int .i64 0, .int .i64 0]),
 o0 (.store 14 (.t 10) (.t 97)),
 o1 11 (.mv (.t 98))]
def r47_20 : List AOper := [o1 99 (.fadd 12 (.t 10)),
 o1 100 (.load 1 false (.t 99)),
 o1 101 (.bin .neq (.t 100) (.c (.int .i64 0)))]
def r47_21 : List AOper := [o1 102 (.load 14 true (.t 10)),
 o0 (.store 14 (.t 4) (.t 102))]
def r47_22 : List AOper := [o1 104 (.load 14 true (.t 10)),
 o1 105 (.fadd 3 (.t 5)),
 o1 106 (.load 1 false (.t 105)),
 o1 107 (.mv (.t 6)),
 o1 108 (.call 61 [(.t 104), (.t 106), (.c (.bool false)), (.t 107)]),
 o1 103 (.mv (.t 108)),
 o1 109 (.ext (.t 103) 0),
 o1 110 (.ext (.t 103) 1),
 o0 (.store 14 (.t 2) (.t 109)),
 o1 7 (.mv (.t 110))]
def r47_23 : List AOper := [o1 111 (.fadd 12 (.t 2)),
 o1 112 (.load 1 false (.t 111)),
 o1 113 (.bin .eql (.t 112) (.c (.int .i64 0)))]
def r47_24 : List AOper := [o1 114 (.loadS (some 2) 14 true (.t 2)),
 o1 115 (.mv (.t 11)),
 o1 116 (.fadd 3 (.t 2)),
 o1 117 (.fadd 4 (.t 116)),
 o1 118 (.loadS (some 2) 1 false (.t 117)),
 o1 119 (.fadd 8 (.t 2)),
 o1 120 (.loadS (some 2) 1 false (.t 119)),
 o1 121 (.ixa 1 (.t 118) (.t 120)),
 o1 122 (.load 1 false (.t 121)),
 o1 123 (.mv (.t 7)),
 o1 124 (.ixa 1 (.t 122) (.t 123)),
 o1 125 (.load 1 false (.t 124)),
 o1 126 (.bin .eql (.t 115) (.t 125)),
 o1 127 (.mv (.t 6)),
 o1 128 (.call 45 [(.t 114), (.t 126), (.t 127), (.c (.int .i64 8))]),
 o0 (.storeL 2 14 (.t 2) (.t 128))]
def o47_24 : Sch := .op 0 <| .op 1 <| .op 2 <| .op 3 <| .op 4 <| .op 5 <| .op 6 <| .op 7 <| .op 9 <| .op 13 <| .op 8 <| .op 10 <| .op 11 <| .op 12 <| .op 14 <| .op 15 <| .nil
def r47_25 : List AOper := [o1 130 (.bin .eql (.t 42) (.c (.int .i64 4))),
 o1 129 (.mv (.t 130))]
def r47_26 : List AOper := [o1 132 (.load 14 true (.t 2)),
 o1 133 (.fadd 5 (.t 5)),
 o1 134 (.load 1 false (.t 133)),
 o1 135 (.call 60 [.t 132, .t 134]),
 o1 131 (.mv (.t 135)),
 o1 136 (.ext (.t 131) 0),
 o1 137 (.ext (.t 131) 1),
 o1 12 (.alloc [.sl .cap0 9 [], .sl .cap0 9 [], .sl .cap0 6 [], .sl .cap0 1 [], .sl .cap0 1 [], .sl .cap0 1 [], .sl .cap0 1 [], .sl .cap0 1 [], .int .i64 0, .sl .cap0 3 [], .int .i64 0, .int .i64 0, .int .i64 0, .int .i64 0]),
 o0 (.store 14 (.t 12) (.t 136)),
 o1 13 (.mv (.t 137))]
def r47_27 : List AOper := [o1 139 (.load 14 true (.t 12)),
 o1 140 (.fadd 6 (.t 5)),
 o1 141 (.load 1 false (.t 140)),
 o1 142 (.call 60 [.t 139, .t 141]),
 o1 138 (.mv (.t 142)),
 o1 143 (.ext (.t 138) 0),
 o1 144 (.ext (.t 138) 1),
 o1 14 (.alloc [.sl .cap0 9 [], .sl .cap0 9 [], .sl .cap0 6 [], .sl .cap0 1 [], .sl .cap0 1 [], .sl .cap0 1 [], .sl .cap0 1 [], .sl .cap0 1 [], .int .i64 0, .sl .cap0 3 [], .int .i64 0, .int .i64 0, .int .i64 0, .int .i64 0]),
 o0 (.store 14 (.t 14) (.t 143)),
 o1 15 (.mv (.t 144))]
def r47_28 : List AOper := [o1 145 (.fadd 12 (.t 14)),
 o1 146 (.load 1 false (.t 145)),
 o1 147 (.bin .neq (.t 146) (.c (.int .i64 0)))]
def r47_29 : List AOper := [o1 148 (.load 14 true (.t 14)),
 o0 (.store 14 (.t 4) (.t 148))]
def r47_30 : List AOper := [o1 150 (.load 14 true (.t 14)),
 o1 151 (.fadd 3 (.t 5)),
 o1 152 (.load 1 false (.t 151)),
 o1 153 (.mv (.t 6)),
 o1 154 (.call 61 [(.t 150), (.t 152), (.c (.bool true)), (.t 153)]),
 o1 149 (.mv (.t 154)),
 o1 155 (.ext (.t 149) 0),
 o1 156 (.ext (.t 149) 1),
 o0 (.store 14 (.t 2) (.t 155)),
 o1 7 (.mv (.t 156))]
def r47_31 : List AOper := [o1 157 (.load 14 true (.t 2)),
 o1 158 (.mv (.t 13)),
 o1 159 (.bin .eql (.t 158) (.c (.int .i64 1))),
 o1 160 (.mv (.t 159)),
 ⟨(some 161), .mv (.t 15), some (160, true)⟩,
 ⟨(some 162), .bin .eql (.t 161) (.c (.int .i64 1)), some (160, true)⟩,
 o1 163 (.pick (.t 160) (.t 162) (.c (.bool false))),
 o1 164 (.mv (.t 6)),
 o1 165 (.call 45 [(.t 157), (.t 163), (.t 164), (.c (.int .i64 8))]),
 o0 (.store 14 (.t 2) (.t 165))]
def r47_32 : List AOper := [o1 167 (.bin .eql (.t 42) (.c (.int .i64 5))),
 o1 166 (.mv (.t 167))]
def r47_33 : List AOper := [o1 169 (.load 14 true (.t 2)),
 o1 170 (.fadd 5 (.t 5)),
 o1 171 (.load 1 false (.t 170)),
 o1 172 (.call 60 [.t 169, .t 171]),
 o1 168 (.mv (.t 172)),
 o1 173 (.ext (.t 168) 0),
 o1 174 (.ext (.t 168) 1),
 o1 16 (.alloc [.sl .cap0 9 [], .sl .cap0 9 [], .sl .cap0 6 [], .sl .cap0 1 [], .sl .cap0 1 [], .sl .cap0 1 [], .sl .cap0 1 [], .sl .cap0 1 [], .int .i64 0, .sl .cap0 3 [], .int .i64 0, .int .i64 0, .int .i64 0, .int .i64 0]),
 o0 (.store 14 (.t 16) (.t 173)),
 o1 17 (.mv (.t 174))]
def r47_34 : List AOper := [o1 175 (.loadS (some 16) 14 true (.t 16)),
 o1 176 (.mv (.t 17)),
 o1 177 (.bin .eql (.t 176) (.c (.int .i64 2))),
 o1 178 (.mv (.t 6)),
 o1 179 (.call 45 [(.t 175), (.t 177), (.t 178), (.c (.int .i64 8))]),
 o1 180 (.fadd 7 (.t 5)),
 o1 181 (.loadS (some 5) 1 false (.t 180)),
 o1 182 (.call 62 [.t 179, .t 181]),
 o0 (.storeL 2 14 (.t 2) (.t 182))]
def o47_34 : Sch := .op 0 <| .op 1 <| .op 2 <| .op 3 <| .op 5 <| .op 6 <| .op 4 <| .op 7 <| .op 8 <| .nil
def r47_35 : List AOper := [o1 183 (.load 14 true (.t 2)),
 o1 184 (.fadd 8 (.t 5)),
 o1 185 (.load 1 false (.t 184)),
 o1 186 (.call 62 [.t 183, .t 185]),
 o0 (.store 14 (.t 2) (.t 186))]
def r47_36 : List AOper := [o1 188 (.bin .eql (.t 42) (.c (.int .i64 6))),
 o1 187 (.mv (.t 188))]
def r47_37 : List AOper := [o1 190 (.load 14 true (.t 2)),
 o1 191 (.fadd 5 (.t 5)),
 o1 192 (.load 1 false (.t 191)),
 o1 193 (.call 60 [.t 190, .t 192]),
 o1 189 (.mv (.t 193)),
 o1 194 (.ext (.t 189) 0),
 o1 195 (.ext (.t 189) 1),
 o1 18 (.alloc [.sl .cap0 9 [], .sl .cap0 9 [], .sl .cap0 6 [], .sl .cap0 1 [], .sl .cap0 1 [], .sl .cap0 1 [], .sl .cap0 1 [], .sl .cap0 1 [], .int .i64 0, .sl .cap0 3 [], .int .i64 0, .int .i64 0, .int .i64 0, .int .i64 0]),
 o0 (.store 14 (.t 18) (.t 194)),
 o1 19 (.mv (.t 195))]
def r47_38 : List AOper := [o1 196 (.fadd 11 (.t 18)),
 o1 197 (.load 1 false (.t 196)),
 o1 198 (.bin .add (.t 197) (.c (.int .i64 1))),
 o1 199 (.fadd 11 (.t 18)),
 o0 (.store 1 (.t 199) (.t 198))]
def r47_39 : List AOper := [o1 200 (.loadS (some 18) 14 true (.t 18)),
 o1 201 (.mv (.t 19)),
 o1 202 (.bin .eql (.t 201) (.c (.int .i64 2))),
 o1 203 (.mv (.t 6)),
 o1 204 (.call 45 [(.t 200), (.t 202), (.t 203), (.c (.int .i64 8))]),
 o1 205 (.fadd 7 (.t 5)),
 o1 206 (.loadS (some 5) 1 false (.t 205)),
 o1 207 (.call 62 [.t 204, .t 206]),
 o0 (.storeL 2 14 (.t 2) (.t 207))]
def o47_39 : Sch := .op 0 <| .op 1 <| .op 2 <| .op 3 <| .op 5 <| .op 6 <| .op 4 <| .op 7 <| .op 8 <| .nil
def r47_40 : List AOper := [o1 208 (.fadd 11 (.t 2)),
 o1 209 (.load 1 false (.t 208)),
 o1 210 (.bin .sub (.t 209) (.c (.int .i64 1))),
 o1 211 (.fadd 11 (.t 2)),
 o0 (.store 1 (.t 211) (.t 210))]
def r47_43 : List AOper := [o1 215 (.load 14 true (.t 2)),
 o1 216 (.fadd 11 (.t 2)),
 o1 217 (.load 1 false (.t 216)),
 o1 218 (.bin .gtr (.t 217) (.c (.int .i64 0))),
 o1 219 (.mv (.t 6)),
 o1 220 (.call 45 [(.t 215), (.t 218), (.t 219), (.c (.int .i64 9))]),
 o0 (.store 14 (.t 2) (.t 220))]
def r47_44 : List AOper := [o1 222 (.bin .eql (.t 42) (.c (.int .i64 9))),
 o1 221 (.mv (.t 222))]
def r47_45 : List AOper := [o1 20 (.mv (.c (.int .i64 4)))]
def r47_48 : List AOper := [o1 233 (.loadS (some 2) 14 true (.t 2)),
 o1 234 (.mv (.t 20)),
 o1 235 (.fadd 0 (.t 2)),
 o1 236 (.fadd 2 (.t 235)),
 o1 237 (.loadS (some 2) 1 false (.t 236)),
 o1 238 (.fadd 8 (.t 2)),
 o1 239 (.loadS (some 2) 1 false (.t 238)),
 o1 240 (.ixa 6 (.t 237) (.t 239)),
 o1 241 (.fadd 4 (.t 240)),
 o1 242 (.load 1 false (.t 241)),
 o1 243 (.bin .eql (.t 234) (.t 242)),
 o1 244 (.mv (.t 6)),
 o1 245 (.call 45 [(.t 233), (.t 243), (.t 244), (.c (.int .i64 8))]),
 o0 (.storeL 2 14 (.t 2) (.t 245))]
def o47_48 : Sch := .op 0 <| .op 1 <| .op 2 <| .op 3 <| .op 4 <| .op 5 <| .op 6 <| .op 7 <| .op 8 <| .op 11 <| .op 9 <| .op 10 <| .op 12 <| .op 13 <| .nil
def x47_1 : XC := (.any [1, 2, 4, 7] r47_48 o47_48 [false, false, false, false, false, false, false, false, true, true])
def j47_1 : ACode := x47_1.code
def r47_46 : List AOper := [o1 223 (.fadd 5 (.t 5)),
 o1 224 (.load 1 false (.t 223)),
 o1 225 (.bin .geq (.t 224) (.c (.int .i64 0)))]
def r47_47 : List AOper := [o1 227 (.load 14 true (.t 2)),
 o1 228 (.fadd 5 (.t 5)),
 o1 229 (.load 1 false (.t 228)),
 o1 230 (.call 60 [.t 227, .t 229]),
 o1 226 (.mv (.t 230)),
 o1 231 (.ext (.t 226) 0),
 o1 232 (.ext (.t 226) 1),
 o0 (.store 14 (.t 2) (.t 231)),
 o1 20 (.mv (.t 232))]
def r47_49 : List AOper := [o1 247 (.bin .eql (.t 42) (.c (.int .i64 10))),
 o1 246 (.mv (.t 247))]
def r47_50 : List AOper := [o1 249 (.load 14 true (.t 2)),
 o1 250 (.fadd 5 (.t 5)),
 o1 251 (.load 1 false (.t 250)),
 o1 252 (.call 60 [.t 249, .t 251]),
 o1 248 (.mv (.t 252)),
 o1 253 (.ext (.t 248) 0),
 o1 254 (.ext (.t 248) 1),
 o0 (.store 14 (.t 2) (.t 253))]
def r47_51 : List AOper := [o1 256 (.bin .eql (.t 42) (.c (.int .i64 11))),
 o1 255 (.mv (.t 256))]
def r47_52 : List AOper := [o1 258 (.load 14 true (.t 2)),
 o1 259 (.fadd 5 (.t 5)),
 o1 260 (.load 1 false (.t 259)),
 o1 261 (.call 63 [.t 258, .t 260]),
 o1 257 (.mv (.t 261)),
 o1 262 (.ext (.t 257) 0),
 o1 263 (.ext (.t 257) 1),
 o0 (.store 14 (.t 2) (.t 262))]
def x47_2 : XC := (.cond (.t 212) (.reg [1, 2, 4, 7] r47_43 []) (.seq (.reg [1, 2, 4, 5, 6, 7, 42, 221] r47_44 []) (.cond (.t 221) (.seq (.reg [1, 2, 4, 5, 6, 7, 20] r47_45 []) (.jn [1, 2, 4, 6, 7, 20] (.seq (.reg [1, 2, 4, 5, 6, 7, 20, 225] r47_46 []) (.cond (.t 225) (.reg [1, 2, 4, 6, 7, 20] r47_47 []) .skip)) j47_1)) (.seq (.reg [1, 2, 4, 5, 7, 42, 246] r47_49 []) (.cond (.t 246) (.reg [1, 2, 4, 7] r47_50 []) (.seq (.reg [1, 2, 4, 5, 7, 255] r47_51 []) (.cond (.t 255) (.reg [1, 2, 4, 7] r47_52 []) .skip)))))))
def j47_2 : ACode := x47_2.code
def r47_41 : List AOper := [o1 213 (.bin .eql (.t 42) (.c (.int .i64 7))),
 o1 212 (.mv (.t 213))]
def r47_42 : List AOper := [o1 214 (.bin .eql (.t 42) (.c (.int .i64 8))),
 o1 212 (.mv (.t 214))]
def x47_0 : XC := (.seq (.reg [1, 2, 4] r47_0 []) (.seq (.seq (.reg [1, 2, 4, 23] r47_1 []) (.cond (.t 23) (.seq (.reg [4] r47_2 []) .ret) .skip)) (.seq (.reg [1, 2, 4, 5] r47_3 [false, false, false, false, false, true]) (.seq (.reg [1, 2, 4, 5, 6] r47_4 []) (.seq (.reg [1, 2, 4, 5, 6] r47_5 [false, false, false, false, false, false, false, true]) (.seq (.reg [1, 2, 4, 5, 6, 7] r47_6 []) (.jn [1, 2, 4, 7] (.seq (.reg [1, 2, 4, 5, 6, 7, 42] r47_7 []) (.block 0 (.seq (.reg [1, 2, 4, 5, 6, 7, 42, 43] r47_8 []) (.cond (.t 43) (.seq (.reg [1, 2, 4, 5, 6, 8, 9] r47_9 []) (.seq (.seq (.reg [1, 2, 4, 5, 6, 8, 9, 54] r47_10 []) (.cond (.t 54) (.seq (.reg [4] r47_11 []) .ret) .skip)) (.reg [1, 2, 4, 7] r47_12 []))) (.seq (.reg [1, 2, 4, 5, 6, 7, 42, 65] r47_13 []) (.cond (.t 65) (.seq (.reg [1, 2, 4, 5, 6] r47_14 []) (.seq (.seq (.reg [1, 2, 4, 5, 6, 80] r47_15 []) (.cond (.t 80) (.seq (.reg [4] r47_16 []) .ret) .skip)) (.reg [1, 2, 4, 7] r47_17 []))) (.seq (.reg [1, 2, 4, 5, 6, 7, 42, 90] r47_18 []) (.cond (.t 90) (.seq (.reg [1, 2, 4, 5, 6, 10, 11] r47_19 []) (.seq (.seq (.reg [1, 2, 4, 5, 6, 10, 11, 101] r47_20 []) (.cond (.t 101) (.seq (.reg [4] r47_21 []) .ret) .skip)) (.seq (.reg [1, 2, 4, 6, 7, 11] r47_22 []) (.seq (.reg [1, 2, 4, 6, 7, 11, 113] r47_23 []) (.cond (.t 113) (.any [1, 2, 4, 7] r47_24 o47_24 [false, false, false, false, false, false, false, false, true, false, false, true]) .skip))))) (.seq (.reg [1, 2, 4, 5, 6, 7, 42, 129] r47_25 []) (.cond (.t 129) (.seq (.reg [1, 2, 4, 5, 6, 12, 13] r47_26 []) (.seq (.reg [1, 2, 4, 5, 6, 13, 14, 15] r47_27 []) (.seq (.seq (.reg [1, 2, 4, 5, 6, 13, 14, 15, 147] r47_28 []) (.cond (.t 147) (.seq (.reg [4] r47_29 []) .ret) .skip)) (.seq (.reg [1, 2, 4, 6, 7, 13, 15] r47_30 []) (.reg [1, 2, 4, 7] r47_31 []))))) (.seq (.reg [1, 2, 4, 5, 6, 7, 42, 166] r47_32 []) (.cond (.t 166) (.seq (.reg [1, 2, 4, 5, 6, 7, 16, 17] r47_33 []) (.seq (.any [1, 2, 4, 5, 7] r47_34 o47_34 []) (.reg [1, 2, 4, 7] r47_35 []))) (.seq (.reg [1, 2, 4, 5, 6, 7, 42, 187] r47_36 []) (.cond (.t 187) (.seq (.reg [1, 2, 4, 5, 6, 7, 18, 19] r47_37 []) (.seq (.reg [1, 2, 4, 5, 6, 7, 18, 19] r47_38 []) (.seq (.any [1, 2, 4, 7] r47_39 o47_39 []) (.reg [1, 2, 4, 7] r47_40 [])))) (.jn [1, 2, 4, 5, 6, 7, 42, 212] (.seq (.reg [1, 2, 4, 5, 6, 7, 42, 212] r47_41 []) (.cond (.t 212) .skip (.reg [1, 2, 4, 5, 6, 7, 42, 212] r47_42 []))) j47_2))))))))))))))) j47_4)))))))
def a47 : AFunc := ⟨[.cell 4 14 true], x47_0.code⟩
/-! ### 48 slices.Index[[]int,int] -/
def r48_0 : List AOper := [o1 4 (.mv (.c (.int .i64 0)))]
def r48_7 : List AOper := [o1 4 (.mv (.c (.int .i64 (-1))))]
def x48_2 : XC := (.seq (.reg [4] r48_7 []) .ret)
def j48_2 : ACode := x48_2.code
def r48_1 : List AOper := [o1 6 (.mv (.t 0)),
 o1 7 (.len false (.t 6)),
 o1 8 (.mv (.c (.int .i64 0)))]
def r48_2 : List AOper := [o1 9 (.bin .lss (.t 8) (.t 7))]
def r48_3 : List AOper := [o1 10 (.mv (.t 8)),
 o1 5 (.mv (.t 10))]
def r48_4 : List AOper := [o1 11 (.mv (.t 1)),
 o1 12 (.mv (.t 0)),
 o1 13 (.mv (.t 5)),
 o1 14 (.ixa 1 (.t 12) (.t 13)),
 o1 15 (.load 1 false (.t 14)),
 o1 16 (.bin .eql (.t 11) (.t 15))]
def r48_5 : List AOper := [o1 17 (.mv (.t 5)),
 o1 4 (.mv (.t 17))]
def r48_6 : List AOper := [o1 18 (.bin .add (.t 8) (.c (.int .i64 1))),
 o1 8 (.mv (.t 18))]
def x48_1 : XC := (.seq (.reg [0, 1, 7, 8, 9] r48_2 []) (.seq (.cond (.t 9) .skip (.exit 0)) (.seq (.block 1 (.seq (.reg [0, 1, 5, 7, 8] r48_3 []) (.seq (.reg [0, 1, 5, 7, 8, 16] r48_4 [false, false, false, false, true]) (.cond (.t 16) (.seq (.reg [4] r48_5 []) .ret) .skip)))) (.reg [0, 1, 7, 8] r48_6 []))))
def j48_1 : ACode := x48_1.code
def x48_0 : XC := (.seq (.reg [0, 1] r48_0 []) (.jn [] (.seq (.reg [0, 1, 7, 8] r48_1 []) (.block 0 (.loop [0, 1, 7, 8] j48_1))) j48_2))
def a48 : AFunc := ⟨[.tmp 4], x48_0.code⟩
/-! ### 49 slices.SortFunc[[]rewind/lean.Lean,rewind/lean.Lean] -/
def r49_0 : List AOper := [o1 5 (.mv (.t 0)),
 o1 6 (.len false (.t 5)),
 o1 4 (.mv (.t 6))]
def r49_1 : List AOper := [o1 7 (.mv (.t 0)),
 o1 8 (.mv (.t 4)),
 o1 9 (.mv (.t 4)),
 o1 10 (.conv .u64 (.t 9)),
 o1 11 (.call 65 [.t 10]),
 o1 12 (.mv (.t 1)),
 o1 13 (.call 64 [(.t 7), (.c (.int .i64 0)), (.t 8), (.t 11), (.t 12)])]
def x49_0 : XC := (.seq (.reg [0, 1, 4] r49_0 []) (.reg [] r49_1 []))
def a49 : AFunc := ⟨[], x49_0.code⟩
/-! ### 50 (rewind/lean.Lean).compare -/
def r50_0 : List AOper := [o1 2 (.box (.t 0)),
 o1 3 (.box (.t 1)),
 o1 4 (.mv (.c (.int .i64 0)))]
def r50_1 : List AOper := [o1 5 (.fadd 0 (.t 2)),
 o1 6 (.loadS (some 2) 1 false (.t 5)),
 o1 7 (.fadd 0 (.t 3)),
 o1 8 (.loadS (some 3) 1 false (.t 7)),
 o1 9 (.call 67 [.t 6, .t 8]),
 o1 10 (.fadd 1 (.t 2)),
 o1 11 (.loadS (some 2) 1 false (.t 10)),
 o1 12 (.fadd 1 (.t 3)),
 o1 13 (.loadS (some 3) 1 false (.t 12)),
 o1 14 (.call 67 [.t 11, .t 13]),
 o1 15 (.mkSl 1 [.t 9, .t 14]),
 o1 16 (.call 66 [.t 15]),
 o1 4 (.mv (.t 16))]
def o50_1 : Sch := .op 0 <| .op 1 <| .op 2 <| .op 3 <| .op 5 <| .op 6 <| .op 7 <| .op 8 <| .op 4 <| .op 9 <| .op 10 <| .op 11 <| .op 12 <| .nil
def x50_0 : XC := (.seq (.reg [2, 3] r50_0 []) (.seq (.any [4] r50_1 o50_1 []) .ret))
def a50 : AFunc := ⟨[.tmp 4], x50_0.code⟩
/-! ### 51 math/bits.Mul32 -/
def r51_0 : List AOper := [o1 4 (.mv (.c (.int .u32 0))),
 o1 5 (.mv (.c (.int .u32 0)))]
def r51_1 : List AOper := [o1 7 (.mv (.t 0)),
 o1 8 (.conv .u64 (.t 7)),
 o1 9 (.mv (.t 1)),
 o1 10 (.conv .u64 (.t 9)),
 o1 11 (.bin .mul (.t 8) (.t 10)),
 o1 6 (.mv (.t 11))]
def r51_2 : List AOper := [o1 12 (.mv (.t 6)),
 o1 13 (.bin .shr (.t 12) (.c (.int .u64 32))),
 o1 14 (.conv .u32 (.t 13)),
 o1 15 (.mv (.t 6)),
 o1 16 (.conv .u32 (.t 15)),
 o1 4 (.mv (.t 14)),
 o1 5 (.mv (.t 16))]
def x51_0 : XC := (.seq (.reg [0, 1] r51_0 []) (.seq (.reg [6] r51_1 []) (.seq (.reg [4, 5] r51_2 []) .ret)))
def a51 : AFunc := ⟨[.tmp 4, .tmp 5], x51_0.code⟩
/-! ### 52 math/bits.Mul64 -/
def r52_0 : List AOper := [o1 4 (.mv (.c (.int .u64 0))),
 o1 5 (.mv (.c (.int .u64 0)))]
def r52_1 : List AOper := [o1 14 (.mv (.t 0)),
 o1 15 (.bin .and (.t 14) (.c (.int .u64 4294967295))),
 o1 6 (.mv (.t 15))]
def r52_2 : List AOper := [o1 16 (.mv (.t 0)),
 o1 17 (.bin .shr (.t 16) (.c (.int .u64 32))),
 o1 7 (.mv (.t 17))]
def r52_3 : List AOper := [o1 18 (.mv (.t 1)),
 o1 19 (.bin .and (.t 18) (.c (.int .u64 4294967295))),
 o1 8 (.mv (.t 19))]
def r52_4 : List AOper := [o1 20 (.mv (.t 1)),
 o1 21 (.bin .shr (.t 20) (.c (.int .u64 32))),
 o1 9 (.mv (.t 21))]
def r52_5 : List AOper := [o1 22 (.mv (.t 6)),
 o1 23 (.mv (.t 8)),
 o1 24 (.bin .mul (.t 22) (.t 23)),
 o1 10 (.mv (.t 24))]
def r52_6 : List AOper := [o1 25 (.mv (.t 7)),
 o1 26 (.mv (.t 8)),
 o1 27 (.bin .mul (.t 25) (.t 26)),
 o1 28 (.mv (.t 10)),
 o1 29 (.bin .shr (.t 28) (.c (.int .u64 32))),
 o1 30 (.bin .add (.t 27) (.t 29)),
 o1 11 (.mv (.t 30))]
def r52_7 : List AOper := [o1 31 (.mv (.t 11)),
 o1 32 (.bin .and (.t 31) (.c (.int .u64 4294967295))),
 o1 12 (.mv (.t 32))]
def r52_8 : List AOper := [o1 33 (.mv (.t 11)),
 o1 34 (.bin .shr (.t 33) (.c (.int .u64 32))),
 o1 13 (.mv (.t 34))]
def r52_9 : List AOper := [o1 35 (.mv (.t 12)),
 o1 36 (.mv (.t 6)),
 o1 37 (.mv (.t 9)),
 o1 38 (.bin .mul (.t 36) (.t 37)),
 o1 39 (.bin .add (.t 35) (.t 38)),
 o1 12 (.mv (.t 39))]
def r52_10 : List AOper := [o1 40 (.mv (.t 7)),
 o1 41 (.mv (.t 9)),
 o1 42 (.bin .mul (.t 40) (.t 41)),
 o1 43 (.mv (.t 13)),
 o1 44 (.bin .add (.t 42) (.t 43)),
 o1 45 (.mv (.t 12)),
 o1 46 (.bin .shr (.t 45) (.c (.int .u64 32))),
 o1 47 (.bin .add (.t 44) (.t 46)),
 o1 4 (.mv (.t 47))]
def r52_11 : List AOper := [o1 48 (.mv (.t 0)),
 o1 49 (.mv (.t 1)),
 o1 50 (.bin .mul (.t 48) (.t 49)),
 o1 5 (.mv (.t 50))]
def x52_0 : XC := (.seq (.reg [0, 1] r52_0 []) (.seq (.reg [0, 1, 6] r52_1 []) (.seq (.reg [0, 1, 6, 7] r52_2 []) (.seq (.reg [0, 1, 6, 7, 8] r52_3 []) (.seq (.reg [0, 1, 6, 7, 8, 9] r52_4 []) (.seq (.reg [0, 1, 6, 7, 8, 9, 10] r52_5 []) (.seq (.reg [0, 1, 6, 7, 9, 11] r52_6 []) (.seq (.reg [0, 1, 6, 7, 9, 11, 12] r52_7 []) (.seq (.reg [0, 1, 6, 7, 9, 12, 13] r52_8 []) (.seq (.reg [0, 1, 7, 9, 12, 13] r52_9 []) (.seq (.reg [0, 1, 4] r52_10 []) (.seq (.reg [4, 5] r52_11 []) .ret))))))))))))
def a52 : AFunc := ⟨[.tmp 4, .tmp 5], x52_0.code⟩
/-! ### 53 rewind/rewindref02.Next -/
def r53_0 : List AOper := [o1 4 (.alloc [.int .i64 0, .int .i64 0, .int .i64 0]),
 o1 5 (.mv (.c (.int .i64 0)))]
def r53_1 : List AOper := [o1 9 (.mv (.t 0)),
 o1 10 (.mv (.t 1)),
 o1 11 (.call 68 [.t 9, .t 10]),
 o1 1 (.mv (.t 11))]
def r53_2 : List AOper := [o1 12 (.mv (.t 1)),
 o1 13 (.mv (.t 0)),
 o1 14 (.len true (.t 13)),
 o1 15 (.bin .eql (.t 12) (.t 14))]
def r53_3 : List AOper := [o1 16 (.mv (.t 1)),
 o1 17 (.mv (.t 1)),
 o1 18 (.build [.int .i64 0, .int .i64 0] [(0, 1, (.t 16)), (1, 1, (.t 17))]),
 o1 19 (.build [.int .i64 0, .int .i64 0, .int .i64 0] [(1, 2, (.t 18))]),
 o0 (.store 3 (.t 4) (.t 19)),
 o1 5 (.mv (.c (.int .i64 0)))]
def r53_4 : List AOper := [o1 20 (.mv (.t 1)),
 o1 6 (.mv (.t 20))]
def r53_17 : List AOper := [o1 109 (.mkSl 1 [(.c (.str [61, 61])), (.c (.str [33, 61])), (.c (.str [60, 61])), (.c (.str [62, 61])), (.c (.str [38, 38])), (.c (.str [124, 124]))]),
 o1 7 (.mv (.t 109))]
def r53_18 : List AOper := [o1 110 (.mkSl 1 [(.c (.str [43])), (.c (.str [45])), (.c (.str [42])), (.c (.str [47])), (.c (.str [37])), (.c (.str [60])), (.c (.str [62])), (.c (.str [33])), (.c (.str [61])), (.c (.str [40])), (.c (.str [41])), (.c (.str [123])), (.c (.str [125])), (.c (.str [91])), (.c (.str [93])), (.c (.str [44])), (.c (.str [59]))]),
 o1 8 (.mv (.t 110))]
def r53_23 : List AOper := [o1 136 (.mv (.t 6)),
 o1 137 (.mv (.t 1)),
 o1 138 (.bin .eql (.t 136) (.t 137))]
def r53_24 : List AOper := [o1 139 (.mv (.t 1)),
 o1 140 (.mv (.t 1)),
 o1 141 (.build [.int .i64 0, .int .i64 0] [(0, 1, (.t 139)), (1, 1, (.t 140))]),
 o1 142 (.build [.int .i64 0, .int .i64 0, .int .i64 0] [(1, 2, (.t 141))]),
 o0 (.store 3 (.t 4) (.t 142)),
 o1 5 (.mv (.c (.int .i64 2)))]
def r53_25 : List AOper := [o1 143 (.mv (.t 1)),
 o1 144 (.mv (.t 6)),
 o1 145 (.build [.int .i64 0, .int .i64 0] [(0, 1, (.t 143)), (1, 1, (.t 144))]),
 o1 146 (.build [.int .i64 0, .int .i64 0, .int .i64 0] [(0, 1, (.c (.int .i64 4))), (1, 2, (.t 145))]),
 o0 (.store 3 (.t 4) (.t 146)),
 o1 5 (.mv (.c (.int .i64 0)))]
def x53_5 : XC := (.seq (.seq (.reg [1, 4, 6, 138] r53_23 []) (.cond (.t 138) (.seq (.reg [4, 5] r53_24 []) .ret) .skip)) (.seq (.reg [4, 5] r53_25 []) .ret))
def j53_5 : ACode := x53_5.code
def r53_19 : List AOper := [o1 111 (.mv (.t 1)),
 o1 112 (.bin .add (.t 111) (.c (.int .i64 2))),
 o1 113 (.mv (.t 0)),
 o1 114 (.len true (.t 113)),
 o1 115 (.bin .leq (.t 112) (.t 114)),
 o1 116 (.mv (.t 115)),
 ⟨(some 117), .mv (.t 7), some (116, true)⟩,
 ⟨(some 118), .mv (.t 0), some (116, true)⟩,
 ⟨(some 119), .mv (.t 1), some (116, true)⟩,
 ⟨(some 120), .mv (.t 1), some (116, true)⟩,
 ⟨(some 121), .bin .add (.t 120) (.c (.int .i64 2)), some (116, true)⟩,
 ⟨(some 122), .slstr (.t 118) (some (.t 119)) (some (.t 121)), some (116, true)⟩,
 ⟨(some 123), .call 71 [.t 117, .t 122], some (116, true)⟩,
 o1 124 (.pick (.t 116) (.t 123) (.c (.bool false)))]
def r53_20 : List AOper := [o1 125 (.mv (.t 1)),
 o1 126 (.bin .add (.t 125) (.c (.int .i64 2))),
 o1 6 (.mv (.t 126))]
def r53_21 : List AOper := [o1 127 (.mv (.t 8)),
 o1 128 (.mv (.t 0)),
 o1 129 (.mv (.t 1)),
 o1 130 (.mv (.t 1)),
 o1 131 (.bin .add (.t 130) (.c (.int .i64 1))),
 o1 132 (.slstr (.t 128) (some (.t 129)) (some (.t 131))),
 o1 133 (.call 71 [.t 127, .t 132])]
def r53_22 : List AOper := [o1 134 (.mv (.t 1)),
 o1 135 (.bin .add (.t 134) (.c (.int .i64 1))),
 o1 6 (.mv (.t 135))]
def x53_6 : XC := (.seq (.reg [0, 1, 4, 6, 7] r53_17 []) (.seq (.reg [0, 1, 4, 6, 7, 8] r53_18 []) (.jn [1, 4, 6] (.seq (.reg [0, 1, 4, 6, 8, 124] r53_19 []) (.cond (.t 124) (.reg [1, 4, 6] r53_20 []) (.seq (.reg [1, 4, 6, 133] r53_21 []) (.cond (.t 133) (.reg [1, 4, 6] r53_22 []) .skip)))) j53_5)))
def j53_6 : ACode := x53_6.code
def r53_11 : List AOper := [o1 57 (.mv (.t 0)),
 o1 58 (.mv (.t 1)),
 o1 59 (.ixs (.t 57) (.t 58)),
 o1 60 (.call 70 [.t 59])]
def r53_14 : List AOper := [o1 73 (.mv (.t 6)),
 o1 74 (.mv (.t 1)),
 o1 75 (.bin .sub (.t 73) (.t 74)),
 o1 76 (.bin .gtr (.t 75) (.c (.int .i64 18))),
 o1 77 (.mv (.t 76)),
 ⟨(some 78), .mv (.t 6), some (77, false)⟩,
 ⟨(some 79), .mv (.t 1), some (77, false)⟩,
 ⟨(some 80), .bin .sub (.t 78) (.t 79), some (77, false)⟩,
 ⟨(some 81), .bin .gtr (.t 80) (.c (.int .i64 1)), some (77, false)⟩,
 ⟨(some 82), .mv (.t 81), some (77, false)⟩,
 ⟨(some 83), .mv (.t 0), some (82, true)⟩,
 ⟨(some 84), .mv (.t 1), some (82, true)⟩,
 ⟨(some 85), .ixs (.t 83) (.t 84), some (82, true)⟩,
 ⟨(some 86), .bin .eql (.t 85) (.c (.int .u8 48)), some (82, true)⟩,
 ⟨(some 87), .pick (.t 82) (.t 86) (.c (.bool false)), some (77, false)⟩,
 o1 88 (.pick (.t 77) (.c (.bool true)) (.t 87)),
 o1 89 (.mv (.t 88)),
 ⟨(some 90), .mv (.t 6), some (89, false)⟩,
 ⟨(some 91), .mv (.t 0), some (89, false)⟩,
 ⟨(some 92), .len true (.t 91), some (89, false)⟩,
 ⟨(some 93), .bin .lss (.t 90) (.t 92), some (89, false)⟩,
 ⟨(some 94), .mv (.t 93), some (89, false)⟩,
 ⟨(some 95), .mv (.t 0), some (94, true)⟩,
 ⟨(some 96), .mv (.t 6), some (94, true)⟩,
 ⟨(some 97), .ixs (.t 95) (.t 96), some (94, true)⟩,
 ⟨(some 98), .call 69 [.t 97], some (94, true)⟩,
 ⟨(some 99), .pick (.t 94) (.t 98) (.c (.bool false)), some (89, false)⟩,
 o1 100 (.pick (.t 89) (.c (.bool true)) (.t 99))]
def r53_15 : List AOper := [o1 101 (.mv (.t 1)),
 o1 102 (.mv (.t 1)),
 o1 103 (.build [.int .i64 0, .int .i64 0] [(0, 1, (.t 101)), (1, 1, (.t 102))]),
 o1 104 (.build [.int .i64 0, .int .i64 0, .int .i64 0] [(1, 2, (.t 103))]),
 o0 (.store 3 (.t 4) (.t 104)),
 o1 5 (.mv (.c (.int .i64 2)))]
def r53_16 : List AOper := [o1 105 (.mv (.t 1)),
 o1 106 (.mv (.t 6)),
 o1 107 (.build [.int .i64 0, .int .i64 0] [(0, 1, (.t 105)), (1, 1, (.t 106))]),
 o1 108 (.build [.int .i64 0, .int .i64 0, .int .i64 0] [(0, 1, (.c (.int .i64 2))), (1, 2, (.t 107))]),
 o0 (.store 3 (.t 4) (.t 108)),
 o1 5 (.mv (.c (.int .i64 0)))]
def x53_4 : XC := (.seq (.seq (.reg [1, 4, 6, 100] r53_14 []) (.cond (.t 100) (.seq (.reg [4, 5] r53_15 []) .ret) .skip)) (.seq (.reg [4, 5] r53_16 []) .ret))
def j53_4 : ACode := x53_4.code
def r53_12 : List AOper := [o1 61 (.mv (.t 6)),
 o1 62 (.mv (.t 0)),
 o1 63 (.len true (.t 62)),
 o1 64 (.bin .lss (.t 61) (.t 63)),
 o1 65 (.mv (.t 64)),
 ⟨(some 66), .mv (.t 0), some (65, true)⟩,
 ⟨(some 67), .mv (.t 6), some (65, true)⟩,
 ⟨(some 68), .ixs (.t 66) (.t 67), some (65, true)⟩,
 ⟨(some 69), .call 70 [.t 68], some (65, true)⟩,
 o1 70 (.pick (.t 65) (.t 69) (.c (.bool false)))]
def r53_13 : List AOper := [o1 71 (.mv (.t 6)),
 o1 72 (.bin .add (.t 71) (.c (.int .i64 1))),
 o1 6 (.mv (.t 72))]
def x53_3 : XC := (.seq (.seq (.reg [0, 1, 4, 6, 70] r53_12 []) (.cond (.t 70) .skip (.exit 2))) (.block 3 (.reg [0, 1, 4, 6] r53_13 [])))
def j53_3 : ACode := x53_3.code
def x53_7 : XC := (.jn [0, 1, 4, 6] (.seq (.reg [0, 1, 4, 6, 60] r53_11 []) (.cond (.t 60) (.jn [0, 1, 4, 6] (.block 2 (.loop [0, 1, 4, 6] j53_3)) j53_4) .skip)) j53_6)
def j53_7 : ACode := x53_7.code
def r53_5 : List AOper := [o1 21 (.mv (.t 0)),
 o1 22 (.mv (.t 1)),
 o1 23 (.ixs (.t 21) (.t 22)),
 o1 24 (.call 69 [.t 23])]
def r53_8 : List AOper := [o1 43 (.call 72 []),
 o1 44 (.mv (.t 0)),
 o1 45 (.mv (.t 1)),
 o1 46 (.mv (.t 6)),
 o1 47 (.slstr (.t 44) (some (.t 45)) (some (.t 46))),
 o1 48 (.call 71 [.t 43, .t 47])]
def o53_8 : Sch := .op 1 <| .op 2 <| .op 3 <| .op 4 <| .op 0 <| .op 5 <| .nil
def r53_9 : List AOper := [o1 49 (.mv (.t 1)),
 o1 50 (.mv (.t 6)),
 o1 51 (.build [.int .i64 0, .int .i64 0] [(0, 1, (.t 49)), (1, 1, (.t 50))]),
 o1 52 (.build [.int .i64 0, .int .i64 0, .int .i64 0] [(0, 1, (.c (.int .i64 3))), (1, 2, (.t 51))]),
 o0 (.store 3 (.t 4) (.t 52)),
 o1 5 (.mv (.c (.int .i64 0)))]
def r53_10 : List AOper := [o1 53 (.mv (.t 1)),
 o1 54 (.mv (.t 6)),
 o1 55 (.build [.int .i64 0, .int .i64 0] [(0, 1, (.t 53)), (1, 1, (.t 54))]),
 o1 56 (.build [.int .i64 0, .int .i64 0, .int .i64 0] [(0, 1, (.c (.int .i64 1))), (1, 2, (.t 55))]),
 o0 (.store 3 (.t 4) (.t 56)),
 o1 5 (.mv (.c (.int .i64 0)))]
def x53_2 : XC := (.seq (.seq (.any [1, 4, 6, 48] r53_8 o53_8 []) (.cond (.t 48) (.seq (.reg [4, 5] r53_9 []) .ret) .skip)) (.seq (.reg [4, 5] r53_10 []) .ret))
def j53_2 : ACode := x53_2.code
def r53_6 : List AOper := [o1 25 (.mv (.t 6)),
 o1 26 (.mv (.t 0)),
 o1 27 (.len true (.t 26)),
 o1 28 (.bin .lss (.t 25) (.t 27)),
 o1 29 (.mv (.t 28)),
 ⟨(some 30), .mv (.t 0), some (29, true)⟩,
 ⟨(some 31), .mv (.t 6), some (29, true)⟩,
 ⟨(some 32), .ixs (.t 30) (.t 31), some (29, true)⟩,
 ⟨(some 33), .call 69 [.t 32], some (29, true)⟩,
 ⟨(some 34), .mv (.t 33), some (29, true)⟩,
 ⟨(some 35), .mv (.t 0), some (34, false)⟩,
 ⟨(some 36), .mv (.t 6), some (34, false)⟩,
 ⟨(some 37), .ixs (.t 35) (.t 36), some (34, false)⟩,
 ⟨(some 38), .call 70 [.t 37], some (34, false)⟩,
 ⟨(some 39), .pick (.t 34) (.c (.bool true)) (.t 38), some (29, true)⟩,
 o1 40 (.pick (.t 29) (.t 39) (.c (.bool false)))]
def r53_7 : List AOper := [o1 41 (.mv (.t 6)),
 o1 42 (.bin .add (.t 41) (.c (.int .i64 1))),
 o1 6 (.mv (.t 42))]
def x53_1 : XC := (.seq (.seq (.reg [0, 1, 4, 6, 40] r53_6 []) (.cond (.t 40) .skip (.exit 0))) (.block 1 (.reg [0, 1, 4, 6] r53_7 [])))
def j53_1 : ACode := x53_1.code
def x53_0 : XC := (.seq (.reg [0, 1, 4] r53_0 []) (.seq (.reg [0, 1, 4] r53_1 []) (.seq (.seq (.reg [0, 1, 4, 15] r53_2 []) (.cond (.t 15) (.seq (.reg [4, 5] r53_3 []) .ret) .skip)) (.seq (.reg [0, 1, 4, 6] r53_4 []) (.jn [0, 1, 4, 6] (.seq (.reg [0, 1, 4, 6, 24] r53_5 []) (.cond (.t 24) (.jn [0, 1, 4, 6] (.block 0 (.loop [0, 1, 4, 6] j53_1)) j53_2) .skip)) j53_7)))))
def a53 : AFunc := ⟨[.cell 4 3 true, .tmp 5], x53_0.code⟩
/-! ### 54 rewind/rewindref04.here -/
def r54_0 : List AOper := [o1 1 (.box (.t 0)),
 o1 2 (.mv (.c (.int .i64 0)))]
def r54_1 : List AOper := [o1 3 (.fadd 1 (.t 1)),
 o1 4 (.load 1 false (.t 3)),
 o1 5 (.fadd 2 (.t 1)),
 o1 6 (.load 1 false (.t 5)),
 o1 7 (.ixa 3 (.t 4) (.t 6)),
 o1 8 (.fadd 1 (.t 7)),
 o1 9 (.fadd 0 (.t 8)),
 o1 10 (.load 1 false (.t 9)),
 o1 2 (.mv (.t 10))]
def x54_0 : XC := (.seq (.reg [1] r54_0 []) (.seq (.reg [2] r54_1 [false, false, false, false, false, true, true, true]) .ret))
def a54 : AFunc := ⟨[.tmp 2], x54_0.code⟩
/-! ### 55 rewind/rewindref04.is -/
def r55_0 : List AOper := [o1 2 (.box (.t 0)),
 o1 4 (.mv (.c (.bool false)))]
def r55_1 : List AOper := [o1 5 (.fadd 6 (.t 2)),
 o1 6 (.load 1 false (.t 5)),
 o1 7 (.bin .eql (.t 6) (.c (.int .i64 0))),
 o1 8 (.mv (.t 7)),
 ⟨(some 9), .fadd 1 (.t 2), some (8, true)⟩,
 ⟨(some 10), .load 1 false (.t 9), some (8, true)⟩,
 ⟨(some 11), .fadd 2 (.t 2), some (8, true)⟩,
 ⟨(some 12), .load 1 false (.t 11), some (8, true)⟩,
 ⟨(some 13), .ixa 3 (.t 10) (.t 12), some (8, true)⟩,
 ⟨(some 14), .fadd 0 (.t 13), some (8, true)⟩,
 ⟨(some 15), .load 1 false (.t 14), some (8, true)⟩,
 ⟨(some 16), .bin .neq (.t 15) (.c (.int .i64 0)), some (8, true)⟩,
 o1 17 (.pick (.t 8) (.t 16) (.c (.bool false))),
 o1 18 (.mv (.t 17)),
 ⟨(some 19), .load 8 true (.t 2), some (18, true)⟩,
 ⟨(some 20), .call 73 [.t 19], some (18, true)⟩,
 ⟨(some 21), .mv (.t 1), some (18, true)⟩,
 ⟨(some 22), .bin .eql (.t 20) (.t 21), some (18, true)⟩,
 o1 23 (.pick (.t 18) (.t 22) (.c (.bool false))),
 o1 4 (.mv (.t 23))]
def x55_0 : XC := (.seq (.reg [1, 2] r55_0 []) (.seq (.reg [4] r55_1 [false, false, false, false, false, false, false, false, false, true, true]) .ret))
def a55 : AFunc := ⟨[.tmp 4], x55_0.code⟩
/-! ### 56 rewind/rewindref04.fail -/
def r56_0 : List AOper := [o1 2 (.box (.t 0)),
 o1 4 (.alloc [.str [], .sl .cap0 3 [], .int .i64 0, .sl .cap0 9 [], .sl .cap0 9 [], .sl .cap0 6 [], .int .i64 0, .int .i64 0])]
def r56_4 : List AOper := [o1 13 (.load 8 true (.t 2)),
 o0 (.store 8 (.t 4) (.t 13))]
def x56_1 : XC := (.seq (.reg [4] r56_4 []) .ret)
def j56_1 : ACode := x56_1.code
def r56_1 : List AOper := [o1 5 (.fadd 6 (.t 2)),
 o1 6 (.load 1 false (.t 5)),
 o1 7 (.bin .eql (.t 6) (.c (.int .i64 0)))]
def r56_2 : List AOper := [o1 8 (.mv (.t 1)),
 o1 9 (.fadd 6 (.t 2)),
 o0 (.store 1 (.t 9) (.t 8))]
def r56_3 : List AOper := [o1 10 (.load 8 true (.t 2)),
 o1 11 (.call 54 [.t 10]),
 o1 12 (.fadd 7 (.t 2)),
 o0 (.store 1 (.t 12) (.t 11))]
def x56_0 : XC := (.seq (.reg [1, 2, 4] r56_0 []) (.jn [2, 4] (.seq (.reg [1, 2, 4, 7] r56_1 []) (.cond (.t 7) (.seq (.reg [2, 4] r56_2 []) (.reg [2, 4] r56_3 [])) .skip)) j56_1))
def a56 : AFunc := ⟨[.cell 4 8 true], x56_0.code⟩
/-! ### 57 rewind/rewindref04.kind -/
def r57_0 : List AOper := [o1 2 (.box (.t 0)),
 o1 4 (.alloc [.str [], .sl .cap0 3 [], .int .i64 0, .sl .cap0 9 [], .sl .cap0 9 [], .sl .cap0 6 [], .int .i64 0, .int .i64 0]),
 o1 5 (.mv (.c (.str [])))]
def r57_1 : List AOper := [o1 7 (.fadd 6 (.t 2)),
 o1 8 (.load 1 false (.t 7)),
 o1 9 (.bin .neq (.t 8) (.c (.int .i64 0))),
 o1 10 (.mv (.t 9)),
 ⟨(some 11), .fadd 1 (.t 2), some (10, false)⟩,
 ⟨(some 12), .load 1 false (.t 11), some (10, false)⟩,
 ⟨(some 13), .fadd 2 (.t 2), some (10, false)⟩,
 ⟨(some 14), .load 1 false (.t 13), some (10, false)⟩,
 ⟨(some 15), .ixa 3 (.t 12) (.t 14), some (10, false)⟩,
 ⟨(some 16), .fadd 0 (.t 15), some (10, false)⟩,
 ⟨(some 17), .load 1 false (.t 16), some (10, false)⟩,
 ⟨(some 18), .mv (.t 1), some (10, false)⟩,
 ⟨(some 19), .bin .neq (.t 17) (.t 18), some (10, false)⟩,
 o1 20 (.pick (.t 10) (.c (.bool true)) (.t 19))]
def r57_2 : List AOper := [o1 21 (.load 8 true (.t 2)),
 o1 22 (.call 56 [(.t 21), (.c (.int .i64 3))]),
 o0 (.store 8 (.t 4) (.t 22)),
 o1 5 (.mv (.c (.str [])))]
def r57_3 : List AOper := [o1 23 (.load 8 true (.t 2)),
 o1 24 (.call 73 [.t 23]),
 o1 6 (.mv (.t 24))]
def r57_4 : List AOper := [o1 25 (.fadd 2 (.t 2)),
 o1 26 (.load 1 false (.t 25)),
 o1 27 (.bin .add (.t 26) (.c (.int .i64 1))),
 o1 28 (.fadd 2 (.t 2)),
 o0 (.store 1 (.t 28) (.t 27))]
def r57_5 : List AOper := [o1 29 (.load 8 true (.t 2)),
 o1 30 (.mv (.t 6)),
 o0 (.store 8 (.t 4) (.t 29)),
 o1 5 (.mv (.t 30))]
def x57_0 : XC := (.seq (.reg [1, 2, 4] r57_0 []) (.seq (.seq (.reg [2, 4, 20] r57_1 [false, false, false, false, false, false, false, false, false, true, true]) (.cond (.t 20) (.seq (.reg [4, 5] r57_2 []) .ret) .skip)) (.seq (.reg [2, 4, 6] r57_3 []) (.seq (.reg [2, 4, 6] r57_4 []) (.seq (.reg [4, 5] r57_5 []) .ret)))))
def a57 : AFunc := ⟨[.cell 4 8 true, .tmp 5], x57_0.code⟩
/-! ### 58 rewind/rewindref04.want -/
def r58_0 : List AOper := [o1 2 (.box (.t 0)),
 o1 4 (.alloc [.str [], .sl .cap0 3 [], .int .i64 0, .sl .cap0 9 [], .sl .cap0 9 [], .sl .cap0 6 [], .int .i64 0, .int .i64 0])]
def r58_1 : List AOper := [o1 5 (.load 8 true (.t 2)),
 o1 6 (.mv (.t 1)),
 o1 7 (.call 55 [.t 5, .t 6]),
 o1 8 (.un .not (.t 7))]
def r58_2 : List AOper := [o1 9 (.load 8 true (.t 2)),
 o1 10 (.call 56 [(.t 9), (.c (.int .i64 3))]),
 o0 (.store 8 (.t 4) (.t 10))]
def r58_3 : List AOper := [o1 11 (.fadd 2 (.t 2)),
 o1 12 (.load 1 false (.t 11)),
 o1 13 (.bin .add (.t 12) (.c (.int .i64 1))),
 o1 14 (.fadd 2 (.t 2)),
 o0 (.store 1 (.t 14) (.t 13))]
def r58_4 : List AOper := [o1 15 (.load 8 true (.t 2)),
 o0 (.store 8 (.t 4) (.t 15))]
def x58_0 : XC := (.seq (.reg [1, 2, 4] r58_0 []) (.seq (.seq (.reg [2, 4, 8] r58_1 []) (.cond (.t 8) (.seq (.reg [4] r58_2 []) .ret) .skip)) (.seq (.reg [2, 4] r58_3 []) (.seq (.reg [4] r58_4 []) .ret))))
def a58 : AFunc := ⟨[.cell 4 8 true], x58_0.code⟩
/-! ### 59 rewind/rewindref04.block -/
def r59_0 : List AOper := [o1 2 (.box (.t 0)),
 o1 4 (.alloc [.str [], .sl .cap0 3 [], .int .i64 0, .sl .cap0 9 [], .sl .cap0 9 [], .sl .cap0 6 [], .int .i64 0, .int .i64 0]),
 o1 5 (.mv (.c (.sl .cap0 1 [])))]
def r59_3 : List AOper := [o1 14 (.load 8 true (.t 2)),
 o1 15 (.call 58 [(.t 14), (.c (.str [123]))]),
 o0 (.store 8 (.t 2) (.t 15))]
def r59_4 : List AOper := [o1 6 (.mv (.c (.sl .cap0 1 [])))]
def r59_9 : List AOper := [o1 35 (.load 8 true (.t 2)),
 o1 36 (.call 58 [(.t 35), (.c (.str [125]))]),
 o1 37 (.mv (.t 6)),
 o0 (.store 8 (.t 4) (.t 36)),
 o1 5 (.mv (.t 37))]
def x59_2 : XC := (.seq (.reg [4, 5] r59_9 []) .ret)
def j59_2 : ACode := x59_2.code
def r59_5 : List AOper := [o1 16 (.fadd 6 (.t 2)),
 o1 17 (.load 1 false (.t 16)),
 o1 18 (.bin .eql (.t 17) (.c (.int .i64 0))),
 o1 19 (.mv (.t 18)),
 ⟨(some 20), .load 8 true (.t 2), some (19, true)⟩,
 ⟨(some 21), .call 55 [(.t 20), (.c (.str [125]))], some (19, true)⟩,
 ⟨(some 22), .un .not (.t 21), some (19, true)⟩,
 o1 23 (.pick (.t 19) (.t 22) (.c (.bool false)))]
def r59_6 : List AOper := [o1 25 (.load 8 true (.t 2)),
 o1 26 (.mv (.t 1)),
 o1 27 (.call 75 [.t 25, .t 26]),
 o1 24 (.mv (.t 27)),
 o1 28 (.ext (.t 24) 0),
 o1 29 (.ext (.t 24) 1),
 o1 7 (.alloc [.str [], .sl .cap0 3 [], .int .i64 0, .sl .cap0 9 [], .sl .cap0 9 [], .sl .cap0 6 [], .int .i64 0, .int .i64 0]),
 o0 (.store 8 (.t 7) (.t 28)),
 o1 8 (.mv (.t 29))]
def r59_7 : List AOper := [o1 30 (.load 8 true (.t 7)),
 o0 (.store 8 (.t 2) (.t 30))]
def r59_8 : List AOper := [o1 31 (.mv (.t 6)),
 o1 32 (.mv (.t 8)),
 o1 33 (.mkSl 1 [.t 32]),
 o1 34 (.app false 1 (.t 31) (.t 33)),
 o1 6 (.mv (.t 34))]
def x59_1 : XC := (.seq (.seq (.reg [1, 2, 4, 6, 23] r59_5 []) (.cond (.t 23) .skip (.exit 0))) (.block 1 (.seq (.reg [1, 2, 4, 6, 7, 8] r59_6 []) (.seq (.reg [1, 2, 4, 6, 8] r59_7 []) (.reg [1, 2, 4, 6] r59_8 [])))))
def j59_1 : ACode := x59_1.code
def x59_3 : XC := (.seq (.reg [1, 2, 4] r59_3 []) (.seq (.reg [1, 2, 4, 6] r59_4 []) (.jn [2, 4, 6] (.block 0 (.loop [1, 2, 4, 6] j59_1)) j59_2)))
def j59_3 : ACode := x59_3.code
def r59_1 : List AOper := [o1 9 (.load 8 true (.t 2)),
 o1 10 (.call 55 [(.t 9), (.c (.str [123]))])]
def r59_2 : List AOper := [o1 11 (.load 8 true (.t 2)),
 o1 12 (.mv (.t 1)),
 o1 13 (.call 74 [.t 11, .t 12]),
 o0 (.store 8 (.t 2) (.t 13))]
def x59_0 : XC := (.seq (.reg [1, 2, 4] r59_0 []) (.jn [1, 2, 4] (.seq (.reg [1, 2, 4, 10] r59_1 []) (.cond (.t 10) (.reg [1, 2, 4] r59_2 []) .skip)) j59_3))
def a59 : AFunc := ⟨[.cell 4 8 true, .tmp 5], x59_0.code⟩
/-! ### 60 rewind/rewindref06.value -/
def r60_0 : List AOper := [o1 2 (.box (.t 0)),
 o1 4 (.alloc [.sl .cap0 9 [], .sl .cap0 9 [], .sl .cap0 6 [], .sl .cap0 1 [], .sl .cap0 1 [], .sl .cap0 1 [], .sl .cap0 1 [], .sl .cap0 1 [], .int .i64 0, .sl .cap0 3 [], .int .i64 0, .int .i64 0, .int .i64 0, .int .i64 0]),
 o1 5 (.mv (.c (.int .i64 0)))]
def r60_1 : List AOper := [o1 9 (.load 14 true (.t 2)),
 o1 10 (.mv (.t 1)),
 o1 11 (.call 63 [.t 9, .t 10]),
 o1 8 (.mv (.t 11)),
 o1 12 (.ext (.t 8) 0),
 o1 13 (.ext (.t 8) 1),
 o1 6 (.alloc [.sl .cap0 9 [], .sl .cap0 9 [], .sl .cap0 6 [], .sl .cap0 1 [], .sl .cap0 1 [], .sl .cap0 1 [], .sl .cap0 1 [], .sl .cap0 1 [], .int .i64 0, .sl .cap0 3 [], .int .i64 0, .int .i64 0, .int .i64 0, .int .i64 0]),
 o0 (.store 14 (.t 6) (.t 12)),
 o1 7 (.mv (.t 13))]
def r60_2 : List AOper := [o1 14 (.loadS (some 6) 14 true (.t 6)),
 o1 15 (.mv (.t 7)),
 o1 16 (.bin .neq (.t 15) (.c (.int .i64 4))),
 o1 17 (.fadd 0 (.t 2)),
 o1 18 (.fadd 0 (.t 17)),
 o1 19 (.loadS (some 2) 1 false (.t 18)),
 o1 20 (.mv (.t 1)),
 o1 21 (.ixa 9 (.t 19) (.t 20)),
 o1 22 (.fadd 1 (.t 21)),
 o1 23 (.fadd 0 (.t 22)),
 o1 24 (.loadS none 1 false (.t 23)),
 o1 25 (.call 45 [(.t 14), (.t 16), (.t 24), (.c (.int .i64 8))]),
 o1 26 (.mv (.t 7)),
 o0 (.storeL 4 14 (.t 4) (.t 25)),
 o1 5 (.mv (.t 26))]
def o60_2 : Sch := .op 0 <| .op 1 <| .op 2 <| .op 3 <| .op 4 <| .op 5 <| .op 6 <| .op 7 <| .op 8 <| .op 9 <| .op 10 <| .op 12 <| .op 11 <| .op 13 <| .op 14 <| .nil
def x60_0 : XC := (.seq (.reg [1, 2, 4] r60_0 []) (.seq (.reg [1, 2, 4, 6, 7] r60_1 []) (.seq (.any [4, 5] r60_2 o60_2 [false, false, false, false, false, false, false, false, true, true]) .ret)))
def a60 : AFunc := ⟨[.cell 4 14 true, .tmp 5], x60_0.code⟩
/-! ### 61 rewind/rewindref06.slot -/
def r61_0 : List AOper := [o1 4 (.box (.t 0)),
 o1 8 (.alloc [.sl .cap0 9 [], .sl .cap0 9 [], .sl .cap0 6 [], .sl .cap0 1 [], .sl .cap0 1 [], .sl .cap0 1 [], .sl .cap0 1 [], .sl .cap0 1 [], .int .i64 0, .sl .cap0 3 [], .int .i64 0, .int .i64 0, .int .i64 0, .int .i64 0]),
 o1 9 (.mv (.c (.int .i64 0)))]
def r61_1 : List AOper := [o1 11 (.load 14 true (.t 4)),
 o1 12 (.mv (.t 1)),
 o1 13 (.call 76 [.t 11, .t 12]),
 o1 10 (.mv (.t 13))]
def r61_2 : List AOper := [o1 14 (.loadS (some 4) 14 true (.t 4)),
 o1 15 (.mv (.t 10)),
 o1 16 (.bin .geq (.t 15) (.c (.int .i64 0))),
 o1 17 (.mv (.t 16)),
 ⟨(some 18), .fadd 3 (.t 4), some (17, true)⟩,
 ⟨(some 19), .fadd 4 (.t 18), some (17, true)⟩,
 ⟨(some 20), .loadS (some 4) 1 false (.t 19), some (17, true)⟩,
 ⟨(some 21), .fadd 8 (.t 4), some (17, true)⟩,
 ⟨(some 22), .loadS (some 4) 1 false (.t 21), some (17, true)⟩,
 ⟨(some 23), .ixa 1 (.t 20) (.t 22), some (17, true)⟩,
 ⟨(some 24), .load 1 false (.t 23), some (17, true)⟩,
 ⟨(some 25), .mv (.t 10), some (17, true)⟩,
 ⟨(some 26), .ixa 1 (.t 24) (.t 25), some (17, true)⟩,
 ⟨(some 27), .load 1 false (.t 26), some (17, true)⟩,
 ⟨(some 28), .bin .eql (.t 27) (.c (.int .i64 3)), some (17, true)⟩,
 ⟨(some 29), .mv (.t 2), some (17, true)⟩,
 ⟨(some 30), .beq false false (.t 28) (.t 29), some (17, true)⟩,
 o1 31 (.pick (.t 17) (.t 30) (.c (.bool false))),
 o1 32 (.mv (.t 3)),
 o1 33 (.call 45 [(.t 14), (.t 31), (.t 32), (.c (.int .i64 6))]),
 o1 34 (.mv (.t 10)),
 o0 (.storeL 8 14 (.t 8) (.t 33)),
 o1 9 (.mv (.t 34))]
def o61_2 : Sch := .op 0 <| .op 1 <| .op 2 <| .op 3 <| .op 4 <| .op 5 <| .op 6 <| .op 7 <| .op 8 <| .op 9 <| .op 11 <| .op 15 <| .op 18 <| .op 20 <| .op 10 <| .op 12 <| .op 13 <| .op 14 <| .op 16 <| .op 17 <| .op 19 <| .op 21 <| .op 22 <| .nil
def x61_0 : XC := (.seq (.reg [1, 2, 3, 4, 8] r61_0 []) (.seq (.reg [2, 3, 4, 8, 10] r61_1 []) (.seq (.any [8, 9] r61_2 o61_2 [false, false, false, false, false, false, false, false, false, false, true, false, false, true]) .ret)))
def a61 : AFunc := ⟨[.cell 8 14 true, .tmp 9], x61_0.code⟩
/-! ### 62 rewind/rewindref06.block -/
def r62_0 : List AOper := [o1 2 (.box (.t 0)),
 o1 4 (.alloc [.sl .cap0 9 [], .sl .cap0 9 [], .sl .cap0 6 [], .sl .cap0 1 [], .sl .cap0 1 [], .sl .cap0 1 [], .sl .cap0 1 [], .sl .cap0 1 [], .int .i64 0, .sl .cap0 3 [], .int .i64 0, .int .i64 0, .int .i64 0, .int .i64 0])]
def r62_1 : List AOper := [o1 8 (.fadd 9 (.t 2)),
 o1 9 (.load 1 false (.t 8)),
 o1 5 (.mv (.t 9))]
def r62_2 : List AOper := [o1 10 (.fadd 10 (.t 2)),
 o1 11 (.load 1 false (.t 10)),
 o1 12 (.bin .add (.t 11) (.c (.int .i64 1))),
 o1 13 (.fadd 10 (.t 2)),
 o0 (.store 1 (.t 13) (.t 12))]
def r62_3 : List AOper := [o1 14 (.fadd 10 (.t 2)),
 o1 15 (.load 1 false (.t 14)),
 o1 6 (.mv (.t 15))]
def r62_10 : List AOper := [o1 30 (.mv (.t 5)),
 o1 31 (.fadd 9 (.t 2)),
 o0 (.store 1 (.t 31) (.t 30))]
def r62_11 : List AOper := [o1 32 (.mv (.t 6)),
 o1 33 (.bin .sub (.t 32) (.c (.int .i64 1))),
 o1 34 (.fadd 10 (.t 2)),
 o0 (.store 1 (.t 34) (.t 33))]
def r62_12 : List AOper := [o1 35 (.load 14 true (.t 2)),
 o0 (.store 14 (.t 4) (.t 35))]
def x62_2 : XC := (.seq (.reg [2, 4, 6] r62_10 []) (.seq (.reg [2, 4] r62_11 []) (.seq (.reg [4] r62_12 []) .ret)))
def j62_2 : ACode := x62_2.code
def r62_4 : List AOper := [o1 16 (.mv (.t 1)),
 o1 17 (.len false (.t 16)),
 o1 18 (.mv (.c (.int .i64 0)))]
def r62_5 : List AOper := [o1 19 (.bin .lss (.t 18) (.t 17))]
def r62_6 : List AOper := [o1 20 (.mv (.t 18)),
 o1 7 (.mv (.t 20))]
def r62_7 : List AOper := [o1 21 (.loadS (some 2) 14 true (.t 2)),
 o1 22 (.mv (.t 1)),
 o1 23 (.mv (.t 7)),
 o1 24 (.ixa 1 (.t 22) (.t 23)),
 o1 25 (.loadS none 1 false (.t 24)),
 o1 26 (.call 47 [.t 21, .t 25]),
 o0 (.storeL 2 14 (.t 2) (.t 26))]
def o62_7 : Sch := .op 0 <| .op 1 <| .op 2 <| .op 3 <| .op 4 <| .op 5 <| .op 6 <| .nil
def r62_8 : List AOper := [o1 27 (.mv (.t 6)),
 o1 28 (.fadd 10 (.t 2)),
 o0 (.store 1 (.t 28) (.t 27))]
def r62_9 : List AOper := [o1 29 (.bin .add (.t 18) (.c (.int .i64 1))),
 o1 18 (.mv (.t 29))]
def x62_1 : XC := (.seq (.reg [1, 2, 4, 5, 6, 17, 18, 19] r62_5 []) (.seq (.cond (.t 19) .skip (.exit 0)) (.seq (.block 1 (.seq (.reg [1, 2, 4, 5, 6, 7, 17, 18] r62_6 []) (.seq (.any [1, 2, 4, 5, 6, 17, 18] r62_7 o62_7 []) (.reg [1, 2, 4, 5, 6, 17, 18] r62_8 [])))) (.reg [1, 2, 4, 5, 6, 17, 18] r62_9 []))))
def j62_1 : ACode := x62_1.code
def x62_0 : XC := (.seq (.reg [1, 2, 4] r62_0 []) (.seq (.reg [1, 2, 4, 5] r62_1 []) (.seq (.reg [1, 2, 4, 5] r62_2 []) (.seq (.reg [1, 2, 4, 5, 6] r62_3 []) (.jn [2, 4, 5, 6] (.seq (.reg [1, 2, 4, 5, 6, 17, 18] r62_4 []) (.block 0 (.loop [1, 2, 4, 5, 6, 17, 18] j62_1))) j62_2)))))
def a62 : AFunc := ⟨[.cell 4 14 true], x62_0.code⟩
end Go.Proofs.Ytnldohnfdeineaa.Abs
