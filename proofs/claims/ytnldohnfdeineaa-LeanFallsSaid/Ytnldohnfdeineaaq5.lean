/- Part 5 of the proof: an abstract machine for the loaded code, and what the functions compute. No conditions. -/
import Derived.Test.Ytnldohnfdeineaaq4
set_option linter.unusedVariables false
set_option linter.unusedSimpArgs false
/- The parser, as a plain function: what a program that it yields is made of. No word of the given program. -/
namespace Go.Proofs.Ytnldohnfdeineaa.Abs
open Go

/-- A statement's number, and the statements in its blocks. -/
inductive ST where
  | nd (i : Nat) (th el : List ST)
def ST.root : ST → Nat
  | .nd i _ _ => i
mutual
def ST.post : ST → List Nat
  | .nd i th el => postL th ++ postL el ++ [i]
def postL : List ST → List Nat
  | [] => []
  | t :: l => t.post ++ postL l
end
structure SmK (s : Sm) : Prop where
  in_ : s.k = 5 ∨ s.k = 6 ∨ (s.th = [] ∧ s.el = [])
  wh : s.k = 6 → s.el = []
  lo : 1 ≤ s.k
  hi : s.k ≤ 11
mutual
def ST.rep (sm : List Sm) : ST → Prop
  | .nd i th el => (∃ s, sm[i]? = some s ∧ SmK s ∧ s.th = th.map ST.root ∧ s.el = el.map ST.root) ∧ repL sm th ∧ repL sm el
def repL (sm : List Sm) : List ST → Prop
  | [] => True
  | t :: l => t.rep sm ∧ repL sm l
end
mutual
theorem ST.rep_app {sm l : List Sm} : ∀ {t : ST}, t.rep sm → t.rep (sm ++ l)
  | .nd i th el, h => by
    unfold ST.rep at h ⊢
    obtain ⟨⟨s, h1, h2⟩, h3, h4⟩ := h
    refine ⟨⟨s, ?_, h2⟩, repL_app h3, repL_app h4⟩
    rw [List.getElem?_append_left (List.getElem?_eq_some_iff.1 h1).1]; exact h1
theorem repL_app {sm l : List Sm} : ∀ {ts : List ST}, repL sm ts → repL (sm ++ l) ts
  | [], _ => by unfold repL; trivial
  | t :: ts, h => by
    unfold repL at h ⊢
    exact ⟨ST.rep_app h.1, repL_app h.2⟩
end
theorem repL_append {sm : List Sm} : ∀ {a b : List ST}, repL sm a → repL sm b → repL sm (a ++ b)
  | [], _, _, h => h
  | t :: a, b, h, h2 => by
    unfold repL at h
    show repL sm (t :: (a ++ b))
    unfold repL
    exact ⟨h.1, repL_append h.2 h2⟩
theorem postL_append : ∀ {a b : List ST}, postL (a ++ b) = postL a ++ postL b
  | [], b => by simp [postL]
  | t :: a, b => by
    show postL (t :: (a ++ b)) = postL (t :: a) ++ postL b
    simp only [postL, postL_append, List.append_assoc]
def Cov (a b : Nat) (l : List Nat) : Prop := l = List.range' a (b - a) ∧ a ≤ b
theorem Cov.nil {a : Nat} : Cov a a [] := ⟨by simp, Nat.le_refl _⟩
theorem Cov.append {a b c : Nat} {l m : List Nat} (h1 : Cov a b l) (h2 : Cov b c m) : Cov a c (l ++ m) := by
  refine ⟨?_, Nat.le_trans h1.2 h2.2⟩
  rw [h1.1, h2.1]
  have h3 := h1.2
  have h4 := h2.2
  rw [show c - a = (b - a) + (c - b) by omega, ← List.range'_append_1, show a + (b - a) = b by omega]
theorem Cov.one {a : Nat} : Cov a (a + 1) [a] := ⟨by simp, by omega⟩

/-- Expressions' parts are there ahead of them. -/
structure ExK (i : Nat) (e : Ex) : Prop where
  a : e.k = 5 ∨ e.k = 8 ∨ e.k = 9 → e.a < i
  b : e.k = 9 → e.b < i
  l : ∀ a ∈ e.l, a < i
  op : e.k = 9 → e.op ≠ []
  ll : e.l.length < 1000000
def ExOk (ex : List Ex) : Prop := ∀ (i : Nat) e, ex[i]? = some e → ExK i e
structure SmE (n : Nat) (s : Sm) : Prop where
  a : s.k ∈ [1, 3, 4, 5, 6, 10, 11] → 0 ≤ s.a ∧ s.a < n
  r : s.k = 9 → s.a < n
  b : s.k = 4 → s.b < n
def SmOk (n : Nat) (sm : List Sm) : Prop := ∀ s ∈ sm, SmE n s
theorem SmOk.mono {n m : Nat} {sm : List Sm} (h : SmOk n sm) (hn : n ≤ m) : SmOk m sm := fun s hs => ⟨fun hk => by have := (h s hs).a hk; omega, fun hk => by have := (h s hs).r hk; omega, fun hk => by have := (h s hs).b hk; omega⟩
theorem ExOk.put {ex : List Ex} (h : ExOk ex) {e : Ex} (he : ExK ex.length e) : ExOk (ex ++ [e]) := fun i x hx => by
  by_cases hi : i < ex.length
  · rw [List.getElem?_append_left hi] at hx; exact h i x hx
  · have hlt := (List.getElem?_eq_some_iff.1 hx).1
    simp at hlt
    have : i = ex.length := by omega
    subst this
    simp at hx
    subst hx
    exact he
structure Wf (p : PT) : Prop where
  ex : ExOk p.ex
  sm : SmOk p.ex.length p.sm
/-- From p to q. -/
structure To (p q : PT) : Prop where
  wf : Wf q
  le : p.ex.length ≤ q.ex.length
  sm : ∃ l, q.sm = p.sm ++ l
theorem To.refl {p : PT} (h : Wf p) : To p p := ⟨h, Nat.le_refl _, [], by simp⟩
theorem To.trans {p q r : PT} (h1 : To p q) (h2 : To q r) : To p r := by
  refine ⟨h2.wf, Nat.le_trans h1.le h2.le, ?_⟩
  obtain ⟨a, ha⟩ := h1.sm
  obtain ⟨b, hb⟩ := h2.sm
  exact ⟨a ++ b, by rw [hb, ha, List.append_assoc]⟩
theorem Wf.adv {p : PT} (h : Wf p) : Wf p.adv := ⟨h.ex, h.sm⟩
theorem To.advR {p q : PT} (h : To p q) : To p q.adv := ⟨h.wf.adv, h.le, h.sm⟩
theorem To.advL {p q : PT} (h : To p.adv q) : To p q := ⟨h.wf, h.le, h.sm⟩
/-- An expression. -/
structure OE (p q : PT) (v : List Nat) : Prop where
  to : To p q
  sm : q.sm = p.sm
  fn : q.fn = p.fn
  v : ∃ a, v = [a] ∧ a < q.ex.length
structure OL (p q : PT) (F : List ST) : Prop where
  to : To p q
  fn : q.fn = p.fn
  rep : repL q.sm F
  cov : Cov p.sm.length q.sm.length (postL F)
structure OF (p q : PT) : Prop where
  to : To p q
  f : ∃ (fs : List Fn) (FF : List (List ST)), q.fn = p.fn ++ fs ∧ fs.map Fn.body = FF.map (List.map ST.root) ∧ (∀ F ∈ FF, repL q.sm F) ∧ Cov p.sm.length q.sm.length (FF.flatMap postL) ∧ ∀ f ∈ fs, f.params.length < 1000000
def Out : NT → PT → PT → List Nat → Prop
  | .row .., p, q, v | .rowT .., p, q, v | .expr .., p, q, v | .un .., p, q, v | .prim .., p, q, v | .args .., p, q, v => OE p q v
  | .block _, p, q, v => ∃ F : List ST, v = F.map ST.root ∧ OL p q F
  | .stmts _ acc, p, q, v => ∃ F : List ST, v = acc ++ F.map ST.root ∧ OL p q F
  | .stmt _, p, q, v | .branch .., p, q, v => ∃ t : ST, v = [t.root] ∧ OL p q [t]
  | .func, p, q, _ | .params .., p, q, _ => OF p q ∧ q.fn ≠ []
  | .funcs, p, q, _ => OF p q ∧ q.fn ≠ []
def In : NT → PT → Prop
  | .rowT _ _ _ a, p => a < p.ex.length
  | .args _ _ _ acc, p => (∀ a ∈ acc, a < p.ex.length) ∧ acc.length ≤ p.at_
  | .params _ _ acc, p => acc.length ≤ p.at_
  | _, _ => True
section
variable {x : List Nat} {tk : List Tk} {p q : PT}
theorem put_wf {f : Nat} {e : Ex} (h : Wf q) (he : ExK q.ex.length e) : Wf (putE tk q f e) := by
  refine ⟨h.ex.put ⟨he.a, he.b, he.l, he.op, he.ll⟩, h.sm.mono (by simp [putE])⟩
/-- An expression is put. -/
theorem put_out {f : Nat} {e : Ex} (ht : To p q) (hs : q.sm = p.sm) (hf : q.fn = p.fn) (he : ExK q.ex.length e) : OE p (putE tk q f e) [q.ex.length] :=
  ⟨⟨put_wf ht.wf he, by have := ht.le; simp [putE]; omega, ⟨[], by simp [putE, hs]⟩⟩, hs, hf, _, rfl, by simp [putE]⟩
theorem put1_out {f : Nat} {e : Ex} {r v} (ht : To p q) (hs : q.sm = p.sm) (hf : q.fn = p.fn) (he : ExK q.ex.length e) (h : put1 tk q f e = some (.ok r v)) : OE p r v := by
  obtain ⟨rfl, rfl⟩ := put1_ok h
  exact put_out ht hs hf he
theorem OE.hd {v} (h : OE p q v) : hd0 v < q.ex.length := by
  obtain ⟨a, rfl, ha⟩ := h.v
  exact ha
/-- A statement is put, behind its blocks. -/
theorem add_out {f : Nat} {s : Sm} {r v} {th el : List ST} (h1 : OL p q (th ++ el)) (hk : SmK s) (he : SmE q.ex.length s) (h2 : s.th = th.map ST.root) (h3 : s.el = el.map ST.root) (ht : repL q.sm th) (hl : repL q.sm el) (h : addS tk q f s = some (.ok r v)) : ∃ t : ST, v = [t.root] ∧ OL p r [t] := by
  obtain ⟨_, rfl, rfl⟩ := addS_ok h
  refine ⟨.nd q.sm.length th el, rfl, ⟨h1.to.trans ⟨⟨h1.to.wf.ex, ?_⟩, Nat.le_refl _, _, rfl⟩, h1.fn, ?_, ?_⟩⟩
  · intro u hu
    rcases List.mem_append.1 hu with hu | hu
    · exact h1.to.wf.sm u hu
    · rw [List.mem_singleton.1 hu]; exact ⟨he.a, he.r, he.b⟩
  · unfold repL
    refine ⟨?_, by unfold repL; trivial⟩
    unfold ST.rep
    exact ⟨⟨{ s with f := f, t := upto tk q }, by simp, ⟨hk.in_, hk.wh, hk.lo, hk.hi⟩, h2, h3⟩, repL_app ht, repL_app hl⟩
  · have hc := h1.cov
    rw [postL_append] at hc
    have := hc.append Cov.one
    simpa [postL, ST.post] using this
/-- A statement without blocks. -/
theorem semi_out {f : Nat} {s : Sm} {r v} (ht : To p q) (hs : q.sm = p.sm) (hf : q.fn = p.fn) (hk : SmK s) (he : SmE q.ex.length s) (h2 : s.th = []) (h3 : s.el = []) (h : semi x tk q f s = some (.ok r v)) : ∃ t : ST, v = [t.root] ∧ OL p r [t] := by
  obtain ⟨_, h⟩ := semi_ok h
  refine add_out (th := []) (el := []) (q := q.adv) ⟨ht.advR, hf, by simp [repL], ?_⟩ hk he (by simpa using h2) (by simpa using h3) (by simp [repL]) (by simp [repL]) h
  simp only [PT.adv, hs]
  exact Cov.nil
theorem OE.ol {v} (h : OE p q v) : OL p q [] := ⟨h.to, h.fn, by simp [repL], by rw [h.sm]; exact Cov.nil⟩
theorem OL.trans {r : PT} {F G : List ST} (h1 : OL p q F) (h2 : OL q r G) : OL p r (F ++ G) := by
  refine ⟨h1.to.trans h2.to, h2.fn.trans h1.fn, repL_append ?_ h2.rep, by rw [postL_append]; exact h1.cov.append h2.cov⟩
  obtain ⟨l, hl⟩ := h2.to.sm
  rw [hl]; exact repL_app h1.rep
theorem OL.adv {F : List ST} (h : OL p q F) : OL p q.adv F := ⟨h.to.advR, h.fn, h.rep, h.cov⟩
theorem OL.advL {F : List ST} (h : OL p.adv q F) : OL p q F := ⟨h.to.advL, h.fn, h.rep, h.cov⟩
theorem OE.advL {v} (h : OE p.adv q v) : OE p q v := ⟨h.to.advL, h.sm, h.fn, h.v⟩
theorem OE.trans {r : PT} {u v} (h1 : OE p q u) (h2 : OE q r v) : OE p r v := ⟨h1.to.trans h2.to, h2.sm.trans h1.sm, h2.fn.trans h1.fn, h2.v⟩
theorem exk_lit {k n : Nat} (h5 : k ≠ 5) (h8 : k ≠ 8) (h9 : k ≠ 9) {num name op} : ExK n { k := k, num := num, name := name, op := op } :=
  ⟨fun h => by simp [h5, h8, h9] at h, fun h => absurd h h9, fun a h => by simp at h, fun h => absurd h h9, by show 0 < 1000000; omega⟩
theorem smk {k : Nat} (h : 1 ≤ k ∧ k ≤ 11 ∧ k ≠ 5 ∧ k ≠ 6) {nm nu a b} : SmK { k := k, name := nm, num := nu, a := a, b := b } := ⟨.inr (.inr ⟨rfl, rfl⟩), fun e => absurd e h.2.2.2, h.1, h.2.1⟩
theorem run_out (H : TokOk x tk) : ∀ (n : Nat) (nt : NT) (p q : PT) (v : List Nat), Wf p → In nt p → run x tk n nt p = some (.ok q v) → Out nt p q v := by
  intro n
  induction n with
  | zero => intro nt p q v _ _ h; cases h
  | succ n ih =>
    intro nt p q v hw hi h
    cases nt with
    | row l d =>
      simp only [run] at h
      rcases ite_or h with ⟨_, h⟩ | ⟨_, h⟩
      · exact ih (.un d) _ _ _ hw trivial h
      · obtain ⟨p', v', h1, h2⟩ := bnd_ok h
        have a := ih (.row (l + 1) d) _ _ _ hw trivial h1
        exact OE.trans a (ih (.rowT l d (here tk p) (hd0 v')) _ _ _ a.to.wf a.hd h2)
    | rowT l d f a =>
      simp only [run] at h
      cases hs : signOf x tk p l with
      | none => rw [hs] at h; cases h; exact ⟨To.refl hw, rfl, rfl, a, rfl, hi⟩
      | some op =>
        rw [hs] at h
        have hop : op ≠ [] := by
          have hm := (signOf_k hs).2.1
          intro e
          subst e
          unfold signsM at hm
          split at hm <;> simp at hm
        obtain ⟨p', v', h1, h2⟩ := bnd_ok h
        have b := OE.advL (ih (.row (l + 1) d) _ _ _ hw.adv trivial h1)
        have hle : a < p'.ex.length := Nat.lt_of_lt_of_le hi b.to.le
        have ek : ExK p'.ex.length { k := 9, op := op, a := a, b := hd0 v' } := ⟨fun _ => hle, fun _ => b.hd, fun a h => by simp at h, fun _ => hop, by show 0 < 1000000; omega⟩
        rcases ite_or h2 with ⟨_, h2⟩ | ⟨_, h2⟩
        · exact put1_out b.to b.sm b.fn ek h2
        · have c := put_out (tk := tk) (f := f) b.to b.sm b.fn ek
          exact OE.trans c (ih (.rowT l d f p'.ex.length) _ _ _ c.to.wf (by simp [In, putE]) h2)
    | expr d =>
      simp only [run] at h
      rcases ite_or h with ⟨_, h⟩ | ⟨_, h⟩
      · cases h
      · exact ih (.row 0 d) _ _ _ hw trivial h
    | un d =>
      simp only [run] at h
      rcases ite_or h with ⟨_, h⟩ | ⟨_, h⟩
      · rcases ite_or h with ⟨_, h⟩ | ⟨_, h⟩
        · cases h
        · obtain ⟨p', v', h1, h2⟩ := bnd_ok h
          have b := OE.advL (ih (.un (d + 1)) _ _ _ hw.adv trivial h1)
          exact put1_out b.to b.sm b.fn ⟨fun _ => b.hd, fun e => by simp at e, fun a h => by simp at h, fun e => by simp at e, by show 0 < 1000000; omega⟩ h2
      · exact ih (.prim d) _ _ _ hw trivial h
    | prim d =>
      have lit : ∀ {e : Ex} {f}, ExK p.ex.length e → put1 tk p.adv f e = some (.ok q v) → OE p q v := fun he h => put1_out (To.refl hw).advR rfl rfl he h
      simp only [run] at h
      rcases ite_or h with ⟨_, h⟩ | ⟨_, h⟩
      · exact lit (exk_lit (by decide) (by decide) (by decide)) h
      rcases ite_or h with ⟨_, h⟩ | ⟨_, h⟩
      · exact lit (exk_lit (by decide) (by decide) (by decide)) h
      rcases ite_or h with ⟨_, h⟩ | ⟨_, h⟩
      · exact lit (exk_lit (by decide) (by decide) (by decide)) h
      rcases ite_or h with ⟨_, h⟩ | ⟨_, h⟩
      · exact lit (exk_lit (by decide) (by decide) (by decide)) h
      rcases ite_or h with ⟨_, h⟩ | ⟨_, h⟩
      · obtain ⟨p', v', h1, h2⟩ := bnd_ok h
        have b := OE.advL (ih (.expr (d + 1)) _ _ _ hw.adv trivial h1)
        rcases ite_or h2 with ⟨_, h2⟩ | ⟨_, h2⟩
        · cases h2; exact ⟨b.to.advR, b.sm, b.fn, b.v⟩
        · cases h2
      rcases ite_or h with ⟨_, h⟩ | ⟨_, h⟩
      · rcases ite_or h with ⟨_, h⟩ | ⟨_, h⟩
        · obtain ⟨p', v', h1, h2⟩ := bnd_ok h
          have b := OE.advL (OE.advL (ih (.expr (d + 1)) _ _ _ hw.adv.adv trivial h1))
          rcases ite_or h2 with ⟨_, h2⟩ | ⟨_, h2⟩
          · exact put1_out (q := p'.adv) b.to.advR b.sm b.fn ⟨fun _ => b.hd, fun e => by simp at e, fun a h => by simp at h, fun e => by simp at e, by show 0 < 1000000; omega⟩ h2
          · cases h2
        rcases ite_or h with ⟨_, h⟩ | ⟨_, h⟩
        · exact OE.advL (OE.advL (ih (.args (here tk p) (word x tk p) d []) _ _ _ hw.adv.adv ⟨fun a h => by simp at h, Nat.zero_le _⟩ h))
        · exact lit (exk_lit (by decide) (by decide) (by decide)) h
      · cases h
    | args f name d acc =>
      simp only [run] at h
      obtain ⟨hi, hacc⟩ := hi
      have more : ∀ {p1 : PT}, To p p1 → p.at_ ≤ p1.at_ → p1.sm = p.sm → p1.fn = p.fn → (bnd' (run x tk n (.expr (d + 1)) p1) fun q v => run x tk n (.args f name d (acc ++ [hd0 v])) q) = some (.ok q v) → OE p q v := fun {p1} t1 l1 s1 f1 h => by
        obtain ⟨p', v', h1, h2⟩ := bnd_ok h
        have b := ih (.expr (d + 1)) _ _ _ t1.wf trivial h1
        have hl2 := (run_fwd H _ _ _ _ _ h1).2
        simp only [NT.st] at hl2
        have t2 := t1.trans b.to
        have c := ih (.args f name d (acc ++ [hd0 v'])) _ _ _ b.to.wf ⟨fun a ha => by
          rcases List.mem_append.1 ha with ha | ha
          · exact Nat.lt_of_lt_of_le (hi a ha) t2.le
          · rw [List.mem_singleton.1 ha]; exact b.hd, by simp; omega⟩ h2
        exact OE.trans ⟨t2, b.sm.trans s1, b.fn.trans f1, b.v⟩ c
      rcases ite_or h with ⟨hw41, h⟩ | ⟨_, h⟩
      · have hi : ∀ a ∈ acc, a < p.adv.ex.length := hi
        have hlen : acc.length < 1000000 := by have := isW_lt H hw41; have := H.short; omega
        exact put1_out (q := p.adv) (e := { k := 6, name := name, l := acc }) (To.refl hw).advR rfl rfl ⟨fun e => by simp at e, fun e => by simp at e, hi, fun e => by simp at e, hlen⟩ h
      rcases ite_or h with ⟨_, h⟩ | ⟨_, h⟩
      · exact more (To.refl hw) (Nat.le_refl _) rfl rfl h
      rcases ite_or h with ⟨_, h⟩ | ⟨_, h⟩
      · exact more (To.refl hw).advR (by simp [PT.adv]) rfl rfl h
      · cases h
    | block d =>
      simp only [run] at h
      rcases ite_or h with ⟨_, h⟩ | ⟨_, h⟩
      · rcases ite_or h with ⟨_, h⟩ | ⟨_, h⟩
        · cases h
        · obtain ⟨F, e, hF⟩ := ih (.stmts d []) _ _ _ hw.adv trivial h
          exact ⟨F, by simpa using e, hF.advL⟩
      · cases h
    | stmts d acc =>
      simp only [run] at h
      rcases ite_or h with ⟨_, h⟩ | ⟨_, h⟩
      · cases h
        exact ⟨[], by simp, ⟨(To.refl hw).advR, rfl, by simp [repL], Cov.nil⟩⟩
      · obtain ⟨p', v', h1, h2⟩ := bnd_ok h
        obtain ⟨t, rfl, ht⟩ := ih (.stmt d) _ _ _ hw trivial h1
        obtain ⟨F, e, hF⟩ := ih (.stmts d (acc ++ [hd0 [t.root]])) _ _ _ ht.to.wf trivial h2
        exact ⟨t :: F, by rw [e]; simp [hd0], ht.trans hF⟩
    | stmt d =>
      have ex : ∀ {p1 p' : PT} {v' d}, To p p1 → p1.sm = p.sm → p1.fn = p.fn → run x tk n (.expr d) p1 = some (.ok p' v') → OE p p' v' := fun t1 s1 f1 h => by
        have b := ih (.expr _) _ _ _ t1.wf trivial h
        exact ⟨t1.trans b.to, b.sm.trans s1, b.fn.trans f1, b.v⟩
      have nat : ∀ {a m : Nat}, a < m → (0 : Int) ≤ (a : Int) ∧ (a : Int) < m := fun h => by omega
      have t0 := To.refl hw
      rw [run] at h
      rcases ite_or h with ⟨_, h⟩ | ⟨_, h⟩
      · obtain ⟨t, e, ht⟩ := ih (.branch (here tk p) d) _ _ _ hw.adv trivial h
        exact ⟨t, e, ht.advL⟩
      rcases ite_or h with ⟨_, h⟩ | ⟨_, h⟩
      · obtain ⟨p', v', h1, h2⟩ := bnd_ok h
        obtain ⟨p'', v'', h3, h4⟩ := bnd_ok h2
        have b := ex t0.advR rfl rfl h1
        obtain ⟨F, rfl, hF⟩ := ih (.block (d + 1)) _ _ _ b.to.wf trivial h3
        have hle := hF.to.le
        have hh := b.hd
        refine add_out (th := F) (el := []) (by simpa using b.ol.trans hF) ⟨.inr (.inl rfl), fun _ => rfl, by show 1 ≤ 6; omega, by show 6 ≤ 11; omega⟩ ⟨fun _ => nat (Nat.lt_of_lt_of_le hh hle), fun e => by simp at e, fun e => by simp at e⟩ rfl rfl hF.rep (by simp [repL]) h4
      rcases ite_or h with ⟨_, h⟩ | ⟨_, h⟩
      · rcases ite_or h with ⟨_, h⟩ | ⟨_, h⟩
        · rcases ite_or h with ⟨_, h⟩ | ⟨_, h⟩
          · rcases ite_or h with ⟨_, h⟩ | ⟨_, h⟩
            · rcases ite_or h with ⟨_, h⟩ | ⟨_, h⟩
              · exact semi_out (q := p.adv.adv.adv.adv.adv) t0.advR.advR.advR.advR.advR rfl rfl (smk (by decide)) ⟨fun e => by simp at e, fun e => by simp at e, fun e => by simp at e⟩ rfl rfl h
              · cases h
            · cases h
          rcases ite_or h with ⟨_, h⟩ | ⟨_, h⟩
          · obtain ⟨p', v', h1, h2⟩ := bnd_ok h
            have b := ex t0.advR.advR.advR rfl rfl h1
            exact semi_out b.to b.sm b.fn (smk (by decide)) ⟨fun _ => nat b.hd, fun e => by simp at e, fun e => by simp at e⟩ rfl rfl h2
          · cases h
        · cases h
      rcases ite_or h with ⟨_, h⟩ | ⟨_, h⟩
      · exact semi_out (q := p.adv) t0.advR rfl rfl (smk (by decide)) ⟨fun e => by simp at e, fun e => by simp at e, fun e => by simp at e⟩ rfl rfl h
      rcases ite_or h with ⟨_, h⟩ | ⟨_, h⟩
      · exact semi_out (q := p.adv) t0.advR rfl rfl (smk (by decide)) ⟨fun e => by simp at e, fun e => by simp at e, fun e => by simp at e⟩ rfl rfl h
      rcases ite_or h with ⟨_, h⟩ | ⟨_, h⟩
      · rcases ite_or h with ⟨_, h⟩ | ⟨_, h⟩
        · exact semi_out (q := p.adv) t0.advR rfl rfl (smk (by decide)) ⟨fun e => by simp at e, fun _ => by show (-1 : Int) < _; omega, fun e => by simp at e⟩ rfl rfl h
        · obtain ⟨p', v', h1, h2⟩ := bnd_ok h
          have b := ex t0.advR rfl rfl h1
          exact semi_out b.to b.sm b.fn (smk (by decide)) ⟨fun _ => nat b.hd, fun _ => (nat b.hd).2, fun e => by simp at e⟩ rfl rfl h2
      rcases ite_or h with ⟨_, h⟩ | ⟨_, h⟩
      · obtain ⟨p', v', h1, h2⟩ := bnd_ok h
        have b := ex t0.advR rfl rfl h1
        exact semi_out b.to b.sm b.fn (smk (by decide)) ⟨fun _ => nat b.hd, fun e => by simp at e, fun e => by simp at e⟩ rfl rfl h2
      rcases ite_or h with ⟨_, h⟩ | ⟨_, h⟩
      · rcases ite_or h with ⟨_, h⟩ | ⟨_, h⟩
        · obtain ⟨p', v', h1, h2⟩ := bnd_ok h
          have b := OE.advL (OE.advL (ih (.args (here tk p) (word x tk p) d []) _ _ _ hw.adv.adv ⟨fun a h => by simp at h, Nat.zero_le _⟩ h1))
          exact semi_out b.to b.sm b.fn (smk (by decide)) ⟨fun _ => nat b.hd, fun e => by simp at e, fun e => by simp at e⟩ rfl rfl h2
        rcases ite_or h with ⟨_, h⟩ | ⟨_, h⟩
        · obtain ⟨p', v', h1, h2⟩ := bnd_ok h
          have b := ex t0.advR.advR rfl rfl h1
          rcases ite_or h2 with ⟨_, h2⟩ | ⟨_, h2⟩
          · rcases ite_or h2 with ⟨_, h2⟩ | ⟨_, h2⟩
            · obtain ⟨p'', v'', h3, h4⟩ := bnd_ok h2
              have c := ex b.to.advR.advR b.sm b.fn h3
              have c0 := ih (.expr d) _ _ _ b.to.advR.advR.wf trivial h3
              have hle : p'.ex.length ≤ p''.ex.length := c0.to.le
              exact semi_out c.to c.sm c.fn (smk (by decide)) ⟨fun _ => nat (Nat.lt_of_lt_of_le b.hd hle), fun e => by simp at e, fun _ => c.hd⟩ rfl rfl h4
            · cases h2
          · cases h2
        rcases ite_or h with ⟨_, h⟩ | ⟨_, h⟩
        · obtain ⟨p', v', h1, h2⟩ := bnd_ok h
          have b := ex t0.advR.advR rfl rfl h1
          exact semi_out b.to b.sm b.fn (smk (by decide)) ⟨fun _ => nat b.hd, fun e => by simp at e, fun e => by simp at e⟩ rfl rfl h2
        · cases h
      · cases h
    | branch f d =>
      simp only [run] at h
      obtain ⟨p1, v1, h1, h2⟩ := bnd_ok h
      obtain ⟨p2, v2, h3, h4⟩ := bnd_ok h2
      have b := ih (.expr d) _ _ _ hw trivial h1
      obtain ⟨F, rfl, hF⟩ := ih (.block (d + 1)) _ _ _ b.to.wf trivial h3
      have o2 : OL p p2 F := by simpa using b.ol.trans hF
      have nat : ∀ {a m : Nat}, a < m → (0 : Int) ≤ (a : Int) ∧ (a : Int) < m := fun h => by omega
      have hh : hd0 v1 < p2.ex.length := Nat.lt_of_lt_of_le b.hd hF.to.le
      rcases ite_or h4 with ⟨_, h4⟩ | ⟨_, h4⟩
      · have fin : ∀ {p3 : PT} {G : List ST}, OL p2.adv p3 G → addS tk p3 f { k := 5, a := hd0 v1, th := F.map ST.root, el := G.map ST.root } = some (.ok q v) → ∃ t : ST, v = [t.root] ∧ OL p q [t] := fun {p3 G} hG h => by
          have o3 := o2.adv.trans hG
          have hrF : repL p3.sm F := by
            obtain ⟨l, hl⟩ := hG.to.sm
            rw [hl]; exact repL_app hF.rep
          have hle : p2.ex.length ≤ p3.ex.length := hG.to.le
          exact add_out (th := F) (el := G) o3 ⟨.inl rfl, fun e => by simp at e, by show 1 ≤ 5; omega, by show 5 ≤ 11; omega⟩ ⟨fun _ => nat (Nat.lt_of_lt_of_le hh hle), fun e => by simp at e, fun e => by simp at e⟩ rfl rfl hrF hG.rep h
        rcases ite_or h4 with ⟨_, h4⟩ | ⟨_, h4⟩
        · rcases ite_or h4 with ⟨_, h4⟩ | ⟨_, h4⟩
          · cases h4
          · obtain ⟨p5, v5, h5, h6⟩ := bnd_ok h4
            obtain ⟨t, rfl, ht⟩ := ih (.branch (here tk p2.adv) (d + 1)) _ _ _ o2.to.wf.adv.adv trivial h5
            exact fin (G := [t]) ht.advL h6
        · obtain ⟨p5, v5, h5, h6⟩ := bnd_ok h4
          obtain ⟨G, rfl, hG⟩ := ih (.block (d + 1)) _ _ _ o2.to.wf.adv trivial h5
          exact fin hG h6
      · exact add_out (th := F) (el := []) (by simpa using o2) ⟨.inl rfl, fun e => by simp at e, by show 1 ≤ 5; omega, by show 5 ≤ 11; omega⟩ ⟨fun _ => nat hh, fun e => by simp at e, fun e => by simp at e⟩ rfl rfl hF.rep (by simp [repL]) h4
    | func =>
      simp only [run] at h
      rcases ite_or h with ⟨_, h⟩ | ⟨_, h⟩
      · rcases ite_or h with ⟨_, h⟩ | ⟨_, h⟩
        · cases h
        rcases ite_or h with ⟨_, h⟩ | ⟨_, h⟩
        · rcases ite_or h with ⟨_, h⟩ | ⟨_, h⟩
          · have a := ih (.params (here tk p) (word x tk p.adv) []) _ _ _ hw.adv.adv.adv (Nat.zero_le _) h
            exact ⟨⟨a.1.to.advL.advL.advL, a.1.f⟩, a.2⟩
          · cases h
        · cases h
      · cases h
    | params f name acc =>
      have fin : ∀ {p1 p' : PT} {b e}, To p p1 → p1.sm = p.sm → p1.fn = p.fn → run x tk n (.block 1) p1 = some (.ok p' b) → e.body = b → e.params.length < 1000000 → OF p { p' with fn := p'.fn ++ [e] } ∧ ({ p' with fn := p'.fn ++ [e] } : PT).fn ≠ [] := fun {p1 p' b e} t1 s1 f1 h he hpl => by
        obtain ⟨F, rfl, hF⟩ := ih (.block 1) _ _ _ t1.wf trivial h
        have t2 := t1.trans hF.to
        refine ⟨⟨⟨⟨t2.wf.ex, t2.wf.sm⟩, t2.le, t2.sm⟩, [e], [F], ?_, by simp [he], ?_, ?_, fun f hf => by rw [List.mem_singleton.1 hf]; exact hpl⟩, by simp⟩
        · simp only [hF.fn, f1]
        · intro G hG; rw [List.mem_singleton.1 hG]; exact hF.rep
        · have := hF.cov
          rw [s1] at this
          simpa using this
      have hi : acc.length ≤ p.at_ := hi
      simp only [run] at h
      rcases ite_or h with ⟨hw41, h⟩ | ⟨_, h⟩
      · have hlen : acc.length < 1000000 := by have := isW_lt H hw41; have := H.short; omega
        rcases ite_or h with ⟨_, h⟩ | ⟨_, h⟩
        · obtain ⟨p1, v1, h1, h2⟩ := bnd_ok h
          cases h2
          exact fin (To.refl hw).advR.advR rfl rfl h1 rfl hlen
        · obtain ⟨p1, v1, h1, h2⟩ := bnd_ok h
          cases h2
          exact fin (To.refl hw).advR rfl rfl h1 rfl hlen
      rcases ite_or h with ⟨_, h⟩ | ⟨_, h⟩
      · rcases ite_or h with ⟨_, h⟩ | ⟨_, h⟩
        · have a := ih (.params f name (acc ++ [word x tk p])) _ _ _ hw.adv (by simp [In, PT.adv]; omega) h
          exact ⟨⟨a.1.to.advL, a.1.f⟩, a.2⟩
        · cases h
      rcases ite_or h with ⟨_, h⟩ | ⟨_, h⟩
      · rcases ite_or h with ⟨_, h⟩ | ⟨_, h⟩
        · have a := ih (.params f name (acc ++ [word x tk p.adv])) _ _ _ hw.adv.adv (by simp [In, PT.adv]; omega) h
          exact ⟨⟨a.1.to.advL.advL, a.1.f⟩, a.2⟩
        · cases h
      · cases h
    | funcs =>
      simp only [run] at h
      rcases ite_or h with ⟨_, h⟩ | ⟨hn, h⟩
      · obtain ⟨p1, v1, h1, h2⟩ := bnd_ok h
        obtain ⟨⟨t1, fs1, FF1, e1, g1, r1, c1, l1⟩, n1⟩ := ih .func _ _ _ hw trivial h1
        obtain ⟨⟨t2, fs2, FF2, e2, g2, r2, c2, l2⟩, n2⟩ := ih .funcs _ _ _ t1.wf trivial h2
        refine ⟨⟨t1.trans t2, fs1 ++ fs2, FF1 ++ FF2, by rw [e2, e1, List.append_assoc], by rw [List.map_append, List.map_append, g1, g2], fun F hF => ?_, by rw [List.flatMap_append]; exact c1.append c2, fun f hf => by
          rcases List.mem_append.1 hf with hf | hf
          · exact l1 f hf
          · exact l2 f hf⟩, n2⟩
        rcases List.mem_append.1 hF with hF | hF
        · obtain ⟨l, hl⟩ := t2.sm
          rw [hl]; exact repL_app (r1 F hF)
        · exact r2 F hF
      · cases h
        exact ⟨⟨To.refl hw, [], [], by simp, rfl, fun F hF => by simp at hF, Cov.nil, fun f hf => by simp at hf⟩, fun e => hn (.inl e)⟩
/-- A program that the parser yields. -/
structure Prog (q : PT) (FF : List (List ST)) : Prop where
  wf : Wf q
  ne : q.fn ≠ []
  body : q.fn.map Fn.body = FF.map (List.map ST.root)
  rep : ∀ F ∈ FF, repL q.sm F
  cov : FF.flatMap postL = List.range q.sm.length
  pl : ∀ f ∈ q.fn, f.params.length < 1000000
theorem prog_of (H : TokOk x tk) {v} (h : Ev (fun n => run x tk n .funcs ⟨0, [], [], []⟩) (.ok q v)) : ∃ FF, Prog q FF := by
  obtain ⟨a, ha⟩ := h
  obtain ⟨⟨t, fs, FF, e, g, r, c, l⟩, ne⟩ := run_out H a .funcs _ _ _ ⟨fun i e h => by simp at h, fun s h => by simp at h⟩ trivial (ha a (Nat.le_refl _))
  refine ⟨FF, t.wf, ne, by rw [e]; simpa using g, r, ?_, by rw [e]; simpa using l⟩
  have := c.1
  simpa [List.range_eq_range'] using this
end
end Go.Proofs.Ytnldohnfdeineaa.Abs
/- The document's checker: it ends, and what it leaves is whole; small functions. -/
namespace Go.Proofs.Ytnldohnfdeineaa.Abs
open Go
set_option maxRecDepth 100000

structure Nm where
  text : List Nat
  block : Int
  slot : Nat
def eNm (n : Nm) : AV := .agg [.str n.text, eI n.block, eN n.slot]
/-- What the checker holds; its arrays by their numbers. -/
structure CS where
  ty : Nat
  sl : Nat
  pu : Nat
  fu : Nat
  so : Nat
  f : Nat
  nt : Tok
  nm : List Nm
  bk : Int
  lp : Nat
  code : Nat
  at_ : Nat
/-- An array of numbers; of none there is none. -/
def arr0 (id n : Nat) : AV := if n = 0 then .sl .cap0 1 [] else .arr id 1 0 n
theorem nl_arr0 {id n : Nat} : nl (arr0 id n) = some (arr0 id n) := by unfold arr0; split <;> rfl
def eC (q : PT) (s : CS) : AV := .agg [.sl .no 9 (q.ex.map eEx), .sl .no 9 (q.sm.map eSm), .sl .no 6 (q.fn.map eFn), arr0 s.ty q.ex.length, arr0 s.sl q.ex.length, arr0 s.pu q.sm.length, arr0 s.fu q.sm.length, arr0 s.so q.fn.length, eN s.f, .sl s.nt 3 (s.nm.map eNm), eI s.bk, eN s.lp, eN s.code, eN s.at_]
section
variable {q : PT} {s : CS}
theorem ldC0 : ld 1 false (AV.cells (eC q s)) 0 = some (.sl .no 9 (q.ex.map eEx)) := rfl
theorem ldC1 : ld 1 false (AV.cells (eC q s)) 1 = some (.sl .no 9 (q.sm.map eSm)) := rfl
theorem ldC2 : ld 1 false (AV.cells (eC q s)) 2 = some (.sl .no 6 (q.fn.map eFn)) := rfl
theorem ldC3 : ld 1 false (AV.cells (eC q s)) 3 = some (arr0 s.ty q.ex.length) := nl_arr0
theorem ldC4 : ld 1 false (AV.cells (eC q s)) 4 = some (arr0 s.sl q.ex.length) := nl_arr0
theorem ldC5 : ld 1 false (AV.cells (eC q s)) 5 = some (arr0 s.pu q.sm.length) := nl_arr0
theorem ldC6 : ld 1 false (AV.cells (eC q s)) 6 = some (arr0 s.fu q.sm.length) := nl_arr0
theorem ldC7 : ld 1 false (AV.cells (eC q s)) 7 = some (arr0 s.so q.fn.length) := nl_arr0
theorem ldC8 : ld 1 false (AV.cells (eC q s)) 8 = some (eN s.f) := rfl
theorem ldC9 : ld 1 false (AV.cells (eC q s)) 9 = some (.sl s.nt 3 (s.nm.map eNm)) := rfl
theorem ldC10 : ld 1 false (AV.cells (eC q s)) 10 = some (eI s.bk) := rfl
theorem ldC11 : ld 1 false (AV.cells (eC q s)) 11 = some (eN s.lp) := rfl
theorem ldC12 : ld 1 false (AV.cells (eC q s)) 12 = some (eN s.code) := rfl
theorem ldC13 : ld 1 false (AV.cells (eC q s)) 13 = some (eN s.at_) := rfl
theorem ldC : ld 14 true (AV.cells (eC q s)) 0 = some (eC q s) := rfl
theorem ldC5' : ld 5 true (AV.cells (eC q s)) 3 = some (.agg [arr0 s.ty q.ex.length, arr0 s.sl q.ex.length, arr0 s.pu q.sm.length, arr0 s.fu q.sm.length, arr0 s.so q.fn.length]) := rfl
theorem udC8 {n : Nat} : upd 8 [.int .i64 (n : Int)] (AV.cells (eC q s)) = some (AV.cells (eC q { s with f := n })) := rfl
theorem udC9 {t : Tok} {l : List Nm} : upd 9 [.sl t 3 (l.map eNm)] (AV.cells (eC q s)) = some (AV.cells (eC q { s with nt := t, nm := l })) := rfl
theorem udC9n {t : Tok} : upd 9 [.sl t 3 []] (AV.cells (eC q s)) = some (AV.cells (eC q { s with nt := t, nm := [] })) := rfl
theorem udC10 {n : Int} : upd 10 [.int .i64 n] (AV.cells (eC q s)) = some (AV.cells (eC q { s with bk := n })) := rfl
theorem udC11 {n : Nat} : upd 11 [.int .i64 (n : Int)] (AV.cells (eC q s)) = some (AV.cells (eC q { s with lp := n })) := rfl
theorem udC12 {n : Nat} : upd 12 [.int .i64 (n : Int)] (AV.cells (eC q s)) = some (AV.cells (eC q { s with code := n })) := rfl
theorem udC13 {n : Nat} : upd 13 [.int .i64 (n : Int)] (AV.cells (eC q s)) = some (AV.cells (eC q { s with at_ := n })) := rfl
theorem udCa {q' : PT} {s' : CS} : upd 0 (AV.cells (eC q s)) (AV.cells (eC q' s')) = some (AV.cells (eC q s)) := rfl
theorem udC0 {a b c d e f g h i j k l m n : AV} : upd 0 (AV.cells (eC q s)) [a, b, c, d, e, f, g, h, i, j, k, l, m, n] = some (AV.cells (eC q s)) := rfl
theorem okvC : okv 14 (eC q s) = true := rfl
theorem memC : AV.mem (eC q s) = true := rfl
theorem nlC : nl (eC q s) = some (eC q s) := rfl
theorem nlocC {d} : notLoc d (eC q s) = true := rfl
end
theorem ldN0 {n : Nm} : ld 1 false (AV.cells (eNm n)) 0 = some (.str n.text) := rfl
theorem ldN1 {n : Nm} : ld 1 false (AV.cells (eNm n)) 1 = some (eI n.block) := rfl
theorem ldN2 {n : Nm} : ld 1 false (AV.cells (eNm n)) 2 = some (eN n.slot) := rfl
theorem bldN {x : List Nat} {b : Int} {n : Nat} : bld [.str [], .int .i64 0, .int .i64 0] [(0, 1, .str x), (1, 1, .int .i64 b), (2, 1, .int .i64 (n : Int))] = some (eNm ⟨x, b, n⟩) := rfl
theorem okvN {n : Nm} : okv 3 (eNm n) = true := rfl
attribute [go_sem] ldC0 ldC1 ldC2 ldC3 ldC4 ldC5 ldC6 ldC7 ldC8 ldC9 ldC10 ldC11 ldC12 ldC13 ldC ldC5' udC8 udC9 udC9n udC10 udC11 udC12 udC13 udCa udC0 okvC memC nlC nlocC ldN0 ldN1 ldN2 okvN
theorem ixa_arr {id n i : Nat} {k : IntKind} (h : i < n) : ixaV 1 (arr0 id n) (.int k (i : Int)) = some (.ptr id i) := by
  rw [arr0, if_neg (by omega), ixaV_arr, if_pos ⟨rfl, Int.natCast_nonneg i, by simpa using h⟩]
  simp
def eSlot (c : Tok × List Int) : AV := .sl c.1 1 (c.2.map eI)
def Ints (hp : List AO) (id n : Nat) : Prop := 0 < n → ∃ l : List Int, l.length = n ∧ hcells hp id = some (l.map eI)
structure HC (q : PT) (hp : List AO) (s : CS) (L : Nat) : Prop where
  ty : Ints hp s.ty q.ex.length
  sl : Ints hp s.sl q.ex.length
  pu : Ints hp s.pu q.sm.length
  fu : Ints hp s.fu q.sm.length
  so : ∃ cl : List (Tok × List Int), cl.length = q.fn.length ∧ hcells hp s.so = some (cl.map eSlot) ∧ (∃ c, cl[s.f]? = some c ∧ c.2.length = L ∧ Gr hp c.1 L) ∧ ∀ j, s.f < j → ∀ c, cl[j]? = some c → c = (.cap0, [])
  d1 : s.so ≠ s.ty
  d2 : s.so ≠ s.sl
  d3 : s.so ≠ s.pu
  d4 : s.so ≠ s.fu
  nm : ∀ n ∈ s.nm, n.slot < L
  nl : s.nm.length ≤ L
  lb : L ≤ 64
/-- From s to s'; the names too may be others. -/
structure Nx (s : CS) (L : Nat) (s' : CS) (L' : Nat) : Prop where
  ids : s'.ty = s.ty ∧ s'.sl = s.sl ∧ s'.pu = s.pu ∧ s'.fu = s.fu ∧ s'.so = s.so
  f : s'.f = s.f
  lp : s'.lp = s.lp
  le : L ≤ L'
  er : s'.code = 0 → s.code = 0
structure NxE (s : CS) (L : Nat) (s' : CS) (L' : Nat) : Prop where
  nx : Nx s L s' L'
  nm : s'.nm = s.nm ∧ s'.nt = s.nt
theorem Nx.refl {s L} : Nx s L s L := ⟨⟨rfl, rfl, rfl, rfl, rfl⟩, rfl, rfl, Nat.le_refl _, id⟩
theorem Nx.trans {s L s' L' s'' L''} (h1 : Nx s L s' L') (h2 : Nx s' L' s'' L'') : Nx s L s'' L'' := by
  obtain ⟨a1, a2, a3, a4, a5⟩ := h1.ids
  obtain ⟨b1, b2, b3, b4, b5⟩ := h2.ids
  exact ⟨⟨b1.trans a1, b2.trans a2, b3.trans a3, b4.trans a4, b5.trans a5⟩, h2.f.trans h1.f, h2.lp.trans h1.lp, Nat.le_trans h1.le h2.le, fun e => h1.er (h2.er e)⟩
theorem NxE.refl {s L} : NxE s L s L := ⟨Nx.refl, rfl, rfl⟩
theorem NxE.trans {s L s' L' s'' L''} (h1 : NxE s L s' L') (h2 : NxE s' L' s'' L'') : NxE s L s'' L'' := ⟨h1.nx.trans h2.nx, h2.nm.1.trans h1.nm.1, h2.nm.2.trans h1.nm.2⟩
theorem hcells_set {hp : List AO} {id j : Nat} {cs : List AV} (h : hcells hp j = some cs) {o : AO} (hne : id ≠ j) : hcells (hp.set id o) j = some cs := by
  unfold hcells at h ⊢
  rw [List.getElem?_set_ne hne]; exact h
theorem hcells_self {hp : List AO} {id : Nat} {cs ds : List AV} (h : hcells hp id = some cs) : hcells (hp.set id (.cells ds)) id = some ds := by
  unfold hcells at h ⊢
  cases hg : hp[id]? with
  | none => rw [hg] at h; cases h
  | some o =>
    have hlt := (List.getElem?_eq_some_iff.1 hg).1
    rw [List.getElem?_set_self hlt]
theorem upd_one : ∀ {l : List AV} {i : Nat} {v : AV}, i < l.length → upd i [v] l = some (l.set i v)
  | x :: l, 0, v, _ => by simp [upd]
  | x :: l, i + 1, v, h => by
    rw [upd_skip, upd_one (by simpa using h)]
    rfl
theorem Ints.put {hp : List AO} {id n : Nat} (h : Ints hp id n) {i : Nat} {v : Int} (hi : i < n) : ∃ hp' cs, stH hp 1 (.int .i64 v) (.ptr id i) = some hp' ∧ hp' = hp.set id (.cells cs) ∧ Ints hp' id n := by
  obtain ⟨l, hl, hc⟩ := h (by omega)
  refine ⟨hp.set id (.cells ((l.set i v).map eI)), (l.set i v).map eI, ?_, rfl, fun _ => ⟨l.set i v, by simpa using hl, ?_⟩⟩
  · rw [stH_ptr, okv_int]
    simp only [hc, Option.bind_some, cells_int]
    rw [upd_one (by simpa [hl] using hi)]
    simp [List.map_set]
  · exact hcells_self hc
theorem Ints.other {hp : List AO} {id j n m : Nat} (h : Ints hp j m) (hid : Ints hp id n) {i : Nat} {v : Int} {hp' : List AO} {cs : List AV} (he : hp' = hp.set id (.cells cs)) (hp2 : Ints hp' id n) (hnm : id = j → n = m) : Ints hp' j m := by
  by_cases hj : id = j
  · subst hj; rw [← hnm rfl]; exact hp2
  · intro hm
    obtain ⟨l, hl, hc⟩ := h hm
    exact ⟨l, hl, by rw [he]; exact hcells_set hc hj⟩
theorem htok_set {hp : List AO} {id j : Nat} {cs ds : List AV} (hc : hcells hp id = some cs) (h : htok hp j = true) : htok (hp.set id (.cells ds)) j = true := by
  unfold hcells at hc
  unfold htok at h ⊢
  have hne : id ≠ j := by
    intro e
    subst e
    cases hg : hp[id]? with
    | none => rw [hg] at hc; cases hc
    | some o => rw [hg] at hc h; cases o <;> simp at hc h
  rw [List.getElem?_set_ne hne]; exact h
theorem Gr.set {hp : List AO} {id : Nat} {cs ds : List AV} (hc : hcells hp id = some cs) {t n} (h : Gr hp t n) : Gr (hp.set id (.cells ds)) t n := by
  rcases h with h | ⟨i, rfl, h⟩
  · exact .inl h
  · exact .inr ⟨i, rfl, htok_set hc h⟩
section
variable {q : PT} {s : CS} {L : Nat} {hp : List AO} {Q : ARes → List AO → Prop}
/-- A number is written into one of the four. -/
theorem HC.put (h : HC q hp s L) {id n i : Nat} {v : Int} (hid : (id = s.ty ∧ n = q.ex.length) ∨ (id = s.sl ∧ n = q.ex.length) ∨ (id = s.pu ∧ n = q.sm.length) ∨ (id = s.fu ∧ n = q.sm.length)) (hi : i < n)
    (hd : s.ty ≠ s.pu ∧ s.ty ≠ s.fu ∧ s.sl ≠ s.pu ∧ s.sl ≠ s.fu) : ∃ hp', stH hp 1 (.int .i64 v) (.ptr id i) = some hp' ∧ HC q hp' s L := by
  have hI : Ints hp id n := by
    rcases hid with ⟨rfl, rfl⟩ | ⟨rfl, rfl⟩ | ⟨rfl, rfl⟩ | ⟨rfl, rfl⟩
    · exact h.ty
    · exact h.sl
    · exact h.pu
    · exact h.fu
  have hso : s.so ≠ id := by
    rcases hid with ⟨rfl, rfl⟩ | ⟨rfl, rfl⟩ | ⟨rfl, rfl⟩ | ⟨rfl, rfl⟩
    · exact h.d1
    · exact h.d2
    · exact h.d3
    · exact h.d4
  obtain ⟨hp', cs, h1, h2, h3⟩ := hI.put (v := v) hi
  obtain ⟨d1, d2, d3, d4⟩ := hd
  refine ⟨hp', h1, ?_, ?_, ?_, ?_, ?_, h.d1, h.d2, h.d3, h.d4, h.nm, h.nl, h.lb⟩
  · refine h.ty.other hI (i := 0) (v := 0) h2 h3 fun e => ?_
    rcases hid with ⟨rfl, rfl⟩ | ⟨rfl, rfl⟩ | ⟨rfl, rfl⟩ | ⟨rfl, rfl⟩
    · rfl
    · rfl
    · exact absurd e.symm d1
    · exact absurd e.symm d2
  · refine h.sl.other hI (i := 0) (v := 0) h2 h3 fun e => ?_
    rcases hid with ⟨rfl, rfl⟩ | ⟨rfl, rfl⟩ | ⟨rfl, rfl⟩ | ⟨rfl, rfl⟩
    · rfl
    · rfl
    · exact absurd e.symm d3
    · exact absurd e.symm d4
  · refine h.pu.other hI (i := 0) (v := 0) h2 h3 fun e => ?_
    rcases hid with ⟨rfl, rfl⟩ | ⟨rfl, rfl⟩ | ⟨rfl, rfl⟩ | ⟨rfl, rfl⟩
    · exact absurd e d1
    · exact absurd e d3
    · rfl
    · rfl
  · refine h.fu.other hI (i := 0) (v := 0) h2 h3 fun e => ?_
    rcases hid with ⟨rfl, rfl⟩ | ⟨rfl, rfl⟩ | ⟨rfl, rfl⟩ | ⟨rfl, rfl⟩
    · exact absurd e d2
    · exact absurd e d4
    · rfl
    · rfl
  · obtain ⟨cl, e1, e2, ⟨c, e3, e4, e5⟩, e6⟩ := h.so
    obtain ⟨l, _, hc⟩ := hI (by omega)
    exact ⟨cl, e1, by rw [h2]; exact hcells_set e2 (Ne.symm hso), ⟨c, e3, e4, by rw [h2]; exact e5.set hc⟩, e6⟩
theorem HC.re (h : HC q hp s L) {s' : CS} (e : s'.ty = s.ty ∧ s'.sl = s.sl ∧ s'.pu = s.pu ∧ s'.fu = s.fu ∧ s'.so = s.so) (f : s'.f = s.f) (hn : ∀ n ∈ s'.nm, n.slot < L) (hl : s'.nm.length ≤ L) : HC q hp s' L := by
  obtain ⟨a1, a2, a3, a4, a5⟩ := e
  exact ⟨a1 ▸ h.ty, a2 ▸ h.sl, a3 ▸ h.pu, a4 ▸ h.fu, by rw [a5, f]; exact h.so, by rw [a5, a1]; exact h.d1, by rw [a5, a2]; exact h.d2, by rw [a5, a3]; exact h.d3, by rw [a5, a4]; exact h.d4, hn, hl, h.lb⟩
/-- The four are four. -/
def Ds (s : CS) : Prop := s.ty ≠ s.pu ∧ s.ty ≠ s.fu ∧ s.sl ≠ s.pu ∧ s.sl ≠ s.fu
theorem Nx.ds {s' L'} (h : Nx s L s' L') (d : Ds s) : Ds s' := by
  obtain ⟨a1, a2, a3, a4, a5⟩ := h.ids
  unfold Ds
  rw [a1, a2, a3, a4]
  exact d
def needS (s : CS) (ok : Bool) (a c : Nat) : CS := if s.code = 0 ∧ ok = false then { s with code := c, at_ := a } else s
theorem needS_nx {ok : Bool} {a c : Nat} (hc : c ≠ 0) : NxE s L (needS s ok a c) L := by
  unfold needS
  split
  · exact ⟨⟨⟨rfl, rfl, rfl, rfl, rfl⟩, rfl, rfl, Nat.le_refl _, fun e => absurd e hc⟩, rfl, rfl⟩
  · exact NxE.refl
theorem needS_ok {ok : Bool} {a c : Nat} (hc : c ≠ 0) (h : (needS s ok a c).code = 0) : ok = true := by
  unfold needS at h
  split at h
  · exact absurd h hc
  · rename_i hn
    cases ok with
    | true => rfl
    | false => exact absurd ⟨h, rfl⟩ hn
theorem HC.need (h : HC q hp s L) {ok : Bool} {a c : Nat} : HC q hp (needS s ok a c) L := by
  unfold needS
  split
  · exact h.re ⟨rfl, rfl, rfl, rfl, rfl⟩ rfl h.nm h.nl
  · exact h
theorem need_ok {b : Bool} {a c : Nat} (hQ : Q (.ret (eC q (needS s b a c))) hp) : callK CC 45 [eC q s, .bool b, eN a, eN c] hp Q := by
  refine callK_intro rfl (c45 ?_)
  simp only [s45]
  intro J1 h1
  by_cases h0 : s.code = 0
  · cases b with
    | true =>
      simp -implicitDefEqProofs (maxSteps := 5000000) (disch := omega) only [s45_0, memC, nlocC, ldC12, h0, go_sem, Nat.reduceBEq, Nat.reduceBNe, reduceIte, reduceCtorEq, Nat.reduceLeDiff, Nat.reduceAdd, Nat.reduceEqDiff]
      apply h1
      simp -implicitDefEqProofs (maxSteps := 5000000) (disch := omega) only [s45_1, ldC, okvC, udC0, go_sem, Nat.reduceBEq, Nat.reduceBNe, reduceIte, reduceCtorEq, Nat.reduceLeDiff, Nat.reduceAdd, Nat.reduceEqDiff]
      simpa [needS] using hQ
    | false =>
      simp -implicitDefEqProofs (maxSteps := 5000000) (disch := omega) only [s45_0, memC, nlocC, ldC12, h0, udC12, udC13, go_sem, Nat.reduceBEq, Nat.reduceBNe, reduceIte, reduceCtorEq, Nat.reduceLeDiff, Nat.reduceAdd, Nat.reduceEqDiff]
      apply h1
      simp -implicitDefEqProofs (maxSteps := 5000000) (disch := omega) only [s45_1, ldC, okvC, udC0, go_sem, Nat.reduceBEq, Nat.reduceBNe, reduceIte, reduceCtorEq, Nat.reduceLeDiff, Nat.reduceAdd, Nat.reduceEqDiff]
      simpa [needS, h0] using hQ
  · simp -implicitDefEqProofs (maxSteps := 5000000) (disch := omega) only [s45_0, memC, nlocC, ldC12, h0, go_sem, Nat.reduceBEq, Nat.reduceBNe, reduceIte, reduceCtorEq, Nat.reduceLeDiff, Nat.reduceAdd, Nat.reduceEqDiff]
    apply h1
    simp -implicitDefEqProofs (maxSteps := 5000000) (disch := omega) only [s45_1, ldC, okvC, udC0, go_sem, Nat.reduceBEq, Nat.reduceBNe, reduceIte, reduceCtorEq, Nat.reduceLeDiff, Nat.reduceAdd, Nat.reduceEqDiff]
    simpa [needS, h0] using hQ
/-- A slot, or none. -/
def Sl (L : Nat) (r : Int) : Prop := r = -1 ∨ ∃ n : Nat, n < L ∧ r = n
theorem find_ok (h : HC q hp s L) {x : List Nat} (hQ : ∀ r, Sl L r → Q (.ret (eI r)) hp) : callK CC 76 [eC q s, .str x] hp Q := by
  have hlb := h.lb
  have hnl := h.nl
  refine callK_intro rfl (c76 ?_)
  simp only [s76]
  intro J1 J2 J3 h1 h2 h3
  simp -implicitDefEqProofs (maxSteps := 5000000) (disch := omega) only [s76_0, memC, nlocC, ldC9, go_sem, Nat.reduceBEq, Nat.reduceBNe, reduceIte, reduceCtorEq, Nat.reduceLeDiff, Nat.reduceAdd, Nat.reduceEqDiff]
  have key : ∀ (k i : Nat) (r : Int), s.nm.length - i = k → Sl L r → J1 (.str x) (eI r) (eN s.nm.length) (eN i) (AV.cells (eC q s)) hp := by
    intro k
    induction k with
    | zero =>
      intro i r hk hr
      apply h1
      have : ¬ i < s.nm.length := by omega
      simp -implicitDefEqProofs (maxSteps := 5000000) (disch := omega) only [s76_1, this, go_sem, Nat.reduceBEq, Nat.reduceBNe, reduceIte, reduceCtorEq, Nat.reduceLeDiff, Nat.reduceAdd, Nat.reduceEqDiff]
      apply h3
      simp -implicitDefEqProofs (maxSteps := 5000000) (disch := omega) only [s76_3, go_sem, Nat.reduceBEq, Nat.reduceBNe, reduceIte, reduceCtorEq, Nat.reduceLeDiff, Nat.reduceAdd, Nat.reduceEqDiff]
      exact hQ r hr
    | succ k ih =>
      intro i r hk hr
      have hlt : i < s.nm.length := by omega
      have hx : s.nm[i]? = some s.nm[i] := List.getElem?_eq_getElem hlt
      apply h1
      by_cases he : s.nm[i].text = x
      · simp -implicitDefEqProofs (maxSteps := 5000000) (disch := omega) only [s76_1, hlt, hx, ldC9, ldN0, ldN2, he, go_sem, Nat.reduceBEq, Nat.reduceBNe, reduceIte, reduceCtorEq, Nat.reduceLeDiff, Nat.reduceAdd, Nat.reduceEqDiff]
        apply h2
        simp -implicitDefEqProofs (maxSteps := 5000000) (disch := omega) only [s76_2, go_sem, Nat.reduceBEq, Nat.reduceBNe, reduceIte, reduceCtorEq, Nat.reduceLeDiff, Nat.reduceAdd, Nat.reduceEqDiff]
        exact ih (i + 1) _ (by omega) (.inr ⟨_, h.nm _ (List.getElem_mem hlt), rfl⟩)
      · simp -implicitDefEqProofs (maxSteps := 5000000) (disch := omega) only [s76_1, hlt, hx, ldC9, ldN0, ldN2, he, go_sem, Nat.reduceBEq, Nat.reduceBNe, reduceIte, reduceCtorEq, Nat.reduceLeDiff, Nat.reduceAdd, Nat.reduceEqDiff]
        apply h2
        simp -implicitDefEqProofs (maxSteps := 5000000) (disch := omega) only [s76_2, go_sem, Nat.reduceBEq, Nat.reduceBNe, reduceIte, reduceCtorEq, Nat.reduceLeDiff, Nat.reduceAdd, Nat.reduceEqDiff]
        exact ih (i + 1) r (by omega) hr
  exact key _ 0 (-1) rfl (.inl rfl)
theorem HC.slots (h : HC q hp s L) : ∃ t, ∃ l : List Int, l.length = L ∧ s.f < q.fn.length ∧ ldH hp 1 false (.ptr s.so s.f) = some (.sl t 1 (l.map eI)) ∧ Gr hp t L := by
  obtain ⟨cl, e1, e2, ⟨c, e3, e4, e5⟩, e6⟩ := h.so
  have hlt := (List.getElem?_eq_some_iff.1 e3).1
  refine ⟨c.1, c.2, e4, by omega, ?_, e5⟩
  rw [ldH_ptr, e2, Option.bind_some, ld_false, nth_eq, List.getElem?_map, e3]
  rfl
theorem slot_ok (h : HC q hp s L) {x : List Nat} {b : Bool} {a : Nat} (hQ : ∀ r s', Sl L r → NxE s L s' L → HC q hp s' L → (s'.code = 0 → 0 ≤ r) → Q (.ret (.tup [eC q s', eI r])) hp) : callK CC 61 [eC q s, .str x, .bool b, eN a] hp Q := by
  have hlb := h.lb
  refine callK_intro rfl (c61 ?_)
  simp -implicitDefEqProofs (maxSteps := 5000000) (disch := omega) only [s61, s61_0, memC, nlocC, ldC, go_sem, Nat.reduceBEq, Nat.reduceBNe, reduceIte, reduceCtorEq, Nat.reduceLeDiff, Nat.reduceAdd, Nat.reduceEqDiff]
  refine find_ok h fun r hr => ?_
  have fin : ∀ ok : Bool, (ok = true → 0 ≤ r) → Q (.ret (.tup [eC q (needS s ok a 6), eI r])) hp := fun ok hk => hQ r _ hr (needS_nx (by omega)) h.need fun e => hk (needS_ok (by omega) e)
  rcases hr with rfl | ⟨n, hn, rfl⟩
  · simp -implicitDefEqProofs (maxSteps := 5000000) (disch := omega) only [ldC, go_sem, Nat.reduceBEq, Nat.reduceBNe, reduceIte, reduceCtorEq, Nat.reduceLeDiff, Nat.reduceAdd, Nat.reduceEqDiff]
    have e1 : ¬ (0 : Int) ≤ -1 := by omega
    simp -implicitDefEqProofs (maxSteps := 5000000) (disch := omega) only [e1, go_sem, Nat.reduceBEq, Nat.reduceBNe, reduceIte, reduceCtorEq, Nat.reduceLeDiff, Nat.reduceAdd, Nat.reduceEqDiff]
    refine need_ok (c := 6) ?_
    simp -implicitDefEqProofs (maxSteps := 5000000) (disch := omega) only [go_sem, Nat.reduceBEq, Nat.reduceBNe, reduceIte, reduceCtorEq, Nat.reduceLeDiff, Nat.reduceAdd, Nat.reduceEqDiff]
    exact fin false (fun e => by cases e)
  · obtain ⟨t, l, hl, hf, hld, _⟩ := h.slots
    have e1 : (0 : Int) ≤ (n : Int) := Int.natCast_nonneg n
    have hx : l[n]? = some l[n] := List.getElem?_eq_getElem (by omega)
    simp -implicitDefEqProofs (maxSteps := 5000000) (disch := omega) only [ldC, e1, lsV_some, fnd_cons, ldC7, ldC8, ixa_arr hf, hld, hx, go_sem, Nat.reduceBEq, Nat.reduceBNe, reduceIte, reduceCtorEq, Nat.reduceLeDiff, Nat.reduceAdd, Nat.reduceEqDiff]
    refine need_ok (c := 6) ?_
    simp -implicitDefEqProofs (maxSteps := 5000000) (disch := omega) only [go_sem, Nat.reduceBEq, Nat.reduceBNe, reduceIte, reduceCtorEq, Nat.reduceLeDiff, Nat.reduceAdd, Nat.reduceEqDiff]
    exact fin _ (fun _ => e1)
end
end Go.Proofs.Ytnldohnfdeineaa.Abs
/- The document's checker: expressions. -/
namespace Go.Proofs.Ytnldohnfdeineaa.Abs
open Go
set_option maxRecDepth 100000

theorem hcells_same {ts : List Tok} {hp hp' : List AO} (h : Same ts hp hp') {id : Nat} {cs : List AV} (hc : hcells hp id = some cs) (ht : ∀ u ∈ ts, ∀ i, u = .own i → htok hp i = true) : hcells hp' id = some cs := by
  have hlt : id < hp.length := by
    unfold hcells at hc
    cases hg : hp[id]? with
    | none => rw [hg] at hc; cases hc
    | some o => exact (List.getElem?_eq_some_iff.1 hg).1
  unfold hcells at hc ⊢
  rw [h.2 id hlt fun u hu e => ?_]
  · exact hc
  · have := ht u hu id e
    unfold htok at this
    cases hg : hp[id]? with
    | none => rw [hg] at hc; cases hc
    | some o => rw [hg] at hc this; cases o <;> simp at hc this
theorem Ints.same {ts : List Tok} {hp hp' : List AO} (h : Same ts hp hp') {id n : Nat} (hi : Ints hp id n) (ht : ∀ u ∈ ts, ∀ i, u = .own i → htok hp i = true) : Ints hp' id n := by
  intro h0
  obtain ⟨l, h1, h2⟩ := hi h0
  exact ⟨l, h1, hcells_same h h2 ht⟩
theorem names_copy {hp : List AO} {t : Tok} {l : List Nm} (hl : l.length < 1000000) : ∃ u hp', apx false 3 hp (.sl .cap0 3 []) (.sl t 3 (l.map eNm)) = some (.sl u 3 (l.map eNm), hp') ∧ Gr hp' u l.length ∧ Same [] hp hp' ∧ (∀ i, u = .own i → hp.length ≤ i) := by
  cases l with
  | nil => exact ⟨.cap0, hp, by simp [apx], .inl ⟨rfl, rfl⟩, Same.refl, fun i e => by cases e⟩
  | cons x l =>
    refine ⟨.own hp.length, hp ++ [.tok], ?_, .inr ⟨_, rfl, by simp [htok]⟩, ⟨by simp, fun i hi _ => by simp [List.getElem?_append_left hi]⟩, fun i e => by cases e; exact Nat.le_refl _⟩
    rw [List.map_cons, apx_cap0 (by simp at hl ⊢; omega)]
section
variable {q : PT} {s : CS} {L : Nat} {hp : List AO} {Q : ARes → List AO → Prop}
theorem declare_ok (h : HC q hp s L) {x : List Nat} {kd : Int} {a : Nat} (hQ : ∀ r s' L' hp', Nx s L s' L' → HC q hp' s' L' → Q (.ret (.tup [eC q s', eI r])) hp') : callK CC 46 [eC q s, .str x, eI kd, eN a] hp Q := by
  have hlb := h.lb
  have hnl := h.nl
  refine callK_intro rfl (c46 ?_)
  simp only [s46]
  intro J1 J2 h1 h2
  simp -implicitDefEqProofs (maxSteps := 5000000) (disch := omega) only [s46_0, go_sem, Nat.reduceBEq, Nat.reduceBNe, reduceIte, reduceCtorEq, Nat.reduceLeDiff, Nat.reduceAdd, Nat.reduceEqDiff]
  have fin : ∀ tw : Bool, J2 (.str x) (eI kd) (eN a) (.bool tw) (AV.cells (eC q s)) [.sl .cap0 9 [], .sl .cap0 9 [], .sl .cap0 6 [], .sl .cap0 1 [], .sl .cap0 1 [], .sl .cap0 1 [], .sl .cap0 1 [], .sl .cap0 1 [], .int .i64 0, .sl .cap0 3 [], .int .i64 0, .int .i64 0, .int .i64 0, .int .i64 0] hp := fun tw => by
    apply h2
    obtain ⟨t, l, hl, hf, hld, hg⟩ := h.slots
    simp -implicitDefEqProofs (maxSteps := 5000000) (disch := omega) only [s46_2, ixa_arr hf, hld, go_sem, Nat.reduceBEq, Nat.reduceBNe, reduceIte, reduceCtorEq, Nat.reduceLeDiff, Nat.reduceAdd, Nat.reduceEqDiff]
    refine need_ok (c := 7) ?_
    simp -implicitDefEqProofs (maxSteps := 5000000) (disch := omega) only [go_sem, Nat.reduceBEq, Nat.reduceBNe, reduceIte, reduceCtorEq, Nat.reduceLeDiff, Nat.reduceAdd, Nat.reduceEqDiff]
    refine need_ok (c := 5) ?_
    generalize hs1 : needS (needS s (!tw) a 7) (decide (l.length < 64)) a 5 = s1
    have hx1 : NxE s L s1 L := by rw [← hs1]; exact NxE.trans (needS_nx (by omega)) (needS_nx (by omega))
    have hc1 : HC q hp s1 L := by rw [← hs1]; exact h.need.need
    have h64 : s1.code = 0 → l.length < 64 := fun e => by rw [← hs1] at e; exact of_decide_eq_true (needS_ok (by omega) e)
    obtain ⟨a1, a2, a3, a4, a5⟩ := hx1.nx.ids
    have hf1 : s1.f < q.fn.length := by rw [hx1.nx.f]; exact hf
    have hld1 : ldH hp 1 false (.ptr s1.so s1.f) = some (.sl t 1 (l.map eI)) := by rw [a5, hx1.nx.f]; exact hld
    by_cases h0 : s1.code = 0
    · have hlt := h64 h0
      obtain ⟨hp3, ha, hlen, hg3, hsm⟩ := app_gr (f := eI) (e := 1) (t2 := .no) (y := kd) (hl ▸ hg) (by omega)
      have htk : ∀ u ∈ [t], ∀ i, u = .own i → htok hp i = true := fun u hu i e => by
        rw [List.mem_singleton.1 hu] at e
        rcases hg with ⟨e', _⟩ | ⟨id, e', ht⟩
        · rw [e] at e'; cases e'
        · rw [e] at e'; cases e'; exact ht
      obtain ⟨cl, e1, e2, ⟨c, e3, e4, e5⟩, e6⟩ := hc1.so
      have e2' := hcells_same hsm e2 htk
      have hst : stH hp3 1 (.sl (.own hp.length) 1 ((l ++ [kd]).map eI)) (.ptr s1.so s1.f) = some (hp3.set s1.so (.cells ((cl.set s1.f (.own hp.length, l ++ [kd])).map eSlot))) := by
        rw [stH_ptr, okv_sl]
        simp only [e2', Option.bind_some, cells_sl]
        rw [upd_one (by simpa [e1] using hf1)]
        simp [List.map_set, eSlot]
      generalize hhp4 : hp3.set s1.so (.cells ((cl.set s1.f (.own hp.length, l ++ [kd])).map eSlot)) = hp4 at hst
      have hlen4 : hp4.length = hp3.length := by rw [← hhp4]; simp
      have hi4 : ∀ {id n}, s1.so ≠ id → Ints hp id n → Ints hp4 id n := fun {id n} hne hi => by
        intro h0
        obtain ⟨l', b1, b2⟩ := hi.same hsm htk h0
        exact ⟨l', b1, by rw [← hhp4]; exact hcells_set b2 hne⟩
      have hso4 : hcells hp4 s1.so = some ((cl.set s1.f (.own hp.length, l ++ [kd])).map eSlot) := by rw [← hhp4]; exact hcells_self e2'
      have hg4 : Gr hp4 (.own hp.length) (l ++ [kd]).length := by rw [← hhp4]; exact hg3.set e2'
      obtain ⟨u, hp5, b1, b2, b3, b4⟩ := names_copy (hp := hp4) (t := s1.nt) (l := s1.nm) (by have := hc1.nl; omega)
      obtain ⟨hp6, d1, d2, d3, d4⟩ := app_gr (f := eNm) (e := 3) (t2 := .no) (y := ⟨x, s1.bk, l.length⟩) b2 (by have := hc1.nl; omega)
      have htk2 : ∀ v ∈ [u], ∀ i, v = .own i → htok hp5 i = true := fun v hv i e => by
        rw [List.mem_singleton.1 hv] at e
        rcases b2 with ⟨e', _⟩ | ⟨id, e', ht⟩
        · rw [e] at e'; cases e'
        · rw [e] at e'; cases e'; exact ht
      have hi6 : ∀ {id n}, s1.so ≠ id → Ints hp id n → Ints hp6 id n := fun {id n} hne hi => ((hi4 hne hi).same b3 (fun v hv => by simp at hv)).same d4 htk2
      have hso6 := hcells_same d4 (hcells_same b3 hso4 (fun v hv => by simp at hv)) htk2
      have hg6 : Gr hp6 (.own hp.length) (l ++ [kd]).length := by
        refine d4.gr (b3.gr hg4 fun v hv => by simp at hv) fun v hv i e e' => ?_
        rw [List.mem_singleton.1 hv] at e'
        cases e
        have := b4 _ e'
        omega
      have hfin : HC q hp6 { s1 with nt := .own hp5.length, nm := s1.nm ++ [⟨x, s1.bk, l.length⟩] } (L + 1) := by
        refine ⟨hi6 hc1.d1 hc1.ty, hi6 hc1.d2 hc1.sl, hi6 hc1.d3 hc1.pu, hi6 hc1.d4 hc1.fu, ⟨cl.set s1.f (.own hp.length, l ++ [kd]), by simpa using e1, hso6, ⟨(.own hp.length, l ++ [kd]), ?_, by simp [hl], by simpa [hl] using hg6⟩, fun j hj c hc => ?_⟩, hc1.d1, hc1.d2, hc1.d3, hc1.d4, ?_, ?_, by omega⟩
        · rw [List.getElem?_set_self (by omega)]
        · rw [List.getElem?_set_ne (by exact Nat.ne_of_lt hj)] at hc
          exact e6 j hj c hc
        · intro n hn
          rcases List.mem_append.1 hn with hn | hn
          · exact Nat.lt_succ_of_lt (hc1.nm n hn)
          · rw [List.mem_singleton.1 hn]; show l.length < L + 1; omega
        · have := hc1.nl
          simp; omega
      simp -implicitDefEqProofs (maxSteps := 5000000) (disch := omega) only [h0, ixa_arr hf1, hld1, ha, hst, b1, bldN, d1, go_sem, Nat.reduceBEq, Nat.reduceBNe, reduceIte, reduceCtorEq, Nat.reduceLeDiff, Nat.reduceAdd, Nat.reduceEqDiff]
      have hq := hQ (l.length : Int) { s1 with nt := .own hp5.length, nm := s1.nm ++ [⟨x, s1.bk, l.length⟩] } (L + 1) hp6 ⟨⟨a1, a2, a3, a4, a5⟩, hx1.nx.f, hx1.nx.lp, Nat.le_succ _, hx1.nx.er⟩ hfin
      simp only [h0] at hq
      exact hq
    · simp -implicitDefEqProofs (maxSteps := 5000000) (disch := omega) only [h0, go_sem, Nat.reduceBEq, Nat.reduceBNe, reduceIte, reduceCtorEq, Nat.reduceLeDiff, Nat.reduceAdd, Nat.reduceEqDiff]
      exact hQ (-1) s1 L hp hx1.nx hc1
  have key : ∀ (k i : Nat) (tw : Bool), s.nm.length - i = k → J1 (.str x) (eI kd) (eN a) (.bool tw) (eN s.nm.length) (eN i) (AV.cells (eC q s)) [.sl .cap0 9 [], .sl .cap0 9 [], .sl .cap0 6 [], .sl .cap0 1 [], .sl .cap0 1 [], .sl .cap0 1 [], .sl .cap0 1 [], .sl .cap0 1 [], .int .i64 0, .sl .cap0 3 [], .int .i64 0, .int .i64 0, .int .i64 0, .int .i64 0] hp := by
    intro k
    induction k with
    | zero =>
      intro i tw hk
      apply h1
      have : ¬ i < s.nm.length := by omega
      simp -implicitDefEqProofs (maxSteps := 5000000) (disch := omega) only [s46_1, this, go_sem, Nat.reduceBEq, Nat.reduceBNe, reduceIte, reduceCtorEq, Nat.reduceLeDiff, Nat.reduceAdd, Nat.reduceEqDiff]
      exact fin tw
    | succ k ih =>
      intro i tw hk
      have hlt : i < s.nm.length := by omega
      have hx : s.nm[i]? = some s.nm[i] := List.getElem?_eq_getElem hlt
      apply h1
      cases tw with
      | true =>
        simp -implicitDefEqProofs (maxSteps := 5000000) (disch := omega) only [s46_1, hlt, go_sem, Nat.reduceBEq, Nat.reduceBNe, reduceIte, reduceCtorEq, Nat.reduceLeDiff, Nat.reduceAdd, Nat.reduceEqDiff]
        exact ih (i + 1) _ (by omega)
      | false =>
        by_cases he : s.nm[i].text = x
        · simp -implicitDefEqProofs (maxSteps := 5000000) (disch := omega) only [s46_1, hlt, hx, he, lsV_some, fnd_cons, go_sem, Nat.reduceBEq, Nat.reduceBNe, reduceIte, reduceCtorEq, Nat.reduceLeDiff, Nat.reduceAdd, Nat.reduceEqDiff]
          exact ih (i + 1) _ (by omega)
        · simp -implicitDefEqProofs (maxSteps := 5000000) (disch := omega) only [s46_1, hlt, hx, he, lsV_some, fnd_cons, go_sem, Nat.reduceBEq, Nat.reduceBNe, reduceIte, reduceCtorEq, Nat.reduceLeDiff, Nat.reduceAdd, Nat.reduceEqDiff]
          exact ih (i + 1) _ (by omega)
  exact key _ 0 false rfl
def SpX (q : PT) (i : Nat) : Prop := ∀ {hp s L} {Q : ARes → List AO → Prop}, HC q hp s L → Ds s → (∀ (k : Int) s' hp', NxE s L s' L → HC q hp' s' L → Q (.ret (.tup [eC q s', eI k])) hp') → callK CC 63 [eC q s, eN i] hp Q
theorem ldX0 {e : Ex} : ld 1 false (AV.cells (eEx e)) 0 = some (eN e.k) := rfl
theorem ldX1 {e : Ex} : ld 1 false (AV.cells (eEx e)) 1 = some (eN e.f) := rfl
theorem ldX4 {e : Ex} : ld 1 false (AV.cells (eEx e)) 4 = some (.str e.name) := rfl
theorem ldX5 {e : Ex} : ld 1 false (AV.cells (eEx e)) 5 = some (.str e.op) := rfl
theorem ldX6 {e : Ex} : ld 1 false (AV.cells (eEx e)) 6 = some (eN e.a) := rfl
theorem ldX7 {e : Ex} : ld 1 false (AV.cells (eEx e)) 7 = some (eN e.b) := rfl
theorem ldX8 {e : Ex} : ld 1 false (AV.cells (eEx e)) 8 = some (.sl .no 1 (e.l.map eN)) := rfl
theorem udX0 {e : Ex} {a b c d f g h i j : AV} : upd 0 (AV.cells (eEx e)) [a, b, c, d, f, g, h, i, j] = some (AV.cells (eEx e)) := rfl
theorem ldF0 {f : Fn} : ld 1 false (AV.cells (eFn f)) 0 = some (.str f.name) := rfl
theorem ldF1 {f : Fn} : ld 1 false (AV.cells (eFn f)) 1 = some (eN f.f) := rfl
theorem ldF3 {f : Fn} : ld 1 false (AV.cells (eFn f)) 3 = some (.sl .no 1 (f.params.map AV.str)) := rfl
theorem ldF4 {f : Fn} : ld 1 false (AV.cells (eFn f)) 4 = some (eN f.ty) := rfl
theorem ldF5 {f : Fn} : ld 1 false (AV.cells (eFn f)) 5 = some (.sl .no 1 (f.body.map eN)) := rfl
theorem value_ok {i : Nat} (hi : i < q.ex.length) (X : SpX q i) (h : HC q hp s L) (hd : Ds s) (hQ : ∀ (k : Int) s' hp', NxE s L s' L → HC q hp' s' L → Q (.ret (.tup [eC q s', eI k])) hp') : callK CC 60 [eC q s, eN i] hp Q := by
  refine callK_intro rfl (c60 ?_)
  simp -implicitDefEqProofs (maxSteps := 5000000) (disch := omega) only [s60, s60_0, go_sem, Nat.reduceBEq, Nat.reduceBNe, reduceIte, reduceCtorEq, Nat.reduceLeDiff, Nat.reduceAdd, Nat.reduceEqDiff]
  refine X h hd fun k s' hp' hx hc => ?_
  have he : q.ex[i]? = some q.ex[i] := List.getElem?_eq_getElem hi
  simp -implicitDefEqProofs (maxSteps := 5000000) (disch := omega) only [he, ldX1, go_sem, Nat.reduceBEq, Nat.reduceBNe, reduceIte, reduceCtorEq, Nat.reduceLeDiff, Nat.reduceAdd, Nat.reduceEqDiff]
  refine need_ok (c := 8) ?_
  simp -implicitDefEqProofs (maxSteps := 5000000) (disch := omega) only [go_sem, Nat.reduceBEq, Nat.reduceBNe, reduceIte, reduceCtorEq, Nat.reduceLeDiff, Nat.reduceAdd, Nat.reduceEqDiff]
  exact hQ k _ hp' (hx.trans (needS_nx (by omega))) hc.need
theorem ixa_int {t : Tok} {l : List Int} {n : Nat} {k : IntKind} (h : n < l.length) : ixaV 1 (.sl t 1 (l.map eI)) (.int k (n : Int)) = some (.el [.int .i64 l[n]] 0) := by
  rw [ixa_map, List.getElem?_eq_getElem h]; rfl
end
end Go.Proofs.Ytnldohnfdeineaa.Abs
/- The document's checker: an expression. -/
namespace Go.Proofs.Ytnldohnfdeineaa.Abs
open Go
set_option maxRecDepth 100000

section
variable {q : PT}
set_option maxHeartbeats 4000000 in
theorem exprC_ok (wf : Wf q) (hsz : q.ex.length < 1000000) (hsf : q.fn.length < 1000000) : ∀ i, i < q.ex.length → SpX q i := by
  intro i
  induction i using Nat.strongRecOn with
  | _ i ih =>
  intro hi hp s L Q h hd hQ
  refine callK_intro rfl (c63 ?_)
  simp only [s63]
  intro J1 J2 J3 J4 J5 J6 J7 J8 h1 h2 h3 h4 h5 h6 h7 h8
  by_cases h0 : s.code = 0
  · obtain ⟨e, he⟩ : ∃ e, q.ex[i]? = some e := ⟨_, List.getElem?_eq_getElem hi⟩
    have K := wf.ex i e he
    have j8 : ∀ {s' : CS} {hp' : List AO} {k : Int}, NxE s L s' L → HC q hp' s' L → J8 (eN i) (.int .i64 k) (AV.cells (eC q s')) [.sl .cap0 9 [], .sl .cap0 9 [], .sl .cap0 6 [], .sl .cap0 1 [], .sl .cap0 1 [], .sl .cap0 1 [], .sl .cap0 1 [], .sl .cap0 1 [], .int .i64 0, .sl .cap0 3 [], .int .i64 0, .int .i64 0, .int .i64 0, .int .i64 0] hp' := fun {s' hp' k} hx hc => by
      apply h8
      by_cases c0 : s'.code = 0
      · obtain ⟨hp2, hst, hc2⟩ := hc.put (v := k) (i := i) (.inl ⟨rfl, rfl⟩) hi (hx.nx.ds hd)
        simp -implicitDefEqProofs (maxSteps := 5000000) (disch := omega) only [s63_8, c0, ixa_arr hi, hst, go_sem, Nat.reduceBEq, Nat.reduceBNe, reduceIte, reduceCtorEq, Nat.reduceLeDiff, Nat.reduceAdd, Nat.reduceEqDiff]
        apply h7
        simp -implicitDefEqProofs (maxSteps := 5000000) (disch := omega) only [s63_7, go_sem, Nat.reduceBEq, Nat.reduceBNe, reduceIte, reduceCtorEq, Nat.reduceLeDiff, Nat.reduceAdd, Nat.reduceEqDiff]
        exact hQ k s' hp2 hx hc2
      · simp -implicitDefEqProofs (maxSteps := 5000000) (disch := omega) only [s63_8, c0, go_sem, Nat.reduceBEq, Nat.reduceBNe, reduceIte, reduceCtorEq, Nat.reduceLeDiff, Nat.reduceAdd, Nat.reduceEqDiff]
        apply h7
        simp -implicitDefEqProofs (maxSteps := 5000000) (disch := omega) only [s63_7, go_sem, Nat.reduceBEq, Nat.reduceBNe, reduceIte, reduceCtorEq, Nat.reduceLeDiff, Nat.reduceAdd, Nat.reduceEqDiff]
        exact hQ k s' hp' hx hc
    have val : ∀ {j : Nat} {s' : CS} {hp' : List AO} {Q' : ARes → List AO → Prop}, j < i → NxE s L s' L → HC q hp' s' L → (∀ (k : Int) s2 hp2, NxE s L s2 L → HC q hp2 s2 L → Q' (.ret (.tup [eC q s2, eI k])) hp2) → callK CC 60 [eC q s', eN j] hp' Q' := fun {j s' hp' Q'} hj hx hc hq =>
      value_ok (by omega) (ih j hj (by omega)) hc (hx.nx.ds hd) fun k s2 hp2 hx2 hc2 => hq k s2 hp2 (hx.trans hx2) hc2
    by_cases k1 : e.k = 1
    · simp -implicitDefEqProofs (maxSteps := 5000000) (disch := omega) only [s63_0, h0, he, ldEx, okvEx, udX0, ldX0, ldX1, nlocEx, k1, go_sem, Nat.reduceBEq, Nat.reduceBNe, reduceIte, reduceCtorEq, Nat.reduceLeDiff, Nat.reduceAdd, Nat.reduceEqDiff]
      apply h6
      simp -implicitDefEqProofs (maxSteps := 5000000) (disch := omega) only [s63_6, go_sem, Nat.reduceBEq, Nat.reduceBNe, reduceIte, reduceCtorEq, Nat.reduceLeDiff, Nat.reduceAdd, Nat.reduceEqDiff]
      exact j8 NxE.refl h
    by_cases k7 : e.k = 7
    · simp -implicitDefEqProofs (maxSteps := 5000000) (disch := omega) only [s63_0, h0, he, ldEx, okvEx, udX0, ldX0, ldX1, nlocEx, k7, go_sem, Nat.reduceBEq, Nat.reduceBNe, reduceIte, reduceCtorEq, Nat.reduceLeDiff, Nat.reduceAdd, Nat.reduceEqDiff]
      apply h6
      simp -implicitDefEqProofs (maxSteps := 5000000) (disch := omega) only [s63_6, go_sem, Nat.reduceBEq, Nat.reduceBNe, reduceIte, reduceCtorEq, Nat.reduceLeDiff, Nat.reduceAdd, Nat.reduceEqDiff]
      exact j8 NxE.refl h
    simp -implicitDefEqProofs (maxSteps := 5000000) (disch := omega) only [s63_0, h0, he, ldEx, okvEx, udX0, ldX0, ldX1, nlocEx, k1, k7, go_sem, Nat.reduceBEq, Nat.reduceBNe, reduceIte, reduceCtorEq, Nat.reduceLeDiff, Nat.reduceAdd, Nat.reduceEqDiff]
    apply h6
    by_cases k4 : e.k = 4
    · simp -implicitDefEqProofs (maxSteps := 5000000) (disch := omega) only [s63_6, eq_true k4, ldX4, go_sem, Nat.reduceBEq, Nat.reduceBNe, reduceIte, reduceCtorEq, Nat.reduceLeDiff, Nat.reduceAdd, Nat.reduceEqDiff]
      refine slot_ok h fun r s2 hr x2 hc2 hz => ?_
      simp -implicitDefEqProofs (maxSteps := 5000000) (disch := omega) only [go_sem, Nat.reduceBEq, Nat.reduceBNe, reduceIte, reduceCtorEq, Nat.reduceLeDiff, Nat.reduceAdd, Nat.reduceEqDiff]
      by_cases c0 : s2.code = 0
      · obtain ⟨t, l, hl, hf, hld, _⟩ := hc2.slots
        rcases hr with rfl | ⟨n, hn, rfl⟩
        · have := hz c0; omega
        · obtain ⟨hp3, hst, hc3⟩ := hc2.put (v := (n : Int)) (i := i) (.inr (.inl ⟨rfl, rfl⟩)) hi (x2.nx.ds hd)
          simp -implicitDefEqProofs (maxSteps := 5000000) (disch := omega) only [c0, ixa_arr hf, hld, ixa_int (show n < l.length by omega), ixa_arr hi, hst, go_sem, Nat.reduceBEq, Nat.reduceBNe, reduceIte, reduceCtorEq, Nat.reduceLeDiff, Nat.reduceAdd, Nat.reduceEqDiff]
          exact j8 x2 hc3
      · simp -implicitDefEqProofs (maxSteps := 5000000) (disch := omega) only [c0, go_sem, Nat.reduceBEq, Nat.reduceBNe, reduceIte, reduceCtorEq, Nat.reduceLeDiff, Nat.reduceAdd, Nat.reduceEqDiff]
        exact j8 x2 hc2
    by_cases k5 : e.k = 5
    · have hea := K.a (.inl k5)
      simp -implicitDefEqProofs (maxSteps := 5000000) (disch := omega) only [s63_6, eq_false k4, eq_true k5, ldX6, go_sem, Nat.reduceBEq, Nat.reduceBNe, reduceIte, reduceCtorEq, Nat.reduceLeDiff, Nat.reduceAdd, Nat.reduceEqDiff]
      refine val hea NxE.refl h fun k s2 hp2 x2 hc2 => ?_
      simp -implicitDefEqProofs (maxSteps := 5000000) (disch := omega) only [ldX4, go_sem, Nat.reduceBEq, Nat.reduceBNe, reduceIte, reduceCtorEq, Nat.reduceLeDiff, Nat.reduceAdd, Nat.reduceEqDiff]
      refine slot_ok hc2 fun r s3 hr x3 hc3 hz => ?_
      simp -implicitDefEqProofs (maxSteps := 5000000) (disch := omega) only [go_sem, Nat.reduceBEq, Nat.reduceBNe, reduceIte, reduceCtorEq, Nat.reduceLeDiff, Nat.reduceAdd, Nat.reduceEqDiff]
      refine need_ok (c := 8) ?_
      have x4 := (x2.trans x3).trans (needS_nx (s := s3) (L := L) (ok := decide (k = 1)) (a := e.f) (c := 8) (by omega))
      have hc4 := hc3.need (ok := decide (k = 1)) (a := e.f) (c := 8)
      obtain ⟨hp5, hst, hc5⟩ := hc4.put (v := r) (i := i) (.inr (.inl ⟨rfl, rfl⟩)) hi (x4.nx.ds hd)
      simp -implicitDefEqProofs (maxSteps := 5000000) (disch := omega) only [ixa_arr hi, hst, go_sem, Nat.reduceBEq, Nat.reduceBNe, reduceIte, reduceCtorEq, Nat.reduceLeDiff, Nat.reduceAdd, Nat.reduceEqDiff]
      exact j8 x4 hc5
    by_cases k6 : e.k = 6
    · simp -implicitDefEqProofs (maxSteps := 5000000) (disch := omega) only [s63_6, eq_false k4, eq_false k5, eq_true k6, ldX8, go_sem, Nat.reduceBEq, Nat.reduceBNe, reduceIte, reduceCtorEq, Nat.reduceLeDiff, Nat.reduceAdd, Nat.reduceEqDiff]
      have hlb : e.l.length < 1000000000 ∨ True := .inr trivial
      have j4 : ∀ {s' : CS} {hp' : List AO} {ints : Bool} {r : Int}, NxE s L s' L → HC q hp' s' L → (r = -1 ∨ ∃ n : Nat, n < q.fn.length ∧ r = n) → J4 (eN i) (.int .i64 2) (eN e.f) (.bool ints) (eI r) (AV.cells (eC q s')) [.sl .cap0 9 [], .sl .cap0 9 [], .sl .cap0 6 [], .sl .cap0 1 [], .sl .cap0 1 [], .sl .cap0 1 [], .sl .cap0 1 [], .sl .cap0 1 [], .int .i64 0, .sl .cap0 3 [], .int .i64 0, .int .i64 0, .int .i64 0, .int .i64 0] (AV.cells (eEx e)) hp' := fun {s' hp' ints r} hx hc hr => by
        apply h4
        simp -implicitDefEqProofs (maxSteps := 5000000) (disch := omega) only [s63_4, go_sem, Nat.reduceBEq, Nat.reduceBNe, reduceIte, reduceCtorEq, Nat.reduceLeDiff, Nat.reduceAdd, Nat.reduceEqDiff]
        refine need_ok (c := 6) ?_
        generalize hs2 : needS s' (decide (0 ≤ r)) e.f 6 = s2
        have x2 : NxE s L s2 L := by rw [← hs2]; exact hx.trans (needS_nx (by omega))
        have hc2 : HC q hp' s2 L := by rw [← hs2]; exact hc.need
        have hz : s2.code = 0 → 0 ≤ r := fun c0 => by rw [← hs2] at c0; exact of_decide_eq_true (needS_ok (by omega) c0)
        by_cases c0 : s2.code = 0
        · rcases hr with rfl | ⟨n, hn, rfl⟩
          · have := hz c0; omega
          · obtain ⟨fn, hfn⟩ : ∃ fn, q.fn[n]? = some fn := ⟨_, List.getElem?_eq_getElem hn⟩
            have tail : ∀ (b : Bool), callK CC 45 [eC q s2, .bool b, eN e.f, eN 8] hp' (rx (pn Q) fun t178 hp15 => ifT (okv 14 t178) <|
                bl (upd 0 (AV.cells t178) (AV.cells (eC q s2))) fun b2_19 => bv (ld 1 false b2_19 2) fun t181 => bv (ixaV 6 t181 (eN n)) fun t183 => bv (faddV 4 t183) fun t184 => bv (ldH hp15 1 false t184) fun t185 => bv (ld 1 false b2_19 4) fun t188 => bv (ixaV 1 t188 (eN i)) fun t191 => bs (stH hp15 1 (eN n) t191) fun hp16 => J8 (eN i) t185 b2_19 [.sl .cap0 9 [], .sl .cap0 9 [], .sl .cap0 6 [], .sl .cap0 1 [], .sl .cap0 1 [], .sl .cap0 1 [], .sl .cap0 1 [], .sl .cap0 1 [], .int .i64 0, .sl .cap0 3 [], .int .i64 0, .int .i64 0, .int .i64 0, .int .i64 0] hp16) := fun b => by
              refine need_ok (c := 8) ?_
              have x3 := x2.trans (needS_nx (s := s2) (L := L) (ok := b) (a := e.f) (c := 8) (by omega))
              have hc3 := hc2.need (ok := b) (a := e.f) (c := 8)
              obtain ⟨hp5, hst, hc5⟩ := hc3.put (v := (n : Int)) (i := i) (.inr (.inl ⟨rfl, rfl⟩)) hi (x3.nx.ds hd)
              simp -implicitDefEqProofs (maxSteps := 5000000) (disch := omega) only [ixa_arr hi, hst, hfn, ldF4, go_sem, Nat.reduceBEq, Nat.reduceBNe, reduceIte, reduceCtorEq, Nat.reduceLeDiff, Nat.reduceAdd, Nat.reduceEqDiff]
              exact j8 x3 hc5
            cases ints with
            | true =>
              simp -implicitDefEqProofs (maxSteps := 5000000) (disch := omega) only [c0, lsV_some, fnd_cons, ldX8, hfn, ldF3, go_sem, Nat.reduceBEq, Nat.reduceBNe, reduceIte, reduceCtorEq, Nat.reduceLeDiff, Nat.reduceAdd, Nat.reduceEqDiff]
              exact tail _
            | false =>
              simp -implicitDefEqProofs (maxSteps := 5000000) (disch := omega) only [c0, lsV_some, fnd_cons, ldX8, hfn, ldF3, go_sem, Nat.reduceBEq, Nat.reduceBNe, reduceIte, reduceCtorEq, Nat.reduceLeDiff, Nat.reduceAdd, Nat.reduceEqDiff]
              exact tail _
        · simp -implicitDefEqProofs (maxSteps := 5000000) (disch := omega) only [c0, go_sem, Nat.reduceBEq, Nat.reduceBNe, reduceIte, reduceCtorEq, Nat.reduceLeDiff, Nat.reduceAdd, Nat.reduceEqDiff]
          exact j8 x2 hc2
      have j2 : ∀ {s' : CS} {hp' : List AO} {ints : Bool}, NxE s L s' L → HC q hp' s' L → ∀ (k n : Nat) (r : Int), q.fn.length - n = k → (r = -1 ∨ ∃ n : Nat, n < q.fn.length ∧ r = n) → J2 (eN i) (.int .i64 2) (eN e.f) (.bool ints) (eI r) (eN q.fn.length) (eN n) (AV.cells (eC q s')) [.sl .cap0 9 [], .sl .cap0 9 [], .sl .cap0 6 [], .sl .cap0 1 [], .sl .cap0 1 [], .sl .cap0 1 [], .sl .cap0 1 [], .sl .cap0 1 [], .int .i64 0, .sl .cap0 3 [], .int .i64 0, .int .i64 0, .int .i64 0, .int .i64 0] (AV.cells (eEx e)) hp' := fun {s' hp' ints} hx hc => by
        intro k
        induction k with
        | zero =>
          intro n r hk hr
          apply h2
          have hnl : ¬ n < q.fn.length := by omega
          simp -implicitDefEqProofs (maxSteps := 5000000) (disch := omega) only [s63_2, hnl, go_sem, Nat.reduceBEq, Nat.reduceBNe, reduceIte, reduceCtorEq, Nat.reduceLeDiff, Nat.reduceAdd, Nat.reduceEqDiff]
          exact j4 hx hc hr
        | succ k ih2 =>
          intro n r hk hr
          have hlt : n < q.fn.length := by omega
          obtain ⟨fn, hfn⟩ : ∃ fn, q.fn[n]? = some fn := ⟨_, List.getElem?_eq_getElem hlt⟩
          have hk' : q.fn.length - (n + 1) = k := by clear hr; omega
          have j3 : ∀ r : Int, (r = -1 ∨ ∃ n : Nat, n < q.fn.length ∧ r = n) → J3 (eN i) (.int .i64 2) (eN e.f) (.bool ints) (eI r) (eN q.fn.length) (eN n) (AV.cells (eC q s')) [.sl .cap0 9 [], .sl .cap0 9 [], .sl .cap0 6 [], .sl .cap0 1 [], .sl .cap0 1 [], .sl .cap0 1 [], .sl .cap0 1 [], .sl .cap0 1 [], .int .i64 0, .sl .cap0 3 [], .int .i64 0, .int .i64 0, .int .i64 0, .int .i64 0] (AV.cells (eEx e)) hp' := fun r hr => by
            apply h3
            simp -implicitDefEqProofs (maxSteps := 5000000) (disch := omega) only [s63_3, go_sem, Nat.reduceBEq, Nat.reduceBNe, reduceIte, reduceCtorEq, Nat.reduceLeDiff, Nat.reduceAdd, Nat.reduceEqDiff]
            exact ih2 (n + 1) r hk' hr
          apply h2
          by_cases p1 : fn.name = e.name
          · by_cases p2 : r < 0
            · simp -implicitDefEqProofs (maxSteps := 5000000) (disch := omega) only [s63_2, hlt, hfn, ldF0, ldX4, eq_true p1, eq_true p2, go_sem, Nat.reduceBEq, Nat.reduceBNe, reduceIte, reduceCtorEq, Nat.reduceLeDiff, Nat.reduceAdd, Nat.reduceEqDiff]
              exact j3 _ (.inr ⟨n, hlt, rfl⟩)
            · simp -implicitDefEqProofs (maxSteps := 5000000) (disch := omega) only [s63_2, hlt, hfn, ldF0, ldX4, eq_true p1, eq_false p2, go_sem, Nat.reduceBEq, Nat.reduceBNe, reduceIte, reduceCtorEq, Nat.reduceLeDiff, Nat.reduceAdd, Nat.reduceEqDiff]
              exact j3 _ hr
          · simp -implicitDefEqProofs (maxSteps := 5000000) (disch := omega) only [s63_2, hlt, hfn, ldF0, ldX4, eq_false p1, go_sem, Nat.reduceBEq, Nat.reduceBNe, reduceIte, reduceCtorEq, Nat.reduceLeDiff, Nat.reduceAdd, Nat.reduceEqDiff]
            exact j3 _ hr
      have j1 : ∀ (k n : Nat) (ints : Bool) (s' : CS) (hp' : List AO), e.l.length - n = k → NxE s L s' L → HC q hp' s' L → J1 (eN i) (.int .i64 2) (eN e.f) (.bool ints) (eN e.l.length) (eN n) (AV.cells (eC q s')) [.sl .cap0 9 [], .sl .cap0 9 [], .sl .cap0 6 [], .sl .cap0 1 [], .sl .cap0 1 [], .sl .cap0 1 [], .sl .cap0 1 [], .sl .cap0 1 [], .int .i64 0, .sl .cap0 3 [], .int .i64 0, .int .i64 0, .int .i64 0, .int .i64 0] (AV.cells (eEx e)) hp' := by
        intro k
        induction k with
        | zero =>
          intro n ints s' hp' hk hx hc
          apply h1
          have hnl : ¬ n < e.l.length := by omega
          simp -implicitDefEqProofs (maxSteps := 5000000) (disch := omega) only [s63_1, hnl, go_sem, Nat.reduceBEq, Nat.reduceBNe, reduceIte, reduceCtorEq, Nat.reduceLeDiff, Nat.reduceAdd, Nat.reduceEqDiff]
          apply h5
          simp -implicitDefEqProofs (maxSteps := 5000000) (disch := omega) only [s63_5, go_sem, Nat.reduceBEq, Nat.reduceBNe, reduceIte, reduceCtorEq, Nat.reduceLeDiff, Nat.reduceAdd, Nat.reduceEqDiff]
          exact j2 hx hc _ 0 (-1) rfl (.inl rfl)
        | succ k ih2 =>
          intro n ints s' hp' hk hx hc
          have hlt : n < e.l.length := by omega
          have hxl : e.l[n]? = some e.l[n] := List.getElem?_eq_getElem hlt
          apply h1
          simp -implicitDefEqProofs (maxSteps := 5000000) (disch := omega) only [s63_1, hlt, ldX8, hxl, nloc_el, go_sem, Nat.reduceBEq, Nat.reduceBNe, reduceIte, reduceCtorEq, Nat.reduceLeDiff, Nat.reduceAdd, Nat.reduceEqDiff]
          refine val (K.l _ (List.getElem_mem hlt)) hx hc fun kk s2 hp2 x2 hc2 => ?_
          have hll := K.ll
          cases ints with
          | true => simp -implicitDefEqProofs (maxSteps := 5000000) (disch := omega) only [go_sem, Nat.reduceBEq, Nat.reduceBNe, reduceIte, reduceCtorEq, Nat.reduceLeDiff, Nat.reduceAdd, Nat.reduceEqDiff]; exact ih2 (n + 1) _ s2 hp2 (by omega) x2 hc2
          | false => simp -implicitDefEqProofs (maxSteps := 5000000) (disch := omega) only [go_sem, Nat.reduceBEq, Nat.reduceBNe, reduceIte, reduceCtorEq, Nat.reduceLeDiff, Nat.reduceAdd, Nat.reduceEqDiff]; exact ih2 (n + 1) _ s2 hp2 (by omega) x2 hc2
      exact j1 _ 0 true s hp rfl NxE.refl h
    by_cases k8 : e.k = 8
    · have hea := K.a (.inr (.inl k8))
      simp -implicitDefEqProofs (maxSteps := 5000000) (disch := omega) only [s63_6, eq_false k4, eq_false k5, eq_false k6, eq_true k8, ldX6, go_sem, Nat.reduceBEq, Nat.reduceBNe, reduceIte, reduceCtorEq, Nat.reduceLeDiff, Nat.reduceAdd, Nat.reduceEqDiff]
      refine val hea NxE.refl h fun k s2 hp2 x2 hc2 => ?_
      by_cases o1 : e.op = [45]
      · have o2 : ¬ e.op = [33] := by rw [o1]; decide
        by_cases p1 : k = 1
        · simp -implicitDefEqProofs (maxSteps := 5000000) (disch := omega) only [ldX5, fnd_cons, ldL_loc, eq_true o1, eq_false o2, eq_true p1, go_sem, Nat.reduceBEq, Nat.reduceBNe, reduceIte, reduceCtorEq, Nat.reduceLeDiff, Nat.reduceAdd, Nat.reduceEqDiff]
          refine need_ok (c := 8) ?_
          simp -implicitDefEqProofs (maxSteps := 5000000) (disch := omega) only [go_sem, Nat.reduceBEq, Nat.reduceBNe, reduceIte, reduceCtorEq, Nat.reduceLeDiff, Nat.reduceAdd, Nat.reduceEqDiff]
          exact j8 (x2.trans (needS_nx (by omega))) hc2.need
        · simp -implicitDefEqProofs (maxSteps := 5000000) (disch := omega) only [ldX5, fnd_cons, ldL_loc, eq_true o1, eq_false o2, eq_false p1, go_sem, Nat.reduceBEq, Nat.reduceBNe, reduceIte, reduceCtorEq, Nat.reduceLeDiff, Nat.reduceAdd, Nat.reduceEqDiff]
          refine need_ok (c := 8) ?_
          simp -implicitDefEqProofs (maxSteps := 5000000) (disch := omega) only [go_sem, Nat.reduceBEq, Nat.reduceBNe, reduceIte, reduceCtorEq, Nat.reduceLeDiff, Nat.reduceAdd, Nat.reduceEqDiff]
          exact j8 (x2.trans (needS_nx (by omega))) hc2.need
      · by_cases o2 : e.op = [33]
        · by_cases p1 : k = 2
          · simp -implicitDefEqProofs (maxSteps := 5000000) (disch := omega) only [ldX5, fnd_cons, ldL_loc, eq_false o1, eq_true o2, eq_true p1, go_sem, Nat.reduceBEq, Nat.reduceBNe, reduceIte, reduceCtorEq, Nat.reduceLeDiff, Nat.reduceAdd, Nat.reduceEqDiff]
            refine need_ok (c := 8) ?_
            simp -implicitDefEqProofs (maxSteps := 5000000) (disch := omega) only [go_sem, Nat.reduceBEq, Nat.reduceBNe, reduceIte, reduceCtorEq, Nat.reduceLeDiff, Nat.reduceAdd, Nat.reduceEqDiff]
            exact j8 (x2.trans (needS_nx (by omega))) hc2.need
          · simp -implicitDefEqProofs (maxSteps := 5000000) (disch := omega) only [ldX5, fnd_cons, ldL_loc, eq_false o1, eq_true o2, eq_false p1, go_sem, Nat.reduceBEq, Nat.reduceBNe, reduceIte, reduceCtorEq, Nat.reduceLeDiff, Nat.reduceAdd, Nat.reduceEqDiff]
            refine need_ok (c := 8) ?_
            simp -implicitDefEqProofs (maxSteps := 5000000) (disch := omega) only [go_sem, Nat.reduceBEq, Nat.reduceBNe, reduceIte, reduceCtorEq, Nat.reduceLeDiff, Nat.reduceAdd, Nat.reduceEqDiff]
            exact j8 (x2.trans (needS_nx (by omega))) hc2.need
        · simp -implicitDefEqProofs (maxSteps := 5000000) (disch := omega) only [ldX5, fnd_cons, ldL_loc, eq_false o1, eq_false o2, go_sem, Nat.reduceBEq, Nat.reduceBNe, reduceIte, reduceCtorEq, Nat.reduceLeDiff, Nat.reduceAdd, Nat.reduceEqDiff]
          refine need_ok (c := 8) ?_
          simp -implicitDefEqProofs (maxSteps := 5000000) (disch := omega) only [go_sem, Nat.reduceBEq, Nat.reduceBNe, reduceIte, reduceCtorEq, Nat.reduceLeDiff, Nat.reduceAdd, Nat.reduceEqDiff]
          exact j8 (x2.trans (needS_nx (by omega))) hc2.need
    by_cases k9 : e.k = 9
    · have hea := K.a (.inr (.inr k9))
      have heb := K.b k9
      obtain ⟨c, rest, hcr⟩ : ∃ c rest, e.op = c :: rest := by
        cases ho : e.op with
        | nil => exact absurd ho (K.op k9)
        | cons c rest => exact ⟨c, rest, rfl⟩
      have hop : ixsV (.str e.op) (.int .i64 0) = some (.int .u8 (c : Int)) := by rw [hcr]; rfl
      simp -implicitDefEqProofs (maxSteps := 5000000) (disch := omega) only [s63_6, eq_false k4, eq_false k5, eq_false k6, eq_false k8, eq_true k9, ldX6, go_sem, Nat.reduceBEq, Nat.reduceBNe, reduceIte, reduceCtorEq, Nat.reduceLeDiff, Nat.reduceAdd, Nat.reduceEqDiff]
      refine val hea NxE.refl h fun ka s1 hp1 x1 hc1 => ?_
      simp -implicitDefEqProofs (maxSteps := 5000000) (disch := omega) only [ldX7, go_sem, Nat.reduceBEq, Nat.reduceBNe, reduceIte, reduceCtorEq, Nat.reduceLeDiff, Nat.reduceAdd, Nat.reduceEqDiff]
      refine val heb x1 hc1 fun kb s2 hp2 x2 hc2 => ?_
      · skip
        by_cases o1 : e.op = [38, 38]
        · skip
          have o2 : ¬ e.op = [124, 124] := by rw [o1]; decide
          have o3 : ¬ e.op = [61, 61] := by rw [o1]; decide
          have o4 : ¬ e.op = [33, 61] := by rw [o1]; decide
          by_cases p1 : ka = kb
          · by_cases p2 : ka = 2
            · skip
              simp -implicitDefEqProofs (maxSteps := 5000000) (disch := omega) only [ldX5, fnd_cons, ldL_loc, eq_false o2, eq_false o3, eq_false o4, eq_true o1, eq_true p1, eq_true p2, go_sem, Nat.reduceBEq, Nat.reduceBNe, reduceIte, reduceCtorEq, Nat.reduceLeDiff, Nat.reduceAdd, Nat.reduceEqDiff]
              refine need_ok (c := 8) ?_
              simp -implicitDefEqProofs (maxSteps := 5000000) (disch := omega) only [ldX5, fnd_cons, ldL_loc, eq_false o2, eq_false o3, eq_false o4, eq_true o1, eq_true p1, eq_true p2, go_sem, Nat.reduceBEq, Nat.reduceBNe, reduceIte, reduceCtorEq, Nat.reduceLeDiff, Nat.reduceAdd, Nat.reduceEqDiff]
              exact j8 (x2.trans (needS_nx (by omega))) hc2.need
            · skip
              simp -implicitDefEqProofs (maxSteps := 5000000) (disch := omega) only [ldX5, fnd_cons, ldL_loc, eq_false o2, eq_false o3, eq_false o4, eq_true o1, eq_true p1, eq_false p2, go_sem, Nat.reduceBEq, Nat.reduceBNe, reduceIte, reduceCtorEq, Nat.reduceLeDiff, Nat.reduceAdd, Nat.reduceEqDiff]
              refine need_ok (c := 8) ?_
              simp -implicitDefEqProofs (maxSteps := 5000000) (disch := omega) only [ldX5, fnd_cons, ldL_loc, eq_false o2, eq_false o3, eq_false o4, eq_true o1, eq_true p1, eq_false p2, go_sem, Nat.reduceBEq, Nat.reduceBNe, reduceIte, reduceCtorEq, Nat.reduceLeDiff, Nat.reduceAdd, Nat.reduceEqDiff]
              exact j8 (x2.trans (needS_nx (by omega))) hc2.need
          · skip
            simp -implicitDefEqProofs (maxSteps := 5000000) (disch := omega) only [ldX5, fnd_cons, ldL_loc, eq_false o2, eq_false o3, eq_false o4, eq_true o1, eq_false p1, go_sem, Nat.reduceBEq, Nat.reduceBNe, reduceIte, reduceCtorEq, Nat.reduceLeDiff, Nat.reduceAdd, Nat.reduceEqDiff]
            refine need_ok (c := 8) ?_
            simp -implicitDefEqProofs (maxSteps := 5000000) (disch := omega) only [ldX5, fnd_cons, ldL_loc, eq_false o2, eq_false o3, eq_false o4, eq_true o1, eq_false p1, go_sem, Nat.reduceBEq, Nat.reduceBNe, reduceIte, reduceCtorEq, Nat.reduceLeDiff, Nat.reduceAdd, Nat.reduceEqDiff]
            exact j8 (x2.trans (needS_nx (by omega))) hc2.need
        by_cases o2 : e.op = [124, 124]
        · skip
          have o1 : ¬ e.op = [38, 38] := by rw [o2]; decide
          have o3 : ¬ e.op = [61, 61] := by rw [o2]; decide
          have o4 : ¬ e.op = [33, 61] := by rw [o2]; decide
          by_cases p1 : ka = kb
          · by_cases p2 : ka = 2
            · skip
              simp -implicitDefEqProofs (maxSteps := 5000000) (disch := omega) only [ldX5, fnd_cons, ldL_loc, eq_false o1, eq_false o3, eq_false o4, eq_true o2, eq_true p1, eq_true p2, go_sem, Nat.reduceBEq, Nat.reduceBNe, reduceIte, reduceCtorEq, Nat.reduceLeDiff, Nat.reduceAdd, Nat.reduceEqDiff]
              refine need_ok (c := 8) ?_
              simp -implicitDefEqProofs (maxSteps := 5000000) (disch := omega) only [ldX5, fnd_cons, ldL_loc, eq_false o1, eq_false o3, eq_false o4, eq_true o2, eq_true p1, eq_true p2, go_sem, Nat.reduceBEq, Nat.reduceBNe, reduceIte, reduceCtorEq, Nat.reduceLeDiff, Nat.reduceAdd, Nat.reduceEqDiff]
              exact j8 (x2.trans (needS_nx (by omega))) hc2.need
            · skip
              simp -implicitDefEqProofs (maxSteps := 5000000) (disch := omega) only [ldX5, fnd_cons, ldL_loc, eq_false o1, eq_false o3, eq_false o4, eq_true o2, eq_true p1, eq_false p2, go_sem, Nat.reduceBEq, Nat.reduceBNe, reduceIte, reduceCtorEq, Nat.reduceLeDiff, Nat.reduceAdd, Nat.reduceEqDiff]
              refine need_ok (c := 8) ?_
              simp -implicitDefEqProofs (maxSteps := 5000000) (disch := omega) only [ldX5, fnd_cons, ldL_loc, eq_false o1, eq_false o3, eq_false o4, eq_true o2, eq_true p1, eq_false p2, go_sem, Nat.reduceBEq, Nat.reduceBNe, reduceIte, reduceCtorEq, Nat.reduceLeDiff, Nat.reduceAdd, Nat.reduceEqDiff]
              exact j8 (x2.trans (needS_nx (by omega))) hc2.need
          · skip
            simp -implicitDefEqProofs (maxSteps := 5000000) (disch := omega) only [ldX5, fnd_cons, ldL_loc, eq_false o1, eq_false o3, eq_false o4, eq_true o2, eq_false p1, go_sem, Nat.reduceBEq, Nat.reduceBNe, reduceIte, reduceCtorEq, Nat.reduceLeDiff, Nat.reduceAdd, Nat.reduceEqDiff]
            refine need_ok (c := 8) ?_
            simp -implicitDefEqProofs (maxSteps := 5000000) (disch := omega) only [ldX5, fnd_cons, ldL_loc, eq_false o1, eq_false o3, eq_false o4, eq_true o2, eq_false p1, go_sem, Nat.reduceBEq, Nat.reduceBNe, reduceIte, reduceCtorEq, Nat.reduceLeDiff, Nat.reduceAdd, Nat.reduceEqDiff]
            exact j8 (x2.trans (needS_nx (by omega))) hc2.need
        by_cases o3 : e.op = [61, 61]
        · skip
          have o1 : ¬ e.op = [38, 38] := by rw [o3]; decide
          have o2 : ¬ e.op = [124, 124] := by rw [o3]; decide
          have o4 : ¬ e.op = [33, 61] := by rw [o3]; decide
          by_cases p1 : ka = kb
          · skip
            simp -implicitDefEqProofs (maxSteps := 5000000) (disch := omega) only [ldX5, fnd_cons, ldL_loc, eq_false o1, eq_false o2, eq_false o4, eq_true o3, eq_true p1, go_sem, Nat.reduceBEq, Nat.reduceBNe, reduceIte, reduceCtorEq, Nat.reduceLeDiff, Nat.reduceAdd, Nat.reduceEqDiff]
            refine need_ok (c := 8) ?_
            simp -implicitDefEqProofs (maxSteps := 5000000) (disch := omega) only [ldX5, fnd_cons, ldL_loc, eq_false o1, eq_false o2, eq_false o4, eq_true o3, eq_true p1, go_sem, Nat.reduceBEq, Nat.reduceBNe, reduceIte, reduceCtorEq, Nat.reduceLeDiff, Nat.reduceAdd, Nat.reduceEqDiff]
            exact j8 (x2.trans (needS_nx (by omega))) hc2.need
          · skip
            simp -implicitDefEqProofs (maxSteps := 5000000) (disch := omega) only [ldX5, fnd_cons, ldL_loc, eq_false o1, eq_false o2, eq_false o4, eq_true o3, eq_false p1, go_sem, Nat.reduceBEq, Nat.reduceBNe, reduceIte, reduceCtorEq, Nat.reduceLeDiff, Nat.reduceAdd, Nat.reduceEqDiff]
            refine need_ok (c := 8) ?_
            simp -implicitDefEqProofs (maxSteps := 5000000) (disch := omega) only [ldX5, fnd_cons, ldL_loc, eq_false o1, eq_false o2, eq_false o4, eq_true o3, eq_false p1, go_sem, Nat.reduceBEq, Nat.reduceBNe, reduceIte, reduceCtorEq, Nat.reduceLeDiff, Nat.reduceAdd, Nat.reduceEqDiff]
            exact j8 (x2.trans (needS_nx (by omega))) hc2.need
        by_cases o4 : e.op = [33, 61]
        · skip
          have o1 : ¬ e.op = [38, 38] := by rw [o4]; decide
          have o2 : ¬ e.op = [124, 124] := by rw [o4]; decide
          have o3 : ¬ e.op = [61, 61] := by rw [o4]; decide
          by_cases p1 : ka = kb
          · skip
            simp -implicitDefEqProofs (maxSteps := 5000000) (disch := omega) only [ldX5, fnd_cons, ldL_loc, eq_false o1, eq_false o2, eq_false o3, eq_true o4, eq_true p1, go_sem, Nat.reduceBEq, Nat.reduceBNe, reduceIte, reduceCtorEq, Nat.reduceLeDiff, Nat.reduceAdd, Nat.reduceEqDiff]
            refine need_ok (c := 8) ?_
            simp -implicitDefEqProofs (maxSteps := 5000000) (disch := omega) only [ldX5, fnd_cons, ldL_loc, eq_false o1, eq_false o2, eq_false o3, eq_true o4, eq_true p1, go_sem, Nat.reduceBEq, Nat.reduceBNe, reduceIte, reduceCtorEq, Nat.reduceLeDiff, Nat.reduceAdd, Nat.reduceEqDiff]
            exact j8 (x2.trans (needS_nx (by omega))) hc2.need
          · skip
            simp -implicitDefEqProofs (maxSteps := 5000000) (disch := omega) only [ldX5, fnd_cons, ldL_loc, eq_false o1, eq_false o2, eq_false o3, eq_true o4, eq_false p1, go_sem, Nat.reduceBEq, Nat.reduceBNe, reduceIte, reduceCtorEq, Nat.reduceLeDiff, Nat.reduceAdd, Nat.reduceEqDiff]
            refine need_ok (c := 8) ?_
            simp -implicitDefEqProofs (maxSteps := 5000000) (disch := omega) only [ldX5, fnd_cons, ldL_loc, eq_false o1, eq_false o2, eq_false o3, eq_true o4, eq_false p1, go_sem, Nat.reduceBEq, Nat.reduceBNe, reduceIte, reduceCtorEq, Nat.reduceLeDiff, Nat.reduceAdd, Nat.reduceEqDiff]
            exact j8 (x2.trans (needS_nx (by omega))) hc2.need
        by_cases c60 : c = 60
        · skip
          by_cases p1 : ka = kb
          · by_cases p2 : ka = 1
            · skip
              simp -implicitDefEqProofs (maxSteps := 5000000) (disch := omega) only [ldX5, fnd_cons, ldL_loc, eq_false o1, eq_false o2, eq_false o3, eq_false o4, hop, eq_true c60, eq_true p1, eq_true p2, go_sem, Nat.reduceBEq, Nat.reduceBNe, reduceIte, reduceCtorEq, Nat.reduceLeDiff, Nat.reduceAdd, Nat.reduceEqDiff]
              refine need_ok (c := 8) ?_
              simp -implicitDefEqProofs (maxSteps := 5000000) (disch := omega) only [ldX5, fnd_cons, ldL_loc, eq_false o1, eq_false o2, eq_false o3, eq_false o4, hop, eq_true c60, eq_true p1, eq_true p2, go_sem, Nat.reduceBEq, Nat.reduceBNe, reduceIte, reduceCtorEq, Nat.reduceLeDiff, Nat.reduceAdd, Nat.reduceEqDiff]
              exact j8 (x2.trans (needS_nx (by omega))) hc2.need
            · skip
              simp -implicitDefEqProofs (maxSteps := 5000000) (disch := omega) only [ldX5, fnd_cons, ldL_loc, eq_false o1, eq_false o2, eq_false o3, eq_false o4, hop, eq_true c60, eq_true p1, eq_false p2, go_sem, Nat.reduceBEq, Nat.reduceBNe, reduceIte, reduceCtorEq, Nat.reduceLeDiff, Nat.reduceAdd, Nat.reduceEqDiff]
              refine need_ok (c := 8) ?_
              simp -implicitDefEqProofs (maxSteps := 5000000) (disch := omega) only [ldX5, fnd_cons, ldL_loc, eq_false o1, eq_false o2, eq_false o3, eq_false o4, hop, eq_true c60, eq_true p1, eq_false p2, go_sem, Nat.reduceBEq, Nat.reduceBNe, reduceIte, reduceCtorEq, Nat.reduceLeDiff, Nat.reduceAdd, Nat.reduceEqDiff]
              exact j8 (x2.trans (needS_nx (by omega))) hc2.need
          · skip
            simp -implicitDefEqProofs (maxSteps := 5000000) (disch := omega) only [ldX5, fnd_cons, ldL_loc, eq_false o1, eq_false o2, eq_false o3, eq_false o4, hop, eq_true c60, eq_false p1, go_sem, Nat.reduceBEq, Nat.reduceBNe, reduceIte, reduceCtorEq, Nat.reduceLeDiff, Nat.reduceAdd, Nat.reduceEqDiff]
            refine need_ok (c := 8) ?_
            simp -implicitDefEqProofs (maxSteps := 5000000) (disch := omega) only [ldX5, fnd_cons, ldL_loc, eq_false o1, eq_false o2, eq_false o3, eq_false o4, hop, eq_true c60, eq_false p1, go_sem, Nat.reduceBEq, Nat.reduceBNe, reduceIte, reduceCtorEq, Nat.reduceLeDiff, Nat.reduceAdd, Nat.reduceEqDiff]
            exact j8 (x2.trans (needS_nx (by omega))) hc2.need
        by_cases c62 : c = 62
        · skip
          by_cases p1 : ka = kb
          · by_cases p2 : ka = 1
            · skip
              simp -implicitDefEqProofs (maxSteps := 5000000) (disch := omega) only [ldX5, fnd_cons, ldL_loc, eq_false o1, eq_false o2, eq_false o3, eq_false o4, hop, eq_false c60, eq_true c62, eq_true p1, eq_true p2, go_sem, Nat.reduceBEq, Nat.reduceBNe, reduceIte, reduceCtorEq, Nat.reduceLeDiff, Nat.reduceAdd, Nat.reduceEqDiff]
              refine need_ok (c := 8) ?_
              simp -implicitDefEqProofs (maxSteps := 5000000) (disch := omega) only [ldX5, fnd_cons, ldL_loc, eq_false o1, eq_false o2, eq_false o3, eq_false o4, hop, eq_false c60, eq_true c62, eq_true p1, eq_true p2, go_sem, Nat.reduceBEq, Nat.reduceBNe, reduceIte, reduceCtorEq, Nat.reduceLeDiff, Nat.reduceAdd, Nat.reduceEqDiff]
              exact j8 (x2.trans (needS_nx (by omega))) hc2.need
            · skip
              simp -implicitDefEqProofs (maxSteps := 5000000) (disch := omega) only [ldX5, fnd_cons, ldL_loc, eq_false o1, eq_false o2, eq_false o3, eq_false o4, hop, eq_false c60, eq_true c62, eq_true p1, eq_false p2, go_sem, Nat.reduceBEq, Nat.reduceBNe, reduceIte, reduceCtorEq, Nat.reduceLeDiff, Nat.reduceAdd, Nat.reduceEqDiff]
              refine need_ok (c := 8) ?_
              simp -implicitDefEqProofs (maxSteps := 5000000) (disch := omega) only [ldX5, fnd_cons, ldL_loc, eq_false o1, eq_false o2, eq_false o3, eq_false o4, hop, eq_false c60, eq_true c62, eq_true p1, eq_false p2, go_sem, Nat.reduceBEq, Nat.reduceBNe, reduceIte, reduceCtorEq, Nat.reduceLeDiff, Nat.reduceAdd, Nat.reduceEqDiff]
              exact j8 (x2.trans (needS_nx (by omega))) hc2.need
          · skip
            simp -implicitDefEqProofs (maxSteps := 5000000) (disch := omega) only [ldX5, fnd_cons, ldL_loc, eq_false o1, eq_false o2, eq_false o3, eq_false o4, hop, eq_false c60, eq_true c62, eq_false p1, go_sem, Nat.reduceBEq, Nat.reduceBNe, reduceIte, reduceCtorEq, Nat.reduceLeDiff, Nat.reduceAdd, Nat.reduceEqDiff]
            refine need_ok (c := 8) ?_
            simp -implicitDefEqProofs (maxSteps := 5000000) (disch := omega) only [ldX5, fnd_cons, ldL_loc, eq_false o1, eq_false o2, eq_false o3, eq_false o4, hop, eq_false c60, eq_true c62, eq_false p1, go_sem, Nat.reduceBEq, Nat.reduceBNe, reduceIte, reduceCtorEq, Nat.reduceLeDiff, Nat.reduceAdd, Nat.reduceEqDiff]
            exact j8 (x2.trans (needS_nx (by omega))) hc2.need
        by_cases p1 : ka = kb
        · by_cases p2 : ka = 1
          · skip
            simp -implicitDefEqProofs (maxSteps := 5000000) (disch := omega) only [ldX5, fnd_cons, ldL_loc, eq_false o1, eq_false o2, eq_false o3, eq_false o4, hop, eq_false c60, eq_false c62, eq_true p1, eq_true p2, go_sem, Nat.reduceBEq, Nat.reduceBNe, reduceIte, reduceCtorEq, Nat.reduceLeDiff, Nat.reduceAdd, Nat.reduceEqDiff]
            refine need_ok (c := 8) ?_
            simp -implicitDefEqProofs (maxSteps := 5000000) (disch := omega) only [ldX5, fnd_cons, ldL_loc, eq_false o1, eq_false o2, eq_false o3, eq_false o4, hop, eq_false c60, eq_false c62, eq_true p1, eq_true p2, go_sem, Nat.reduceBEq, Nat.reduceBNe, reduceIte, reduceCtorEq, Nat.reduceLeDiff, Nat.reduceAdd, Nat.reduceEqDiff]
            exact j8 (x2.trans (needS_nx (by omega))) hc2.need
          · skip
            simp -implicitDefEqProofs (maxSteps := 5000000) (disch := omega) only [ldX5, fnd_cons, ldL_loc, eq_false o1, eq_false o2, eq_false o3, eq_false o4, hop, eq_false c60, eq_false c62, eq_true p1, eq_false p2, go_sem, Nat.reduceBEq, Nat.reduceBNe, reduceIte, reduceCtorEq, Nat.reduceLeDiff, Nat.reduceAdd, Nat.reduceEqDiff]
            refine need_ok (c := 8) ?_
            simp -implicitDefEqProofs (maxSteps := 5000000) (disch := omega) only [ldX5, fnd_cons, ldL_loc, eq_false o1, eq_false o2, eq_false o3, eq_false o4, hop, eq_false c60, eq_false c62, eq_true p1, eq_false p2, go_sem, Nat.reduceBEq, Nat.reduceBNe, reduceIte, reduceCtorEq, Nat.reduceLeDiff, Nat.reduceAdd, Nat.reduceEqDiff]
            exact j8 (x2.trans (needS_nx (by omega))) hc2.need
        · skip
          simp -implicitDefEqProofs (maxSteps := 5000000) (disch := omega) only [ldX5, fnd_cons, ldL_loc, eq_false o1, eq_false o2, eq_false o3, eq_false o4, hop, eq_false c60, eq_false c62, eq_false p1, go_sem, Nat.reduceBEq, Nat.reduceBNe, reduceIte, reduceCtorEq, Nat.reduceLeDiff, Nat.reduceAdd, Nat.reduceEqDiff]
          refine need_ok (c := 8) ?_
          simp -implicitDefEqProofs (maxSteps := 5000000) (disch := omega) only [ldX5, fnd_cons, ldL_loc, eq_false o1, eq_false o2, eq_false o3, eq_false o4, hop, eq_false c60, eq_false c62, eq_false p1, go_sem, Nat.reduceBEq, Nat.reduceBNe, reduceIte, reduceCtorEq, Nat.reduceLeDiff, Nat.reduceAdd, Nat.reduceEqDiff]
          exact j8 (x2.trans (needS_nx (by omega))) hc2.need
    simp -implicitDefEqProofs (maxSteps := 5000000) (disch := omega) only [s63_6, eq_false k4, eq_false k5, eq_false k6, eq_false k8, eq_false k9, go_sem, Nat.reduceBEq, Nat.reduceBNe, reduceIte, reduceCtorEq, Nat.reduceLeDiff, Nat.reduceAdd, Nat.reduceEqDiff]
    exact j8 NxE.refl h
  · simp -implicitDefEqProofs (maxSteps := 5000000) (disch := omega) only [s63_0, h0, go_sem, Nat.reduceBEq, Nat.reduceBNe, reduceIte, reduceCtorEq, Nat.reduceLeDiff, Nat.reduceAdd, Nat.reduceEqDiff]
    exact hQ 1 s hp NxE.refl h
end
end Go.Proofs.Ytnldohnfdeineaa.Abs
/- The document's checker: statements. -/
namespace Go.Proofs.Ytnldohnfdeineaa.Abs
open Go
set_option maxRecDepth 100000

mutual
def ST.sz : ST → Nat
  | .nd _ th el => 1 + szL th + szL el
def szL : List ST → Nat
  | [] => 0
  | t :: l => t.sz + szL l
end
theorem sz_mem : ∀ {F : List ST} {t : ST}, t ∈ F → t.sz ≤ szL F
  | t :: l, u, h => by
    rcases List.mem_cons.1 h with rfl | h
    · simp only [szL]; omega
    · have := sz_mem h; simp only [szL]; omega
def kOf (sm : List Sm) (i : Nat) : Nat := match sm[i]? with
  | some s => s.k
  | none => 0
mutual
/-- What leaves a while stands in one. -/
def ST.jok (sm : List Sm) (b : Bool) : ST → Prop
  | .nd i th el => (kOf sm i = 7 ∨ kOf sm i = 8 → b = true) ∧ jokL sm (b || decide (kOf sm i = 6)) th ∧ jokL sm (b || decide (kOf sm i = 6)) el
def jokL (sm : List Sm) (b : Bool) : List ST → Prop
  | [] => True
  | t :: l => t.jok sm b ∧ jokL sm b l
end
theorem jokL_iff {sm b} : ∀ {F : List ST}, jokL sm b F ↔ ∀ t ∈ F, t.jok sm b
  | [] => by simp [jokL]
  | t :: l => by simp [jokL, jokL_iff (F := l)]
theorem repL_iff {sm} : ∀ {F : List ST}, repL sm F ↔ ∀ t ∈ F, t.rep sm
  | [] => by simp [repL]
  | t :: l => by simp [repL, repL_iff (F := l)]
theorem ldY0 {s : Sm} : ld 1 false (AV.cells (eSm s)) 0 = some (eN s.k) := rfl
theorem ldY1 {s : Sm} : ld 1 false (AV.cells (eSm s)) 1 = some (eN s.f) := rfl
theorem ldY3 {s : Sm} : ld 1 false (AV.cells (eSm s)) 3 = some (.str s.name) := rfl
theorem ldY4 {s : Sm} : ld 1 false (AV.cells (eSm s)) 4 = some (eN s.num) := rfl
theorem ldY5 {s : Sm} : ld 1 false (AV.cells (eSm s)) 5 = some (eI s.a) := rfl
theorem ldY6 {s : Sm} : ld 1 false (AV.cells (eSm s)) 6 = some (eN s.b) := rfl
theorem ldY7 {s : Sm} : ld 1 false (AV.cells (eSm s)) 7 = some (.sl .no 1 (s.th.map eN)) := rfl
theorem ldY8 {s : Sm} : ld 1 false (AV.cells (eSm s)) 8 = some (.sl .no 1 (s.el.map eN)) := rfl
theorem udY0 {e : Sm} {a b c d f g h i j : AV} : upd 0 (AV.cells (eSm e)) [a, b, c, d, f, g, h, i, j] = some (AV.cells (eSm e)) := rfl
section
variable {q : PT}
structure SpT (q : PT) (n : Nat) : Prop where
  stmt : ∀ {t : ST} {hp s L} {Q : ARes → List AO → Prop}, t.sz ≤ n → t.rep q.sm → HC q hp s L → Ds s → s.f < q.fn.length → s.lp + t.sz < 1000000 → (∀ s' L' hp', Nx s L s' L' → HC q hp' s' L' → (s'.code = 0 → t.jok q.sm (decide (0 < s.lp))) → Q (.ret (eC q s')) hp') → callK CC 47 [eC q s, eN t.root] hp Q
  block : ∀ {F : List ST} {hp s L} {Q : ARes → List AO → Prop}, szL F ≤ n → repL q.sm F → HC q hp s L → Ds s → s.f < q.fn.length → s.lp + szL F < 1000000 → (∀ s' L' hp', NxE s L s' L' → HC q hp' s' L' → (s'.code = 0 → jokL q.sm (decide (0 < s.lp)) F) → Q (.ret (eC q s')) hp') → callK CC 62 [eC q s, .sl .no 1 ((F.map ST.root).map eN)] hp Q
theorem blockC_step {n : Nat} (St : ∀ {t : ST} {hp s L} {Q : ARes → List AO → Prop}, t.sz ≤ n → t.rep q.sm → HC q hp s L → Ds s → s.f < q.fn.length → s.lp + t.sz < 1000000 → (∀ s' L' hp', Nx s L s' L' → HC q hp' s' L' → (s'.code = 0 → t.jok q.sm (decide (0 < s.lp))) → Q (.ret (eC q s')) hp') → callK CC 47 [eC q s, eN t.root] hp Q)
    {F : List ST} {hp s L} {Q : ARes → List AO → Prop} (hn : szL F ≤ n) (hF : F.length < 1000000) (hr : repL q.sm F) (h : HC q hp s L) (hd : Ds s) (hf : s.f < q.fn.length) (hlp : s.lp + szL F < 1000000) (hQ : ∀ s' L' hp', NxE s L s' L' → HC q hp' s' L' → (s'.code = 0 → jokL q.sm (decide (0 < s.lp)) F) → Q (.ret (eC q s')) hp') : callK CC 62 [eC q s, .sl .no 1 ((F.map ST.root).map eN)] hp Q := by
  refine callK_intro rfl (c62 ?_)
  simp only [s62]
  intro J1 J2 h1 h2
  simp -implicitDefEqProofs (maxSteps := 5000000) (disch := omega) only [s62_0, go_sem, Nat.reduceBEq, Nat.reduceBNe, reduceIte, reduceCtorEq, Nat.reduceLeDiff, Nat.reduceAdd, Nat.reduceEqDiff]
  have hlen : (F.map ST.root).length = F.length := List.length_map _
  have key : ∀ (k m : Nat) (s' : CS) (L' : Nat) (hp' : List AO), F.length - m = k → Nx s L s' L' → HC q hp' s' L' → (s'.code = 0 → ∀ t ∈ F.take m, t.jok q.sm (decide (0 < s.lp))) →
      J1 (.sl .no 1 ((F.map ST.root).map eN)) (.sl s.nt 3 (s.nm.map eNm)) (.int .i64 (IntKind.i64.wrap (s.bk + 1))) (eN (F.map ST.root).length) (eN m) (AV.cells (eC q s')) [.sl .cap0 9 [], .sl .cap0 9 [], .sl .cap0 6 [], .sl .cap0 1 [], .sl .cap0 1 [], .sl .cap0 1 [], .sl .cap0 1 [], .sl .cap0 1 [], .int .i64 0, .sl .cap0 3 [], .int .i64 0, .int .i64 0, .int .i64 0, .int .i64 0] hp' := by
    intro k
    induction k with
    | zero =>
      intro m s' L' hp' hk hx hc hj
      apply h1
      have hnl : ¬ m < (F.map ST.root).length := by omega
      simp -implicitDefEqProofs (maxSteps := 5000000) (disch := omega) only [s62_1, hnl, go_sem, Nat.reduceBEq, Nat.reduceBNe, reduceIte, reduceCtorEq, Nat.reduceLeDiff, Nat.reduceAdd, Nat.reduceEqDiff]
      apply h2
      simp -implicitDefEqProofs (maxSteps := 5000000) (disch := omega) only [s62_2, go_sem, Nat.reduceBEq, Nat.reduceBNe, reduceIte, reduceCtorEq, Nat.reduceLeDiff, Nat.reduceAdd, Nat.reduceEqDiff]
      refine hQ { s' with nt := s.nt, nm := s.nm, bk := IntKind.i64.wrap (IntKind.i64.wrap (s.bk + 1) - 1) } L' hp' ⟨⟨hx.ids, hx.f, hx.lp, hx.le, hx.er⟩, rfl, rfl⟩ (hc.re ⟨rfl, rfl, rfl, rfl, rfl⟩ rfl (fun n hn => Nat.lt_of_lt_of_le (h.nm n hn) hx.le) (Nat.le_trans h.nl hx.le)) fun e => ?_
      rw [jokL_iff]
      intro t ht
      refine hj e t ?_
      rw [List.take_of_length_le (by omega)]; exact ht
    | succ k ih =>
      intro m s' L' hp' hk hx hc hj
      have hlt : m < F.length := by omega
      have hlt' : m < (F.map ST.root).length := by omega
      have hxm : (F.map ST.root)[m]? = some (F[m].root) := by rw [List.getElem?_map, List.getElem?_eq_getElem hlt]; rfl
      have hmem : F[m] ∈ F := List.getElem_mem hlt
      have hsz := sz_mem hmem
      apply h1
      simp -implicitDefEqProofs (maxSteps := 5000000) (disch := omega) only [s62_1, hlt', hxm, go_sem, Nat.reduceBEq, Nat.reduceBNe, reduceIte, reduceCtorEq, Nat.reduceLeDiff, Nat.reduceAdd, Nat.reduceEqDiff]
      refine St (by omega) (repL_iff.1 hr _ hmem) hc (hx.ds hd) (by rw [hx.f]; exact hf) (by rw [hx.lp]; omega) fun s2 L2 hp2 x2 hc2 hj2 => ?_
      simp -implicitDefEqProofs (maxSteps := 5000000) (disch := omega) only [go_sem, Nat.reduceBEq, Nat.reduceBNe, reduceIte, reduceCtorEq, Nat.reduceLeDiff, Nat.reduceAdd, Nat.reduceEqDiff]
      refine ih (m + 1) _ L2 hp2 (by omega) (hx.trans ⟨x2.ids, x2.f, x2.lp, x2.le, x2.er⟩) (hc2.re ⟨rfl, rfl, rfl, rfl, rfl⟩ rfl hc2.nm hc2.nl) fun e t ht => ?_
      rw [List.take_succ_eq_append_getElem hlt] at ht
      rcases List.mem_append.1 ht with ht | ht
      · exact hj (x2.er e) t ht
      · rw [List.mem_singleton.1 ht]
        have := hj2 e
        rw [hx.lp] at this
        exact this
  refine key _ 0 { s with bk := IntKind.i64.wrap (s.bk + 1) } L hp rfl ⟨⟨rfl, rfl, rfl, rfl, rfl⟩, rfl, rfl, Nat.le_refl _, id⟩ (h.re ⟨rfl, rfl, rfl, rfl, rfl⟩ rfl h.nm h.nl) fun _ t ht => by simp at ht
theorem stmtC_step (wf : Wf q) (hsz : q.ex.length < 1000000) (hsf : q.fn.length < 1000000) {n : Nat} (S : SpT q n) {t : ST} {hp s L} {Q : ARes → List AO → Prop} (hn : t.sz ≤ n + 1) (hr : t.rep q.sm) (h : HC q hp s L) (hd : Ds s) (hf : s.f < q.fn.length) (hlp : s.lp + t.sz < 1000000)
    (hQ : ∀ s' L' hp', Nx s L s' L' → HC q hp' s' L' → (s'.code = 0 → t.jok q.sm (decide (0 < s.lp))) → Q (.ret (eC q s')) hp') : callK CC 47 [eC q s, eN t.root] hp Q := by
  obtain ⟨i, th, el⟩ := t
  unfold ST.rep at hr
  obtain ⟨⟨sx, hsx, K, hth, hel⟩, hrt, hre⟩ := hr
  have hi : i < q.sm.length := (List.getElem?_eq_some_iff.1 hsx).1
  have hkOf : kOf q.sm i = sx.k := by simp only [kOf, hsx]
  have E := wf.sm sx (List.mem_of_getElem? hsx)
  simp only [ST.sz] at hn hlp
  have val : ∀ {j : Nat} {s' : CS} {L' : Nat} {hp' : List AO} {Q' : ARes → List AO → Prop}, j < q.ex.length → Ds s' → HC q hp' s' L' → (∀ (k : Int) s2 hp2, NxE s' L' s2 L' → HC q hp2 s2 L' → Q' (.ret (.tup [eC q s2, eI k])) hp2) → callK CC 60 [eC q s', eN j] hp' Q' := fun {j s' L' hp' Q'} hj hd' hc hq =>
    value_ok hj (exprC_ok wf hsz hsf j hj) hc hd' hq
  have plain : ∀ {b : Bool}, sx.k ≠ 5 → sx.k ≠ 6 → (sx.k = 7 ∨ sx.k = 8 → b = true) → (ST.nd i th el).jok q.sm b := fun {b} k5 k6 hj => by
    rcases K.in_ with e | e | ⟨e1, e2⟩
    · exact absurd e k5
    · exact absurd e k6
    · rw [e1] at hth
      rw [e2] at hel
      have : th = [] := by cases th with | nil => rfl | cons a l => simp at hth
      subst this
      have : el = [] := by cases el with | nil => rfl | cons a l => simp at hel
      subst this
      unfold ST.jok
      rw [hkOf]
      exact ⟨hj, by simp [jokL], by simp [jokL]⟩
  refine callK_intro rfl (c47 ?_)
  simp only [s47]
  intro J1 J2 J3 J4 h1 h2 h3 h4
  by_cases h0 : s.code = 0
  · have j4 : ∀ {s' : CS} {L' : Nat} {hp' : List AO} {r : Int}, Nx s L s' L' → HC q hp' s' L' → (s'.code = 0 → (ST.nd i th el).jok q.sm (decide (0 < s.lp))) → J4 (eN i) (.int .i64 r) (AV.cells (eC q s')) [.sl .cap0 9 [], .sl .cap0 9 [], .sl .cap0 6 [], .sl .cap0 1 [], .sl .cap0 1 [], .sl .cap0 1 [], .sl .cap0 1 [], .sl .cap0 1 [], .int .i64 0, .sl .cap0 3 [], .int .i64 0, .int .i64 0, .int .i64 0, .int .i64 0] hp' := fun {s' L' hp' r} hx hc hj => by
      apply h4
      by_cases c0 : s'.code = 0
      · obtain ⟨hp2, hst, hc2⟩ := hc.put (v := r) (i := i) (.inr (.inr (.inl ⟨rfl, rfl⟩))) hi (hx.ds hd)
        simp -implicitDefEqProofs (maxSteps := 5000000) (disch := omega) only [s47_4, c0, ixa_arr hi, hst, go_sem, Nat.reduceBEq, Nat.reduceBNe, reduceIte, reduceCtorEq, Nat.reduceLeDiff, Nat.reduceAdd, Nat.reduceEqDiff]
        apply h3
        simp -implicitDefEqProofs (maxSteps := 5000000) (disch := omega) only [s47_3, go_sem, Nat.reduceBEq, Nat.reduceBNe, reduceIte, reduceCtorEq, Nat.reduceLeDiff, Nat.reduceAdd, Nat.reduceEqDiff]
        exact hQ s' L' hp2 hx hc2 hj
      · simp -implicitDefEqProofs (maxSteps := 5000000) (disch := omega) only [s47_4, c0, go_sem, Nat.reduceBEq, Nat.reduceBNe, reduceIte, reduceCtorEq, Nat.reduceLeDiff, Nat.reduceAdd, Nat.reduceEqDiff]
        apply h3
        simp -implicitDefEqProofs (maxSteps := 5000000) (disch := omega) only [s47_3, go_sem, Nat.reduceBEq, Nat.reduceBNe, reduceIte, reduceCtorEq, Nat.reduceLeDiff, Nat.reduceAdd, Nat.reduceEqDiff]
        exact hQ s' L' hp' hx hc hj
    obtain ⟨hp1, hst1, hc1⟩ := h.put (v := (s.f : Int)) (i := i) (.inr (.inr (.inr ⟨rfl, rfl⟩))) hi hd
    simp -implicitDefEqProofs (maxSteps := 5000000) (disch := omega) only [s47_0, h0, ST.root, hsx, ldSm, okvSm, udY0, nlocSm, ldY0, ldY1, ixa_arr hi, hst1, go_sem, Nat.reduceBEq, Nat.reduceBNe, reduceIte, reduceCtorEq, Nat.reduceLeDiff, Nat.reduceAdd, Nat.reduceEqDiff]
    by_cases k1 : sx.k = 1
    · obtain ⟨ha0, ha1⟩ := E.a (by rw [k1]; decide)
      obtain ⟨a, ha⟩ : ∃ a : Nat, sx.a = (a : Int) := ⟨sx.a.toNat, by omega⟩
      simp -implicitDefEqProofs (maxSteps := 5000000) (disch := omega) only [eq_true k1, ldY5, ha, go_sem, Nat.reduceBEq, Nat.reduceBNe, reduceIte, reduceCtorEq, Nat.reduceLeDiff, Nat.reduceAdd, Nat.reduceEqDiff]
      refine val (by omega) hd hc1 fun k s2 hp2 x2 hc2 => ?_
      by_cases c0 : s2.code = 0
      · simp -implicitDefEqProofs (maxSteps := 5000000) (disch := omega) only [c0, ldY3, go_sem, Nat.reduceBEq, Nat.reduceBNe, reduceIte, reduceCtorEq, Nat.reduceLeDiff, Nat.reduceAdd, Nat.reduceEqDiff]
        refine declare_ok hc2 fun r s3 L3 hp3 x3 hc3 => ?_
        simp -implicitDefEqProofs (maxSteps := 5000000) (disch := omega) only [go_sem, Nat.reduceBEq, Nat.reduceBNe, reduceIte, reduceCtorEq, Nat.reduceLeDiff, Nat.reduceAdd, Nat.reduceEqDiff]
        exact j4 (x2.nx.trans x3) hc3 fun _ => plain (by omega) (by omega) (by omega)
      · simp -implicitDefEqProofs (maxSteps := 5000000) (disch := omega) only [c0, go_sem, Nat.reduceBEq, Nat.reduceBNe, reduceIte, reduceCtorEq, Nat.reduceLeDiff, Nat.reduceAdd, Nat.reduceEqDiff]
        exact hQ s2 L hp2 x2.nx hc2 fun e => absurd e c0
    by_cases k2 : sx.k = 2
    · have go : ∀ ok : Bool, callK CC 45 [eC q s, .bool ok, eN sx.f, eN 15] hp1 (rx (pn Q) fun t77 hp4 => ifT (okv 14 t77) <| bl (upd 0 (AV.cells t77) (AV.cells (eC q s))) fun b2_8 => bv (ld 1 false b2_8 12) fun t79 => bv (abin .neq t79 (.int .i64 0)) fun t80 => cnd t80 (bv (ld 14 true b2_8 0) fun t81 => ifT (okv 14 t81) <| bl (upd 0 (AV.cells t81) [.sl .cap0 9 [], .sl .cap0 9 [], .sl .cap0 6 [], .sl .cap0 1 [], .sl .cap0 1 [], .sl .cap0 1 [], .sl .cap0 1 [], .sl .cap0 1 [], .int .i64 0, .sl .cap0 3 [], .int .i64 0, .int .i64 0, .int .i64 0, .int .i64 0]) fun b4_9 => retQ Q hp4 (Option.bind (ld 14 true b4_9 0) fun u10 => some [u10])) (bv (ld 14 true b2_8 0) fun t83 => bv (ld 1 false (AV.cells (eSm sx)) 3) fun t85 => callK CC 46 [t83, t85, .int .i64 3, eN sx.f] hp4 <| rx (pn Q) fun t87 hp5 => bv (extV 0 t87) fun t88 => bv (extV 1 t87) fun t89 => ifT (okv 14 t88) <| bl (upd 0 (AV.cells t88) b2_8) fun b2_11 => J4 (eN i) t89 b2_11 [.sl .cap0 9 [], .sl .cap0 9 [], .sl .cap0 6 [], .sl .cap0 1 [], .sl .cap0 1 [], .sl .cap0 1 [], .sl .cap0 1 [], .sl .cap0 1 [], .int .i64 0, .sl .cap0 3 [], .int .i64 0, .int .i64 0, .int .i64 0, .int .i64 0] hp5)) := fun ok => by
        refine need_ok (c := 15) ?_
        have x2 : NxE s L (needS s ok sx.f 15) L := needS_nx (by omega)
        have hc2 := hc1.need (ok := ok) (a := sx.f) (c := 15)
        generalize needS s ok sx.f 15 = s2 at x2 hc2
        by_cases c0 : s2.code = 0
        · simp -implicitDefEqProofs (maxSteps := 5000000) (disch := omega) only [c0, ldY3, go_sem, Nat.reduceBEq, Nat.reduceBNe, reduceIte, reduceCtorEq, Nat.reduceLeDiff, Nat.reduceAdd, Nat.reduceEqDiff]
          refine declare_ok hc2 fun r s3 L3 hp3 x3 hc3 => ?_
          simp -implicitDefEqProofs (maxSteps := 5000000) (disch := omega) only [go_sem, Nat.reduceBEq, Nat.reduceBNe, reduceIte, reduceCtorEq, Nat.reduceLeDiff, Nat.reduceAdd, Nat.reduceEqDiff]
          exact j4 (x2.nx.trans x3) hc3 fun _ => plain (by omega) (by omega) (by omega)
        · simp -implicitDefEqProofs (maxSteps := 5000000) (disch := omega) only [c0, go_sem, Nat.reduceBEq, Nat.reduceBNe, reduceIte, reduceCtorEq, Nat.reduceLeDiff, Nat.reduceAdd, Nat.reduceEqDiff]
          exact hQ s2 L hp1 x2.nx hc2 fun e => absurd e c0
      by_cases p1 : 1 ≤ sx.num
      · simp -implicitDefEqProofs (maxSteps := 5000000) (disch := omega) only [eq_false k1, eq_true k2, ldY4, eq_true p1, fnd_cons, ldL_loc, go_sem, Nat.reduceBEq, Nat.reduceBNe, reduceIte, reduceCtorEq, Nat.reduceLeDiff, Nat.reduceAdd, Nat.reduceEqDiff]
        exact go _
      · simp -implicitDefEqProofs (maxSteps := 5000000) (disch := omega) only [eq_false k1, eq_true k2, ldY4, eq_false p1, fnd_cons, ldL_loc, go_sem, Nat.reduceBEq, Nat.reduceBNe, reduceIte, reduceCtorEq, Nat.reduceLeDiff, Nat.reduceAdd, Nat.reduceEqDiff]
        exact go _
    by_cases k3 : sx.k = 3
    · obtain ⟨ha0, ha1⟩ := E.a (by rw [k3]; decide)
      obtain ⟨a, ha⟩ : ∃ a : Nat, sx.a = (a : Int) := ⟨sx.a.toNat, by omega⟩
      simp -implicitDefEqProofs (maxSteps := 5000000) (disch := omega) only [eq_false k1, eq_false k2, eq_true k3, ldY5, ha, go_sem, Nat.reduceBEq, Nat.reduceBNe, reduceIte, reduceCtorEq, Nat.reduceLeDiff, Nat.reduceAdd, Nat.reduceEqDiff]
      refine val (by omega) hd hc1 fun k s2 hp2 x2 hc2 => ?_
      by_cases c0 : s2.code = 0
      · simp -implicitDefEqProofs (maxSteps := 5000000) (disch := omega) only [c0, ldY3, go_sem, Nat.reduceBEq, Nat.reduceBNe, reduceIte, reduceCtorEq, Nat.reduceLeDiff, Nat.reduceAdd, Nat.reduceEqDiff]
        refine slot_ok hc2 fun r s3 hr x3 hc3 hz => ?_
        simp -implicitDefEqProofs (maxSteps := 5000000) (disch := omega) only [go_sem, Nat.reduceBEq, Nat.reduceBNe, reduceIte, reduceCtorEq, Nat.reduceLeDiff, Nat.reduceAdd, Nat.reduceEqDiff]
        by_cases c3 : s3.code = 0
        · obtain ⟨t, l, hl, hf3, hld, _⟩ := hc3.slots
          rcases hr with rfl | ⟨m, hm, rfl⟩
          · have := hz c3; omega
          · simp -implicitDefEqProofs (maxSteps := 5000000) (disch := omega) only [c3, ixa_arr hf3, hld, ixa_int (show m < l.length by omega), go_sem, Nat.reduceBEq, Nat.reduceBNe, reduceIte, reduceCtorEq, Nat.reduceLeDiff, Nat.reduceAdd, Nat.reduceEqDiff]
            refine need_ok (c := 8) ?_
            simp -implicitDefEqProofs (maxSteps := 5000000) (disch := omega) only [go_sem, Nat.reduceBEq, Nat.reduceBNe, reduceIte, reduceCtorEq, Nat.reduceLeDiff, Nat.reduceAdd, Nat.reduceEqDiff]
            exact j4 ((x2.trans x3).trans (needS_nx (by omega))).nx hc3.need fun _ => plain (by omega) (by omega) (by omega)
        · simp -implicitDefEqProofs (maxSteps := 5000000) (disch := omega) only [c3, go_sem, Nat.reduceBEq, Nat.reduceBNe, reduceIte, reduceCtorEq, Nat.reduceLeDiff, Nat.reduceAdd, Nat.reduceEqDiff]
          exact j4 (x2.trans x3).nx hc3 fun _ => plain (by omega) (by omega) (by omega)
      · simp -implicitDefEqProofs (maxSteps := 5000000) (disch := omega) only [c0, go_sem, Nat.reduceBEq, Nat.reduceBNe, reduceIte, reduceCtorEq, Nat.reduceLeDiff, Nat.reduceAdd, Nat.reduceEqDiff]
        exact hQ s2 L hp2 x2.nx hc2 fun e => absurd e c0
    by_cases k4 : sx.k = 4
    · obtain ⟨ha0, ha1⟩ := E.a (by rw [k4]; decide)
      obtain ⟨a, ha⟩ : ∃ a : Nat, sx.a = (a : Int) := ⟨sx.a.toNat, by omega⟩
      have hb := E.b k4
      simp -implicitDefEqProofs (maxSteps := 5000000) (disch := omega) only [eq_false k1, eq_false k2, eq_false k3, eq_true k4, ldY5, ha, go_sem, Nat.reduceBEq, Nat.reduceBNe, reduceIte, reduceCtorEq, Nat.reduceLeDiff, Nat.reduceAdd, Nat.reduceEqDiff]
      refine val (by omega) hd hc1 fun ka s2 hp2 x2 hc2 => ?_
      simp -implicitDefEqProofs (maxSteps := 5000000) (disch := omega) only [ldY6, go_sem, Nat.reduceBEq, Nat.reduceBNe, reduceIte, reduceCtorEq, Nat.reduceLeDiff, Nat.reduceAdd, Nat.reduceEqDiff]
      refine val hb (x2.nx.ds hd) hc2 fun kb s3 hp3 x3 hc3 => ?_
      by_cases c0 : s3.code = 0
      · simp -implicitDefEqProofs (maxSteps := 5000000) (disch := omega) only [c0, ldY3, go_sem, Nat.reduceBEq, Nat.reduceBNe, reduceIte, reduceCtorEq, Nat.reduceLeDiff, Nat.reduceAdd, Nat.reduceEqDiff]
        refine slot_ok hc3 fun r s4 hr x4 hc4 hz => ?_
        have x24 := (x2.trans x3).trans x4
        by_cases p1 : ka = 1
        · simp -implicitDefEqProofs (maxSteps := 5000000) (disch := omega) only [eq_true p1, go_sem, Nat.reduceBEq, Nat.reduceBNe, reduceIte, reduceCtorEq, Nat.reduceLeDiff, Nat.reduceAdd, Nat.reduceEqDiff]
          refine need_ok (c := 8) ?_
          simp -implicitDefEqProofs (maxSteps := 5000000) (disch := omega) only [go_sem, Nat.reduceBEq, Nat.reduceBNe, reduceIte, reduceCtorEq, Nat.reduceLeDiff, Nat.reduceAdd, Nat.reduceEqDiff]
          exact j4 (x24.trans (needS_nx (by omega))).nx hc4.need fun _ => plain (by omega) (by omega) (by omega)
        · simp -implicitDefEqProofs (maxSteps := 5000000) (disch := omega) only [eq_false p1, go_sem, Nat.reduceBEq, Nat.reduceBNe, reduceIte, reduceCtorEq, Nat.reduceLeDiff, Nat.reduceAdd, Nat.reduceEqDiff]
          refine need_ok (c := 8) ?_
          simp -implicitDefEqProofs (maxSteps := 5000000) (disch := omega) only [go_sem, Nat.reduceBEq, Nat.reduceBNe, reduceIte, reduceCtorEq, Nat.reduceLeDiff, Nat.reduceAdd, Nat.reduceEqDiff]
          exact j4 (x24.trans (needS_nx (by omega))).nx hc4.need fun _ => plain (by omega) (by omega) (by omega)
      · simp -implicitDefEqProofs (maxSteps := 5000000) (disch := omega) only [c0, go_sem, Nat.reduceBEq, Nat.reduceBNe, reduceIte, reduceCtorEq, Nat.reduceLeDiff, Nat.reduceAdd, Nat.reduceEqDiff]
        exact hQ s3 L hp3 (x2.trans x3).nx hc3 fun e => absurd e c0
    by_cases k5 : sx.k = 5
    · obtain ⟨ha0, ha1⟩ := E.a (by rw [k5]; decide)
      obtain ⟨a, ha⟩ : ∃ a : Nat, sx.a = (a : Int) := ⟨sx.a.toNat, by omega⟩
      simp -implicitDefEqProofs (maxSteps := 5000000) (disch := omega) only [eq_false k1, eq_false k2, eq_false k3, eq_false k4, eq_true k5, ldY5, ha, go_sem, Nat.reduceBEq, Nat.reduceBNe, reduceIte, reduceCtorEq, Nat.reduceLeDiff, Nat.reduceAdd, Nat.reduceEqDiff]
      refine val (by omega) hd hc1 fun k s2 hp2 x2 hc2 => ?_
      simp -implicitDefEqProofs (maxSteps := 5000000) (disch := omega) only [ldY7, hth, go_sem, Nat.reduceBEq, Nat.reduceBNe, reduceIte, reduceCtorEq, Nat.reduceLeDiff, Nat.reduceAdd, Nat.reduceEqDiff]
      refine need_ok (c := 8) ?_
      simp -implicitDefEqProofs (maxSteps := 5000000) (disch := omega) only [go_sem, Nat.reduceBEq, Nat.reduceBNe, reduceIte, reduceCtorEq, Nat.reduceLeDiff, Nat.reduceAdd, Nat.reduceEqDiff]
      have x3 := x2.trans (needS_nx (s := s2) (L := L) (ok := decide (k = 2)) (a := sx.f) (c := 8) (by omega))
      have hc3 := hc2.need (ok := decide (k = 2)) (a := sx.f) (c := 8)
      generalize needS s2 (decide (k = 2)) sx.f 8 = s3 at x3 hc3
      refine S.block (by omega) hrt hc3 (x3.nx.ds hd) (by rw [x3.nx.f]; exact hf) (by rw [x3.nx.lp]; omega) fun s4 L4 hp4 x4 hc4 hj4 => ?_
      have x34 := x3.nx.trans x4.nx
      simp -implicitDefEqProofs (maxSteps := 5000000) (disch := omega) only [ldY8, hel, go_sem, Nat.reduceBEq, Nat.reduceBNe, reduceIte, reduceCtorEq, Nat.reduceLeDiff, Nat.reduceAdd, Nat.reduceEqDiff]
      refine S.block (by omega) hre hc4 (x34.ds hd) (by rw [x34.f]; exact hf) (by rw [x34.lp]; omega) fun s5 L5 hp5 x5 hc5 hj5 => ?_
      simp -implicitDefEqProofs (maxSteps := 5000000) (disch := omega) only [go_sem, Nat.reduceBEq, Nat.reduceBNe, reduceIte, reduceCtorEq, Nat.reduceLeDiff, Nat.reduceAdd, Nat.reduceEqDiff]
      refine j4 (x34.trans x5.nx) hc5 fun e => ?_
      have e1 := hj4 (x5.nx.er e)
      have e2 := hj5 e
      rw [x3.nx.lp] at e1
      rw [x34.lp] at e2
      unfold ST.jok
      rw [hkOf, k5]
      exact ⟨by omega, by simpa using e1, by simpa using e2⟩
    by_cases k6 : sx.k = 6
    · obtain ⟨ha0, ha1⟩ := E.a (by rw [k6]; decide)
      obtain ⟨a, ha⟩ : ∃ a : Nat, sx.a = (a : Int) := ⟨sx.a.toNat, by omega⟩
      simp -implicitDefEqProofs (maxSteps := 5000000) (disch := omega) only [eq_false k1, eq_false k2, eq_false k3, eq_false k4, eq_false k5, eq_true k6, ldY5, ha, go_sem, Nat.reduceBEq, Nat.reduceBNe, reduceIte, reduceCtorEq, Nat.reduceLeDiff, Nat.reduceAdd, Nat.reduceEqDiff]
      refine val (by omega) hd hc1 fun k s2 hp2 x2 hc2 => ?_
      have hlp2 := x2.nx.lp
      simp -implicitDefEqProofs (maxSteps := 5000000) (disch := omega) only [ldY7, hth, go_sem, Nat.reduceBEq, Nat.reduceBNe, reduceIte, reduceCtorEq, Nat.reduceLeDiff, Nat.reduceAdd, Nat.reduceEqDiff]
      refine need_ok (s := { s2 with lp := s2.lp + 1 }) (c := 8) ?_
      simp -implicitDefEqProofs (maxSteps := 5000000) (disch := omega) only [go_sem, Nat.reduceBEq, Nat.reduceBNe, reduceIte, reduceCtorEq, Nat.reduceLeDiff, Nat.reduceAdd, Nat.reduceEqDiff]
      have x3 : NxE { s2 with lp := s2.lp + 1 } L (needS { s2 with lp := s2.lp + 1 } (decide (k = 2)) sx.f 8) L := needS_nx (by omega)
      have hc3 := (hc2.re (s' := { s2 with lp := s2.lp + 1 }) ⟨rfl, rfl, rfl, rfl, rfl⟩ rfl hc2.nm hc2.nl).need (ok := decide (k = 2)) (a := sx.f) (c := 8)
      generalize needS { s2 with lp := s2.lp + 1 } (decide (k = 2)) sx.f 8 = s3 at x3 hc3
      have hlp3 : s3.lp = s.lp + 1 := by rw [x3.nx.lp, ← hlp2]
      have hf3 : s3.f = s.f := by rw [x3.nx.f]; exact x2.nx.f
      have hds3 : Ds s3 := x3.nx.ds (x2.nx.ds hd)
      refine S.block (by omega) hrt hc3 hds3 (by rw [hf3]; exact hf) (by rw [hlp3]; omega) fun s4 L4 hp4 x4 hc4 hj4 => ?_
      have hlp4 : s4.lp = s.lp + 1 := by rw [x4.nx.lp, hlp3]
      simp -implicitDefEqProofs (maxSteps := 5000000) (disch := omega) only [hlp4, Nat.add_sub_cancel, go_sem, Nat.reduceBEq, Nat.reduceBNe, reduceIte, reduceCtorEq, Nat.reduceLeDiff, Nat.reduceAdd, Nat.reduceEqDiff]
      refine j4 (s' := { s4 with lp := s.lp }) (L' := L4) ?_ (hc4.re ⟨rfl, rfl, rfl, rfl, rfl⟩ rfl hc4.nm hc4.nl) fun e => ?_
      · have y := x3.nx.trans x4.nx
        have z : Nx s L { s2 with lp := s2.lp + 1 } L ∨ True := .inr trivial
        obtain ⟨a1, a2, a3, a4, a5⟩ := x2.nx.ids
        obtain ⟨b1, b2, b3, b4, b5⟩ := y.ids
        exact ⟨⟨b1.trans a1, b2.trans a2, b3.trans a3, b4.trans a4, b5.trans a5⟩, y.f.trans x2.nx.f, rfl, y.le, fun e => x2.nx.er (y.er e)⟩
      · have e1 := hj4 e
        rw [hlp3] at e1
        have hel0 : el = [] := by
          have := K.wh k6
          rw [this] at hel
          cases el with | nil => rfl | cons a l => simp at hel
        subst hel0
        unfold ST.jok
        rw [hkOf, k6]
        exact ⟨by omega, by simpa using e1, by simp [jokL]⟩
    have jump : (sx.k = 7 ∨ sx.k = 8) → J2 (eN i) (eN sx.f) (.int .i64 (-1)) (eN sx.k) (.bool true) (AV.cells (eC q s)) [.sl .cap0 9 [], .sl .cap0 9 [], .sl .cap0 6 [], .sl .cap0 1 [], .sl .cap0 1 [], .sl .cap0 1 [], .sl .cap0 1 [], .sl .cap0 1 [], .int .i64 0, .sl .cap0 3 [], .int .i64 0, .int .i64 0, .int .i64 0, .int .i64 0] (AV.cells (eSm sx)) hp1 := fun hk => by
      apply h2
      simp -implicitDefEqProofs (maxSteps := 5000000) (disch := omega) only [s47_2, go_sem, Nat.reduceBEq, Nat.reduceBNe, reduceIte, reduceCtorEq, Nat.reduceLeDiff, Nat.reduceAdd, Nat.reduceEqDiff]
      refine need_ok (c := 9) ?_
      simp -implicitDefEqProofs (maxSteps := 5000000) (disch := omega) only [go_sem, Nat.reduceBEq, Nat.reduceBNe, reduceIte, reduceCtorEq, Nat.reduceLeDiff, Nat.reduceAdd, Nat.reduceEqDiff]
      refine j4 (needS_nx (by omega)).nx hc1.need fun e => plain (by omega) (by omega) fun _ => needS_ok (by omega) e
    by_cases k7 : sx.k = 7
    · have := jump (.inl k7)
      simp -implicitDefEqProofs (maxSteps := 5000000) (disch := omega) only [eq_false k1, eq_false k2, eq_false k3, eq_false k4, eq_false k5, eq_false k6, eq_true k7, go_sem, Nat.reduceBEq, Nat.reduceBNe, reduceIte, reduceCtorEq, Nat.reduceLeDiff, Nat.reduceAdd, Nat.reduceEqDiff]
      exact this
    by_cases k8 : sx.k = 8
    · have := jump (.inr k8)
      simp -implicitDefEqProofs (maxSteps := 5000000) (disch := omega) only [eq_false k1, eq_false k2, eq_false k3, eq_false k4, eq_false k5, eq_false k6, eq_false k7, eq_true k8, go_sem, Nat.reduceBEq, Nat.reduceBNe, reduceIte, reduceCtorEq, Nat.reduceLeDiff, Nat.reduceAdd, Nat.reduceEqDiff]
      exact this
    have pl : ∀ {b : Bool}, (ST.nd i th el).jok q.sm b := fun {b} => plain k5 k6 fun hk => by rcases hk with hk | hk <;> contradiction
    simp -implicitDefEqProofs (maxSteps := 5000000) (disch := omega) only [eq_false k1, eq_false k2, eq_false k3, eq_false k4, eq_false k5, eq_false k6, eq_false k7, eq_false k8, go_sem, Nat.reduceBEq, Nat.reduceBNe, reduceIte, reduceCtorEq, Nat.reduceLeDiff, Nat.reduceAdd, Nat.reduceEqDiff]
    apply h2
    by_cases k9 : sx.k = 9
    · have ha1 := E.r k9
      have j1 : ∀ {s' : CS} {hp' : List AO} {r : Int}, NxE s L s' L → HC q hp' s' L → J1 (eN i) (eN sx.f) (.int .i64 (-1)) (.int .i64 r) (AV.cells (eC q s')) [.sl .cap0 9 [], .sl .cap0 9 [], .sl .cap0 6 [], .sl .cap0 1 [], .sl .cap0 1 [], .sl .cap0 1 [], .sl .cap0 1 [], .sl .cap0 1 [], .int .i64 0, .sl .cap0 3 [], .int .i64 0, .int .i64 0, .int .i64 0, .int .i64 0] hp' := fun {s' hp' r} hx hc => by
        obtain ⟨fn, hfn⟩ : ∃ fn, q.fn[s'.f]? = some fn := ⟨_, List.getElem?_eq_getElem (by rw [hx.nx.f]; exact hf)⟩
        apply h1
        simp -implicitDefEqProofs (maxSteps := 5000000) (disch := omega) only [s47_1, hfn, ldF4, go_sem, Nat.reduceBEq, Nat.reduceBNe, reduceIte, reduceCtorEq, Nat.reduceLeDiff, Nat.reduceAdd, Nat.reduceEqDiff]
        refine need_ok (c := 8) ?_
        simp -implicitDefEqProofs (maxSteps := 5000000) (disch := omega) only [go_sem, Nat.reduceBEq, Nat.reduceBNe, reduceIte, reduceCtorEq, Nat.reduceLeDiff, Nat.reduceAdd, Nat.reduceEqDiff]
        exact j4 (hx.trans (needS_nx (by omega))).nx hc.need fun _ => pl
      by_cases p1 : 0 ≤ sx.a
      · obtain ⟨a, ha⟩ : ∃ a : Nat, sx.a = (a : Int) := ⟨sx.a.toNat, by omega⟩
        have p1' : (0 : Int) ≤ (a : Int) := by omega
        simp -implicitDefEqProofs (maxSteps := 5000000) (disch := omega) only [s47_2, eq_true k9, ldY5, ha, p1', go_sem, Nat.reduceBEq, Nat.reduceBNe, reduceIte, reduceCtorEq, Nat.reduceLeDiff, Nat.reduceAdd, Nat.reduceEqDiff]
        refine val (by omega) hd hc1 fun k s2 hp2 x2 hc2 => ?_
        simp -implicitDefEqProofs (maxSteps := 5000000) (disch := omega) only [go_sem, Nat.reduceBEq, Nat.reduceBNe, reduceIte, reduceCtorEq, Nat.reduceLeDiff, Nat.reduceAdd, Nat.reduceEqDiff]
        exact j1 x2 hc2
      · simp -implicitDefEqProofs (maxSteps := 5000000) (disch := omega) only [s47_2, eq_true k9, ldY5, eq_false p1, go_sem, Nat.reduceBEq, Nat.reduceBNe, reduceIte, reduceCtorEq, Nat.reduceLeDiff, Nat.reduceAdd, Nat.reduceEqDiff]
        exact j1 NxE.refl hc1
    by_cases k10 : sx.k = 10
    · obtain ⟨ha0, ha1⟩ := E.a (by rw [k10]; decide)
      obtain ⟨a, ha⟩ : ∃ a : Nat, sx.a = (a : Int) := ⟨sx.a.toNat, by omega⟩
      simp -implicitDefEqProofs (maxSteps := 5000000) (disch := omega) only [s47_2, eq_false k9, eq_true k10, ldY5, ha, go_sem, Nat.reduceBEq, Nat.reduceBNe, reduceIte, reduceCtorEq, Nat.reduceLeDiff, Nat.reduceAdd, Nat.reduceEqDiff]
      refine val (by omega) hd hc1 fun k s2 hp2 x2 hc2 => ?_
      simp -implicitDefEqProofs (maxSteps := 5000000) (disch := omega) only [go_sem, Nat.reduceBEq, Nat.reduceBNe, reduceIte, reduceCtorEq, Nat.reduceLeDiff, Nat.reduceAdd, Nat.reduceEqDiff]
      exact j4 x2.nx hc2 fun _ => pl
    by_cases k11 : sx.k = 11
    · obtain ⟨ha0, ha1⟩ := E.a (by rw [k11]; decide)
      obtain ⟨a, ha⟩ : ∃ a : Nat, sx.a = (a : Int) := ⟨sx.a.toNat, by omega⟩
      simp -implicitDefEqProofs (maxSteps := 5000000) (disch := omega) only [s47_2, eq_false k9, eq_false k10, eq_true k11, ldY5, ha, go_sem, Nat.reduceBEq, Nat.reduceBNe, reduceIte, reduceCtorEq, Nat.reduceLeDiff, Nat.reduceAdd, Nat.reduceEqDiff]
      refine exprC_ok wf hsz hsf a (by omega) hc1 hd fun k s2 hp2 x2 hc2 => ?_
      simp -implicitDefEqProofs (maxSteps := 5000000) (disch := omega) only [go_sem, Nat.reduceBEq, Nat.reduceBNe, reduceIte, reduceCtorEq, Nat.reduceLeDiff, Nat.reduceAdd, Nat.reduceEqDiff]
      exact j4 x2.nx hc2 fun _ => pl
    simp -implicitDefEqProofs (maxSteps := 5000000) (disch := omega) only [s47_2, eq_false k9, eq_false k10, eq_false k11, go_sem, Nat.reduceBEq, Nat.reduceBNe, reduceIte, reduceCtorEq, Nat.reduceLeDiff, Nat.reduceAdd, Nat.reduceEqDiff]
    exact j4 Nx.refl hc1 fun _ => pl
  · simp -implicitDefEqProofs (maxSteps := 5000000) (disch := omega) only [s47_0, h0, go_sem, Nat.reduceBEq, Nat.reduceBNe, reduceIte, reduceCtorEq, Nat.reduceLeDiff, Nat.reduceAdd, Nat.reduceEqDiff]
    exact hQ s L hp Nx.refl h fun e => absurd e h0
theorem len_sz : ∀ (F : List ST), F.length ≤ szL F
  | [] => Nat.le_refl _
  | .nd i th el :: F => by
    have := len_sz F
    simp only [List.length_cons, szL, ST.sz]; omega
theorem spT (wf : Wf q) (hsz : q.ex.length < 1000000) (hsf : q.fn.length < 1000000) : ∀ n, SpT q n := by
  intro n
  induction n with
  | zero =>
    refine ⟨fun {t hp s L Q} hn => ?_, fun {F hp s L Q} hn hr h hd hf hlp hQ => ?_⟩
    · obtain ⟨i, th, el⟩ := t
      simp only [ST.sz] at hn
      omega
    · have := len_sz F
      exact blockC_step (n := 0) (fun {t hp s L Q} hn => by
        obtain ⟨i, th, el⟩ := t
        simp only [ST.sz] at hn
        omega) hn (by omega) hr h hd hf hlp hQ
  | succ n S =>
    have st := fun {t : ST} {hp s L} {Q : ARes → List AO → Prop} (hn : t.sz ≤ n + 1) hr h hd hf hlp hQ => stmtC_step (t := t) (hp := hp) (s := s) (L := L) (Q := Q) wf hsz hsf S hn hr h hd hf hlp hQ
    refine ⟨fun hn hr h hd hf hlp hQ => st hn hr h hd hf hlp hQ, fun {F hp s L Q} hn hr h hd hf hlp hQ => ?_⟩
    have := len_sz F
    exact blockC_step (n := n + 1) st hn (by omega) hr h hd hf hlp hQ
end
end Go.Proofs.Ytnldohnfdeineaa.Abs
/- The document's checker: the whole. -/
namespace Go.Proofs.Ytnldohnfdeineaa.Abs
open Go
set_option maxRecDepth 100000

def eD (q : PT) (n1 n2 n3 n4 n5 : Nat) (s : CS) : AV := .agg [.sl .no 9 (q.ex.map eEx), .sl .no 9 (q.sm.map eSm), .sl .no 6 (q.fn.map eFn), arr0 s.ty n1, arr0 s.sl n2, arr0 s.pu n3, arr0 s.fu n4, arr0 s.so n5, eN s.f, .sl s.nt 3 (s.nm.map eNm), eI s.bk, eN s.lp, eN s.code, eN s.at_]
section
variable {q : PT} {n1 n2 n3 n4 n5 : Nat} {s : CS}
theorem ldD3 : ld 1 false (AV.cells (eD q n1 n2 n3 n4 n5 s)) 3 = some (arr0 s.ty n1) := nl_arr0
theorem ldD4 : ld 1 false (AV.cells (eD q n1 n2 n3 n4 n5 s)) 4 = some (arr0 s.sl n2) := nl_arr0
theorem ldD5 : ld 1 false (AV.cells (eD q n1 n2 n3 n4 n5 s)) 5 = some (arr0 s.pu n3) := nl_arr0
theorem ldD6 : ld 1 false (AV.cells (eD q n1 n2 n3 n4 n5 s)) 6 = some (arr0 s.fu n4) := nl_arr0
theorem ldD7 : ld 1 false (AV.cells (eD q n1 n2 n3 n4 n5 s)) 7 = some (arr0 s.so n5) := nl_arr0
theorem udD3 {i n : Nat} : upd 3 [arr0 i n] (AV.cells (eD q n1 n2 n3 n4 n5 s)) = some (AV.cells (eD q n n2 n3 n4 n5 { s with ty := i })) := rfl
theorem udD4 {i n : Nat} : upd 4 [arr0 i n] (AV.cells (eD q n1 n2 n3 n4 n5 s)) = some (AV.cells (eD q n1 n n3 n4 n5 { s with sl := i })) := rfl
theorem udD5 {i n : Nat} : upd 5 [arr0 i n] (AV.cells (eD q n1 n2 n3 n4 n5 s)) = some (AV.cells (eD q n1 n2 n n4 n5 { s with pu := i })) := rfl
theorem udD6 {i n : Nat} : upd 6 [arr0 i n] (AV.cells (eD q n1 n2 n3 n4 n5 s)) = some (AV.cells (eD q n1 n2 n3 n n5 { s with fu := i })) := rfl
theorem udD7 {i n : Nat} : upd 7 [arr0 i n] (AV.cells (eD q n1 n2 n3 n4 n5 s)) = some (AV.cells (eD q n1 n2 n3 n4 n { s with so := i })) := rfl
theorem ldD12 : ld 1 false (AV.cells (eD q n1 n2 n3 n4 n5 s)) 12 = some (eN s.code) := rfl
theorem udD12 {n : Nat} : upd 12 [.int .i64 (n : Int)] (AV.cells (eD q n1 n2 n3 n4 n5 s)) = some (AV.cells (eD q n1 n2 n3 n4 n5 { s with code := n })) := rfl
theorem udD13 {n : Nat} : upd 13 [.int .i64 (n : Int)] (AV.cells (eD q n1 n2 n3 n4 n5 s)) = some (AV.cells (eD q n1 n2 n3 n4 n5 { s with at_ := n })) := rfl
theorem ldD : ld 14 true (AV.cells (eD q n1 n2 n3 n4 n5 s)) 0 = some (eD q n1 n2 n3 n4 n5 s) := rfl
theorem udDa {q' : PT} {m1 m2 m3 m4 m5 : Nat} {s' : CS} : upd 0 (AV.cells (eD q n1 n2 n3 n4 n5 s)) (AV.cells (eD q' m1 m2 m3 m4 m5 s')) = some (AV.cells (eD q n1 n2 n3 n4 n5 s)) := rfl
theorem udD0 {a b c d e f g h i j k l m n : AV} : upd 0 (AV.cells (eD q n1 n2 n3 n4 n5 s)) [a, b, c, d, e, f, g, h, i, j, k, l, m, n] = some (AV.cells (eD q n1 n2 n3 n4 n5 s)) := rfl
theorem okvD : okv 14 (eD q n1 n2 n3 n4 n5 s) = true := rfl
theorem memD : AV.mem (eD q n1 n2 n3 n4 n5 s) = true := rfl
theorem nlD : nl (eD q n1 n2 n3 n4 n5 s) = some (eD q n1 n2 n3 n4 n5 s) := rfl
theorem nlocD {d} : notLoc d (eD q n1 n2 n3 n4 n5 s) = true := rfl
theorem cells_arr0 {i n : Nat} : AV.cells (arr0 i n) = [arr0 i n] := by unfold arr0; split <;> rfl
theorem okv_arr0 {i n : Nat} : okv 1 (arr0 i n) = true := by unfold arr0; split <;> rfl
theorem ldTr0 : ld 1 false (AV.cells (eTr q)) 0 = some (.sl .no 9 (q.ex.map eEx)) := rfl
theorem ldTr1 : ld 1 false (AV.cells (eTr q)) 1 = some (.sl .no 9 (q.sm.map eSm)) := rfl
theorem ldTr2 : ld 1 false (AV.cells (eTr q)) 2 = some (.sl .no 6 (q.fn.map eFn)) := rfl
theorem ldTr : ld 3 true (AV.cells (eTr q)) 0 = some (eTr q) := rfl
theorem memTr : AV.mem (eTr q) = true := rfl
theorem nlocTr {d} : notLoc d (eTr q) = true := rfl
def s00 : CS := ⟨0, 0, 0, 0, 0, 0, .cap0, [], 0, 0, 0, 0⟩
theorem bldD : bld [.sl .cap0 9 [], .sl .cap0 9 [], .sl .cap0 6 [], .sl .cap0 1 [], .sl .cap0 1 [], .sl .cap0 1 [], .sl .cap0 1 [], .sl .cap0 1 [], .int .i64 0, .sl .cap0 3 [], .int .i64 0, .int .i64 0, .int .i64 0, .int .i64 0] [(0, 3, eTr q)] = some (eD q 0 0 0 0 0 s00) := rfl
theorem needD_ok {hp : List AO} {Q : ARes → List AO → Prop} {b : Bool} {a c : Nat} (hQ : Q (.ret (eD q n1 n2 n3 n4 n5 (needS s b a c))) hp) : callK CC 45 [eD q n1 n2 n3 n4 n5 s, .bool b, eN a, eN c] hp Q := by
  refine callK_intro rfl (c45 ?_)
  simp only [s45]
  intro J1 h1
  by_cases h0 : s.code = 0
  · cases b with
    | true =>
      simp -implicitDefEqProofs (maxSteps := 5000000) (disch := omega) only [s45_0, h0, ldD3, ldD4, ldD5, ldD6, ldD7, udD3, udD4, udD5, udD6, udD7, ldD12, udD12, udD13, ldD, udDa, udD0, okvD, memD, nlD, nlocD, cells_arr0, okv_arr0, ldTr0, ldTr1, ldTr2, ldTr, memTr, nlocTr, go_sem, Nat.reduceBEq, Nat.reduceBNe, reduceIte, reduceCtorEq, Nat.reduceLeDiff, Nat.reduceAdd, Nat.reduceEqDiff]
      apply h1
      simp -implicitDefEqProofs (maxSteps := 5000000) (disch := omega) only [s45_1, ldD3, ldD4, ldD5, ldD6, ldD7, udD3, udD4, udD5, udD6, udD7, ldD12, udD12, udD13, ldD, udDa, udD0, okvD, memD, nlD, nlocD, cells_arr0, okv_arr0, ldTr0, ldTr1, ldTr2, ldTr, memTr, nlocTr, go_sem, Nat.reduceBEq, Nat.reduceBNe, reduceIte, reduceCtorEq, Nat.reduceLeDiff, Nat.reduceAdd, Nat.reduceEqDiff]
      simpa [needS] using hQ
    | false =>
      simp -implicitDefEqProofs (maxSteps := 5000000) (disch := omega) only [s45_0, h0, ldD3, ldD4, ldD5, ldD6, ldD7, udD3, udD4, udD5, udD6, udD7, ldD12, udD12, udD13, ldD, udDa, udD0, okvD, memD, nlD, nlocD, cells_arr0, okv_arr0, ldTr0, ldTr1, ldTr2, ldTr, memTr, nlocTr, go_sem, Nat.reduceBEq, Nat.reduceBNe, reduceIte, reduceCtorEq, Nat.reduceLeDiff, Nat.reduceAdd, Nat.reduceEqDiff]
      apply h1
      simp -implicitDefEqProofs (maxSteps := 5000000) (disch := omega) only [s45_1, ldD3, ldD4, ldD5, ldD6, ldD7, udD3, udD4, udD5, udD6, udD7, ldD12, udD12, udD13, ldD, udDa, udD0, okvD, memD, nlD, nlocD, cells_arr0, okv_arr0, ldTr0, ldTr1, ldTr2, ldTr, memTr, nlocTr, go_sem, Nat.reduceBEq, Nat.reduceBNe, reduceIte, reduceCtorEq, Nat.reduceLeDiff, Nat.reduceAdd, Nat.reduceEqDiff]
      simpa [needS, h0] using hQ
  · simp -implicitDefEqProofs (maxSteps := 5000000) (disch := omega) only [s45_0, h0, ldD3, ldD4, ldD5, ldD6, ldD7, udD3, udD4, udD5, udD6, udD7, ldD12, udD12, udD13, ldD, udDa, udD0, okvD, memD, nlD, nlocD, cells_arr0, okv_arr0, ldTr0, ldTr1, ldTr2, ldTr, memTr, nlocTr, go_sem, Nat.reduceBEq, Nat.reduceBNe, reduceIte, reduceCtorEq, Nat.reduceLeDiff, Nat.reduceAdd, Nat.reduceEqDiff]
    apply h1
    simp -implicitDefEqProofs (maxSteps := 5000000) (disch := omega) only [s45_1, ldD3, ldD4, ldD5, ldD6, ldD7, udD3, udD4, udD5, udD6, udD7, ldD12, udD12, udD13, ldD, udDa, udD0, okvD, memD, nlD, nlocD, cells_arr0, okv_arr0, ldTr0, ldTr1, ldTr2, ldTr, memTr, nlocTr, go_sem, Nat.reduceBEq, Nat.reduceBNe, reduceIte, reduceCtorEq, Nat.reduceLeDiff, Nat.reduceAdd, Nat.reduceEqDiff]
    simpa [needS, h0] using hQ
end
theorem app_arr {hp : List AO} {id n : Nat} {cs : List AV} {t : Tok} {v : AV} (hl : cs.length = n) (hc : 0 < n → hcells hp id = some cs) (hv : v.cells = [v]) (hb : n < 4000000000) :
    ∃ hp', apx true 1 hp (arr0 id n) (.sl t 1 [v]) = some (arr0 hp.length (n + 1), hp') ∧ hcells hp' hp.length = some (cs ++ [v]) ∧ hp'.length = hp.length + 1 ∧ ∀ j ds, hcells hp j = some ds → (0 < n → j ≠ id) → hcells hp' j = some ds := by
  have hlt : ∀ j ds, hcells hp j = some ds → j < hp.length := fun j ds h => by
    unfold hcells at h
    cases hg : hp[j]? with
    | none => rw [hg] at h; cases h
    | some o => exact (List.getElem?_eq_some_iff.1 hg).1
  cases n with
  | zero =>
    have : cs = [] := List.length_eq_zero_iff.1 hl
    subst this
    refine ⟨hp ++ [.cells [v]], ?_, by simp [hcells], by simp, fun j ds h _ => ?_⟩
    · simp [arr0, apx, hv]
    · unfold hcells at h ⊢
      rw [List.getElem?_append_left (hlt j ds h)]; exact h
  | succ n =>
    have h1 := hc (by omega)
    refine ⟨hp.set id .dead ++ [.cells (cs ++ [v])], ?_, by simp [hcells], by simp, fun j ds h hj => ?_⟩
    · have e1 : arr0 id (n + 1) = .arr id 1 0 (n + 1) := by simp [arr0]
      have e2 : arr0 hp.length (n + 1 + 1) = .arr hp.length 1 0 (n + 1 + 1) := by simp [arr0]
      rw [e1, e2]
      simp only [apx, h1, List.length_cons, List.length_nil]
      rw [if_pos ⟨trivial, trivial, trivial, trivial, by rw [hl, Nat.mul_one], by omega⟩]
      simp [hv]
    · unfold hcells at h ⊢
      rw [List.getElem?_append_left (by simpa using hlt j ds h), List.getElem?_set_ne (fun e => hj (by omega) e.symm)]; exact h
theorem ixa_map0 {α : Type} {f : α → AV} {xs : List α} {t : Tok} {e : Nat} {k : IntKind} : ixaV e (.sl t e (xs.map f)) (.int k 0) = (xs[0]?).map fun x => .el (f x).cells 0 := ixa_map (i := 0)
theorem szL_post : ∀ (F : List ST), szL F = (postL F).length := by
  have key : ∀ n, (∀ t : ST, t.sz ≤ n → t.sz = t.post.length) ∧ ∀ F : List ST, szL F ≤ n → szL F = (postL F).length := by
    intro n
    induction n with
    | zero =>
      refine ⟨fun t h => ?_, fun F h => ?_⟩
      · obtain ⟨i, th, el⟩ := t; simp only [ST.sz] at h; omega
      · cases F with
        | nil => rfl
        | cons t F => obtain ⟨i, th, el⟩ := t; simp only [szL, ST.sz] at h; omega
    | succ n ih =>
      have st : ∀ t : ST, t.sz ≤ n + 1 → t.sz = t.post.length := fun t h => by
        obtain ⟨i, th, el⟩ := t
        simp only [ST.sz] at h
        simp only [ST.sz, ST.post, List.length_append, List.length_cons, List.length_nil, ← ih.2 th (by omega), ← ih.2 el (by omega)]
        omega
      refine ⟨st, fun F h => ?_⟩
      induction F with
      | nil => rfl
      | cons t F ihF =>
        simp only [szL] at h
        simp only [szL, postL, List.length_append, ← st t (by omega), ← ihF (by omega)]
  exact fun F => (key _).2 F (Nat.le_refl _)
theorem Prog.sz {q : PT} {FF : List (List ST)} (P : Prog q FF) : ∀ F ∈ FF, szL F ≤ q.sm.length := fun F hF => by
  have h := congrArg List.length P.cov
  rw [List.length_range] at h
  rw [szL_post, ← h]
  have key : ∀ G : List (List ST), F ∈ G → (postL F).length ≤ (G.flatMap postL).length := by
    intro G
    induction G with
    | nil => intro h; simp at h
    | cons A G ih =>
      intro h
      rw [List.flatMap_cons, List.length_append]
      rcases List.mem_cons.1 h with rfl | h
      · omega
      · have := ih h; omega
  exact key FF hF
theorem Prog.fnF {q : PT} {FF : List (List ST)} (P : Prog q FF) {v : Nat} {fn : Fn} (h : q.fn[v]? = some fn) : ∃ F, FF[v]? = some F ∧ fn.body = F.map ST.root := by
  have e := congrArg (·[v]?) P.body
  simp only [List.getElem?_map, h, Option.map_some] at e
  cases hF : FF[v]? with
  | none => rw [hF] at e; cases e
  | some F => rw [hF] at e; exact ⟨F, rfl, Option.some.inj e⟩
theorem bldI : bld [.sl .cap0 1 [], .sl .cap0 1 [], .sl .cap0 1 [], .sl .cap0 1 [], .sl .cap0 1 []] [] = some (.agg [.sl .cap0 1 [], .sl .cap0 1 [], .sl .cap0 1 [], .sl .cap0 1 [], .sl .cap0 1 []]) := rfl
theorem hcells_lt {hp : List AO} {j : Nat} {ds : List AV} (h : hcells hp j = some ds) : j < hp.length := by
  unfold hcells at h
  cases hg : hp[j]? with
  | none => rw [hg] at h; cases h
  | some o => exact (List.getElem?_eq_some_iff.1 hg).1
set_option maxHeartbeats 4000000 in
theorem check_j12 {q : PT} {FF : List (List ST)} (P : Prog q FF) (hsz : q.ex.length < 1000000) (hss : q.sm.length ≤ 1000) (hsf : q.fn.length < 1000000) {Q : ARes → List AO → Prop} {J12 : List AV → List AV → List AO → Prop} (h12 : ∀ b2 b5 hp, s32_12 CC Q b2 b5 hp → J12 b2 b5 hp)
    (hQ : ∀ hp' i1 i2 i3 i4 i5 a c, (c = 0 → ∀ F ∈ FF, jokL q.sm false F) → Q (.ret (.tup [(.agg [i1, i2, i3, i4, i5]), eN a, eN c])) hp') : ∀ {s : CS} {hp : List AO}, (s.code = 0 → ∀ F ∈ FF, jokL q.sm false F) → J12 [.sl .cap0 1 [], .sl .cap0 1 [], .sl .cap0 1 [], .sl .cap0 1 [], .sl .cap0 1 []] (AV.cells (eC q s)) hp := fun {s hp} hj => by
    apply h12
    by_cases c0 : s.code = 0
    · simp -implicitDefEqProofs (maxSteps := 5000000) (disch := omega) only [s32_12, c0, okv_agg, List.length_cons, List.length_nil, go_sem, Nat.reduceBEq, Nat.reduceBNe, reduceIte, reduceCtorEq, Nat.reduceLeDiff, Nat.reduceAdd, Nat.reduceEqDiff]
      exact hQ _ _ _ _ _ _ 0 0 fun _ => hj c0
    · simp -implicitDefEqProofs (maxSteps := 5000000) (disch := omega) only [s32_12, c0, bldI, okv_agg, List.length_cons, List.length_nil, go_sem, Nat.reduceBEq, Nat.reduceBNe, reduceIte, reduceCtorEq, Nat.reduceLeDiff, Nat.reduceAdd, Nat.reduceEqDiff]
      exact hQ _ _ _ _ _ _ _ _ fun e => absurd e c0
set_option maxHeartbeats 4000000 in
theorem check_j6 {q : PT} {FF : List (List ST)} (P : Prog q FF) (hsz : q.ex.length < 1000000) (hss : q.sm.length ≤ 1000) (hsf : q.fn.length < 1000000) {Q : ARes → List AO → Prop} {J6 : AV → AV → List AV → List AV → List AV → List AO → Prop} {J7 : AV → AV → AV → AV → AV → List AV → List AV → List AV → List AO → Prop} {J8 : AV → AV → AV → AV → AV → List AV → List AV → List AV → List AO → Prop} {J9 : AV → AV → AV → AV → AV → List AV → List AV → List AV → List AO → Prop} {J10 : AV → AV → AV → List AV → List AV → List AV → List AO → Prop} {J11 : AV → AV → List AV → List AV → List AV → List AO → Prop} {J12 : List AV → List AV → List AO → Prop} (h6 : ∀ v127 v128 b1 b2 b5 hp, s32_6 CC Q J7 J12 v127 v128 b1 b2 b5 hp → J6 v127 v128 b1 b2 b5 hp) (h7 : ∀ v8 v127 v128 v141 v142 b1 b2 b5 hp, s32_7 CC Q J8 J10 v8 v127 v128 v141 v142 b1 b2 b5 hp → J7 v8 v127 v128 v141 v142 b1 b2 b5 hp) (h8 : ∀ v8 v127 v128 v141 v142 b1 b2 b5 hp, s32_8 CC Q J7 v8 v127 v128 v141 v142 b1 b2 b5 hp → J8 v8 v127 v128 v141 v142 b1 b2 b5 hp) (h9 : ∀ v8 v127 v128 v176 v177 b1 b2 b5 hp, s32_9 CC Q J9 J11 v8 v127 v128 v176 v177 b1 b2 b5 hp → J9 v8 v127 v128 v176 v177 b1 b2 b5 hp) (h10 : ∀ v8 v127 v128 b1 b2 b5 hp, s32_10 CC Q J9 v8 v127 v128 b1 b2 b5 hp → J10 v8 v127 v128 b1 b2 b5 hp) (h11 : ∀ v127 v128 b1 b2 b5 hp, s32_11 CC Q J6 v127 v128 b1 b2 b5 hp → J11 v127 v128 b1 b2 b5 hp) (j12 : ∀ {s : CS} {hp : List AO}, (s.code = 0 → ∀ F ∈ FF, jokL q.sm false F) → J12 [.sl .cap0 1 [], .sl .cap0 1 [], .sl .cap0 1 [], .sl .cap0 1 [], .sl .cap0 1 []] (AV.cells (eC q s)) hp) : ∀ (k v : Nat) (s : CS) (hp : List AO), q.fn.length - v = k → (v < q.fn.length → HC q hp { s with f := v, nt := .cap0, nm := [] } 0) → Ds s → s.lp = 0 → (s.code = 0 → ∀ F ∈ FF.take v, jokL q.sm false F) → J6 (eN q.fn.length) (eN v) (AV.cells (eTr q)) [.sl .cap0 1 [], .sl .cap0 1 [], .sl .cap0 1 [], .sl .cap0 1 [], .sl .cap0 1 []] (AV.cells (eC q s)) hp := by
    intro k
    induction k with
    | zero =>
      intro v s hp hk hc hd hlp hj
      apply h6
      have hnl : ¬ v < q.fn.length := by omega
      simp -implicitDefEqProofs (maxSteps := 5000000) (disch := omega) only [s32_6, hnl, go_sem, Nat.reduceBEq, Nat.reduceBNe, reduceIte, reduceCtorEq, Nat.reduceLeDiff, Nat.reduceAdd, Nat.reduceEqDiff]
      refine j12 fun e F hF => hj e F ?_
      have hl : FF.length = q.fn.length := by have := congrArg List.length P.body; simpa using this.symm
      rw [List.take_of_length_le (by omega)]; exact hF
    | succ k ih =>
      intro v s hp hk hc hd hlp hj
      have hv : v < q.fn.length := by omega
      obtain ⟨fn, hfn⟩ : ∃ fn, q.fn[v]? = some fn := ⟨_, List.getElem?_eq_getElem hv⟩
      obtain ⟨F, hF, hb⟩ := P.fnF hfn
      have hmF : F ∈ FF := List.mem_of_getElem? hF
      have hFl := len_sz F
      have hFs := P.sz F hmF
      have hpl := P.pl fn (List.mem_of_getElem? hfn)
      -- behind the body
      have j11 : ∀ (s' : CS) L' hp', HC q hp' s' L' → s'.f = v → Ds s' → s'.lp = 0 → (s'.code = 0 → s.code = 0) → (s'.code = 0 → jokL q.sm false F) → J11 (eN q.fn.length) (eN v) (AV.cells (eTr q)) [.sl .cap0 1 [], .sl .cap0 1 [], .sl .cap0 1 [], .sl .cap0 1 [], .sl .cap0 1 []] (AV.cells (eC q s')) hp' := fun s' L' hp' hc' hf' hd' hlp' hcode hjF => by
        apply h11
        simp -implicitDefEqProofs (maxSteps := 5000000) (disch := omega) only [s32_11, go_sem, Nat.reduceBEq, Nat.reduceBNe, reduceIte, reduceCtorEq, Nat.reduceLeDiff, Nat.reduceAdd, Nat.reduceEqDiff]
        refine ih (v + 1) s' hp' (by omega) (fun hv1 => ?_) hd' hlp' fun e G hG => ?_
        · obtain ⟨cl, e1, e2, e3, e4⟩ := hc'.so
          refine ⟨hc'.ty, hc'.sl, hc'.pu, hc'.fu, ⟨cl, e1, e2, ?_, fun j hj c hcj => e4 j (by show s'.f < j; have : v + 1 < j := hj; omega) c hcj⟩, hc'.d1, hc'.d2, hc'.d3, hc'.d4, fun n hn => by simp at hn, Nat.le_refl _, by omega⟩
          have hx : cl[v + 1]? = some cl[v + 1] := List.getElem?_eq_getElem (by omega)
          have := e4 (v + 1) (by omega) _ hx
          exact ⟨cl[v + 1], hx, by rw [this]; rfl, by rw [this]; exact .inl ⟨rfl, rfl⟩⟩
        · have hlF : v < FF.length := (List.getElem?_eq_some_iff.1 hF).1
          rw [List.take_succ_eq_append_getElem hlF] at hG
          rcases List.mem_append.1 hG with hG | hG
          · exact hj (hcode e) G hG
          · rw [List.mem_singleton.1 hG]
            have e5 := List.getElem?_eq_getElem hlF
            rw [hF] at e5
            rw [← Option.some.inj e5]; exact hjF e
      -- the body
      have j9 : ∀ (k m : Nat) (s' : CS) L' hp', F.length - m = k → HC q hp' s' L' → s'.f = v → Ds s' → s'.lp = 0 → (s'.code = 0 → s.code = 0) → (s'.code = 0 → ∀ t ∈ F.take m, t.jok q.sm false) → J9 (eN v) (eN q.fn.length) (eN v) (eN fn.body.length) (eN m) (AV.cells (eTr q)) [.sl .cap0 1 [], .sl .cap0 1 [], .sl .cap0 1 [], .sl .cap0 1 [], .sl .cap0 1 []] (AV.cells (eC q s')) hp' := by
        intro k
        induction k with
        | zero =>
          intro m s' L' hp' hk hc' hf' hd' hlp' hcode hjt
          apply h9
          have hnl : ¬ m < fn.body.length := by rw [hb, List.length_map]; omega
          simp -implicitDefEqProofs (maxSteps := 5000000) (disch := omega) only [s32_9, hnl, go_sem, Nat.reduceBEq, Nat.reduceBNe, reduceIte, reduceCtorEq, Nat.reduceLeDiff, Nat.reduceAdd, Nat.reduceEqDiff]
          refine j11 s' L' hp' hc' hf' hd' hlp' hcode fun e => jokL_iff.2 fun t ht => hjt e t ?_
          rw [List.take_of_length_le (by omega)]; exact ht
        | succ k ih2 =>
          intro m s' L' hp' hk hc' hf' hd' hlp' hcode hjt
          have hm : m < F.length := by omega
          have hm' : m < fn.body.length := by rw [hb, List.length_map]; exact hm
          have hxm : fn.body[m]? = some (F[m].root) := by rw [hb, List.getElem?_map, List.getElem?_eq_getElem hm]; rfl
          have hmem : F[m] ∈ F := List.getElem_mem hm
          have hsz2 := sz_mem hmem
          apply h9
          simp -implicitDefEqProofs (maxSteps := 5000000) (disch := omega) only [s32_9, hm', ldD3, ldD4, ldD5, ldD6, ldD7, udD3, udD4, udD5, udD6, udD7, ldD12, udD12, udD13, ldD, udDa, udD0, okvD, memD, nlD, nlocD, cells_arr0, okv_arr0, ldTr0, ldTr1, ldTr2, ldTr, memTr, nlocTr, hfn, ldF5, hxm, go_sem, Nat.reduceBEq, Nat.reduceBNe, reduceIte, reduceCtorEq, Nat.reduceLeDiff, Nat.reduceAdd, Nat.reduceEqDiff]
          refine (spT P.wf hsz hsf _).stmt (Nat.le_refl _) (repL_iff.1 (P.rep F hmF) _ hmem) hc' hd' (by rw [hf']; exact hv) (by rw [hlp']; omega) fun s2 L2 hp2 x2 hc2 hj2 => ?_
          simp -implicitDefEqProofs (maxSteps := 5000000) (disch := omega) only [go_sem, Nat.reduceBEq, Nat.reduceBNe, reduceIte, reduceCtorEq, Nat.reduceLeDiff, Nat.reduceAdd, Nat.reduceEqDiff]
          refine ih2 (m + 1) s2 L2 hp2 (by omega) hc2 (by rw [x2.f]; exact hf') (x2.ds hd') (by rw [x2.lp]; exact hlp') (fun e => hcode (x2.er e)) fun e t ht => ?_
          rw [List.take_succ_eq_append_getElem hm] at ht
          rcases List.mem_append.1 ht with ht | ht
          · exact hjt (x2.er e) t ht
          · rw [List.mem_singleton.1 ht]
            have := hj2 e
            rw [hlp'] at this
            exact this
      have j10 : ∀ (s' : CS) L' hp', HC q hp' s' L' → s'.f = v → Ds s' → s'.lp = 0 → (s'.code = 0 → s.code = 0) → J10 (eN v) (eN q.fn.length) (eN v) (AV.cells (eTr q)) [.sl .cap0 1 [], .sl .cap0 1 [], .sl .cap0 1 [], .sl .cap0 1 [], .sl .cap0 1 []] (AV.cells (eC q s')) hp' := fun s' L' hp' hc' hf' hd' hlp' hcode => by
        apply h10
        simp -implicitDefEqProofs (maxSteps := 5000000) (disch := omega) only [s32_10, ldD3, ldD4, ldD5, ldD6, ldD7, udD3, udD4, udD5, udD6, udD7, ldD12, udD12, udD13, ldD, udDa, udD0, okvD, memD, nlD, nlocD, cells_arr0, okv_arr0, ldTr0, ldTr1, ldTr2, ldTr, memTr, nlocTr, hfn, ldF5, go_sem, Nat.reduceBEq, Nat.reduceBNe, reduceIte, reduceCtorEq, Nat.reduceLeDiff, Nat.reduceAdd, Nat.reduceEqDiff]
        exact j9 _ 0 s' L' hp' rfl hc' hf' hd' hlp' hcode fun _ t ht => by simp at ht
      -- the parameters
      have j7 : ∀ (k m : Nat) (s' : CS) L' hp', fn.params.length - m = k → HC q hp' s' L' → s'.f = v → Ds s' → s'.lp = 0 → (s'.code = 0 → s.code = 0) → J7 (eN v) (eN q.fn.length) (eN v) (eN fn.params.length) (eN m) (AV.cells (eTr q)) [.sl .cap0 1 [], .sl .cap0 1 [], .sl .cap0 1 [], .sl .cap0 1 [], .sl .cap0 1 []] (AV.cells (eC q s')) hp' := by
        intro k
        induction k with
        | zero =>
          intro m s' L' hp' hk hc' hf' hd' hlp' hcode
          apply h7
          have hnl : ¬ m < fn.params.length := by omega
          simp -implicitDefEqProofs (maxSteps := 5000000) (disch := omega) only [s32_7, hnl, go_sem, Nat.reduceBEq, Nat.reduceBNe, reduceIte, reduceCtorEq, Nat.reduceLeDiff, Nat.reduceAdd, Nat.reduceEqDiff]
          exact j10 s' L' hp' hc' hf' hd' hlp' hcode
        | succ k ih2 =>
          intro m s' L' hp' hk hc' hf' hd' hlp' hcode
          have hm : m < fn.params.length := by omega
          have hxm : fn.params[m]? = some fn.params[m] := List.getElem?_eq_getElem hm
          apply h7
          by_cases c0 : s'.code = 0
          · simp -implicitDefEqProofs (maxSteps := 5000000) (disch := omega) only [s32_7, hm, c0, ldD3, ldD4, ldD5, ldD6, ldD7, udD3, udD4, udD5, udD6, udD7, ldD12, udD12, udD13, ldD, udDa, udD0, okvD, memD, nlD, nlocD, cells_arr0, okv_arr0, ldTr0, ldTr1, ldTr2, ldTr, memTr, nlocTr, hfn, ldF3, ldF1, hxm, go_sem, Nat.reduceBEq, Nat.reduceBNe, reduceIte, reduceCtorEq, Nat.reduceLeDiff, Nat.reduceAdd, Nat.reduceEqDiff]
            refine declare_ok hc' fun r s2 L2 hp2 x2 hc2 => ?_
            simp -implicitDefEqProofs (maxSteps := 5000000) (disch := omega) only [go_sem, Nat.reduceBEq, Nat.reduceBNe, reduceIte, reduceCtorEq, Nat.reduceLeDiff, Nat.reduceAdd, Nat.reduceEqDiff]
            apply h8
            simp -implicitDefEqProofs (maxSteps := 5000000) (disch := omega) only [s32_8, go_sem, Nat.reduceBEq, Nat.reduceBNe, reduceIte, reduceCtorEq, Nat.reduceLeDiff, Nat.reduceAdd, Nat.reduceEqDiff]
            exact ih2 (m + 1) s2 L2 hp2 (by omega) hc2 (by rw [x2.f]; exact hf') (x2.ds hd') (by rw [x2.lp]; exact hlp') fun e => hcode (x2.er e)
          · simp -implicitDefEqProofs (maxSteps := 5000000) (disch := omega) only [s32_7, hm, c0, go_sem, Nat.reduceBEq, Nat.reduceBNe, reduceIte, reduceCtorEq, Nat.reduceLeDiff, Nat.reduceAdd, Nat.reduceEqDiff]
            apply h8
            simp -implicitDefEqProofs (maxSteps := 5000000) (disch := omega) only [s32_8, go_sem, Nat.reduceBEq, Nat.reduceBNe, reduceIte, reduceCtorEq, Nat.reduceLeDiff, Nat.reduceAdd, Nat.reduceEqDiff]
            exact ih2 (m + 1) s' L' hp' (by omega) hc' hf' hd' hlp' hcode
      apply h6
      simp -implicitDefEqProofs (maxSteps := 5000000) (disch := omega) only [s32_6, hv, ldD3, ldD4, ldD5, ldD6, ldD7, udD3, udD4, udD5, udD6, udD7, ldD12, udD12, udD13, ldD, udDa, udD0, okvD, memD, nlD, nlocD, cells_arr0, okv_arr0, ldTr0, ldTr1, ldTr2, ldTr, memTr, nlocTr, hfn, ldF3, go_sem, Nat.reduceBEq, Nat.reduceBNe, reduceIte, reduceCtorEq, Nat.reduceLeDiff, Nat.reduceAdd, Nat.reduceEqDiff]
      exact j7 _ 0 { s with f := v, nt := .cap0, nm := [], bk := 0 } 0 hp rfl ((hc hv).re ⟨rfl, rfl, rfl, rfl, rfl⟩ rfl (fun n hn => by simp at hn) (Nat.le_refl _)) rfl hd hlp id
end Go.Proofs.Ytnldohnfdeineaa.Abs
/- The document's checker: the whole, built up. -/
namespace Go.Proofs.Ytnldohnfdeineaa.Abs
open Go
set_option maxRecDepth 100000

def D1 (q : PT) (s : CS) (v : Nat) : Prop := 0 < v → (0 < q.ex.length → s.so ≠ s.ty ∧ s.so ≠ s.sl) ∧ (0 < q.sm.length → s.so ≠ s.pu ∧ s.so ≠ s.fu)
def D2 (q : PT) (s : CS) (v : Nat) : Prop := 0 < q.ex.length → 0 < v → Ds s
def D3 (a b v : Nat) : Prop := 0 < v → a ≠ b
set_option maxHeartbeats 4000000 in
theorem check_j13 {q : PT} {FF : List (List ST)} (P : Prog q FF) (hsz : q.ex.length < 1000000) (hss : q.sm.length ≤ 1000) (hsf : q.fn.length < 1000000) {Q : ARes → List AO → Prop} {J6 : AV → AV → List AV → List AV → List AV → List AO → Prop} {J13 : List AV → List AV → List AV → List AO → Prop} (h13 : ∀ b1 b2 b5 hp, s32_13 CC Q J6 b1 b2 b5 hp → J13 b1 b2 b5 hp) (j6 : ∀ (k v : Nat) (s : CS) (hp : List AO), q.fn.length - v = k → (v < q.fn.length → HC q hp { s with f := v, nt := .cap0, nm := [] } 0) → Ds s → s.lp = 0 → (s.code = 0 → ∀ F ∈ FF.take v, jokL q.sm false F) → J6 (eN q.fn.length) (eN v) (AV.cells (eTr q)) [.sl .cap0 1 [], .sl .cap0 1 [], .sl .cap0 1 [], .sl .cap0 1 [], .sl .cap0 1 []] (AV.cells (eC q s)) hp) : ∀ (s : CS) (hp : List AO), HC q hp { s with f := 0, nt := .cap0, nm := [] } 0 → Ds s → s.lp = 0 → J13 (AV.cells (eTr q)) [.sl .cap0 1 [], .sl .cap0 1 [], .sl .cap0 1 [], .sl .cap0 1 [], .sl .cap0 1 []] (AV.cells (eC q s)) hp := fun s hp hc hd hlp => by
    have hne : 0 < q.fn.length := List.length_pos_iff.2 P.ne
    obtain ⟨fn, hfn⟩ : ∃ fn, q.fn[0]? = some fn := ⟨_, List.getElem?_eq_getElem hne⟩
    apply h13
    simp -implicitDefEqProofs (maxSteps := 5000000) (disch := omega) only [s32_13, ldD3, ldD4, ldD5, ldD6, ldD7, udD3, udD4, udD5, udD6, udD7, ldD12, udD12, udD13, ldD, udDa, udD0, okvD, memD, nlD, nlocD, cells_arr0, okv_arr0, ldTr0, ldTr1, ldTr2, ldTr, memTr, nlocTr, ixa_map0, hfn, ldF0, go_sem, Nat.reduceBEq, Nat.reduceBNe, reduceIte, reduceCtorEq, Nat.reduceLeDiff, Nat.reduceAdd, Nat.reduceEqDiff]
    refine need_ok (a := 0) (c := 17) ?_
    have x1 : NxE s 0 (needS s (decide (fn.name = [109, 97, 105, 110])) 0 17) 0 := needS_nx (by omega)
    have fin : ∀ s1 : CS, NxE s 0 s1 0 → ∀ ok : Bool, J6 (eN q.fn.length) (.int .i64 0) (AV.cells (eTr q)) [.sl .cap0 1 [], .sl .cap0 1 [], .sl .cap0 1 [], .sl .cap0 1 [], .sl .cap0 1 []] (AV.cells (eC q (needS s1 ok fn.f 8))) hp := fun s1 x1 ok => by
      have x2 := x1.trans (needS_nx (s := s1) (L := 0) (ok := ok) (a := fn.f) (c := 8) (by omega))
      have hc2 := hc.re (s' := { (needS s1 ok fn.f 8) with f := 0, nt := .cap0, nm := [] }) x2.nx.ids rfl (fun n hn => by simp at hn) (Nat.le_refl _)
      exact j6 _ 0 _ hp rfl (fun _ => hc2) (x2.nx.ds hd) (by rw [x2.nx.lp]; exact hlp) fun _ F hF => by simp at hF
    generalize needS s (decide (fn.name = [109, 97, 105, 110])) 0 17 = s1 at x1
    by_cases p1 : fn.params.length = 0
    · simp -implicitDefEqProofs (maxSteps := 5000000) (disch := omega) only [ldD3, ldD4, ldD5, ldD6, ldD7, udD3, udD4, udD5, udD6, udD7, ldD12, udD12, udD13, ldD, udDa, udD0, okvD, memD, nlD, nlocD, cells_arr0, okv_arr0, ldTr0, ldTr1, ldTr2, ldTr, memTr, nlocTr, ixa_map0, hfn, ldF3, ldF1, ldF4, p1, lsV_some, fnd_cons, go_sem, Nat.reduceBEq, Nat.reduceBNe, reduceIte, reduceCtorEq, Nat.reduceLeDiff, Nat.reduceAdd, Nat.reduceEqDiff]
      refine need_ok (c := 8) ?_
      simp -implicitDefEqProofs (maxSteps := 5000000) (disch := omega) only [ldD3, ldD4, ldD5, ldD6, ldD7, udD3, udD4, udD5, udD6, udD7, ldD12, udD12, udD13, ldD, udDa, udD0, okvD, memD, nlD, nlocD, cells_arr0, okv_arr0, ldTr0, ldTr1, ldTr2, ldTr, memTr, nlocTr, go_sem, Nat.reduceBEq, Nat.reduceBNe, reduceIte, reduceCtorEq, Nat.reduceLeDiff, Nat.reduceAdd, Nat.reduceEqDiff]
      exact fin s1 x1 _
    · simp -implicitDefEqProofs (maxSteps := 5000000) (disch := omega) only [ldD3, ldD4, ldD5, ldD6, ldD7, udD3, udD4, udD5, udD6, udD7, ldD12, udD12, udD13, ldD, udDa, udD0, okvD, memD, nlD, nlocD, cells_arr0, okv_arr0, ldTr0, ldTr1, ldTr2, ldTr, memTr, nlocTr, ixa_map0, hfn, ldF3, ldF1, ldF4, p1, lsV_some, fnd_cons, go_sem, Nat.reduceBEq, Nat.reduceBNe, reduceIte, reduceCtorEq, Nat.reduceLeDiff, Nat.reduceAdd, Nat.reduceEqDiff]
      refine need_ok (c := 8) ?_
      simp -implicitDefEqProofs (maxSteps := 5000000) (disch := omega) only [ldD3, ldD4, ldD5, ldD6, ldD7, udD3, udD4, udD5, udD6, udD7, ldD12, udD12, udD13, ldD, udDa, udD0, okvD, memD, nlD, nlocD, cells_arr0, okv_arr0, ldTr0, ldTr1, ldTr2, ldTr, memTr, nlocTr, go_sem, Nat.reduceBEq, Nat.reduceBNe, reduceIte, reduceCtorEq, Nat.reduceLeDiff, Nat.reduceAdd, Nat.reduceEqDiff]
      exact fin s1 x1 _
set_option maxHeartbeats 4000000 in
theorem check_j3 {q : PT} {FF : List (List ST)} (P : Prog q FF) (hsz : q.ex.length < 1000000) (hss : q.sm.length ≤ 1000) (hsf : q.fn.length < 1000000) {Q : ARes → List AO → Prop} {J3 : AV → AV → List AV → List AV → List AV → List AO → Prop} {J4 : AV → AV → AV → AV → List AV → List AV → List AV → List AO → Prop} {J5 : AV → AV → List AV → List AV → List AV → List AO → Prop} {J13 : List AV → List AV → List AV → List AO → Prop} (h3 : ∀ v55 v56 b1 b2 b5 hp, s32_3 CC Q J4 J13 v55 v56 b1 b2 b5 hp → J3 v55 v56 b1 b2 b5 hp) (h4 : ∀ v6 v7 v55 v56 b1 b2 b5 hp, s32_4 CC Q J4 J5 v6 v7 v55 v56 b1 b2 b5 hp → J4 v6 v7 v55 v56 b1 b2 b5 hp) (h5 : ∀ v55 v56 b1 b2 b5 hp, s32_5 CC Q J3 v55 v56 b1 b2 b5 hp → J5 v55 v56 b1 b2 b5 hp) (j13 : ∀ (s : CS) (hp : List AO), HC q hp { s with f := 0, nt := .cap0, nm := [] } 0 → Ds s → s.lp = 0 → J13 (AV.cells (eTr q)) [.sl .cap0 1 [], .sl .cap0 1 [], .sl .cap0 1 [], .sl .cap0 1 [], .sl .cap0 1 []] (AV.cells (eC q s)) hp) : ∀ (k v : Nat) (s : CS) (hp : List AO), q.fn.length - v = k → v ≤ q.fn.length → Ints hp s.ty q.ex.length → Ints hp s.sl q.ex.length → Ints hp s.pu q.sm.length → Ints hp s.fu q.sm.length →
      (0 < v → hcells hp s.so = some (List.replicate v (.sl .cap0 1 []))) → D1 q s v → D2 q s q.sm.length → s.lp = 0 →
      J3 (eN q.fn.length) (eN v) (AV.cells (eTr q)) [.sl .cap0 1 [], .sl .cap0 1 [], .sl .cap0 1 [], .sl .cap0 1 [], .sl .cap0 1 []] (AV.cells (eD q q.ex.length q.ex.length q.sm.length q.sm.length v s)) hp := by
    have hlt : ∀ {hp : List AO} {j ds}, hcells hp j = some ds → j < hp.length := fun {hp j ds} h => hcells_lt h
    intro k
    induction k with
    | zero =>
      intro v s hp hk hv ity isl ipu ifu hso hd1 hds hlp
      have hv' : v = q.fn.length := by omega
      subst hv'
      have hne : 0 < q.fn.length := List.length_pos_iff.2 P.ne
      have hso' := hso hne
      have hsol := hlt hso'
      obtain ⟨d1, d2⟩ := hd1 hne
      apply h3
      simp -implicitDefEqProofs (maxSteps := 5000000) (disch := omega) only [s32_3, Nat.lt_irrefl, go_sem, Nat.reduceBEq, Nat.reduceBNe, reduceIte, reduceCtorEq, Nat.reduceLeDiff, Nat.reduceAdd, Nat.reduceEqDiff]
      -- numbers for what there is none of
      have hid : ∀ {id n}, Ints hp id n → 0 < n → id < hp.length := fun {id n} hi h0 => by
        obtain ⟨l, _, h⟩ := hi h0
        exact hlt h
      have hex : ∃ s' : CS, eD q q.ex.length q.ex.length q.sm.length q.sm.length q.fn.length s = eC q s' ∧ s'.so = s.so ∧ Ints hp s'.ty q.ex.length ∧ Ints hp s'.sl q.ex.length ∧ Ints hp s'.pu q.sm.length ∧ Ints hp s'.fu q.sm.length ∧ s'.so ≠ s'.ty ∧ s'.so ≠ s'.sl ∧ s'.so ≠ s'.pu ∧ s'.so ≠ s'.fu ∧ Ds s' ∧ s'.lp = 0 := by
        rcases Nat.eq_zero_or_pos q.ex.length with e0 | e0 <;> rcases Nat.eq_zero_or_pos q.sm.length with m0 | m0
        · refine ⟨{ s with ty := hp.length + 1, sl := hp.length + 1, pu := hp.length + 2, fu := hp.length + 2 }, ?_, rfl, fun h => absurd h (by omega), fun h => absurd h (by omega), fun h => absurd h (by omega), fun h => absurd h (by omega), ?_, ?_, ?_, ?_, ⟨?_, ?_, ?_, ?_⟩, hlp⟩
          · simp only [eD, eC, e0, m0, arr0, if_true]
          all_goals (simp only []; omega)
        · have a1 := hid ipu m0
          have a2 := hid ifu m0
          refine ⟨{ s with ty := hp.length + 1, sl := hp.length + 1 }, ?_, rfl, fun h => absurd h (by omega), fun h => absurd h (by omega), ipu, ifu, ?_, ?_, (d2 m0).1, (d2 m0).2, ⟨?_, ?_, ?_, ?_⟩, hlp⟩
          · simp only [eD, eC, e0, arr0, if_true]
          all_goals (simp only []; omega)
        · have a1 := hid ity e0
          have a2 := hid isl e0
          refine ⟨{ s with pu := hp.length + 1, fu := hp.length + 1 }, ?_, rfl, ity, isl, fun h => absurd h (by omega), fun h => absurd h (by omega), (d1 e0).1, (d1 e0).2, ?_, ?_, ⟨?_, ?_, ?_, ?_⟩, hlp⟩
          · simp only [eD, eC, m0, arr0, if_true]
          all_goals (simp only []; omega)
        · exact ⟨s, rfl, rfl, ity, isl, ipu, ifu, (d1 e0).1, (d1 e0).2, (d2 m0).1, (d2 m0).2, hds e0 m0, hlp⟩
      obtain ⟨s', e1, e2, i1, i2, i3, i4, g1, g2, g3, g4, g5, g6⟩ := hex
      rw [e1]
      refine j13 s' hp ⟨i1, i2, i3, i4, ⟨List.replicate q.fn.length (.cap0, []), by simp, by rw [List.map_replicate]; show hcells hp s'.so = _; rw [e2]; exact hso', ⟨(.cap0, []), by rw [List.getElem?_replicate]; rw [if_pos hne], rfl, .inl ⟨rfl, rfl⟩⟩, fun j hj c hc => ?_⟩, g1, g2, g3, g4, fun n hn => by simp at hn, Nat.le_refl _, by omega⟩ g5 g6
      rw [List.getElem?_replicate] at hc
      split at hc
      · exact (Option.some.inj hc).symm
      · cases hc
    | succ k ih =>
      intro v s hp hk hv ity isl ipu ifu hso hd1 hds hlp
      have hvl : v < q.fn.length := by omega
      obtain ⟨hp', ha, hc', hlen, hfr⟩ := app_arr (hp := hp) (id := s.so) (n := v) (cs := List.replicate v (.sl .cap0 1 [])) (t := .no) (v := .sl .cap0 1 []) (by simp) hso rfl (by omega)
      have keep : ∀ {id n}, Ints hp id n → (0 < v → 0 < n → s.so ≠ id) → Ints hp' id n ∧ (0 < n → hp.length ≠ id) := fun {id n} hi hne => by
        refine ⟨fun h0 => ?_, fun h0 e => ?_⟩
        · obtain ⟨l, e1, e2⟩ := hi h0
          exact ⟨l, e1, hfr _ _ e2 fun hv0 => Ne.symm (hne hv0 h0)⟩
        · obtain ⟨l, e1, e2⟩ := hi h0
          have := hlt e2
          omega
      obtain ⟨k1, k1'⟩ := keep ity fun hv0 h0 => ((hd1 hv0).1 h0).1
      obtain ⟨k2, k2'⟩ := keep isl fun hv0 h0 => ((hd1 hv0).1 h0).2
      obtain ⟨k3, k3'⟩ := keep ipu fun hv0 h0 => ((hd1 hv0).2 h0).1
      obtain ⟨k4, k4'⟩ := keep ifu fun hv0 h0 => ((hd1 hv0).2 h0).2
      have hrep : List.replicate v (AV.sl .cap0 1 []) ++ [.sl .cap0 1 []] = List.replicate (v + 1) (.sl .cap0 1 []) := by rw [List.replicate_succ']
      apply h3
      simp -implicitDefEqProofs (maxSteps := 5000000) (disch := omega) only [s32_3, hvl, ldD3, ldD4, ldD5, ldD6, ldD7, udD3, udD4, udD5, udD6, udD7, ldD12, udD12, udD13, ldD, udDa, udD0, okvD, memD, nlD, nlocD, cells_arr0, okv_arr0, ldTr0, ldTr1, ldTr2, ldTr, memTr, nlocTr, ha, go_sem, Nat.reduceBEq, Nat.reduceBNe, reduceIte, reduceCtorEq, Nat.reduceLeDiff, Nat.reduceAdd, Nat.reduceEqDiff]
      have j5 : ∀ (s2 : CS), NxE { s with so := hp.length } 0 s2 0 → J5 (eN q.fn.length) (eN v) (AV.cells (eTr q)) [.sl .cap0 1 [], .sl .cap0 1 [], .sl .cap0 1 [], .sl .cap0 1 [], .sl .cap0 1 []] (AV.cells (eD q q.ex.length q.ex.length q.sm.length q.sm.length (v + 1) s2)) hp' := fun s2 x2 => by
        apply h5
        simp -implicitDefEqProofs (maxSteps := 5000000) (disch := omega) only [s32_5, go_sem, Nat.reduceBEq, Nat.reduceBNe, reduceIte, reduceCtorEq, Nat.reduceLeDiff, Nat.reduceAdd, Nat.reduceEqDiff]
        obtain ⟨a1, a2, a3, a4, a5⟩ := x2.nx.ids
        simp only at a1 a2 a3 a4 a5
        refine ih (v + 1) s2 hp' (by omega) (by omega) (a1 ▸ k1) (a2 ▸ k2) (a3 ▸ k3) (a4 ▸ k4) (fun _ => by rw [a5, hc', hrep]) (fun _ => ⟨fun h0 => ⟨by rw [a5, a1]; exact k1' h0, by rw [a5, a2]; exact k2' h0⟩, fun h0 => ⟨by rw [a5, a3]; exact k3' h0, by rw [a5, a4]; exact k4' h0⟩⟩) (fun e0 m0 => ?_) (by rw [x2.nx.lp]; exact hlp)
        have := hds e0 m0
        unfold Ds at this ⊢
        rw [a1, a2, a3, a4]; exact this
      have j4 : ∀ (k m : Nat) (s2 : CS), v - m = k → m ≤ v → NxE { s with so := hp.length } 0 s2 0 → J4 (eN v) (eN m) (eN q.fn.length) (eN v) (AV.cells (eTr q)) [.sl .cap0 1 [], .sl .cap0 1 [], .sl .cap0 1 [], .sl .cap0 1 [], .sl .cap0 1 []] (AV.cells (eD q q.ex.length q.ex.length q.sm.length q.sm.length (v + 1) s2)) hp' := by
        intro k
        induction k with
        | zero =>
          intro m s2 hk hm x2
          have : m = v := by omega
          subst this
          apply h4
          simp -implicitDefEqProofs (maxSteps := 5000000) (disch := omega) only [s32_4, Nat.lt_irrefl, go_sem, Nat.reduceBEq, Nat.reduceBNe, reduceIte, reduceCtorEq, Nat.reduceLeDiff, Nat.reduceAdd, Nat.reduceEqDiff]
          exact j5 s2 x2
        | succ k ih2 =>
          intro m s2 hk hm x2
          have hmv : m < v := by omega
          obtain ⟨f1, hf1⟩ : ∃ fn, q.fn[m]? = some fn := ⟨_, List.getElem?_eq_getElem (by omega)⟩
          obtain ⟨f2, hf2⟩ : ∃ fn, q.fn[v]? = some fn := ⟨_, List.getElem?_eq_getElem hvl⟩
          apply h4
          simp -implicitDefEqProofs (maxSteps := 5000000) (disch := omega) only [s32_4, hmv, ldD3, ldD4, ldD5, ldD6, ldD7, udD3, udD4, udD5, udD6, udD7, ldD12, udD12, udD13, ldD, udDa, udD0, okvD, memD, nlD, nlocD, cells_arr0, okv_arr0, ldTr0, ldTr1, ldTr2, ldTr, memTr, nlocTr, hf1, hf2, ldF0, ldF1, go_sem, Nat.reduceBEq, Nat.reduceBNe, reduceIte, reduceCtorEq, Nat.reduceLeDiff, Nat.reduceAdd, Nat.reduceEqDiff]
          refine needD_ok (c := 7) ?_
          simp -implicitDefEqProofs (maxSteps := 5000000) (disch := omega) only [ldD3, ldD4, ldD5, ldD6, ldD7, udD3, udD4, udD5, udD6, udD7, ldD12, udD12, udD13, ldD, udDa, udD0, okvD, memD, nlD, nlocD, cells_arr0, okv_arr0, ldTr0, ldTr1, ldTr2, ldTr, memTr, nlocTr, go_sem, Nat.reduceBEq, Nat.reduceBNe, reduceIte, reduceCtorEq, Nat.reduceLeDiff, Nat.reduceAdd, Nat.reduceEqDiff]
          exact ih2 (m + 1) _ (by omega) (by omega) (x2.trans (needS_nx (by omega)))
      exact j4 _ 0 _ rfl (Nat.zero_le _) NxE.refl
set_option maxHeartbeats 4000000 in
theorem check_j2 {q : PT} {FF : List (List ST)} (P : Prog q FF) (hsz : q.ex.length < 1000000) (hss : q.sm.length ≤ 1000) (hsf : q.fn.length < 1000000) {Q : ARes → List AO → Prop} {J2 : AV → AV → List AV → List AV → List AV → List AO → Prop} {J3 : AV → AV → List AV → List AV → List AV → List AO → Prop} {J14 : List AV → List AV → List AV → List AO → Prop} (h2 : ∀ v35 v36 b1 b2 b5 hp, s32_2 CC Q J2 J14 v35 v36 b1 b2 b5 hp → J2 v35 v36 b1 b2 b5 hp) (h14 : ∀ b1 b2 b5 hp, s32_14 CC Q J3 b1 b2 b5 hp → J14 b1 b2 b5 hp) (j3 : ∀ (k v : Nat) (s : CS) (hp : List AO), q.fn.length - v = k → v ≤ q.fn.length → Ints hp s.ty q.ex.length → Ints hp s.sl q.ex.length → Ints hp s.pu q.sm.length → Ints hp s.fu q.sm.length →
      (0 < v → hcells hp s.so = some (List.replicate v (.sl .cap0 1 []))) → D1 q s v → D2 q s q.sm.length → s.lp = 0 →
      J3 (eN q.fn.length) (eN v) (AV.cells (eTr q)) [.sl .cap0 1 [], .sl .cap0 1 [], .sl .cap0 1 [], .sl .cap0 1 [], .sl .cap0 1 []] (AV.cells (eD q q.ex.length q.ex.length q.sm.length q.sm.length v s)) hp) : ∀ (k v : Nat) (s : CS) (hp : List AO), q.sm.length - v = k → v ≤ q.sm.length → Ints hp s.ty q.ex.length → Ints hp s.sl q.ex.length → Ints hp s.pu v → Ints hp s.fu v → D3 s.pu s.fu v → D2 q s v → s.lp = 0 →
      J2 (eN q.sm.length) (eN v) (AV.cells (eTr q)) [.sl .cap0 1 [], .sl .cap0 1 [], .sl .cap0 1 [], .sl .cap0 1 [], .sl .cap0 1 []] (AV.cells (eD q q.ex.length q.ex.length v v 0 s)) hp := by
    have hlt : ∀ {hp : List AO} {j ds}, hcells hp j = some ds → j < hp.length := fun {hp j ds} h => hcells_lt h
    intro k
    induction k with
    | zero =>
      intro v s hp hk hv ity isl ipu ifu hd hds hlp
      have hv' : v = q.sm.length := by omega
      subst hv'
      apply h2
      simp -implicitDefEqProofs (maxSteps := 5000000) (disch := omega) only [s32_2, Nat.lt_irrefl, go_sem, Nat.reduceBEq, Nat.reduceBNe, reduceIte, reduceCtorEq, Nat.reduceLeDiff, Nat.reduceAdd, Nat.reduceEqDiff]
      apply h14
      simp -implicitDefEqProofs (maxSteps := 5000000) (disch := omega) only [s32_14, ldD3, ldD4, ldD5, ldD6, ldD7, udD3, udD4, udD5, udD6, udD7, ldD12, udD12, udD13, ldD, udDa, udD0, okvD, memD, nlD, nlocD, cells_arr0, okv_arr0, ldTr0, ldTr1, ldTr2, ldTr, memTr, nlocTr, go_sem, Nat.reduceBEq, Nat.reduceBNe, reduceIte, reduceCtorEq, Nat.reduceLeDiff, Nat.reduceAdd, Nat.reduceEqDiff]
      exact j3 _ 0 s hp rfl (Nat.zero_le _) ity isl ipu ifu (fun h => absurd h (by omega)) (fun h => absurd h (by omega)) hds hlp
    | succ k ih =>
      intro v s hp hk hv ity isl ipu ifu hd hds hlp
      have hvl : v < q.sm.length := by omega
      obtain ⟨l1, a1, b1⟩ : ∃ l : List Int, l.length = v ∧ (0 < v → hcells hp s.pu = some (l.map eI)) := by
        rcases Nat.eq_zero_or_pos v with h0 | h0
        · exact ⟨[], by simp [h0], fun h => by omega⟩
        · obtain ⟨l, h1, h2⟩ := ipu h0; exact ⟨l, h1, fun _ => h2⟩
      obtain ⟨l2, a2, b2⟩ : ∃ l : List Int, l.length = v ∧ (0 < v → hcells hp s.fu = some (l.map eI)) := by
        rcases Nat.eq_zero_or_pos v with h0 | h0
        · exact ⟨[], by simp [h0], fun h => by omega⟩
        · obtain ⟨l, h1, h2⟩ := ifu h0; exact ⟨l, h1, fun _ => h2⟩
      obtain ⟨hp1, c1, c2, c3, c4⟩ := app_arr (hp := hp) (id := s.pu) (n := v) (cs := l1.map eI) (t := .no) (v := .int .i64 (-1)) (by simpa using a1) b1 rfl (by omega)
      have b2' : 0 < v → hcells hp1 s.fu = some (l2.map eI) := fun h0 => c4 _ _ (b2 h0) fun _ => Ne.symm (hd h0)
      obtain ⟨hp2, d1, d2, d3, d4⟩ := app_arr (hp := hp1) (id := s.fu) (n := v) (cs := l2.map eI) (t := .no) (v := .int .i64 0) (by simpa using a2) b2' rfl (by omega)
      have hpu2 : hcells hp2 hp.length = some ((l1 ++ [-1]).map eI) := by
        rw [List.map_append]
        refine d4 _ _ c2 fun h0 e => ?_
        have := hlt (b2 h0)
        omega
      have keep : ∀ {id n}, Ints hp id n → (0 < n → 0 < v → id ≠ s.pu ∧ id ≠ s.fu) → Ints hp2 id n ∧ (0 < n → id ≠ hp.length ∧ id ≠ hp1.length) := fun {id n} hi hne => by
        refine ⟨fun h0 => ?_, fun h0 => ?_⟩
        · obtain ⟨l, e1, e2⟩ := hi h0
          exact ⟨l, e1, d4 _ _ (c4 _ _ e2 fun hv0 => (hne h0 hv0).1) fun hv0 => (hne h0 hv0).2⟩
        · obtain ⟨l, e1, e2⟩ := hi h0
          have := hlt e2
          omega
      obtain ⟨k1, k1'⟩ := keep ity fun e0 hv0 => ⟨(hds e0 hv0).1, (hds e0 hv0).2.1⟩
      obtain ⟨k2, k2'⟩ := keep isl fun e0 hv0 => ⟨(hds e0 hv0).2.2.1, (hds e0 hv0).2.2.2⟩
      apply h2
      simp -implicitDefEqProofs (maxSteps := 5000000) (disch := omega) only [s32_2, hvl, ldD3, ldD4, ldD5, ldD6, ldD7, udD3, udD4, udD5, udD6, udD7, ldD12, udD12, udD13, ldD, udDa, udD0, okvD, memD, nlD, nlocD, cells_arr0, okv_arr0, ldTr0, ldTr1, ldTr2, ldTr, memTr, nlocTr, c1, d1, go_sem, Nat.reduceBEq, Nat.reduceBNe, reduceIte, reduceCtorEq, Nat.reduceLeDiff, Nat.reduceAdd, Nat.reduceEqDiff]
      refine ih (v + 1) { s with pu := hp.length, fu := hp1.length } hp2 (by omega) (by omega) k1 k2 (fun _ => ⟨l1 ++ [-1], by simp [a1], hpu2⟩) (fun _ => ⟨l2 ++ [0], by simp [a2], by rw [List.map_append]; exact d2⟩) (fun _ => by simp only []; omega) (fun e0 _ => ⟨(k1' e0).1, (k1' e0).2, (k2' e0).1, (k2' e0).2⟩) hlp
set_option maxHeartbeats 4000000 in
theorem check_j1 {q : PT} {FF : List (List ST)} (P : Prog q FF) (hsz : q.ex.length < 1000000) (hss : q.sm.length ≤ 1000) (hsf : q.fn.length < 1000000) {Q : ARes → List AO → Prop} {J1 : AV → AV → List AV → List AV → List AV → List AO → Prop} {J2 : AV → AV → List AV → List AV → List AV → List AO → Prop} {J15 : List AV → List AV → List AV → List AO → Prop} (h1 : ∀ v15 v16 b1 b2 b5 hp, s32_1 CC Q J1 J15 v15 v16 b1 b2 b5 hp → J1 v15 v16 b1 b2 b5 hp) (h15 : ∀ b1 b2 b5 hp, s32_15 CC Q J2 b1 b2 b5 hp → J15 b1 b2 b5 hp) (j2 : ∀ (k v : Nat) (s : CS) (hp : List AO), q.sm.length - v = k → v ≤ q.sm.length → Ints hp s.ty q.ex.length → Ints hp s.sl q.ex.length → Ints hp s.pu v → Ints hp s.fu v → D3 s.pu s.fu v → D2 q s v → s.lp = 0 →
      J2 (eN q.sm.length) (eN v) (AV.cells (eTr q)) [.sl .cap0 1 [], .sl .cap0 1 [], .sl .cap0 1 [], .sl .cap0 1 [], .sl .cap0 1 []] (AV.cells (eD q q.ex.length q.ex.length v v 0 s)) hp) : ∀ (k v : Nat) (s : CS) (hp : List AO), q.ex.length - v = k → v ≤ q.ex.length → Ints hp s.ty v → Ints hp s.sl v → D3 s.ty s.sl v → s.lp = 0 →
      J1 (eN q.ex.length) (eN v) (AV.cells (eTr q)) [.sl .cap0 1 [], .sl .cap0 1 [], .sl .cap0 1 [], .sl .cap0 1 [], .sl .cap0 1 []] (AV.cells (eD q v v 0 0 0 s)) hp := by
    have hlt : ∀ {hp : List AO} {j ds}, hcells hp j = some ds → j < hp.length := fun {hp j ds} h => hcells_lt h
    intro k
    induction k with
    | zero =>
      intro v s hp hk hv ity isl hd hlp
      have hv' : v = q.ex.length := by omega
      subst hv'
      apply h1
      simp -implicitDefEqProofs (maxSteps := 5000000) (disch := omega) only [s32_1, Nat.lt_irrefl, go_sem, Nat.reduceBEq, Nat.reduceBNe, reduceIte, reduceCtorEq, Nat.reduceLeDiff, Nat.reduceAdd, Nat.reduceEqDiff]
      apply h15
      simp -implicitDefEqProofs (maxSteps := 5000000) (disch := omega) only [s32_15, ldD3, ldD4, ldD5, ldD6, ldD7, udD3, udD4, udD5, udD6, udD7, ldD12, udD12, udD13, ldD, udDa, udD0, okvD, memD, nlD, nlocD, cells_arr0, okv_arr0, ldTr0, ldTr1, ldTr2, ldTr, memTr, nlocTr, go_sem, Nat.reduceBEq, Nat.reduceBNe, reduceIte, reduceCtorEq, Nat.reduceLeDiff, Nat.reduceAdd, Nat.reduceEqDiff]
      exact j2 _ 0 s hp rfl (Nat.zero_le _) ity isl (fun h => absurd h (by omega)) (fun h => absurd h (by omega)) (fun h => absurd h (by omega)) (fun _ h => absurd h (by omega)) hlp
    | succ k ih =>
      intro v s hp hk hv ity isl hd hlp
      have hvl : v < q.ex.length := by omega
      obtain ⟨l1, a1, b1⟩ : ∃ l : List Int, l.length = v ∧ (0 < v → hcells hp s.ty = some (l.map eI)) := by
        rcases Nat.eq_zero_or_pos v with h0 | h0
        · exact ⟨[], by simp [h0], fun h => by omega⟩
        · obtain ⟨l, h1, h2⟩ := ity h0; exact ⟨l, h1, fun _ => h2⟩
      obtain ⟨l2, a2, b2⟩ : ∃ l : List Int, l.length = v ∧ (0 < v → hcells hp s.sl = some (l.map eI)) := by
        rcases Nat.eq_zero_or_pos v with h0 | h0
        · exact ⟨[], by simp [h0], fun h => by omega⟩
        · obtain ⟨l, h1, h2⟩ := isl h0; exact ⟨l, h1, fun _ => h2⟩
      obtain ⟨hp1, c1, c2, c3, c4⟩ := app_arr (hp := hp) (id := s.ty) (n := v) (cs := l1.map eI) (t := .no) (v := .int .i64 0) (by simpa using a1) b1 rfl (by omega)
      have b2' : 0 < v → hcells hp1 s.sl = some (l2.map eI) := fun h0 => c4 _ _ (b2 h0) fun _ => Ne.symm (hd h0)
      obtain ⟨hp2, d1, d2, d3, d4⟩ := app_arr (hp := hp1) (id := s.sl) (n := v) (cs := l2.map eI) (t := .no) (v := .int .i64 (-1)) (by simpa using a2) b2' rfl (by omega)
      have hty2 : hcells hp2 hp.length = some ((l1 ++ [0]).map eI) := by
        rw [List.map_append]
        refine d4 _ _ c2 fun h0 e => ?_
        have := hlt (b2 h0)
        omega
      apply h1
      simp -implicitDefEqProofs (maxSteps := 5000000) (disch := omega) only [s32_1, hvl, ldD3, ldD4, ldD5, ldD6, ldD7, udD3, udD4, udD5, udD6, udD7, ldD12, udD12, udD13, ldD, udDa, udD0, okvD, memD, nlD, nlocD, cells_arr0, okv_arr0, ldTr0, ldTr1, ldTr2, ldTr, memTr, nlocTr, c1, d1, go_sem, Nat.reduceBEq, Nat.reduceBNe, reduceIte, reduceCtorEq, Nat.reduceLeDiff, Nat.reduceAdd, Nat.reduceEqDiff]
      exact ih (v + 1) { s with ty := hp.length, sl := hp1.length } hp2 (by omega) (by omega) (fun _ => ⟨l1 ++ [0], by simp [a1], hty2⟩) (fun _ => ⟨l2 ++ [-1], by simp [a2], by rw [List.map_append]; exact d2⟩) (fun _ => by simp only []; omega) hlp
theorem check_ok {q : PT} {FF : List (List ST)} (P : Prog q FF) (hsz : q.ex.length < 1000000) (hss : q.sm.length ≤ 1000) (hsf : q.fn.length < 1000000) {hp : List AO} {Q : ARes → List AO → Prop}
    (hQ : ∀ hp' i1 i2 i3 i4 i5 a c, (c = 0 → ∀ F ∈ FF, jokL q.sm false F) → Q (.ret (.tup [(.agg [i1, i2, i3, i4, i5]), eN a, eN c])) hp') : callK CC 32 [eTr q] hp Q := by
  refine callK_intro rfl (c32 ?_)
  simp only [s32]
  intro J1 J2 J3 J4 J5 J6 J7 J8 J9 J10 J11 J12 J13 J14 J15 h1 h2 h3 h4 h5 h6 h7 h8 h9 h10 h11 h12 h13 h14 h15
  have j12 := @check_j12 q FF P hsz hss hsf Q J12 h12 hQ
  have j6 := check_j6 P hsz hss hsf h6 h7 h8 h9 h10 h11 (fun {s hp} => j12 (s := s) (hp := hp))
  have j13 := check_j13 P hsz hss hsf h13 j6
  have j3 := check_j3 P hsz hss hsf h3 h4 h5 j13
  have j2 := check_j2 P hsz hss hsf h2 h14 j3
  have j1 := check_j1 P hsz hss hsf h1 h15 j2
  simp -implicitDefEqProofs (maxSteps := 5000000) (disch := omega) only [s32_0, ldD3, ldD4, ldD5, ldD6, ldD7, udD3, udD4, udD5, udD6, udD7, ldD12, udD12, udD13, ldD, udDa, udD0, okvD, memD, nlD, nlocD, cells_arr0, okv_arr0, ldTr0, ldTr1, ldTr2, ldTr, memTr, nlocTr, bldD, go_sem, Nat.reduceBEq, Nat.reduceBNe, reduceIte, reduceCtorEq, Nat.reduceLeDiff, Nat.reduceAdd, Nat.reduceEqDiff]
  exact j1 _ 0 s00 hp rfl (Nat.zero_le _) (fun h => absurd h (by omega)) (fun h => absurd h (by omega)) (fun h => absurd h (by omega)) rfl
end Go.Proofs.Ytnldohnfdeineaa.Abs
/- Where statements stand, and fall: plain. -/
namespace Go.Proofs.Ytnldohnfdeineaa.Abs
open Go

/-- Writes, one behind the other. -/
def applyA {α : Type} (l : List (Nat × α)) (a : List α) : List α := l.foldl (fun a p => a.set p.1 p.2) a
theorem applyA_nil {α : Type} {a : List α} : applyA [] a = a := rfl
theorem applyA_cons {α : Type} {p : Nat × α} {l : List (Nat × α)} {a : List α} : applyA (p :: l) a = applyA l (a.set p.1 p.2) := rfl
theorem applyA_append {α : Type} {l m : List (Nat × α)} {a : List α} : applyA (l ++ m) a = applyA m (applyA l a) := List.foldl_append
theorem applyA_length {α : Type} : ∀ (l : List (Nat × α)) {a : List α}, (applyA l a).length = a.length
  | [], a => rfl
  | p :: l, a => by rw [applyA_cons, applyA_length l, List.length_set]
theorem applyA_other {α : Type} : ∀ (l : List (Nat × α)) {a : List α} {i : Nat}, i ∉ l.map Prod.fst → (applyA l a)[i]? = a[i]?
  | [], a, i, _ => rfl
  | p :: l, a, i, h => by
    simp only [List.map_cons, List.mem_cons, not_or] at h
    rw [applyA_cons, applyA_other l h.2, List.getElem?_set_ne (Ne.symm h.1)]
theorem applyA_get {α : Type} : ∀ (l : List (Nat × α)) {a : List α} {i : Nat} {v : α}, (l.map Prod.fst).Nodup → (i, v) ∈ l → i < a.length → (applyA l a)[i]? = some v
  | p :: l, a, i, v, hn, hm, hi => by
    simp only [List.map_cons, List.nodup_cons] at hn
    rw [applyA_cons]
    rcases List.mem_cons.1 hm with rfl | hm
    · rw [applyA_other l hn.1, List.getElem?_set_self hi]
    · exact applyA_get l hn.2 hm (by rw [List.length_set]; exact hi)
/-- The next one of a list, or what comes behind it. -/
def nextB (l : List ST) (b : Int) : Int := match l with
  | [] => b
  | u :: _ => (u.root : Int)
def inner (sm : List Sm) (i : Nat) (b : Int) : Int := if kOf sm i = 6 then (i : Int) else b
mutual
def ST.falls (sm : List Sm) (b : Int) : ST → List (Nat × Int)
  | .nd i th el => (i, b) :: (fallsL sm (inner sm i b) th ++ fallsL sm (inner sm i b) el)
def fallsL (sm : List Sm) (b : Int) : List ST → List (Nat × Int)
  | [] => []
  | t :: l => t.falls sm (nextB l b) ++ fallsL sm b l
end
structure At where
  list : List Nat
  place : Nat
  in_ : Int
  lp : Int
mutual
def ST.lay (sm : List Sm) (x : At) : ST → List (Nat × At)
  | .nd i th el => (i, x) :: (layL sm (th.map ST.root) 0 i (inner sm i x.lp) th ++ layL sm (el.map ST.root) 0 i (inner sm i x.lp) el)
def layL (sm : List Sm) (lst : List Nat) (k : Nat) (in_ lp : Int) : List ST → List (Nat × At)
  | [] => []
  | t :: l => t.lay sm ⟨lst, k, in_, lp⟩ ++ layL sm lst (k + 1) in_ lp l
end
mutual
def ST.pre : ST → List Nat
  | .nd i th el => i :: (preL th ++ preL el)
def preL : List ST → List Nat
  | [] => []
  | t :: l => t.pre ++ preL l
end
mutual
theorem ST.falls_keys {sm} : ∀ {t : ST} {b}, (t.falls sm b).map Prod.fst = t.pre
  | .nd i th el, b => by simp only [ST.falls, ST.pre, List.map_cons, List.map_append, fallsL_keys]
theorem fallsL_keys {sm} : ∀ {l : List ST} {b}, (fallsL sm b l).map Prod.fst = preL l
  | [], b => rfl
  | t :: l, b => by simp only [fallsL, preL, List.map_append, ST.falls_keys, fallsL_keys]
end
mutual
theorem ST.lay_keys {sm} : ∀ {t : ST} {x}, (t.lay sm x).map Prod.fst = t.pre
  | .nd i th el, x => by simp only [ST.lay, ST.pre, List.map_cons, List.map_append, layL_keys]
theorem layL_keys {sm} : ∀ {l : List ST} {lst k i p}, (layL sm lst k i p l).map Prod.fst = preL l
  | [], _, _, _, _ => rfl
  | t :: l, _, _, _, _ => by simp only [layL, preL, List.map_append, ST.lay_keys, layL_keys]
end
mutual
theorem ST.pre_post : ∀ {t : ST}, t.pre.Perm t.post
  | .nd i th el => by
    simp only [ST.pre, ST.post]
    exact (List.Perm.cons i ((preL_post (l := th)).append (preL_post (l := el)))).trans (List.perm_append_comm (l₁ := [i]) (l₂ := postL th ++ postL el))
theorem preL_post : ∀ {l : List ST}, (preL l).Perm (postL l)
  | [] => .nil
  | t :: l => by
    simp only [preL, postL]
    exact (ST.pre_post (t := t)).append (preL_post (l := l))
end
section
variable {q : PT} {FF : List (List ST)}
theorem Prog.perm (P : Prog q FF) : (FF.flatMap preL).Perm (List.range q.sm.length) := by
  rw [← P.cov]
  have key : ∀ G : List (List ST), (G.flatMap preL).Perm (G.flatMap postL) := by
    intro G
    induction G with
    | nil => exact .nil
    | cons F G ih => simp only [List.flatMap_cons]; exact preL_post.append ih
  exact key FF
def fallsA (sm : List Sm) (FF : List (List ST)) : List (Nat × Int) := FF.flatMap (fallsL sm (-1))
def layA (sm : List Sm) (FF : List (List ST)) : List (Nat × At) := FF.flatMap fun F => layL sm (F.map ST.root) 0 (-1) (-1) F
theorem fallsA_keys {sm} : ∀ {FF : List (List ST)}, (fallsA sm FF).map Prod.fst = FF.flatMap preL
  | [] => rfl
  | F :: FF => by
    have := fallsA_keys (sm := sm) (FF := FF)
    simp only [fallsA, List.flatMap_cons, List.map_append, fallsL_keys] at this ⊢
    rw [this]
theorem layA_keys {sm} : ∀ {FF : List (List ST)}, (layA sm FF).map Prod.fst = FF.flatMap preL
  | [] => rfl
  | F :: FF => by
    have := layA_keys (sm := sm) (FF := FF)
    simp only [layA, List.flatMap_cons, List.map_append, layL_keys] at this ⊢
    rw [this]
theorem Prog.nodup (P : Prog q FF) : (FF.flatMap preL).Nodup := P.perm.symm.nodup List.nodup_range
theorem Prog.lt (P : Prog q FF) {i : Nat} (h : i ∈ FF.flatMap preL) : i < q.sm.length := List.mem_range.1 (P.perm.mem_iff.1 h)
theorem Prog.mem (P : Prog q FF) {i : Nat} (h : i < q.sm.length) : i ∈ FF.flatMap preL := P.perm.mem_iff.2 (List.mem_range.2 h)
end
end Go.Proofs.Ytnldohnfdeineaa.Abs
/- Right; where statements fall, stand, and what comes behind them: the walks. -/
namespace Go.Proofs.Ytnldohnfdeineaa.Abs
open Go
set_option maxRecDepth 100000

/-- What Right says yes to. -/
structure Right (q : PT) (FF : List (List ST)) : Prop where
  prog : Prog q FF
  ex : q.ex.length < 1000000
  sm : q.sm.length ≤ 1000
  fn : q.fn.length < 1000000
theorem fwd_sizes {x : List Nat} {tk : List Tk} (H : TokOk x tk) {q : PT} {v} (h : Ev (fun n => run x tk n .funcs p0) (.ok q v)) : q.ex.length < 1000000 ∧ q.sm.length ≤ 1000 ∧ q.fn.length < 1000000 := by
  have f := (ev_fwd H h).1
  have h1 := f.lt H.pos
  have h2 := f.ex
  have h3 := f.sm (Nat.zero_le _)
  have h4 := f.fn
  have := H.short
  simp only [p0, List.length_nil] at h2 h4
  omega
theorem right_ok {x : List Nat} {hp : List AO} {Q : ARes → List AO → Prop}
    (h1 : ∀ hp' q FF, Right q FF → (∀ F ∈ FF, jokL q.sm false F) → Q (.ret (.tup [eTr q, .bool true])) hp')
    (h2 : ∀ hp' q, Q (.ret (.tup [eTr q, .bool false])) hp') : callK CC 15 [.str x] hp Q := by
  have t0 : ∀ {a : AV}, Wk (.tup [.agg [.sl .cap0 9 [], .sl .cap0 9 [], .sl .cap0 6 []], a]) (.tup [eTr p0, a]) := fun {a} => .tup (.cons (.agg (.cons (.sl (.inr rfl) .nil) (.cons (.sl (.inr rfl) .nil) (.cons (.sl (.inr rfl) .nil) .nil)))) Wks.refl)
  refine callK_intro rfl (Runs.weak (Q' := WkQ Q) (c15 ?_) Wks.refl fun _ _ h => h)
  by_cases hx : 800 < x.length
  · simp -implicitDefEqProofs (maxSteps := 5000000) (disch := omega) only [s15, s15_0, hx, bldT0, okv_agg3, go_sem, Nat.reduceBEq, Nat.reduceBNe, reduceIte, reduceCtorEq, Nat.reduceLeDiff, Nat.reduceAdd, Nat.reduceEqDiff]
    exact ⟨_, t0, h2 hp p0⟩
  · simp -implicitDefEqProofs (maxSteps := 5000000) (disch := omega) only [s15, s15_0, hx, go_sem, Nat.reduceBEq, Nat.reduceBNe, reduceIte, reduceCtorEq, Nat.reduceLeDiff, Nat.reduceAdd, Nat.reduceEqDiff]
    have nlTr : ∀ {q}, nl (eTr q) = some (eTr q) := rfl
    have okvTr : ∀ {q}, okv 3 (eTr q) = true := rfl
    have udTr0 : ∀ {q a b c}, upd 0 (AV.cells (eTr q)) [a, b, c] = some (AV.cells (eTr q)) := rfl
    refine parse_ok (by omega) (fun hp' q v hr hs => ?_) (fun hp' c e hc hr hs => ?_)
    · simp -implicitDefEqProofs (maxSteps := 5000000) (disch := omega) only [nlTr, nlocTr, okvTr, udTr0, ldTr, go_sem, Nat.reduceBEq, Nat.reduceBNe, reduceIte, reduceCtorEq, Nat.reduceLeDiff, Nat.reduceAdd, Nat.reduceEqDiff]
      unfold ParseR at hr
      cases hl : lexM x with
      | inr r => rw [hl] at hr; cases hr
      | inl tk =>
        rw [hl] at hr
        have H := lex_ok hl
        obtain ⟨FF, P⟩ := prog_of H hr
        obtain ⟨e1, e2, e3⟩ := fwd_sizes H hr
        refine check_ok P e1 e2 e3 fun hp2 i1 i2 i3 i4 i5 a c hj => ?_
        have ok5 : okv 5 (.agg [i1, i2, i3, i4, i5]) = true := rfl
        have ud5 : ∀ {a b c d e}, upd 0 [i1, i2, i3, i4, i5] [a, b, c, d, e] = some [i1, i2, i3, i4, i5] := rfl
        by_cases hc : c = 0
        · simp -implicitDefEqProofs (maxSteps := 5000000) (disch := omega) only [hc, ldTr, udTr0, okvTr, memTr, ok5, ud5, go_sem, Nat.reduceBEq, Nat.reduceBNe, reduceIte, reduceCtorEq, Nat.reduceLeDiff, Nat.reduceAdd, Nat.reduceEqDiff]
          exact WkQ.intro (h1 hp2 q FF ⟨P, e1, e2, e3⟩ (hj hc))
        · simp -implicitDefEqProofs (maxSteps := 5000000) (disch := omega) only [hc, ldTr, udTr0, okvTr, memTr, ok5, ud5, go_sem, Nat.reduceBEq, Nat.reduceBNe, reduceIte, reduceCtorEq, Nat.reduceLeDiff, Nat.reduceAdd, Nat.reduceEqDiff]
          exact WkQ.intro (h2 hp2 q)
    · simp -implicitDefEqProofs (maxSteps := 5000000) (disch := omega) only [nlTr, nlocTr, okvTr, udTr0, ldTr, hc, bldT0, okv_agg3, go_sem, Nat.reduceBEq, Nat.reduceBNe, reduceIte, reduceCtorEq, Nat.reduceLeDiff, Nat.reduceAdd, Nat.reduceEqDiff]
      exact ⟨_, t0, h2 hp' p0⟩

theorem upd_flat {e : Nat} : ∀ {A : List (List AV)} {i : Nat} {cs : List AV}, (∀ c ∈ A, c.length = e) → cs.length = e → i < A.length → upd (i * e) cs A.flatten = some ((A.set i cs).flatten)
  | c :: A, 0, cs, hA, hc, _ => by
    have hce := hA c List.mem_cons_self
    rw [Nat.zero_mul, List.flatten_cons, List.set_cons_zero, List.flatten_cons]
    have : ∀ (vs ds l : List AV), vs.length = ds.length → upd 0 vs (ds ++ l) = some (vs ++ l) := by
      intro vs
      induction vs with
      | nil => intro ds l h; have : ds = [] := List.length_eq_zero_iff.1 h.symm; subst this; exact upd_done
      | cons v vs ih =>
        intro ds l h
        cases ds with
        | nil => simp at h
        | cons d ds => rw [List.cons_append, upd_put, ih ds l (by simpa using h)]; rfl
    exact this cs c _ (by omega)
  | c :: A, i + 1, cs, hA, hc, hi => by
    have hce := hA c List.mem_cons_self
    have ih := upd_flat (A := A) (i := i) (cs := cs) (fun c h => hA c (List.mem_cons_of_mem _ h)) hc (by simpa using hi)
    rw [List.flatten_cons, List.set_cons_succ, List.flatten_cons]
    have : ∀ (ds : List AV) (o : Nat) (vs l l' : List AV), upd o vs l = some l' → upd (ds.length + o) vs (ds ++ l) = some (ds ++ l') := by
      intro ds
      induction ds with
      | nil => intro o vs l l' h; simpa using h
      | cons d ds ih =>
        intro o vs l l' h
        rw [List.cons_append, List.length_cons, show ds.length + 1 + o = (ds.length + o) + 1 by omega, upd_skip, ih o vs l l' h]
        rfl
    have h2 := this c (i * e) cs _ _ ih
    rw [hce] at h2
    rw [show (i + 1) * e = e + i * e by rw [Nat.add_mul, Nat.one_mul, Nat.add_comm]]
    exact h2
theorem sub_flat {e : Nat} : ∀ {A : List (List AV)} {i : Nat} {c : List AV}, (∀ c ∈ A, c.length = e) → A[i]? = some c → sub (i * e) e A.flatten = some c
  | c :: A, 0, d, hA, h => by
    have hce := hA c List.mem_cons_self
    simp at h
    subst h
    rw [Nat.zero_mul, List.flatten_cons]
    have : ∀ (ds l : List AV), sub 0 ds.length (ds ++ l) = some ds := by
      intro ds
      induction ds with
      | nil => intro l; exact sub_done
      | cons d ds ih => intro l; rw [List.length_cons, List.cons_append, sub_take, ih]; rfl
    rw [← hce]; exact this c _
  | c :: A, i + 1, d, hA, h => by
    have hce := hA c List.mem_cons_self
    have ih := sub_flat (A := A) (i := i) (c := d) (fun c h => hA c (List.mem_cons_of_mem _ h)) (by simpa using h)
    have : ∀ (ds : List AV) (o n : Nat) (l : List AV), sub (ds.length + o) n (ds ++ l) = sub o n l := by
      intro ds
      induction ds with
      | nil => intro o n l; simp
      | cons d ds ih => intro o n l; rw [List.cons_append, List.length_cons, show ds.length + 1 + o = (ds.length + o) + 1 by omega, sub_skip, ih]
    rw [List.flatten_cons, show (i + 1) * e = e + i * e by rw [Nat.add_mul, Nat.one_mul, Nat.add_comm], ← hce, this c, hce]
    exact ih
theorem ixa_arrE {e id n i : Nat} {k : IntKind} (h : i < n) : ixaV e (.arr id e 0 n) (.int k (i : Int)) = some (.ptr id (i * e)) := by
  rw [ixaV_arr, if_pos ⟨rfl, Int.natCast_nonneg i, by simpa using h⟩]
  simp
theorem ixa_arr1 {id n i : Nat} {k : IntKind} (h : i < n) : ixaV 1 (.arr id 1 0 n) (.int k (i : Int)) = some (.ptr id i) := by rw [ixa_arrE h, Nat.mul_one]
theorem len_arr {id e o n : Nat} : lenV false (.arr id e o n) = some (.int .i64 (n : Nat)) := rfl
theorem mkA_nat {hp : List AO} {z : List AV} {n : Nat} (h : n < 1000000) : mkA hp z (.int .i64 (n : Int)) = some (.arr hp.length z.length 0 n, hp ++ [.cells ((List.replicate n z).flatten)]) := by
  simp only [mkA]
  rw [if_pos ⟨Int.natCast_nonneg n, by omega⟩, Int.toNat_natCast]
theorem st_int {hp : List AO} {id i : Nat} {a : List Int} {v : Int} (h : hcells hp id = some (a.map eI)) (hi : i < a.length) : stH hp 1 (.int .i64 v) (.ptr id i) = some (hp.set id (.cells ((a.set i v).map eI))) := by
  rw [stH_ptr, okv_int]
  simp only [h, Option.bind_some, cells_int]
  rw [upd_one (by simpa using hi)]
  simp [List.map_set]
theorem ld_int {hp : List AO} {id i : Nat} {a : List Int} {v : Int} (h : hcells hp id = some (a.map eI)) (hi : a[i]? = some v) : ldH hp 1 false (.ptr id i) = some (.int .i64 v) := by
  rw [ldH_ptr, h, Option.bind_some, ld_false, nth_eq, List.getElem?_map, hi]
  rfl
section
variable {q : PT}
def fcells (q : PT) (oid n : Nat) : List AV := [.sl .no 9 (q.ex.map eEx), .sl .no 9 (q.sm.map eSm), .sl .no 6 (q.fn.map eFn), .arr oid 1 0 n]
theorem fld3 {hp : List AO} {fid oid n : Nat} (h : hcells hp fid = some (fcells q oid n)) : ldH hp 1 false (.ptr fid 3) = some (.arr oid 1 0 n) := by
  rw [ldH_ptr, h]; rfl
theorem fld1 {hp : List AO} {fid oid n : Nat} (h : hcells hp fid = some (fcells q oid n)) : ldH hp 1 false (.ptr fid 1) = some (.sl .no 9 (q.sm.map eSm)) := by
  rw [ldH_ptr, h]; rfl
/-- lean's list lays where statements fall. -/
theorem flist_ok (hss : q.sm.length ≤ 1000) {fid oid : Nat} (hfo : fid ≠ oid) : ∀ (n : Nat) (F : List ST) (b : Int) (a : List Int) (hp : List AO) (Q : ARes → List AO → Prop), szL F ≤ n → szL F < 1000000 → repL q.sm F → a.length = q.sm.length → hcells hp fid = some (fcells q oid q.sm.length) → hcells hp oid = some (a.map eI) →
    (∀ hp', hcells hp' fid = some (fcells q oid q.sm.length) → hcells hp' oid = some ((applyA (fallsL q.sm b F) a).map eI) → Q (.ret (.tup [])) hp') → callK CC 35 [.ptr fid 0, .sl .no 1 ((F.map ST.root).map eN), eI b] hp Q := by
  intro n
  induction n with
  | zero =>
    intro F b a hp Q hn hn2 hr ha hf ho hQ
    cases F with
    | cons t F => obtain ⟨i, th, el⟩ := t; simp only [szL, ST.sz] at hn; omega
    | nil =>
      refine callK_intro rfl (c35 ?_)
      simp only [s35]
      intro J1 J2 J3 J4 h1 h2 h3 h4
      simp -implicitDefEqProofs (maxSteps := 5000000) (disch := omega) only [s35_0, go_sem, Nat.reduceBEq, Nat.reduceBNe, reduceIte, reduceCtorEq, Nat.reduceLeDiff, Nat.reduceAdd, Nat.reduceEqDiff]
      apply h1
      simp -implicitDefEqProofs (maxSteps := 5000000) (disch := omega) only [s35_1, List.map_nil, List.length_nil, Nat.lt_irrefl, go_sem, Nat.reduceBEq, Nat.reduceBNe, reduceIte, reduceCtorEq, Nat.reduceLeDiff, Nat.reduceAdd, Nat.reduceEqDiff]
      exact hQ hp hf ho
  | succ n ih =>
    intro F b a hp Q hn hn2 hr ha hf ho hQ
    refine callK_intro rfl (c35 ?_)
    simp only [s35]
    intro J1 J2 J3 J4 h1 h2 h3 h4
    simp -implicitDefEqProofs (maxSteps := 5000000) (disch := omega) only [s35_0, go_sem, Nat.reduceBEq, Nat.reduceBNe, reduceIte, reduceCtorEq, Nat.reduceLeDiff, Nat.reduceAdd, Nat.reduceEqDiff]
    have hlF := len_sz F
    have hlen : (F.map ST.root).length = F.length := List.length_map _
    have hb : F.length < 9000000000000000000 ∨ True := .inr trivial
    have key : ∀ (k m : Nat) (a' : List Int) (hp' : List AO), F.length - m = k → a'.length = q.sm.length → applyA (fallsL q.sm b F) a = applyA (fallsL q.sm b (F.drop m)) a' → hcells hp' fid = some (fcells q oid q.sm.length) → hcells hp' oid = some (a'.map eI) →
        J1 (.ptr fid 0) (.sl .no 1 ((F.map ST.root).map eN)) (eI b) (.sl .no 1 ((F.map ST.root).map eN)) (eN (F.map ST.root).length) (eN m) hp' := by
      intro k
      induction k with
      | zero =>
        intro m a' hp' hk ha' e hf' ho'
        apply h1
        have hnl : ¬ m < (F.map ST.root).length := by omega
        simp -implicitDefEqProofs (maxSteps := 5000000) (disch := omega) only [s35_1, hnl, go_sem, Nat.reduceBEq, Nat.reduceBNe, reduceIte, reduceCtorEq, Nat.reduceLeDiff, Nat.reduceAdd, Nat.reduceEqDiff]
        refine hQ hp' hf' ?_
        rw [e, List.drop_eq_nil_of_le (by omega)]
        exact ho'
      | succ k ihk =>
        intro m a' hp' hk ha' e hf' ho'
        have hlt : m < F.length := by omega
        have hlt' : m < (F.map ST.root).length := by omega
        have hmem : F[m] ∈ F := List.getElem_mem hlt
        have hsz := sz_mem hmem
        have hrt := repL_iff.1 hr _ hmem
        have hd : F.drop m = F[m] :: F.drop (m + 1) := List.drop_eq_getElem_cons hlt
        have hxm : (F.map ST.root)[m]? = some (F[m].root) := by rw [List.getElem?_map, List.getElem?_eq_getElem hlt]; rfl
        rw [hd] at e
        generalize F[m] = t at hmem hsz hrt hd hxm e
        obtain ⟨i, th, el⟩ := t
        unfold ST.rep at hrt
        obtain ⟨⟨sx, hsx, K, hth, hel⟩, hrt1, hrt2⟩ := hrt
        have hi : i < q.sm.length := (List.getElem?_eq_some_iff.1 hsx).1
        have hkOf : kOf q.sm i = sx.k := by simp only [kOf, hsx]
        simp only [ST.sz] at hsz
        simp only [ST.root] at hxm
        have go : J3 (.ptr fid 0) (.sl .no 1 ((F.map ST.root).map eN)) (eI b) (eN i) (eI (nextB (F.drop (m + 1)) b)) (.sl .no 1 ((F.map ST.root).map eN)) (eN (F.map ST.root).length) (eN m) hp' := by
          generalize hto : nextB (F.drop (m + 1)) b = to at e ⊢
          apply h3
          have hf1 : hcells (hp'.set oid (.cells ((a'.set i to).map eI))) fid = some (fcells q oid q.sm.length) := hcells_set hf' (Ne.symm hfo)
          have ho1 : hcells (hp'.set oid (.cells ((a'.set i to).map eI))) oid = some ((a'.set i to).map eI) := hcells_self ho'
          have hst := st_int (v := to) ho' (show i < a'.length by omega)
          have j4 : ∀ hp4, hcells hp4 fid = some (fcells q oid q.sm.length) → hcells hp4 oid = some ((applyA (fallsL q.sm (inner q.sm i to) el) (applyA (fallsL q.sm (inner q.sm i to) th) (a'.set i to))).map eI) → J4 (.ptr fid 0) (.sl .no 1 ((F.map ST.root).map eN)) (eI b) (.sl .no 1 ((F.map ST.root).map eN)) (eN (F.map ST.root).length) (eN m) hp4 := fun hp4 hf4 ho4 => by
            apply h4
            simp -implicitDefEqProofs (maxSteps := 5000000) (disch := omega) only [s35_4, go_sem, Nat.reduceBEq, Nat.reduceBNe, reduceIte, reduceCtorEq, Nat.reduceLeDiff, Nat.reduceAdd, Nat.reduceEqDiff]
            refine ihk (m + 1) _ hp4 (by omega) (by rw [applyA_length, applyA_length, List.length_set]; exact ha') ?_ hf4 ho4
            rw [e]
            simp only [fallsL, ST.falls, hto, applyA_append, applyA_cons]
          have j2 : J2 (.ptr fid 0) (.sl .no 1 ((F.map ST.root).map eN)) (eI b) (.int .i64 (inner q.sm i to)) (.sl .no 1 ((F.map ST.root).map eN)) (eN (F.map ST.root).length) (eN m) (AV.cells (eSm sx)) (hp'.set oid (.cells ((a'.set i to).map eI))) := by
            apply h2
            simp -implicitDefEqProofs (maxSteps := 5000000) (disch := omega) only [s35_2, ldY7, hth, go_sem, Nat.reduceBEq, Nat.reduceBNe, reduceIte, reduceCtorEq, Nat.reduceLeDiff, Nat.reduceAdd, Nat.reduceEqDiff]
            refine ih th (inner q.sm i to) _ _ _ (by omega) (by omega) hrt1 (by rw [List.length_set]; exact ha') hf1 ho1 fun hp2 hf2 ho2 => ?_
            simp -implicitDefEqProofs (maxSteps := 5000000) (disch := omega) only [ldY8, hel, go_sem, Nat.reduceBEq, Nat.reduceBNe, reduceIte, reduceCtorEq, Nat.reduceLeDiff, Nat.reduceAdd, Nat.reduceEqDiff]
            refine ih el (inner q.sm i to) _ _ _ (by omega) (by omega) hrt2 (by rw [applyA_length, List.length_set]; exact ha') hf2 ho2 fun hp3 hf3 ho3 => ?_
            simp -implicitDefEqProofs (maxSteps := 5000000) (disch := omega) only [go_sem, Nat.reduceBEq, Nat.reduceBNe, reduceIte, reduceCtorEq, Nat.reduceLeDiff, Nat.reduceAdd, Nat.reduceEqDiff]
            exact j4 hp3 hf3 ho3
          by_cases k6 : sx.k = 6
          · simp -implicitDefEqProofs (maxSteps := 5000000) (disch := omega) only [s35_3, fld3 hf', ixa_arr1 hi, hst, fld1 hf1, hsx, ldSm, okvSm, nlocSm, udY0, ldY0, eq_true k6, go_sem, Nat.reduceBEq, Nat.reduceBNe, reduceIte, reduceCtorEq, Nat.reduceLeDiff, Nat.reduceAdd, Nat.reduceEqDiff]
            have : inner q.sm i to = (i : Int) := by unfold inner; rw [hkOf, if_pos k6]
            rw [this] at j2
            exact j2
          · simp -implicitDefEqProofs (maxSteps := 5000000) (disch := omega) only [s35_3, fld3 hf', ixa_arr1 hi, hst, fld1 hf1, hsx, ldSm, okvSm, nlocSm, udY0, ldY0, eq_false k6, go_sem, Nat.reduceBEq, Nat.reduceBNe, reduceIte, reduceCtorEq, Nat.reduceLeDiff, Nat.reduceAdd, Nat.reduceEqDiff]
            have : inner q.sm i to = to := by unfold inner; rw [hkOf, if_neg k6]
            rw [this] at j2
            exact j2
        apply h1
        by_cases hm1 : m + 1 < F.length
        · have hm1' : m + 1 < (F.map ST.root).length := by omega
          have hx1 : (F.map ST.root)[m + 1]? = some (F[m + 1].root) := by rw [List.getElem?_map, List.getElem?_eq_getElem hm1]; rfl
          have hnx : nextB (F.drop (m + 1)) b = (F[m + 1].root : Int) := by rw [List.drop_eq_getElem_cons hm1]; rfl
          rw [hnx] at go
          simp -implicitDefEqProofs (maxSteps := 5000000) (disch := omega) only [s35_1, hlt', hxm, hm1', hx1, go_sem, Nat.reduceBEq, Nat.reduceBNe, reduceIte, reduceCtorEq, Nat.reduceLeDiff, Nat.reduceAdd, Nat.reduceEqDiff]
          exact go
        · have hm1' : ¬ m + 1 < (F.map ST.root).length := by omega
          have hnx : nextB (F.drop (m + 1)) b = b := by rw [List.drop_eq_nil_of_le (by omega)]; rfl
          rw [hnx] at go
          simp -implicitDefEqProofs (maxSteps := 5000000) (disch := omega) only [s35_1, hlt', hxm, hm1', go_sem, Nat.reduceBEq, Nat.reduceBNe, reduceIte, reduceCtorEq, Nat.reduceLeDiff, Nat.reduceAdd, Nat.reduceEqDiff]
          exact go
    exact key _ 0 a hp rfl ha (by rw [List.drop_zero]) hf ho
end
end Go.Proofs.Ytnldohnfdeineaa.Abs
/- Where statements fall and stand: the walks of Falls and Places. -/
namespace Go.Proofs.Ytnldohnfdeineaa.Abs
open Go
set_option maxRecDepth 100000
section
variable {q : PT} {FF : List (List ST)}
theorem udTr0' {a b c : AV} : upd 0 (AV.cells (eTr q)) [a, b, c] = some (AV.cells (eTr q)) := rfl
theorem okvTr' : okv 3 (eTr q) = true := rfl
theorem nlTr' : nl (eTr q) = some (eTr q) := rfl
theorem bldFl {oid n : Nat} : bld [.sl .cap0 9 [], .sl .cap0 9 [], .sl .cap0 6 [], .sl .cap0 1 []] [(0, 3, eTr q), (3, 1, .arr oid 1 0 n)] = some (.agg (fcells q oid n)) := rfl
theorem memFl {oid n : Nat} : AV.mem (.agg (fcells q oid n)) = true := rfl
theorem cellsFl {oid n : Nat} : AV.cells (.agg (fcells q oid n)) = fcells q oid n := rfl
theorem okvFn' {f : Fn} : okv 6 (eFn f) = true := rfl
theorem nlocFn' {d} {f : Fn} : notLoc d (eFn f) = true := rfl
theorem udFn0 {f : Fn} {a b c d e g : AV} : upd 0 (AV.cells (eFn f)) [a, b, c, d, e, g] = some (AV.cells (eFn f)) := rfl
theorem ldFnA {f : Fn} : ld 6 true (AV.cells (eFn f)) 0 = some (eFn f) := rfl
theorem ldFn5 {f : Fn} : ld 1 false (AV.cells (eFn f)) 5 = some (.sl .no 1 (f.body.map eN)) := rfl
theorem nlArr {id e o n} : nl (.arr id e o n) = some (.arr id e o n) := rfl
theorem nlocArr {d id e o n} : notLoc d (.arr id e o n) = true := rfl
theorem nlPtr {id o} : nl (.ptr id o) = some (.ptr id o) := rfl
theorem nlocPtr {d id o} : notLoc d (.ptr id o) = true := rfl
theorem hcells_app {hp l : List AO} {id : Nat} {cs : List AV} (h : hcells hp id = some cs) : hcells (hp ++ l) id = some cs := by
  have := hcells_lt h
  unfold hcells at h ⊢
  rw [List.getElem?_append_left this]; exact h
theorem hcells_last {hp : List AO} {cs : List AV} : hcells (hp ++ [.cells cs]) hp.length = some cs := by
  unfold hcells
  rw [List.getElem?_append_right (Nat.le_refl _), Nat.sub_self]; rfl
mutual
theorem sz_pre : ∀ {t : ST}, t.pre.length = t.sz
  | .nd i th el => by
    simp only [ST.pre, ST.sz, List.length_cons, List.length_append, szL_pre]
    omega
theorem szL_pre : ∀ {F : List ST}, (preL F).length = szL F
  | [] => rfl
  | t :: l => by simp only [preL, szL, List.length_append, szL_pre, sz_pre]
end
theorem szP (P : Prog q FF) {F : List ST} (h : F ∈ FF) : szL F ≤ q.sm.length := by
  have h1 := P.perm.length_eq
  rw [List.length_range] at h1
  have h2 : ∀ (G : List (List ST)), F ∈ G → szL F ≤ (G.flatMap preL).length := by
    intro G
    induction G with
    | nil => intro h; cases h
    | cons A G ih =>
      intro h
      rw [List.flatMap_cons, List.length_append]
      rcases List.mem_cons.1 h with rfl | h
      · have := szL_pre (F := F)
        omega
      · have := ih h; omega
  rw [← h1]
  exact h2 FF h
/-- Falls yields what fallsA says. -/
theorem falls_ok (R : Right q FF) {hp : List AO} {Q : ARes → List AO → Prop}
    (hQ : ∀ hp' oid, hcells hp' oid = some ((applyA (fallsA q.sm FF) (List.replicate q.sm.length 0)).map eI) → Q (.ret (.arr oid 1 0 q.sm.length)) hp') : callK CC 22 [eTr q] hp Q := by
  have P := R.prog
  have hsm := R.sm
  have hfn := R.fn
  have hFl : FF.length = q.fn.length := by
    have := congrArg List.length P.body
    simpa using this.symm
  refine callK_intro rfl (c22 ?_)
  simp only [s22]
  intro J1 J2 h1 h2
  have hf0 : (List.replicate q.sm.length [eI 0]).flatten = (List.replicate q.sm.length (0 : Int)).map eI := by
    rw [List.map_replicate, show [eI 0] = [eI 0] from rfl]
    generalize q.sm.length = n
    induction n with
    | zero => rfl
    | succ n ih => rw [List.replicate_succ, List.replicate_succ, List.flatten_cons, ih]; rfl
  have hmk := mkA_nat (hp := hp) (z := [eI 0]) (show q.sm.length < 1000000 by omega)
  rw [hf0] at hmk
  simp only [List.length_cons, List.length_nil] at hmk
  simp -implicitDefEqProofs (maxSteps := 5000000) (disch := omega) only [s22_0, memTr, nlocTr, ldTr, ldTr0, ldTr1, ldTr2, hmk, bldFl, memFl, cellsFl, nlArr, nlocArr, go_sem, Nat.reduceBEq, Nat.reduceBNe, reduceIte, reduceCtorEq, Nat.reduceLeDiff, Nat.reduceAdd, Nat.reduceEqDiff]
  generalize hhp1 : hp ++ [AO.cells ((List.replicate q.sm.length (0 : Int)).map eI)] = hp1
  have e1 : hcells hp1 hp.length = some ((List.replicate q.sm.length (0 : Int)).map eI) := by rw [← hhp1]; exact hcells_last
  have hl1 : hp1.length = hp.length + 1 := by rw [← hhp1]; simp
  have e2 : hcells (hp1 ++ [AO.cells (fcells q hp.length q.sm.length)]) hp.length = some ((List.replicate q.sm.length (0 : Int)).map eI) := hcells_app e1
  have e3 : hcells (hp1 ++ [AO.cells (fcells q hp.length q.sm.length)]) hp1.length = some (fcells q hp.length q.sm.length) := hcells_last
  generalize hp1 ++ [AO.cells (fcells q hp.length q.sm.length)] = hp2 at e2 e3
  have hne : hp1.length ≠ hp.length := by omega
  generalize hp1.length = fid at e3 hne
  generalize hp.length = oid at e2 e3 hne
  have key : ∀ (k m : Nat) (a' : List Int) (hp' : List AO), q.fn.length - m = k → a'.length = q.sm.length → applyA (fallsA q.sm FF) (List.replicate q.sm.length 0) = applyA (fallsA q.sm (FF.drop m)) a' → hcells hp' fid = some (fcells q oid q.sm.length) → hcells hp' oid = some (a'.map eI) →
      J1 (.ptr fid 0) (.sl .no 6 (q.fn.map eFn)) (eN q.fn.length) (eN m) hp' := by
    intro k
    induction k with
    | zero =>
      intro m a' hp' hk ha' e hf' ho'
      apply h1
      have hnl : ¬ m < q.fn.length := by omega
      simp -implicitDefEqProofs (maxSteps := 5000000) (disch := omega) only [s22_1, hnl, go_sem, Nat.reduceBEq, Nat.reduceBNe, reduceIte, reduceCtorEq, Nat.reduceLeDiff, Nat.reduceAdd, Nat.reduceEqDiff]
      apply h2
      simp -implicitDefEqProofs (maxSteps := 5000000) (disch := omega) only [s22_2, fld3 hf', nlArr, go_sem, Nat.reduceBEq, Nat.reduceBNe, reduceIte, reduceCtorEq, Nat.reduceLeDiff, Nat.reduceAdd, Nat.reduceEqDiff]
      refine hQ hp' oid ?_
      rw [e, List.drop_eq_nil_of_le (by omega)]
      exact ho'
    | succ k ihk =>
      intro m a' hp' hk ha' e hf' ho'
      have hlt : m < q.fn.length := by omega
      have hlt2 : m < FF.length := by omega
      have hmem : FF[m] ∈ FF := List.getElem_mem hlt2
      have hd : FF.drop m = FF[m] :: FF.drop (m + 1) := List.drop_eq_getElem_cons hlt2
      have hbody : (q.fn[m]'hlt).body = (FF[m]'hlt2).map ST.root := by
        have := congrArg (fun l => l[m]?) P.body
        simp only [List.getElem?_map, List.getElem?_eq_getElem hlt, List.getElem?_eq_getElem hlt2, Option.map_some, Option.some.injEq] at this
        exact this
      have hfm : q.fn[m]? = some (q.fn[m]'hlt) := List.getElem?_eq_getElem hlt
      have hszF := szP P hmem
      have hrF := P.rep _ hmem
      rw [hd] at e
      generalize FF[m]'hlt2 = F at hmem hd hbody e hszF hrF
      generalize q.fn[m]'hlt = f at hbody hfm
      apply h1
      simp -implicitDefEqProofs (maxSteps := 5000000) (disch := omega) only [s22_1, hlt, hfm, nlocFn', okvFn', udFn0, ldFnA, ldFn5, nlocPtr, hbody, go_sem, Nat.reduceBEq, Nat.reduceBNe, reduceIte, reduceCtorEq, Nat.reduceLeDiff, Nat.reduceAdd, Nat.reduceEqDiff]
      refine flist_ok hsm hne _ F (-1) a' hp' _ (Nat.le_refl _) (by omega) hrF ha' hf' ho' fun hp3 hf3 ho3 => ?_
      simp -implicitDefEqProofs (maxSteps := 5000000) (disch := omega) only [go_sem, Nat.reduceBEq, Nat.reduceBNe, reduceIte, reduceCtorEq, Nat.reduceLeDiff, Nat.reduceAdd, Nat.reduceEqDiff]
      refine ihk (m + 1) _ hp3 (by omega) (by rw [applyA_length]; exact ha') ?_ hf3 ho3
      rw [e]
      simp only [fallsA, List.flatMap_cons, applyA_append]
  exact key _ 0 _ hp2 rfl (List.length_replicate ..) (by rw [List.drop_zero]) e3 e2
end
end Go.Proofs.Ytnldohnfdeineaa.Abs
/- Where statements stand: the walks of lay and Places. -/
namespace Go.Proofs.Ytnldohnfdeineaa.Abs
open Go
set_option maxRecDepth 100000
section
variable {q : PT} {FF : List (List ST)}
def eAt (x : At) : List AV := [.sl .no 1 (x.list.map eN), eN x.place, eI x.in_, eI x.lp]
def at0 : List AV := [.sl .cap0 1 [], eI 0, eI 0, eI 0]
def atW (l : List (Nat × At)) : List (Nat × List AV) := l.map fun p => (p.1, eAt p.2)
theorem atW_cons {p : Nat × At} {a : List (Nat × At)} : atW (p :: a) = (p.1, eAt p.2) :: atW a := rfl
theorem atW_append {a b : List (Nat × At)} : atW (a ++ b) = atW a ++ atW b := List.map_append
theorem ixa_own {e id n i : Nat} {k : IntKind} (h : i < n) : ixaV e (.arr id e 0 n) (.int k (i : Int)) = some (.ptr id (i * e)) := ixa_arrE h
def AOk (n : Nat) (A : List (List AV)) : Prop := A.length = n ∧ ∀ c ∈ A, c.length = 4
theorem AOk.set {n : Nat} {A : List (List AV)} (h : AOk n A) {i : Nat} {x : At} : AOk n (A.set i (eAt x)) := ⟨by rw [List.length_set]; exact h.1, fun c hc => by
  rcases List.mem_or_eq_of_mem_set hc with hc | rfl
  · exact h.2 _ hc
  · rfl⟩
theorem AOk.apply {n : Nat} : ∀ {l : List (Nat × At)} {A : List (List AV)}, AOk n A → AOk n (applyA (atW l) A)
  | [], A, h => h
  | p :: l, A, h => (h.set (i := p.1) (x := p.2)).apply (l := l)
theorem st_at {hp : List AO} {id i n : Nat} {A : List (List AV)} {x : At} (h : hcells hp id = some A.flatten) (hA : AOk n A) (hi : i < n) : stH hp 4 (.agg (eAt x)) (.ptr id (i * 4)) = some (hp.set id (.cells (A.set i (eAt x)).flatten)) := by
  have hk : okv 4 (.agg (eAt x)) = true := rfl
  rw [stH_ptr, hk]
  simp only [h, Option.bind_some]
  rw [show (AV.cells (.agg (eAt x))) = eAt x from rfl, upd_flat hA.2 rfl (by rw [hA.1]; exact hi)]
  rfl
theorem bldAt {v : List Nat} {k : Nat} {a b : Int} : bld [.sl .cap0 1 [], .int .i64 0, .int .i64 0, .int .i64 0] [(0, 1, .sl .no 1 (v.map eN)), (1, 1, eN k), (2, 1, eI a), (3, 1, eI b)] = some (.agg (eAt ⟨v, k, a, b⟩)) := rfl
/-- lay writes down where statements stand. -/
theorem lay_ok (hss : q.sm.length ≤ 1000) {oid j : Nat} {cs : List AV} (hjo : oid ≠ j) : ∀ (n : Nat) (F : List ST) (i0 lp : Int) (A : List (List AV)) (hp : List AO) (Q : ARes → List AO → Prop), szL F ≤ n → szL F < 1000000 → repL q.sm F → AOk q.sm.length A → hcells hp oid = some A.flatten → hcells hp j = some cs →
    (∀ hp', hcells hp' j = some cs → hcells hp' oid = some (applyA (atW (layL q.sm (F.map ST.root) 0 i0 lp F)) A).flatten → Q (.ret (.arr oid 4 0 q.sm.length)) hp') → callK CC 36 [eTr q, .arr oid 4 0 q.sm.length, .sl .no 1 ((F.map ST.root).map eN), eI i0, eI lp] hp Q := by
  intro n
  induction n with
  | zero =>
    intro F i0 lp A hp Q hn hn2 hr hA ho hj hQ
    cases F with
    | cons t F => obtain ⟨i, th, el⟩ := t; simp only [szL, ST.sz] at hn; omega
    | nil =>
      refine callK_intro rfl (c36 ?_)
      simp only [s36]
      intro J1 J2 J3 J4 h1 h2 h3 h4
      simp -implicitDefEqProofs (maxSteps := 5000000) (disch := omega) only [s36_0, memTr, nlocTr, nlocArr, go_sem, Nat.reduceBEq, Nat.reduceBNe, reduceIte, reduceCtorEq, Nat.reduceLeDiff, Nat.reduceAdd, Nat.reduceEqDiff]
      apply h1
      simp -implicitDefEqProofs (maxSteps := 5000000) (disch := omega) only [s36_1, List.map_nil, List.length_nil, Nat.lt_irrefl, go_sem, Nat.reduceBEq, Nat.reduceBNe, reduceIte, reduceCtorEq, Nat.reduceLeDiff, Nat.reduceAdd, Nat.reduceEqDiff]
      apply h4
      simp -implicitDefEqProofs (maxSteps := 5000000) (disch := omega) only [s36_4, nlArr, go_sem, Nat.reduceBEq, Nat.reduceBNe, reduceIte, reduceCtorEq, Nat.reduceLeDiff, Nat.reduceAdd, Nat.reduceEqDiff]
      exact hQ hp hj ho
  | succ n ih =>
    intro F i0 lp A hp Q hn hn2 hr hA ho hj hQ
    refine callK_intro rfl (c36 ?_)
    simp only [s36]
    intro J1 J2 J3 J4 h1 h2 h3 h4
    simp -implicitDefEqProofs (maxSteps := 5000000) (disch := omega) only [s36_0, memTr, nlocTr, nlocArr, go_sem, Nat.reduceBEq, Nat.reduceBNe, reduceIte, reduceCtorEq, Nat.reduceLeDiff, Nat.reduceAdd, Nat.reduceEqDiff]
    have hlF := len_sz F
    have hlen : (F.map ST.root).length = F.length := List.length_map _
    have key : ∀ (k m : Nat) (A' : List (List AV)) (hp' : List AO), F.length - m = k → AOk q.sm.length A' → applyA (atW (layL q.sm (F.map ST.root) 0 i0 lp F)) A = applyA (atW (layL q.sm (F.map ST.root) m i0 lp (F.drop m))) A' → hcells hp' oid = some A'.flatten → hcells hp' j = some cs →
        J1 (.arr oid 4 0 q.sm.length) (.sl .no 1 ((F.map ST.root).map eN)) (eI i0) (eI lp) (eN (F.map ST.root).length) (eN m) (AV.cells (eTr q)) hp' := by
      intro k
      induction k with
      | zero =>
        intro m A' hp' hk hA' e ho' hj'
        apply h1
        have hnl : ¬ m < (F.map ST.root).length := by omega
        simp -implicitDefEqProofs (maxSteps := 5000000) (disch := omega) only [s36_1, hnl, go_sem, Nat.reduceBEq, Nat.reduceBNe, reduceIte, reduceCtorEq, Nat.reduceLeDiff, Nat.reduceAdd, Nat.reduceEqDiff]
        apply h4
        simp -implicitDefEqProofs (maxSteps := 5000000) (disch := omega) only [s36_4, nlArr, go_sem, Nat.reduceBEq, Nat.reduceBNe, reduceIte, reduceCtorEq, Nat.reduceLeDiff, Nat.reduceAdd, Nat.reduceEqDiff]
        refine hQ hp' hj' ?_
        rw [e, List.drop_eq_nil_of_le (by omega)]
        exact ho'
      | succ k ihk =>
        intro m A' hp' hk hA' e ho' hj'
        have hlt : m < F.length := by omega
        have hlt' : m < (F.map ST.root).length := by omega
        have hmem : F[m] ∈ F := List.getElem_mem hlt
        have hsz := sz_mem hmem
        have hrt := repL_iff.1 hr _ hmem
        have hd : F.drop m = F[m] :: F.drop (m + 1) := List.drop_eq_getElem_cons hlt
        have hxm : (F.map ST.root)[m]? = some (F[m].root) := by rw [List.getElem?_map, List.getElem?_eq_getElem hlt]; rfl
        rw [hd] at e
        generalize F[m] = t at hmem hsz hrt hd hxm e
        obtain ⟨i, th, el⟩ := t
        unfold ST.rep at hrt
        obtain ⟨⟨sx, hsx, K, hth, hel⟩, hrt1, hrt2⟩ := hrt
        have hi : i < q.sm.length := (List.getElem?_eq_some_iff.1 hsx).1
        have hkOf : kOf q.sm i = sx.k := by simp only [kOf, hsx]
        simp only [ST.sz] at hsz
        simp only [ST.root] at hxm
        generalize hlst : F.map ST.root = lst at *
        have hst := st_at (x := ⟨lst, m, i0, lp⟩) ho' hA' hi
        have hA1 : AOk q.sm.length (A'.set i (eAt ⟨lst, m, i0, lp⟩)) := hA'.set
        have ho1 : hcells (hp'.set oid (.cells (A'.set i (eAt ⟨lst, m, i0, lp⟩)).flatten)) oid = some (A'.set i (eAt ⟨lst, m, i0, lp⟩)).flatten := hcells_self ho'
        have hj1 : hcells (hp'.set oid (.cells (A'.set i (eAt ⟨lst, m, i0, lp⟩)).flatten)) j = some cs := hcells_set hj' hjo
        generalize hp'.set oid (.cells (A'.set i (eAt ⟨lst, m, i0, lp⟩)).flatten) = hp1 at hst ho1 hj1
        have j2 : J2 (.arr oid 4 0 q.sm.length) (.sl .no 1 (lst.map eN)) (eI i0) (eI lp) (eN m) (eI (inner q.sm i lp)) (eN lst.length) (eN m) (AV.cells (eTr q)) (AV.cells (eSm sx)) hp1 := by
          apply h2
          simp -implicitDefEqProofs (maxSteps := 5000000) (disch := omega) only [s36_2, ldTr, ldY7, ldY8, hth, hel, hxm, go_sem, Nat.reduceBEq, Nat.reduceBNe, reduceIte, reduceCtorEq, Nat.reduceLeDiff, Nat.reduceAdd, Nat.reduceEqDiff]
          refine ih th i (inner q.sm i lp) _ _ _ (by omega) (by omega) hrt1 hA1 ho1 hj1 fun hp2 hj2 ho2 => ?_
          simp -implicitDefEqProofs (maxSteps := 5000000) (disch := omega) only [nlArr, ldTr, hxm, go_sem, Nat.reduceBEq, Nat.reduceBNe, reduceIte, reduceCtorEq, Nat.reduceLeDiff, Nat.reduceAdd, Nat.reduceEqDiff]
          refine ih el i (inner q.sm i lp) _ _ _ (by omega) (by omega) hrt2 hA1.apply ho2 hj2 fun hp3 hj3 ho3 => ?_
          simp -implicitDefEqProofs (maxSteps := 5000000) (disch := omega) only [nlArr, go_sem, Nat.reduceBEq, Nat.reduceBNe, reduceIte, reduceCtorEq, Nat.reduceLeDiff, Nat.reduceAdd, Nat.reduceEqDiff]
          apply h3
          simp -implicitDefEqProofs (maxSteps := 5000000) (disch := omega) only [s36_3, go_sem, Nat.reduceBEq, Nat.reduceBNe, reduceIte, reduceCtorEq, Nat.reduceLeDiff, Nat.reduceAdd, Nat.reduceEqDiff]
          refine ihk (m + 1) _ hp3 (by omega) hA1.apply.apply ?_ ho3 hj3
          rw [e]
          simp only [layL, ST.lay, atW_append, atW_cons, applyA_cons, applyA_append]
        apply h1
        by_cases k6 : sx.k = 6
        · simp -implicitDefEqProofs (maxSteps := 5000000) (disch := omega) only [s36_1, hlt', hxm, nlocArr, nlocTr, ldTr1, hsx, ldSm, okvSm, nlocSm, udY0, ldY0, bldAt, ixa_own hi, hst, eq_true k6, go_sem, Nat.reduceBEq, Nat.reduceBNe, reduceIte, reduceCtorEq, Nat.reduceLeDiff, Nat.reduceAdd, Nat.reduceEqDiff]
          have : inner q.sm i lp = (i : Int) := by unfold inner; rw [hkOf, if_pos k6]
          rw [this] at j2
          exact j2
        · simp -implicitDefEqProofs (maxSteps := 5000000) (disch := omega) only [s36_1, hlt', hxm, nlocArr, nlocTr, ldTr1, hsx, ldSm, okvSm, nlocSm, udY0, ldY0, bldAt, ixa_own hi, hst, eq_false k6, go_sem, Nat.reduceBEq, Nat.reduceBNe, reduceIte, reduceCtorEq, Nat.reduceLeDiff, Nat.reduceAdd, Nat.reduceEqDiff]
          have : inner q.sm i lp = lp := by unfold inner; rw [hkOf, if_neg k6]
          rw [this] at j2
          exact j2
    exact key _ 0 A hp rfl hA (by rw [List.drop_zero]) ho hj
/-- Places yields what layA says. -/
theorem places_ok (R : Right q FF) {hp : List AO} {Q : ARes → List AO → Prop} {j : Nat} {cs : List AV} (hj : hcells hp j = some cs)
    (hQ : ∀ hp' oid, hcells hp' j = some cs → hcells hp' oid = some (applyA (atW (layA q.sm FF)) (List.replicate q.sm.length at0)).flatten → Q (.ret (.arr oid 4 0 q.sm.length)) hp') : callK CC 23 [eTr q] hp Q := by
  have P := R.prog
  have hsm := R.sm
  have hfn := R.fn
  have hFl : FF.length = q.fn.length := by
    have := congrArg List.length P.body
    simpa using this.symm
  refine callK_intro rfl (c23 ?_)
  simp only [s23]
  intro J1 J2 h1 h2
  have hmk := mkA_nat (hp := hp) (z := at0) (show q.sm.length < 1000000 by omega)
  rw [show at0.length = 4 from rfl] at hmk
  simp only [at0] at hmk
  simp -implicitDefEqProofs (maxSteps := 5000000) (disch := omega) only [s23_0, memTr, nlocTr, ldTr, ldTr0, ldTr1, ldTr2, hmk, nlArr, nlocArr, go_sem, Nat.reduceBEq, Nat.reduceBNe, reduceIte, reduceCtorEq, Nat.reduceLeDiff, Nat.reduceAdd, Nat.reduceEqDiff]
  have e2 : hcells (hp ++ [AO.cells (List.replicate q.sm.length at0).flatten]) hp.length = some (List.replicate q.sm.length at0).flatten := hcells_last
  have ej : hcells (hp ++ [AO.cells (List.replicate q.sm.length at0).flatten]) j = some cs := hcells_app hj
  have hlt := hcells_lt hj
  have hne : hp.length ≠ j := by omega
  simp only [at0] at e2 ej
  generalize hp ++ [AO.cells (List.replicate q.sm.length [.sl .cap0 1 [], eI 0, eI 0, eI 0]).flatten] = hp2 at e2 ej
  generalize hp.length = oid at e2 hne
  have key : ∀ (k m : Nat) (A' : List (List AV)) (hp' : List AO), q.fn.length - m = k → AOk q.sm.length A' → applyA (atW (layA q.sm FF)) (List.replicate q.sm.length at0) = applyA (atW (layA q.sm (FF.drop m))) A' → hcells hp' oid = some A'.flatten → hcells hp' j = some cs →
      J1 (.arr oid 4 0 q.sm.length) (eN q.fn.length) (eN m) (AV.cells (eTr q)) hp' := by
    intro k
    induction k with
    | zero =>
      intro m A' hp' hk hA' e ho' hj'
      apply h1
      have hnl : ¬ m < q.fn.length := by omega
      simp -implicitDefEqProofs (maxSteps := 5000000) (disch := omega) only [s23_1, hnl, go_sem, Nat.reduceBEq, Nat.reduceBNe, reduceIte, reduceCtorEq, Nat.reduceLeDiff, Nat.reduceAdd, Nat.reduceEqDiff]
      apply h2
      simp -implicitDefEqProofs (maxSteps := 5000000) (disch := omega) only [s23_2, nlArr, go_sem, Nat.reduceBEq, Nat.reduceBNe, reduceIte, reduceCtorEq, Nat.reduceLeDiff, Nat.reduceAdd, Nat.reduceEqDiff]
      refine hQ hp' oid hj' ?_
      rw [e, List.drop_eq_nil_of_le (by omega)]
      exact ho'
    | succ k ihk =>
      intro m A' hp' hk hA' e ho' hj'
      have hlt : m < q.fn.length := by omega
      have hlt2 : m < FF.length := by omega
      have hmem : FF[m] ∈ FF := List.getElem_mem hlt2
      have hd : FF.drop m = FF[m] :: FF.drop (m + 1) := List.drop_eq_getElem_cons hlt2
      have hbody : (q.fn[m]'hlt).body = (FF[m]'hlt2).map ST.root := by
        have := congrArg (fun l => l[m]?) P.body
        simp only [List.getElem?_map, List.getElem?_eq_getElem hlt, List.getElem?_eq_getElem hlt2, Option.map_some, Option.some.injEq] at this
        exact this
      have hfm : q.fn[m]? = some (q.fn[m]'hlt) := List.getElem?_eq_getElem hlt
      have hszF := szP P hmem
      have hrF := P.rep _ hmem
      rw [hd] at e
      generalize FF[m]'hlt2 = F at hmem hd hbody e hszF hrF
      generalize q.fn[m]'hlt = f at hbody hfm
      apply h1
      simp -implicitDefEqProofs (maxSteps := 5000000) (disch := omega) only [s23_1, hlt, hfm, ldTr, ldTr2, nlocFn', okvFn', udFn0, ldFnA, ldFn5, nlocArr, hbody, go_sem, Nat.reduceBEq, Nat.reduceBNe, reduceIte, reduceCtorEq, Nat.reduceLeDiff, Nat.reduceAdd, Nat.reduceEqDiff]
      refine lay_ok hsm hne _ F (-1) (-1) A' hp' _ (Nat.le_refl _) (by omega) hrF hA' ho' hj' fun hp3 hj3 ho3 => ?_
      simp -implicitDefEqProofs (maxSteps := 5000000) (disch := omega) only [nlArr, go_sem, Nat.reduceBEq, Nat.reduceBNe, reduceIte, reduceCtorEq, Nat.reduceLeDiff, Nat.reduceAdd, Nat.reduceEqDiff]
      refine ihk (m + 1) _ hp3 (by omega) hA'.apply ?_ ho3 hj3
      rw [e]
      simp only [layA, List.flatMap_cons, atW_append, applyA_append]
  refine key _ 0 _ hp2 rfl ⟨List.length_replicate .., fun c hc => ?_⟩ (by rw [List.drop_zero]; rfl) e2 ej
  rw [List.eq_of_mem_replicate hc]; rfl
end
end Go.Proofs.Ytnldohnfdeineaa.Abs
/- What comes behind a statement: the walk of Behind, and law 9's. -/
namespace Go.Proofs.Ytnldohnfdeineaa.Abs
open Go
set_option maxRecDepth 100000
section
variable {q : PT} {FF : List (List ST)}
def Behind (q : PT) (aid : Nat) (A : List (List AV)) (i : Nat) (b : Int) : Prop := ∀ (hp : List AO) (Q : ARes → List AO → Prop), hcells hp aid = some A.flatten → Q (.ret (eI b)) hp → callK CC 24 [eTr q, .arr aid 4 0 q.sm.length, eN i] hp Q
theorem ld_at {hp : List AO} {aid i n : Nat} {A : List (List AV)} {x : At} (h : hcells hp aid = some A.flatten) (hA : AOk n A) (hx : A[i]? = some (eAt x)) : ldH hp 4 true (.ptr aid (i * 4)) = some (.agg (eAt x)) := by
  rw [ldH_ptr, h, Option.bind_some, ld_true, sub_flat hA.2 hx]; rfl
theorem neg1_lt : ((-1 : Int) < 0) = True := by decide
theorem okvAt {x : At} : okv 4 (.agg (eAt x)) = true := rfl
theorem nlocAt {x : At} {d} : notLoc d (.agg (eAt x)) = true := rfl
theorem udAt {x : At} {a b c d : AV} : upd 0 (eAt x) [a, b, c, d] = some (eAt x) := rfl
theorem ldAt0 {x : At} : ld 1 false (eAt x) 0 = some (.sl .no 1 (x.list.map eN)) := rfl
theorem ldAt1 {x : At} : ld 1 false (eAt x) 1 = some (eN x.place) := rfl
theorem ldAt2 {x : At} : ld 1 false (eAt x) 2 = some (eI x.in_) := rfl
theorem behind_1 (hsm : q.sm.length ≤ 1000) {aid : Nat} {A : List (List AV)} (hA : AOk q.sm.length A) {i : Nat} (hi : i < q.sm.length) {x : At} (hx : A[i]? = some (eAt x)) (hp1 : x.place < 1000000) {b : Nat} (hn : x.list[x.place + 1]? = some b) : Behind q aid A i b := by
  intro hp Q hh hQ
  refine callK_intro rfl (c24 ?_)
  have hlt := (List.getElem?_eq_some_iff.1 hn).1
  simp -implicitDefEqProofs (maxSteps := 5000000) (disch := omega) only [s24, s24_0, memTr, nlocTr, nlocArr, ixa_own hi, ld_at hh hA hx, nlocPtr, nlocAt, okvAt, udAt, ldAt0, ldAt1, hlt, hn, go_sem, Nat.reduceBEq, Nat.reduceBNe, reduceIte, reduceCtorEq, Nat.reduceLeDiff, Nat.reduceAdd, Nat.reduceEqDiff]
  exact hQ
theorem behind_2 (hsm : q.sm.length ≤ 1000) {aid : Nat} {A : List (List AV)} (hA : AOk q.sm.length A) {i : Nat} (hi : i < q.sm.length) {x : At} (hx : A[i]? = some (eAt x)) (hp1 : x.place < 1000000) (hn : ¬ x.place + 1 < x.list.length) (hin : x.in_ = -1) : Behind q aid A i (-1) := by
  intro hp Q hh hQ
  refine callK_intro rfl (c24 ?_)
  simp -implicitDefEqProofs (maxSteps := 5000000) (disch := omega) only [s24, s24_0, memTr, nlocTr, nlocArr, ixa_own hi, ld_at hh hA hx, nlocPtr, nlocAt, okvAt, udAt, ldAt0, ldAt1, ldAt2, hn, hin, neg1_lt, go_sem, Nat.reduceBEq, Nat.reduceBNe, reduceIte, reduceCtorEq, Nat.reduceLeDiff, Nat.reduceAdd, Nat.reduceEqDiff]
  exact hQ
theorem behind_3 (hsm : q.sm.length ≤ 1000) {aid : Nat} {A : List (List AV)} (hA : AOk q.sm.length A) {i : Nat} (hi : i < q.sm.length) {x : At} (hx : A[i]? = some (eAt x)) (hp1 : x.place < 1000000) (hn : ¬ x.place + 1 < x.list.length) {p : Nat} (hin : x.in_ = (p : Int)) {sx : Sm} (hsx : q.sm[p]? = some sx) {b : Int} (hb : if sx.k = 6 then b = (p : Int) else Behind q aid A p b) : Behind q aid A i b := by
  intro hp Q hh hQ
  refine callK_intro rfl (c24 ?_)
  by_cases k6 : sx.k = 6
  · rw [if_pos k6] at hb
    subst hb
    simp -implicitDefEqProofs (maxSteps := 5000000) (disch := omega) only [s24, s24_0, memTr, nlocTr, nlocArr, ixa_own hi, ld_at hh hA hx, nlocPtr, nlocAt, okvAt, udAt, ldAt0, ldAt1, ldAt2, hn, hin, Nat.not_lt_zero, ldTr1, hsx, ldY0, eq_true k6, go_sem, Nat.reduceBEq, Nat.reduceBNe, reduceIte, reduceCtorEq, Nat.reduceLeDiff, Nat.reduceAdd, Nat.reduceEqDiff]
    exact hQ
  · rw [if_neg k6] at hb
    simp -implicitDefEqProofs (maxSteps := 5000000) (disch := omega) only [s24, s24_0, memTr, nlocTr, nlocArr, ixa_own hi, ld_at hh hA hx, nlocPtr, nlocAt, okvAt, udAt, ldAt0, ldAt1, ldAt2, hn, hin, Nat.not_lt_zero, ldTr1, hsx, ldY0, eq_false k6, ldTr, go_sem, Nat.reduceBEq, Nat.reduceBNe, reduceIte, reduceCtorEq, Nat.reduceLeDiff, Nat.reduceAdd, Nat.reduceEqDiff]
    refine hb _ _ hh ?_
    simp -implicitDefEqProofs (maxSteps := 5000000) (disch := omega) only [go_sem, Nat.reduceBEq, Nat.reduceBNe, reduceIte, reduceCtorEq, Nat.reduceLeDiff, Nat.reduceAdd, Nat.reduceEqDiff]
    exact hQ
/-- What comes behind a list's last one. -/
def Par (q : PT) (aid : Nat) (A : List (List AV)) (in_ b : Int) : Prop := (in_ = -1 ∧ b = -1) ∨ ∃ (p : Nat) (sx : Sm), in_ = (p : Int) ∧ q.sm[p]? = some sx ∧ (if sx.k = 6 then b = (p : Int) else Behind q aid A p b)
mutual
theorem beh_t (hsm : q.sm.length ≤ 1000) {aid : Nat} {A : List (List AV)} (hA : AOk q.sm.length A) : ∀ {t : ST} {x : At} {b : Int}, t.rep q.sm → (∀ p ∈ t.lay q.sm x, A[p.1]? = some (eAt p.2)) → t.sz < 1000000 → Behind q aid A t.root b → ∀ p ∈ t.falls q.sm b, Behind q aid A p.1 p.2
  | .nd i th el, x, b, hr, hl, hs, hb => by
    unfold ST.rep at hr
    obtain ⟨⟨sx, hsx, K, hth, hel⟩, hrt1, hrt2⟩ := hr
    have hkOf : kOf q.sm i = sx.k := by simp only [kOf, hsx]
    simp only [ST.root] at hb
    simp only [ST.sz] at hs
    have par : Par q aid A i (inner q.sm i b) := by
      refine .inr ⟨i, sx, rfl, hsx, ?_⟩
      unfold inner
      rw [hkOf]
      by_cases k6 : sx.k = 6
      · rw [if_pos k6, if_pos k6]
      · rw [if_neg k6, if_neg k6]; exact hb
    intro p hp
    simp only [ST.falls, List.mem_cons, List.mem_append] at hp
    simp only [ST.lay, List.mem_cons, List.mem_append] at hl
    rcases hp with rfl | hp | hp
    · exact hb
    · exact beh_l hsm hA (lst := th.map ST.root) (k := 0) (by simp) (by have := len_sz th; simp only [List.length_map]; omega) par hrt1 (fun p h => hl p (.inr (.inl h))) (by omega) p hp
    · exact beh_l hsm hA (lst := el.map ST.root) (k := 0) (by simp) (by have := len_sz el; simp only [List.length_map]; omega) par hrt2 (fun p h => hl p (.inr (.inr h))) (by omega) p hp
theorem beh_l (hsm : q.sm.length ≤ 1000) {aid : Nat} {A : List (List AV)} (hA : AOk q.sm.length A) : ∀ {l : List ST} {lst : List Nat} {k : Nat} {i0 lp b : Int}, lst.drop k = l.map ST.root → lst.length < 1000000 → Par q aid A i0 b → repL q.sm l → (∀ p ∈ layL q.sm lst k i0 lp l, A[p.1]? = some (eAt p.2)) → szL l < 1000000 → ∀ p ∈ fallsL q.sm b l, Behind q aid A p.1 p.2
  | [], lst, k, i0, lp, b, hd, hk, hpar, hr, hl, hs => fun p hp => by simp only [fallsL] at hp; cases hp
  | t :: l, lst, k, i0, lp, b, hd, hk, hpar, hr, hl, hs => by
    unfold repL at hr
    simp only [szL] at hs
    simp only [layL, List.mem_append] at hl
    have hd1 : lst.drop (k + 1) = l.map ST.root := by
      rw [← List.tail_drop, hd]; rfl
    have hkl : k < lst.length := by
      have := congrArg List.length hd
      simp only [List.length_drop, List.length_map, List.length_cons] at this
      omega
    have hat : A[t.root]? = some (eAt ⟨lst, k, i0, lp⟩) := by
      refine hl (t.root, ⟨lst, k, i0, lp⟩) (.inl ?_)
      obtain ⟨i, th, el⟩ := t
      simp only [ST.lay, ST.root, List.mem_cons, true_or]
    have hi : t.root < q.sm.length := by
      obtain ⟨i, th, el⟩ := t
      have := hr.1
      unfold ST.rep at this
      obtain ⟨⟨sx, hsx, _⟩, _⟩ := this
      exact (List.getElem?_eq_some_iff.1 hsx).1
    intro p hp
    simp only [fallsL, List.mem_append] at hp
    rcases hp with hp | hp
    · refine beh_t hsm hA hr.1 (fun p h => hl p (.inl h)) (by omega) ?_ p hp
      cases l with
      | nil =>
        simp only [nextB]
        have hn : ¬ k + 1 < lst.length := by
          have := congrArg List.length hd1
          simp only [List.length_drop, List.length_map, List.length_nil] at this
          omega
        rcases hpar with ⟨rfl, rfl⟩ | ⟨p, sx, rfl, hsx, hb⟩
        · exact behind_2 hsm hA hi hat (show k < 1000000 by omega) hn rfl
        · exact behind_3 hsm hA hi hat (show k < 1000000 by omega) hn rfl hsx hb
      | cons u l =>
        simp only [nextB]
        refine behind_1 hsm hA hi hat (show k < 1000000 by omega) (b := u.root) ?_
        have := congrArg (fun l => l[0]?) hd1
        simp only [List.getElem?_drop, List.map_cons, List.getElem?_cons_zero, Nat.add_zero] at this
        exact this
    · exact beh_l hsm hA hd1 hk hpar hr.2 (fun p h => hl p (.inr h)) (by omega) p hp
end
theorem atW_keys {l : List (Nat × At)} : (atW l).map Prod.fst = l.map Prod.fst := by
  simp only [atW, List.map_map]; rfl
/-- The place behind each statement is where it falls. -/
theorem beh_all (R : Right q FF) {aid i : Nat} (hi : i < q.sm.length) : ∃ b : Int, (applyA (fallsA q.sm FF) (List.replicate q.sm.length 0))[i]? = some b ∧ Behind q aid (applyA (atW (layA q.sm FF)) (List.replicate q.sm.length at0)) i b := by
  have P := R.prog
  have hA0 : AOk q.sm.length (List.replicate q.sm.length at0) := ⟨List.length_replicate .., fun c hc => by rw [List.eq_of_mem_replicate hc]; rfl⟩
  have hA := hA0.apply (l := layA q.sm FF)
  have hm := P.mem hi
  rw [← fallsA_keys (sm := q.sm)] at hm
  obtain ⟨⟨i', b⟩, hmb, rfl⟩ := List.mem_map.1 hm
  refine ⟨b, applyA_get _ (by rw [fallsA_keys]; exact P.nodup) hmb (by rw [List.length_replicate]; exact hi), ?_⟩
  have hat : ∀ p ∈ layA q.sm FF, (applyA (atW (layA q.sm FF)) (List.replicate q.sm.length at0))[p.1]? = some (eAt p.2) := by
    intro p hp
    have hlt : p.1 < q.sm.length := P.lt (by rw [← layA_keys (sm := q.sm)]; exact List.mem_map_of_mem hp)
    refine applyA_get _ (by rw [atW_keys, layA_keys]; exact P.nodup) ?_ (by rw [List.length_replicate]; exact hlt)
    exact List.mem_map_of_mem (f := fun p => (p.1, eAt p.2)) hp
  simp only [fallsA, List.mem_flatMap] at hmb
  obtain ⟨F, hF, hmb⟩ := hmb
  have hsz := szP P hF
  have hss := R.sm
  refine beh_l R.sm hA (lst := F.map ST.root) (k := 0) (i0 := -1) (lp := -1) (by simp) ?_ (.inl ⟨rfl, rfl⟩) (P.rep F hF) (fun p h => hat p ?_) (by omega) (i', b) hmb
  · have := len_sz F
    simp only [List.length_map]; omega
  · simp only [layA, List.mem_flatMap]
    exact ⟨F, hF, h⟩
end
end Go.Proofs.Ytnldohnfdeineaa.Abs
/- Law 9's walk. -/
namespace Go.Proofs.Ytnldohnfdeineaa.Abs
open Go
set_option maxRecDepth 100000
/-- The walk of LeanFalls; what it takes for the example to be awake stands ahead. -/
theorem law9_ok (haw : ∀ {Q : ARes → List AO → Prop}, (∀ hp', Q (.ret (.bool true)) hp') → callK CC 21 [] [] Q) {x : List Nat} {Q : ARes → List AO → Prop} (hQ : ∀ hp', Q (.ret (.bool true)) hp') : callK CC 9 [.str x] [] Q := by
  refine callK_intro rfl (c9 ?_)
  simp only [s9]
  intro J1 J2 h1 h2
  simp -implicitDefEqProofs (maxSteps := 5000000) (disch := omega) only [s9_0, go_sem, Nat.reduceBEq, Nat.reduceBNe, reduceIte, reduceCtorEq, Nat.reduceLeDiff, Nat.reduceAdd, Nat.reduceEqDiff]
  refine haw fun hp1 => ?_
  simp -implicitDefEqProofs (maxSteps := 5000000) (disch := omega) only [go_sem, Nat.reduceBEq, Nat.reduceBNe, reduceIte, reduceCtorEq, Nat.reduceLeDiff, Nat.reduceAdd, Nat.reduceEqDiff]
  refine right_ok (fun hp2 q FF R hj => ?_) (fun hp2 q => ?_)
  · have hss := R.sm
    simp -implicitDefEqProofs (maxSteps := 5000000) (disch := omega) only [nlocTr, nlTr', okvTr', udTr0', ldTr, go_sem, Nat.reduceBEq, Nat.reduceBNe, reduceIte, reduceCtorEq, Nat.reduceLeDiff, Nat.reduceAdd, Nat.reduceEqDiff]
    refine falls_ok R fun hp3 oid ho => ?_
    simp -implicitDefEqProofs (maxSteps := 5000000) (disch := omega) only [nlArr, nlocArr, len_arr, ldTr, ldTr1, go_sem, Nat.reduceBEq, Nat.reduceBNe, reduceIte, reduceCtorEq, Nat.reduceLeDiff, Nat.reduceAdd, Nat.reduceEqDiff]
    refine places_ok R ho fun hp4 aid ho4 ha4 => ?_
    simp -implicitDefEqProofs (maxSteps := 5000000) (disch := omega) only [nlArr, nlocArr, len_arr, go_sem, Nat.reduceBEq, Nat.reduceBNe, reduceIte, reduceCtorEq, Nat.reduceLeDiff, Nat.reduceAdd, Nat.reduceEqDiff]
    have hA0 : AOk q.sm.length (List.replicate q.sm.length at0) := ⟨List.length_replicate .., fun c hc => by rw [List.eq_of_mem_replicate hc]; rfl⟩
    have hA := hA0.apply (l := layA q.sm FF)
    have hlen : (applyA (fallsA q.sm FF) (List.replicate q.sm.length (0 : Int))).length = q.sm.length := by rw [applyA_length, List.length_replicate]
    have key : ∀ (k i : Nat), q.sm.length - i = k → J1 (.arr oid 1 0 q.sm.length) (.arr aid 4 0 q.sm.length) (eN q.sm.length) (eN i) (AV.cells (eTr q)) hp4 := by
      intro k
      induction k with
      | zero =>
        intro i hk
        apply h1
        have hnl : ¬ i < q.sm.length := by omega
        simp -implicitDefEqProofs (maxSteps := 5000000) (disch := omega) only [s9_1, hnl, go_sem, Nat.reduceBEq, Nat.reduceBNe, reduceIte, reduceCtorEq, Nat.reduceLeDiff, Nat.reduceAdd, Nat.reduceEqDiff]
        apply h2
        simp -implicitDefEqProofs (maxSteps := 5000000) (disch := omega) only [s9_2, go_sem, Nat.reduceBEq, Nat.reduceBNe, reduceIte, reduceCtorEq, Nat.reduceLeDiff, Nat.reduceAdd, Nat.reduceEqDiff]
        exact hQ hp4
      | succ k ih =>
        intro i hk
        have hi : i < q.sm.length := by omega
        obtain ⟨b, hb, hB⟩ := beh_all R hi
        have hj := ih (i + 1) (by omega)
        apply h1
        simp -implicitDefEqProofs (maxSteps := 5000000) (disch := omega) only [s9_1, hi, ixa_arr1 hi, ldTr, ld_int ho4 hb, go_sem, Nat.reduceBEq, Nat.reduceBNe, reduceIte, reduceCtorEq, Nat.reduceLeDiff, Nat.reduceAdd, Nat.reduceEqDiff]
        constructor
        · refine hB _ _ ha4 ?_
          simp -implicitDefEqProofs (maxSteps := 5000000) (disch := omega) only [abin_int, go_sem, Nat.reduceBEq, Nat.reduceBNe, reduceIte, reduceCtorEq, Nat.reduceLeDiff, Nat.reduceAdd, Nat.reduceEqDiff]
          exact hj
        · refine hB _ _ ha4 ?_
          have hld : ((hcells hp4 oid).bind fun cs => ld 1 false cs i) = some (eI b) := by rw [← ldH_ptr]; exact ld_int ho4 hb
          simp -implicitDefEqProofs (maxSteps := 5000000) (disch := omega) only [hld, abin_int, go_sem, Nat.reduceBEq, Nat.reduceBNe, reduceIte, reduceCtorEq, Nat.reduceLeDiff, Nat.reduceAdd, Nat.reduceEqDiff]
          exact hj
    exact key _ 0 rfl
  · simp -implicitDefEqProofs (maxSteps := 5000000) (disch := omega) only [nlocTr, nlTr', okvTr', udTr0', ldTr, go_sem, Nat.reduceBEq, Nat.reduceBNe, reduceIte, reduceCtorEq, Nat.reduceLeDiff, Nat.reduceAdd, Nat.reduceEqDiff]
    exact hQ hp2
end Go.Proofs.Ytnldohnfdeineaa.Abs
/- The fixed examples, run by the kernel. -/
namespace Go.Proofs.Ytnldohnfdeineaa.Abs
open Go
set_option maxRecDepth 100000

def isYes : ARes → List AO → Bool
  | .ret (.bool true), _ => true
  | _, _ => false
theorem yes_of {r : ARes} {hp : List AO} (h : isYes r hp = true) : r = .ret (.bool true) := by
  unfold isYes at h
  split at h
  · rfl
  · cases h
theorem test21 : callB (tab tl) 1000 21 [] [] isYes = true := by kernel_rfl
theorem awake21 {Q : ARes → List AO → Prop} (hQ : ∀ hp, Q (.ret (.bool true)) hp) : callK CC 21 [] [] Q := ⟨rfl, Runs.mono _ _ _ _ _ (Runs.of_test test21) fun r hp h => by rw [yes_of h]; exact hQ hp⟩
end Go.Proofs.Ytnldohnfdeineaa.Abs
