import PyProof.Rows.All
import Wide.All
import OpenK.AllK
import Wide.FinOn
import HandS.ForMost
import HandS.Wide
import HandS.WideBits
import KE.DataEq
import PyProof.Rows.RuleB_pow
import HandS.Style
import HandS.Comp
import HandS.HeadEnd
import HandS.Defaults
import HandS.Head0
import HandS.Head1
import HandS.Head2
import HandS.HeadHook1
import HandS.HeadHook2
import HandS.IsInst
import HandS.Conv
import HandS.Deep
import HandS.SetFor
import HandS.SortInts
import KE.SortData
import PyProof.ReprNest
import PyProof.StrBlock2
import HandS.Zip
import HandS.Dict
import HandS.DictComp
import HandS.TupLe
import PySem.Challenge.RW_turnlines_k48_deeds_that_lengths_take
set_option Elab.async false
set_option linter.all false
set_option maxRecDepth 100000
/-! FD1: data, owned trees, worlds: what the frame's slots and the values on the way hold, as plain data. -/
namespace FD
open PySem PySem.Spec PyProof.Rows L2
/-- data, without a heap -/
inductive D where
  | non | bl (b : Bool) | int (i : Int) | str (s : Str)
  | lst (xs : List D) | tup (xs : List D)
  | dK (ks : List Key) (vs : List D) | dT (ks : List (List Key)) (vs : List D)
  | opq (v : V)
  | scr (K : PySem.W.Frag) (ns : List Int)
theorem SqL_mono {K : PySem.W.Frag} {B B' : Hp} (e : Same B B') {a : Addr} {xs : List V} (h : SqL K B a xs) : SqL K B' a xs := by
  rcases h with (h | ⟨o, h⟩) | h
  · exact .inl (.inl (e _ _ h))
  · exact .inl (.inr ⟨o, e _ _ h⟩)
  · exact .inr h
mutual
/-- v stands for d in the unchanging part B -/
inductive Rep (B : Hp) : V → D → Prop
  | non : Rep B .non .non
  | bl (b : Bool) : Rep B (.bl b) (.bl b)
  | int (i : Int) : Rep B (.int i) (.int i)
  | str (s : Str) : Rep B (.str s) (.str s)
  | lst {p : Addr} {vs : List V} {ds : List D} : B p = some (.lst vs) → Reps B vs ds → Rep B (.ref p) (.lst ds)
  | tup {p : Addr} {vs : List V} {ds : List D} : B p = some (.tup vs) → Reps B vs ds → Rep B (.ref p) (.tup ds)
  | dK {p : Addr} {ks : List Key} {vs : List V} {ds : List D} : B p = some (.dK (ks.zip vs)) → ks.length = vs.length → Reps B vs ds → Rep B (.ref p) (.dK ks ds)
  | dT {p : Addr} {ks : List (List Key)} {vs : List V} {ds : List D} : B p = some (.dT (ks.zip vs)) → ks.length = vs.length → Reps B vs ds → Rep B (.ref p) (.dT ks ds)
  | opq (v : V) : Rep B v (.opq v)
  | scr {K : PySem.W.Frag} {p : Addr} {ns : List Int} : SqL K B p (ns.map V.int) → Rep B (.ref p) (.scr K ns)
inductive Reps (B : Hp) : List V → List D → Prop
  | nil : Reps B [] []
  | cons {v : V} {d : D} {vs : List V} {ds : List D} : Rep B v d → Reps B vs ds → Reps B (v :: vs) (d :: ds)
end
/-- data with the parts that nobody else holds -/
inductive M where
  | imm (d : D) | lst (ds : List D) | deep (ms : List M) | dtup (ms : List M)
  | dK (ks : List Key) (ds : List D) | dT (ks : List (List Key)) (ds : List D)
mutual
def M.toD : M → D
  | .imm d => d
  | .lst ds => .lst ds
  | .deep ms => .lst (M.toDs ms)
  | .dtup ms => .tup (M.toDs ms)
  | .dK ks ds => .dK ks ds
  | .dT ks ds => .dT ks ds
def M.toDs : List M → List D
  | [] => []
  | m :: ms => m.toD :: M.toDs ms
end
theorem M.toDs_map : ∀ ms : List M, M.toDs ms = ms.map M.toD
  | [] => rfl
  | m :: ms => by rw [M.toDs, M.toDs_map ms]; rfl
abbrev Item := V × M
mutual
/-- v stands for m, its own parts at fp -/
inductive T (B H : Hp) : V → M → List Addr → Prop
  | imm {v : V} {d : D} : Rep B v d → T B H v (.imm d) []
  | lst {p : Addr} {vs : List V} {ds : List D} : H p = some (.lst vs) → Reps B vs ds → T B H (.ref p) (.lst ds) [p]
  | deep {p : Addr} {vs : List V} {ms : List M} {its : List Item} {fp : List Addr} : H p = some (.lst vs) → its.map (·.1) = vs → its.map (·.2) = ms → Its B H its fp → T B H (.ref p) (.deep ms) (p :: fp)
  | dtup {p : Addr} {vs : List V} {ms : List M} {its : List Item} {fp : List Addr} : H p = some (.tup vs) → its.map (·.1) = vs → its.map (·.2) = ms → Its B H its fp → T B H (.ref p) (.dtup ms) (p :: fp)
  | dK {p : Addr} {ks : List Key} {vs : List V} {ds : List D} : H p = some (.dK (ks.zip vs)) → ks.length = vs.length → Reps B vs ds → T B H (.ref p) (.dK ks ds) [p]
  | dT {p : Addr} {ks : List (List Key)} {vs : List V} {ds : List D} : H p = some (.dT (ks.zip vs)) → ks.length = vs.length → Reps B vs ds → T B H (.ref p) (.dT ks ds) [p]
inductive Its (B H : Hp) : List Item → List Addr → Prop
  | nil : Its B H [] []
  | cons {v : V} {m : M} {f : List Addr} {r : List Item} {g : List Addr} : T B H v m f → Its B H r g → Its B H ((v, m) :: r) (f ++ g)
end
/-! ### monotone -/
mutual
theorem Rep.mono {B B' : Hp} (e : Same B B') : ∀ {v : V} {d : D}, Rep B v d → Rep B' v d
  | _, _, .non => .non
  | _, _, .bl b => .bl b
  | _, _, .int i => .int i
  | _, _, .str s => .str s
  | _, _, .lst h r => .lst (e _ _ h) (Reps.mono e r)
  | _, _, .tup h r => .tup (e _ _ h) (Reps.mono e r)
  | _, _, .dK h l r => .dK (e _ _ h) l (Reps.mono e r)
  | _, _, .dT h l r => .dT (e _ _ h) l (Reps.mono e r)
  | _, _, .opq v => .opq v
  | _, _, .scr h => .scr (SqL_mono e h)
theorem Reps.mono {B B' : Hp} (e : Same B B') : ∀ {vs : List V} {ds : List D}, Reps B vs ds → Reps B' vs ds
  | _, _, .nil => .nil
  | _, _, .cons h r => .cons (Rep.mono e h) (Reps.mono e r)
end
mutual
theorem T.mono {B B' H H' : Hp} (e : Same B B') : ∀ {v : V} {m : M} {fp : List Addr}, T B H v m fp → (∀ a ∈ fp, ∀ o, H a = some o → H' a = some o) → T B' H' v m fp
  | _, _, _, .imm h, _ => .imm (h.mono e)
  | _, _, _, .lst h r, k => .lst (k _ (by simp) _ h) (r.mono e)
  | _, _, _, .deep h e1 e2 r, k => .deep (k _ (by simp) _ h) e1 e2 (Its.mono e r fun a ha => k a (by simp [ha]))
  | _, _, _, .dtup h e1 e2 r, k => .dtup (k _ (by simp) _ h) e1 e2 (Its.mono e r fun a ha => k a (by simp [ha]))
  | _, _, _, .dK h l r, k => .dK (k _ (by simp) _ h) l (r.mono e)
  | _, _, _, .dT h l r, k => .dT (k _ (by simp) _ h) l (r.mono e)
theorem Its.mono {B B' H H' : Hp} (e : Same B B') : ∀ {its : List Item} {fp : List Addr}, Its B H its fp → (∀ a ∈ fp, ∀ o, H a = some o → H' a = some o) → Its B' H' its fp
  | _, _, .nil, _ => .nil
  | _, _, .cons h r, k => .cons (T.mono e h fun a ha => k a (by simp [ha])) (Its.mono e r fun a ha => k a (by simp [ha]))
end
mutual
theorem T.dom {B H : Hp} : ∀ {v : V} {m : M} {fp : List Addr}, T B H v m fp → ∀ a ∈ fp, H a ≠ none
  | _, _, _, .imm _, a, ha => by simp at ha
  | _, _, _, .lst h _, a, ha => by simp at ha; subst ha; rw [h]; simp
  | _, _, _, .deep h _ _ r, a, ha => by
    rcases List.mem_cons.mp ha with e | ha
    · subst e; rw [h]; simp
    · exact Its.dom r a ha
  | _, _, _, .dtup h _ _ r, a, ha => by
    rcases List.mem_cons.mp ha with e | ha
    · subst e; rw [h]; simp
    · exact Its.dom r a ha
  | _, _, _, .dK h _ _, a, ha => by simp at ha; subst ha; rw [h]; simp
  | _, _, _, .dT h _ _, a, ha => by simp at ha; subst ha; rw [h]; simp
theorem Its.dom {B H : Hp} : ∀ {its : List Item} {fp : List Addr}, Its B H its fp → ∀ a ∈ fp, H a ≠ none
  | _, _, .nil, a, ha => by simp at ha
  | _, _, .cons h r, a, ha => by
    rcases List.mem_append.mp ha with ha | ha
    · exact T.dom h a ha
    · exact Its.dom r a ha
end
/-! ### frozen -/
def addB (B H : Hp) (fp : List Addr) : Hp := fun a => if a ∈ fp then H a else B a
theorem addB_same {B H : Hp} {fp : List Addr} (h : ∀ a ∈ fp, B a = none) : Same B (addB B H fp) := fun a o e => by
  unfold addB
  split
  · rw [h a (by assumption)] at e; cases e
  · exact e
mutual
theorem T.froz {B B' H : Hp} (e : Same B B') : ∀ {v : V} {m : M} {fp : List Addr}, T B H v m fp → (∀ a ∈ fp, ∀ o, H a = some o → B' a = some o) → Rep B' v m.toD
  | _, _, _, .imm h, _ => h.mono e
  | _, _, _, .lst h r, k => .lst (k _ (by simp) _ h) (r.mono e)
  | _, _, _, .deep h e1 e2 r, k => by
    subst e1 e2
    exact .lst (k _ (by simp) _ h) (Its.froz e r fun a ha => k a (by simp [ha]))
  | _, _, _, .dtup h e1 e2 r, k => by
    subst e1 e2
    exact .tup (k _ (by simp) _ h) (Its.froz e r fun a ha => k a (by simp [ha]))
  | _, _, _, .dK h l r, k => .dK (k _ (by simp) _ h) l (r.mono e)
  | _, _, _, .dT h l r, k => .dT (k _ (by simp) _ h) l (r.mono e)
theorem Its.froz {B B' H : Hp} (e : Same B B') : ∀ {its : List Item} {fp : List Addr}, Its B H its fp → (∀ a ∈ fp, ∀ o, H a = some o → B' a = some o) → Reps B' (its.map (·.1)) (M.toDs (its.map (·.2)))
  | _, _, .nil, _ => .nil
  | _, _, .cons h r, k => .cons (T.froz e h fun a ha => k a (by simp [ha])) (Its.froz e r fun a ha => k a (by simp [ha]))
end
/-- as it stands in the heap itself -/
theorem T.rep {B H : Hp} (e : Same B H) {v : V} {m : M} {fp : List Addr} (h : T B H v m fp) : Rep H v m.toD := h.froz e fun _ _ _ q => q
/-! ### permuted -/
theorem Its.perm {B H : Hp} {l l' : List Item} (p : l.Perm l') : ∀ {fp : List Addr}, Its B H l fp → ∃ fp', Its B H l' fp' ∧ fp.Perm fp' := by
  induction p with
  | nil => intro fp h; exact ⟨fp, h, .refl _⟩
  | cons x _ ih =>
    intro fp h
    cases h with
    | cons h r =>
      obtain ⟨g, r', q⟩ := ih r
      exact ⟨_, .cons h r', q.append_left _⟩
  | swap x y l =>
    intro fp h
    cases h with
    | cons h r =>
      cases r with
      | cons h2 r =>
        refine ⟨_, .cons h2 (.cons h r), ?_⟩
        rw [← List.append_assoc, ← List.append_assoc]
        exact List.perm_append_comm.append_right _
  | trans _ _ ih1 ih2 =>
    intro fp h
    obtain ⟨g, r, q⟩ := ih1 h
    obtain ⟨g', r', q'⟩ := ih2 r
    exact ⟨g', r', q.trans q'⟩
theorem Its.split {B H : Hp} : ∀ {a b : List Item} {fp : List Addr}, Its B H (a ++ b) fp → ∃ f g, Its B H a f ∧ Its B H b g ∧ fp = f ++ g
  | [], _, fp, h => ⟨[], fp, .nil, h, rfl⟩
  | (v, m) :: a, b, _, .cons (f := f0) h r => by
    obtain ⟨f, g, h1, h2, e⟩ := Its.split (a := a) (b := b) r
    subst e
    exact ⟨f0 ++ f, g, .cons h h1, h2, by rw [List.append_assoc]⟩
theorem Its.join {B H : Hp} : ∀ {a b : List Item} {f g : List Addr}, Its B H a f → Its B H b g → Its B H (a ++ b) (f ++ g)
  | _, _, _, _, .nil, h => h
  | _, _, _, _, .cons h r, k => by
    rw [List.append_assoc]
    exact .cons h (Its.join r k)
/-! ### worlds -/
/-- what is fixed while a body runs: R does not change, B0 is data from the start -/
structure Cz where
  R : Hp
  B0 : Hp
structure Wld (C : Cz) (B H : Hp) (its : List Item) (fp : List Addr) : Prop where
  bh : Same B H
  rh : Same C.R H
  b0 : Same C.B0 B
  br : ∀ a, B a ≠ none → C.R a ≠ none → C.B0 a ≠ none
  it : Its B H its fp
  nd : fp.Nodup
  fr : ∀ a ∈ fp, B a = none ∧ C.R a = none
def Wd (C : Cz) (H : Hp) (its : List Item) : Prop := ∃ B fp, Wld C B H its fp
section
variable {C : Cz} {B H : Hp} {its its' : List Item} {fp : List Addr}
theorem Wld.perm (w : Wld C B H its fp) (p : its.Perm its') : ∃ fp', Wld C B H its' fp' := by
  obtain ⟨g, r, q⟩ := w.it.perm p
  exact ⟨g, w.bh, w.rh, w.b0, w.br, r, q.nodup_iff.mp w.nd, fun a ha => w.fr a (q.mem_iff.mpr ha)⟩
theorem Wd.perm (w : Wd C H its) (p : its.Perm its') : Wd C H its' := by
  obtain ⟨B, fp, w⟩ := w
  obtain ⟨g, w⟩ := w.perm p
  exact ⟨B, g, w⟩
theorem Wld.tail {it : Item} (w : Wld C B H (it :: its) fp) : ∃ g, Wld C B H its g := by
  cases it with
  | mk v m =>
  cases w with
  | mk bh rh b0 br it nd fr =>
  cases it with
  | cons h r => exact ⟨_, bh, rh, b0, br, r, (List.nodup_append.mp nd).2.1, fun a ha => fr a (List.mem_append_right _ ha)⟩
theorem Wd.tail {it : Item} (w : Wd C H (it :: its)) : Wd C H its := by
  obtain ⟨B, fp, w⟩ := w
  obtain ⟨g, w⟩ := w.tail
  exact ⟨B, g, w⟩
theorem Wd.drop_left {a b : List Item} (w : Wd C H (a ++ b)) : Wd C H b := by
  induction a with
  | nil => exact w
  | cons x a ih => exact ih w.tail
/-- a value that is data already comes beside -/
theorem Wld.imm {v : V} {d : D} (w : Wld C B H its fp) (r : Rep B v d) : Wld C B H ((v, .imm d) :: its) fp :=
  ⟨w.bh, w.rh, w.b0, w.br, .cons (.imm r) w.it, w.nd, w.fr⟩
theorem Wld.imm_rep {v : V} {d : D} (w : Wld C B H ((v, .imm d) :: its) fp) : Rep B v d ∧ Wld C B H its fp := by
  cases w with
  | mk bh rh b0 br it nd fr =>
  cases it with
  | cons h r =>
    cases h with
    | imm h => exact ⟨h, bh, rh, b0, br, r, nd, fr⟩
theorem Wd.dup {v : V} {d : D} (w : Wd C H ((v, .imm d) :: its)) : Wd C H ((v, .imm d) :: (v, .imm d) :: its) := by
  obtain ⟨B, fp, w⟩ := w
  exact ⟨B, fp, w.imm w.imm_rep.1⟩
/-- what is owned becomes data -/
theorem Wld.freeze {v : V} {m : M} (w : Wld C B H ((v, m) :: its) fp) : ∃ B' fp', Same B B' ∧ Wld C B' H ((v, .imm m.toD) :: its) fp' := by
  cases w with
  | mk bh rh b0 br it nd fr =>
  cases it with
  | @cons _ _ f _ g h r =>
    have hs : Same B (addB B H f) := addB_same fun a ha => (fr a (List.mem_append_left _ ha)).1
    have hn := List.nodup_append.mp nd
    refine ⟨addB B H f, g, hs, fun a o e => ?_, rh, b0.trans hs, fun a e1 e2 => ?_, .cons (.imm (h.froz hs fun a ha o e => ?_)) (r.mono hs fun _ _ _ q => q), hn.2.1, fun a ha => ⟨?_, (fr a (List.mem_append_right _ ha)).2⟩⟩
    · unfold addB at e
      split at e
      · exact e
      · exact bh a o e
    · unfold addB at e1
      split at e1
      · exact absurd (fr a (List.mem_append_left _ (by assumption))).2 e2
      · exact br a e1 e2
    · unfold addB
      rw [if_pos ha, e]
    · unfold addB
      rw [if_neg fun q => hn.2.2 a q a ha rfl]
      exact (fr a (List.mem_append_right _ ha)).1
theorem Wd.freeze {v : V} {m : M} (w : Wd C H ((v, m) :: its)) : Wd C H ((v, .imm m.toD) :: its) := by
  obtain ⟨B, fp, w⟩ := w
  obtain ⟨B', fp', _, w⟩ := w.freeze
  exact ⟨B', fp', w⟩
theorem upd_keep {p : Addr} {o : HO} (hp : H p = none) : ∀ a u, H a = some u → upd H p o a = some u := fun a u e => by
  rw [upd_ne (ne_of_none e hp)]
  exact e
/-- a new object, nothing said of it -/
theorem Wld.new {p : Addr} {o : HO} (w : Wld C B H its fp) (hp : H p = none) : Wld C B (upd H p o) its fp ∧ B p = none ∧ C.R p = none ∧ p ∉ fp := by
  have hB : B p = none := w.bh.free hp
  have hR : C.R p = none := w.rh.free hp
  refine ⟨⟨fun a u e => upd_keep hp a u (w.bh a u e), fun a u e => upd_keep hp a u (w.rh a u e), w.b0, w.br, w.it.mono (.refl B) fun a _ u e => upd_keep hp a u e, w.nd, w.fr⟩, hB, hR, fun h => w.it.dom p h hp⟩
/-- a new owned list of data -/
theorem Wld.new_lst {p : Addr} {vs : List V} {ds : List D} (w : Wld C B H its fp) (hp : H p = none) (r : Reps B vs ds) : Wld C B (upd H p (.lst vs)) ((.ref p, .lst ds) :: its) (p :: fp) := by
  obtain ⟨w', hB, hR, hn⟩ := w.new (o := .lst vs) hp
  exact ⟨w'.bh, w'.rh, w'.b0, w'.br, .cons (.lst upd_same r) w'.it, List.nodup_cons.mpr ⟨hn, w.nd⟩, fun a ha => by
    rcases List.mem_cons.mp ha with e | ha
    · rw [e]; exact ⟨hB, hR⟩
    · exact w'.fr a ha⟩
theorem Wld.new_dK {p : Addr} {ks : List Key} {vs : List V} {ds : List D} (w : Wld C B H its fp) (hp : H p = none) (l : ks.length = vs.length) (r : Reps B vs ds) : Wld C B (upd H p (.dK (ks.zip vs))) ((.ref p, .dK ks ds) :: its) (p :: fp) := by
  obtain ⟨w', hB, hR, hn⟩ := w.new (o := .dK (ks.zip vs)) hp
  exact ⟨w'.bh, w'.rh, w'.b0, w'.br, .cons (.dK upd_same l r) w'.it, List.nodup_cons.mpr ⟨hn, w.nd⟩, fun a ha => by
    rcases List.mem_cons.mp ha with e | ha
    · rw [e]; exact ⟨hB, hR⟩
    · exact w'.fr a ha⟩
theorem Wld.new_dT {p : Addr} {ks : List (List Key)} {vs : List V} {ds : List D} (w : Wld C B H its fp) (hp : H p = none) (l : ks.length = vs.length) (r : Reps B vs ds) : Wld C B (upd H p (.dT (ks.zip vs))) ((.ref p, .dT ks ds) :: its) (p :: fp) := by
  obtain ⟨w', hB, hR, hn⟩ := w.new (o := .dT (ks.zip vs)) hp
  exact ⟨w'.bh, w'.rh, w'.b0, w'.br, .cons (.dT upd_same l r) w'.it, List.nodup_cons.mpr ⟨hn, w.nd⟩, fun a ha => by
    rcases List.mem_cons.mp ha with e | ha
    · rw [e]; exact ⟨hB, hR⟩
    · exact w'.fr a ha⟩
/-- a new list, a new tuple of what was owned -/
theorem Wld.new_deep {p : Addr} {new : List Item} (w : Wld C B H (new ++ its) fp) (hp : H p = none) : Wld C B (upd H p (.lst (new.map (·.1)))) ((.ref p, .deep (new.map (·.2))) :: its) (p :: fp) := by
  obtain ⟨w', hB, hR, hn⟩ := w.new (o := .lst (new.map (·.1))) hp
  obtain ⟨f, g, h1, h2, e⟩ := w'.it.split
  subst e
  exact ⟨w'.bh, w'.rh, w'.b0, w'.br, .cons (f := p :: f) (.deep upd_same rfl rfl h1) h2, List.nodup_cons.mpr ⟨hn, w.nd⟩, fun a ha => by
    rcases List.mem_cons.mp ha with e | ha
    · rw [e]; exact ⟨hB, hR⟩
    · exact w'.fr a ha⟩
theorem Wld.new_dtup {p : Addr} {new : List Item} (w : Wld C B H (new ++ its) fp) (hp : H p = none) : Wld C B (upd H p (.tup (new.map (·.1)))) ((.ref p, .dtup (new.map (·.2))) :: its) (p :: fp) := by
  obtain ⟨w', hB, hR, hn⟩ := w.new (o := .tup (new.map (·.1))) hp
  obtain ⟨f, g, h1, h2, e⟩ := w'.it.split
  subst e
  exact ⟨w'.bh, w'.rh, w'.b0, w'.br, .cons (f := p :: f) (.dtup upd_same rfl rfl h1) h2, List.nodup_cons.mpr ⟨hn, w.nd⟩, fun a ha => by
    rcases List.mem_cons.mp ha with e | ha
    · rw [e]; exact ⟨hB, hR⟩
    · exact w'.fr a ha⟩
/-- a new tuple of data -/
theorem Wld.new_tup {p : Addr} {vs : List V} {ds : List D} (w : Wld C B H its fp) (hp : H p = none) (r : Reps B vs ds) : ∃ B', Same B B' ∧ Wld C B' (upd H p (.tup vs)) ((.ref p, .imm (.tup ds)) :: its) fp := by
  obtain ⟨w', hB, hR, hn⟩ := w.new (o := .tup vs) hp
  have hs : Same B (upd B p (.tup vs)) := fun a u e => upd_keep hB a u e
  refine ⟨upd B p (.tup vs), hs, ?_, w'.rh, w'.b0.trans hs, ?_, .cons (.imm (.tup upd_same (r.mono hs))) (w'.it.mono hs fun _ _ _ q => q), w.nd, fun a ha => ⟨?_, (w.fr a ha).2⟩⟩
  · intro a u e
    by_cases h : a = p
    · subst h; rw [upd_same] at e; rw [upd_same]; exact e
    · rw [upd_ne h] at e; exact w'.bh a u e
  · intro a e1 e2
    by_cases h : a = p
    · subst h; exact absurd hR e2
    · rw [upd_ne h] at e1; exact w.br a e1 e2
  · have h : a ≠ p := fun e => hn (by rw [← e]; exact ha)
    rw [upd_ne h]
    exact (w.fr a ha).1
/-- an owned list changed in place -/
theorem Wld.set_lst {p : Addr} {ds ds' : List D} {vs' : List V} (w : Wld C B H ((.ref p, .lst ds) :: its) fp) (r : Reps B vs' ds') : Wld C B (upd H p (.lst vs')) ((.ref p, .lst ds') :: its) fp := by
  cases w with
  | mk bh rh b0 br it nd fr =>
  cases it with
  | @cons _ _ f _ g h rest =>
    cases h with
    | lst h0 r0 =>
      have hn := List.nodup_cons.mp nd
      have hp := fr p (by simp)
      refine ⟨fun a u e => ?_, fun a u e => ?_, b0, br, .cons (f := [p]) (.lst upd_same r) (rest.mono (.refl B) fun a ha u e => ?_), nd, fr⟩
      · rw [upd_ne (ne_of_none e hp.1)]; exact bh a u e
      · rw [upd_ne (ne_of_none e hp.2)]; exact rh a u e
      · have h : a ≠ p := fun e => hn.1 (by rw [← e]; exact ha)
        rw [upd_ne h]; exact e
theorem Wld.set_dK {p : Addr} {ks ks' : List Key} {ds ds' : List D} {vs' : List V} (w : Wld C B H ((.ref p, .dK ks ds) :: its) fp) (l : ks'.length = vs'.length) (r : Reps B vs' ds') : Wld C B (upd H p (.dK (ks'.zip vs'))) ((.ref p, .dK ks' ds') :: its) fp := by
  cases w with
  | mk bh rh b0 br it nd fr =>
  cases it with
  | @cons _ _ f _ g h rest =>
    cases h with
    | dK h0 l0 r0 =>
      have hn := List.nodup_cons.mp nd
      have hp := fr p (by simp)
      refine ⟨fun a u e => ?_, fun a u e => ?_, b0, br, .cons (f := [p]) (.dK upd_same l r) (rest.mono (.refl B) fun a ha u e => ?_), nd, fr⟩
      · rw [upd_ne (ne_of_none e hp.1)]; exact bh a u e
      · rw [upd_ne (ne_of_none e hp.2)]; exact rh a u e
      · have h : a ≠ p := fun e => hn.1 (by rw [← e]; exact ha)
        rw [upd_ne h]; exact e
theorem Wld.set_dT {p : Addr} {ks ks' : List (List Key)} {ds ds' : List D} {vs' : List V} (w : Wld C B H ((.ref p, .dT ks ds) :: its) fp) (l : ks'.length = vs'.length) (r : Reps B vs' ds') : Wld C B (upd H p (.dT (ks'.zip vs'))) ((.ref p, .dT ks' ds') :: its) fp := by
  cases w with
  | mk bh rh b0 br it nd fr =>
  cases it with
  | @cons _ _ f _ g h rest =>
    cases h with
    | dT h0 l0 r0 =>
      have hn := List.nodup_cons.mp nd
      have hp := fr p (by simp)
      refine ⟨fun a u e => ?_, fun a u e => ?_, b0, br, .cons (f := [p]) (.dT upd_same l r) (rest.mono (.refl B) fun a ha u e => ?_), nd, fr⟩
      · rw [upd_ne (ne_of_none e hp.1)]; exact bh a u e
      · rw [upd_ne (ne_of_none e hp.2)]; exact rh a u e
      · have h : a ≠ p := fun e => hn.1 (by rw [← e]; exact ha)
        rw [upd_ne h]; exact e
end
end FD
set_option Elab.async false
set_option linter.all false
set_option maxRecDepth 100000
/-! FD2: slots and pending values; what an expression gives. -/
namespace FD
open PySem PySem.Spec PyProof.Rows L2
abbrev Env := List (Option M)
/-- a value on the way: held by itself, or the thing that a slot owns -/
inductive R where
  | tmp (m : M) | slt (i : Nat)
def Sl : L2.St → Env → List Item
  | some v :: σ, some m :: ρ => (v, m) :: Sl σ ρ
  | _ :: σ, _ :: ρ => Sl σ ρ
  | _, _ => []
structure Cov (σ : L2.St) (ρ : Env) : Prop where
  len : σ.length = ρ.length
  has : ∀ (i : Nat) (m : M), ρ[i]? = some (some m) → ∃ v, σ[i]? = some (some v)
theorem Sl_none (v : Option V) (σ : L2.St) (ρ : Env) : Sl (v :: σ) (none :: ρ) = Sl σ ρ := by cases v <;> rfl
theorem Sl_none' (m : Option M) (σ : L2.St) (ρ : Env) : Sl (none :: σ) (m :: ρ) = Sl σ ρ := by cases m <;> rfl
theorem Cov.tail {v : Option V} {σ : L2.St} {m : Option M} {ρ : Env} (c : Cov (v :: σ) (m :: ρ)) : Cov σ ρ :=
  ⟨by have := c.len; simp at this; exact this, fun i m' h => by have := c.has (i + 1) m' (by simpa using h); simpa using this⟩
/-- a slot's thing taken out -/
theorem Sl_take : ∀ {σ : L2.St} {ρ : Env} {i : Nat} {m : M} {v : V}, ρ[i]? = some (some m) → σ[i]? = some (some v) → (Sl σ ρ).Perm ((v, m) :: Sl σ (ρ.set i none))
  | [], _, i, _, _, _, h => by simp at h
  | _ :: _, [], i, _, _, h, _ => by simp at h
  | x :: σ, y :: ρ, 0, m, v, h1, h2 => by
    simp at h1 h2
    subst h1 h2
    rw [List.set_cons_zero, Sl_none]
    exact .refl _
  | x :: σ, y :: ρ, i + 1, m, v, h1, h2 => by
    have ih := Sl_take (σ := σ) (ρ := ρ) (i := i) (m := m) (v := v) (by simpa using h1) (by simpa using h2)
    rw [List.set_cons_succ]
    cases x with
    | none => rw [Sl_none', Sl_none']; exact ih
    | some x =>
      cases y with
      | none => rw [Sl_none, Sl_none]; exact ih
      | some y => exact (ih.cons _).trans (.swap _ _ _)
theorem Sl_drop : ∀ {σ : L2.St} {ρ : Env} {i : Nat}, ρ[i]? = some none → Sl σ (ρ.set i none) = Sl σ ρ
  | _, [], i, h => by simp at h
  | [], y :: ρ, 0, h => by rw [List.set_cons_zero]; rfl
  | [], y :: ρ, i + 1, h => by rw [List.set_cons_succ]; rfl
  | x :: σ, y :: ρ, 0, h => by simp at h; subst h; rfl
  | x :: σ, y :: ρ, i + 1, h => by
    have ih := Sl_drop (σ := σ) (ρ := ρ) (i := i) (by simpa using h)
    rw [List.set_cons_succ]
    cases x with
    | none => rw [Sl_none', Sl_none']; exact ih
    | some x =>
      cases y with
      | none => rw [Sl_none, Sl_none]; exact ih
      | some y => show (x, y) :: Sl σ (ρ.set i none) = (x, y) :: Sl σ ρ; rw [ih]
theorem Sl_same : ∀ {σ σ' : L2.St} {ρ : Env} {i : Nat} {x : Option V}, σ' = σ.set i x → Sl σ' (ρ.set i none) = Sl σ (ρ.set i none)
  | [], _, ρ, i, x, h => by subst h; rw [List.set_nil]
  | a :: σ, _, [], i, x, h => by
    subst h
    rw [List.set_nil]
    cases i <;> simp [Sl]
  | a :: σ, _, y :: ρ, 0, x, h => by subst h; rw [List.set_cons_zero, List.set_cons_zero, Sl_none, Sl_none]
  | a :: σ, _, y :: ρ, i + 1, x, h => by
    subst h
    rw [List.set_cons_succ, List.set_cons_succ]
    have ih := Sl_same (σ := σ) (σ' := σ.set i x) (ρ := ρ) (i := i) (x := x) rfl
    cases a with
    | none => rw [Sl_none', Sl_none']; exact ih
    | some a =>
      cases y with
      | none => rw [Sl_none, Sl_none]; exact ih
      | some y => show (a, y) :: Sl (σ.set i x) (ρ.set i none) = (a, y) :: Sl σ (ρ.set i none); rw [ih]
theorem set_set {α : Type} (l : List α) (i : Nat) (x y : α) : (l.set i x).set i y = l.set i y := by
  rw [List.set_set]
/-- a slot filled -/
theorem Sl_put {σ : L2.St} {ρ : Env} {i : Nat} {m : M} {v : V} (hi : i < σ.length) (hl : σ.length = ρ.length) : (Sl (σ.set i (some v)) (ρ.set i (some m))).Perm ((v, m) :: Sl σ (ρ.set i none)) := by
  have h1 : (ρ.set i (some m))[i]? = some (some m) := by rw [List.getElem?_set_self (by omega)]
  have h2 : (σ.set i (some v))[i]? = some (some v) := by rw [List.getElem?_set_self hi]
  have p := Sl_take h1 h2
  rw [set_set] at p
  rw [Sl_same (σ := σ) rfl] at p
  exact p
theorem Cov.put {σ : L2.St} {ρ : Env} {i : Nat} {m : M} {v : V} (c : Cov σ ρ) : Cov (σ.set i (some v)) (ρ.set i (some m)) := by
  refine ⟨by rw [List.length_set, List.length_set]; exact c.len, fun j m' h => ?_⟩
  by_cases e : j = i
  · subst e
    have hj : j < (ρ.set j (some m)).length := by
      rcases Nat.lt_or_ge j (ρ.set j (some m)).length with q | q
      · exact q
      · rw [List.getElem?_eq_none_iff.mpr q] at h; cases h
    rw [List.length_set] at hj
    exact ⟨v, by rw [List.getElem?_set_self (by rw [c.len]; exact hj)]⟩
  · rw [List.getElem?_set_ne (fun q => e q.symm)] at h
    rw [List.getElem?_set_ne (fun q => e q.symm)]
    exact c.has j m' h
theorem Cov.un {σ : L2.St} {ρ : Env} {i : Nat} (c : Cov σ ρ) : Cov σ (ρ.set i none) := by
  refine ⟨by rw [List.length_set]; exact c.len, fun j m' h => ?_⟩
  by_cases e : j = i
  · subst e
    have hj : j < (ρ.set j none).length := by
      rcases Nat.lt_or_ge j (ρ.set j none).length with q | q
      · exact q
      · rw [List.getElem?_eq_none_iff.mpr q] at h; cases h
    rw [List.length_set] at hj
    rw [List.getElem?_set_self hj] at h
    cases h
  · rw [List.getElem?_set_ne (fun q => e q.symm)] at h
    exact c.has j m' h
theorem Cov.re {σ : L2.St} {ρ : Env} {i : Nat} {m m' : M} (c : Cov σ ρ) (h : ρ[i]? = some (some m)) : Cov σ (ρ.set i (some m')) := by
  refine ⟨by rw [List.length_set]; exact c.len, fun j m'' q => ?_⟩
  by_cases e : j = i
  · subst e; exact c.has j m h
  · rw [List.getElem?_set_ne (fun q => e q.symm)] at q
    exact c.has j m'' q
/-- an owned thing that stays at its slot, changed -/
theorem Sl_re {σ : L2.St} {ρ : Env} {i : Nat} {m m' : M} {v : V} (h : ρ[i]? = some (some m)) (hv : σ[i]? = some (some v)) : (Sl σ (ρ.set i (some m'))).Perm ((v, m') :: Sl σ (ρ.set i none)) := by
  have hj : i < ρ.length := (List.getElem?_eq_some_iff.mp h).1
  have p := Sl_take (σ := σ) (ρ := ρ.set i (some m')) (i := i) (m := m') (v := v) (by rw [List.getElem?_set_self hj]) hv
  rw [set_set] at p
  exact p
abbrev Pend := List (V × R)
def tmpI : V × R → Option Item
  | (v, .tmp m) => some (v, m)
  | (_, .slt _) => none
abbrev tmps (ps : Pend) : List Item := ps.filterMap tmpI
structure WB (C : Cz) (B : Hp) (σ : L2.St) (ρ : Env) (ps : Pend) (H : Hp) : Prop where
  cov : Cov σ ρ
  ref : ∀ v i, (v, R.slt i) ∈ ps → σ[i]? = some (some v)
  wd : ∃ fp, Wld C B H (Sl σ ρ ++ tmps ps) fp
def W (C : Cz) (σ : L2.St) (ρ : Env) (ps : Pend) (H : Hp) : Prop := ∃ B, WB C B σ ρ ps H
section
variable {C : Cz} {B H : Hp} {σ : L2.St} {ρ : Env} {ps : Pend} {v : V} {m : M} {i : Nat}
theorem WB.mk' (cov : Cov σ ρ) (ref : ∀ v i, (v, R.slt i) ∈ ps → σ[i]? = some (some v)) {its : List Item} {fp : List Addr} (w : Wld C B H its fp) (p : its.Perm (Sl σ ρ ++ tmps ps)) : WB C B σ ρ ps H :=
  ⟨cov, ref, w.perm p⟩
/-- a value held by itself, in front -/
theorem WB.tmp (w : WB C B σ ρ ((v, .tmp m) :: ps) H) : ∃ fp, Wld C B H ((v, m) :: (Sl σ ρ ++ tmps ps)) fp := by
  obtain ⟨fp, h⟩ := w.wd
  exact h.perm List.perm_middle
theorem WB.of_tmp (cov : Cov σ ρ) (ref : ∀ v i, (v, R.slt i) ∈ ps → σ[i]? = some (some v)) {fp : List Addr} (h : Wld C B H ((v, m) :: (Sl σ ρ ++ tmps ps)) fp) : WB C B σ ρ ((v, .tmp m) :: ps) H :=
  ⟨cov, fun v' i h' => by
    rcases List.mem_cons.mp h' with e | h'
    · cases e
    · exact ref v' i h', h.perm List.perm_middle.symm⟩
theorem WB.psr (w : WB C B σ ρ ((v, .tmp m) :: ps) H) : ∀ v i, (v, R.slt i) ∈ ps → σ[i]? = some (some v) := fun v' i h => w.ref v' i (List.mem_cons_of_mem _ h)
theorem WB.drop {r : R} (w : WB C B σ ρ ((v, r) :: ps) H) : WB C B σ ρ ps H := by
  cases r with
  | tmp m =>
    obtain ⟨fp, h⟩ := w.tmp
    exact ⟨w.cov, w.psr, h.tail⟩
  | slt i => exact ⟨w.cov, fun v' i h => w.ref v' i (List.mem_cons_of_mem _ h), w.wd⟩
theorem W.drop {r : R} (w : W C σ ρ ((v, r) :: ps) H) : W C σ ρ ps H := let ⟨B, w⟩ := w; ⟨B, w.drop⟩
theorem WB.imm {d : D} (w : WB C B σ ρ ps H) (r : Rep B v d) : WB C B σ ρ ((v, .tmp (.imm d)) :: ps) H := by
  obtain ⟨fp, h⟩ := w.wd
  exact .of_tmp w.cov w.ref (h.imm r)
theorem W.scal {d : D} (w : W C σ ρ ps H) (r : ∀ B, Rep B v d) : W C σ ρ ((v, .tmp (.imm d)) :: ps) H := let ⟨B, w⟩ := w; ⟨B, w.imm (r B)⟩
theorem WB.imm_rep {d : D} (w : WB C B σ ρ ((v, .tmp (.imm d)) :: ps) H) : Rep B v d := let ⟨_, h⟩ := w.tmp; h.imm_rep.1
theorem WB.bh (w : WB C B σ ρ ps H) : Same B H := let ⟨_, h⟩ := w.wd; h.bh
/-- a slot's thing taken out of the slot -/
theorem WB.take (w : WB C B σ ρ ps H) (h : ρ[i]? = some (some m)) (hv : σ[i]? = some (some v)) : WB C B σ (ρ.set i none) ((v, .tmp m) :: ps) H := by
  obtain ⟨fp, q⟩ := w.wd
  obtain ⟨fp, q⟩ := q.perm ((Sl_take h hv).append_right _)
  exact .of_tmp w.cov.un w.ref q
/-- .. and given back, changed or not -/
theorem WB.give {m' : M} (w : WB C B σ (ρ.set i none) ((v, .tmp m') :: ps) H) (hl : i < ρ.length) (hv : σ[i]? = some (some v)) : WB C B σ (ρ.set i (some m')) ps H := by
  obtain ⟨fp, q⟩ := w.tmp
  have c : Cov σ (ρ.set i (some m')) := by
    refine ⟨by rw [List.length_set]; have := w.cov.len; rw [List.length_set] at this; exact this, fun j m'' q => ?_⟩
    by_cases e : j = i
    · subst e; exact ⟨v, hv⟩
    · rw [List.getElem?_set_ne (fun q => e q.symm)] at q
      exact w.cov.has j m'' (by rw [List.getElem?_set_ne (fun q => e q.symm)]; exact q)
  have p := Sl_take (σ := σ) (ρ := ρ.set i (some m')) (i := i) (m := m') (v := v) (by rw [List.getElem?_set_self hl]) hv
  rw [set_set] at p
  exact ⟨c, w.psr, q.perm (p.symm.append_right _)⟩
theorem WB.freeze (w : WB C B σ ρ ((v, .tmp m) :: ps) H) : ∃ B', Same B B' ∧ WB C B' σ ρ ((v, .tmp (.imm m.toD)) :: ps) H := by
  obtain ⟨fp, q⟩ := w.tmp
  obtain ⟨B', fp', e, q⟩ := q.freeze
  exact ⟨B', e, .of_tmp w.cov w.psr q⟩
end
/-- what an expression gives -/
abbrev EF := Env → Option (R × Env)
structure SemE (te : TE) (f : EF) : Prop where
  run : ∀ (C : Cz) (σ : L2.St) (ρ : Env) (ps : Pend) (H : Hp) (r : R) (ρ' : Env), f ρ = some (r, ρ') → W C σ ρ ps H → ∀ Q : VK, (∀ v H', W C σ ρ' ((v, r) :: ps) H' → Q v H') → te σ H Q
structure SemT (tt : TT) (f : Env → Option (Bool × Env)) : Prop where
  run : ∀ (C : Cz) (σ : L2.St) (ρ : Env) (ps : Pend) (H : Hp) (b : Bool) (ρ' : Env), f ρ = some (b, ρ') → W C σ ρ ps H → ∀ Q : Bool → Hp → Prop, (∀ H', W C σ ρ' ps H' → Q b H') → tt σ H Q
/-- several, the last one in front -/
abbrev pends (vs : List V) (rs : List R) (ps : Pend) : Pend := (vs.zip rs).reverse ++ ps
structure SemA (ta : TA) (f : Env → Option (List R × Env)) : Prop where
  run : ∀ (C : Cz) (σ : L2.St) (ρ : Env) (ps : Pend) (H : Hp) (rs : List R) (ρ' : Env), f ρ = some (rs, ρ') → W C σ ρ ps H → ∀ Q : List V → Hp → Prop, (∀ vs H', vs.length = rs.length → W C σ ρ' (pends vs rs ps) H' → Q vs H') → ta σ H Q
structure DE (X : Cx) (e : Expr) (te : TE) (f : EF) : Prop where
  pe : PE X e te
  sem : SemE te f
structure DT (X : Cx) (e : Expr) (tt : TT) (f : Env → Option (Bool × Env)) : Prop where
  pt : PT X e tt
  sem : SemT tt f
structure DA (X : Cx) (es : List Expr) (ta : TA) (f : Env → Option (List R × Env)) : Prop where
  pa : PA X es ta
  sem : SemA ta f
/-! ### looked at, and handed over -/
def M.flat : M → M
  | .deep ms => .lst (M.toDs ms)
  | .dtup ms => .imm (.tup (M.toDs ms))
  | m => m
theorem M.flat_toD (m : M) : m.flat.toD = m.toD := by cases m <;> rfl
/-- looked at as it stands -/
def vw (r : R) (ρ : Env) : Option (D × Env) :=
  match r with
  | .tmp m => some (m.toD, ρ)
  | .slt i => match ρ[i]? with
    | some (some m) => some (m.toD, ρ.set i (some m.flat))
    | _ => none
/-- handed over as data -/
def fz (r : R) (ρ : Env) : Option (D × Env) :=
  match r with
  | .tmp m => some (m.toD, ρ)
  | .slt i => match ρ[i]? with
    | some (some m) => some (m.toD, ρ.set i (some (.imm m.toD)))
    | _ => none
/-- moved out of its slot -/
def mv (r : R) (ρ : Env) : Option (M × Env) :=
  match r with
  | .tmp m => some (m, ρ)
  | .slt i => match ρ[i]? with
    | some (some m) => some (m, ρ.set i none)
    | _ => none
inductive View (B H : Hp) : V → D → Prop
  | rep {v : V} {d : D} : Rep B v d → View B H v d
  | lst {p : Addr} {vs : List V} {ds : List D} : H p = some (.lst vs) → Reps B vs ds → View B H (.ref p) (.lst ds)
  | dK {p : Addr} {ks : List Key} {vs : List V} {ds : List D} : H p = some (.dK (ks.zip vs)) → ks.length = vs.length → Reps B vs ds → View B H (.ref p) (.dK ks ds)
  | dT {p : Addr} {ks : List (List Key)} {vs : List V} {ds : List D} : H p = some (.dT (ks.zip vs)) → ks.length = vs.length → Reps B vs ds → View B H (.ref p) (.dT ks ds)
theorem View.mono {B B' H : Hp} (e : Same B B') {v : V} {d : D} : View B H v d → View B' H v d
  | .rep h => .rep (h.mono e)
  | .lst h r => .lst h (r.mono e)
  | .dK h l r => .dK h l (r.mono e)
  | .dT h l r => .dT h l (r.mono e)
theorem View.rep_h {B H : Hp} (e : Same B H) {v : V} {d : D} : View B H v d → Rep H v d
  | .rep h => h.mono e
  | .lst h r => .lst h (r.mono e)
  | .dK h l r => .dK h l (r.mono e)
  | .dT h l r => .dT h l (r.mono e)
theorem View.int {B H : Hp} {v : V} {i : Int} (h : View B H v (.int i)) : v = .int i := by cases h with | rep h => cases h; rfl
theorem View.bl {B H : Hp} {v : V} {i : Bool} (h : View B H v (.bl i)) : v = .bl i := by cases h with | rep h => cases h; rfl
theorem View.str {B H : Hp} {v : V} {i : Str} (h : View B H v (.str i)) : v = .str i := by cases h with | rep h => cases h; rfl
theorem View.non {B H : Hp} {v : V} (h : View B H v .non) : v = .non := by cases h with | rep h => cases h; rfl
theorem View.lst_ {B H : Hp} (e : Same B H) {v : V} {ds : List D} (h : View B H v (.lst ds)) : ∃ p vs, v = .ref p ∧ H p = some (.lst vs) ∧ Reps B vs ds := by
  cases h with
  | rep h => cases h with | lst h r => exact ⟨_, _, rfl, e _ _ h, r⟩
  | lst h r => exact ⟨_, _, rfl, h, r⟩
theorem View.tup_ {B H : Hp} {v : V} {ds : List D} (h : View B H v (.tup ds)) : ∃ p vs, v = .ref p ∧ B p = some (.tup vs) ∧ Reps B vs ds := by
  cases h with
  | rep h => cases h with | tup h r => exact ⟨_, _, rfl, h, r⟩
theorem View.dK_ {B H : Hp} (e : Same B H) {v : V} {ks : List Key} {ds : List D} (h : View B H v (.dK ks ds)) : ∃ p vs, v = .ref p ∧ H p = some (.dK (ks.zip vs)) ∧ ks.length = vs.length ∧ Reps B vs ds := by
  cases h with
  | rep h => cases h with | dK h l r => exact ⟨_, _, rfl, e _ _ h, l, r⟩
  | dK h l r => exact ⟨_, _, rfl, h, l, r⟩
theorem View.dT_ {B H : Hp} (e : Same B H) {v : V} {ks : List (List Key)} {ds : List D} (h : View B H v (.dT ks ds)) : ∃ p vs, v = .ref p ∧ H p = some (.dT (ks.zip vs)) ∧ ks.length = vs.length ∧ Reps B vs ds := by
  cases h with
  | rep h => cases h with | dT h l r => exact ⟨_, _, rfl, e _ _ h, l, r⟩
  | dT h l r => exact ⟨_, _, rfl, h, l, r⟩
theorem Reps.length {B : Hp} : ∀ {vs : List V} {ds : List D}, Reps B vs ds → vs.length = ds.length
  | _, _, .nil => rfl
  | _, _, .cons _ r => by rw [List.length_cons, List.length_cons, r.length]
theorem Reps.get {B : Hp} : ∀ {vs : List V} {ds : List D} {i : Nat} {d : D}, Reps B vs ds → ds[i]? = some d → ∃ v, vs[i]? = some v ∧ Rep B v d
  | _, _, _, _, .nil, h => by simp at h
  | _, _, 0, _, .cons h r, e => by simp at e; subst e; exact ⟨_, rfl, h⟩
  | _, _, i + 1, d, .cons h r, e => by
    obtain ⟨v, h1, h2⟩ := Reps.get (i := i) r (by simpa using e)
    exact ⟨v, by simpa using h1, h2⟩
theorem Reps.get' {B : Hp} {vs : List V} {ds : List D} {i : Nat} {v : V} (r : Reps B vs ds) (h : vs[i]? = some v) : ∃ d, ds[i]? = some d ∧ Rep B v d := by
  have hi : i < ds.length := by rw [← r.length]; exact (List.getElem?_eq_some_iff.mp h).1
  obtain ⟨w, h1, h2⟩ := r.get (List.getElem?_eq_getElem hi)
  rw [h] at h1
  cases h1
  exact ⟨_, List.getElem?_eq_getElem hi, h2⟩
theorem Reps.append {B : Hp} : ∀ {vs ws : List V} {ds es : List D}, Reps B vs ds → Reps B ws es → Reps B (vs ++ ws) (ds ++ es)
  | _, _, _, _, .nil, h => h
  | _, _, _, _, .cons h r, k => .cons h (r.append k)
theorem Reps.take {B : Hp} : ∀ {vs : List V} {ds : List D} (n : Nat), Reps B vs ds → Reps B (vs.take n) (ds.take n)
  | _, _, 0, _ => .nil
  | _, _, _ + 1, .nil => .nil
  | _, _, n + 1, .cons h r => .cons h (r.take n)
theorem Reps.drop {B : Hp} : ∀ {vs : List V} {ds : List D} (n : Nat), Reps B vs ds → Reps B (vs.drop n) (ds.drop n)
  | _, _, 0, r => r
  | _, _, _ + 1, .nil => .nil
  | _, _, n + 1, .cons _ r => r.drop n
theorem Reps.set {B : Hp} {v : V} {d : D} (h : Rep B v d) : ∀ {vs : List V} {ds : List D} (n : Nat), Reps B vs ds → Reps B (vs.set n v) (ds.set n d)
  | _, _, _, .nil => .nil
  | _, _, 0, .cons _ r => .cons h r
  | _, _, n + 1, .cons k r => .cons k (Reps.set h n r)
theorem Reps.reverse {B : Hp} {vs : List V} {ds : List D} (r : Reps B vs ds) : Reps B vs.reverse ds.reverse := by
  induction r using Reps.rec (motive_1 := fun _ _ _ => True) with
  | nil => exact .nil
  | cons h r _ ih => rw [List.reverse_cons, List.reverse_cons]; exact ih.append (.cons h .nil)
  | _ => trivial
theorem Reps.rep {B : Hp} {vs : List V} {ds : List D} (r : Reps B vs ds) : ∀ k : Nat, Reps B (List.replicate k vs).flatten (List.replicate k ds).flatten
  | 0 => .nil
  | k + 1 => by
    rw [List.replicate_succ, List.replicate_succ, List.flatten_cons, List.flatten_cons]
    exact r.append (r.rep k)
theorem Reps.eraseIdx {B : Hp} : ∀ {vs : List V} {ds : List D} (n : Nat), Reps B vs ds → Reps B (vs.eraseIdx n) (ds.eraseIdx n)
  | _, _, _, .nil => .nil
  | _, _, 0, .cons _ r => r
  | _, _, n + 1, .cons h r => .cons h (r.eraseIdx n)
theorem Reps.dropLast {B : Hp} {vs : List V} {ds : List D} (r : Reps B vs ds) : Reps B vs.dropLast ds.dropLast := by
  rw [List.dropLast_eq_take, List.dropLast_eq_take, r.length]
  exact r.take _
section
variable {C : Cz} {B H : Hp} {σ : L2.St} {ρ ρ' : Env} {ps : Pend} {v : V} {m : M} {i : Nat} {r : R} {d : D}
/-- what was looked at stands for d; where it is still pending it is pending as before -/
theorem Wld.flat {its : List Item} {fp : List Addr} (w : Wld C B H ((v, m) :: its) fp) : ∃ B' fp', Same B B' ∧ Wld C B' H ((v, m.flat) :: its) fp' ∧ View B' H v m.toD := by
  cases m with
  | imm d => exact ⟨B, fp, .refl _, w, .rep w.imm_rep.1⟩
  | lst ds =>
    refine ⟨B, fp, .refl _, w, ?_⟩
    cases w.it with
    | cons h _ => cases h with | lst h r => exact .lst h r
  | dK ks ds =>
    refine ⟨B, fp, .refl _, w, ?_⟩
    cases w.it with
    | cons h _ => cases h with | dK h l r => exact .dK h l r
  | dT ks ds =>
    refine ⟨B, fp, .refl _, w, ?_⟩
    cases w.it with
    | cons h _ => cases h with | dT h l r => exact .dT h l r
  | dtup ms =>
    obtain ⟨B', fp', e, w'⟩ := w.freeze
    exact ⟨B', fp', e, w', .rep w'.imm_rep.1⟩
  | deep ms =>
    cases w with
    | mk bh rh b0 br it nd fr =>
    cases it with
    | cons h rest =>
      cases h with
      | @deep p vs _ its0 f h e1 e2 r =>
        subst e1 e2
        have nd' : p ∉ f ++ _ ∧ (f ++ _).Nodup := List.nodup_cons.mp nd
        have hn := List.nodup_append.mp nd'.2
        have hs : Same B (addB B H f) := addB_same fun a ha => (fr a (by simp [ha])).1
        have hr := Its.froz (B' := addB B H f) hs r fun a ha o e => by unfold addB; rw [if_pos ha, e]
        refine ⟨addB B H f, p :: _, hs, ⟨fun a o e => ?_, rh, b0.trans hs, fun a e1 e2 => ?_, .cons (f := [p]) (.lst h hr) (rest.mono hs fun _ _ _ q => q), List.nodup_cons.mpr ⟨fun q => nd'.1 (List.mem_append_right _ q), hn.2.1⟩, fun a ha => ⟨?_, ?_⟩⟩, .lst h hr⟩
        · unfold addB at e
          split at e
          · exact e
          · exact bh a o e
        · unfold addB at e1
          split at e1
          · exact absurd (fr a (by simp; right; left; assumption)).2 e2
          · exact br a e1 e2
        · rcases List.mem_cons.mp ha with q | q
          · subst q
            unfold addB
            rw [if_neg fun q => nd'.1 (by simp [q])]
            exact (fr _ (by simp)).1
          · unfold addB
            rw [if_neg fun q' => hn.2.2 a q' a q rfl]
            exact (fr a (List.mem_cons_of_mem _ (List.mem_append_right _ q))).1
        · rcases List.mem_cons.mp ha with q | q
          · subst q; exact (fr _ (by simp)).2
          · exact (fr a (List.mem_cons_of_mem _ (List.mem_append_right _ q))).2
def R.flat : R → R
  | .tmp m => .tmp m.flat
  | .slt i => .slt i
theorem WB.vw (w : WB C B σ ρ ((v, r) :: ps) H) (h : FD.vw r ρ = some (d, ρ')) : ∃ B', Same B B' ∧ WB C B' σ ρ' ((v, r.flat) :: ps) H ∧ View B' H v d := by
  cases r with
  | tmp m =>
    cases h
    obtain ⟨fp, q⟩ := w.tmp
    obtain ⟨B', fp', e, q, vw⟩ := q.flat
    exact ⟨B', e, .of_tmp w.cov w.psr q, vw⟩
  | slt i =>
    have hv := w.ref v i (by simp)
    unfold FD.vw at h
    cases q : ρ[i]? with
    | none => simp only [q] at h; cases h
    | some o =>
      cases o with
      | none => simp only [q] at h; cases h
      | some m =>
        simp only [q] at h
        cases h
        have hl : i < ρ.length := (List.getElem?_eq_some_iff.mp q).1
        have w0 := w.drop
        obtain ⟨fp, w1⟩ := (w0.take q hv).tmp
        obtain ⟨B', fp', e, w1, vw⟩ := w1.flat
        have w2 : WB C B' σ (ρ.set i none) ((v, .tmp m.flat) :: ps) H := .of_tmp w0.cov.un w0.ref w1
        have w3 := w2.give hl hv
        exact ⟨B', e, ⟨w3.cov, fun v' j hj => by
          rcases List.mem_cons.mp hj with e | hj
          · cases e; exact hv
          · exact w3.ref v' j hj, w3.wd⟩, vw⟩
theorem WB.fz (w : WB C B σ ρ ((v, r) :: ps) H) (h : FD.fz r ρ = some (d, ρ')) : ∃ B', Same B B' ∧ WB C B' σ ρ' ((v, .tmp (.imm d)) :: ps) H := by
  cases r with
  | tmp m => cases h; exact w.freeze
  | slt i =>
    have hv := w.ref v i (by simp)
    unfold FD.fz at h
    cases q : ρ[i]? with
    | none => simp only [q] at h; cases h
    | some o =>
      cases o with
      | none => simp only [q] at h; cases h
      | some m =>
        simp only [q] at h
        cases h
        have hl : i < ρ.length := (List.getElem?_eq_some_iff.mp q).1
        have w0 := w.drop
        obtain ⟨B', e, w1⟩ := (w0.take q hv).freeze
        obtain ⟨fp, w2⟩ := w1.tmp
        obtain ⟨fp', w5⟩ := (w2.imm w2.imm_rep.1).perm (List.Perm.cons _ List.perm_middle.symm)
        have w3 : WB C B' σ (ρ.set i none) ((v, .tmp (.imm m.toD)) :: (v, .tmp (.imm m.toD)) :: ps) H := .of_tmp w0.cov.un w1.ref w5
        exact ⟨B', e, by
          have w5 := w3.give hl hv
          exact w5⟩
theorem W.fz (w : W C σ ρ ((v, r) :: ps) H) (h : FD.fz r ρ = some (d, ρ')) : W C σ ρ' ((v, .tmp (.imm d)) :: ps) H :=
  let ⟨_, w⟩ := w; let ⟨B', _, w⟩ := w.fz h; ⟨B', w⟩
theorem W.mv (w : W C σ ρ ((v, r) :: ps) H) (h : FD.mv r ρ = some (m, ρ')) : W C σ ρ' ((v, .tmp m) :: ps) H := by
  obtain ⟨B, w⟩ := w
  refine ⟨B, ?_⟩
  cases r with
  | tmp m => cases h; exact w
  | slt i =>
    have hv := w.ref v i (by simp)
    unfold FD.mv at h
    cases q : ρ[i]? with
    | none => simp only [q] at h; cases h
    | some o =>
      cases o with
      | none => simp only [q] at h; cases h
      | some m =>
        simp only [q] at h
        cases h
        exact w.drop.take q hv
end
end FD
set_option Elab.async false
set_option linter.all false
set_option maxRecDepth 100000
/-! FD3: expressions. -/
namespace FD
open PySem PySem.Spec PyProof.Rows L2
section
variable {C : Cz} {B H : Hp} {σ : L2.St} {ρ ρ' : Env} {ps ps' : Pend} {v : V} {m : M} {i : Nat} {r : R} {d : D}
theorem WB.permP (w : WB C B σ ρ ps H) (p : ps.Perm ps') : WB C B σ ρ ps' H := by
  obtain ⟨fp, q⟩ := w.wd
  obtain ⟨fp, q⟩ := q.perm ((p.filterMap tmpI).append_left _)
  exact ⟨w.cov, fun v i h => w.ref v i (p.mem_iff.mpr h), fp, q⟩
theorem W.permP (w : W C σ ρ ps H) (p : ps.Perm ps') : W C σ ρ ps' H := let ⟨B, w⟩ := w; ⟨B, w.permP p⟩
theorem W.dropL {qs : Pend} (w : W C σ ρ (qs ++ ps) H) : W C σ ρ ps H := by
  induction qs with
  | nil => exact w
  | cons q qs ih =>
    obtain ⟨v, r⟩ := q
    exact ih w.drop
theorem WB.dropL {qs : Pend} (w : WB C B σ ρ (qs ++ ps) H) : WB C B σ ρ ps H := by
  induction qs with
  | nil => exact w
  | cons q qs ih =>
    obtain ⟨v, r⟩ := q
    exact ih w.drop
/-- a fact of the world: what a new front item needs -/
theorem WB.front {fp : List Addr} (w : WB C B σ ρ ps H) {B' H' : Hp} (h : Wld C B' H' ((v, m) :: (Sl σ ρ ++ tmps ps)) fp) : W C σ ρ ((v, .tmp m) :: ps) H' :=
  ⟨B', .of_tmp w.cov w.ref h⟩
end
/-! ### names, constants -/
noncomputable def nameE (i : Nat) : EF := fun ρ => match ρ[i]? with
  | some (some (.imm d)) => some (.tmp (.imm d), ρ)
  | some (some _) => some (.slt i, ρ)
  | _ => none
theorem sem_var {i : Nat} : SemE (tVar i) (nameE i) := ⟨fun C σ ρ ps H r ρ' h w Q k => by
  obtain ⟨B, w⟩ := w
  unfold nameE at h
  cases q : ρ[i]? with
  | none => simp only [q] at h; cases h
  | some o =>
    cases o with
    | none => simp only [q] at h; cases h
    | some m =>
      obtain ⟨v, hv⟩ := w.cov.has i m q
      have hl : i < ρ.length := (List.getElem?_eq_some_iff.mp q).1
      refine ⟨v, hv, ?_⟩
      have own : (r, ρ') = (R.slt i, ρ) → Q v H := fun e => by
        cases e
        exact k v H ⟨B, w.cov, fun v' j hj => by
          rcases List.mem_cons.mp hj with e | hj
          · cases e; exact hv
          · exact w.ref v' j hj, w.wd⟩
      cases m with
      | imm d =>
        simp only [q] at h
        cases h
        have w1 := w.take q hv
        have r := w1.imm_rep
        exact k v H ⟨B, w.imm r⟩
      | lst _ => simp only [q] at h; cases h; exact own rfl
      | deep _ => simp only [q] at h; cases h; exact own rfl
      | dtup _ => simp only [q] at h; cases h; exact own rfl
      | dK _ _ => simp only [q] at h; cases h; exact own rfl
      | dT _ _ => simp only [q] at h; cases h; exact own rfl⟩
noncomputable def constE (d : D) : EF := fun ρ => some (.tmp (.imm d), ρ)
theorem sem_c {v : V} {d : D} (h : ∀ B, Rep B v d) : SemE (tC v) (constE d) := ⟨fun C σ ρ ps H r ρ' e w Q k => by
  cases e
  exact k v H (w.scal h)⟩
section
variable {X : Cx} {pos : Pos}
theorem de_name (i : Nat) {x : Str} (hN : X.N[i]? = some x := by rfl) (hv : Vis X.env.scope x := by first | exact Or.inl rfl | exact Or.inr (Or.inl rfl) | exact Or.inr (Or.inr rfl)) (hd : (x == ("__debug__" : Str)) = false := by decide)
    (hcd : (x == ("__classdict__" : Str)) = false := by decide) : DE X (.Name x pos) (tVar i) (nameE i) := ⟨pe_var hN hv hd hcd, sem_var⟩
theorem de_int {i j} : DE X (.Constant (.int i) j pos) (tC (.int i)) (constE (.int i)) := ⟨pe_int, sem_c fun _ => .int i⟩
theorem de_bl {b j} : DE X (.Constant (.bool b) j pos) (tC (.bl b)) (constE (.bl b)) := ⟨pe_bl, sem_c fun _ => .bl b⟩
theorem de_non {j} : DE X (.Constant .none j pos) (tC .non) (constE .non) := ⟨pe_non, sem_c fun _ => .non⟩
theorem de_str {x j} : DE X (.Constant (.str x) j pos) (tC (.str x)) (constE (.str x)) := ⟨pe_str, sem_c fun _ => .str x⟩
end
/-! ### operations of two looked-at values -/
noncomputable def OpS (r : R2) (g : D → D → Option M) : Prop := ∀ (C : Cz) (B H : Hp) (its : List Item) (fp : List Addr) (x y : V) (d e : D) (m : M), Wld C B H its fp → View B H x d → View B H y e → g d e = some m →
  ∀ Q : VK, (∀ v H' B' fp', Wld C B' H' ((v, m) :: its) fp' → Q v H') → r x y H Q
noncomputable def op2 (g : D → D → Option M) (f1 f2 : EF) : EF := fun ρ =>
  match f1 ρ with
  | none => none
  | some (r1, ρ1) => match f2 ρ1 with
    | none => none
    | some (r2, ρ2) => match vw r1 ρ2 with
      | none => none
      | some (d1, ρ3) => match vw r2 ρ3 with
        | none => none
        | some (d2, ρ4) => match g d1 d2 with
          | none => none
          | some m => some (.tmp m, ρ4)
theorem sem_op {r : R2} {g : D → D → Option M} {ta tb : TE} {f1 f2 : EF} (o : OpS r g) (ha : SemE ta f1) (hb : SemE tb f2) : SemE (tOp r ta tb) (op2 g f1 f2) := ⟨fun C σ ρ ps H r' ρ' h w Q k => by
  unfold op2 at h
  split at h
  · cases h
  · rename_i r1 ρ1 e1
    split at h
    · cases h
    · rename_i r2 ρ2 e2
      split at h
      · cases h
      · rename_i d1 ρ3 e3
        split at h
        · cases h
        · rename_i d2 ρ4 e4
          split at h
          · cases h
          · rename_i m e5
            cases h
            refine ha.run C σ ρ ps H r1 ρ1 e1 w _ fun x H1 w1 => ?_
            refine hb.run C σ ρ1 _ H1 r2 ρ2 e2 w1 _ fun y H2 w2 => ?_
            obtain ⟨B, w2⟩ := w2
            obtain ⟨B', s1, w3, v1⟩ := (w2.permP (List.Perm.swap _ _ _)).vw e3
            obtain ⟨B2, s2, w4, v2⟩ := (w3.permP (List.Perm.swap _ _ _)).vw e4
            have w5 := w4.drop.drop
            obtain ⟨fp, w6⟩ := w5.wd
            exact o C B2 H2 _ fp x y d1 d2 m w6 (v1.mono s2) v2 e5 Q fun v H' B' fp' w7 => k v H' ⟨B', .of_tmp w5.cov w5.ref w7⟩⟩
theorem OpS.or {r r' : R2} {g g' : D → D → Option M} (h : OpS r g) (h' : OpS r' g') : OpS (fun x y H Q => r x y H Q ∨ r' x y H Q) (fun d e => match g d e with | some m => some m | none => g' d e) := by
  intro C B H its fp x y d e m w v1 v2 hg Q k
  cases q : g d e with
  | some m' =>
    simp only [q] at hg
    cases hg
    exact .inl (h C B H its fp x y d e m w v1 v2 q Q k)
  | none =>
    simp only [q] at hg
    exact .inr (h' C B H its fp x y d e m w v1 v2 hg Q k)
/-- several readings, one function -/
theorem OpS.cases {r r' : R2} {g : D → D → Option M} (p : D → D → Bool) (h : OpS r (fun d e => if p d e then g d e else none)) (h' : OpS r' (fun d e => if p d e then none else g d e)) : OpS (fun x y H Q => r x y H Q ∨ r' x y H Q) g := by
  intro C B H its fp x y d e m w v1 v2 hg Q k
  cases q : p d e with
  | true => exact .inl (h C B H its fp x y d e m w v1 v2 (by simp only [q, if_true]; exact hg) Q k)
  | false => exact .inr (h' C B H its fp x y d e m w v1 v2 (by simp only [q]; exact hg) Q k)
theorem Wld.scal {C : Cz} {B H : Hp} {its : List Item} {fp : List Addr} (w : Wld C B H its fp) {v : V} {d : D} (r : Rep B v d) {Q : VK} (k : ∀ v H' B' fp', Wld C B' H' ((v, M.imm d) :: its) fp' → Q v H') : Q v H := k v H B fp (w.imm r)
noncomputable def iop (C : Int → Int → Bool) (g : Int → Int → D) : D → D → Option M
  | .int i, .int j => if C i j then some (.imm (g i j)) else none
  | _, _ => none
theorem ops_I {P : Int → Int → Prop} {c : Int → Int → Bool} {g : Int → Int → V} {g' : Int → Int → D} (hg : ∀ B i j, Rep B (g i j) (g' i j)) (hc : ∀ i j, c i j = true → P i j) : OpS (rI P g) (iop c g') := by
  intro C B H its fp x y d e m w v1 v2 h Q k
  unfold iop at h
  split at h
  · rename_i i j
    split at h
    · rename_i q
      cases h
      exact ⟨i, j, v1.int, v2.int, hc i j q, w.scal (hg B i j) k⟩
    · cases h
  · cases h
theorem ops_I0 {g : Int → Int → V} {g' : Int → Int → D} (hg : ∀ B i j, Rep B (g i j) (g' i j)) : OpS (rI0 g) (iop (fun _ _ => true) g') := by
  intro C B H its fp x y d e m w v1 v2 h Q k
  unfold iop at h
  split at h
  · rename_i i j
    cases h
    exact ⟨i, j, v1.int, v2.int, w.scal (hg B i j) k⟩
  · cases h
/-! the functions on data -/
/-- a decision that nothing looks into -/
noncomputable def sealB (p : Prop) [Decidable p] : Bool := Classical.choose (⟨decide p, rfl⟩ : ∃ b, b = decide p)
theorem sealB_eq (p : Prop) [Decidable p] : sealB p = decide p := Classical.choose_spec (⟨decide p, rfl⟩ : ∃ b, b = decide p)
theorem sealB_is {p : Prop} [Decidable p] (h : sealB p = true) : p := of_decide_eq_true ((sealB_eq p).symm.trans h)
theorem sealB_of {p : Prop} [Decidable p] (h : p) : sealB p = true := (sealB_eq p).trans (decide_eq_true h)
noncomputable def smallL (n : Nat) : Bool := sealB (n ≤ 1000000)
theorem small_line {n : Nat} (h : smallL n = true) : n ≤ sizeLine := Nat.le_trans (sealB_is h) (by decide)
noncomputable def addD : D → D → Option M
  | .int i, .int j => some (.imm (.int (i + j)))
  | .str i, .str j => if smallL (i.length + j.length) then some (.imm (.str (i ++ j))) else none
  | .lst xs, .lst ys => if smallL (xs.length + ys.length) then some (.lst (xs ++ ys)) else none
  | .tup (x :: xs), .tup (y :: ys) => if smallL (xs.length + ys.length + 2) then some (.imm (.tup (x :: xs ++ y :: ys))) else none
  | _, _ => none
noncomputable def subD : D → D → Option M
  | .int i, .int j => some (.imm (.int (i - j)))
  | _, _ => none
/-- the product's size is in bounds -/
noncomputable def bigOk (i j : Int) : Bool := sealB (i.natAbs.log2 + j.natAbs.log2 < 1000000)
noncomputable def mulD : D → D → Option M
  | .int i, .int j => if bigOk i j then some (.imm (.int (i * j))) else none
  | .lst xs, .int k => if sealB (-(2 ^ 63) ≤ k ∧ k < 2 ^ 63) && smallL (xs.length * k.toNat) then some (.lst (List.replicate k.toNat xs).flatten) else none
  | _, _ => none
/-- // -/
noncomputable def fdivD : D → D → Option M
  | .int i, .int j => if sealB (0 < j ∧ j.natAbs.log2 < 9000) then some (.imm (.int (i / j))) else if sealB (j ≠ 0 ∧ j.natAbs < 1073741824) then some (.imm (.int (i.fdiv j))) else none
  | _, _ => none
noncomputable def modD : D → D → Option M
  | .int i, .int j => if decide (0 < j) then some (.imm (.int (i % j))) else if decide (j ≠ 0) then some (.imm (.int (i.fmod j))) else none
  | _, _ => none
noncomputable def powD : D → D → Option M
  | .int i, .int j => if sealB (0 ≤ j ∧ (Builtin.Int.intBits i : Int) * j ≤ 2 ^ 27) then some (.imm (.int (i ^ j.toNat))) else none
  | _, _ => none
section
variable {X : Cx}
theorem opr_pow : OpR X (binaryOp .Pow) (rI (fun i j => 0 ≤ j ∧ (Builtin.Int.intBits i : Int) * j ≤ 2 ^ 27) fun i j => .int (i ^ j.toNat)) := opI fun _ _ _ _ _ _ _ hc q => pow_int hc.1 hc.2 q
noncomputable def rAddX (K : PySem.W.Frag) : R2 := fun x y H Q => (rI0 (fun i j => .int (i + j)) x y H Q) ∨ (∃ i j, x = .str i ∧ y = .str j ∧ i.length + j.length ≤ sizeLine ∧ Q (.str (i ++ j)) H) ∨ rCat x y H Q ∨ rCatT K x y H Q
noncomputable def rMulX : R2 := fun x y H Q => rI CMulW (fun i j => .int (i * j)) x y H Q ∨ rRep x y H Q
noncomputable def rFdivX : R2 := fun x y H Q => rI CDivW (fun i j => .int (i / j)) x y H Q ∨ rI CDivN (fun i j => .int (i.fdiv j)) x y H Q
noncomputable def rModX : R2 := fun x y H Q => rI (fun _ j => 0 < j) (fun i j => .int (i % j)) x y H Q ∨ rI (fun _ j => j ≠ 0) (fun i j => .int (i.fmod j)) x y H Q
noncomputable def rPowX : R2 := rI (fun i j => 0 ≤ j ∧ (Builtin.Int.intBits i : Int) * j ≤ 2 ^ 27) fun i j => .int (i ^ j.toNat)
noncomputable def rSubX : R2 := rI0 fun i j => .int (i - j)
theorem de_op {op : Operator} {r : R2} {g : D → D → Option M} {a b : Expr} {ta tb : TE} {f1 f2 : EF} {pos : Pos} (o : OpR X (binaryOp op) r) (s : OpS r g) (ha : DE X a ta f1) (hb : DE X b tb f2) : DE X (.BinOp a op b pos) (tOp r ta tb) (op2 g f1 f2) :=
  ⟨pe_op o ha.pe hb.pe, sem_op s ha.sem hb.sem⟩
theorem ops_add {K : PySem.W.Frag} : OpS (rAddX K) addD := by
  intro C B H its fp x y d e m w v1 v2 h Q k
  unfold addD at h
  split at h
  · cases h
    exact .inl ⟨_, _, v1.int, v2.int, w.scal (.int _) k⟩
  · split at h
    · rename_i q
      cases h
      exact .inr (.inl ⟨_, _, v1.str, v2.str, small_line q, w.scal (.str _) k⟩)
    · cases h
  · split at h
    · rename_i q
      cases h
      obtain ⟨p, vs, rfl, hp, r1⟩ := v1.lst_ w.bh
      obtain ⟨p2, ws, rfl, hp2, r2⟩ := v2.lst_ w.bh
      exact .inr (.inr (.inl ⟨p, p2, vs, ws, rfl, rfl, hp, hp2, by rw [r1.length, r2.length]; exact small_line q, fun a ha => k _ _ B _ (w.new_lst ha (r1.append r2))⟩))
    · cases h
  · split at h
    · rename_i q
      cases h
      obtain ⟨p, vs, rfl, hp, r1⟩ := v1.tup_
      obtain ⟨p2, ws, rfl, hp2, r2⟩ := v2.tup_
      have l1 := r1.length
      have l2 := r2.length
      rw [List.length_cons] at l1 l2
      refine .inr (.inr (.inr ⟨p, p2, vs, ws, rfl, rfl, SqT.of (w.bh _ _ hp), SqT.of (w.bh _ _ hp2), ?_, ?_, ?_⟩))
      · intro z
        rw [z] at l1
        cases l1
      · have := small_line q
        omega
      · refine ⟨fun z => ?_, fun z a ha => ?_⟩
        · rw [z] at l2
          cases l2
        · obtain ⟨B', _, w'⟩ := w.new_tup ha (r1.append r2)
          exact k _ _ B' _ w'
    · cases h
  · cases h
theorem de_add {a b : Expr} {ta tb : TE} {f1 f2 : EF} {pos : Pos} (ha : DE X a ta f1) (hb : DE X b tb f2) : DE X (.BinOp a .Add b pos) (tOp (rAddX X.K) ta tb) (op2 addD f1 f2) :=
  de_op (r := (rAddX X.K)) (op_add.or (op_add_str.or (op_cat.or op_catT))) ops_add ha hb
theorem ops_sub : OpS rSubX subD := by
  intro C B H its fp x y d e m w v1 v2 h Q k
  unfold subD at h
  split at h
  · cases h
    exact ⟨_, _, v1.int, v2.int, w.scal (.int _) k⟩
  · cases h
theorem de_sub {a b : Expr} {ta tb : TE} {f1 f2 : EF} {pos : Pos} (ha : DE X a ta f1) (hb : DE X b tb f2) : DE X (.BinOp a .Sub b pos) (tOp rSubX ta tb) (op2 subD f1 f2) :=
  de_op (r := rSubX) op_sub ops_sub ha hb
theorem ops_mul : OpS rMulX mulD := by
  intro C B H its fp x y d e m w v1 v2 h Q k
  unfold mulD at h
  split at h
  · split at h
    · rename_i q
      cases h
      exact .inl ⟨_, _, v1.int, v2.int, (by have z := sealB_is q; exact z), w.scal (.int _) k⟩
    · cases h
  · split at h
    · rename_i q
      cases h
      rw [Bool.and_eq_true] at q
      have q1 := sealB_is q.1
      obtain ⟨p, vs, rfl, hp, r1⟩ := v1.lst_ w.bh
      exact .inr ⟨p, _, vs, rfl, v2.int, hp, q1.1, q1.2, by rw [r1.length]; exact small_line q.2, fun a ha => k _ _ B _ (w.new_lst ha (r1.rep _))⟩
    · cases h
  · cases h
theorem de_mul {a b : Expr} {ta tb : TE} {f1 f2 : EF} {pos : Pos} (ha : DE X a ta f1) (hb : DE X b tb f2) : DE X (.BinOp a .Mult b pos) (tOp rMulX ta tb) (op2 mulD f1 f2) :=
  de_op (r := rMulX) (op_mulW.or op_rep) ops_mul ha hb
theorem ops_fdiv : OpS rFdivX fdivD := by
  intro C B H its fp x y d e m w v1 v2 h Q k
  unfold fdivD at h
  split at h
  · split at h
    · rename_i q
      cases h
      exact .inl ⟨_, _, v1.int, v2.int, (by have z := sealB_is q; exact z), w.scal (.int _) k⟩
    · split at h
      · rename_i q
        cases h
        exact .inr ⟨_, _, v1.int, v2.int, (by have z := sealB_is q; exact z), w.scal (.int _) k⟩
      · cases h
  · cases h
theorem de_fdiv {a b : Expr} {ta tb : TE} {f1 f2 : EF} {pos : Pos} (ha : DE X a ta f1) (hb : DE X b tb f2) : DE X (.BinOp a .FloorDiv b pos) (tOp rFdivX ta tb) (op2 fdivD f1 f2) :=
  de_op (r := rFdivX) (op_fdivW.or op_fdivN) ops_fdiv ha hb
theorem ops_mod : OpS rModX modD := by
  intro C B H its fp x y d e m w v1 v2 h Q k
  unfold modD at h
  split at h
  · split at h
    · rename_i q
      cases h
      exact .inl ⟨_, _, v1.int, v2.int, (by have z := of_decide_eq_true q; exact z), w.scal (.int _) k⟩
    · split at h
      · rename_i q
        cases h
        exact .inr ⟨_, _, v1.int, v2.int, (by have z := of_decide_eq_true q; exact z), w.scal (.int _) k⟩
      · cases h
  · cases h
theorem de_mod {a b : Expr} {ta tb : TE} {f1 f2 : EF} {pos : Pos} (ha : DE X a ta f1) (hb : DE X b tb f2) : DE X (.BinOp a .Mod b pos) (tOp rModX ta tb) (op2 modD f1 f2) :=
  de_op (r := rModX) (op_mod.or op_modN) ops_mod ha hb
theorem ops_pow : OpS rPowX powD := by
  intro C B H its fp x y d e m w v1 v2 h Q k
  unfold powD at h
  split at h
  · split at h
    · rename_i q
      cases h
      exact ⟨_, _, v1.int, v2.int, (by have z := sealB_is q; exact z), w.scal (.int _) k⟩
    · cases h
  · cases h
theorem de_pow {a b : Expr} {ta tb : TE} {f1 f2 : EF} {pos : Pos} (ha : DE X a ta f1) (hb : DE X b tb f2) : DE X (.BinOp a .Pow b pos) (tOp rPowX ta tb) (op2 powD f1 f2) :=
  de_op (r := rPowX) opr_pow ops_pow ha hb
end
/-! ### comparisons -/
noncomputable def cmpI (p : Int → Int → Bool) : D → D → Option M
  | .int i, .int j => some (.imm (.bl (p i j)))
  | _, _ => none
theorem ops_cmpI {p : Int → Int → Bool} : OpS (rI0 fun i j => .bl (p i j)) (cmpI p) := by
  intro C B H its fp x y d e m w v1 v2 h Q k
  unfold cmpI at h
  split at h
  · cases h
    exact ⟨_, _, v1.int, v2.int, w.scal (.bl _) k⟩
  · cases h
noncomputable abbrev ltD := cmpI fun i j => decide (i < j)
noncomputable abbrev leD := cmpI fun i j => decide (i ≤ j)
noncomputable abbrev gtD := cmpI fun i j => decide (j < i)
noncomputable abbrev geD := cmpI fun i j => decide (j ≤ i)
noncomputable def D.scal : D → Bool
  | .non | .bl _ | .int _ | .str _ => true
  | _ => false
/-- data that may be compared: no dict, nothing opaque, not too deep -/
noncomputable def D.ok : Nat → D → Bool
  | 0, d => d.scal
  | n + 1, .lst xs => xs.all (D.ok n)
  | n + 1, .tup xs => xs.all (D.ok n)
  | _ + 1, d => d.scal
mutual
noncomputable def D.toP : D → PyData
  | .non => .none
  | .bl b => .bool b
  | .int i => .int i
  | .str s => .str s
  | .lst xs => .list (D.toPs xs)
  | .tup xs => .tuple (D.toPs xs)
  | _ => .dict []
noncomputable def D.toPs : List D → List PyData
  | [] => []
  | x :: xs => x.toP :: D.toPs xs
end
theorem D.scal_P {d : D} (h : d.scal = true) : d.toP.plain = true ∧ d.toP.depth = 0 := by
  cases d <;> first | exact ⟨rfl, rfl⟩ | cases h
theorem D.ok_P : ∀ {n : Nat} {d : D}, D.ok n d = true → d.toP.plain = true ∧ d.toP.depth ≤ n := by
  intro n
  induction n with
  | zero => intro d h; have := D.scal_P (d := d) h; exact ⟨this.1, by omega⟩
  | succ n ih =>
    have hs : ∀ xs : List D, xs.all (D.ok n) = true → PyData.plainAll (D.toPs xs) = true ∧ PyData.depthAll (D.toPs xs) ≤ n := by
      intro xs
      induction xs with
      | nil => intro _; exact ⟨rfl, Nat.zero_le _⟩
      | cons x xs ihx =>
        intro h
        rw [List.all_cons, Bool.and_eq_true] at h
        have h1 := ih h.1
        have h2 := ihx h.2
        constructor
        · show (x.toP.plain && PyData.plainAll (D.toPs xs)) = true
          rw [h1.1, h2.1]; rfl
        · show max x.toP.depth (PyData.depthAll (D.toPs xs)) ≤ n
          omega
    intro d h
    cases d with
    | lst xs => have := hs xs h; exact ⟨this.1, Nat.succ_le_succ this.2⟩
    | tup xs => have := hs xs h; exact ⟨this.1, Nat.succ_le_succ this.2⟩
    | non => exact ⟨rfl, Nat.zero_le _⟩
    | bl _ => exact ⟨rfl, Nat.zero_le _⟩
    | int _ => exact ⟨rfl, Nat.zero_le _⟩
    | str _ => exact ⟨rfl, Nat.zero_le _⟩
    | dK _ _ => cases h
    | dT _ _ => cases h
    | opq _ => cases h
    | scr _ _ => cases h
mutual
theorem Rep.dp {K : PySem.W.Frag} {H : Hp} : ∀ {v : V} {d : D}, Rep H v d → d.toP.plain = true → Dp K H v d.toP
  | _, _, .non, _ => .non
  | _, _, .bl b, _ => .bl b
  | _, _, .int i, _ => .int i
  | _, _, .str s, _ => .str s
  | _, _, .lst h r, q => .lst (SqL.of h) (Reps.dp r q)
  | _, _, .tup h r, q => .tup (SqT.of h) (Reps.dp r q)
  | _, _, .dK _ _ _, q => Bool.noConfusion q
  | _, _, .dT _ _ _, q => Bool.noConfusion q
  | _, _, .opq _, q => Bool.noConfusion q
  | _, _, .scr _, q => Bool.noConfusion q
theorem Reps.dp {K : PySem.W.Frag} {H : Hp} : ∀ {vs : List V} {ds : List D}, Reps H vs ds → PyData.plainAll (D.toPs ds) = true → DpAll K H vs (D.toPs ds)
  | _, _, .nil, _ => .nil
  | _, _, .cons h r, q => by
    have q' := Bool.and_eq_true_iff.mp q
    exact .cons (Rep.dp h q'.1) (Reps.dp r q'.2)
end
/-- Python's == on data -/
noncomputable def eqv (d e : D) : Bool := PyData.eqv d.toP e.toP
noncomputable def eqvs (d e : List D) : Bool := PyData.eqvAll (D.toPs d) (D.toPs e)
noncomputable def okE (d : D) : Bool := D.ok 12 d
noncomputable def eqD (d e : D) : Option M := if okE d && okE e then some (.imm (.bl (eqv d e))) else none
noncomputable def neD (d e : D) : Option M := if okE d && okE e then some (.imm (.bl (!eqv d e))) else none
section
variable {X : Cx}
noncomputable def rEqP (K : PySem.W.Frag) : R2 := fun x y H Q => ∃ d e, Dp K H x d ∧ Dp K H y e ∧ d.plain = true ∧ e.plain = true ∧ d.depth ≤ 12 ∧ Q (.bl (PyData.eqv d e)) H
noncomputable def rNeP (K : PySem.W.Frag) : R2 := fun x y H Q => ∃ d e, Dp K H x d ∧ Dp K H y e ∧ d.plain = true ∧ e.plain = true ∧ d.depth ≤ 12 ∧ Q (.bl (!PyData.eqv d e)) H
theorem op_eqP (hu : X.A.units + 64 < cLine) : OpR X (compareOp .Eq) (rEqP X.K) := by
  intro pins s σ H x y v u Q I rx ry h
  obtain ⟨d, e, hd, he, sd, se, dp, q⟩ := h
  obtain ⟨as, r1⟩ := Dp.reads I d x v hd rx
  obtain ⟨bs, r2⟩ := Dp.reads I e y u he ry
  exact SeqAt.eq_plain r1 r2 sd se (by omega) ⟨.bl _, H, I, rfl, q⟩
theorem op_neP (hu : X.A.units + 64 < cLine) : OpR X (compareOp .NotEq) (rNeP X.K) := by
  intro pins s σ H x y v u Q I rx ry h
  obtain ⟨d, e, hd, he, sd, se, dp, q⟩ := h
  obtain ⟨as, r1⟩ := Dp.reads I d x v hd rx
  obtain ⟨bs, r2⟩ := Dp.reads I e y u he ry
  exact SeqAt.ne_plain r1 r2 sd se (by omega) ⟨.bl _, H, I, rfl, q⟩
theorem ops_eq {K : PySem.W.Frag} : OpS (rEqP K) eqD := by
  intro C B H its fp x y d e m w v1 v2 h Q k
  unfold eqD at h
  split at h
  · rename_i q
    cases h
    rw [Bool.and_eq_true] at q
    have q1 := D.ok_P q.1
    have q2 := D.ok_P q.2
    exact ⟨_, _, (v1.rep_h w.bh).dp q1.1, (v2.rep_h w.bh).dp q2.1, q1.1, q2.1, q1.2, w.scal (.bl _) k⟩
  · cases h
theorem ops_ne {K : PySem.W.Frag} : OpS (rNeP K) neD := by
  intro C B H its fp x y d e m w v1 v2 h Q k
  unfold neD at h
  split at h
  · rename_i q
    cases h
    rw [Bool.and_eq_true] at q
    have q1 := D.ok_P q.1
    have q2 := D.ok_P q.2
    exact ⟨_, _, (v1.rep_h w.bh).dp q1.1, (v2.rep_h w.bh).dp q2.1, q1.1, q2.1, q1.2, w.scal (.bl _) k⟩
  · cases h
/-- in -/
noncomputable def rInP (K : PySem.W.Frag) (neg : Bool) : R2 := fun x y H Q => ∃ d ds, Dp K H x d ∧ (Dp K H y (.list ds) ∨ Dp K H y (.tuple ds)) ∧ d.plain = true ∧ PyData.plainAll ds = true ∧ d.depth ≤ 12 ∧ Q (.bl (if neg then !ds.any fun z => PyData.eqv z d else ds.any fun z => PyData.eqv z d)) H
theorem op_inP (hu : X.A.units + 64 < cLine) : OpR X (compareOp .In) (rInP X.K false) := by
  intro pins s σ H x y v u Q I rx ry h
  obtain ⟨d, ds, hd, he, sd, se, dp, q⟩ := h
  obtain ⟨as, r1⟩ := Dp.reads I d x v hd rx
  rcases he with he | he
  · obtain ⟨bs, r2⟩ := Dp.reads I _ y u he ry
    exact SeqAt.in_list_data r2 r1 se sd (by omega) ⟨.bl _, H, I, rfl, q⟩
  · obtain ⟨bs, r2⟩ := Dp.reads I _ y u he ry
    exact SeqAt.in_tuple_data r2 r1 se sd (by omega) ⟨.bl _, H, I, rfl, q⟩
theorem op_notInP (hu : X.A.units + 64 < cLine) : OpR X (compareOp .NotIn) (rInP X.K true) := by
  intro pins s σ H x y v u Q I rx ry h
  obtain ⟨d, ds, hd, he, sd, se, dp, q⟩ := h
  obtain ⟨as, r1⟩ := Dp.reads I d x v hd rx
  rcases he with he | he
  · obtain ⟨bs, r2⟩ := Dp.reads I _ y u he ry
    exact SeqAt.notIn_list_data r2 r1 se sd (by omega) ⟨.bl _, H, I, rfl, q⟩
  · obtain ⟨bs, r2⟩ := Dp.reads I _ y u he ry
    exact SeqAt.notIn_tuple_data r2 r1 se sd (by omega) ⟨.bl _, H, I, rfl, q⟩
noncomputable def isIn (d : D) (xs : List D) : Bool := xs.any fun z => eqv z d
noncomputable def inD (neg : Bool) (d e : D) : Option M := match e with
  | .lst xs => if okE d && okE (.lst xs) then some (.imm (.bl (if neg then !isIn d xs else isIn d xs))) else none
  | .tup xs => if okE d && okE (.tup xs) then some (.imm (.bl (if neg then !isIn d xs else isIn d xs))) else none
  | _ => none
theorem any_toPs (d : D) : ∀ xs : List D, (D.toPs xs).any (fun z => PyData.eqv z d.toP) = isIn d xs
  | [] => rfl
  | x :: xs => by
    have ih := any_toPs d xs
    show (PyData.eqv x.toP d.toP || (D.toPs xs).any fun z => PyData.eqv z d.toP) = _
    rw [ih]
    rfl
theorem ops_in {K : PySem.W.Frag} {neg : Bool} : OpS (rInP K neg) (inD neg) := by
  intro C B H its fp x y d e m w v1 v2 h Q k
  have go : ∀ xs : List D, (e = .lst xs ∨ e = .tup xs) → okE d = true → okE e = true → m = .imm (.bl (if neg then !isIn d xs else isIn d xs)) → rInP K neg x y H Q := by
    intro xs he q1 q2 hm
    have q1' := D.ok_P q1
    have q2' := D.ok_P q2
    have rx := (v1.rep_h w.bh).dp (K := K) q1'.1
    have ry := (v2.rep_h w.bh).dp (K := K) q2'.1
    refine ⟨d.toP, D.toPs xs, rx, ?_, q1'.1, ?_, q1'.2, ?_⟩
    · rcases he with rfl | rfl
      · exact .inl ry
      · exact .inr ry
    · rcases he with rfl | rfl
      · exact q2'.1
      · exact q2'.1
    · rw [any_toPs]
      subst hm
      exact w.scal (.bl _) k
  unfold inD at h
  split at h
  · split at h
    · rename_i q
      cases h
      rw [Bool.and_eq_true] at q
      exact go _ (.inl rfl) q.1 q.2 rfl
    · cases h
  · split at h
    · rename_i q
      cases h
      rw [Bool.and_eq_true] at q
      exact go _ (.inr rfl) q.1 q.2 rfl
    · cases h
  · cases h
end
end FD
set_option Elab.async false
set_option linter.all false
set_option maxRecDepth 100000
/-! FD4: tests, argument lists, displays, subscripts, slices. -/
namespace FD
open PySem PySem.Spec PyProof.Rows L2
section
variable {X : Cx} {a b c e : Expr} {es : List Expr} {ta tb tc te : TE} {f1 f2 f3 f : EF} {pos : Pos}
theorem de_cmp {op : CmpOp} {r : R2} {g : D → D → Option M} (o : OpR X (compareOp op) r) (s : OpS r g) (ha : DE X a ta f1) (hb : DE X b tb f2) (hm : behindInMarks op b = false) : DE X (.Compare a [op] [b] pos) (tOp r ta tb) (op2 g f1 f2) :=
  ⟨pe_cmpR o ha.pe hb.pe hm, sem_op s ha.sem hb.sem⟩
theorem de_lt (ha : DE X a ta f1) (hb : DE X b tb f2) : DE X (.Compare a [.Lt] [b] pos) (tOp (rI0 fun i j => .bl (decide (i < j))) ta tb) (op2 ltD f1 f2) := de_cmp op_lt ops_cmpI ha hb (nomark _)
theorem de_le (ha : DE X a ta f1) (hb : DE X b tb f2) : DE X (.Compare a [.LtE] [b] pos) (tOp (rI0 fun i j => .bl (decide (i ≤ j))) ta tb) (op2 leD f1 f2) := de_cmp op_le ops_cmpI ha hb (nomark _)
theorem de_gt (ha : DE X a ta f1) (hb : DE X b tb f2) : DE X (.Compare a [.Gt] [b] pos) (tOp (rI0 fun i j => .bl (decide (j < i))) ta tb) (op2 gtD f1 f2) := de_cmp op_gt ops_cmpI ha hb (nomark _)
theorem de_ge (ha : DE X a ta f1) (hb : DE X b tb f2) : DE X (.Compare a [.GtE] [b] pos) (tOp (rI0 fun i j => .bl (decide (j ≤ i))) ta tb) (op2 geD f1 f2) := de_cmp op_ge ops_cmpI ha hb (nomark _)
theorem de_eq (hu : X.A.units + 64 < cLine) (ha : DE X a ta f1) (hb : DE X b tb f2) : DE X (.Compare a [.Eq] [b] pos) (tOp (rEqP X.K) ta tb) (op2 eqD f1 f2) := de_cmp (op_eqP hu) ops_eq ha hb (nomark _)
theorem de_ne (hu : X.A.units + 64 < cLine) (ha : DE X a ta f1) (hb : DE X b tb f2) : DE X (.Compare a [.NotEq] [b] pos) (tOp (rNeP X.K) ta tb) (op2 neD f1 f2) := de_cmp (op_neP hu) ops_ne ha hb (nomark _)
noncomputable def rInX (K : PySem.W.Frag) (neg : Bool) : R2 := fun x y H Q => rInP K neg x y H Q ∨ ∃ i j, x = .str i ∧ y = .str j ∧ i.length = 1 ∧ Q (.bl (if neg then !decide (i.cps.toList.headD 0 ∈ j.cps.toList) else decide (i.cps.toList.headD 0 ∈ j.cps.toList))) H
theorem de_in (hu : X.A.units + 64 < cLine) (ha : DE X a ta f1) (hb : DE X b tb f2) (hm : behindInMarks .In b = false := by rfl) : DE X (.Compare a [.In] [b] pos) (tOp (rInP X.K false) ta tb) (op2 (inD false) f1 f2) := de_cmp (op_inP hu) ops_in ha hb hm
theorem de_nin (hu : X.A.units + 64 < cLine) (ha : DE X a ta f1) (hb : DE X b tb f2) (hm : behindInMarks .NotIn b = false := by rfl) : DE X (.Compare a [.NotIn] [b] pos) (tOp (rInP X.K true) ta tb) (op2 (inD true) f1 f2) := de_cmp (op_notInP hu) ops_in ha hb hm
/-- x is None -/
noncomputable def isD (neg : Bool) (d e : D) : Option M := match e with
  | .non => match d with
    | .non => some (.imm (.bl (!neg)))
    | .opq _ => none
    | _ => some (.imm (.bl neg))
  | _ => none
theorem ops_is {neg : Bool} : OpS (fun x y H Q => y = .non ∧ Q (.bl (if neg then !decide (x = .non) else decide (x = .non))) H) (isD neg) := by
  intro C B H its fp x y d e m w v1 v2 h Q k
  unfold isD at h
  split at h
  · refine ⟨v2.non, ?_⟩
    split at h
    · cases h
      rw [v1.non, decide_eq_true rfl]
      cases neg <;> exact w.scal (.bl _) k
    · cases h
    · cases h
      rename_i h1 h2
      have hx : x ≠ .non := by
        intro e
        subst e
        cases v1 with
        | rep r => cases r with
          | non => exact h1 rfl
          | opq => exact h2 _ rfl
      rw [decide_eq_false hx]
      cases neg <;> exact w.scal (.bl _) k
  · cases h
theorem de_is (ha : DE X a ta f1) (hb : DE X b tb f2) : DE X (.Compare a [.Is] [b] pos) (tOp (fun x y H Q => y = .non ∧ Q (.bl (if false then !decide (x = .non) else decide (x = .non))) H) ta tb) (op2 (isD false) f1 f2) := de_cmp op_isN ops_is ha hb (nomark _)
theorem de_isnt (ha : DE X a ta f1) (hb : DE X b tb f2) : DE X (.Compare a [.IsNot] [b] pos) (tOp (fun x y H Q => y = .non ∧ Q (.bl (if true then !decide (x = .non) else decide (x = .non))) H) ta tb) (op2 (isD true) f1 f2) := de_cmp op_notN ops_is ha hb (nomark _)
/-! ### tests -/
abbrev TF := Env → Option (Bool × Env)
noncomputable def boolT (f : EF) : TF := fun ρ => match f ρ with
  | some (.tmp (.imm (.bl b)), ρ') => some (b, ρ')
  | _ => none
theorem sem_boolT (h : SemE te f) : SemT (tTest te) (boolT f) := ⟨fun C σ ρ ps H b ρ' e w Q k => by
  unfold boolT at e
  split at e
  · rename_i b' ρ1 q
    cases e
    refine h.run C σ ρ ps H _ _ q w _ fun v H' w' => ?_
    obtain ⟨B, w'⟩ := w'
    have r := w'.imm_rep
    cases r
    exact ⟨b, rfl, k H' ⟨B, w'.drop⟩⟩
  · cases e⟩
theorem dt_val (h : DE X e te f) (he : ∀ whole, isTrue e X.env whole = (do let v ← whole; standAt e.pos; holding [v] (truthy v)) := by intro _; rfl) : DT X e (tB te) (boolT f) := ⟨pt_val h.pe he, sem_boolT h.sem⟩
theorem dt_cmp {op : CmpOp} {r : R2} {g : D → D → Option M} (o : OpR X (compareOp op) r) (s : OpS r g) (ha : DE X a ta f1) (hb : DE X b tb f2) (hm : behindInMarks op b = false) : DT X (.Compare a [op] [b] pos) (tTest (tOp r ta tb)) (boolT (op2 g f1 f2)) :=
  ⟨pt_cmpR o ha.pe hb.pe hm, sem_boolT (sem_op s ha.sem hb.sem)⟩
theorem dt_lt (ha : DE X a ta f1) (hb : DE X b tb f2) : DT X (.Compare a [.Lt] [b] pos) (tTest (tOp (rI0 fun i j => .bl (decide (i < j))) ta tb)) (boolT (op2 ltD f1 f2)) := dt_cmp op_lt ops_cmpI ha hb (nomark _)
theorem dt_le (ha : DE X a ta f1) (hb : DE X b tb f2) : DT X (.Compare a [.LtE] [b] pos) (tTest (tOp (rI0 fun i j => .bl (decide (i ≤ j))) ta tb)) (boolT (op2 leD f1 f2)) := dt_cmp op_le ops_cmpI ha hb (nomark _)
theorem dt_gt (ha : DE X a ta f1) (hb : DE X b tb f2) : DT X (.Compare a [.Gt] [b] pos) (tTest (tOp (rI0 fun i j => .bl (decide (j < i))) ta tb)) (boolT (op2 gtD f1 f2)) := dt_cmp op_gt ops_cmpI ha hb (nomark _)
theorem dt_ge (ha : DE X a ta f1) (hb : DE X b tb f2) : DT X (.Compare a [.GtE] [b] pos) (tTest (tOp (rI0 fun i j => .bl (decide (j ≤ i))) ta tb)) (boolT (op2 geD f1 f2)) := dt_cmp op_ge ops_cmpI ha hb (nomark _)
theorem dt_eq (hu : X.A.units + 64 < cLine) (ha : DE X a ta f1) (hb : DE X b tb f2) : DT X (.Compare a [.Eq] [b] pos) (tTest (tOp (rEqP X.K) ta tb)) (boolT (op2 eqD f1 f2)) := dt_cmp (op_eqP hu) ops_eq ha hb (nomark _)
theorem dt_ne (hu : X.A.units + 64 < cLine) (ha : DE X a ta f1) (hb : DE X b tb f2) : DT X (.Compare a [.NotEq] [b] pos) (tTest (tOp (rNeP X.K) ta tb)) (boolT (op2 neD f1 f2)) := dt_cmp (op_neP hu) ops_ne ha hb (nomark _)
theorem dt_in (hu : X.A.units + 64 < cLine) (ha : DE X a ta f1) (hb : DE X b tb f2) (hm : behindInMarks .In b = false := by rfl) : DT X (.Compare a [.In] [b] pos) (tTest (tOp (rInP X.K false) ta tb)) (boolT (op2 (inD false) f1 f2)) := dt_cmp (op_inP hu) ops_in ha hb hm
theorem dt_nin (hu : X.A.units + 64 < cLine) (ha : DE X a ta f1) (hb : DE X b tb f2) (hm : behindInMarks .NotIn b = false := by rfl) : DT X (.Compare a [.NotIn] [b] pos) (tTest (tOp (rInP X.K true) ta tb)) (boolT (op2 (inD true) f1 f2)) := dt_cmp (op_notInP hu) ops_in ha hb hm
theorem dt_is (ha : DE X a ta f1) (hb : DE X b tb f2) : DT X (.Compare a [.Is] [b] pos) (tTest (tOp (fun x y H Q => y = .non ∧ Q (.bl (if false then !decide (x = .non) else decide (x = .non))) H) ta tb)) (boolT (op2 (isD false) f1 f2)) := dt_cmp op_isN ops_is ha hb (nomark _)
theorem dt_isnt (ha : DE X a ta f1) (hb : DE X b tb f2) : DT X (.Compare a [.IsNot] [b] pos) (tTest (tOp (fun x y H Q => y = .non ∧ Q (.bl (if true then !decide (x = .non) else decide (x = .non))) H) ta tb)) (boolT (op2 (isD true) f1 f2)) := dt_cmp op_notN ops_is ha hb (nomark _)
/-- a op b op' c -/
noncomputable def chainE (g g' : D → D → Option M) (f1 f2 f3 : EF) : EF := fun ρ =>
  match f1 ρ with
  | none => none
  | some (r1, ρ1) => match f2 ρ1 with
    | none => none
    | some (r2, ρ2) => match vw r1 ρ2 with
      | none => none
      | some (d1, ρ3) => match vw r2 ρ3 with
        | none => none
        | some (d2, ρ4) => match g d1 d2 with
          | some (.imm (.bl true)) => match f3 ρ4 with
            | none => none
            | some (r3, ρ5) => match vw r2.flat ρ5 with
              | none => none
              | some (d2', ρ6) => match vw r3 ρ6 with
                | none => none
                | some (d3, ρ7) => match g' d2' d3 with
                  | none => none
                  | some m => some (.tmp m, ρ7)
          | some (.imm (.bl false)) => some (.tmp (.imm (.bl false)), ρ4)
          | _ => none
theorem sem_chain {r r' : R2} {g g' : D → D → Option M} (o : OpS r g) (o' : OpS r' g') (ha : SemE ta f1) (hb : SemE tb f2) (hc : SemE tc f3) : SemE (tChain r r' ta tb tc) (chainE g g' f1 f2 f3) := ⟨fun C σ ρ ps H rr ρ' h w Q k => by
  unfold chainE at h
  split at h
  · cases h
  rename_i r1 ρ1 e1
  split at h
  · cases h
  rename_i r2 ρ2 e2
  split at h
  · cases h
  rename_i d1 ρ3 e3
  split at h
  · cases h
  rename_i d2 ρ4 e4
  refine ha.run C σ ρ ps H r1 ρ1 e1 w _ fun x H1 w1 => ?_
  refine hb.run C σ ρ1 _ H1 r2 ρ2 e2 w1 _ fun y H2 w2 => ?_
  obtain ⟨B, w2⟩ := w2
  obtain ⟨B', s1, w3, v1⟩ := (w2.permP (List.Perm.swap _ _ _)).vw e3
  obtain ⟨B2, s2, w4, v2⟩ := (w3.permP (List.Perm.swap _ _ _)).vw e4
  have w5 : WB C B2 σ ρ4 ((y, r2.flat) :: ps) H2 := (w4.permP (List.Perm.swap _ _ _)).drop
  obtain ⟨fp, w6⟩ := w5.wd
  split at h
  · rename_i e5
    split at h
    · cases h
    rename_i r3 ρ5 e6
    split at h
    · cases h
    rename_i d2' ρ6 e7
    split at h
    · cases h
    rename_i d3 ρ7 e8
    split at h
    · cases h
    rename_i m e9
    cases h
    refine o C B2 H2 _ fp x y d1 d2 _ w6 (v1.mono s2) v2 e5 _ fun v H3 B3 fp3 w7 => ?_
    have w8 : WB C B3 σ ρ4 ((v, .tmp (.imm (.bl true))) :: (y, r2.flat) :: ps) H3 := .of_tmp w5.cov w5.ref w7
    have r := w8.imm_rep
    cases r
    refine ⟨true, rfl, ?_⟩
    rw [if_pos rfl]
    refine hc.run C σ ρ4 _ H3 r3 ρ5 e6 ⟨B3, w8.drop⟩ _ fun z H4 w9 => ?_
    obtain ⟨B4, w9⟩ := w9
    obtain ⟨B5, s5, w10, v5⟩ := (w9.permP (List.Perm.swap _ _ _)).vw e7
    obtain ⟨B6, s6, w11, v6⟩ := (w10.permP (List.Perm.swap _ _ _)).vw e8
    have w12 := w11.drop.drop
    obtain ⟨fp6, w13⟩ := w12.wd
    exact o' C B6 H4 _ fp6 y z d2' d3 m w13 (v5.mono s6) v6 e9 Q fun v H' B' fp' w14 => k v H' ⟨B', .of_tmp w12.cov w12.ref w14⟩
  · rename_i e5
    cases h
    refine o C B2 H2 _ fp x y d1 d2 _ w6 (v1.mono s2) v2 e5 _ fun v H3 B3 fp3 w7 => ?_
    have w8 : WB C B3 σ _ ((v, .tmp (.imm (.bl false))) :: (y, r2.flat) :: ps) H3 := .of_tmp w5.cov w5.ref w7
    have r := w8.imm_rep
    cases r
    refine ⟨false, rfl, ?_⟩
    rw [if_neg Bool.false_ne_true]
    exact k _ _ ⟨B3, (w8.permP (List.Perm.swap _ _ _)).drop⟩
  · cases h⟩
theorem de_chain {op op' : CmpOp} {r r' : R2} {g g' : D → D → Option M} (o : OpR X (compareOp op) r) (o' : OpR X (compareOp op') r') (s : OpS r g) (s' : OpS r' g') (ha : DE X a ta f1) (hb : DE X b tb f2) (hc : DE X c tc f3)
    (hm : lastMarks [op, op'] [b, c] = false := by with_unfolding_all rfl) : DE X (.Compare a [op, op'] [b, c] pos) (tChain r r' ta tb tc) (chainE g g' f1 f2 f3) := ⟨pe_chain o o' ha.pe hb.pe hc.pe hm, sem_chain s s' ha.sem hb.sem hc.sem⟩
theorem dt_chain {op op' : CmpOp} {r r' : R2} {g g' : D → D → Option M} (o : OpR X (compareOp op) r) (o' : OpR X (compareOp op') r') (s : OpS r g) (s' : OpS r' g') (ha : DE X a ta f1) (hb : DE X b tb f2) (hc : DE X c tc f3)
    (hm : lastMarks [op, op'] [b, c] = false := by with_unfolding_all rfl) : DT X (.Compare a [op, op'] [b, c] pos) (tTest (tChain r r' ta tb tc)) (boolT (chainE g g' f1 f2 f3)) := ⟨pt_chain o o' ha.pe hb.pe hc.pe hm, sem_boolT (sem_chain s s' ha.sem hb.sem hc.sem)⟩
/-! and, or, not -/
structure DW (X : Cx) (e : Expr) (tt : TT) (f : TF) : Prop where
  pw : PW X e tt
  sem : SemT tt f
theorem DW.dt {tt : TT} {f : TF} (h : DW X e tt f) : DT X e tt f := ⟨h.pw.pt, h.sem⟩
noncomputable def andT (f g : TF) : TF := fun ρ => match f ρ with
  | some (true, ρ1) => g ρ1
  | some (false, ρ1) => some (false, ρ1)
  | none => none
noncomputable def orT (f g : TF) : TF := fun ρ => match f ρ with
  | some (true, ρ1) => some (true, ρ1)
  | some (false, ρ1) => g ρ1
  | none => none
noncomputable def notT (f : TF) : TF := fun ρ => match f ρ with
  | some (b, ρ1) => some (!b, ρ1)
  | none => none
variable {t u : TT} {p q : TF} {rest : List Expr}
theorem sem_and (ha : SemT t p) (hb : SemT u q) : SemT (tAnd t u) (andT p q) := ⟨fun C σ ρ ps H b ρ' e w Q k => by
  unfold andT at e
  split at e
  · rename_i ρ1 e1
    refine ha.run C σ ρ ps H _ _ e1 w _ fun H1 w1 => ?_
    rw [if_pos rfl]
    exact hb.run C σ ρ1 ps H1 b ρ' e w1 Q k
  · rename_i ρ1 e1
    cases e
    refine ha.run C σ ρ ps H _ _ e1 w _ fun H1 w1 => ?_
    rw [if_neg Bool.false_ne_true]
    exact k H1 w1
  · cases e⟩
theorem sem_or (ha : SemT t p) (hb : SemT u q) : SemT (tOr t u) (orT p q) := ⟨fun C σ ρ ps H b ρ' e w Q k => by
  unfold orT at e
  split at e
  · rename_i ρ1 e1
    cases e
    refine ha.run C σ ρ ps H _ _ e1 w _ fun H1 w1 => ?_
    rw [if_pos rfl]
    exact k H1 w1
  · rename_i ρ1 e1
    refine ha.run C σ ρ ps H _ _ e1 w _ fun H1 w1 => ?_
    rw [if_neg Bool.false_ne_true]
    exact hb.run C σ ρ1 ps H1 b ρ' e w1 Q k
  · cases e⟩
theorem dw_and1 (ha : DT X a t p) : DW X (.BoolOp .And [a] pos) t p := ⟨pw_and1 ha.pt, ha.sem⟩
theorem dw_or1 (ha : DT X a t p) : DW X (.BoolOp .Or [a] pos) t p := ⟨pw_or1 ha.pt, ha.sem⟩
theorem dw_and (ha : DT X a t p) (hb : DW X (.BoolOp .And (b :: rest) pos) u q) : DW X (.BoolOp .And (a :: b :: rest) pos) (tAnd t u) (andT p q) := ⟨pw_and ha.pt hb.pw, sem_and ha.sem hb.sem⟩
theorem dw_or (ha : DT X a t p) (hb : DW X (.BoolOp .Or (b :: rest) pos) u q) : DW X (.BoolOp .Or (a :: b :: rest) pos) (tOr t u) (orT p q) := ⟨pw_or ha.pt hb.pw, sem_or ha.sem hb.sem⟩
theorem dt_not (ha : DT X a t p) : DT X (.UnaryOp .Not a pos) (tNot t) (notT p) := ⟨pt_not ha.pt, ⟨fun C σ ρ ps H b ρ' e w Q k => by
  unfold notT at e
  split at e
  · rename_i b1 ρ1 e1
    cases e
    exact ha.sem.run C σ ρ ps H _ _ e1 w _ fun H1 w1 => k H1 w1
  · cases e⟩⟩
/-! as values -/
noncomputable def andV (f g : EF) : EF := fun ρ => match f ρ with
  | some (.tmp (.imm (.bl true)), ρ1) => g ρ1
  | some (.tmp (.imm (.bl false)), ρ1) => some (.tmp (.imm (.bl false)), ρ1)
  | _ => none
noncomputable def orV (f g : EF) : EF := fun ρ => match f ρ with
  | some (.tmp (.imm (.bl true)), ρ1) => some (.tmp (.imm (.bl true)), ρ1)
  | some (.tmp (.imm (.bl false)), ρ1) => g ρ1
  | _ => none
noncomputable def notV (f : EF) : EF := fun ρ => match f ρ with
  | some (.tmp (.imm (.bl b)), ρ1) => some (.tmp (.imm (.bl (!b))), ρ1)
  | _ => none
theorem de_one {op : BoolOp} (h : DE X a ta f1) : DE X (.BoolOp op [a] pos) ta f1 := ⟨pe_one h.pe, h.sem⟩
theorem de_and (ha : DE X a ta f1) (hb : DE X (.BoolOp .And (b :: rest) pos) tb f2) : DE X (.BoolOp .And (a :: b :: rest) pos) (tAndV ta tb) (andV f1 f2) := ⟨pe_and ha.pe hb.pe, ⟨fun C σ ρ ps H r ρ' e w Q k => by
  unfold andV at e
  split at e
  · rename_i ρ1 e1
    refine ha.sem.run C σ ρ ps H _ _ e1 w _ fun v H1 w1 => ?_
    obtain ⟨B, w1⟩ := w1
    have z := w1.imm_rep
    cases z
    refine ⟨true, rfl, ?_⟩
    rw [if_pos rfl]
    exact hb.sem.run C σ ρ1 ps H1 r ρ' e ⟨B, w1.drop⟩ Q k
  · rename_i ρ1 e1
    cases e
    refine ha.sem.run C σ ρ ps H _ _ e1 w _ fun v H1 w1 => ?_
    obtain ⟨B, w1⟩ := w1
    have z := w1.imm_rep
    cases z
    refine ⟨false, rfl, ?_⟩
    rw [if_neg Bool.false_ne_true]
    exact k _ _ ⟨B, w1⟩
  · cases e⟩⟩
theorem de_or (ha : DE X a ta f1) (hb : DE X (.BoolOp .Or (b :: rest) pos) tb f2) : DE X (.BoolOp .Or (a :: b :: rest) pos) (tOrV ta tb) (orV f1 f2) := ⟨pe_or ha.pe hb.pe, ⟨fun C σ ρ ps H r ρ' e w Q k => by
  unfold orV at e
  split at e
  · rename_i ρ1 e1
    cases e
    refine ha.sem.run C σ ρ ps H _ _ e1 w _ fun v H1 w1 => ?_
    obtain ⟨B, w1⟩ := w1
    have z := w1.imm_rep
    cases z
    refine ⟨true, rfl, ?_⟩
    rw [if_pos rfl]
    exact k _ _ ⟨B, w1⟩
  · rename_i ρ1 e1
    refine ha.sem.run C σ ρ ps H _ _ e1 w _ fun v H1 w1 => ?_
    obtain ⟨B, w1⟩ := w1
    have z := w1.imm_rep
    cases z
    refine ⟨false, rfl, ?_⟩
    rw [if_neg Bool.false_ne_true]
    exact hb.sem.run C σ ρ1 ps H1 r ρ' e ⟨B, w1.drop⟩ Q k
  · cases e⟩⟩
theorem de_not (ha : DE X a ta f1) : DE X (.UnaryOp .Not a pos) (tNotV ta) (notV f1) := ⟨pe_not ha.pe, ⟨fun C σ ρ ps H r ρ' e w Q k => by
  unfold notV at e
  split at e
  · rename_i b ρ1 e1
    cases e
    refine ha.sem.run C σ ρ ps H _ _ e1 w _ fun v H1 w1 => ?_
    obtain ⟨B, w1⟩ := w1
    have z := w1.imm_rep
    cases z
    exact ⟨b, rfl, k _ _ ⟨B, w1.drop.imm (.bl _)⟩⟩
  · cases e⟩⟩
noncomputable def ifV (p : TF) (f g : EF) : EF := fun ρ => match p ρ with
  | some (true, ρ1) => f ρ1
  | some (false, ρ1) => g ρ1
  | none => none
theorem de_if {c : Expr} (hc : DT X c t p) (ha : DE X a ta f1) (hb : DE X b tb f2) : DE X (.IfExp c a b pos) (tIf t ta tb) (ifV p f1 f2) := ⟨pe_ifExp hc.pt ha.pe hb.pe, ⟨fun C σ ρ ps H r ρ' e w Q k => by
  unfold ifV at e
  split at e
  · rename_i ρ1 e1
    refine hc.sem.run C σ ρ ps H _ _ e1 w _ fun H1 w1 => ?_
    rw [if_pos rfl]
    exact ha.sem.run C σ ρ1 ps H1 r ρ' e w1 Q k
  · rename_i ρ1 e1
    refine hc.sem.run C σ ρ ps H _ _ e1 w _ fun H1 w1 => ?_
    rw [if_neg Bool.false_ne_true]
    exact hb.sem.run C σ ρ1 ps H1 r ρ' e w1 Q k
  · cases e⟩⟩
/-! one value -/
noncomputable def UnS (r : V → Hp → VK → Prop) (g : D → Option M) : Prop := ∀ (C : Cz) (B H : Hp) (its : List Item) (fp : List Addr) (x : V) (d : D) (m : M), Wld C B H its fp → View B H x d → g d = some m →
  ∀ Q : VK, (∀ v H' B' fp', Wld C B' H' ((v, m) :: its) fp' → Q v H') → r x H Q
noncomputable def op1 (g : D → Option M) (f : EF) : EF := fun ρ => match f ρ with
  | none => none
  | some (r1, ρ1) => match vw r1 ρ1 with
    | none => none
    | some (d1, ρ2) => match g d1 with
      | none => none
      | some m => some (.tmp m, ρ2)
theorem sem_un {r : V → Hp → VK → Prop} {g : D → Option M} (o : UnS r g) (ha : SemE ta f1) : SemE (tUn r ta) (op1 g f1) := ⟨fun C σ ρ ps H r' ρ' h w Q k => by
  unfold op1 at h
  split at h
  · cases h
  rename_i r1 ρ1 e1
  split at h
  · cases h
  rename_i d1 ρ2 e2
  split at h
  · cases h
  rename_i m e3
  cases h
  refine ha.run C σ ρ ps H r1 ρ1 e1 w _ fun x H1 w1 => ?_
  obtain ⟨B, w1⟩ := w1
  obtain ⟨B', s1, w2, v1⟩ := w1.vw e2
  have w3 := w2.drop
  obtain ⟨fp, w4⟩ := w3.wd
  exact o C B' H1 _ fp x d1 m w4 v1 e3 Q fun v H' B' fp' w5 => k v H' ⟨B', .of_tmp w3.cov w3.ref w5⟩⟩
noncomputable def negD : D → Option M
  | .int i => some (.imm (.int (-i)))
  | _ => none
theorem ops_neg : UnS (rU fun i => .int (-i)) negD := by
  intro C B H its fp x d m w v1 h Q k
  unfold negD at h
  split at h
  · cases h
    exact ⟨_, v1.int, w.scal (.int _) k⟩
  · cases h
theorem de_neg (ha : DE X a ta f1) : DE X (.UnaryOp .USub a pos) (tUn (rU fun i => .int (-i)) ta) (op1 negD f1) := ⟨pe_un un_neg ha.pe, sem_un ops_neg ha.sem⟩
end
end FD
set_option Elab.async false
set_option linter.all false
set_option maxRecDepth 100000
/-! FD5: argument lists, displays, subscripts, slices, calls of built-ins. -/
namespace FD
open PySem PySem.Spec PyProof.Rows L2
abbrev AF := Env → Option (List R × Env)
abbrev zps (vs : List V) (rs : List R) : Pend := vs.zip rs
structure SemL (ta : TA) (f : AF) : Prop where
  run : ∀ (C : Cz) (σ : L2.St) (ρ : Env) (ps : Pend) (H : Hp) (rs : List R) (ρ' : Env), f ρ = some (rs, ρ') → W C σ ρ ps H → ∀ Q : List V → Hp → Prop, (∀ vs H', vs.length = rs.length → W C σ ρ' (zps vs rs ++ ps) H' → Q vs H') → ta σ H Q
structure DL (X : Cx) (es : List Expr) (ta : TA) (f : AF) : Prop where
  pa : PA X es ta
  sem : SemL ta f
noncomputable def nilA : AF := fun ρ => some ([], ρ)
noncomputable def consA (f : EF) (g : AF) : AF := fun ρ => match f ρ with
  | none => none
  | some (r, ρ1) => match g ρ1 with
    | none => none
    | some (rs, ρ2) => some (r :: rs, ρ2)
/-- handed over at once -/
noncomputable def frzA (f : EF) : EF := fun ρ => match f ρ with
  | none => none
  | some (r, ρ1) => match fz r ρ1 with
    | none => none
    | some (d, ρ2) => some (.tmp (.imm d), ρ2)
/-- moved out at once -/
noncomputable def movA (f : EF) : EF := fun ρ => match f ρ with
  | none => none
  | some (r, ρ1) => match mv r ρ1 with
    | none => none
    | some (m, ρ2) => some (.tmp m, ρ2)
section
variable {X : Cx} {a b c e : Expr} {es : List Expr} {ta tb tc te : TE} {tl : TA} {f1 f2 f3 f : EF} {g : AF} {pos : Pos}
theorem sem_nil : SemL tNil nilA := ⟨fun C σ ρ ps H rs ρ' h w Q k => by
  cases h
  exact k [] H rfl w⟩
theorem sem_cons (ha : SemE te f) (hr : SemL tl g) : SemL (tCons te tl) (consA f g) := ⟨fun C σ ρ ps H rs ρ' h w Q k => by
  unfold consA at h
  split at h
  · cases h
  rename_i r1 ρ1 e1
  split at h
  · cases h
  rename_i rs1 ρ2 e2
  cases h
  refine ha.run C σ ρ ps H r1 ρ1 e1 w _ fun x H1 w1 => ?_
  refine hr.run C σ ρ1 _ H1 rs1 ρ' e2 w1 _ fun vs H2 l w2 => ?_
  exact k (x :: vs) H2 (by rw [List.length_cons, List.length_cons, l]) (w2.permP List.perm_middle)⟩
theorem dl_nil : DL X [] tNil nilA := ⟨pa_nil, sem_nil⟩
theorem dl_cons (ha : DE X e te f) (hr : DL X es tl g) (hs : starEach (e :: es) X.env = (false, eval e X.env) :: starEach es X.env := by rfl) : DL X (e :: es) (tCons te tl) (consA f g) := ⟨pa_cons ha.pe hr.pa hs, sem_cons ha.sem hr.sem⟩
theorem de_frz (h : DE X e te f) : DE X e te (frzA f) := ⟨h.pe, ⟨fun C σ ρ ps H r ρ' q w Q k => by
  unfold frzA at q
  split at q
  · cases q
  rename_i r1 ρ1 e1
  split at q
  · cases q
  rename_i d ρ2 e2
  cases q
  exact h.sem.run C σ ρ ps H r1 ρ1 e1 w _ fun x H1 w1 => k x H1 (w1.fz e2)⟩⟩
theorem de_mov (h : DE X e te f) : DE X e te (movA f) := ⟨h.pe, ⟨fun C σ ρ ps H r ρ' q w Q k => by
  unfold movA at q
  split at q
  · cases q
  rename_i r1 ρ1 e1
  split at q
  · cases q
  rename_i d ρ2 e2
  cases q
  exact h.sem.run C σ ρ ps H r1 ρ1 e1 w _ fun x H1 w1 => k x H1 (w1.mv e2)⟩⟩
end
/-! ### all of them frozen, moved, looked at -/
noncomputable def fzs : List R → Env → Option (List D × Env)
  | [], ρ => some ([], ρ)
  | r :: rs, ρ => match fz r ρ with
    | none => none
    | some (d, ρ1) => match fzs rs ρ1 with
      | none => none
      | some (ds, ρ2) => some (d :: ds, ρ2)
noncomputable def mvs : List R → Env → Option (List M × Env)
  | [], ρ => some ([], ρ)
  | r :: rs, ρ => match mv r ρ with
    | none => none
    | some (d, ρ1) => match mvs rs ρ1 with
      | none => none
      | some (ds, ρ2) => some (d :: ds, ρ2)
noncomputable def vws : List R → Env → Option (List D × Env)
  | [], ρ => some ([], ρ)
  | r :: rs, ρ => match vw r ρ with
    | none => none
    | some (d, ρ1) => match vws rs ρ1 with
      | none => none
      | some (ds, ρ2) => some (d :: ds, ρ2)
inductive Views (B H : Hp) : List V → List D → Prop
  | nil : Views B H [] []
  | cons {v : V} {d : D} {vs : List V} {ds : List D} : View B H v d → Views B H vs ds → Views B H (v :: vs) (d :: ds)
section
variable {C : Cz} {B H : Hp} {σ : L2.St} {ps : Pend}
theorem WB.fzs : ∀ {rs : List R} {vs : List V} {ρ ρ' : Env} {ds : List D} {B : Hp}, WB C B σ ρ (zps vs rs ++ ps) H → vs.length = rs.length → FD.fzs rs ρ = some (ds, ρ') → ∃ B', Same B B' ∧ WB C B' σ ρ' ps H ∧ Reps B' vs ds
  | [], [], ρ, ρ', ds, B, w, _, h => by
    cases h
    exact ⟨B, .refl _, w, .nil⟩
  | [], _ :: _, _, _, _, _, _, l, _ => by cases l
  | _ :: _, [], _, _, _, _, _, l, _ => by cases l
  | r :: rs, v :: vs, ρ, ρ', ds, B, w, l, h => by
    unfold FD.fzs at h
    split at h
    · cases h
    rename_i d ρ1 e1
    split at h
    · cases h
    rename_i ds1 ρ2 e2
    cases h
    obtain ⟨B1, s1, w1⟩ := WB.fz (ps := zps vs rs ++ ps) w e1
    obtain ⟨B2, s2, w2, rr⟩ := WB.fzs (rs := rs) (vs := vs) w1.drop (by simpa using l) e2
    exact ⟨B2, s1.trans s2, w2, .cons (w1.imm_rep.mono s2) rr⟩
theorem WB.vws : ∀ {rs : List R} {vs : List V} {ρ ρ' : Env} {ds : List D} {B : Hp}, WB C B σ ρ (zps vs rs ++ ps) H → vs.length = rs.length → FD.vws rs ρ = some (ds, ρ') → ∃ B', Same B B' ∧ WB C B' σ ρ' ps H ∧ Views B' H vs ds
  | [], [], ρ, ρ', ds, B, w, _, h => by
    cases h
    exact ⟨B, .refl _, w, .nil⟩
  | [], _ :: _, _, _, _, _, _, l, _ => by cases l
  | _ :: _, [], _, _, _, _, _, l, _ => by cases l
  | r :: rs, v :: vs, ρ, ρ', ds, B, w, l, h => by
    unfold FD.vws at h
    split at h
    · cases h
    rename_i d ρ1 e1
    split at h
    · cases h
    rename_i ds1 ρ2 e2
    cases h
    obtain ⟨B1, s1, w1, vv⟩ := WB.vw (ps := zps vs rs ++ ps) w e1
    obtain ⟨B2, s2, w2, rr⟩ := WB.vws (rs := rs) (vs := vs) w1.drop (by simpa using l) e2
    exact ⟨B2, s1.trans s2, w2, .cons (vv.mono s2) rr⟩
theorem W.mvs : ∀ {rs : List R} {vs : List V} {ρ ρ' : Env} {ms : List M} {qs : Pend}, W C σ ρ (zps vs rs ++ qs) H → vs.length = rs.length → FD.mvs rs ρ = some (ms, ρ') → W C σ ρ' (zps vs (ms.map .tmp) ++ qs) H ∧ vs.length = ms.length
  | [], [], ρ, ρ', ds, qs, w, _, h => by
    cases h
    exact ⟨w, rfl⟩
  | [], _ :: _, _, _, _, _, _, l, _ => by cases l
  | _ :: _, [], _, _, _, _, _, l, _ => by cases l
  | r :: rs, v :: vs, ρ, ρ', ms, qs, w, l, h => by
    unfold FD.mvs at h
    split at h
    · cases h
    rename_i d ρ1 e1
    split at h
    · cases h
    rename_i ds1 ρ2 e2
    cases h
    have w1 := W.mv (ps := zps vs rs ++ qs) w e1
    have w2 := w1.permP (List.perm_middle (l₁ := zps vs rs) (l₂ := qs) (a := (v, R.tmp d))).symm
    obtain ⟨w3, l3⟩ := W.mvs (rs := rs) (vs := vs) (qs := (v, R.tmp d) :: qs) w2 (by simpa using l) e2
    exact ⟨w3.permP List.perm_middle, by rw [List.length_cons, List.length_cons, l3]⟩
end
/-! ### displays -/
noncomputable def lstE (g : AF) : EF := fun ρ => match g ρ with
  | none => none
  | some (rs, ρ1) => match fzs rs ρ1 with
    | none => none
    | some (ds, ρ2) => if smallL rs.length then some (.tmp (.lst ds), ρ2) else none
noncomputable def tupE (g : AF) : EF := fun ρ => match g ρ with
  | none => none
  | some (rs, ρ1) => match fzs rs ρ1 with
    | none => none
    | some (ds, ρ2) => if smallL rs.length then some (.tmp (.imm (.tup ds)), ρ2) else none
/-- .. of what is owned -/
noncomputable def deepE (g : AF) : EF := fun ρ => match g ρ with
  | none => none
  | some (rs, ρ1) => match mvs rs ρ1 with
    | none => none
    | some (ms, ρ2) => if smallL rs.length then some (.tmp (.deep ms), ρ2) else none
noncomputable def dtupE (g : AF) : EF := fun ρ => match g ρ with
  | none => none
  | some (rs, ρ1) => match mvs rs ρ1 with
    | none => none
    | some (ms, ρ2) => if smallL rs.length then some (.tmp (.dtup ms), ρ2) else none
theorem zps_tmps {ps : Pend} : ∀ {vs : List V} {ms : List M}, vs.length = ms.length → tmps (zps vs (ms.map .tmp) ++ ps) = vs.zip ms ++ tmps ps
  | [], [], _ => rfl
  | v :: vs, m :: ms, l => by
    have ih := zps_tmps (ps := ps) (vs := vs) (ms := ms) (by simpa using l)
    show (v, m) :: tmps (zps vs (ms.map .tmp) ++ ps) = (v, m) :: (vs.zip ms ++ tmps ps)
    rw [ih]
  | [], _ :: _, l => by cases l
  | _ :: _, [], l => by cases l
theorem zip_fst {α β : Type} : ∀ {vs : List α} {ms : List β}, vs.length = ms.length → (vs.zip ms).map (·.1) = vs
  | [], [], _ => rfl
  | v :: vs, m :: ms, l => by
    show v :: (vs.zip ms).map (·.1) = _
    rw [zip_fst (by simpa using l)]
  | [], _ :: _, l => by cases l
  | _ :: _, [], l => by cases l
theorem zip_snd {α β : Type} : ∀ {vs : List α} {ms : List β}, vs.length = ms.length → (vs.zip ms).map (·.2) = ms
  | [], [], _ => rfl
  | v :: vs, m :: ms, l => by
    show m :: (vs.zip ms).map (·.2) = _
    rw [zip_snd (by simpa using l)]
  | [], _ :: _, l => by cases l
  | _ :: _, [], l => by cases l
/-- what was moved stands together -/
theorem WB.moved {C : Cz} {B H : Hp} {σ : L2.St} {ρ : Env} {ps : Pend} {vs : List V} {ms : List M} (w : WB C B σ ρ (zps vs (ms.map .tmp) ++ ps) H) (l : vs.length = ms.length) :
    WB C B σ ρ ps H ∧ ∃ fp, Wld C B H (vs.zip ms ++ (Sl σ ρ ++ tmps ps)) fp := by
  refine ⟨w.dropL, ?_⟩
  obtain ⟨fp, q⟩ := w.wd
  rw [zps_tmps l] at q
  refine q.perm ?_
  rw [← List.append_assoc, ← List.append_assoc]
  exact List.perm_append_comm.append_right _
section
variable {X : Cx} {a b c e : Expr} {es : List Expr} {ta tb tc te : TE} {tl : TA} {f1 f2 f3 f : EF} {g : AF} {pos : Pos}
theorem de_lst (h : DL X es tl g) : DE X (.List es pos) (tLst tl) (lstE g) := ⟨pe_lst h.pa, ⟨fun C σ ρ ps H r ρ' q w Q k => by
  unfold lstE at q
  split at q
  · cases q
  rename_i rs ρ1 e1
  split at q
  · cases q
  rename_i ds ρ2 e2
  split at q
  · rename_i e3
    cases q
    refine h.sem.run C σ ρ ps H rs ρ1 e1 w _ fun vs H1 l w1 => ?_
    obtain ⟨B, w1⟩ := w1
    obtain ⟨B', s1, w2, rr⟩ := w1.fzs l e2
    refine ⟨by rw [l]; exact small_line e3, fun p hp => ?_⟩
    obtain ⟨fp, w3⟩ := w2.wd
    exact k _ _ (w2.front (w3.new_lst hp rr))
  · cases q⟩⟩
theorem de_tup {x1} (h : DL X es tl g) : DE X (.Tuple es x1 pos) (tTup tl) (tupE g) := ⟨pe_tup h.pa, ⟨fun C σ ρ ps H r ρ' q w Q k => by
  unfold tupE at q
  split at q
  · cases q
  rename_i rs ρ1 e1
  split at q
  · cases q
  rename_i ds ρ2 e2
  split at q
  · rename_i e3
    cases q
    refine h.sem.run C σ ρ ps H rs ρ1 e1 w _ fun vs H1 l w1 => ?_
    obtain ⟨B, w1⟩ := w1
    obtain ⟨B', s1, w2, rr⟩ := w1.fzs l e2
    refine ⟨by rw [l]; exact small_line e3, fun p hp => ?_⟩
    obtain ⟨fp, w3⟩ := w2.wd
    obtain ⟨B2, s2, w4⟩ := w3.new_tup hp rr
    exact k _ _ (w2.front w4)
  · cases q⟩⟩
theorem de_deep (h : DL X es tl g) : DE X (.List es pos) (tLst tl) (deepE g) := ⟨pe_lst h.pa, ⟨fun C σ ρ ps H r ρ' q w Q k => by
  unfold deepE at q
  split at q
  · cases q
  rename_i rs ρ1 e1
  split at q
  · cases q
  rename_i ms ρ2 e2
  split at q
  · rename_i e3
    cases q
    refine h.sem.run C σ ρ ps H rs ρ1 e1 w _ fun vs H1 l w1 => ?_
    obtain ⟨w2, l2⟩ := w1.mvs l e2
    obtain ⟨B, w2⟩ := w2
    obtain ⟨w3, fp, w4⟩ := w2.moved l2
    refine ⟨by rw [l]; exact small_line e3, fun p hp => ?_⟩
    have w5 := w4.new_deep hp
    rw [zip_fst l2, zip_snd l2] at w5
    exact k _ _ (w3.front w5)
  · cases q⟩⟩
theorem de_dtup {x1} (h : DL X es tl g) : DE X (.Tuple es x1 pos) (tTup tl) (dtupE g) := ⟨pe_tup h.pa, ⟨fun C σ ρ ps H r ρ' q w Q k => by
  unfold dtupE at q
  split at q
  · cases q
  rename_i rs ρ1 e1
  split at q
  · cases q
  rename_i ms ρ2 e2
  split at q
  · rename_i e3
    cases q
    refine h.sem.run C σ ρ ps H rs ρ1 e1 w _ fun vs H1 l w1 => ?_
    obtain ⟨w2, l2⟩ := w1.mvs l e2
    obtain ⟨B, w2⟩ := w2
    obtain ⟨w3, fp, w4⟩ := w2.moved l2
    refine ⟨by rw [l]; exact small_line e3, fun p hp => ?_⟩
    have w5 := w4.new_dtup hp
    rw [zip_fst l2, zip_snd l2] at w5
    exact k _ _ (w3.front w5)
  · cases q⟩⟩
end
/-! ### subscripts -/
noncomputable def key1 : D → Option Key
  | .int i => some (.inl i)
  | .str s => some (.inr s)
  | _ => none
noncomputable def keysD : List D → Option (List Key)
  | [] => some []
  | d :: ds => match key1 d with
    | none => none
    | some k => match keysD ds with
      | none => none
      | some ks => some (k :: ks)
noncomputable def keyD : D → Option (Sum Key (List Key))
  | .int i => some (.inl (.inl i))
  | .str s => some (.inl (.inr s))
  | .tup ds => match keysD ds with
    | some ks => some (.inr ks)
    | none => none
  | _ => none
/-- what a dict holds at a key -/
noncomputable def lookD {κ : Type} [DecidableEq κ] (k : κ) : List κ → List D → Option D
  | j :: ks, d :: ds => if j = k then some d else lookD k ks ds
  | _, _ => none
noncomputable def ixD : D → D → Option M
  | .lst xs, .int i => (atI xs i).map .imm
  | .tup xs, .int i => (atI xs i).map .imm
  | .str s, .int i => if smallL s.length then (atI s.cps.toList i).map fun c => .imm (.str ⟨#[c]⟩) else none
  | _, _ => none
/-- what the dict d holds at k, if anything -/
noncomputable def dgetD : D → D → Option (Option D)
  | .dK ks ds, k => match keyD k with
    | some (.inl k) => some (lookD k ks ds)
    | _ => none
  | .dT ks ds, k => match keyD k with
    | some (.inr k) => some (lookD k ks ds)
    | _ => none
  | _, _ => none
noncomputable def dixD (d k : D) : Option M := match dgetD d k with
  | some (some v) => some (.imm v)
  | _ => none
noncomputable def dinD (neg : Bool) (k d : D) : Option M := match dgetD d k with
  | some o => some (.imm (.bl (if neg then !o.isSome else o.isSome)))
  | _ => none
theorem look_val {κ : Type} [DecidableEq κ] {B : Hp} {k : κ} : ∀ {ks : List κ} {vs : List V} {ds : List D}, ks.length = vs.length → Reps B vs ds → (lookD k ks ds = none ∧ valV (ks.zip vs) k = none) ∨ ∃ d v, lookD k ks ds = some d ∧ valV (ks.zip vs) k = some v ∧ Rep B v d
  | [], [], _, _, .nil => .inl ⟨rfl, rfl⟩
  | j :: ks, v :: vs, d :: ds, l, .cons h r => by
    by_cases e : j = k
    · exact .inr ⟨d, v, by simp [lookD, e], valV_pos e, h⟩
    · have ih := look_val (k := k) (ks := ks) (by simpa using l) r
      rw [List.zip_cons_cons, valV_neg (p := (j, v)) e]
      simp only [lookD, if_neg e]
      exact ih
  | [], _ :: _, _, l, _ => by cases l
  | _ :: _, [], _, l, _ => by cases l
theorem atI_rep {B : Hp} {vs : List V} {ds : List D} {i : Int} {d : D} (r : Reps B vs ds) (h : atI ds i = some d) : ∃ v, atI vs i = some v ∧ Rep B v d := by
  unfold atI at h ⊢
  rw [r.length]
  cases e : ixN ds.length i with
  | none => rw [e] at h; cases h
  | some j =>
    rw [e] at h
    obtain ⟨v, h1, h2⟩ := r.get h
    exact ⟨v, h1, h2⟩
theorem key1_rep {B : Hp} {v : V} {d : D} {k : Key} (r : Rep B v d) (h : key1 d = some k) : v = kV k := by
  unfold key1 at h
  split at h
  · cases h; cases r; rfl
  · cases h; cases r; rfl
  · cases h
theorem mapM_keys {B : Hp} : ∀ {vs : List V} {ds : List D} {ks : List Key}, Reps B vs ds → keysD ds = some ks → vs = ks.map kV
  | _, _, ks, .nil, h => by
    cases h
    rfl
  | v :: vs, d :: ds, ks, .cons h0 r, h => by
    unfold keysD at h
    split at h
    · cases h
    rename_i k e1
    split at h
    · cases h
    rename_i ks' e2
    cases h
    rw [mapM_keys r e2, key1_rep h0 e1]
    rfl
/-- a key as the dict sees it -/
theorem key_k {B H : Hp} {y : V} {k : D} {z : Key} (v : View B H y k) (h : keyD k = some (.inl z)) : y = kV z := by
  unfold keyD at h
  split at h
  · cases h; exact v.int
  · cases h; exact v.str
  · split at h <;> cases h
  · cases h
theorem key_t {B H : Hp} (e : Same B H) {y : V} {k : D} {z : List Key} (v : View B H y k) (h : keyD k = some (.inr z)) : ∃ b, y = .ref b ∧ H b = some (.tup (z.map kV)) := by
  unfold keyD at h
  split at h
  · cases h
  · cases h
  · rename_i ds
    obtain ⟨p, vs, rfl, hp, r⟩ := v.tup_
    split at h
    · rename_i ks h1
      cases h
      exact ⟨p, rfl, by rw [← mapM_keys r h1]; exact e _ _ hp⟩
    · cases h
  · cases h
theorem ops_ix {K : PySem.W.Frag} : OpS (rIx K) ixD := by
  intro C B H its fp x y d e m w v1 v2 h Q k
  unfold ixD at h
  split at h
  · rename_i xs i
    rw [Option.map_eq_some_iff] at h
    obtain ⟨d', h1, rfl⟩ := h
    obtain ⟨p, vs, rfl, hp, r⟩ := v1.lst_ w.bh
    obtain ⟨v, h2, h3⟩ := atI_rep r h1
    exact .inl ⟨p, vs, i, v, rfl, v2.int, SqL.of hp, h2, w.scal h3 k⟩
  · rename_i xs i
    rw [Option.map_eq_some_iff] at h
    obtain ⟨d', h1, rfl⟩ := h
    obtain ⟨p, vs, rfl, hp, r⟩ := v1.tup_
    obtain ⟨v, h2, h3⟩ := atI_rep r h1
    exact .inr (.inl ⟨p, vs, i, v, rfl, v2.int, SqT.of (w.bh _ _ hp), h2, w.scal h3 k⟩)
  · rename_i s i
    split at h
    · rename_i q
      rw [Option.map_eq_some_iff] at h
      obtain ⟨c, h1, rfl⟩ := h
      exact .inr (.inr ⟨s, i, c, v1.str, v2.int, small_line q, h1, w.scal (.str _) k⟩)
    · cases h
  · cases h
theorem dget_val {B H : Hp} (sm : Same B H) {x y : V} {d e : D} {o : Option D} (v1 : View B H x d) (v2 : View B H y e) (h : dgetD d e = some o) : ∃ a o', x = .ref a ∧ DGet H a y o' ∧ ((o = none ∧ o' = none) ∨ ∃ d v, o = some d ∧ o' = some v ∧ Rep B v d) := by
  unfold dgetD at h
  split at h
  · split at h
    · rename_i z hz
      cases h
      obtain ⟨p, vs, rfl, hp, l, r⟩ := v1.dK_ sm
      have := key_k v2 hz
      subst this
      refine ⟨p, _, rfl, .k (k := z) hp, ?_⟩
      rcases look_val (k := z) l r with ⟨q1, q2⟩ | ⟨d2, v, q1, q2, q3⟩
      · exact .inl ⟨q1, q2⟩
      · exact .inr ⟨d2, v, q1, q2, q3⟩
    · cases h
  · split at h
    · rename_i z hz
      cases h
      obtain ⟨p, vs, rfl, hp, l, r⟩ := v1.dT_ sm
      obtain ⟨b, rfl, hb⟩ := key_t sm v2 hz
      refine ⟨p, _, rfl, .t (k := z) hp hb, ?_⟩
      rcases look_val (k := z) l r with ⟨q1, q2⟩ | ⟨d2, v, q1, q2, q3⟩
      · exact .inl ⟨q1, q2⟩
      · exact .inr ⟨d2, v, q1, q2, q3⟩
    · cases h
  · cases h
noncomputable def rDG : R2 := fun x y H Q => ∃ a v, x = .ref a ∧ DGet H a y (some v) ∧ Q v H
noncomputable def rDI (neg : Bool) : R2 := fun y x H Q => ∃ a o, x = .ref a ∧ DGet H a y o ∧ Q (.bl (if neg then !o.isSome else o.isSome)) H
theorem ops_dix : OpS rDG dixD := by
  intro C B H its fp x y d e m w v1 v2 h Q k
  unfold dixD at h
  split at h
  · rename_i v q
    cases h
    obtain ⟨a, o', rfl, g, z⟩ := dget_val w.bh v1 v2 q
    rcases z with ⟨z, _⟩ | ⟨d2, v', z1, rfl, z3⟩
    · cases z
    · cases z1
      exact ⟨a, v', rfl, g, w.scal z3 k⟩
  · cases h
theorem ops_din {neg : Bool} : OpS (rDI neg) (dinD neg) := by
  intro C B H its fp x y d e m w v1 v2 h Q k
  unfold dinD at h
  split at h
  · rename_i o q
    cases h
    obtain ⟨a, o', rfl, g, z⟩ := dget_val w.bh v2 v1 q
    refine ⟨a, o', rfl, g, ?_⟩
    have e : o'.isSome = o.isSome := by
      rcases z with ⟨rfl, rfl⟩ | ⟨_, _, rfl, rfl, _⟩ <;> rfl
    rw [e]
    exact w.scal (.bl _) k
  · cases h
section
variable {X : Cx} {a b c e : Expr} {es : List Expr} {ta tb tc te : TE} {tl : TA} {f1 f2 f3 f : EF} {g : AF} {pos p2 : Pos}
/-- xs[i], t[i], s[i] -/
theorem de_ix (ha : DE X a ta f1) (hb : DE X b tb f2) (hs : PlainIx b := by exact fun _ _ => rfl) : DE X (.Subscript a b pos) (tOp (rIx X.K) ta tb) (op2 ixD f1 f2) := ⟨pe_ix ix_seq ha.pe hb.pe hs, sem_op ops_ix ha.sem hb.sem⟩
/-- d[k] -/
theorem de_dix (hu : X.A.units + 64 < cLine) (ha : DE X a ta f1) (hb : DE X b tb f2) (hs : NoSl b := by exact fun _ _ => rfl) : DE X (.Subscript a b pos) (tOp rDG ta tb) (op2 dixD f1 f2) := ⟨pe_dget (by omega) ha.pe hb.pe hs, sem_op ops_dix ha.sem hb.sem⟩
/-- k in d -/
theorem de_din (hu : X.A.units + 64 < cLine) (ha : DE X a ta f1) (hb : DE X b tb f2) (h1 : behindInMarks .In b = false := by rfl) : DE X (.Compare a [.In] [b] pos) (tOp (rDI false) ta tb) (op2 (dinD false) f1 f2) := ⟨pe_cmp (pc_din (by omega) ha.pe hb.pe) h1, sem_op ops_din ha.sem hb.sem⟩
theorem de_dnin (hu : X.A.units + 64 < cLine) (ha : DE X a ta f1) (hb : DE X b tb f2) (h1 : behindInMarks .NotIn b = false := by rfl) : DE X (.Compare a [.NotIn] [b] pos) (tOp (rDI true) ta tb) (op2 (dinD true) f1 f2) := ⟨pe_cmp (pc_dnotin (by omega) ha.pe hb.pe) h1, sem_op ops_din ha.sem hb.sem⟩
theorem dt_din (hu : X.A.units + 64 < cLine) (ha : DE X a ta f1) (hb : DE X b tb f2) (h1 : behindInMarks .In b = false := by rfl) : DT X (.Compare a [.In] [b] pos) (tB (tOp (rDI false) ta tb)) (boolT (op2 (dinD false) f1 f2)) := ⟨pt_cmp (pc_din (by omega) ha.pe hb.pe) h1, sem_boolT (sem_op ops_din ha.sem hb.sem)⟩
theorem dt_dnin (hu : X.A.units + 64 < cLine) (ha : DE X a ta f1) (hb : DE X b tb f2) (h1 : behindInMarks .NotIn b = false := by rfl) : DT X (.Compare a [.NotIn] [b] pos) (tB (tOp (rDI true) ta tb)) (boolT (op2 (dinD true) f1 f2)) := ⟨pt_cmp (pc_dnotin (by omega) ha.pe hb.pe) h1, sem_boolT (sem_op ops_din ha.sem hb.sem)⟩
/-! ### slices -/
noncomputable def cutD (xs : List D) (lo hi : Option Int) : List D := (xs.drop (HT.sIx xs.length 0 lo)).take (HT.sIx xs.length xs.length hi - HT.sIx xs.length 0 lo)
theorem cut_rep {B : Hp} {vs : List V} {ds : List D} (r : Reps B vs ds) (lo hi : Option Int) : Reps B (cutV vs lo hi) (cutD ds lo hi) := by
  unfold cutV cutD
  rw [r.length]
  exact (r.drop _).take _
abbrev OF := Env → Option (Option Int × Env)
structure DO (X : Cx) (e : Option Expr) (t : TO) (f : OF) : Prop where
  po : PO X e t
  sem : ∀ (C : Cz) (σ : L2.St) (ρ : Env) (ps : Pend) (H : Hp) (o : Option Int) (ρ' : Env), f ρ = some (o, ρ') → W C σ ρ ps H → ∀ Q : Option Int → Hp → Prop, (∀ H', W C σ ρ' ps H' → Q o H') → t σ H Q
noncomputable def noneO : OF := fun ρ => some (none, ρ)
noncomputable def someO (f : EF) : OF := fun ρ => match f ρ with
  | some (.tmp (.imm (.int i)), ρ1) => some (some i, ρ1)
  | _ => none
theorem do_none : DO X none tNoPart noneO := ⟨po_none, fun C σ ρ ps H o ρ' h w Q k => by
  cases h
  exact k H w⟩
theorem do_some (he : DE X e te f) : DO X (some e) (tPart te) (someO f) := ⟨po_some he.pe, fun C σ ρ ps H o ρ' h w Q k => by
  unfold someO at h
  split at h
  · rename_i i ρ1 e1
    cases h
    refine he.sem.run C σ ρ ps H _ _ e1 w _ fun v H1 w1 => ?_
    obtain ⟨B, w1⟩ := w1
    have r := w1.imm_rep
    cases r
    exact ⟨i, rfl, k _ ⟨B, w1.drop⟩⟩
  · cases h⟩
noncomputable def sliceE (f : EF) (g h : OF) : EF := fun ρ => match f ρ with
  | none => none
  | some (r, ρ1) => match g ρ1 with
    | none => none
    | some (lo, ρ2) => match h ρ2 with
      | none => none
      | some (hi, ρ3) => match vw r ρ3 with
        | some (.lst xs, ρ4) => some (.tmp (.lst (cutD xs lo hi)), ρ4)
        | _ => none
theorem de_slice {lo hi : Option Expr} {tlo thi : TO} {g h : OF} (he : DE X e te f) (hl : DO X lo tlo g) (hh : DO X hi thi h) : DE X (.Subscript e (.Slice lo hi none p2) pos) (tSl (rSlL X.K) te tlo thi) (sliceE f g h) := ⟨pe_slice sl_list he.pe hl.po hh.po, ⟨fun C σ ρ ps H r' ρ' q w Q k => by
  unfold sliceE at q
  split at q
  · cases q
  rename_i r ρ1 e1
  split at q
  · cases q
  rename_i lo' ρ2 e2
  split at q
  · cases q
  rename_i hi' ρ3 e3
  split at q
  · rename_i xs ρ4 e4
    cases q
    refine he.sem.run C σ ρ ps H r ρ1 e1 w _ fun x H1 w1 => ?_
    refine hl.sem C σ ρ1 _ H1 lo' ρ2 e2 w1 _ fun H2 w2 => ?_
    refine hh.sem C σ ρ2 _ H2 hi' ρ3 e3 w2 _ fun H3 w3 => ?_
    obtain ⟨B, w3⟩ := w3
    obtain ⟨B', s1, w4, vv⟩ := w3.vw e4
    obtain ⟨p, vs, rfl, hp, rr⟩ := vv.lst_ w4.bh
    have w5 := w4.drop
    obtain ⟨fp, w6⟩ := w5.wd
    exact ⟨p, vs, rfl, SqL.of hp, fun a ha => k _ _ (w5.front (w6.new_lst ha (cut_rep rr lo' hi')))⟩
  · cases q⟩⟩
/-- t[lo:hi] of a tuple, not the whole -/
noncomputable def sliceT (f : EF) (g h : OF) : EF := fun ρ => match f ρ with
  | none => none
  | some (r, ρ1) => match g ρ1 with
    | none => none
    | some (lo, ρ2) => match h ρ2 with
      | none => none
      | some (hi, ρ3) => match vw r ρ3 with
        | some (.tup xs, ρ4) => if decide (HT.sIx xs.length 0 lo = 0 ∧ HT.sIx xs.length xs.length hi = xs.length) then none else some (.tmp (.imm (.tup (cutD xs lo hi))), ρ4)
        | _ => none
theorem de_sliceT {lo hi : Option Expr} {tlo thi : TO} {g h : OF} (he : DE X e te f) (hl : DO X lo tlo g) (hh : DO X hi thi h) : DE X (.Subscript e (.Slice lo hi none p2) pos) (tSl (rSlT X.K) te tlo thi) (sliceT f g h) := ⟨pe_slice sl_tup he.pe hl.po hh.po, ⟨fun C σ ρ ps H r' ρ' q w Q k => by
  unfold sliceT at q
  split at q
  · cases q
  rename_i r ρ1 e1
  split at q
  · cases q
  rename_i lo' ρ2 e2
  split at q
  · cases q
  rename_i hi' ρ3 e3
  split at q
  · rename_i xs ρ4 e4
    split at q
    · cases q
    rename_i e5
    cases q
    refine he.sem.run C σ ρ ps H r ρ1 e1 w _ fun x H1 w1 => ?_
    refine hl.sem C σ ρ1 _ H1 lo' ρ2 e2 w1 _ fun H2 w2 => ?_
    refine hh.sem C σ ρ2 _ H2 hi' ρ3 e3 w2 _ fun H3 w3 => ?_
    obtain ⟨B, w3⟩ := w3
    obtain ⟨B', s1, w4, vv⟩ := w3.vw e4
    obtain ⟨p, vs, rfl, hp, rr⟩ := vv.tup_
    have w5 := w4.drop
    obtain ⟨fp, w6⟩ := w5.wd
    refine ⟨p, vs, rfl, SqT.of (w4.bh _ _ hp), by rw [rr.length]; intro z; exact e5 (decide_eq_true z), fun a ha => ?_⟩
    obtain ⟨B2, s2, w7⟩ := w6.new_tup ha (cut_rep rr lo' hi')
    exact k _ _ (w5.front w7)
  · cases q⟩⟩
noncomputable def revE (f : EF) : EF := fun ρ => match f ρ with
  | none => none
  | some (r, ρ1) => match vw r ρ1 with
    | some (.lst xs, ρ2) => some (.tmp (.lst xs.reverse), ρ2)
    | _ => none
/-- xs[::-1] -/
theorem de_rev {k : Nat} {p1 p2 p3 : Pos} (he : DE X e te f) : DE X (.Subscript e (.Slice none none (some (.UnaryOp .USub (.Constant (.int 1) k p1) p2)) p3) pos) (tRevL X.K te) (revE f) := ⟨pe_revL he.pe, ⟨fun C σ ρ ps H r' ρ' q w Q k => by
  unfold revE at q
  split at q
  · cases q
  rename_i r ρ1 e1
  split at q
  · rename_i xs ρ2 e2
    cases q
    refine he.sem.run C σ ρ ps H r ρ1 e1 w _ fun x H1 w1 => ?_
    obtain ⟨B, w1⟩ := w1
    obtain ⟨B', s1, w2, vv⟩ := w1.vw e2
    obtain ⟨p, vs, rfl, hp, rr⟩ := vv.lst_ w2.bh
    have w3 := w2.drop
    obtain ⟨fp, w4⟩ := w3.wd
    exact ⟨p, vs, rfl, SqL.of hp, fun a ha => k _ _ (w3.front (w4.new_lst ha rr.reverse))⟩
  · cases q⟩⟩
end
/-! ### built-ins by name -/
noncomputable def CallS (r : List V → Hp → VK → Prop) (g : List D → Option M) : Prop := ∀ (C : Cz) (B H : Hp) (its : List Item) (fp : List Addr) (vs : List V) (ds : List D) (m : M), Wld C B H its fp → Views B H vs ds → g ds = some m →
  ∀ Q : VK, (∀ v H' B' fp', Wld C B' H' ((v, m) :: its) fp' → Q v H') → r vs H Q
noncomputable def callE (h : List D → Option M) (g : AF) : EF := fun ρ => match g ρ with
  | none => none
  | some (rs, ρ1) => match vws rs ρ1 with
    | none => none
    | some (ds, ρ2) => match h ds with
      | none => none
      | some m => some (.tmp m, ρ2)
theorem sem_call {r : List V → Hp → VK → Prop} {h : List D → Option M} {tl : TA} {g : AF} (o : CallS r h) (ha : SemL tl g) : SemE (tCB r tl) (callE h g) := ⟨fun C σ ρ ps H r' ρ' q w Q k => by
  unfold callE at q
  split at q
  · cases q
  rename_i rs ρ1 e1
  split at q
  · cases q
  rename_i ds ρ2 e2
  split at q
  · cases q
  rename_i m e3
  cases q
  refine ha.run C σ ρ ps H rs ρ1 e1 w _ fun vs H1 l w1 => ?_
  obtain ⟨B, w1⟩ := w1
  obtain ⟨B', s1, w2, vv⟩ := w1.vws l e2
  obtain ⟨fp, w3⟩ := w2.wd
  exact o C B' H1 _ fp vs ds m w3 vv e3 Q fun v H' B2 fp2 w4 => k v H' ⟨B2, .of_tmp w2.cov w2.ref w4⟩⟩
theorem CallS.or {r r' : List V → Hp → VK → Prop} {g g' : List D → Option M} (h : CallS r g) (h' : CallS r' g') : CallS (fun xs H Q => r xs H Q ∨ r' xs H Q) (fun ds => match g ds with | some m => some m | none => g' ds) := by
  intro C B H its fp vs ds m w v hg Q k
  cases q : g ds with
  | some m' =>
    simp only [q] at hg
    cases hg
    exact .inl (h C B H its fp vs ds m w v q Q k)
  | none =>
    simp only [q] at hg
    exact .inr (h' C B H its fp vs ds m w v hg Q k)
end FD
set_option Elab.async false
set_option linter.all false
set_option maxRecDepth 100000
/-! FD6: statements. -/
namespace FD
open PySem PySem.Spec PyProof.Rows L2
inductive Ctl where
  | nx | ret (m : M) | bk | ct
abbrev SF := Env → Option (Env × Ctl)
structure Agree (S : List Nat) (σ σ' : L2.St) : Prop where
  len : σ'.length = σ.length
  at_ : ∀ (i : Nat), i ∉ S → σ'[i]? = σ[i]?
theorem Agree.refl (S : List Nat) (σ : L2.St) : Agree S σ σ := ⟨rfl, fun _ _ => rfl⟩
theorem Agree.trans {S S' : List Nat} {σ σ1 σ2 : L2.St} (a : Agree S σ σ1) (b : Agree S' σ1 σ2) : Agree (S ++ S') σ σ2 :=
  ⟨b.len.trans a.len, fun i h => (b.at_ i fun q => h (List.mem_append_right _ q)).trans (a.at_ i fun q => h (List.mem_append_left _ q))⟩
theorem Agree.mono {S S' : List Nat} {σ σ' : L2.St} (a : Agree S σ σ') (h : ∀ i ∈ S, i ∈ S') : Agree S' σ σ' := ⟨a.len, fun i q => a.at_ i fun z => q (h i z)⟩
theorem Agree.set (σ : L2.St) (i : Nat) (x : Option V) : Agree [i] σ (σ.set i x) := ⟨List.length_set .., fun j h => List.getElem?_set_ne fun e => h (by simp [e])⟩
abbrev tp (qs : List Item) : Pend := qs.map fun q => (q.1, R.tmp q.2)
theorem tp_no {qs : List Item} {v : V} {i : Nat} (h : (v, R.slt i) ∈ tp qs) : False := by
  obtain ⟨q, _, e⟩ := List.mem_map.mp h
  cases e
theorem tmps_tp : ∀ qs : List Item, tmps (tp qs) = qs
  | [] => rfl
  | q :: qs => by
    show (q.1, q.2) :: tmps (tp qs) = _
    rw [tmps_tp qs]
noncomputable def EndOk (C : Cz) (σ : L2.St) (ρ' : Env) (c : Ctl) (qs : List Item) (S : List Nat) (D : Ends) : Prop := ∀ σ' H', Agree S σ σ' → match c with
  | .nx => W C σ' ρ' (tp qs) H' → D.nx σ' H'
  | .bk => W C σ' ρ' (tp qs) H' → D.bk σ' H'
  | .ct => W C σ' ρ' (tp qs) H' → D.ct σ' H'
  | .ret m => ∀ v, W C σ' ρ' ((v, .tmp m) :: tp qs) H' → D.rt v H'
structure SemS (ts : TS) (F : SF) (S : List Nat) : Prop where
  run : ∀ (C : Cz) (σ : L2.St) (ρ : Env) (qs : List Item) (H : Hp) (ρ' : Env) (c : Ctl), F ρ = some (ρ', c) → W C σ ρ (tp qs) H → ∀ D : Ends, EndOk C σ ρ' c qs S D → ts D σ H
structure DS (X : Cx) (st : Stmt) (ts : TS) (F : SF) (S : List Nat) : Prop where
  ps : PS X st ts
  sem : SemS ts F S
structure DSs (X : Cx) (sts : List Stmt) (ts : TS) (F : SF) (S : List Nat) : Prop where
  pss : PSs X sts ts
  sem : SemS ts F S
theorem EndOk.mono {C : Cz} {σ σ1 : L2.St} {ρ' : Env} {c : Ctl} {qs : List Item} {S S1 : List Nat} {D : Ends} (h : EndOk C σ ρ' c qs (S ++ S1) D) (a : Agree S σ σ1) : EndOk C σ1 ρ' c qs S1 D := fun σ' H' b => h σ' H' (a.trans b)
/-! ### worlds of slots -/
section
variable {C : Cz} {B H : Hp} {σ : L2.St} {ρ : Env} {ps : Pend} {qs : List Item} {v : V} {m : M} {i : Nat}
theorem WB.un (w : WB C B σ ρ ps H) (i : Nat) : WB C B σ (ρ.set i none) ps H := by
  cases q : ρ[i]? with
  | none =>
    have e : ρ.set i none = ρ := by
      rw [List.set_eq_of_length_le]
      exact List.getElem?_eq_none_iff.mp q
    rw [e]
    exact w
  | some o =>
    cases o with
    | none =>
      obtain ⟨fp, z⟩ := w.wd
      exact ⟨w.cov.un, w.ref, fp, by rw [Sl_drop q]; exact z⟩
    | some m =>
      obtain ⟨v, hv⟩ := w.cov.has i m q
      exact (w.take q hv).drop
theorem W.un (w : W C σ ρ ps H) (i : Nat) : W C σ (ρ.set i none) ps H := let ⟨B, w⟩ := w; ⟨B, w.un i⟩
theorem WB.put (w : WB C B σ ρ ((v, .tmp m) :: ps) H) (hl : i < ρ.length) (hn : ∀ v i, (v, R.slt i) ∉ ps) : WB C B (σ.set i (some v)) (ρ.set i (some m)) ps H := by
  have w1 : WB C B σ (ρ.set i none) ((v, .tmp m) :: ps) H := w.un i
  obtain ⟨fp, z⟩ := w1.tmp
  have p := Sl_put (σ := σ) (ρ := ρ) (i := i) (m := m) (v := v) (by rw [w.cov.len]; exact hl) w.cov.len
  exact ⟨w.cov.put, fun v' j h => absurd h (hn v' j), z.perm (p.symm.append_right _)⟩
theorem W.put (w : W C σ ρ ((v, .tmp m) :: tp qs) H) (hl : i < ρ.length) : W C (σ.set i (some v)) (ρ.set i (some m)) (tp qs) H := let ⟨B, w⟩ := w; ⟨B, w.put hl fun _ _ h => tp_no h⟩
end
/-! ### blocks -/
noncomputable def nxF : SF := fun ρ => some (ρ, .nx)
noncomputable def seqF (F G : SF) : SF := fun ρ => match F ρ with
  | none => none
  | some (ρ1, .nx) => G ρ1
  | some (ρ1, c) => some (ρ1, c)
theorem sem_next : SemS tNext nxF [] := ⟨fun C σ ρ qs H ρ' c h w D k => by
  cases h
  exact k σ H (.refl _ _) w⟩
theorem sem_seq {t u : TS} {F G : SF} {S S1 : List Nat} (h1 : SemS t F S) (h2 : SemS u G S1) : SemS (tSeq t u) (seqF F G) (S ++ S1) := ⟨fun C σ ρ qs H ρ' c h w D k => by
  unfold seqF at h
  split at h
  · cases h
  · rename_i ρ1 e1
    refine h1.run C σ ρ qs H _ _ e1 w _ fun σ1 H1 a w1 => ?_
    exact h2.run C σ1 ρ1 qs H1 ρ' c h w1 D (k.mono a)
  · rename_i ρ1 c1 hc e1
    cases h
    refine h1.run C σ ρ qs H _ _ e1 w _ fun σ1 H1 a => ?_
    have k1 := k σ1 H1 (a.mono fun i hi => List.mem_append_left _ hi)
    cases c with
    | nx => exact (hc rfl).elim
    | ret m => exact k1
    | bk => exact k1
    | ct => exact k1⟩
section
variable {X : Cx} {st : Stmt} {rest : List Stmt} {t u : TS} {F G : SF} {S S1 : List Nat} {e c : Expr} {te : TE} {f : EF} {pos : Pos}
theorem dss_nil : DSs X [] tNext nxF [] := ⟨pss_nil, sem_next⟩
theorem dss_cons (h1 : DS X st t F S) (h2 : DSs X rest u G S1) : DSs X (st :: rest) (tSeq t u) (seqF F G) (S ++ S1) := ⟨pss_cons h1.ps h2.pss, sem_seq h1.sem h2.sem⟩
theorem dss_one (h1 : DS X st t F S) : DSs X [st] t F S := ⟨pss_one h1.ps, h1.sem⟩
/-- names that are asked no more -/
noncomputable def wipeF : List Nat → Env → Env
  | [], ρ => ρ
  | i :: is, ρ => (wipeF is ρ).set i none
theorem W.wipe {C : Cz} {σ : L2.St} {ps : Pend} {H : Hp} : ∀ (is : List Nat) {ρ : Env}, W C σ ρ ps H → W C σ (wipeF is ρ) ps H
  | [], _, w => w
  | i :: is, _, w => (W.wipe is w).un i
noncomputable def fgtF (is : List Nat) (F : SF) : SF := fun ρ => match F ρ with
  | none => none
  | some (ρ1, c) => some (wipeF is ρ1, c)
theorem sem_fgt (is : List Nat) (h : SemS t F S) : SemS t (fgtF is F) S := ⟨fun C σ ρ qs H ρ' c q w D k => by
  unfold fgtF at q
  split at q
  · cases q
  · rename_i ρ1 c1 e1
    cases q
    refine h.run C σ ρ qs H _ _ e1 w _ fun σ1 H1 a => ?_
    have k1 := k σ1 H1 a
    cases c with
    | nx => exact fun w => k1 (w.wipe is)
    | ret m => exact fun v w => k1 v (w.wipe is)
    | bk => exact fun w => k1 (w.wipe is)
    | ct => exact fun w => k1 (w.wipe is)⟩
theorem ds_fgt (is : List Nat) (h : DS X st t F S) : DS X st t (fgtF is F) S := ⟨h.ps, sem_fgt is h.sem⟩
theorem dss_fgt {sts : List Stmt} (is : List Nat) (h : DSs X sts t F S) : DSs X sts t (fgtF is F) S := ⟨h.pss, sem_fgt is h.sem⟩
noncomputable def bkF : SF := fun ρ => some (ρ, .bk)
noncomputable def ctF : SF := fun ρ => some (ρ, .ct)
theorem ds_pass : DS X (.Pass pos) tNext nxF [] := ⟨ps_pass, sem_next⟩
theorem ds_break : DS X (.Break pos) tBreak bkF [] := ⟨ps_break, ⟨fun C σ ρ qs H ρ' c h w D k => by
  cases h
  exact k σ H (.refl _ _) w⟩⟩
theorem ds_continue : DS X (.Continue pos) tCont ctF [] := ⟨ps_continue, ⟨fun C σ ρ qs H ρ' c h w D k => by
  cases h
  exact k σ H (.refl _ _) w⟩⟩
/-- what is not reached -/
noncomputable def offF : SF := fun _ => none
theorem ds_off : DS X st tNever offF [] := ⟨ps_never, ⟨fun C σ ρ qs H ρ' c h w D k => by cases h⟩⟩
theorem ds_doc {x j pos'} : DS X (.Expr (.Constant (.str x) j pos) pos') tNext nxF [] := ⟨ps_doc, sem_next⟩
/-- an expression alone -/
noncomputable def exprF (f : EF) : SF := fun ρ => match f ρ with
  | none => none
  | some (_, ρ1) => some (ρ1, .nx)
theorem ds_expr (he : DE X e te f) (hs : swapsWith e none pos.line X.env = pure false := by rfl) : DS X (.Expr e pos) (tDrop te) (exprF f) [] := ⟨ps_expr he.pe hs, ⟨fun C σ ρ qs H ρ' c h w D k => by
  unfold exprF at h
  split at h
  · cases h
  · rename_i r ρ1 e1
    cases h
    exact he.sem.run C σ ρ _ H r _ e1 w _ fun v H1 w1 => k σ H1 (.refl _ _) w1.drop⟩⟩
/-- return: a slot's thing is moved out -/
noncomputable def retF (f : EF) : SF := fun ρ => match f ρ with
  | none => none
  | some (r, ρ1) => match mv r ρ1 with
    | none => none
    | some (m, ρ2) => some (ρ2, .ret m)
theorem ds_ret (he : DE X e te f) : DS X (.Return (some e) pos) (tRet te) (retF f) [] := ⟨ps_ret he.pe, ⟨fun C σ ρ qs H ρ' c h w D k => by
  unfold retF at h
  split at h
  · cases h
  · rename_i r ρ1 e1
    split at h
    · cases h
    · rename_i m ρ2 e2
      cases h
      exact he.sem.run C σ ρ _ H r _ e1 w _ fun v H1 w1 => k σ H1 (.refl _ _) v (w1.mv e2)⟩⟩
noncomputable def retNF : SF := fun ρ => some (ρ, .ret (.imm .non))
theorem ds_retN : DS X (.Return none pos) tRetN retNF [] := ⟨ps_retN, ⟨fun C σ ρ qs H ρ' c h w D k => by
  cases h
  exact k σ H (.refl _ _) .non (w.scal fun _ => .non)⟩⟩
noncomputable def ifF (p : TF) (F G : SF) : SF := fun ρ => match p ρ with
  | none => none
  | some (true, ρ1) => F ρ1
  | some (false, ρ1) => G ρ1
theorem ds_if {a b : List Stmt} {tc : TT} {p : TF} (hc : DT X c tc p) (ha : DSs X a t F S) (hb : DSs X b u G S1) : DS X (.If c a b pos) (tIfS tc t u) (ifF p F G) (S ++ S1) := ⟨ps_if hc.pt ha.pss hb.pss, ⟨fun C σ ρ qs H ρ' c h w D k => by
  unfold ifF at h
  split at h
  · cases h
  · rename_i ρ1 e1
    refine hc.sem.run C σ ρ _ H _ _ e1 w _ fun H1 w1 => ?_
    rw [if_pos rfl]
    exact ha.sem.run C σ ρ1 qs H1 ρ' c h w1 D fun σ1 H2 a => k σ1 H2 (a.mono fun i hi => List.mem_append_left _ hi)
  · rename_i ρ1 e1
    refine hc.sem.run C σ ρ _ H _ _ e1 w _ fun H1 w1 => ?_
    rw [if_neg Bool.false_ne_true]
    exact hb.sem.run C σ ρ1 qs H1 ρ' c h w1 D fun σ1 H2 a => k σ1 H2 (a.mono fun i hi => List.mem_append_right _ hi)⟩⟩
end
/-! ### targets -/
abbrev GF := M → Env → Option Env
structure SemG (g : TG) (G : GF) (S : List Nat) : Prop where
  run : ∀ (C : Cz) (σ : L2.St) (ρ : Env) (qs : List Item) (H : Hp) (v : V) (m : M) (ρ' : Env), G m ρ = some ρ' → W C σ ρ ((v, .tmp m) :: tp qs) H → ∀ Q : L2.St → Hp → Prop, (∀ σ' H', Agree S σ σ' → W C σ' ρ' (tp qs) H' → Q σ' H') → g v σ H Q
structure SemGs (g : TGs) (G : List M → Env → Option Env) (S : List Nat) : Prop where
  run : ∀ (C : Cz) (σ : L2.St) (ρ : Env) (qs : List Item) (H : Hp) (vs : List V) (ms : List M) (ρ' : Env), G ms ρ = some ρ' → vs.length = ms.length → W C σ ρ (zps vs (ms.map .tmp) ++ tp qs) H → ∀ Q : L2.St → Hp → Prop, (∀ σ' H', Agree S σ σ' → W C σ' ρ' (tp qs) H' → Q σ' H') → g vs σ H Q
structure DG (X : Cx) (e : Expr) (g : TG) (G : GF) (S : List Nat) : Prop where
  pg : PG X e g
  sem : SemG g G S
structure DGs (X : Cx) (es : List Expr) (g : TGs) (G : List M → Env → Option Env) (S : List Nat) : Prop where
  pgs : PGs X es g
  sem : SemGs g G S
noncomputable def nameG (i : Nat) : GF := fun m ρ => if i < ρ.length then some (ρ.set i (some m)) else none
noncomputable def nilG : List M → Env → Option Env
  | [], ρ => some ρ
  | _ :: _, _ => none
noncomputable def consG (G : GF) (Gs : List M → Env → Option Env) : List M → Env → Option Env
  | m :: ms, ρ => match G m ρ with
    | none => none
    | some ρ1 => Gs ms ρ1
  | [], _ => none
/-- a tuple's parts -/
noncomputable def partsM : M → Option (List M)
  | .dtup ms => some ms
  | .imm (.tup ds) => some (ds.map .imm)
  | _ => none
noncomputable def tupG (n : Nat) (Gs : List M → Env → Option Env) : GF := fun m ρ => match partsM m with
  | none => none
  | some ms => if ms.length = n then Gs ms ρ else none
section
variable {X : Cx} {e : Expr} {es : List Expr} {g : TG} {gs : TGs} {G : GF} {Gs : List M → Env → Option Env} {S S1 : List Nat} {pos : Pos}
theorem dg_name {i : Nat} {x : Str} (hN : X.N.Nodup) (hi : X.N[i]? = some x := by rfl) (hx : Loc X.env.scope x := by first | exact Or.inl rfl | exact Or.inr rfl) (hf : X.fn x = true ∨ X.env.scope.names.lookup x = some .local := by first | exact .inl rfl | exact .inr rfl | assumption) : DG X (.Name x pos) (gName i) (nameG i) [i] :=
  ⟨pg_name hN hi hx hf, ⟨fun C σ ρ qs H v m ρ' h w Q k => by
    unfold nameG at h
    split at h
    · rename_i hl
      cases h
      exact k _ H (.set _ _ _) (w.put hl)
    · cases h⟩⟩
theorem dgs_nil : DGs X [] gNil nilG [] := ⟨pgs_nil, ⟨fun C σ ρ qs H vs ms ρ' h l w Q k => by
  cases ms with
  | cons m ms => cases h
  | nil =>
    cases h
    cases vs with
    | cons v vs => cases l
    | nil => exact ⟨rfl, k σ H (.refl _ _) w⟩⟩⟩
theorem tp_zip {qs : List Item} : ∀ {vs : List V} {ms : List M}, vs.length = ms.length → tp (vs.zip ms ++ qs) = zps vs (ms.map .tmp) ++ tp qs
  | [], [], _ => rfl
  | v :: vs, m :: ms, l => by
    show (v, R.tmp m) :: tp (vs.zip ms ++ qs) = (v, R.tmp m) :: (zps vs (ms.map .tmp) ++ tp qs)
    rw [tp_zip (by simpa using l)]
  | [], _ :: _, l => by cases l
  | _ :: _, [], l => by cases l
theorem dgs_cons (h1 : DG X e g G S) (h2 : DGs X es gs Gs S1) (hs : (assignEach (e :: es) X.env).map (·.2) = assign e X.env :: (assignEach es X.env).map (·.2) := by rfl) : DGs X (e :: es) (gCons g gs) (consG G Gs) (S ++ S1) := ⟨pgs_cons h1.pg h2.pgs hs, ⟨fun C σ ρ qs H vs ms ρ' h l w Q k => by
  match ms, vs, l with
  | [], _, _ => cases h
  | m :: ms, v :: vs, l =>
    simp only [consG] at h
    split at h
    · cases h
    rename_i ρ1 e1
    have l' : vs.length = ms.length := by simpa using l
    have w0 : W C σ ρ ((v, .tmp m) :: tp (vs.zip ms ++ qs)) H := by
      rw [tp_zip l']
      exact w
    refine ⟨v, vs, rfl, h1.sem.run C σ ρ (vs.zip ms ++ qs) H v m ρ1 e1 w0 _ fun σ1 H1 a w1 => ?_⟩
    rw [tp_zip l'] at w1
    exact h2.sem.run C σ1 ρ1 qs H1 vs ms ρ' h l' w1 Q fun σ2 H2 b w2 => k σ2 H2 (a.trans b) w2⟩⟩
/-- a tuple that is held apart: its parts -/
theorem WB.parts {C : Cz} {B H : Hp} {σ : L2.St} {ρ : Env} {ps : Pend} {v : V} {m : M} {ms : List M} (w : WB C B σ ρ ((v, .tmp m) :: ps) H) (h : partsM m = some ms) :
    ∃ p vs, v = .ref p ∧ H p = some (.tup vs) ∧ vs.length = ms.length ∧ W C σ ρ (zps vs (ms.map .tmp) ++ ps) H := by
  unfold partsM at h
  split at h
  · cases h
    obtain ⟨fp, z⟩ := w.tmp
    cases z with
    | mk bh rh b0 br it nd fr =>
    cases it with
    | cons h0 rest =>
      cases h0 with
      | @dtup p vs _ its f hp e1 e2 r =>
        subst e1 e2
        have nd' := List.nodup_cons.mp nd
        have z2 : Wld C B H (its ++ (Sl σ ρ ++ tmps ps)) (f ++ _) := ⟨bh, rh, b0, br, r.join rest, nd'.2, fun a ha => fr a (List.mem_cons_of_mem _ ha)⟩
        refine ⟨p, _, rfl, hp, by rw [List.length_map, List.length_map], B, w.cov, fun v' i h' => ?_, ?_⟩
        · rcases List.mem_append.mp h' with h' | h'
          · obtain ⟨_, q⟩ := List.of_mem_zip h'
            obtain ⟨m, _, e⟩ := List.mem_map.mp q
            cases e
          · exact w.psr v' i h'
        · rw [zps_tmps (by rw [List.length_map, List.length_map])]
          have e : (its.map (·.1)).zip (its.map (·.2)) = its := by
            rw [List.zip_map']
            show its.map id = its
            rw [List.map_id]
          rw [e]
          refine z2.perm ?_
          rw [← List.append_assoc, ← List.append_assoc]
          exact List.perm_append_comm.append_right _
  · cases h
    rename_i ds
    have r := w.imm_rep
    cases r with
    | @tup p vs _ hp rr =>
      refine ⟨p, vs, rfl, w.bh _ _ hp, by rw [List.length_map]; exact rr.length, B, ?_⟩
      have w0 := w.drop
      clear w hp
      induction rr using Reps.rec (motive_1 := fun _ _ _ => True) with
      | nil => exact w0
      | cons h r _ ih => exact ih.imm h
      | _ => trivial
  · cases h
theorem dg_tup {k : Nat} {n : Nat} (h : DGs X es gs Gs S) (hc : X.calm = true := by rfl) (P : X.calm = true → PGs X es gs → PG X (.Tuple es k pos) (gTup X.K n gs) := by exact fun hc h => pg_tup hc h) : DG X (.Tuple es k pos) (gTup X.K n gs) (tupG n Gs) S := ⟨P hc h.pgs, ⟨fun C σ ρ qs H v m ρ' q w Q kk => by
  unfold tupG at q
  split at q
  · cases q
  rename_i ms e1
  split at q
  · rename_i e2
    obtain ⟨B, w⟩ := w
    obtain ⟨p, vs, rfl, hp, l, w1⟩ := w.parts e1
    exact ⟨p, vs, rfl, SqT.of hp, l.trans e2, h.sem.run C σ ρ qs H vs ms ρ' q l w1 Q kk⟩
  · cases q⟩⟩
end
/-- taken as one's own, or as data from a slot -/
noncomputable def own (r : R) (ρ : Env) : Option (M × Env) := match r with
  | .tmp m => some (m, ρ)
  | .slt i => match fz (.slt i) ρ with
    | none => none
    | some (d, ρ') => some (.imm d, ρ')
theorem W.own {C : Cz} {H : Hp} {σ : L2.St} {ρ ρ' : Env} {ps : Pend} {v : V} {m : M} {r : R} (w : W C σ ρ ((v, r) :: ps) H) (h : FD.own r ρ = some (m, ρ')) : W C σ ρ' ((v, .tmp m) :: ps) H := by
  cases r with
  | tmp m => cases h; exact w
  | slt i =>
    unfold FD.own at h
    simp only at h
    split at h
    · cases h
    · rename_i d ρ1 e
      cases h
      exact w.fz e
noncomputable def asgF (f : EF) (G : GF) : SF := fun ρ => match f ρ with
  | none => none
  | some (r, ρ1) => match own r ρ1 with
    | none => none
    | some (m, ρ2) => match G m ρ2 with
      | none => none
      | some ρ3 => some (ρ3, .nx)
theorem sem_asg {te : TE} {f : EF} {g : TG} {G : GF} {S : List Nat} (he : SemE te f) (hg : SemG g G S) : SemS (tAsg te g) (asgF f G) S := ⟨fun C σ ρ qs H ρ' c h w D k => by
  unfold asgF at h
  split at h
  · cases h
  rename_i r ρ1 e1
  split at h
  · cases h
  rename_i m ρ2 e2
  split at h
  · cases h
  rename_i ρ3 e3
  cases h
  refine he.run C σ ρ _ H r _ e1 w _ fun v H1 w1 => ?_
  exact hg.run C σ ρ2 qs H1 v m ρ' e3 (w1.own e2) _ fun σ' H' a w' => k σ' H' a w'⟩
section
variable {X : Cx} {e tg : Expr} {te : TE} {f : EF} {g : TG} {G : GF} {S : List Nat} {pos : Pos}
theorem ds_asg (he : DE X e te f) (hg : DG X tg g G S) (P : PE X e te → PG X tg g → PS X (.Assign [tg] e pos) (tAsg te g) := by exact fun he hg => ps_asg he hg) : DS X (.Assign [tg] e pos) (tAsg te g) (asgF f G) S := ⟨P he.pe hg.pg, sem_asg he.sem hg.sem⟩
theorem ds_set {i : Nat} {x : Str} {pos' : Pos} (hN : X.N.Nodup) (he : DE X e te f) (hi : X.N[i]? = some x := by rfl) (hx : Loc X.env.scope x := by first | exact Or.inl rfl | exact Or.inr rfl) (hs : swapsWith e (some (.Name x pos')) pos.line X.env = pure false := by rfl) (hf : X.fn x = true ∨ X.env.scope.names.lookup x = some .local := by first | exact .inl rfl | exact .inr rfl | assumption) :
    DS X (.Assign [.Name x pos'] e pos) (tAsg te (gName i)) (asgF f (nameG i)) [i] := ⟨ps_set hN hi hx he.pe hs hf, sem_asg he.sem (dg_name (X := X) (pos := pos') hN hi hx hf).sem⟩
end
/-! ### a, b = x, y -/
noncomputable def owns : List R → Env → Option (List M × Env)
  | [], ρ => some ([], ρ)
  | r :: rs, ρ => match own r ρ with
    | none => none
    | some (m, ρ1) => match owns rs ρ1 with
      | none => none
      | some (ms, ρ2) => some (m :: ms, ρ2)
theorem W.owns {C : Cz} {H : Hp} {σ : L2.St} : ∀ {rs : List R} {vs : List V} {ρ ρ' : Env} {ms : List M} {qs : Pend}, W C σ ρ (zps vs rs ++ qs) H → vs.length = rs.length → FD.owns rs ρ = some (ms, ρ') → W C σ ρ' (zps vs (ms.map .tmp) ++ qs) H ∧ vs.length = ms.length
  | [], [], ρ, ρ', ds, qs, w, _, h => by
    cases h
    exact ⟨w, rfl⟩
  | [], _ :: _, _, _, _, _, _, l, _ => by cases l
  | _ :: _, [], _, _, _, _, _, l, _ => by cases l
  | r :: rs, v :: vs, ρ, ρ', ms, qs, w, l, h => by
    unfold FD.owns at h
    split at h
    · cases h
    rename_i d ρ1 e1
    split at h
    · cases h
    rename_i ds1 ρ2 e2
    cases h
    have w1 := W.own (ps := zps vs rs ++ qs) w e1
    have w2 := w1.permP (List.perm_middle (l₁ := zps vs rs) (l₂ := qs) (a := (v, R.tmp d))).symm
    obtain ⟨w3, l3⟩ := W.owns (rs := rs) (vs := vs) (qs := (v, R.tmp d) :: qs) w2 (by simpa using l) e2
    exact ⟨w3.permP List.perm_middle, by rw [List.length_cons, List.length_cons, l3]⟩
noncomputable def parF (is : List Nat) (g : AF) : SF := fun ρ => match g ρ with
  | none => none
  | some (rs, ρ1) => match owns rs ρ1 with
    | none => none
    | some (ms, ρ2) => match is, ms with
      | [i, j], [m, n] => if i < ρ2.length ∧ j < ρ2.length then some ((ρ2.set i (some m)).set j (some n), .nx) else none
      | [i, j, l], [m, n, o] => if i < ρ2.length ∧ j < ρ2.length ∧ l < ρ2.length then some (((ρ2.set i (some m)).set j (some n)).set l (some o), .nx) else none
      | _, _ => none
section
variable {X : Cx} {a b c : Expr} {ta : TA} {g : AF} {pos : Pos}
theorem ds_par {i j : Nat} {x y : Str} {px py pt : Pos} {kt k2 pt2} (hN : X.N.Nodup) (ha : DL X [a, b] ta g) (hc : X.calm = true := by rfl) (hi : X.N[i]? = some x := by rfl) (hj : X.N[j]? = some y := by rfl) (hij : i ≠ j := by decide)
    (P : X.calm = true → X.N.Nodup → X.N[i]? = some x → X.N[j]? = some y → i ≠ j → PA X [a, b] ta → PS X (.Assign [.Tuple [.Name x px, .Name y py] kt pt] (.Tuple [a, b] k2 pt2) pos) (tPar i j ta) := by exact fun hc hN hi hj hij ha => ps_par hc hN hi hj hij rfl rfl ha (by rfl)) :
    DS X (.Assign [.Tuple [.Name x px, .Name y py] kt pt] (.Tuple [a, b] k2 pt2) pos) (tPar i j ta) (parF [i, j] g) [i, j] := ⟨P hc hN hi hj hij ha.pa, ⟨fun C σ ρ qs H ρ' c h w D k => by
  unfold parF at h
  split at h
  · cases h
  rename_i rs ρ1 e1
  split at h
  · cases h
  rename_i ms ρ2 e2
  match ms, h, e2 with
  | [m, n], h, e2 =>
    simp only at h
    split at h
    · rename_i hl
      cases h
      refine ha.sem.run C σ ρ _ H rs _ e1 w _ fun vs H1 l w1 => ?_
      obtain ⟨w2, l2⟩ := w1.owns l e2
      match vs, l2 with
      | [v, u], _ =>
        have w3 : W C σ ρ2 ((v, .tmp m) :: tp ((u, n) :: qs)) H1 := w2
        have w4 := w3.put hl.1
        have w5 := W.put (i := j) w4 (by rw [List.length_set]; exact hl.2)
        refine ⟨v, u, rfl, k _ _ ?_ w5⟩
        exact (Agree.set σ i (some v)).trans (Agree.set _ j (some u))
    · cases h
  | [], h, _ => cases h
  | [_], h, _ => cases h
  | _ :: _ :: _ :: _, h, _ => cases h⟩⟩
theorem ds_par3 {i j l : Nat} {x y z : Str} {px py pz pt : Pos} {kt k2 pt2} (hN : X.N.Nodup) (ha : DL X [a, b, c] ta g) (hc : X.calm = true := by rfl) (hi : X.N[i]? = some x := by rfl) (hj : X.N[j]? = some y := by rfl) (hl : X.N[l]? = some z := by rfl) (hij : i ≠ j := by decide) (hil : i ≠ l := by decide) (hjl : j ≠ l := by decide)
    (P : X.calm = true → X.N.Nodup → X.N[i]? = some x → X.N[j]? = some y → X.N[l]? = some z → i ≠ j → i ≠ l → j ≠ l → PA X [a, b, c] ta → PS X (.Assign [.Tuple [.Name x px, .Name y py, .Name z pz] kt pt] (.Tuple [a, b, c] k2 pt2) pos) (tPar3 i j l ta) := by exact fun hc hN hi hj hl hij hil hjl ha => ps_par3 hc hN hi hj hl hij hil hjl rfl rfl rfl ha (by rfl)) :
    DS X (.Assign [.Tuple [.Name x px, .Name y py, .Name z pz] kt pt] (.Tuple [a, b, c] k2 pt2) pos) (tPar3 i j l ta) (parF [i, j, l] g) [i, j, l] := ⟨P hc hN hi hj hl hij hil hjl ha.pa, ⟨fun C σ ρ qs H ρ' c h w D k => by
  unfold parF at h
  split at h
  · cases h
  rename_i rs ρ1 e1
  split at h
  · cases h
  rename_i ms ρ2 e2
  match ms, h, e2 with
  | [m, n, o], h, e2 =>
    simp only at h
    split at h
    · rename_i hl
      cases h
      refine ha.sem.run C σ ρ _ H rs _ e1 w _ fun vs H1 l0 w1 => ?_
      obtain ⟨w2, l2⟩ := w1.owns l0 e2
      match vs, l2 with
      | [v, u, t], _ =>
        have w3 : W C σ ρ2 ((v, .tmp m) :: tp ((u, n) :: (t, o) :: qs)) H1 := w2
        have w4 := w3.put hl.1
        have w5 := W.put (i := j) (qs := (t, o) :: qs) w4 (by rw [List.length_set]; exact hl.2.1)
        have w6 := W.put (i := l) w5 (by rw [List.length_set, List.length_set]; exact hl.2.2)
        refine ⟨v, u, t, rfl, k _ _ ?_ w6⟩
        exact ((Agree.set σ i (some v)).trans (Agree.set _ j (some u))).trans (Agree.set _ l (some t))
    · cases h
  | [], h, _ => cases h
  | [_], h, _ => cases h
  | [_, _], h, _ => cases h
  | _ :: _ :: _ :: _ :: _, h, _ => cases h⟩⟩
end
end FD
set_option Elab.async false
set_option linter.all false
set_option maxRecDepth 100000
/-! FD7: loops, comprehensions. -/
namespace FD
open PySem PySem.Spec PyProof.Rows L2
structure Walk (J : It) (C : Cz) (qs : List Item) (ds : List D) : Prop where
  step : ∀ (i : Nat) (σ : L2.St) (ρ : Env) (ps : Pend) (H : Hp), W C σ ρ (tp qs ++ ps) H → ∀ d, ds[i]? = some d → J.go i H ∧ ∀ x H', J.yld i H x H' → W C σ ρ ((x, .tmp (.imm d)) :: (tp qs ++ ps)) H'
  stop : ∀ (i : Nat) (σ : L2.St) (ρ : Env) (ps : Pend) (H : Hp), W C σ ρ (tp qs ++ ps) H → ds.length ≤ i → J.stop i H
noncomputable def backF : List (Nat × M) → Env → Env
  | [], ρ => ρ
  | (i, m) :: bk, ρ => (backF bk ρ).set i (some m)
noncomputable def Back (C : Cz) (qs : List Item) (bk : List (Nat × M)) (σ : L2.St) : Prop := ∀ (σ' : L2.St) (ρ' : Env) (ps : Pend) (H' : Hp), (∀ i m, (i, m) ∈ bk → σ'[i]? = σ[i]?) → W C σ' ρ' (tp qs ++ ps) H' → W C σ' (backF bk ρ') ps H'
abbrev IF := Env → Option (List D × List (Nat × M) × Env)
structure SemI (wi : TI) (f : IF) : Prop where
  run : ∀ (C : Cz) (σ : L2.St) (ρ : Env) (ps : Pend) (H : Hp) (ds : List D) (bk : List (Nat × M)) (ρ1 : Env), f ρ = some (ds, bk, ρ1) → W C σ ρ ps H → ∀ R : It → Hp → Prop,
    (∀ J H1 qs, Walk J C qs ds → Back C qs bk σ → W C σ ρ1 (tp qs ++ ps) H1 → R J H1) → wi σ H R
structure DI (X : Cx) (tg iter : Expr) (wi : TI) (f : IF) : Prop where
  pi : PI X tg iter wi
  sem : SemI wi f
/-! ### what is taken out of its slot for the while of a loop -/
noncomputable def takeR (r : R) (ρ : Env) : Option (M × List (Nat × M) × Env) := match r with
  | .tmp m => some (m.flat, [], ρ)
  | .slt i => match ρ[i]? with
    | some (some m) => some (m.flat, [(i, m.flat)], ρ.set i none)
    | _ => none
theorem take_ok {C : Cz} {H : Hp} {σ : L2.St} {ρ ρ' : Env} {ps : Pend} {v : V} {m : M} {r : R} {bk : List (Nat × M)} (w : W C σ ρ ((v, r) :: ps) H) (h : takeR r ρ = some (m, bk, ρ')) :
    ∃ B, WB C B σ ρ' (tp [(v, m)] ++ ps) H ∧ View B H v m.toD ∧ Back C [(v, m)] bk σ := by
  obtain ⟨B, w⟩ := w
  cases r with
  | tmp m0 =>
    cases h
    obtain ⟨fp, z⟩ := w.tmp
    obtain ⟨B', fp', _, z, vw⟩ := z.flat
    refine ⟨B', .of_tmp w.cov w.psr z, by rw [M.flat_toD]; exact vw, fun σ' ρ' ps H' _ w' => w'.drop⟩
  | slt i =>
    have hv := w.ref v i (by simp)
    unfold takeR at h
    cases q : ρ[i]? with
    | none => simp only [q] at h; cases h
    | some o =>
      cases o with
      | none => simp only [q] at h; cases h
      | some m0 =>
        simp only [q] at h
        cases h
        have w1 := w.drop.take q hv
        obtain ⟨fp, z⟩ := w1.tmp
        obtain ⟨B', fp', _, z, vw⟩ := z.flat
        refine ⟨B', .of_tmp w1.cov w1.psr z, by rw [M.flat_toD]; exact vw, fun σ' ρ' ps H' hs w' => ?_⟩
        obtain ⟨B2, w'⟩ := w'
        have e : σ'[i]? = some (some v) := (hs i m0.flat (by simp)).trans hv
        have hl : i < ρ'.length := by
          rw [← w'.cov.len]
          exact (List.getElem?_eq_some_iff.mp e).1
        have w2 : WB C B2 σ' (ρ'.set i none) ((v, .tmp m0.flat) :: ps) H' := w'.un i
        exact ⟨B2, w2.give hl e⟩
noncomputable def listI (f : EF) : IF := fun ρ => match f ρ with
  | none => none
  | some (r, ρ1) => match takeR r ρ1 with
    | some (m, bk, ρ2) => match m.toD with
      | .lst ds => some (ds, bk, ρ2)
      | _ => none
    | none => none
noncomputable def tupI (f : EF) : IF := fun ρ => match f ρ with
  | none => none
  | some (r, ρ1) => match takeR r ρ1 with
    | some (m, bk, ρ2) => match m.toD with
      | .tup ds => some (ds, bk, ρ2)
      | _ => none
    | none => none
theorem Wld.view {C : Cz} {B H : Hp} {its : List Item} {fp : List Addr} {v : V} {m : M} (w : Wld C B H ((v, m) :: its) fp) (f : m.flat = m) : View B H v m.toD := by
  cases m with
  | imm d => exact .rep w.imm_rep.1
  | lst ds =>
    cases w.it with
    | cons h _ => cases h with | lst h r => exact .lst h r
  | dK ks ds =>
    cases w.it with
    | cons h _ => cases h with | dK h l r => exact .dK h l r
  | dT ks ds =>
    cases w.it with
    | cons h _ => cases h with | dT h l r => exact .dT h l r
  | dtup ms => cases f
  | deep ms => cases f
theorem M.flat_flat (m : M) : m.flat.flat = m.flat := by cases m <;> rfl
theorem takeR_flat {r : R} {ρ ρ' : Env} {m : M} {bk : List (Nat × M)} (h : takeR r ρ = some (m, bk, ρ')) : m.flat = m := by
  cases r with
  | tmp m0 => cases h; exact M.flat_flat _
  | slt i =>
    unfold takeR at h
    cases q : ρ[i]? with
    | none => simp only [q] at h; cases h
    | some o =>
      cases o with
      | none => simp only [q] at h; cases h
      | some m0 =>
        simp only [q] at h
        cases h
        exact M.flat_flat _
theorem sem_listI {K : PySem.W.Frag} {tl : TE} {f : EF} (h : SemE tl f) : SemI (iList K tl) (listI f) := ⟨fun C σ ρ ps H ds bk ρ1 q w R k => by
  unfold listI at q
  split at q
  · cases q
  rename_i r ρ2 e1
  split at q
  · rename_i m bk' ρ3 e2
    split at q
    · rename_i ds' e3
      cases q
      refine h.run C σ ρ ps H r ρ2 e1 w _ fun x H1 w1 => ?_
      obtain ⟨B, w2, vv, bb⟩ := take_ok w1 e2
      rw [e3] at vv
      obtain ⟨p, vs, rfl, hp, rr⟩ := vv.lst_ w2.bh
      have fl := takeR_flat e2
      have see : ∀ {σ : L2.St} {ρ : Env} {ps : Pend} {H : Hp}, W C σ ρ (tp [(V.ref p, m)] ++ ps) H → ∃ B vs, WB C B σ ρ (tp [(V.ref p, m)] ++ ps) H ∧ H p = some (.lst vs) ∧ Reps B vs ds := by
        intro σ ρ ps H w
        obtain ⟨B, w⟩ := w
        obtain ⟨fp, z⟩ := WB.tmp (v := V.ref p) (m := m) (ps := ps) w
        have v2 := z.view fl
        rw [e3] at v2
        obtain ⟨p', vs', e, hp', rr'⟩ := v2.lst_ w.bh
        cases e
        exact ⟨B, vs', w, hp', rr'⟩
      refine ⟨p, rfl, ⟨vs, SqL.of hp⟩, k _ H1 [(.ref p, m)] ⟨fun i σ ρ ps H w d hd => ?_, fun i σ ρ ps H w hl => ?_⟩ bb ⟨B, w2⟩⟩
      · obtain ⟨B, vs, w, hp, rr⟩ := see w
        obtain ⟨v, h1, h2⟩ := rr.get hd
        refine ⟨⟨vs, v, SqL.of hp, h1⟩, fun x H' y => ?_⟩
        obtain ⟨rfl, y⟩ := y
        have e := y vs (SqL.of hp)
        rw [h1] at e
        cases e
        exact ⟨B, w.imm h2⟩
      · obtain ⟨B, vs, w, hp, rr⟩ := see w
        exact ⟨vs, SqL.of hp, by rw [rr.length]; exact hl⟩
    · cases q
  · cases q⟩
theorem sem_tupI {K : PySem.W.Frag} {tl : TE} {f : EF} (h : SemE tl f) : SemI (iTup K tl) (tupI f) := ⟨fun C σ ρ ps H ds bk ρ1 q w R k => by
  unfold tupI at q
  split at q
  · cases q
  rename_i r ρ2 e1
  split at q
  · rename_i m bk' ρ3 e2
    split at q
    · rename_i ds' e3
      cases q
      refine h.run C σ ρ ps H r ρ2 e1 w _ fun x H1 w1 => ?_
      obtain ⟨B, w2, vv, bb⟩ := take_ok w1 e2
      rw [e3] at vv
      obtain ⟨p, vs, rfl, hp, rr⟩ := vv.tup_
      have fl := takeR_flat e2
      have see : ∀ {σ : L2.St} {ρ : Env} {ps : Pend} {H : Hp}, W C σ ρ (tp [(V.ref p, m)] ++ ps) H → ∃ B vs, WB C B σ ρ (tp [(V.ref p, m)] ++ ps) H ∧ H p = some (.tup vs) ∧ Reps B vs ds := by
        intro σ ρ ps H w
        obtain ⟨B, w⟩ := w
        obtain ⟨fp, z⟩ := WB.tmp (v := V.ref p) (m := m) (ps := ps) w
        have v2 := z.view fl
        rw [e3] at v2
        obtain ⟨p', vs', e, hp', rr'⟩ := v2.tup_
        cases e
        exact ⟨B, vs', w, w.bh _ _ hp', rr'⟩
      refine ⟨p, rfl, ⟨vs, SqT.of (w2.bh _ _ hp)⟩, k _ H1 [(.ref p, m)] ⟨fun i σ ρ ps H w d hd => ?_, fun i σ ρ ps H w hl => ?_⟩ bb ⟨B, w2⟩⟩
      · obtain ⟨B, vs, w, hp, rr⟩ := see w
        obtain ⟨v, h1, h2⟩ := rr.get hd
        refine ⟨⟨vs, v, SqT.of hp, h1⟩, fun x H' y => ?_⟩
        obtain ⟨rfl, y⟩ := y
        have e := y vs (SqT.of hp)
        rw [h1] at e
        cases e
        exact ⟨B, w.imm h2⟩
      · obtain ⟨B, vs, w, hp, rr⟩ := see w
        exact ⟨vs, SqT.of hp, by rw [rr.length]; exact hl⟩
    · cases q
  · cases q⟩
/-! ranges -/
noncomputable def rngD (lo : Int) (n : Nat) : List D := (List.range n).map fun i => .int (lo + (i : Nat))
theorem rng_at {lo : Int} {n i : Nat} {d : D} (h : (rngD lo n)[i]? = some d) : i < n ∧ d = .int (lo + (i : Nat)) := by
  unfold rngD at h
  rw [List.getElem?_map] at h
  rcases Nat.lt_or_ge i n with hl | hl
  · rw [List.getElem?_range hl] at h
    exact ⟨hl, (Option.some.inj h).symm⟩
  · rw [List.getElem?_eq_none_iff.mpr (by rw [List.length_range]; exact hl)] at h
    cases h
theorem walk_rng {C : Cz} {lo : Int} {n : Nat} : Walk (Itr lo n) C [] (rngD lo n) := ⟨fun i σ ρ ps H w d hd => by
  obtain ⟨hl, rfl⟩ := rng_at hd
  refine ⟨hl, fun x H' y => ?_⟩
  obtain ⟨rfl, rfl⟩ := y
  exact w.scal fun _ => .int _, fun i σ ρ ps H w hl => by
  unfold rngD at hl
  rw [List.length_map, List.length_range] at hl
  exact hl⟩
theorem back_nil {C : Cz} {σ : L2.St} : Back C [] [] σ := fun σ' ρ' ps H' _ w => w
noncomputable def rngOk (i : Int) : Bool := sealB (-(2 ^ 62) ≤ i ∧ i < 2 ^ 62)
/-- the ints of what was looked at -/
noncomputable def rng1I (g : AF) : IF := fun ρ => match g ρ with
  | some (rs, ρ1) => match vws rs ρ1 with
    | some ([.int j], ρ2) => if rngOk j then some (rngD 0 j.toNat, [], ρ2) else none
    | _ => none
  | none => none
noncomputable def rng2I (g : AF) : IF := fun ρ => match g ρ with
  | some (rs, ρ1) => match vws rs ρ1 with
    | some ([.int i, .int j], ρ2) => if rngOk i && rngOk j then some (rngD i (j - i).toNat, [], ρ2) else none
    | _ => none
  | none => none
theorem sem_rng1I {tl : TA} {g : AF} (h : SemL tl g) : SemI (iRng1 tl) (rng1I g) := ⟨fun C σ ρ ps H ds bk ρ1 q w R k => by
  unfold rng1I at q
  split at q
  · rename_i rs ρ2 e1
    split at q
    · rename_i j ρ3 e2
      split at q
      · rename_i e3
        cases q
        refine h.run C σ ρ ps H rs ρ2 e1 w _ fun vs H1 l w1 => ?_
        obtain ⟨B, w1⟩ := w1
        obtain ⟨B', _, w2, vv⟩ := w1.vws l e2
        cases vv with
        | cons v1 r =>
          cases r
          rw [v1.int]
          have b := sealB_is e3
          exact ⟨j, rfl, b.1, b.2, k _ H1 [] walk_rng back_nil ⟨B', w2⟩⟩
      · cases q
    · cases q
  · cases q⟩
theorem sem_rng2I {tl : TA} {g : AF} (h : SemL tl g) : SemI (iRng2 tl) (rng2I g) := ⟨fun C σ ρ ps H ds bk ρ1 q w R k => by
  unfold rng2I at q
  split at q
  · rename_i rs ρ2 e1
    split at q
    · rename_i i j ρ3 e2
      split at q
      · rename_i e3
        cases q
        refine h.run C σ ρ ps H rs ρ2 e1 w _ fun vs H1 l w1 => ?_
        obtain ⟨B, w1⟩ := w1
        obtain ⟨B', _, w2, vv⟩ := w1.vws l e2
        rw [Bool.and_eq_true] at e3
        cases vv with
        | cons v1 r =>
          cases r with
          | cons v2 r =>
            cases r
            rw [v1.int, v2.int]
            have b1 := sealB_is e3.1
            have b2 := sealB_is e3.2
            exact ⟨i, j, rfl, ⟨b1.1, b1.2, b2.1, b2.2⟩, k _ H1 [] walk_rng back_nil ⟨B', w2⟩⟩
      · cases q
    · cases q
  · cases q⟩
/-! a text's signs -/
noncomputable def strI (f : EF) : IF := fun ρ => match f ρ with
  | some (.tmp (.imm (.str s)), ρ1) => some (s.cps.toList.map fun c => .str ⟨#[c]⟩, [], ρ1)
  | _ => none
theorem sem_strI {tl : TE} {f : EF} (h : SemE tl f) : SemI (iStr tl) (strI f) := ⟨fun C σ ρ ps H ds bk ρ1 q w R k => by
  unfold strI at q
  split at q
  · rename_i s ρ2 e1
    cases q
    refine h.run C σ ρ ps H _ _ e1 w _ fun x H1 w1 => ?_
    obtain ⟨B, w1⟩ := w1
    have r := w1.imm_rep
    cases r
    refine ⟨s, rfl, k _ H1 [] ⟨fun i σ ρ ps H w d hd => ?_, fun i σ ρ ps H w hl => ?_⟩ back_nil ⟨B, w1.drop⟩⟩
    · rw [List.getElem?_map] at hd
      cases e : s.cps.toList[i]? with
      | none => rw [e] at hd; cases hd
      | some c =>
        rw [e] at hd
        cases hd
        have hi : i < s.cps.size := by
          have := (List.getElem?_eq_some_iff.mp e).1
          simpa using this
        refine ⟨hi, fun x H' y => ?_⟩
        obtain ⟨rfl, c', hc, rfl⟩ := y
        rw [Array.getElem?_toList] at e
        rw [e] at hc
        cases hc
        exact w.scal fun _ => .str _
    · rw [List.length_map, Array.length_toList] at hl
      exact hl
  · cases q⟩
/-! enumerate -/
noncomputable def enumD (ds : List D) : List D := ds.zipIdx.map fun p => .tup [.int (p.2 : Nat), p.1]
noncomputable def enumI (g : AF) : IF := fun ρ => match g ρ with
  | some ([r], ρ1) => match takeR r ρ1 with
    | some (m, bk, ρ2) => match m.toD with
      | .lst ds => some (enumD ds, bk, ρ2)
      | _ => none
    | none => none
  | _ => none
theorem sem_enumI {K : PySem.W.Frag} {tl : TA} {g : AF} (h : SemL tl g) : SemI (iEnum K tl) (enumI g) := ⟨fun C σ ρ ps H ds bk ρ1 q w R k => by
  unfold enumI at q
  split at q
  · rename_i r ρ2 e1
    split at q
    · rename_i m bk' ρ3 e2
      split at q
      · rename_i ds' e3
        cases q
        refine h.run C σ ρ ps H _ ρ2 e1 w _ fun xs H1 l w1 => ?_
        match xs, l with
        | [x], _ =>
          have w1' : W C σ ρ2 ((x, r) :: ps) H1 := w1
          obtain ⟨B, w2, vv, bb⟩ := take_ok w1' e2
          rw [e3] at vv
          obtain ⟨p, vs, rfl, hp, rr⟩ := vv.lst_ w2.bh
          have fl := takeR_flat e2
          have see : ∀ {σ : L2.St} {ρ : Env} {ps : Pend} {H : Hp}, W C σ ρ (tp [(V.ref p, m)] ++ ps) H → ∃ B vs, WB C B σ ρ (tp [(V.ref p, m)] ++ ps) H ∧ H p = some (.lst vs) ∧ Reps B vs ds' := by
            intro σ ρ ps H w
            obtain ⟨B, w⟩ := w
            obtain ⟨fp, z⟩ := WB.tmp (v := V.ref p) (m := m) (ps := ps) w
            have v2 := z.view fl
            rw [e3] at v2
            obtain ⟨p', vs', e, hp', rr'⟩ := v2.lst_ w.bh
            cases e
            exact ⟨B, vs', w, hp', rr'⟩
          refine ⟨p, vs, rfl, SqL.of hp, k _ H1 [(.ref p, m)] ⟨fun i σ ρ ps H w d hd => ?_, fun i σ ρ ps H w hl => ?_⟩ bb ⟨B, w2⟩⟩
          · obtain ⟨B, vs, w, hp, rr⟩ := see w
            unfold enumD at hd
            rw [List.getElem?_map, List.getElem?_zipIdx] at hd
            cases e : ds'[i]? with
            | none => rw [e] at hd; cases hd
            | some d0 =>
              rw [e] at hd
              simp only [Option.map_some, Nat.zero_add, Option.some.injEq] at hd
              subst hd
              obtain ⟨v, h1, h2⟩ := rr.get e
              refine ⟨⟨vs, v, SqL.of hp, h1⟩, fun x H' y => ?_⟩
              obtain ⟨T, x0, rfl, nT, rfl, y⟩ := y
              have e := y vs (SqL.of hp)
              rw [h1] at e
              cases e
              obtain ⟨fp, z⟩ := w.wd
              obtain ⟨B2, _, z2⟩ := z.new_tup nT (.cons (.int i) (.cons h2 .nil))
              exact ⟨B2, .of_tmp w.cov w.ref z2⟩
          · obtain ⟨B, vs, w, hp, rr⟩ := see w
            unfold enumD at hl
            rw [List.length_map, List.length_zipIdx] at hl
            exact ⟨vs, SqL.of hp, by rw [rr.length]; exact hl⟩
      · cases q
    · cases q
  · cases q⟩
/-! zip of two lists -/
noncomputable def zipI (g : AF) : IF := fun ρ => match g ρ with
  | some ([r1, r2], ρ1) => match takeR r1 ρ1 with
    | some (m1, bk1, ρ2) => match takeR r2 ρ2 with
      | some (m2, bk2, ρ3) => match m1.toD, m2.toD with
        | .lst ds, .lst es => some ((ds.zip es).map fun p => .tup [p.1, p.2], bk1 ++ bk2, ρ3)
        | _, _ => none
      | none => none
    | none => none
  | _ => none
theorem backF_app (a b : List (Nat × M)) (ρ : Env) : backF (a ++ b) ρ = backF a (backF b ρ) := by
  induction a with
  | nil => rfl
  | cons x a ih =>
    obtain ⟨i, m⟩ := x
    show (backF (a ++ b) ρ).set i (some m) = (backF a (backF b ρ)).set i (some m)
    rw [ih]
theorem sem_zipI {K : PySem.W.Frag} {tl : TA} {g : AF} (h : SemL tl g) : SemI (iZip K tl) (zipI g) := ⟨fun C σ ρ ps H ds bk ρ1 q w R k => by
  unfold zipI at q
  split at q
  · rename_i r1 r2 ρ2 e1
    split at q
    · rename_i m1 bk1 ρ3 e2
      split at q
      · rename_i m2 bk2 ρ4 e3
        split at q
        · rename_i ds1 ds2 q1 q2
          cases q
          refine h.run C σ ρ ps H _ ρ2 e1 w _ fun xs H1 l w1 => ?_
          match xs, l with
          | [x, y], _ =>
            have w1' : W C σ ρ2 ((x, r1) :: (y, r2) :: ps) H1 := w1
            obtain ⟨B, w2, vv, bb⟩ := take_ok w1' e2
            have w2' : W C σ ρ3 ((y, r2) :: (tp [(x, m1)] ++ ps)) H1 := (show W C σ ρ3 ((x, .tmp m1) :: (y, r2) :: ps) H1 from ⟨B, w2⟩).permP (List.Perm.swap _ _ _)
            obtain ⟨B2, w3, vv2, bb2⟩ := take_ok w2' e3
            rw [q2] at vv2
            obtain ⟨p2, vs2, rfl, hp2, rr2⟩ := vv2.lst_ w3.bh
            have fl1 := takeR_flat e2
            have fl2 := takeR_flat e3
            have w4 : WB C B2 σ ρ1 (tp [(x, m1), (V.ref p2, m2)] ++ ps) H1 := w3.permP (List.Perm.swap _ _ _)
            have v1 : View B2 H1 x (.lst ds1) := by
              obtain ⟨fp, z⟩ := WB.tmp (v := x) (m := m1) w4
              have v := z.view fl1
              rw [q1] at v
              exact v
            obtain ⟨p1, vs1, rfl, hp1, rr1⟩ := v1.lst_ w4.bh
            have see : ∀ {σ : L2.St} {ρ : Env} {ps : Pend} {H : Hp}, W C σ ρ (tp [(V.ref p1, m1), (V.ref p2, m2)] ++ ps) H → ∃ B vs ws, WB C B σ ρ (tp [(V.ref p1, m1), (V.ref p2, m2)] ++ ps) H ∧ H p1 = some (.lst vs) ∧ Reps B vs ds1 ∧ H p2 = some (.lst ws) ∧ Reps B ws ds2 := by
              intro σ ρ ps H w
              obtain ⟨B, w⟩ := w
              obtain ⟨fp, z⟩ := WB.tmp (v := V.ref p1) (m := m1) w
              have v2 := z.view fl1
              rw [q1] at v2
              obtain ⟨p', vs', e, hp', rr'⟩ := v2.lst_ w.bh
              cases e
              have w' : WB C B σ ρ ((V.ref p2, .tmp m2) :: (V.ref p1, .tmp m1) :: ps) H := w.permP (List.Perm.swap _ _ _)
              obtain ⟨fp2, z2⟩ := w'.tmp
              have v3 := z2.view fl2
              rw [q2] at v3
              obtain ⟨p'', vs'', e, hp'', rr''⟩ := v3.lst_ w.bh
              cases e
              exact ⟨B, vs', vs'', w, hp', rr', hp'', rr''⟩
            refine ⟨p1, p2, vs1, vs2, rfl, SqL.of hp1, SqL.of hp2, k _ H1 [(.ref p1, m1), (.ref p2, m2)] ⟨fun i σ ρ ps H w d hd => ?_, fun i σ ρ ps H w hl => ?_⟩ ?_ ⟨B2, w4⟩⟩
            · obtain ⟨B, vs, ws, w, hp1, rr1, hp2, rr2⟩ := see w
              rw [List.getElem?_map] at hd
              cases e : (ds1.zip ds2)[i]? with
              | none => rw [e] at hd; cases hd
              | some z =>
                rw [e] at hd
                cases hd
                obtain ⟨h1, h2⟩ := List.getElem?_zip_eq_some.mp e
                obtain ⟨v, h3, h4⟩ := rr1.get h1
                obtain ⟨u, h5, h6⟩ := rr2.get h2
                refine ⟨⟨vs, ws, v, u, SqL.of hp1, SqL.of hp2, h3, h5⟩, fun x H' y => ?_⟩
                obtain ⟨T, x0, y0, rfl, nT, rfl, y1, y2⟩ := y
                have e1 := y1 vs (SqL.of hp1)
                have e2 := y2 ws (SqL.of hp2)
                rw [h3] at e1
                rw [h5] at e2
                cases e1
                cases e2
                obtain ⟨fp, z⟩ := w.wd
                obtain ⟨B2, _, z2⟩ := z.new_tup nT (.cons h4 (.cons h6 .nil))
                exact ⟨B2, .of_tmp w.cov w.ref z2⟩
            · obtain ⟨B, vs, ws, w, hp1, rr1, hp2, rr2⟩ := see w
              refine ⟨vs, ws, SqL.of hp1, SqL.of hp2, ?_⟩
              rw [List.length_map, List.length_zip] at hl
              rw [rr1.length, rr2.length]
              omega
            · intro σ' ρ' ps' H' hs w'
              rw [backF_app]
              have w5 : W C σ' ρ' (tp [(V.ref p2, m2)] ++ (tp [(V.ref p1, m1)] ++ ps')) H' := w'.permP (List.Perm.swap _ _ _)
              exact bb σ' _ ps' H' (fun i m hm => hs i m (List.mem_append_left _ hm)) (bb2 σ' ρ' _ H' (fun i m hm => hs i m (List.mem_append_right _ hm)) w5)
        · cases q
      · cases q
    · cases q
  · cases q⟩
section
variable {X : Cx} {tg e : Expr} {es : List Expr} {te : TE} {tl : TA} {f : EF} {g : AF} {pos p : Pos}
theorem di_list (h : DE X e te f) : DI X tg e (iList X.K te) (listI f) := ⟨pi_list h.pe, sem_listI h.sem⟩
theorem di_tup (h : DE X e te f) : DI X tg e (iTup X.K te) (tupI f) := ⟨pi_tup h.pe, sem_tupI h.sem⟩
theorem di_str (h : DE X e te f) : DI X tg e (iStr te) (strI f) := ⟨pi_str h.pe, sem_strI h.sem⟩
theorem di_rng1 {a : Expr} (hm : X.mg "range" = none) (h : DL X [a] tl g) (hg : Gl X "range" := by rfl) (hs : starEach [a] X.env = [(false, eval a X.env)] := by rfl) : DI X tg (.Call (.Name "range" p) [a] [] pos) (iRng1 tl) (rng1I g) := ⟨pi_range1 hg hm h.pa hs, sem_rng1I h.sem⟩
theorem di_rng2 {a b : Expr} (hm : X.mg "range" = none) (h : DL X [a, b] tl g) (hg : Gl X "range" := by rfl) (P : PA X [a, b] tl → PI X tg (.Call (.Name "range" p) [a, b] [] pos) (iRng2 tl) := by exact fun h => pi_range2 (by rfl) (by assumption) h) : DI X tg (.Call (.Name "range" p) [a, b] [] pos) (iRng2 tl) (rng2I g) := ⟨P h.pa, sem_rng2I h.sem⟩
end
/-! ### for -/
noncomputable def loopF (G : GF) (F : SF) : List D → SF
  | [], ρ => some (ρ, .nx)
  | d :: ds, ρ => match G (.imm d) ρ with
    | none => none
    | some ρ1 => match F ρ1 with
      | none => none
      | some (ρ2, .nx) => loopF G F ds ρ2
      | some (ρ2, .ct) => loopF G F ds ρ2
      | some (ρ2, .bk) => some (ρ2, .nx)
      | some (ρ2, .ret m) => some (ρ2, .ret m)
noncomputable def forF (it : IF) (G : GF) (F : SF) (S : List Nat) : SF := fun ρ => match it ρ with
  | none => none
  | some (ds, bk, ρ1) => if bk.all (fun p => decide (p.1 ∉ S)) then match loopF G F ds ρ1 with
    | none => none
    | some (ρ2, .nx) => some (backF bk ρ2, .nx)
    | some (ρ2, c) => some (ρ2, c)
    else none
theorem tp_app (a b : List Item) : tp (a ++ b) = tp a ++ tp b := List.map_append
theorem loop_ctl {G : GF} {F : SF} : ∀ {ds : List D} {ρ ρ' : Env} {c : Ctl}, loopF G F ds ρ = some (ρ', c) → c = .nx ∨ ∃ m, c = .ret m
  | [], _, _, _, h => by cases h; exact .inl rfl
  | d :: ds, ρ, ρ', c, h => by
    simp only [loopF] at h
    split at h
    · cases h
    · split at h
      · cases h
      · exact loop_ctl h
      · exact loop_ctl h
      · cases h; exact .inl rfl
      · cases h; exact .inr ⟨_, rfl⟩
theorem sem_for {wi : TI} {g : TG} {tb : TS} {it : IF} {G : GF} {F : SF} {Sg Sb : List Nat} (hi : SemI wi it) (hg : SemG g G Sg) (hb : SemS tb F Sb) : SemS (tFor wi g tb) (forF it G F (Sg ++ Sb)) (Sg ++ Sb) := ⟨fun C σ ρ qs H ρ' c h w D k => by
  unfold forF at h
  split at h
  · cases h
  rename_i ds bk ρ1 e1
  split at h
  case isFalse => cases h
  rename_i e2
  refine hi.run C σ ρ _ H ds bk ρ1 e1 w _ fun J H1 js wk bb w1 => ?_
  have hbk : ∀ i m, (i, m) ∈ bk → i ∉ Sg ++ Sb := fun i m hm => of_decide_eq_true (List.all_eq_true.mp e2 _ hm)
  cases e3 : loopF G F ds ρ1 with
  | none => rw [e3] at h; cases h
  | some out =>
    obtain ⟨ρo, co⟩ := out
    rw [e3] at h
    refine ⟨fun i m σ' H' => m = ds.length - i ∧ i ≤ ds.length ∧ Agree (Sg ++ Sb) σ σ' ∧ ∃ ρi, W C σ' ρi (tp js ++ tp qs) H' ∧ loopF G F (ds.drop i) ρi = some (ρo, co), ⟨_, rfl, Nat.zero_le _, .refl _ _, ρ1, w1, e3⟩, ?_⟩
    rintro i m σ1 H2 ⟨rfl, hi', ag, ρi, wi', ei⟩
    by_cases hl : i < ds.length
    · have ed : ds.drop i = ds[i] :: ds.drop (i + 1) := List.drop_eq_getElem_cons hl
      rw [ed] at ei
      simp only [loopF] at ei
      split at ei
      · cases ei
      rename_i ρ2 e4
      obtain ⟨hgo, hy⟩ := wk.step i σ1 ρi (tp qs) H2 wi' ds[i] (List.getElem?_eq_getElem hl)
      refine .inr ⟨hgo, fun σ' H' => i + 1 ≤ ds.length ∧ Agree (Sg ++ Sb) σ σ' ∧ ∃ ρi, W C σ' ρi (tp js ++ tp qs) H' ∧ loopF G F (ds.drop (i + 1)) ρi = some (ρo, co), fun σ' H' ⟨h1, h2, h3⟩ => ⟨ds.length - (i + 1), by omega, rfl, h1, h2, h3⟩, fun x H' y => ?_⟩
      have w2 := hy x H' y
      rw [← List.map_append] at w2
      refine hg.run C σ1 ρi (js ++ qs) H' x _ ρ2 e4 w2 _ fun σ2 H3 a2 w3 => ?_
      have ag2 : ∀ σ3, Agree Sb σ2 σ3 → Agree (Sg ++ Sb) σ σ3 := fun σ3 a3 => by
        have a := ag.trans (a2.trans a3)
        refine a.mono fun i hi => ?_
        rcases List.mem_append.mp hi with hi | hi
        · exact hi
        · exact hi
      cases e5 : F ρ2 with
      | none => rw [e5] at ei; cases ei
      | some out2 =>
        obtain ⟨ρ3, c3⟩ := out2
        rw [e5] at ei
        refine hb.run C σ2 ρ2 (js ++ qs) H3 ρ3 c3 e5 w3 _ fun σ3 H4 a3 => ?_
        cases c3 with
        | nx =>
          intro w4
          rw [tp_app] at w4
          exact ⟨hl, ag2 σ3 a3, ρ3, w4, ei⟩
        | ct =>
          intro w4
          rw [tp_app] at w4
          exact ⟨hl, ag2 σ3 a3, ρ3, w4, ei⟩
        | bk =>
          intro w4
          rw [tp_app] at w4
          cases ei
          cases h
          exact k σ3 H4 (ag2 σ3 a3) (bb σ3 _ _ H4 (fun i m hm => (ag2 σ3 a3).at_ i (hbk i m hm)) w4)
        | ret m3 =>
          intro v w4
          rw [tp_app] at w4
          cases ei
          cases h
          exact k σ3 H4 (ag2 σ3 a3) v (by
            have w5 : W C σ3 _ (tp js ++ ((v, .tmp m3) :: tp qs)) H4 := w4.permP List.perm_middle.symm
            exact w5.dropL)
    · have ed : ds.drop i = [] := List.drop_eq_nil_of_le (by omega)
      rw [ed] at ei
      cases ei
      cases h
      refine .inl ⟨wk.stop i σ1 _ (tp qs) H2 wi' (by omega), ?_⟩
      exact k σ1 H2 ag (bb σ1 _ _ H2 (fun i m hm => ag.at_ i (hbk i m hm)) wi')⟩
theorem ds_for {X : Cx} {tg iter : Expr} {body : List Stmt} {wi : TI} {g : TG} {tb : TS} {it : IF} {G : GF} {F : SF} {Sg Sb : List Nat} {pos : Pos} (hp : PassesOwn (model X.prog X.w) X.A X.env X.xe) (hi : DI X tg iter wi it) (hg : DG X tg g G Sg) (hb : DSs X body tb F Sb)
    (hc : X.calm = true := by rfl) (P : PassesOwn (model X.prog X.w) X.A X.env X.xe → X.calm = true → PI X tg iter wi → PG X tg g → PSs X body tb → PS X (.For tg iter body [] pos) (tFor wi g tb) := by exact fun hp hc hi hg hb => ps_for hp hc hi hg hb) :
    DS X (.For tg iter body [] pos) (tFor wi g tb) (forF it G F (Sg ++ Sb)) (Sg ++ Sb) := ⟨P hp hc hi.pi hg.pg hb.pss, sem_for hi.sem hg.sem hb.sem⟩
/-! ### while -/
noncomputable def whN (p : TF) (F : SF) : Nat → SF
  | 0, _ => none
  | n + 1, ρ => match p ρ with
    | none => none
    | some (false, ρ1) => some (ρ1, .nx)
    | some (true, ρ1) => match F ρ1 with
      | none => none
      | some (ρ2, .nx) => whN p F n ρ2
      | some (ρ2, .ct) => whN p F n ρ2
      | some (ρ2, .bk) => some (ρ2, .nx)
      | some (ρ2, .ret m) => some (ρ2, .ret m)
theorem whN_mono {p : TF} {F : SF} : ∀ {n : Nat} {ρ : Env} {o : Env × Ctl}, whN p F n ρ = some o → whN p F (n + 1) ρ = some o
  | 0, _, _, h => by cases h
  | n + 1, ρ, o, h => by
    rw [whN] at h ⊢
    split at h
    · cases h
    · exact h
    · split at h
      · cases h
      · exact whN_mono h
      · exact whN_mono h
      · exact h
      · exact h
theorem whN_le {p : TF} {F : SF} {n m : Nat} {ρ : Env} {o : Env × Ctl} (h : whN p F n ρ = some o) (l : n ≤ m) : whN p F m ρ = some o := by
  induction l with
  | refl => exact h
  | step _ ih => exact whN_mono ih
open Classical in
noncomputable def whF (p : TF) (F : SF) : SF := fun ρ => if h : ∃ n o, whN p F n ρ = some o then some (Classical.choose (Classical.choose_spec h)) else none
theorem whF_of {p : TF} {F : SF} {n : Nat} {ρ : Env} {o : Env × Ctl} (h : whN p F n ρ = some o) : whF p F ρ = some o := by
  have hx : ∃ n o, whN p F n ρ = some o := ⟨n, o, h⟩
  unfold whF
  rw [dif_pos hx]
  have q := Classical.choose_spec (Classical.choose_spec hx)
  have q1 := whN_le q (Nat.le_max_left _ n)
  have q2 := whN_le h (Nat.le_max_right (Classical.choose hx) _)
  rw [q2] at q1
  exact q1.symm
theorem whF_run {p : TF} {F : SF} {ρ : Env} {o : Env × Ctl} (h : whF p F ρ = some o) : ∃ n, whN p F n ρ = some o := by
  unfold whF at h
  split at h
  · rename_i hx
    cases h
    exact ⟨_, Classical.choose_spec (Classical.choose_spec hx)⟩
  · cases h
/-- the end, a turn -/
theorem whF_stop {p : TF} {F : SF} {ρ ρ1 : Env} (h : p ρ = some (false, ρ1)) : whF p F ρ = some (ρ1, .nx) := whF_of (n := 1) (by rw [whN, h])
theorem whF_next {p : TF} {F : SF} {ρ ρ1 ρ2 : Env} {o : Env × Ctl} (h : p ρ = some (true, ρ1)) (h2 : F ρ1 = some (ρ2, .nx)) (h3 : whF p F ρ2 = some o) : whF p F ρ = some o := by
  obtain ⟨n, q⟩ := whF_run h3
  exact whF_of (n := n + 1) (by rw [whN, h]; simp only [h2]; exact q)
theorem whF_ret {p : TF} {F : SF} {ρ ρ1 ρ2 : Env} {m : M} (h : p ρ = some (true, ρ1)) (h2 : F ρ1 = some (ρ2, .ret m)) : whF p F ρ = some (ρ2, .ret m) := whF_of (n := 1) (by rw [whN, h]; simp only [h2])
theorem whN_ctl {p : TF} {F : SF} : ∀ {n : Nat} {ρ ρ' : Env} {c : Ctl}, whN p F n ρ = some (ρ', c) → c = .nx ∨ ∃ m, c = .ret m
  | 0, _, _, _, h => by cases h
  | n + 1, ρ, ρ', c, h => by
    rw [whN] at h
    split at h
    · cases h
    · cases h; exact .inl rfl
    · split at h
      · cases h
      · exact whN_ctl h
      · exact whN_ctl h
      · cases h; exact .inl rfl
      · cases h; exact .inr ⟨_, rfl⟩
theorem sem_while {c : TT} {tb : TS} {p : TF} {F : SF} {S : List Nat} (hc : SemT c p) (hb : SemS tb F S) : SemS (tWhile c tb) (whF p F) S := ⟨fun C σ ρ qs H ρ' co h w D k => by
  obtain ⟨n, q⟩ := whF_run h
  refine ⟨fun m σ' H' => Agree S σ σ' ∧ ∃ ρi, W C σ' ρi (tp qs) H' ∧ whN p F m ρi = some (ρ', co), ⟨n, .refl _ _, ρ, w, q⟩, ?_⟩
  rintro m σ1 H1 ⟨ag, ρi, wi, ei⟩
  cases m with
  | zero => cases ei
  | succ m =>
    rw [whN] at ei
    have ag2 : ∀ σ3, Agree S σ1 σ3 → Agree S σ σ3 := fun σ3 a3 => (ag.trans a3).mono fun i hi => by
      rcases List.mem_append.mp hi with hi | hi <;> exact hi
    split at ei
    · cases ei
    · rename_i ρ1 e1
      cases ei
      refine hc.run C σ1 ρi _ H1 _ _ e1 wi _ fun H2 w2 => ?_
      rw [if_neg Bool.false_ne_true]
      exact k σ1 H2 ag w2
    · rename_i ρ1 e1
      refine hc.run C σ1 ρi _ H1 _ _ e1 wi _ fun H2 w2 => ?_
      rw [if_pos rfl]
      refine ⟨fun σ' H' => Agree S σ σ' ∧ ∃ ρi, W C σ' ρi (tp qs) H' ∧ whN p F m ρi = some (ρ', co), fun σ' H' z => ⟨m, Nat.lt_succ_self _, z⟩, ?_⟩
      cases e5 : F ρ1 with
      | none => rw [e5] at ei; cases ei
      | some out2 =>
        obtain ⟨ρ3, c3⟩ := out2
        rw [e5] at ei
        refine hb.run C σ1 ρ1 qs H2 ρ3 c3 e5 w2 _ fun σ3 H4 a3 => ?_
        cases c3 with
        | nx => exact fun w4 => ⟨ag2 σ3 a3, ρ3, w4, ei⟩
        | ct => exact fun w4 => ⟨ag2 σ3 a3, ρ3, w4, ei⟩
        | bk =>
          intro w4
          cases ei
          exact k σ3 H4 (ag2 σ3 a3) w4
        | ret m3 =>
          intro v w4
          cases ei
          exact k σ3 H4 (ag2 σ3 a3) v w4⟩
theorem ds_while {X : Cx} {c : Expr} {body : List Stmt} {tc : TT} {tb : TS} {p : TF} {F : SF} {S : List Nat} {pos : Pos} (hp : PassesOwn (model X.prog X.w) X.A X.env X.xe) (hc : DT X c tc p) (hb : DSs X body tb F S) : DS X (.While c body [] pos) (tWhile tc tb) (whF p F) S :=
  ⟨ps_while hp hc.pt hb.pss, sem_while hc.sem hb.sem⟩
end FD
set_option Elab.async false
set_option linter.all false
set_option maxRecDepth 100000
/-! FD8: comprehensions, lists changed in place. -/
namespace FD
open PySem PySem.Spec PyProof.Rows L2
section
variable {C : Cz} {B H : Hp} {its : List Item} {fp : List Addr} {p : Addr} {v : V} {m : M} {d : D} {ds : List D} {ms : List M}
theorem Wld.swap {x y : Item} (w : Wld C B H (x :: y :: its) fp) : ∃ fp', Wld C B H (y :: x :: its) fp' := w.perm (List.Perm.swap _ _ _)
theorem Wld.at_lst (w : Wld C B H ((v, .lst ds) :: its) fp) : ∃ p vs, v = .ref p ∧ H p = some (.lst vs) ∧ Reps B vs ds := by
  cases w.it with
  | cons h _ => cases h with | lst h r => exact ⟨_, _, rfl, h, r⟩
theorem Wld.at_deep (w : Wld C B H ((v, .deep ms) :: its) fp) : ∃ p vs, v = .ref p ∧ H p = some (.lst vs) ∧ vs.length = ms.length := by
  cases w.it with
  | cons h _ => cases h with | deep h e1 e2 r => exact ⟨_, _, rfl, h, by subst e1 e2; rw [List.length_map, List.length_map]⟩
theorem Wld.push_lst (w : Wld C B H ((.ref p, .lst ds) :: (v, .imm d) :: its) fp) : ∃ vs, H p = some (.lst vs) ∧ vs.length = ds.length ∧ ∃ fp', Wld C B (upd H p (.lst (vs ++ [v]))) ((.ref p, .lst (ds ++ [d])) :: its) fp' := by
  obtain ⟨q, vs, e, hp, r⟩ := w.at_lst
  cases e
  obtain ⟨fp2, w2⟩ := w.swap
  obtain ⟨rd, w3⟩ := w2.imm_rep
  exact ⟨vs, hp, r.length, _, w3.set_lst (r.append (.cons rd .nil))⟩
theorem Wld.push_deep (w : Wld C B H ((.ref p, .deep ms) :: (v, m) :: its) fp) : ∃ vs, H p = some (.lst vs) ∧ vs.length = ms.length ∧ ∃ fp', Wld C B (upd H p (.lst (vs ++ [v]))) ((.ref p, .deep (ms ++ [m])) :: its) fp' := by
  cases w with
  | mk bh rh b0 br it nd fr =>
  cases it with
  | cons h rest =>
    cases h with
    | @deep _ vs _ its0 f hp e1 e2 r =>
      subst e1 e2
      cases rest with
      | @cons _ _ f2 _ g h2 rest =>
        refine ⟨_, hp, by rw [List.length_map, List.length_map], p :: ((f ++ f2) ++ g), ?_⟩
        have nd1 := List.nodup_cons.mp nd
        have hpf := fr p (by simp)
        have np : ∀ a, a ∈ f ++ (f2 ++ g) → a ≠ p := fun a ha e => nd1.1 (by rw [← e]; exact ha)
        refine ⟨fun a u e => ?_, fun a u e => ?_, b0, br, ?_, ?_, fun a ha => fr a (by simpa [List.append_assoc] using ha)⟩
        · rw [upd_ne (ne_of_none e hpf.1)]; exact bh a u e
        · rw [upd_ne (ne_of_none e hpf.2)]; exact rh a u e
        · refine .cons (f := p :: (f ++ f2)) (.deep (its := its0 ++ [(v, m)]) upd_same (by rw [List.map_append]; rfl) (by rw [List.map_append]; rfl) ?_) (rest.mono (.refl B) fun a ha u e => by rw [upd_ne (np a (by simp [ha]))]; exact e)
          have z : Its B (upd H p (.lst (its0.map (·.1) ++ [v]))) [(v, m)] (f2 ++ []) := .cons (h2.mono (.refl B) fun a ha u e => by rw [upd_ne (np a (by simp [ha]))]; exact e) .nil
          rw [List.append_nil] at z
          exact (r.mono (.refl B) fun a ha u e => by rw [upd_ne (np a (by simp [ha]))]; exact e).join z
        · rw [List.append_assoc]; exact nd
/-- a list of nothing but data is a list of data -/
theorem Wld.shallow (w : Wld C B H ((v, .deep (ds.map .imm)) :: its) fp) : ∃ fp', Wld C B H ((v, .lst ds) :: its) fp' := by
  cases w with
  | mk bh rh b0 br it nd fr =>
  cases it with
  | cons h rest =>
    cases h with
    | @deep p vs _ its0 f hp e1 e2 r =>
      have go : ∀ (its0 : List Item) (ds : List D) (f : List Addr), its0.map (·.2) = ds.map M.imm → Its B H its0 f → f = [] ∧ Reps B (its0.map (·.1)) ds := by
        intro its0
        induction its0 with
        | nil =>
          intro ds f e r
          cases ds with
          | nil => cases r; exact ⟨rfl, .nil⟩
          | cons _ _ => cases e
        | cons x xs ih =>
          intro ds f e r
          cases ds with
          | nil => cases e
          | cons d ds =>
            obtain ⟨v, m⟩ := x
            cases r with
            | cons h r =>
              simp only [List.map_cons, List.cons.injEq] at e
              obtain ⟨e1, e2⟩ := e
              have e1' : m = .imm d := e1
              subst e1'
              cases h with
              | imm h =>
                obtain ⟨e3, r'⟩ := ih ds _ e2 r
                subst e3
                exact ⟨rfl, .cons h r'⟩
      obtain ⟨e3, rr⟩ := go its0 ds f e2 r
      subst e3
      subst e1
      exact ⟨_, bh, rh, b0, br, .cons (.lst hp rr) rest, nd, fr⟩
end
/-! ### comprehensions -/
abbrev UF := R → Env → Option (M × Env)
noncomputable def fzM : UF := fun r ρ => match fz r ρ with
  | none => none
  | some (d, ρ') => some (.imm d, ρ')
theorem W.fzM {C : Cz} {H : Hp} {σ : L2.St} {ρ ρ' : Env} {ps : Pend} {v : V} {m : M} {r : R} (w : W C σ ρ ((v, r) :: ps) H) (h : FD.fzM r ρ = some (m, ρ')) : W C σ ρ' ((v, .tmp m) :: ps) H := by
  unfold FD.fzM at h
  split at h
  · cases h
  · rename_i d ρ1 e
    cases h
    exact w.fz e
noncomputable def cloop (use : UF) (vs : List Nat) (G : GF) (p : TF) (f : EF) : List D → Env → Option (List M × Env)
  | [], ρ => some ([], ρ)
  | d :: ds, ρ => match G (.imm d) ρ with
    | none => none
    | some ρ1 => match p ρ1 with
      | none => none
      | some (false, ρ2) => cloop use vs G p f ds (wipeF vs ρ2)
      | some (true, ρ2) => match f ρ2 with
        | none => none
        | some (r, ρ3) => match use r ρ3 with
          | none => none
          | some (m, ρ4) => match cloop use vs G p f ds (wipeF vs ρ4) with
            | none => none
            | some (ms, ρ5) => some (m :: ms, ρ5)
/-- .. of data -/
noncomputable def cloopD (vs : List Nat) (G : GF) (p : TF) (f : EF) : List D → Env → Option (List D × Env)
  | [], ρ => some ([], ρ)
  | d :: ds, ρ => match G (.imm d) ρ with
    | none => none
    | some ρ1 => match p ρ1 with
      | none => none
      | some (false, ρ2) => cloopD vs G p f ds (wipeF vs ρ2)
      | some (true, ρ2) => match f ρ2 with
        | none => none
        | some (r, ρ3) => match fz r ρ3 with
          | none => none
          | some (d', ρ4) => match cloopD vs G p f ds (wipeF vs ρ4) with
            | none => none
            | some (ms, ρ5) => some (d' :: ms, ρ5)
theorem cloopD_M {vs : List Nat} {G : GF} {p : TF} {f : EF} : ∀ {ds : List D} {ρ ρ' : Env} {es : List D}, cloopD vs G p f ds ρ = some (es, ρ') → cloop fzM vs G p f ds ρ = some (es.map .imm, ρ')
  | [], _, _, _, h => by cases h; rfl
  | d :: ds, ρ, ρ', es, h => by
    simp only [cloopD] at h
    split at h
    · cases h
    rename_i ρ1 e1
    split at h
    · cases h
    · rename_i ρ2 e2
      rw [cloop, e1]
      simp only [e2]
      exact cloopD_M h
    · rename_i ρ2 e2
      rw [cloop, e1]
      simp only [e2]
      split at h
      · cases h
      rename_i r ρ3 e3
      split at h
      · cases h
      rename_i d' ρ4 e4
      split at h
      · cases h
      rename_i ms ρ5 e5
      cases h
      simp only [e3, fzM, e4, cloopD_M e5]
      rfl
theorem cloop_len {use : UF} {vs : List Nat} {G : GF} {p : TF} {f : EF} : ∀ {ds : List D} {ρ ρ' : Env} {ms : List M}, cloop use vs G p f ds ρ = some (ms, ρ') → ms.length ≤ ds.length
  | [], _, _, _, h => by cases h; exact Nat.le_refl _
  | d :: ds, ρ, ρ', es, h => by
    simp only [cloop] at h
    split at h
    · cases h
    split at h
    · cases h
    · have := cloop_len h
      rw [List.length_cons]
      omega
    · split at h
      · cases h
      split at h
      · cases h
      split at h
      · cases h
      rename_i e5
      cases h
      have := cloop_len e5
      rw [List.length_cons, List.length_cons]
      omega
noncomputable def compM (use : UF) (vs : List Nat) (it : IF) (G : GF) (p : TF) (f : EF) : EF := fun ρ => match it ρ with
  | none => none
  | some (ds, bk, ρ1) => if smallL ds.length && bk.all (fun p => decide (p.1 ∉ vs)) then match cloop use vs G p f ds (wipeF vs ρ1) with
    | none => none
    | some (ms, ρ2) => some (.tmp (.deep ms), backF bk ρ2)
    else none
noncomputable def compD (vs : List Nat) (it : IF) (G : GF) (p : TF) (f : EF) : EF := fun ρ => match it ρ with
  | none => none
  | some (ds, bk, ρ1) => if smallL ds.length && bk.all (fun p => decide (p.1 ∉ vs)) then match cloopD vs G p f ds (wipeF vs ρ1) with
    | none => none
    | some (es, ρ2) => some (.tmp (.lst es), backF bk ρ2)
    else none
theorem wipe_get (σ : L2.St) (i : Nat) : ∀ vs : List Nat, (wipe σ vs)[i]? = if i ∈ vs then (if i < σ.length then some none else none) else σ[i]?
  | [] => by simp [wipe]
  | v :: vs => by
    have ih := wipe_get σ i vs
    unfold wipe
    by_cases e : v = i
    · subst e
      rw [if_pos (by simp)]
      by_cases hl : v < σ.length
      · rw [List.getElem?_set_self (by rw [wipe_length]; exact hl), if_pos hl]
      · rw [if_neg hl, List.getElem?_eq_none_iff.mpr (by rw [List.length_set, wipe_length]; omega)]
    · rw [List.getElem?_set_ne e, ih]
      have e' : ¬ i = v := fun h => e h.symm
      simp [e']
theorem wipe_agree {S vs : List Nat} {σ σ' : L2.St} (a : Agree S σ σ') (h : ∀ i ∈ S, i ∈ vs) : wipe σ' vs = wipe σ vs := by
  apply List.ext_getElem?
  intro i
  rw [wipe_get, wipe_get, a.len]
  split
  · rfl
  · exact a.at_ i fun q => (by assumption : ¬ i ∈ vs) (h i q)
theorem wipe_wipe (σ : L2.St) (vs : List Nat) : wipe (wipe σ vs) vs = wipe σ vs := by
  apply List.ext_getElem?
  intro i
  rw [wipe_get, wipe_length]
  split
  · rename_i h
    rw [wipe_get, if_pos h]
  · rfl
theorem wipe_Agree (σ : L2.St) (vs : List Nat) : Agree vs σ (wipe σ vs) := ⟨wipe_length σ vs, fun i h => by rw [wipe_get, if_neg h]⟩
theorem wipeF_get (ρ : Env) (i : Nat) : ∀ vs : List Nat, (wipeF vs ρ)[i]? = if i ∈ vs then (if i < ρ.length then some none else none) else ρ[i]?
  | [] => by simp [wipeF]
  | v :: vs => by
    have ih := wipeF_get ρ i vs
    have hl' : (wipeF vs ρ).length = ρ.length := by
      clear ih
      induction vs with
      | nil => rfl
      | cons v vs ih => unfold wipeF; rw [List.length_set]; exact ih
    unfold wipeF
    by_cases e : v = i
    · subst e
      rw [if_pos (by simp)]
      by_cases hl : v < ρ.length
      · rw [List.getElem?_set_self (by rw [hl']; exact hl), if_pos hl]
      · rw [if_neg hl, List.getElem?_eq_none_iff.mpr (by rw [List.length_set, hl']; omega)]
    · rw [List.getElem?_set_ne e, ih]
      have e' : ¬ i = v := fun h => e h.symm
      simp [e']
/-- slots' items hang on what the slots hold alone -/
theorem Sl_ext : ∀ {σ σ' : L2.St} {ρ : Env}, σ'.length = σ.length → (∀ (i : Nat) (m : M), ρ[i]? = some (some m) → σ'[i]? = σ[i]?) → Sl σ' ρ = Sl σ ρ
  | [], [], _, _, _ => rfl
  | [], _ :: _, _, l, _ => by cases l
  | _ :: _, [], _, l, _ => by cases l
  | x :: σ, y :: σ', [], _, _ => by simp [Sl]
  | x :: σ, y :: σ', m :: ρ, l, h => by
    have ih := Sl_ext (σ := σ) (σ' := σ') (ρ := ρ) (by simpa using l) fun i m' e => by
      have := h (i + 1) m' (by simpa using e)
      simpa using this
    cases m with
    | none => rw [Sl_none, Sl_none, ih]
    | some m =>
      have e : y = x := by
        have := h 0 m rfl
        simpa using this
      subst e
      cases y with
      | none => rw [Sl_none', Sl_none', ih]
      | some y => show (y, m) :: Sl σ' ρ = (y, m) :: Sl σ ρ; rw [ih]
theorem WB.slots {C : Cz} {B H : Hp} {σ σ' : L2.St} {ρ : Env} {qs : List Item} (w : WB C B σ ρ (tp qs) H) (l : σ'.length = σ.length) (h : ∀ (i : Nat) (m : M), ρ[i]? = some (some m) → σ'[i]? = σ[i]?) : WB C B σ' ρ (tp qs) H := by
  refine ⟨⟨l.trans w.cov.len, fun i m e => ?_⟩, fun v i h' => (tp_no h').elim, ?_⟩
  · obtain ⟨v, hv⟩ := w.cov.has i m e
    exact ⟨v, (h i m e).trans hv⟩
  · obtain ⟨fp, z⟩ := w.wd
    exact ⟨fp, by rw [Sl_ext l h]; exact z⟩
theorem WB.to_wipe {C : Cz} {B H : Hp} {σ : L2.St} {ρ : Env} {qs : List Item} (vs : List Nat) (w : WB C B σ (wipeF vs ρ) (tp qs) H) : WB C B (wipe σ vs) (wipeF vs ρ) (tp qs) H := w.slots (wipe_length σ vs) fun i m e => by
  rw [wipeF_get] at e
  rw [wipe_get]
  split at e
  · split at e <;> cases e
  · rename_i h
    rw [if_neg h]
theorem WB.of_wipe {C : Cz} {B H : Hp} {σ : L2.St} {ρ : Env} {qs : List Item} (vs : List Nat) (w : WB C B (wipe σ vs) (wipeF vs ρ) (tp qs) H) : WB C B σ (wipeF vs ρ) (tp qs) H := w.slots (wipe_length σ vs).symm fun i m e => by
  rw [wipeF_get] at e
  rw [wipe_get]
  split at e
  · split at e <;> cases e
  · rename_i h
    rw [if_neg h]
theorem W.strip {C : Cz} {σ : L2.St} {ρ : Env} {ps : Pend} {H : Hp} (w : W C σ ρ ps H) : W C σ ρ (tp (tmps ps)) H := by
  obtain ⟨B, w⟩ := w
  obtain ⟨fp, z⟩ := w.wd
  exact ⟨B, w.cov, fun v i h => (tp_no h).elim, fp, by rw [tmps_tp]; exact z⟩
theorem W.unstrip {C : Cz} {σ : L2.St} {ρ : Env} {ps : Pend} {H : Hp} {qs : List Item} (w : W C σ ρ (tp (qs ++ tmps ps)) H) (r : ∀ v i, (v, R.slt i) ∈ ps → σ[i]? = some (some v)) : W C σ ρ (tp qs ++ ps) H := by
  obtain ⟨B, w⟩ := w
  obtain ⟨fp, z⟩ := w.wd
  refine ⟨B, w.cov, fun v i h => ?_, fp, ?_⟩
  · rcases List.mem_append.mp h with h | h
    · exact (tp_no h).elim
    · exact r v i h
  · rw [tmps_tp] at z
    have e : tmps (tp qs ++ ps) = qs ++ tmps ps := by
      show List.filterMap tmpI (tp qs ++ ps) = _
      rw [List.filterMap_append]
      exact congrArg (· ++ tmps ps) (tmps_tp qs)
    rw [e]
    exact z
theorem sem_comp {use : UF} (hu : ∀ {C : Cz} {H : Hp} {σ : L2.St} {ρ ρ' : Env} {ps : Pend} {v : V} {m : M} {r : R}, W C σ ρ ((v, r) :: ps) H → use r ρ = some (m, ρ') → W C σ ρ' ((v, .tmp m) :: ps) H)
    {wi : TI} {g : TG} {tt : TT} {te : TE} {it : IF} {G : GF} {p : TF} {f : EF} {S vs : List Nat} (hi : SemI wi it) (hg : SemG g G S) (ht : SemT tt p) (he : SemE te f) (hS : ∀ i ∈ S, i ∈ vs) : SemE (tLc wi g tt te vs) (compM use vs it G p f) := ⟨fun C σ ρ ps H r ρ' h w Q k => by
  unfold compM at h
  split at h
  · cases h
  rename_i ds bk ρ1 e1
  split at h
  case isFalse => cases h
  rename_i e2
  rw [Bool.and_eq_true] at e2
  split at h
  · cases h
  rename_i ms ρ2 e3
  cases h
  have hr : ∀ v i, (v, R.slt i) ∈ ps → σ[i]? = some (some v) := w.choose_spec.ref
  refine hi.run C σ ρ _ H ds bk ρ1 e1 w _ fun J H1 js wk bb w1 D nD => ?_
  have hbk : ∀ i m, (i, m) ∈ bk → i ∉ vs := fun i m hm => of_decide_eq_true (List.all_eq_true.mp e2.2 _ hm)
  have hlen := cloop_len e3
  -- the world within
  have base : W C (wipe σ vs) (wipeF vs ρ1) (tp ((V.ref D, M.deep []) :: (js ++ tmps ps))) (upd H1 D (.lst [])) := by
    have w2 := (w1.strip).wipe vs
    have e : tmps (tp js ++ ps) = js ++ tmps ps := by
      show List.filterMap tmpI (tp js ++ ps) = _
      rw [List.filterMap_append]
      exact congrArg (· ++ tmps ps) (tmps_tp js)
    rw [e] at w2
    obtain ⟨B, w2⟩ := w2
    have w3 := w2.to_wipe vs
    obtain ⟨fp, z⟩ := w3.wd
    have z2 := Wld.new_deep (new := []) z nD
    exact ⟨B, .of_tmp w3.cov w3.ref z2⟩
  refine ⟨fun i m H' => m = ds.length - i ∧ i ≤ ds.length ∧ ∃ acc rest ρi, acc.length ≤ i ∧ acc ++ rest = ms ∧ W C (wipe σ vs) (wipeF vs ρi) (tp ((V.ref D, M.deep acc) :: (js ++ tmps ps))) H' ∧ cloop use vs G p f (ds.drop i) (wipeF vs ρi) = some (rest, ρ2), ⟨_, rfl, Nat.zero_le _, [], ms, ρ1, Nat.le_refl _, rfl, base, e3⟩, ?_⟩
  rintro i m H2 ⟨rfl, hi', acc, rest, ρi, hacc, ha, wi', ei⟩
  by_cases hl : i < ds.length
  · have ed : ds.drop i = ds[i] :: ds.drop (i + 1) := List.drop_eq_getElem_cons hl
    rw [ed] at ei
    simp only [cloop] at ei
    split at ei
    · cases ei
    rename_i ρ3 e4
    have wi2 : W C (wipe σ vs) (wipeF vs ρi) (tp js ++ tp ((V.ref D, M.deep acc) :: tmps ps)) H2 := by
      rw [← tp_app]
      exact wi'.permP ((List.perm_middle (l₁ := js) (l₂ := tmps ps) (a := (V.ref D, M.deep acc))).symm.map _)
    obtain ⟨hgo, hy⟩ := wk.step i _ _ _ H2 wi2 ds[i] (List.getElem?_eq_getElem hl)
    refine .inr ⟨hgo, fun H' => i + 1 ≤ ds.length ∧ ∃ acc rest ρi, acc.length ≤ i + 1 ∧ acc ++ rest = ms ∧ W C (wipe σ vs) (wipeF vs ρi) (tp ((V.ref D, M.deep acc) :: (js ++ tmps ps))) H' ∧ cloop use vs G p f (ds.drop (i + 1)) (wipeF vs ρi) = some (rest, ρ2),
      fun H' ⟨h1, h2⟩ => ⟨ds.length - (i + 1), by omega, rfl, h1, h2⟩, fun x H' y => ?_⟩
    have w2 := hy x H' y
    rw [← tp_app] at w2
    have w2' : W C (wipe σ vs) (wipeF vs ρi) ((x, .tmp (.imm ds[i])) :: tp ((V.ref D, M.deep acc) :: (js ++ tmps ps))) H' :=
      w2.permP (((List.perm_middle (l₁ := js) (l₂ := tmps ps) (a := (V.ref D, M.deep acc))).map _).cons _)
    refine hg.run C _ _ _ H' x _ ρ3 e4 w2' _ fun σ2 H3 a2 w3 => ?_
    have ew : wipe σ2 vs = wipe σ vs := by rw [wipe_agree a2 hS, wipe_wipe]
    refine ⟨ew, ?_⟩
    -- back to the wiped slots
    have back : ∀ {ρ : Env} {qs : List Item} {H : Hp}, W C σ2 ρ (tp qs) H → W C (wipe σ vs) (wipeF vs ρ) (tp qs) H := fun w => by
      obtain ⟨B, w⟩ := w.wipe vs
      have w' := w.to_wipe vs
      rw [ew] at w'
      exact ⟨B, w'⟩
    split at ei
    · cases ei
    · rename_i ρ4 e5
      refine ht.run C σ2 ρ3 _ H3 _ _ e5 w3 _ fun H4 w4 => ?_
      rw [if_neg Bool.false_ne_true]
      exact ⟨hl, acc, rest, ρ4, by omega, ha, back w4, ei⟩
    · rename_i ρ4 e5
      split at ei
      · cases ei
      rename_i r ρ5 e6
      split at ei
      · cases ei
      rename_i m ρ6 e7
      split at ei
      · cases ei
      rename_i ms' ρ7 e8
      cases ei
      refine ht.run C σ2 ρ3 _ H3 _ _ e5 w3 _ fun H4 w4 => ?_
      rw [if_pos rfl]
      refine he.run C σ2 ρ4 _ H4 r ρ5 e6 w4 _ fun y H5 w5 => ?_
      have w6 : W C σ2 ρ6 (tp ((y, m) :: (V.ref D, M.deep acc) :: (js ++ tmps ps))) H5 := hu w5 e7
      obtain ⟨B, w7⟩ := back w6
      obtain ⟨fp, z⟩ := w7.wd
      have z1 := z.perm (its' := (V.ref D, M.deep acc) :: (y, m) :: (Sl (wipe σ vs) (wipeF vs ρ6) ++ tmps (tp (js ++ tmps ps)))) (by
        refine (List.perm_middle (l₁ := Sl (wipe σ vs) (wipeF vs ρ6)) (l₂ := (V.ref D, M.deep acc) :: tmps (tp (js ++ tmps ps))) (a := (y, m))).trans ?_
        exact ((List.perm_middle).cons _).trans (.swap _ _ _))
      obtain ⟨fp, z1⟩ := z1
      obtain ⟨vs', hp, l, fp2, z2⟩ := z1.push_deep
      refine ⟨vs', hp, Nat.lt_of_lt_of_le (m := ds.length) (by omega) (small_line e2.1), hl, acc ++ [m], ms', ρ6, by rw [List.length_append]; simp; omega, by rw [List.append_assoc]; exact ha, ⟨B, .of_tmp w7.cov (fun v i h => (tp_no h).elim) z2⟩, e8⟩
  · have ed : ds.drop i = [] := List.drop_eq_nil_of_le (by omega)
    rw [ed] at ei
    cases ei
    rw [List.append_nil] at ha
    subst ha
    have wi2 : W C (wipe σ vs) (wipeF vs ρi) (tp js ++ tp ((V.ref D, M.deep acc) :: tmps ps)) H2 := by
      rw [← tp_app]
      exact wi'.permP ((List.perm_middle (l₁ := js) (l₂ := tmps ps) (a := (V.ref D, M.deep acc))).symm.map _)
    refine .inl ⟨wk.stop i _ _ _ H2 wi2 (by omega), ?_⟩
    obtain ⟨B, w2⟩ := wi'
    have w3 : W C σ (wipeF vs ρi) (tp ((V.ref D, M.deep acc) :: (js ++ tmps ps))) H2 := ⟨B, w2.of_wipe vs⟩
    have w4 : W C σ (wipeF vs ρi) (tp ((V.ref D, M.deep acc) :: js) ++ ps) H2 := W.unstrip (qs := (V.ref D, M.deep acc) :: js) w3 hr
    have w5 : W C σ (wipeF vs ρi) (tp js ++ ((V.ref D, .tmp (M.deep acc)) :: ps)) H2 := w4.permP List.perm_middle.symm
    exact k _ _ (bb σ _ _ H2 (fun _ _ _ => rfl) w5)⟩
theorem sem_compD {wi : TI} {g : TG} {tt : TT} {te : TE} {it : IF} {G : GF} {p : TF} {f : EF} {S vs : List Nat} (hi : SemI wi it) (hg : SemG g G S) (ht : SemT tt p) (he : SemE te f) (hS : ∀ i ∈ S, i ∈ vs) : SemE (tLc wi g tt te vs) (compD vs it G p f) := ⟨fun C σ ρ ps H r ρ' h w Q k => by
  unfold compD at h
  split at h
  · cases h
  rename_i ds bk ρ1 e1
  split at h
  case isFalse => cases h
  rename_i e2
  split at h
  · cases h
  rename_i es ρ2 e3
  cases h
  have q : compM fzM vs it G p f ρ = some (.tmp (.deep (es.map .imm)), backF bk ρ2) := by
    unfold compM
    simp only [e1]
    rw [if_pos e2]
    simp only [cloopD_M e3]
  refine (sem_comp (fun w h => W.fzM w h) hi hg ht he hS).run C σ ρ ps H _ _ q w Q fun v H' w' => ?_
  obtain ⟨B, w'⟩ := w'
  obtain ⟨fp, z⟩ := w'.tmp
  obtain ⟨fp', z⟩ := z.shallow
  exact k v H' ⟨B, .of_tmp w'.cov w'.psr z⟩⟩
end FD
set_option Elab.async false
set_option linter.all false
set_option maxRecDepth 100000
/-! FD9: comprehensions as terms; append, pop, stores. -/
namespace FD
open PySem PySem.Spec PyProof.Rows L2
structure DTs (X : Cx) (ifs : List Expr) (tt : TT) (f : TF) : Prop where
  pt : PTs X ifs tt
  sem : SemT tt f
noncomputable def yesT : TF := fun ρ => some (true, ρ)
section
variable {X : Cx}
theorem dts_nil : DTs X [] tYes yesT := ⟨pts_nil, ⟨fun C σ ρ ps H b ρ' h w Q k => by
  cases h
  exact k H w⟩⟩
theorem dts_one {c : Expr} {t : TT} {p : TF} (h : DT X c t p) : DTs X [c] t p := ⟨pts_one h.pt, h.sem⟩
/-- the block's context -/
abbrev blkX (X : Cx) (scope : Scope) (s : Shared) (H : Hp) (C : Addr) (cl : List (Str × Addr)) (fp : List Addr) : Cx := X.blk s H scope (compEnvC scope cl C X.env) fp
variable {elt tg iter : Expr} {ifs : List Expr} {scope : Scope} {pos : Pos} {wi : TI} {g : TG} {tt : TT} {te : TE} {it : IF} {G : GF} {p : TF} {f : EF} {S : List Nat}
theorem de_comp (own : List (Str × Nat)) (hN : X.N.Nodup) (hi : DI X tg iter wi it) (ok : blkC X.N X.env.scope scope own = true)
    (hg : ∀ (s : Shared) (H : Hp) (C : Addr) (cl : List (Str × Addr)) (fp : List Addr), DG (blkX X scope s H C cl fp) tg g G S) (ht : ∀ (s : Shared) (H : Hp) (C : Addr) (cl : List (Str × Addr)) (fp : List Addr), DTs (blkX X scope s H C cl fp) ifs tt p)
    (he : ∀ (s : Shared) (H : Hp) (C : Addr) (cl : List (Str × Addr)) (fp : List Addr), DE (blkX X scope s H C cl fp) elt te f) (hS : ∀ i ∈ S, i ∈ own.map (·.2) := by decide) (hc : X.calm = true := by rfl) (hs : ∀ x, foldedSetIterable iter X.env x = pure x := by intro _; rfl) :
    DE X (.ListComp elt [⟨tg, iter, ifs, 0⟩] scope pos) (tLc wi g tt te (own.map (·.2))) (compD (own.map (·.2)) it G p f) :=
  ⟨pe_lc (own := own) hc hN hi.pi (blkOk_by ok) (fun s H C cl fp => (hg s H C cl fp).pg) (fun s H C cl fp => (ht s H C cl fp).pt) (fun s H C cl fp => (he s H C cl fp).pe) hs,
    sem_compD hi.sem (hg X.s_0 X.H_0 0 [] []).sem (ht X.s_0 X.H_0 0 [] []).sem (he X.s_0 X.H_0 0 [] []).sem hS⟩
theorem de_compM (own : List (Str × Nat)) (hN : X.N.Nodup) (hi : DI X tg iter wi it) (ok : blkC X.N X.env.scope scope own = true)
    (hg : ∀ (s : Shared) (H : Hp) (C : Addr) (cl : List (Str × Addr)) (fp : List Addr), DG (blkX X scope s H C cl fp) tg g G S) (ht : ∀ (s : Shared) (H : Hp) (C : Addr) (cl : List (Str × Addr)) (fp : List Addr), DTs (blkX X scope s H C cl fp) ifs tt p)
    (he : ∀ (s : Shared) (H : Hp) (C : Addr) (cl : List (Str × Addr)) (fp : List Addr), DE (blkX X scope s H C cl fp) elt te f) (hS : ∀ i ∈ S, i ∈ own.map (·.2) := by decide) (hc : X.calm = true := by rfl) (hs : ∀ x, foldedSetIterable iter X.env x = pure x := by intro _; rfl) :
    DE X (.ListComp elt [⟨tg, iter, ifs, 0⟩] scope pos) (tLc wi g tt te (own.map (·.2))) (compM FD.own (own.map (·.2)) it G p f) :=
  ⟨pe_lc (own := own) hc hN hi.pi (blkOk_by ok) (fun s H C cl fp => (hg s H C cl fp).pg) (fun s H C cl fp => (ht s H C cl fp).pt) (fun s H C cl fp => (he s H C cl fp).pe) hs,
    sem_comp (fun w h => W.own w h) hi.sem (hg X.s_0 X.H_0 0 [] []).sem (ht X.s_0 X.H_0 0 [] []).sem (he X.s_0 X.H_0 0 [] []).sem hS⟩
/-- y = [..]: the comprehension's own block stores y -/
theorem ds_setLc {i : Nat} {y : Str} {py : Pos} {spos : Pos} (own : List (Str × Nat)) (hN : X.N.Nodup) (hsw : swapsWith (.ListComp elt [⟨tg, iter, ifs, 0⟩] scope pos) (some (.Name y py)) spos.line X.env = pure true) (hi : DI X tg iter wi it) (ok : blkC X.N X.env.scope scope own = true)
    (hg : ∀ (s : Shared) (H : Hp) (C : Addr) (cl : List (Str × Addr)) (fp : List Addr), DG (blkX X scope s H C cl fp) tg g G S) (ht : ∀ (s : Shared) (H : Hp) (C : Addr) (cl : List (Str × Addr)) (fp : List Addr), DTs (blkX X scope s H C cl fp) ifs tt p)
    (he : ∀ (s : Shared) (H : Hp) (C : Addr) (cl : List (Str × Addr)) (fp : List Addr), DE (blkX X scope s H C cl fp) elt te f) (hS : ∀ i ∈ S, i ∈ own.map (·.2) := by decide) (hc : X.calm = true := by rfl) (hs : ∀ x, foldedSetIterable iter X.env x = pure x := by intro _; rfl)
    (hy : X.N[i]? = some y := by rfl) (hyl : X.env.scope.names.lookup y = some .local := by rfl) :
    DS X (.Assign [.Name y py] (.ListComp elt [⟨tg, iter, ifs, 0⟩] scope pos) spos) (tAsg (tLc wi g tt te (own.map (·.2))) (gName i)) (asgF (compD (own.map (·.2)) it G p f) (nameG i)) [i] :=
  ⟨ps_setLc (own := own) hc hN hy hyl hsw hi.pi (blkOk_by ok) (fun s H C cl fp => (hg s H C cl fp).pg) (fun s H C cl fp => (ht s H C cl fp).pt) (fun s H C cl fp => (he s H C cl fp).pe) hs,
    sem_asg (sem_compD hi.sem (hg X.s_0 X.H_0 0 [] []).sem (ht X.s_0 X.H_0 0 [] []).sem (he X.s_0 X.H_0 0 [] []).sem hS) ⟨fun C σ ρ qs H v m ρ' h w Q k => by
      unfold nameG at h
      split at h
      · rename_i hl
        cases h
        exact k _ H (.set _ _ _) (w.put hl)
      · cases h⟩⟩
theorem ds_setLcM {i : Nat} {y : Str} {py : Pos} {spos : Pos} (own : List (Str × Nat)) (hN : X.N.Nodup) (hsw : swapsWith (.ListComp elt [⟨tg, iter, ifs, 0⟩] scope pos) (some (.Name y py)) spos.line X.env = pure true) (hi : DI X tg iter wi it) (ok : blkC X.N X.env.scope scope own = true)
    (hg : ∀ (s : Shared) (H : Hp) (C : Addr) (cl : List (Str × Addr)) (fp : List Addr), DG (blkX X scope s H C cl fp) tg g G S) (ht : ∀ (s : Shared) (H : Hp) (C : Addr) (cl : List (Str × Addr)) (fp : List Addr), DTs (blkX X scope s H C cl fp) ifs tt p)
    (he : ∀ (s : Shared) (H : Hp) (C : Addr) (cl : List (Str × Addr)) (fp : List Addr), DE (blkX X scope s H C cl fp) elt te f) (hS : ∀ i ∈ S, i ∈ own.map (·.2) := by decide) (hc : X.calm = true := by rfl) (hs : ∀ x, foldedSetIterable iter X.env x = pure x := by intro _; rfl)
    (hy : X.N[i]? = some y := by rfl) (hyl : X.env.scope.names.lookup y = some .local := by rfl) :
    DS X (.Assign [.Name y py] (.ListComp elt [⟨tg, iter, ifs, 0⟩] scope pos) spos) (tAsg (tLc wi g tt te (own.map (·.2))) (gName i)) (asgF (compM FD.own (own.map (·.2)) it G p f) (nameG i)) [i] :=
  ⟨ps_setLc (own := own) hc hN hy hyl hsw hi.pi (blkOk_by ok) (fun s H C cl fp => (hg s H C cl fp).pg) (fun s H C cl fp => (ht s H C cl fp).pt) (fun s H C cl fp => (he s H C cl fp).pe) hs,
    sem_asg (sem_comp (fun w h => W.own w h) hi.sem (hg X.s_0 X.H_0 0 [] []).sem (ht X.s_0 X.H_0 0 [] []).sem (he X.s_0 X.H_0 0 [] []).sem hS) ⟨fun C σ ρ qs H v m ρ' h w Q k => by
      unfold nameG at h
      split at h
      · rename_i hl
        cases h
        exact k _ H (.set _ _ _) (w.put hl)
      · cases h⟩⟩
end
/-! ### methods that change a list -/
/-- a slot's own list -/
noncomputable def isL : Option (Option M) → Bool
  | some (some (.lst _)) => true
  | some (some (.deep _)) => true
  | _ => false
theorem WB.slot_list {C : Cz} {B H : Hp} {σ : L2.St} {ρ : Env} {ps : Pend} {i : Nat} (w : WB C B σ ρ ps H) (h : isL ρ[i]? = true) : ∃ p vs m, σ[i]? = some (some (.ref p)) ∧ H p = some (.lst vs) ∧ ρ[i]? = some (some m) := by
  unfold isL at h
  split at h
  · rename_i ds e
    obtain ⟨v, hv⟩ := w.cov.has i _ e
    obtain ⟨fp, z⟩ := (w.take e hv).tmp
    obtain ⟨p, vs, rfl, hp, _⟩ := z.at_lst
    exact ⟨p, vs, _, hv, hp, e⟩
  · rename_i ms e
    obtain ⟨v, hv⟩ := w.cov.has i _ e
    obtain ⟨fp, z⟩ := (w.take e hv).tmp
    obtain ⟨p, vs, rfl, hp, _⟩ := z.at_deep
    exact ⟨p, vs, _, hv, hp, e⟩
  · cases h
/-- x.append(e) -/
noncomputable def appE (i : Nat) (f : EF) : EF := fun ρ => if isL ρ[i]? then match f ρ with
  | none => none
  | some (r, ρ1) => match own r ρ1 with
    | none => none
    | some (m, ρ2) => match ρ2[i]? with
      | some (some (.lst ds)) => if smallL ds.length then some (.tmp (.imm .non), ρ2.set i (some (.lst (ds ++ [m.toD])))) else none
      | some (some (.deep ms)) => if smallL ms.length then some (.tmp (.imm .non), ρ2.set i (some (.deep (ms ++ [m])))) else none
      | _ => none
  else none
theorem small_lt {n : Nat} (h : smallL n = true) : n < sizeLine := Nat.lt_of_le_of_lt (sealB_is h) (by decide)
theorem W.nonP {C : Cz} {H : Hp} {σ : L2.St} {ρ : Env} {ps : Pend} (w : W C σ ρ ps H) : W C σ ρ ((.non, .tmp (.imm .non)) :: ps) H := w.scal fun _ => .non
theorem sem_app {K : PySem.W.Frag} {i : Nat} {te : TE} {f : EF} (he : SemE te f) : SemE (tBM K "list" rAppend (tVar i) (tCons te tNil)) (appE i f) := ⟨fun C σ ρ ps H r ρ' h w Q k => by
  unfold appE at h
  split at h
  case isFalse => cases h
  rename_i hL
  obtain ⟨B0, w0⟩ := w
  obtain ⟨p, vs0, m0, hv, hp0, _⟩ := w0.slot_list hL
  refine ⟨.ref p, hv, .inl ⟨rfl, vs0, SqL.of hp0⟩, ?_⟩
  split at h
  · cases h
  rename_i r1 ρ1 e1
  split at h
  · cases h
  rename_i m ρ2 e2
  refine he.run C σ ρ ps H r1 ρ1 e1 ⟨B0, w0⟩ _ fun y H1 w1 => ?_
  obtain ⟨B, w2⟩ := w1.own e2
  split at h
  · rename_i ds e3
    split at h
    case isFalse => cases h
    rename_i e4
    cases h
    obtain ⟨B', _, w3⟩ := w2.freeze
    have w4 : WB C B' σ (ρ2.set i none) ((.ref p, .tmp (.lst ds)) :: (y, .tmp (.imm m.toD)) :: ps) H1 := w3.take e3 hv
    obtain ⟨fp, z⟩ := w4.tmp
    obtain ⟨fp, z⟩ := z.perm (its' := (V.ref p, M.lst ds) :: (y, M.imm m.toD) :: (Sl σ (ρ2.set i none) ++ tmps ps)) (List.perm_middle.cons _)
    obtain ⟨vs, hp, l, fp2, z2⟩ := z.push_lst
    refine ⟨p, vs, y, rfl, rfl, hp, by rw [l]; exact small_lt e4, ?_⟩
    have w5 : WB C B' σ (ρ2.set i none) ((.ref p, .tmp (.lst (ds ++ [m.toD]))) :: ps) (upd H1 p (.lst (vs ++ [y]))) := .of_tmp w4.cov w4.drop.drop.ref z2
    exact k _ _ (W.nonP ⟨B', w5.give (List.getElem?_eq_some_iff.mp e3).1 hv⟩)
  · rename_i ms e3
    split at h
    case isFalse => cases h
    rename_i e4
    cases h
    have w4 : WB C B σ (ρ2.set i none) ((.ref p, .tmp (.deep ms)) :: (y, .tmp m) :: ps) H1 := w2.take e3 hv
    obtain ⟨fp, z⟩ := w4.tmp
    obtain ⟨fp, z⟩ := z.perm (its' := (V.ref p, M.deep ms) :: (y, m) :: (Sl σ (ρ2.set i none) ++ tmps ps)) (List.perm_middle.cons _)
    obtain ⟨vs, hp, l, fp2, z2⟩ := z.push_deep
    refine ⟨p, vs, y, rfl, rfl, hp, by rw [l]; exact small_lt e4, ?_⟩
    have w5 : WB C B σ (ρ2.set i none) ((.ref p, .tmp (.deep (ms ++ [m]))) :: ps) (upd H1 p (.lst (vs ++ [y]))) := .of_tmp w4.cov w4.drop.drop.ref z2
    exact k _ _ (W.nonP ⟨B, w5.give (List.getElem?_eq_some_iff.mp e3).1 hv⟩)
  · cases h⟩
/-- x.pop() -/
noncomputable def popE (i : Nat) : EF := fun ρ => match ρ[i]? with
  | some (some (.lst ds)) => match ds.getLast? with
    | some d => some (.tmp (.imm d), ρ.set i (some (.lst ds.dropLast)))
    | none => none
  | some (some (.deep ms)) => match ms.getLast? with
    | some m => some (.tmp m, ρ.set i (some (.deep ms.dropLast)))
    | none => none
  | _ => none
theorem Its.last {B H : Hp} {l : List Item} {x : Item} {fp : List Addr} (h : Its B H (l ++ [x]) fp) : ∃ f g, Its B H l f ∧ T B H x.1 x.2 g ∧ fp = f ++ g := by
  obtain ⟨f, g, h1, h2, e⟩ := h.split
  cases h2 with
  | cons t r =>
    cases r
    exact ⟨f, _, h1, t, by rw [e, List.append_nil]⟩
theorem Wld.pop_deep {C : Cz} {B H : Hp} {its : List Item} {fp : List Addr} {p : Addr} {ms : List M} {m : M} (w : Wld C B H ((.ref p, .deep (ms ++ [m])) :: its) fp) : ∃ vs v, H p = some (.lst (vs ++ [v])) ∧ ∃ fp', Wld C B (upd H p (.lst vs)) ((v, m) :: (.ref p, .deep ms) :: its) fp' := by
  cases w with
  | mk bh rh b0 br it nd fr =>
  cases it with
  | @cons _ _ f0 _ g h rest =>
    cases h with
    | @deep _ vs _ its0 f hp e1 e2 r =>
      obtain ⟨l, x, e3⟩ : ∃ l x, its0 = l ++ [x] := by
        have hne : its0 ≠ [] := by
          intro e
          subst e
          simp at e2
        exact ⟨its0.dropLast, its0.getLast hne, (List.dropLast_concat_getLast hne).symm⟩
      subst e3
      rw [List.map_append] at e1 e2
      obtain ⟨e4, e5⟩ := List.append_inj' e2 (by simp)
      subst e1
      obtain ⟨v, m'⟩ := x
      simp only [List.map_cons, List.map_nil, List.cons.injEq, and_true] at e5
      subst e5
      obtain ⟨f1, f2, r1, t, e6⟩ := r.last
      subst e6
      have nd1 := List.nodup_cons.mp nd
      have hpf := fr p (by simp)
      have np : ∀ a, a ∈ (f1 ++ f2) ++ g → a ≠ p := fun a ha e => nd1.1 (by rw [← e]; exact ha)
      refine ⟨l.map (·.1), v, hp, f2 ++ ((p :: f1) ++ g), ⟨fun a u e => ?_, fun a u e => ?_, b0, br, ?_, ?_, fun a ha => fr a ?_⟩⟩
      · rw [upd_ne (ne_of_none e hpf.1)]; exact bh a u e
      · rw [upd_ne (ne_of_none e hpf.2)]; exact rh a u e
      · refine .cons (t.mono (.refl B) fun a ha u e => ?_) (.cons (f := p :: f1) (.deep upd_same rfl e4 (r1.mono (.refl B) fun a ha u e => ?_)) (rest.mono (.refl B) fun a ha u e => ?_))
        · rw [upd_ne (np a (by simp [ha]))]; exact e
        · rw [upd_ne (np a (by simp [ha]))]; exact e
        · rw [upd_ne (np a (by simp [ha]))]; exact e
      · refine (List.Perm.nodup_iff ?_).mp nd
        have q : (p :: (f1 ++ f2) ++ g).Perm (f2 ++ (p :: f1 ++ g)) := by
          rw [← List.append_assoc]
          refine List.Perm.append_right _ ?_
          exact (List.perm_append_comm (l₁ := p :: f1) (l₂ := f2))
        exact q
      · show a ∈ p :: (f1 ++ f2) ++ g
        simp only [List.mem_append, List.mem_cons] at ha ⊢
        rcases ha with ha | (ha | ha) | ha
        · exact .inl (.inr (.inr ha))
        · exact .inl (.inl ha)
        · exact .inl (.inr (.inl ha))
        · exact .inr ha
theorem last_split {α : Type} {l : List α} {x : α} (h : l.getLast? = some x) : l = l.dropLast ++ [x] := by
  have hne : l ≠ [] := by
    intro e
    subst e
    cases h
  rw [List.getLast?_eq_some_getLast hne] at h
  cases h
  exact (List.dropLast_concat_getLast hne).symm
theorem sem_pop {K : PySem.W.Frag} {i : Nat} : SemE (tBM0 K "list" rPop (tVar i)) (popE i) := ⟨fun C σ ρ ps H r ρ' h w Q k => by
  obtain ⟨B, w⟩ := w
  unfold popE at h
  split at h
  · rename_i ds e
    split at h
    · rename_i d e2
      cases h
      obtain ⟨v, hv⟩ := w.cov.has i _ e
      have w1 := w.take e hv
      obtain ⟨fp, z⟩ := w1.tmp
      obtain ⟨p, vs, rfl, hp, rr⟩ := z.at_lst
      have hl := last_split e2
      have hx : ds[vs.length - 1]? = some d := by
        rw [rr.length]
        rw [List.getLast?_eq_getElem?] at e2
        exact e2
      obtain ⟨y, h1, h2⟩ := rr.get hx
      refine ⟨.ref p, hv, .inl ⟨rfl, vs, SqL.of hp⟩, p, vs, y, rfl, rfl, hp, h1, ?_⟩
      have z2 := (z.set_lst rr.dropLast)
      have w2 : WB C B σ (ρ.set i none) ((.ref p, .tmp (.lst ds.dropLast)) :: ps) (upd H p (.lst vs.dropLast)) := .of_tmp w1.cov w1.psr z2
      exact k _ _ ⟨B, (w2.give (List.getElem?_eq_some_iff.mp e).1 hv).imm h2⟩
    · cases h
  · rename_i ms e
    split at h
    · rename_i m e2
      cases h
      obtain ⟨v, hv⟩ := w.cov.has i _ e
      have w1 := w.take e hv
      obtain ⟨fp, z⟩ := w1.tmp
      obtain ⟨p, vs0, rfl, hp0, _⟩ := z.at_deep
      rw [last_split e2] at z
      obtain ⟨vs, y, hp, fp2, z2⟩ := z.pop_deep
      refine ⟨.ref p, hv, .inl ⟨rfl, _, SqL.of hp⟩, p, _, y, rfl, rfl, hp, by simp, ?_⟩
      rw [List.dropLast_concat]
      obtain ⟨fp3, z3⟩ := z2.swap
      obtain ⟨fp4, z4⟩ := z3.perm (its' := (V.ref p, M.deep ms.dropLast) :: (Sl σ (ρ.set i none) ++ (y, m) :: tmps ps)) ((List.perm_middle (l₁ := Sl σ (ρ.set i none)) (l₂ := tmps ps) (a := (y, m))).symm.cons _)
      have w2 : WB C B σ (ρ.set i none) ((.ref p, .tmp (.deep ms.dropLast)) :: (y, .tmp m) :: ps) (upd H p (.lst vs)) := .of_tmp w1.cov (fun v' j hj => by
        rcases List.mem_cons.mp hj with e | hj
        · cases e
        · exact w1.psr v' j hj) z4
      exact k _ _ ⟨B, w2.give (List.getElem?_eq_some_iff.mp e).1 hv⟩
    · cases h
  · cases h⟩
end FD
set_option Elab.async false
set_option linter.all false
set_option maxRecDepth 100000
/-! FD10: stores, calls, defs. -/
namespace FD
open PySem PySem.Spec PyProof.Rows L2
/-! ### x[i] = e -/
theorem Its.at_ {B H : Hp} : ∀ {its : List Item} {fp : List Addr} {j : Nat} {m : M}, Its B H its fp → (its.map (·.2))[j]? = some m → ∃ l v r f g h, its = l ++ (v, m) :: r ∧ l.length = j ∧ Its B H l f ∧ T B H v m g ∧ Its B H r h ∧ fp = f ++ (g ++ h)
  | _, _, j, m, .nil, e => by simp at e
  | _, _, 0, m, .cons (v := v) (f := f) (r := r) (g := g) h k, e => by
    simp at e
    subst e
    exact ⟨[], v, r, [], f, g, rfl, rfl, .nil, h, k, rfl⟩
  | _, _, j + 1, m, .cons (v := v) (m := m0) (f := f) h k, e => by
    obtain ⟨l, v', r, f', g, h', e1, e2, h1, h2, h3, e3⟩ := Its.at_ (j := j) k (by simpa using e)
    subst e1 e3
    exact ⟨(v, m0) :: l, v', r, f ++ f', g, h', rfl, by simp [e2], .cons h h1, h2, h3, by simp [List.append_assoc]⟩
theorem set_mid {α : Type} (l : List α) (x y : α) (r : List α) : (l ++ x :: r).set l.length y = l ++ y :: r := by
  rw [List.set_append_right _ _ (Nat.le_refl _), Nat.sub_self, List.set_cons_zero]
/-- the inner list of an owned list of lists, changed -/
theorem Wld.set_inner {C : Cz} {B H : Hp} {its : List Item} {fp : List Addr} {p : Addr} {ms : List M} {j : Nat} {ds : List D} (w : Wld C B H ((.ref p, .deep ms) :: its) fp) (hj : ms[j]? = some (.lst ds)) :
    ∃ vs q ws, H p = some (.lst vs) ∧ vs.length = ms.length ∧ vs[j]? = some (.ref q) ∧ H q = some (.lst ws) ∧ Reps B ws ds ∧ ∀ ws' ds', Reps B ws' ds' → ∃ fp', Wld C B (upd H q (.lst ws')) ((.ref p, .deep (ms.set j (.lst ds'))) :: its) fp' := by
  cases w with
  | mk bh rh b0 br it nd fr =>
  cases it with
  | @cons _ _ f0 _ gg h rest =>
    cases h with
    | @deep _ vs _ its0 f hp e1 e2 r =>
      subst e1 e2
      obtain ⟨l, v, rr, f1, g, f2, e3, e4, h1, h2, h3, e5⟩ := r.at_ hj
      subst e3 e5
      cases h2 with
      | @lst q ws _ hq rw_ =>
        have nd1 := List.nodup_cons.mp nd
        have hq' := fr q (by simp)
        have hqp : q ≠ p := fun e => nd1.1 (by rw [e]; simp)
        have hn : ((f1 ++ ([q] ++ f2)) ++ gg).Nodup := nd1.2
        have nq : ∀ a, (a ∈ f1 ∨ a ∈ f2 ∨ a ∈ gg) → a ≠ q := by
          intro a ha e
          subst e
          have h1 := List.nodup_append.mp hn
          have h2 := List.nodup_append.mp h1.1
          have h3 := List.nodup_append.mp h2.2.1
          rcases ha with ha | ha | ha
          · exact h2.2.2 a ha a (by simp) rfl
          · exact h3.2.2 a (by simp) a ha rfl
          · exact h1.2.2 a (by simp) a ha rfl
        refine ⟨_, q, ws, hp, by rw [List.length_map, List.length_map], ?_, hq, rw_, fun ws' ds' r' => ⟨(p :: (f1 ++ ([q] ++ f2))) ++ gg, ?_⟩⟩
        · rw [List.map_append, List.getElem?_append_right (by rw [List.length_map]; omega), List.length_map, e4, Nat.sub_self]
          rfl
        · have em : ((l ++ (V.ref q, M.lst ds) :: rr).map (·.2)).set j (.lst ds') = (l ++ (V.ref q, M.lst ds') :: rr).map (·.2) := by
            rw [List.map_append, List.map_cons, ← e4, ← List.length_map (f := fun x : Item => x.2) (as := l), set_mid, List.map_append, List.map_cons]
          rw [em]
          refine ⟨fun a u e => ?_, fun a u e => ?_, b0, br, .cons (f := p :: (f1 ++ ([q] ++ f2))) (.deep (its := l ++ (V.ref q, M.lst ds') :: rr) (vs := (l ++ (V.ref q, M.lst ds) :: rr).map (·.1)) ?_ ?_ rfl ?_) (rest.mono (.refl B) fun a ha u e => ?_), nd, fr⟩
          · rw [upd_ne (ne_of_none e hq'.1)]; exact bh a u e
          · rw [upd_ne (ne_of_none e hq'.2)]; exact rh a u e
          · rw [upd_ne hqp.symm]; exact hp
          · rw [List.map_append, List.map_append]; rfl
          · refine (h1.mono (.refl B) fun a ha u e => ?_).join (.cons (.lst upd_same r') (h3.mono (.refl B) fun a ha u e => ?_))
            · rw [upd_ne (nq a (.inl ha))]; exact e
            · rw [upd_ne (nq a (.inr (.inl ha)))]; exact e
          · rw [upd_ne (nq a (.inr (.inr ha)))]; exact e
/-- an item of an owned list of owned things, another in its place -/
theorem Wld.set_deep {C : Cz} {B H : Hp} {its : List Item} {fp : List Addr} {p : Addr} {ms : List M} {j : Nat} {v : V} {m : M} (w : Wld C B H ((.ref p, .deep ms) :: (v, m) :: its) fp) (hj : j < ms.length) :
    ∃ vs, H p = some (.lst vs) ∧ vs.length = ms.length ∧ ∃ fp', Wld C B (upd H p (.lst (vs.set j v))) ((.ref p, .deep (ms.set j m)) :: its) fp' := by
  cases w with
  | mk bh rh b0 br it nd fr =>
  cases it with
  | @cons _ _ f0 _ gg h rest =>
    cases h with
    | @deep _ vs _ its0 f hp e1 e2 r =>
      subst e1 e2
      cases rest with
      | @cons _ _ f3 _ g3 t3 rest =>
        obtain ⟨m0, hm0⟩ : ∃ m0, (its0.map (·.2))[j]? = some m0 := ⟨_, List.getElem?_eq_getElem hj⟩
        obtain ⟨l, v0, rr, f1, g, f2, e3, e4, h1, h2, h3, e5⟩ := r.at_ hm0
        subst e5
        have nd1 := List.nodup_cons.mp nd
        have hpf := fr p (by simp)
        have np : ∀ a, (a ∈ f1 ∨ a ∈ f2 ∨ a ∈ f3 ∨ a ∈ g3) → a ≠ p := fun a ha e => nd1.1 (by
          rw [← e]
          show a ∈ (f1 ++ (g ++ f2)) ++ (f3 ++ g3)
          simp only [List.mem_append]
          rcases ha with ha | ha | ha | ha
          · exact .inl (.inl ha)
          · exact .inl (.inr (.inr ha))
          · exact .inr (.inl ha)
          · exact .inr (.inr ha))
        refine ⟨_, hp, by rw [List.length_map, List.length_map], (p :: (f1 ++ (f3 ++ f2))) ++ g3, ?_⟩
        have e6 : (its0.map (·.1)).set j v = (l ++ (v, m) :: rr).map (·.1) := by
          rw [e3, List.map_append, List.map_cons, ← e4, ← List.length_map (f := fun x : Item => x.1) (as := l), set_mid, List.map_append, List.map_cons]
        have e7 : (its0.map (·.2)).set j m = (l ++ (v, m) :: rr).map (·.2) := by
          rw [e3, List.map_append, List.map_cons, ← e4, ← List.length_map (f := fun x : Item => x.2) (as := l), set_mid, List.map_append, List.map_cons]
        rw [e6, e7]
        refine ⟨fun a u e => ?_, fun a u e => ?_, b0, br, .cons (.deep upd_same rfl rfl ((h1.mono (.refl B) fun a ha u e => ?_).join (.cons (t3.mono (.refl B) fun a ha u e => ?_) (h3.mono (.refl B) fun a ha u e => ?_)))) (rest.mono (.refl B) fun a ha u e => ?_), ?_, ?_⟩
        · rw [upd_ne (ne_of_none e hpf.1)]; exact bh a u e
        · rw [upd_ne (ne_of_none e hpf.2)]; exact rh a u e
        · rw [upd_ne (np a (.inl ha))]; exact e
        · rw [upd_ne (np a (.inr (.inr (.inl ha))))]; exact e
        · rw [upd_ne (np a (.inr (.inl ha)))]; exact e
        · rw [upd_ne (np a (.inr (.inr (.inr ha))))]; exact e
        · have q : (p :: (f1 ++ (g ++ f2)) ++ (f3 ++ g3)).Perm (g ++ (p :: (f1 ++ (f3 ++ f2)) ++ g3)) := by
            rw [List.perm_iff_count]
            intro a
            simp only [List.count_append, List.count_cons]
            omega
          exact (List.nodup_append.mp (q.nodup_iff.mp nd)).2.1
        · intro a ha
          refine fr a ?_
          show a ∈ p :: (f1 ++ (g ++ f2)) ++ (f3 ++ g3)
          simp only [List.mem_append, List.mem_cons] at ha ⊢
          rcases ha with (ha | ha | ha | ha) | ha
          · exact .inl (.inl ha)
          · exact .inl (.inr (.inl ha))
          · exact .inr (.inl ha)
          · exact .inl (.inr (.inr (.inr ha)))
          · exact .inr (.inr ha)
noncomputable def stoG (i : Nat) (f : EF) : GF := fun m ρ => if isL ρ[i]? then match f ρ with
  | some (.tmp (.imm (.int k)), ρ1) => match ρ1[i]? with
    | some (some (.lst ds)) => match ixN ds.length k with
      | some j => some (ρ1.set i (some (.lst (ds.set j m.toD))))
      | none => none
    | some (some (.deep ms)) => match ixN ms.length k with
      | some j => some (ρ1.set i (some (.deep (ms.set j m))))
      | none => none
    | _ => none
  | _ => none
  else none
theorem ixN_lt {n : Nat} {k : Int} {j : Nat} (h : ixN n k = some j) : j < n := (ixN_seq h).2.1
theorem sem_sto {i : Nat} {ti : TE} {f : EF} (hf : SemE ti f) : SemG (gSub (tVar i) ti rSetL) (stoG i f) [] := ⟨fun C σ ρ qs H v m ρ' h w Q k => by
  unfold stoG at h
  split at h
  case isFalse => cases h
  rename_i hL
  obtain ⟨B0, w0⟩ := w
  obtain ⟨p, vs0, m0, hv, hp0, _⟩ := w0.slot_list hL
  refine ⟨.ref p, hv, ?_⟩
  split at h
  case h_2 => cases h
  rename_i kk ρ1 e1
  refine hf.run C σ ρ _ H _ ρ1 e1 ⟨B0, w0⟩ _ fun x H1 w1 => ?_
  obtain ⟨B, w1⟩ := w1
  have rx := w1.imm_rep
  cases rx
  have w2 : WB C B σ ρ1 ((v, .tmp m) :: tp qs) H1 := w1.drop
  split at h
  · rename_i ds e3
    split at h
    case h_2 => cases h
    rename_i j e4
    cases h
    obtain ⟨B', _, w3⟩ := w2.freeze
    have w4 : WB C B' σ (ρ1.set i none) ((.ref p, .tmp (.lst ds)) :: (v, .tmp (.imm m.toD)) :: tp qs) H1 := w3.take e3 hv
    obtain ⟨fp, z⟩ := w4.tmp
    obtain ⟨q, vs, eq, hp, rr⟩ := z.at_lst
    cases eq
    have rv := w3.imm_rep
    refine ⟨p, vs, kk, j, rfl, rfl, hp, by rw [rr.length]; exact e4, ?_⟩
    have z2 := z.set_lst (Reps.set rv j rr)
    have w5 : WB C B' σ (ρ1.set i none) ((.ref p, .tmp (.lst (ds.set j m.toD))) :: (v, .tmp (.imm m.toD)) :: tp qs) (upd H1 p (.lst (vs.set j v))) := .of_tmp w4.cov w4.psr z2
    exact k σ _ (.refl _ _) ⟨B', (w5.give (List.getElem?_eq_some_iff.mp e3).1 hv).drop⟩
  · rename_i ms e3
    split at h
    case h_2 => cases h
    rename_i j e4
    cases h
    have w4 : WB C B σ (ρ1.set i none) ((.ref p, .tmp (.deep ms)) :: (v, .tmp m) :: tp qs) H1 := w2.take e3 hv
    obtain ⟨fp, z⟩ := w4.tmp
    obtain ⟨fp, z⟩ := z.perm (its' := (V.ref p, M.deep ms) :: (v, m) :: (Sl σ (ρ1.set i none) ++ tmps (tp qs))) (List.perm_middle.cons _)
    obtain ⟨vs, hp, l, fp2, z2⟩ := z.set_deep (ixN_lt e4)
    refine ⟨p, vs, kk, j, rfl, rfl, hp, by rw [l]; exact e4, ?_⟩
    have w5 : WB C B σ (ρ1.set i none) ((.ref p, .tmp (.deep (ms.set j m))) :: tp qs) (upd H1 p (.lst (vs.set j v))) := .of_tmp w4.cov w4.drop.drop.ref z2
    exact k σ _ (.refl _ _) ⟨B, w5.give (List.getElem?_eq_some_iff.mp e3).1 hv⟩
  · cases h⟩
theorem dg_sto {X : Cx} {i : Nat} {x : Str} {e : Expr} {ti : TE} {f : EF} {px pos : Pos} (hf : DE X e ti f) (hN : X.N[i]? = some x := by rfl) (hv : Vis X.env.scope x := by first | exact Or.inl rfl | exact Or.inr (Or.inl rfl) | exact Or.inr (Or.inr rfl)) (hd : (x == ("__debug__" : Str)) = false := by decide)
    (hcd : (x == ("__classdict__" : Str)) = false := by decide) (P : PE X (.Name x px) (tVar i) → PE X e ti → PG X (.Subscript (.Name x px) e pos) (gSub (tVar i) ti rSetL) := by exact fun ho hi => pg_sub ho hi set_list) : DG X (.Subscript (.Name x px) e pos) (gSub (tVar i) ti rSetL) (stoG i f) [] :=
  ⟨P (pe_var hN hv hd hcd) hf.pe, sem_sto hf.sem⟩
/-! pure things: nothing is made, nothing taken -/
structure SemP (te : TE) (f : Env → Option D) : Prop where
  run : ∀ (C : Cz) (B : Hp) (σ : L2.St) (ρ : Env) (ps : Pend) (H : Hp) (d : D), f ρ = some d → WB C B σ ρ ps H → ∀ Q : VK, (∀ v, Rep B v d → Q v H) → te σ H Q
structure DP (X : Cx) (e : Expr) (te : TE) (f : Env → Option D) : Prop where
  pe : PE X e te
  sem : SemP te f
noncomputable def slD (i : Nat) : Env → Option D := fun ρ => match ρ[i]? with
  | some (some (.imm d)) => some d
  | _ => none
noncomputable def pixD (i : Nat) (f : Env → Option D) : Env → Option D := fun ρ => match ρ[i]? with
  | some (some (.imm (.lst ds))) => match f ρ with
    | some (.int k) => atI ds k
    | _ => none
  | some (some (.lst ds)) => match f ρ with
    | some (.int k) => atI ds k
    | _ => none
  | _ => none
theorem sem_slD {i : Nat} : SemP (tVar i) (slD i) := ⟨fun C B σ ρ ps H d h w Q k => by
  unfold slD at h
  split at h
  · rename_i d' e
    cases h
    obtain ⟨v, hv⟩ := w.cov.has i _ e
    exact ⟨v, hv, k v (w.take e hv).imm_rep⟩
  · cases h⟩
theorem sem_cP {v : V} {d : D} (h : ∀ B, Rep B v d) : SemP (tC v) (fun _ => some d) := ⟨fun C B σ ρ ps H d' e w Q k => by
  cases e
  exact k v (h B)⟩
theorem sem_pixD {K : PySem.W.Frag} {i : Nat} {te : TE} {f : Env → Option D} (hf : SemP te f) : SemP (tOp (rIx K) (tVar i) te) (pixD i f) := ⟨fun C B σ ρ ps H d h w Q k => by
  unfold pixD at h
  have go : ∀ m ds, ρ[i]? = some (some m) → (m = .imm (.lst ds) ∨ m = .lst ds) → (match f ρ with | some (.int k) => atI ds k | _ => none) = some d → tOp (rIx K) (tVar i) te σ H Q := by
    intro m ds e hm h
    obtain ⟨v, hv⟩ := w.cov.has i _ e
    obtain ⟨fp, z⟩ := (w.take e hv).tmp
    have vv := z.view (by rcases hm with rfl | rfl <;> rfl)
    have em : m.toD = .lst ds := by rcases hm with rfl | rfl <;> rfl
    rw [em] at vv
    obtain ⟨p, vs, rfl, hp, r⟩ := vv.lst_ w.bh
    split at h
    · rename_i kk e2
      refine ⟨.ref p, hv, hf.run C B σ ρ ps H _ e2 w _ fun x rx => ?_⟩
      cases rx
      obtain ⟨y, h1, h2⟩ := atI_rep r h
      exact .inl ⟨p, vs, kk, y, rfl, rfl, SqL.of hp, h1, k y h2⟩
    · cases h
  split at h
  · rename_i ds e
    exact go _ ds e (.inl rfl) h
  · rename_i ds e
    exact go _ ds e (.inr rfl) h
  · cases h⟩
noncomputable def negP (f : Env → Option D) : Env → Option D := fun ρ => match f ρ with
  | some (.int i) => some (.int (-i))
  | _ => none
noncomputable def addP (s : Bool) (f g : Env → Option D) : Env → Option D := fun ρ => match f ρ with
  | some (.int i) => match g ρ with
    | some (.int j) => some (.int (if s then i - j else i + j))
    | _ => none
  | _ => none
section
variable {X : Cx} {a b : Expr} {ta tb : TE} {f g : Env → Option D} {pos : Pos}
theorem dp_name (i : Nat) {x : Str} (hN : X.N[i]? = some x := by rfl) (hv : Vis X.env.scope x := by first | exact Or.inl rfl | exact Or.inr (Or.inl rfl) | exact Or.inr (Or.inr rfl)) (hd : (x == ("__debug__" : Str)) = false := by decide)
    (hcd : (x == ("__classdict__" : Str)) = false := by decide) : DP X (.Name x pos) (tVar i) (slD i) := ⟨pe_var hN hv hd hcd, sem_slD⟩
theorem dp_int {i j} : DP X (.Constant (.int i) j pos) (tC (.int i)) (fun _ => some (.int i)) := ⟨pe_int, sem_cP fun _ => .int i⟩
theorem dp_neg (h : DP X a ta f) : DP X (.UnaryOp .USub a pos) (tUn (rU fun i => .int (-i)) ta) (negP f) := ⟨pe_un un_neg h.pe, ⟨fun C B σ ρ ps H d h' w Q k => by
  unfold negP at h'
  split at h'
  · rename_i i e
    cases h'
    refine h.sem.run C B σ ρ ps H _ e w _ fun v r => ?_
    cases r
    exact ⟨i, rfl, k _ (.int _)⟩
  · cases h'⟩⟩
theorem dp_add (h : DP X a ta f) (h2 : DP X b tb g) : DP X (.BinOp a .Add b pos) (tOp (rI0 fun i j => .int (i + j)) ta tb) (addP false f g) := ⟨pe_op op_add h.pe h2.pe, ⟨fun C B σ ρ ps H d h' w Q k => by
  unfold addP at h'
  split at h'
  · rename_i i e
    split at h'
    · rename_i j e2
      cases h'
      refine h.sem.run C B σ ρ ps H _ e w _ fun v r => ?_
      refine h2.sem.run C B σ ρ ps H _ e2 w _ fun u r2 => ?_
      cases r
      cases r2
      exact ⟨i, j, rfl, rfl, k _ (.int _)⟩
    · cases h'
  · cases h'⟩⟩
theorem dp_sub (h : DP X a ta f) (h2 : DP X b tb g) : DP X (.BinOp a .Sub b pos) (tOp (rI0 fun i j => .int (i - j)) ta tb) (addP true f g) := ⟨pe_op op_sub h.pe h2.pe, ⟨fun C B σ ρ ps H d h' w Q k => by
  unfold addP at h'
  split at h'
  · rename_i i e
    split at h'
    · rename_i j e2
      cases h'
      refine h.sem.run C B σ ρ ps H _ e w _ fun v r => ?_
      refine h2.sem.run C B σ ρ ps H _ e2 w _ fun u r2 => ?_
      cases r
      cases r2
      exact ⟨i, j, rfl, rfl, k _ (.int _)⟩
    · cases h'
  · cases h'⟩⟩
theorem dp_ix (i : Nat) {x : Str} {px : Pos} (h : DP X b tb g) (hN : X.N[i]? = some x := by rfl) (hv : Vis X.env.scope x := by first | exact Or.inl rfl | exact Or.inr (Or.inl rfl) | exact Or.inr (Or.inr rfl)) (hd : (x == ("__debug__" : Str)) = false := by decide)
    (hcd : (x == ("__classdict__" : Str)) = false := by decide) (hs : PlainIx b := by exact fun _ _ => rfl) : DP X (.Subscript (.Name x px) b pos) (tOp (rIx X.K) (tVar i) tb) (pixD i g) := ⟨pe_ix ix_seq (pe_var hN hv hd hcd) h.pe hs, sem_pixD h.sem⟩
end
/-- x[a][b] = e, the inner list owned -/
noncomputable def sto2G (i : Nat) (f g : Env → Option D) : GF := fun m ρ => match f ρ, g ρ, ρ[i]? with
  | some (.int a), some (.int b), some (some (.deep ms)) => match ixN ms.length a with
    | some j => match ms[j]? with
      | some (.lst ds) => match ixN ds.length b with
        | some k => some (ρ.set i (some (.deep (ms.set j (.lst (ds.set k m.toD))))))
        | none => none
      | _ => none
    | none => none
  | _, _, _ => none
theorem sem_sto2 {K : PySem.W.Frag} {i : Nat} {ta tb : TE} {f g : Env → Option D} (hf : SemP ta f) (hg : SemP tb g) : SemG (gSub (tOp (rIx K) (tVar i) ta) tb rSetL) (sto2G i f g) [] := ⟨fun C σ ρ qs H v m ρ' h w Q k => by
  unfold sto2G at h
  split at h
  case h_2 => cases h
  rename_i a b ms e1 e2 e3
  split at h
  case h_2 => cases h
  rename_i j e4
  split at h
  case h_2 => cases h
  rename_i ds e5
  split at h
  case h_2 => cases h
  rename_i kk e6
  cases h
  obtain ⟨B, w⟩ := w
  obtain ⟨B', _, w3⟩ := w.freeze
  obtain ⟨x, hv⟩ := w3.cov.has i _ e3
  have rv := w3.imm_rep
  have w4 := w3.drop.take e3 hv
  obtain ⟨fp, z⟩ := w4.tmp
  obtain ⟨p, _, rfl, _, _⟩ := z.at_deep
  obtain ⟨vs, q, ws, hp, l, hj, hq, rr, up⟩ := z.set_inner e5
  refine ⟨.ref p, hv, hf.run C B' σ ρ _ H _ e1 w3 _ fun y ry => ?_⟩
  cases ry
  refine .inl ⟨p, vs, a, .ref q, rfl, rfl, SqL.of hp, ?_, ?_⟩
  · unfold atI
    rw [l, e4]
    exact hj
  · refine hg.run C B' σ ρ _ H _ e2 w3 _ fun y ry => ?_
    cases ry
    refine ⟨q, ws, b, kk, rfl, rfl, hq, by rw [rr.length]; exact e6, ?_⟩
    obtain ⟨fp', z2⟩ := up _ _ (Reps.set rv kk rr)
    have w5 : WB C B' σ (ρ.set i none) ((.ref p, .tmp (.deep (ms.set j (.lst (ds.set kk m.toD))))) :: tp qs) (upd H q (.lst (ws.set kk v))) := .of_tmp w4.cov w4.psr z2
    exact k σ _ (.refl _ _) ⟨B', w5.give (List.getElem?_eq_some_iff.mp e3).1 hv⟩⟩
theorem dg_sto2 {X : Cx} (i : Nat) {x : Str} {a b : Expr} {ta tb : TE} {f g : Env → Option D} {px p2 pos : Pos} (hf : DP X a ta f) (hg : DP X b tb g) (hN : X.N[i]? = some x := by rfl) (hv : Vis X.env.scope x := by first | exact Or.inl rfl | exact Or.inr (Or.inl rfl) | exact Or.inr (Or.inr rfl)) (hd : (x == ("__debug__" : Str)) = false := by decide)
    (hcd : (x == ("__classdict__" : Str)) = false := by decide) (hs : PlainIx a := by exact fun _ _ => rfl) (P : PE X (.Subscript (.Name x px) a p2) (tOp (rIx X.K) (tVar i) ta) → PE X b tb → PG X (.Subscript (.Subscript (.Name x px) a p2) b pos) (gSub (tOp (rIx X.K) (tVar i) ta) tb rSetL) := by exact fun ho hi => pg_sub ho hi set_list) :
    DG X (.Subscript (.Subscript (.Name x px) a p2) b pos) (gSub (tOp (rIx X.K) (tVar i) ta) tb rSetL) (sto2G i f g) [] := ⟨P (pe_ix ix_seq (pe_var hN hv hd hcd) hf.pe hs) hg.pe, sem_sto2 hf.sem hg.sem⟩
end FD
set_option Elab.async false
set_option linter.all false
set_option maxRecDepth 100000
/-! FG: promises of functions that are called where no repr is under way (A.guards = some []): as the hand layer's own, with that fact kept. -/
namespace FD
open PySem PySem.Spec PyProof.Rows L2
abbrev Quiet (A : Around) : Prop := A.guards = some []
structure GOk (P : Program) (w : World) (K : PySem.W.Frag) (mg : Str → Option Value) (base : Heap) (CX : CXT) (k : Nat) (f : Addr) (fd : FuncData) (ps : List Str) (sp : Sp) : Prop where
  len : ∀ (vs : List V) (H : Hp) (Q : VK) (E : XK), sp vs H Q E → vs.length = ps.length
  run : ∀ (A : Around) (outer : List PySem.Env) (s : Shared) (H : Hp) (args : Args) (us : List Value) (vs : List V) (Q : VK) (E : XK), Quiet A → Room k A → Env0 P w K mg base A outer s H →
    BindsTo s fd args (ps.zip us) → Vals vs us → sp vs H Q E → codeAny (model P w) A (Code.call (Value.ref f) args) (CR CX outer P w H s Q E) s
variable {P : Program} {w : World} {K : PySem.W.Frag} {mg : Str → Option Value} {base : Heap}
theorem g_run {X : Cx} {CX : CXT} {k : Nat} {f : Addr} {fd : FuncData} {ps : List Str} {sp : Sp} {E : XK} {pins : List (Addr × Obj)} {σ : L2.St} {H : Hp} {s : Shared} {Q : VK} {args : Args} {us : List Value} {vs : List V}
    (F : GOk X.prog X.w X.K X.mg X.base CX k f fd ps sp) (hg : Quiet X.A) (hr : Room k X.A) (hx : Passes CX X E) (I : L2.Inv X pins σ H s) (hb : BindsTo s fd args (ps.zip us)) (r : Vals vs us) (h : sp vs H Q E) :
    codeAny (model X.prog X.w) X.A (Code.call (Value.ref f) args) (fun r s' => match r with
      | .ok (.ret v) => EP X pins σ Q v s'
      | .ok _ => False
      | .error e => X.xe e s') s := by
  refine codeAny_mono (F.run X.A X.stack s H args us vs Q E hg hr (Inv.env0 I) hb r h) fun r s' hq => ?_
  cases r with
  | error e => exact hx pins σ H s e s' I hq
  | ok fl =>
    cases fl with
    | ret v => exact Inv.after I hq
    | next => exact hq.elim
    | brk => exact hq.elim
    | cont => exact hq.elim
theorem g_fn {CX : CXT} {k : Nat} {f : Addr} {name qual : Str} {params : Arguments} {body : List Stmt} {scope : Scope} {dV kV doc pm cdv ct oc : Value} {an od : Option Addr} {osl : Array (Option Value)} {N ps : List Str} {sp : Sp}
    (lk : List.lookup f K = some { cls := oc, dict := od, data := Data.func (W.fnOf name qual params body scope dV kV doc pm an cdv ct), slots := osl })
    (hcd : W.codeIn K cdv qual = true) (S : FnScope N ps scope) (len : ∀ (vs : List V) (H : Hp) (Q : VK) (E : XK), sp vs H Q E → vs.length = ps.length)
    (hbody : ∀ (A : Around) (outer : List PySem.Env) (s : Shared) (H : Hp) (vs : List V) (Q : VK) (E : XK), Quiet A → Room k (A.deeper (envOfC qual scope s.heap.objs.size f cdv)) → sp vs H Q E →
      ∃ t, PSs (cxOf CX P w K mg base N qual scope f cdv A outer s H E) body t ∧ t { nx := fun x H' => Q V.non H', rt := Q } (L2.start N vs) H) :
    GOk P w K mg base CX (k + 1) f (W.fnOf name qual params body scope dV kV doc pm an cdv ct) ps sp where
  len := len
  run := by
    intro A outer s H args us vs Q E hgd hr e0 hb r hsp
    have hl := len vs H Q E hsp
    have KX := W.Frag.In.keeps e0.mod.kin fun b o e => (e0.bs b o e).1
    have lim := Heap.NoLimit.keeps e0.mod.nolimit fun b o e => (e0.bs b o e).1
    have hkind : ∀ y, y ∈ ps.zip us → scope.names.lookup y.1 = some NameKind.local ∨ scope.names.lookup y.1 = some NameKind.cell ∧ ((cellsFrom (s.heap.objs.size + 1) scope.names []).lookup y.1).isSome = true := by
      rintro ⟨n, v⟩ hy
      rcases S.par n (List.of_mem_zip hy).1 with q | q
      · exact .inl q
      · exact .inr ⟨q, W.cellsFrom_some scope.names _ [] (.inl q)⟩
    refine codeAny_call_function (Room.depth hr) (KX f _ lk) rfl S.co S.gen rfl (W.codeRec_of KX hcd) ?_
    refine hb (model P w) A.in1 _ _ ?_
    refine wpAny_newFunctionEnv_cells S.kind hkind fun env he s1 x => ?_
    subst he
    refine ⟨Heap.NoLimit.keeps lim x.toInCall.keep, codeAny_func ?_⟩
    obtain ⟨t, ht, hq⟩ := hbody A outer s H vs Q E hgd (Room.deeper hr (envOfC qual scope s.heap.objs.size f cdv)) hsp
    have I := inv_start (CX := CX) (P := P) (w := w) (mg := mg) (base := base) (K := K) (E := E) (cd := cdv) (qual := qual) (f := f) S hr.hd e0 hl r x
    refine wpAny_mono (ht.run [] s1 (L2.start N vs) H _ I hq) (fun fl s' hs => ?_) fun e s' hs => hs
    cases fl with
    | next =>
      obtain ⟨σ', H', J, q⟩ := hs
      exact ⟨V.non, H', J.os, J.bare, J.base, J.hok, rfl, q⟩
    | brk =>
      obtain ⟨_, _, _, q⟩ := hs
      exact q.elim
    | cont =>
      obtain ⟨_, _, _, q⟩ := hs
      exact q.elim
    | ret u =>
      obtain ⟨v, σ', H', J, rv, q⟩ := hs
      exact ⟨v, H', J.os, J.bare, J.base, J.hok, rv, q⟩
theorem g_call0 {X : Cx} {CX : CXT} {k : Nat} {f : Addr} {fd : FuncData} {ps : List Str} {sp : Sp} {E : XK} {x : Str} {p pos : Pos}
    (F : GOk X.prog X.w X.K X.mg X.base CX k f fd ps sp) (hgd : Quiet X.A) (hr : Room k X.A) (hg : Gl X x) (hm : X.mg x = some (Value.ref f)) (hk : W.keepIn X.K (Value.ref f) = true) (ks : List Str) (n : Nat) (g : List Value → List Value) (gV : List V → List V)
    (hb : ∀ (s : Shared) (ws : List Value), X.K.In s.heap → ws.length = n → (g ws).length = ps.length → BindsTo s fd { pos := [], kw := ks.zip ws } (ps.zip (g ws))) (hrel : ∀ zs ws, Vals zs ws → Vals (gV zs) (g ws)) (hx : Passes CX X E) {kws : List Keyword} {tk : TA} (hkw : PK X kws tk)
    (hall : ((backToKw pos (keywordEach kws X.env)).all fun x => x.1.isSome) = true) (hks : List.filterMap (fun x => x.1) (backToKw pos (keywordEach kws X.env)) = ks) (hdb : (x == Str.ofString "__debug__") = false)
    (hpl : (((backTo pos (starEach [] X.env)).any fun x => x.1) || (backToKw pos (keywordEach kws X.env)).any fun x => x.1.isNone) = false) :
    PE X ((Expr.Name x p).Call [] kws pos) (fun σ H Q => tk σ H fun zs H1 => zs.length = n ∧ sp (gV zs) H1 Q E) := ⟨fun pins s σ H Q I h => by
  refine wpAny_Call_Name_kw (ld_glob I hg hm ?_ hdb)
  refine W.callWith_KW0 I.ok.mod.kin hk hall (thn (hkw.run pos pins s σ H (fun zs H1 => zs.length = n ∧ sp (gV zs) H1 Q E) I h) ?_) hpl
  rintro ws s1 ⟨zs, H1, I1, r, hn, q⟩
  refine ⟨I1.kIn, ?_⟩
  rw [hks]
  have r2 := hrel zs ws r
  have hl : (g ws).length = ps.length := by rw [← r2.length, F.len _ _ _ _ q]
  exact wpAny_call (g_run F hgd hr hx I1 (hb s1 ws I1.kIn (by rw [← r.length]; exact hn) hl) r2 q)⟩
/-- a call by its name, the arguments by their places -/
theorem g_call {X : Cx} {CX : CXT} {k : Nat} {f : Addr} {fd : FuncData} {ps : List Str} {sp : Sp} {E : XK} {x : Str} {p pos : Pos} {e : Expr} {es : List Expr} {t : TA}
    (F : GOk X.prog X.w X.K X.mg X.base CX k f fd ps sp) (hgd : Quiet X.A) (hr : Room k X.A) (hg : Gl X x) (hm : X.mg x = some (Value.ref f)) (hk : W.keepIn X.K (Value.ref f) = true) (hb : L2.Binds X.K fd ps []) (hx : Passes CX X E) (ha : PA X (e :: es) t)
    (hdb : (x == Str.ofString "__debug__") = false) (he : starEach (e :: es) X.env = (false, eval e X.env) :: starEach es X.env) (hpl : ((backTo pos (starEach es X.env)).any fun x => x.fst) = false) :
    PE X ((Expr.Name x p).Call (e :: es) [] pos) (tCall sp [] E t) := ⟨fun pins s σ H Q I h => by
  refine wpAny_Call_Name_kw (ld_glob I hg hm ?_ hdb)
  refine W.callWith_K I.ok.mod.kin hk (thn (ha.run pos pins s σ H (fun vs H1 => sp (vs ++ []) H1 Q E) I h) ?_) he hpl
  rintro us s1 ⟨vs, H1, I1, r, q⟩
  refine ⟨I1.kIn, ?_⟩
  rw [List.append_nil] at q
  have hl : (us ++ []).length = ps.length := by
    rw [List.append_nil, ← r.length, F.len _ _ _ _ q]
  have b := hb s1 us I1.kIn hl
  rw [List.append_nil] at b
  exact wpAny_call (g_run F hgd hr hx I1 b r q)⟩
theorem g_ok {x qual : Str} {params : Arguments} {body : List Stmt} {scope : Scope} {dvs : List V} {kws : List (Str × V)} {f : Addr} {fd : FuncData} {N ps : List Str} {k : Nat} {sp : Sp} (F : FunD K x qual params body scope dvs kws f fd) (S : FnScope N ps scope) (len : ∀ (vs : List V) (H : Hp) (Q : VK) (E : XK), sp vs H Q E → vs.length = ps.length)
    (hbody : ∀ (cdv : Value) (A : Around) (outer : List PySem.Env) (s : Shared) (H : Hp) (vs : List V) (Q : VK) (E : XK), Quiet A → Room k (A.deeper (envOfC qual scope s.heap.objs.size f cdv)) → sp vs H Q E →
      ∃ t, PSs (cxOf CX0 P w K mg base N qual scope f cdv A outer s H E).nox body t ∧ t { nx := fun x H' => Q V.non H', rt := Q } (L2.start N vs) H) :
    GOk P w K mg base CX0 (k + 1) f fd ps sp := by
  obtain ⟨oc, od, dV, kV, doc, pm, an, cdv, ct, osl, e, lk, hcd, _⟩ := F.ex
  subst e
  exact g_fn lk hcd S len fun A outer s H vs Q E hg hr hsp => by
    obtain ⟨t, h, q⟩ := hbody cdv A outer s H vs Q E hg hr hsp
    exact ⟨t, h.nox, q⟩
theorem GOk.mono {CX : CXT} {j k : Nat} {f : Addr} {fd : FuncData} {ps : List Str} {sp : Sp} (h : GOk P w K mg base CX j f fd ps sp) (l : j ≤ k) : GOk P w K mg base CX k f fd ps sp :=
  ⟨h.len, fun A outer s H args us vs Q E g r => h.run A outer s H args us vs Q E g ⟨r.hd, by have := r.dp; omega, by have := r.un; omega⟩⟩
/-- the law's own call -/
theorem g_law {mb : Str → Option Value} {CX : CXT} {k : Nat} {fa a : Addr} {fd : FuncData} {x : Str} {sp : Sp} {s₁ : Shared} {vs : List Value} {ns : List Int}
    (KX : K.In s₁.heap) (hns : s₁.heap.Ns mainGlobals mg) (hb : s₁.heap.Ns builtinsNs mb) (hbb : ∀ x, x ≠ Str.ofString "__name__" → mb x = bootBuiltins x) (hlim : s₁.heap.NoLimit) (hg : s₁.gens = #[])
    (ha : s₁.heap.get? a = some { cls := Value.type "list", data := Data.seq vs.toArray }) (hi : IntsAre vs ns) (hl : ns.length ≤ sizeLine) (hr : Room k callerA)
    (F : ∀ base : Heap, K.In base → base.Ns mainGlobals mg → GOk P w K mg base CX k fa fd [x] sp) (hbind : ∀ (s : Shared) (u : Value), BindsTo s fd { pos := [u] } [(x, u)])
    (hsp : ∀ H : Hp, Only H → SqL K H a (ns.map V.int) → sp [V.ref a] H (fun v _ => v = V.bl true) fun _ _ _ => False) (hCX : ∀ (H : Hp) (e : Value) (s' : Shared), CX [] H s₁ (fun _ _ _ => False) e s' → False) :
    codeAny (model P w) callerA (Code.call (Value.ref fa) { pos := [Value.ref a] }) (fun r s' => r = Except.ok (Flow.ret (Value.bool true)) ∧ OldK s₁.heap s'.heap ∧ s'.os = s₁.os ∧ AllBare s'.gens) s₁ := by
  have rv := vals_ints hi
  have lenV := IntsAre.length hi
  have core : ∀ H : Hp, Only H → SqL K H a (ns.map V.int) → HOk P w H s₁.heap → (∀ b, H b ≠ none → b = a) → (H a ≠ none → K.lookup a = none) →
      codeAny (model P w) callerA (Code.call (Value.ref fa) { pos := [Value.ref a] }) (fun r s' => r = Except.ok (Flow.ret (Value.bool true)) ∧ OldK s₁.heap s'.heap ∧ s'.os = s₁.os ∧ AllBare s'.gens) s₁ := by
    intro H hO hS hok hA hK
    have noA : ∀ {b : Addr} {o : Obj} {es : Array DictEntry} {ep : Nat}, s₁.heap.get? b = some o → o.data = Data.dict es ep → H b = none := by
      intro b o es ep e d
      cases q : H b with
      | none => rfl
      | some u =>
        have e' := hA b (by rw [q]; exact fun z => nomatch z)
        subst e'
        rw [ha] at e
        cases e
        cases d
    have nsK : ∀ {b : Addr} {m : Str → Option Value}, s₁.heap.Ns b m → (hidT s₁.heap H).Ns b m := by
      rintro b m ⟨o, es, ep, e, d, r⟩
      exact ⟨o, es, ep, hidT_get e (noA e d), d, r⟩
    have hKb : K.In (hidT s₁.heap H) := by
      intro b o e
      refine hidT_get (KX b o e) ?_
      cases q : H b with
      | none => rfl
      | some u =>
        have e' := hA b (by rw [q]; exact fun z => nomatch z)
        subst e'
        rw [hK (by rw [q]; exact fun z => nomatch z)] at e
        cases e
    have hM : L2.Mod K mg (hidT s₁.heap H) := ⟨hKb, nsK hns, ⟨mb, nsK hb, hbb⟩, by
      obtain ⟨mc, h1, h2⟩ := hlim
      exact ⟨mc, nsK h1, h2⟩⟩
    have e0 : Env0 P w K mg (hidT s₁.heap H) callerA [] s₁ H := ⟨rfl, hM, fun b o e => of_hidT e, Nat.le_of_eq (hidT_size s₁.heap H), trivial, fun b hb => absurd hb (by simp [frs]), hok, AllBare.of_eq hg⟩
    refine codeAny_mono ((F (hidT s₁.heap H) hKb (nsK hns)).run callerA [] s₁ H { pos := [Value.ref a] } [Value.ref a] [V.ref a] (fun v _ => v = V.bl true) (fun _ _ _ => False) rfl hr e0 (hbind s₁ (Value.ref a)) (Paired.cons rfl Paired.nil) (hsp H hO hS)) fun r s' h => ?_
    cases r with
    | error e => exact (hCX H e s' h).elim
    | ok fl =>
      cases fl with
      | next => exact h.elim
      | brk => exact h.elim
      | cont => exact h.elim
      | ret u =>
        obtain ⟨v, H', os, bare, un, hok', r', q⟩ := h
        subst q
        refine ⟨by rw [show u = Value.bool true from r'], OldK.of_keep fun b o e => ?_, os, bare⟩
        cases q : H b with
        | none => exact un.keep b o e q (by simp [frs]) (by simp)
        | some z =>
          rcases hO b with c | ⟨ob, xs, c⟩
          · rw [q] at c; cases c
          · rw [q] at c
            cases c
            have c1 := hok b _ q
            have c2 := hok' b _ (un.frzs b ob _ q)
            obtain ⟨c1, _⟩ := c1
            obtain ⟨c2, _⟩ := c2
            rw [c1] at e
            cases e
            exact c2
  cases hk : K.lookup a with
  | none =>
    refine core (fun b => if b = a then some (HO.frz { cls := Value.type "list", data := Data.seq vs.toArray } (HO.lst (ns.map V.int))) else none) (fun b => ?_) (.inl (.inr ⟨_, if_pos rfl⟩)) (fun b u z => ?_) (fun b z => ?_) fun _ => hk
    · rcases Classical.em (b = a) with e | e
      · exact .inr ⟨_, _, if_pos e⟩
      · exact .inl (if_neg e)
    · replace z : (if b = a then some (HO.frz { cls := Value.type "list", data := Data.seq vs.toArray } (HO.lst (ns.map V.int))) else none) = some u := z
      rcases Classical.em (b = a) with e | e
      · rw [if_pos e] at z
        cases z
        subst e
        exact ⟨ha, by rw [List.length_map]; exact hl, vs, 0, rv, ha⟩
      · rw [if_neg e] at z
        cases z
    · rcases Classical.em (b = a) with e | e
      · exact e
      · exact absurd (if_neg e) z
  | some o =>
    have e := KX a o hk
    rw [ha] at e
    cases e
    exact core (fun _ => none) (fun _ => .inl rfl) (.inr ⟨_, vs.toArray, 0, hk, rfl, rfl, rfl, by rw [List.size_toArray, lenV]; exact hl, rv⟩) (fun b u z => by cases z) (fun b z => absurd rfl z) fun z => absurd rfl z
theorem g_walk {l : W.OpenLaw} {n k : Nat} {q : Program} {loose : List Str} {XP : (Str → Option Value) → Heap → Prop} {YP : World → Heap → Prop} {d : DefRec} {CX : CXT} {x : Str}
    (hn : l.most = some n) (hn2 : n ≤ sizeLine) (hdf : d.params.defaults = []) (hr : Room k callerA)
    (F : ∀ (w : World) (mg : Str → Option Value) (fa : Addr) (h : Heap), YP w h → h.Ns mainGlobals mg → mg d.name = some (Value.ref fa) → ∃ (K : PySem.W.Frag) (fd : FuncData) (sp : Sp), K.In h ∧ (∀ (s : Shared) (u : Value), BindsTo s fd { pos := [u] } [(x, u)]) ∧
      (∀ (H : Hp) (a : Addr) (ns : List Int), ns.length ≤ n → Only H → SqL K H a (ns.map V.int) → sp [V.ref a] H (fun v _ => v = V.bl true) fun _ _ _ => False) ∧
      ∀ base : Heap, K.In base → base.Ns mainGlobals mg → GOk l.prog w K mg base CX k fa fd [x] sp)
    (hCX : ∀ (H : Hp) (s : Shared) (e : Value) (s' : Shared), CX [] H s (fun _ _ _ => False) e s' → False) :
    W.WalkO q loose XP YP l.row.toRowW d [] fun f vs => call f vs :=
  Att.attach_call hn hdf fun w s₀ s₁ mg mb fa o pm cd doc a vs ns G Y ho hd hcd hmg hobj hints hlen hg => by
    obtain ⟨K, fd, sp, KX, hb, hsp, hF⟩ := F w mg fa s₁.heap Y G.T.g hmg
    exact g_law KX G.T.g G.T.b G.T.builtins G.T.nolimit hg hobj hints (Nat.le_trans hlen hn2) hr hF hb (fun H hO hS => hsp H a ns hlen hO hS) fun H e s' => hCX H s₁ e s'
end FD
set_option Elab.async false
set_option linter.all false
set_option maxRecDepth 100000
/-! FD11: calls of the text's own defs; a def's body keeps its promise. -/
namespace FD
open PySem PySem.Spec PyProof.Rows L2
/-- what a call of own things asks and gives: the world of the arguments, the result, the world of those that may change -/
abbrev FF := List M → Option (M × List M)
noncomputable def ioItems (vs : List V) (io : List Nat) (ms : List M) : List Item := (io.map fun i => vs.getD i .non).zip ms
noncomputable def argOk (io : List Nat) (ms : List M) : Prop := ∀ i m, ms[i]? = some m → i ∉ io → ∃ d, m = .imm d
noncomputable def spG (n : Nat) (io : List Nat) (F : FF) : Sp := fun vs H Q _ => ∃ (R B : Hp) (ms : List M) (m : M) (ms' : List M) (fp : List Addr), vs.length = n ∧ ms.length = n ∧ Wld ⟨R, B⟩ B H (vs.zip ms) fp ∧ (∀ a, H a ≠ none → R a ≠ none ∨ a ∈ fp) ∧ argOk io ms ∧
  F ms = some (m, ms') ∧ ms'.length = io.length ∧ ∀ v H', Wd ⟨R, B⟩ H' ((v, m) :: ioItems vs io ms') → Q v H'
/-- arguments: those that may change moved out of their slots, the others as data -/
noncomputable def argsG (io : List Nat) : Nat → List R → Env → Option (List M × Env)
  | _, [], ρ => some ([], ρ)
  | i, r :: rs, ρ => if i ∈ io then match mv r ρ with
      | none => none
      | some (m, ρ1) => match argsG io (i + 1) rs ρ1 with
        | none => none
        | some (ms, ρ2) => some (m :: ms, ρ2)
    else match fz r ρ with
      | none => none
      | some (d, ρ1) => match argsG io (i + 1) rs ρ1 with
        | none => none
        | some (ms, ρ2) => some (.imm d :: ms, ρ2)
/-- .. and given back -/
noncomputable def giveG : List (Option R) → List M → Env → Env
  | some (.slt j) :: rs, m :: ms, ρ => (giveG rs ms ρ).set j (some m)
  | _ :: rs, _ :: ms, ρ => giveG rs ms ρ
  | _, _, ρ => ρ
noncomputable def callG (io : List Nat) (F : FF) (g : AF) : EF := fun ρ => match g ρ with
  | none => none
  | some (rs, ρ1) => match argsG io 0 rs ρ1 with
    | none => none
    | some (ms, ρ2) => match F ms with
      | none => none
      | some (m, ms') => if ms'.length = io.length then some (.tmp m, giveG (io.map fun i => rs[i]?) ms' ρ2) else none
theorem argsG_ok {C : Cz} {H : Hp} {σ : L2.St} {io : List Nat} : ∀ {rs : List R} {vs : List V} {i : Nat} {ρ ρ' : Env} {ms : List M} {qs : Pend}, W C σ ρ (zps vs rs ++ qs) H → vs.length = rs.length → argsG io i rs ρ = some (ms, ρ') →
    W C σ ρ' (zps vs (ms.map .tmp) ++ qs) H ∧ vs.length = ms.length ∧ ∀ j m, ms[j]? = some m → i + j ∉ io → ∃ d, m = .imm d
  | [], [], i, ρ, ρ', ms, qs, w, _, h => by
    cases h
    exact ⟨w, rfl, fun j m e => by simp at e⟩
  | [], _ :: _, _, _, _, _, _, _, l, _ => by cases l
  | _ :: _, [], _, _, _, _, _, _, l, _ => by cases l
  | r :: rs, v :: vs, i, ρ, ρ', ms, qs, w, l, h => by
    unfold argsG at h
    have go : ∀ (m : M) (ρ1 : Env) (ms1 : List M), W C σ ρ1 ((v, .tmp m) :: (zps vs rs ++ qs)) H → argsG io (i + 1) rs ρ1 = some (ms1, ρ') → (i ∉ io → ∃ d, m = .imm d) → m :: ms1 = ms →
        W C σ ρ' (zps (v :: vs) (ms.map .tmp) ++ qs) H ∧ (v :: vs).length = ms.length ∧ ∀ j m, ms[j]? = some m → i + j ∉ io → ∃ d, m = .imm d := by
      intro m ρ1 ms1 w1 e2 hm em
      subst em
      have w2 := w1.permP (List.perm_middle (l₁ := zps vs rs) (l₂ := qs) (a := (v, R.tmp m))).symm
      obtain ⟨w3, l3, h3⟩ := argsG_ok (rs := rs) (vs := vs) (qs := (v, R.tmp m) :: qs) w2 (by simpa using l) e2
      refine ⟨w3.permP List.perm_middle, by rw [List.length_cons, List.length_cons, l3], fun j m' e hn => ?_⟩
      cases j with
      | zero =>
        simp at e
        subst e
        exact hm (by simpa using hn)
      | succ j => exact h3 j m' (by simpa using e) (by rw [Nat.add_assoc, Nat.add_comm 1 j]; exact hn)
    split at h
    · rename_i hi
      split at h
      · cases h
      rename_i m ρ1 e1
      split at h
      · cases h
      rename_i ms1 ρ2 e2
      cases h
      exact go m ρ1 ms1 (W.mv (ps := zps vs rs ++ qs) w e1) e2 (fun q => absurd hi q) rfl
    · rename_i hi
      split at h
      · cases h
      rename_i d ρ1 e1
      split at h
      · cases h
      rename_i ms1 ρ2 e2
      cases h
      exact go (.imm d) ρ1 ms1 (W.fz (ps := zps vs rs ++ qs) w e1) e2 (fun _ => ⟨d, rfl⟩) rfl
theorem giveG_ok {C : Cz} {H : Hp} {σ : L2.St} {qs : Pend} : ∀ {os : List (Option R)} {xs : List V} {ms : List M} {ρ : Env}, (∀ (i : Nat) (j : Nat), os[i]? = some (some (.slt j)) → ∃ v, xs[i]? = some v ∧ σ[j]? = some (some v)) → os.length = xs.length → xs.length = ms.length →
    W C σ ρ (zps xs (ms.map .tmp) ++ qs) H → W C σ (giveG os ms ρ) qs H
  | [], [], [], ρ, _, _, _, w => w
  | [], _ :: _, _, _, _, l, _, _ => by cases l
  | _ :: _, [], _, _, _, l, _, _ => by cases l
  | _, [], _ :: _, _, _, _, l, _ => by cases l
  | _, _ :: _, [], _, _, _, l, _ => by cases l
  | o :: os, x :: xs, m :: ms, ρ, h, l1, l2, w => by
    have w1 : W C σ ρ (zps xs (ms.map .tmp) ++ ((x, .tmp m) :: qs)) H := W.permP (ps := (x, .tmp m) :: (zps xs (ms.map .tmp) ++ qs)) w List.perm_middle.symm
    have w2 := giveG_ok (os := os) (xs := xs) (ms := ms) (qs := (x, .tmp m) :: qs) (fun i j e => by
      have := h (i + 1) j (by simpa using e)
      simpa using this) (by simpa using l1) (by simpa using l2) w1
    cases o with
    | none => exact w2.drop
    | some r =>
      cases r with
      | tmp _ => exact w2.drop
      | slt j =>
        obtain ⟨v, e1, e2⟩ := h 0 j rfl
        simp at e1
        subst e1
        obtain ⟨B, w3⟩ := w2
        have hl : j < (giveG os ms ρ).length := by
          rw [← w3.cov.len]
          exact (List.getElem?_eq_some_iff.mp e2).1
        have w4 : WB C B σ ((giveG os ms ρ).set j none) ((x, .tmp m) :: qs) H := w3.un j
        exact ⟨B, w4.give hl e2⟩
/-- the callee's world laid into the caller's -/
theorem Wld.call {C : Cz} {B H H' B' : Hp} {as rest new : List Item} {fp fr fp' : List Addr} (ha : Its B H as fp) (hr : Its B H rest fr) (w : Wld C B H (as ++ rest) (fp ++ fr)) {R : Hp} (hR : ∀ a, R a = if a ∈ fp then none else H a) (w' : Wld ⟨R, B⟩ B' H' new fp') :
    Wld C B' H' (new ++ rest) (fp' ++ fr) := by
  have hn := List.nodup_append.mp w.nd
  have Rn : ∀ a, H a = none → R a = none := fun a e => by rw [hR]; split <;> first | rfl | exact e
  have Ro : ∀ a o, H a = some o → a ∉ fp → R a = some o := fun a o e q => by rw [hR, if_neg q]; exact e
  have bB : Same B B' := w'.b0
  have frOld : ∀ a ∈ fr, B' a = none := fun a ha' => by
    have e := w.fr a (List.mem_append_right _ ha')
    have q : a ∉ fp := fun z => hn.2.2 a z a ha' rfl
    cases eB : B' a with
    | none => rfl
    | some o =>
      exfalso
      have hd := hr.dom a ha'
      cases eH : H a with
      | none => exact hd eH
      | some u => exact w'.br a (by rw [eB]; simp) (by show R a ≠ none; rw [Ro a u eH q]; simp) e.1
  refine ⟨w'.bh, fun a o e => ?_, w.b0.trans bB, fun a e1 e2 => ?_, w'.it.join (hr.mono bB fun a ha' u e => ?_), ?_, fun a ha' => ?_⟩
  · have q : a ∉ fp := fun z => by
      have := (w.fr a (List.mem_append_left _ z)).2
      rw [this] at e
      cases e
    exact w'.rh a o (Ro a o (w.rh a o e) q)
  · cases eR : C.R a with
    | none => exact absurd eR e2
    | some o =>
      have q : a ∉ fp := fun z => by
        have := (w.fr a (List.mem_append_left _ z)).2
        rw [this] at eR
        cases eR
      have := w'.br a e1 (by show R a ≠ none; rw [Ro a o (w.rh a o eR) q]; simp)
      exact w.br a this e2
  · have q : a ∉ fp := fun z => hn.2.2 a z a ha' rfl
    exact w'.rh a u (Ro a u e q)
  · refine List.nodup_append.mpr ⟨w'.nd, hn.2.1, fun a h1 b h2 e => ?_⟩
    subst e
    have q : a ∉ fp := fun z => hn.2.2 a z a h2 rfl
    have z : R a = none := (w'.fr a h1).2
    have hd := hr.dom a h2
    cases eH : H a with
    | none => exact hd eH
    | some u =>
      rw [Ro a u eH q] at z
      cases z
  · rcases List.mem_append.mp ha' with h1 | h1
    · refine ⟨(w'.fr a h1).1, ?_⟩
      have z : R a = none := (w'.fr a h1).2
      cases eR : C.R a with
      | none => rfl
      | some o =>
        exfalso
        have q : a ∉ fp := fun z => by
          have := (w.fr a (List.mem_append_left _ z)).2
          rw [this] at eR
          cases eR
        rw [Ro a o (w.rh a o eR) q] at z
        cases z
    · exact ⟨frOld a h1, (w.fr a (List.mem_append_right _ h1)).2⟩
theorem sem_callG {n : Nat} {io : List Nat} {F : FF} {tl : TA} {g : AF} {E : XK} (hg : SemL tl g) (hn : ∀ ρ rs ρ', g ρ = some (rs, ρ') → rs.length = n) (hio : ∀ i ∈ io, i < n) : SemE (tCall (spG n io F) [] E tl) (callG io F g) := ⟨fun C σ ρ ps H r ρ' h w Q k => by
  unfold callG at h
  split at h
  · cases h
  rename_i rs ρ1 e1
  split at h
  · cases h
  rename_i ms ρ2 e2
  split at h
  · cases h
  rename_i m ms' e3
  split at h
  case isFalse => cases h
  rename_i e4
  cases h
  refine hg.run C σ ρ ps H rs ρ1 e1 w _ fun vs H1 l w1 => ?_
  have hrf : ∀ v i, (v, R.slt i) ∈ zps vs rs ++ ps → σ[i]? = some (some v) := w1.choose_spec.ref
  obtain ⟨w2, l2, h2⟩ := argsG_ok w1 l e2
  obtain ⟨B, w3⟩ := w2
  obtain ⟨w4, fp, w5⟩ := w3.moved l2
  obtain ⟨f, fr, ha, hr, e5⟩ := w5.it.split
  subst e5
  have hn1 := hn _ _ _ e1
  rw [List.append_nil]
  refine ⟨fun a => if a ∈ f then none else H1 a, B, vs.zip ms |>.map (·.2), m, ms', f, l.trans hn1, by rw [zip_snd l2]; exact l2.symm.trans (l.trans hn1), ?_, fun a ha' => ?_, ?_, ?_, e4, fun v H' w' => ?_⟩
  · rw [zip_snd l2]
    refine ⟨w5.bh, fun a o e => ?_, .refl _, fun a e1 _ => e1, ha, (List.nodup_append.mp w5.nd).1, fun a h' => ⟨(w5.fr a (List.mem_append_left _ h')).1, ?_⟩⟩
    · have e : (if a ∈ f then none else H1 a) = some o := e
      split at e
      · cases e
      · exact e
    · show (if a ∈ f then none else H1 a) = none
      rw [if_pos h']
  · by_cases q : a ∈ f
    · exact .inr q
    · left
      show (if a ∈ f then none else H1 a) ≠ none
      rw [if_neg q]
      exact ha'
  · rw [zip_snd l2]
    intro i m hm hi
    exact h2 i m hm (by simpa using hi)
  · rw [zip_snd l2]
    exact e3
  · obtain ⟨B', fp', w6⟩ := w'
    have w7 := Wld.call ha hr w5 (R := fun a => if a ∈ f then none else H1 a) (fun a => rfl) w6
    have li : (io.map fun i => vs.getD i .non).length = ms'.length := by rw [List.length_map]; exact e4.symm
    have w8 : W C σ ρ2 ((v, .tmp m) :: (zps (io.map fun i => vs.getD i .non) (ms'.map .tmp) ++ ps)) H' := by
      have p : ((v, m) :: ioItems vs io ms' ++ (Sl σ ρ2 ++ tmps ps)).Perm ((v, m) :: (Sl σ ρ2 ++ (ioItems vs io ms' ++ tmps ps))) := by
        have q : (ioItems vs io ms' ++ (Sl σ ρ2 ++ tmps ps)).Perm (Sl σ ρ2 ++ (ioItems vs io ms' ++ tmps ps)) := by
          rw [← List.append_assoc, ← List.append_assoc]
          exact List.perm_append_comm.append_right _
        exact q.cons _
      obtain ⟨fp8, w7⟩ := w7.perm p
      refine ⟨B', .of_tmp (fp := fp8) w4.cov (fun v' i hi => ?_) ?_⟩
      · rcases List.mem_append.mp hi with hi | hi
        · obtain ⟨_, q⟩ := List.of_mem_zip hi
          obtain ⟨m, _, e⟩ := List.mem_map.mp q
          cases e
        · exact w4.ref v' i hi
      · rw [zps_tmps li]
        exact w7
    have w9 := w8.permP (List.perm_middle (l₁ := zps (io.map fun i => vs.getD i .non) (ms'.map .tmp)) (l₂ := ps) (a := (v, R.tmp m))).symm
    refine k v H' (giveG_ok (fun i j e => ?_) ?_ li w9)
    · rw [List.getElem?_map] at e
      cases q : io[i]? with
      | none => rw [q] at e; cases e
      | some ii =>
        rw [q] at e
        have e' : rs[ii]? = some (R.slt j) := by simpa using e
        have hl : ii < vs.length := by
          rw [l]
          exact (List.getElem?_eq_some_iff.mp e').1
        have ev : vs[ii]? = some (vs.getD ii .non) := by
          rw [List.getElem?_eq_getElem hl]
          simp [List.getD, List.getElem?_eq_getElem hl]
        refine ⟨vs.getD ii .non, by rw [List.getElem?_map, q]; rfl, hrf _ j (List.mem_append_left _ ?_)⟩
        exact List.mem_of_getElem? (List.getElem?_zip_eq_some.mpr ⟨ev, e'⟩)
    · rw [List.length_map, List.length_map]⟩
/-! ### a def's body -/
noncomputable def outs : List Nat → Env → Option (List M)
  | [], _ => some []
  | i :: io, ρ => match ρ[i]? with
    | some (some m) => match outs io (ρ.set i none) with
      | some ms => some (m :: ms)
      | none => none
    | _ => none
noncomputable def fnF (nN : Nat) (io : List Nat) (F0 : SF) : FF := fun ms => match F0 (ms.map some ++ List.replicate (nN - ms.length) none) with
  | some (ρ', .ret m) => match outs io ρ' with
    | some ms' => some (m, ms')
    | none => none
  | some (ρ', .nx) => match outs io ρ' with
    | some ms' => some (.imm .non, ms')
    | none => none
  | _ => none
theorem outs_len : ∀ {io : List Nat} {ρ : Env} {ms : List M}, outs io ρ = some ms → ms.length = io.length
  | [], _, _, h => by cases h; rfl
  | i :: io, ρ, ms, h => by
    unfold outs at h
    split at h
    · split at h
      · rename_i e
        cases h
        rw [List.length_cons, List.length_cons, outs_len e]
      · cases h
    · cases h
theorem outs_ok {C : Cz} {H : Hp} {σ : L2.St} {vs : List V} : ∀ {io : List Nat} {ρ : Env} {ms : List M} {ps : Pend}, outs io ρ = some ms → (∀ i ∈ io, σ[i]? = some (some (vs.getD i .non))) → W C σ ρ ps H → ∃ ρ', W C σ ρ' (zps (io.map fun i => vs.getD i .non) (ms.map .tmp) ++ ps) H
  | [], ρ, ms, ps, h, _, w => by
    cases h
    exact ⟨ρ, w⟩
  | i :: io, ρ, ms, ps, h, hv, w => by
    unfold outs at h
    split at h
    · rename_i m e
      split at h
      · rename_i ms' e2
        cases h
        obtain ⟨B, w⟩ := w
        have w1 := w.take e (hv i (by simp))
        obtain ⟨ρ', w2⟩ := outs_ok (ps := (vs.getD i .non, .tmp m) :: ps) e2 (fun j hj => hv j (by simp [hj])) ⟨B, w1⟩
        exact ⟨ρ', w2.permP List.perm_middle⟩
      · cases h
    · cases h
theorem Sl_start : ∀ {vs : List V} {ms : List M} (a b : Nat), vs.length = ms.length → Sl (vs.map some ++ List.replicate a none) (ms.map some ++ List.replicate b none) = vs.zip ms
  | [], [], a, b, _ => by
    show Sl (List.replicate a none) (List.replicate b none) = []
    induction a generalizing b with
    | zero => cases b <;> rfl
    | succ a ih =>
      cases b with
      | zero => rfl
      | succ b => rw [List.replicate_succ, List.replicate_succ, Sl_none]; exact ih b
  | v :: vs, m :: ms, a, b, l => by
    show (v, m) :: Sl (vs.map some ++ List.replicate a none) (ms.map some ++ List.replicate b none) = _
    rw [Sl_start a b (by simpa using l)]
    rfl
  | [], _ :: _, _, _, l => by cases l
  | _ :: _, [], _, _, l => by cases l
theorem start_get {N : List Str} {vs : List V} {i : Nat} (h : i < vs.length) : (start N vs)[i]? = some (some (vs.getD i .non)) := by
  unfold L2.start
  rw [List.getElem?_append_left (by rw [List.length_map]; exact h), List.getElem?_map, List.getElem?_eq_getElem h]
  simp [List.getD, List.getElem?_eq_getElem h]
section
variable {P : Program} {w : World} {K : PySem.W.Frag} {mg : Str → Option Value} {base : Heap}
theorem fn_ok {x qual : Str} {params : Arguments} {body : List Stmt} {scope : Scope} {dvs : List V} {kws : List (Str × V)} {f : Addr} {fd : FuncData} {N ps : List Str} {k n : Nat} {io : List Nat} {F0 : SF} {S0 : List Nat} (F : FunD K x qual params body scope dvs kws f fd) (S : FnScope N ps scope)
    (hbody : ∀ (cdv : Value) (A : Around) (outer : List PySem.Env) (s : Shared) (H : Hp) (E : XK), Quiet A → Room k (A.deeper (envOfC qual scope s.heap.objs.size f cdv)) → ∃ ts, DSs (cxOf CX0 P w K mg base N qual scope f cdv A outer s H E).nox body ts F0 S0)
    (hn : ps.length = n := by rfl) (hio : (io.all fun i => decide (i < n) && decide (i ∉ S0)) = true := by decide) : GOk P w K mg base CX0 (k + 1) f fd ps (spG n io (fnF N.length io F0)) := by
  have hNn : n ≤ N.length := by
    have := congrArg List.length S.pre
    rw [List.length_take] at this
    omega
  refine g_ok F S (fun vs H Q E h => ?_) fun cdv A outer s H vs Q E hgd hr h => ?_
  · obtain ⟨_, _, _, _, _, _, e, _⟩ := h
    exact e.trans hn.symm
  · obtain ⟨R, B, ms, m, ms', fp, e1, e2, wd, cov, ok, e3, e4, q⟩ := h
    obtain ⟨ts, hb⟩ := hbody cdv A outer s H E hgd hr
    refine ⟨ts, hb.pss, ?_⟩
    have hio' : ∀ i ∈ io, i < n ∧ i ∉ S0 := fun i hi => by
      have := List.all_eq_true.mp hio i hi
      rw [Bool.and_eq_true, decide_eq_true_eq, decide_eq_true_eq] at this
      exact this
    have w0 : W ⟨R, B⟩ (start N vs) (ms.map some ++ List.replicate (N.length - ms.length) none) (tp []) H := by
      refine ⟨B, ⟨?_, fun i m hm => ?_⟩, fun v i h => (tp_no h).elim, fp, ?_⟩
      · unfold L2.start
        rw [List.length_append, List.length_append, List.length_map, List.length_map, List.length_replicate, List.length_replicate, e1, e2]
      · have hl : i < vs.length := by
          rcases Nat.lt_or_ge i ms.length with q | q
          · omega
          · rw [List.getElem?_append_right (by rw [List.length_map]; exact q), List.length_map] at hm
            rcases Nat.lt_or_ge (i - ms.length) (N.length - ms.length) with q2 | q2
            · rw [List.getElem?_replicate, if_pos q2] at hm
              cases hm
            · rw [List.getElem?_replicate, if_neg (by omega)] at hm
              cases hm
        exact ⟨_, start_get hl⟩
      · unfold L2.start
        rw [Sl_start _ _ (e1.trans e2.symm), tmps_tp, List.append_nil]
        exact wd
    have fin : ∀ (σ' : L2.St) (ρ' : Env) (v : V) (H' : Hp) (m : M), outs io ρ' = some ms' → Agree S0 (start N vs) σ' → W ⟨R, B⟩ σ' ρ' ((v, .tmp m) :: tp []) H' → Wd ⟨R, B⟩ H' ((v, m) :: ioItems vs io ms') := by
      intro σ' ρ' v H' m eo ag w1
      obtain ⟨ρ2, w2⟩ := outs_ok (vs := vs) eo (fun i hi => by
        rw [ag.at_ i (hio' i hi).2]
        exact start_get (by rw [e1]; exact (hio' i hi).1)) w1
      obtain ⟨B2, w2⟩ := w2
      obtain ⟨fp2, z⟩ := w2.wd
      rw [zps_tmps (by rw [List.length_map]; exact (outs_len eo).symm)] at z
      have z2 : Wd ⟨R, B⟩ H' (Sl σ' ρ2 ++ ((v, m) :: ioItems vs io ms')) := by
        refine Wd.perm ⟨B2, fp2, z⟩ (List.Perm.append_left _ ?_)
        refine List.perm_middle.trans ?_
        show ((v, m) :: (ioItems vs io ms' ++ [])).Perm ((v, m) :: ioItems vs io ms')
        rw [List.append_nil]
      exact z2.drop_left
    unfold fnF at e3
    split at e3
    · rename_i ρ' m0 e5
      split at e3
      · rename_i ms0 e6
        cases e3
        exact hb.sem.run _ _ _ [] H ρ' (.ret m) e5 w0 _ fun σ' H' ag v w1 => q v H' (fin σ' ρ' v H' m e6 ag w1)
      · cases e3
    · rename_i ρ' e5
      split at e3
      · rename_i ms0 e6
        cases e3
        exact hb.sem.run _ _ _ [] H ρ' .nx e5 w0 _ fun σ' H' ag w1 => q .non H' (fin σ' ρ' .non H' (.imm .non) e6 ag w1.nonP)
      · cases e3
    · cases e3
end
/-- a def as its callers see it -/
structure Kn (P : Program) (w : World) (K : PySem.W.Frag) (mg : Str → Option Value) (base : Heap) (k : Nat) (x : Str) (n : Nat) (io : List Nat) (F : FF) : Prop where
  ex : ∃ (f : Addr) (fd : FuncData) (ps : List Str), GOk P w K mg base CX0 k f fd ps (spG n io F) ∧ mg x = some (.ref f) ∧ PySem.W.keepIn K (.ref f) = true ∧ Binds K fd ps []
theorem Kn.mono {P : Program} {w : World} {K : PySem.W.Frag} {mg : Str → Option Value} {base : Heap} {j k : Nat} {x : Str} {n : Nat} {io : List Nat} {F : FF} (h : Kn P w K mg base j x n io F) (l : j ≤ k) : Kn P w K mg base k x n io F :=
  let ⟨f, fd, ps, a, b, c, d⟩ := h.ex
  ⟨f, fd, ps, a.mono l, b, c, d⟩
theorem de_call {X : Cx} {k n : Nat} {x : Str} {io : List Nat} {F : FF} {e : Expr} {es : List Expr} {t : TA} {g : AF} {p pos : Pos} (h : Kn X.prog X.w X.K X.mg X.base k x n io F) (hgd : Quiet X.A) (hr : Room k X.A) (ha : DL X (e :: es) t g) (hl : ∀ ρ rs ρ', g ρ = some (rs, ρ') → rs.length = n) (hio : ∀ i ∈ io, i < n := by decide) (hg : Gl X x := by rfl)
    (hdb : (x == ("__debug__" : Str)) = false := by decide) (he : starEach (e :: es) X.env = (false, eval e X.env) :: starEach es X.env := by rfl) (hpl : (backTo pos (starEach es X.env)).any (·.1) = false := by rfl) :
    DE X (.Call (.Name x p) (e :: es) [] pos) (tCall (spG n io F) [] E0 t) (callG io F g) := by
  obtain ⟨f, fd, ps, G, hm, hk, hb⟩ := h.ex
  exact ⟨g_call G hgd hr hg hm hk hb pass0 ha.pa hdb he hpl, sem_callG ha.sem hl hio⟩
theorem len_nil : ∀ ρ rs ρ', nilA ρ = some (rs, ρ') → rs.length = 0 := fun ρ rs ρ' h => by cases h; rfl
theorem len_cons {f : EF} {g : AF} {n : Nat} (h : ∀ ρ rs ρ', g ρ = some (rs, ρ') → rs.length = n) : ∀ ρ rs ρ', consA f g ρ = some (rs, ρ') → rs.length = n + 1 := fun ρ rs ρ' q => by
  unfold consA at q
  split at q
  · cases q
  split at q
  · cases q
  rename_i e
  cases q
  rw [List.length_cons, h _ _ _ e]
end FD
set_option Elab.async false
set_option linter.all false
set_option maxRecDepth 100000
/-! FD12: built-ins by name. -/
namespace FD
open PySem PySem.Spec PyProof.Rows L2
section
variable {X : Cx} {K : PySem.W.Frag}
theorem Views.one {B H : Hp} {vs : List V} {d : D} (h : Views B H vs [d]) : ∃ v, vs = [v] ∧ View B H v d := by
  cases h with
  | cons a b => cases b; exact ⟨_, rfl, a⟩
theorem Views.two {B H : Hp} {vs : List V} {d e : D} (h : Views B H vs [d, e]) : ∃ v u, vs = [v, u] ∧ View B H v d ∧ View B H u e := by
  cases h with
  | cons a b =>
    obtain ⟨u, rfl, c⟩ := b.one
    exact ⟨_, _, rfl, a, c⟩
theorem View.scr {B H : Hp} (e : Same B H) {v : V} {K : PySem.W.Frag} {ns : List Int} (h : View B H v (.scr K ns)) : ∃ p, v = .ref p ∧ SqL K H p (ns.map V.int) := by
  cases h with
  | rep h => cases h with
    | scr h => exact ⟨_, rfl, SqL_mono e h⟩
/-- a call of a built-in class or function of one name -/
theorem de_fun {x : Str} {p pos : Pos} {e : Expr} {es : List Expr} {t : TA} {id : String} {r : List V → Hp → VK → Prop} {h : List D → Option M} {g : AF} (o : CallS r h) (c : CallR X (.builtin id) r) (hm : X.mg x = none) (hv : bootBuiltins x = some (.builtin id)) (ha : DL X (e :: es) t g)
    (hg : Gl X x := by rfl) (hn : x ≠ Str.ofString "__name__" := by decide) (hd : (x == Str.ofString "__debug__") = false := by decide) (he : starEach (e :: es) X.env = (false, eval e X.env) :: starEach es X.env := by rfl) (hp : (backTo pos (starEach es X.env)).any (·.1) = false := by rfl) :
    DE X (.Call (.Name x p) (e :: es) [] pos) (tCB r t) (callE h g) := ⟨pe_callB c hg hm hv ha.pa hn hd he hp, sem_call o ha.sem⟩
theorem de_ty {x : Str} {p pos : Pos} {e : Expr} {es : List Expr} {t : TA} {id : String} {r : List V → Hp → VK → Prop} {h : List D → Option M} {g : AF} (o : CallS r h) (c : CallR X (.type id) r) (hm : X.mg x = none) (hv : bootBuiltins x = some (.type id)) (ha : DL X (e :: es) t g)
    (hg : Gl X x := by rfl) (hn : x ≠ Str.ofString "__name__" := by decide) (hd : (x == Str.ofString "__debug__") = false := by decide) (he : starEach (e :: es) X.env = (false, eval e X.env) :: starEach es X.env := by rfl) (hp : (backTo pos (starEach es X.env)).any (·.1) = false := by rfl) :
    DE X (.Call (.Name x p) (e :: es) [] pos) (tCB r t) (callE h g) := ⟨pe_callTy c hg hm hv ha.pa hn hd he hp, sem_call o ha.sem⟩
/-- names of built-in classes as values -/
theorem de_tyname {x : Str} {n : String} (hm : X.mg x = none) (hv : bootBuiltins x = some (.type n)) (hg : Gl X x := by rfl) (h1 : x ≠ Str.ofString "__name__" := by decide) (h2 : (x == Str.ofString "__debug__") = false := by decide) {pos : Pos} : DE X (.Name x pos) (tC (.ty n)) (constE (.opq (.ty n))) :=
  ⟨pe_bltn hg hm hv rfl h1 h2, sem_c fun _ => .opq _⟩
/-! ### len -/
noncomputable def lenS (K : PySem.W.Frag) : List D → Option M
  | [.scr K' ns] => open Classical in if K' = K then some (.imm (.int (ns.length : Nat))) else none
  | _ => none
noncomputable def lenP : List D → Option M
  | [.str s] => if smallL s.length then some (.imm (.int (s.length : Nat))) else none
  | [.lst xs] => some (.imm (.int (xs.length : Nat)))
  | [.tup xs] => some (.imm (.int (xs.length : Nat)))
  | _ => none
abbrev rLenX (K : PySem.W.Frag) : List V → Hp → VK → Prop := fun xs H Q => ∃ x n, xs = [x] ∧ LenV K x H n ∧ Q (.int n) H
theorem cs_len : CallS (rLenX K) lenP := by
  intro C B H its fp vs ds m w vv h Q k
  unfold lenP at h
  split at h
  · obtain ⟨v, rfl, v1⟩ := vv.one
    split at h
    case isFalse => cases h
    rename_i hs
    cases h
    cases v1.str
    exact ⟨_, _, rfl, ⟨small_line hs, rfl⟩, w.scal (.int _) k⟩
  · obtain ⟨v, rfl, v1⟩ := vv.one
    cases h
    obtain ⟨p, us, rfl, hp, rr⟩ := v1.lst_ w.bh
    exact ⟨_, _, rfl, .inl ⟨us, SqL.of hp, rfl⟩, by rw [rr.length]; exact w.scal (.int _) k⟩
  · obtain ⟨v, rfl, v1⟩ := vv.one
    cases h
    obtain ⟨p, us, rfl, hp, rr⟩ := v1.tup_
    exact ⟨_, _, rfl, .inr ⟨us, SqT.of (w.bh _ _ hp), rfl⟩, by rw [rr.length]; exact w.scal (.int _) k⟩
  · cases h
theorem cs_lenS : CallS (rLenX K) (lenS K) := by
  intro C B H its fp vs ds m w vv h Q k
  unfold lenS at h
  split at h
  · obtain ⟨v, rfl, v1⟩ := vv.one
    split at h
    case isFalse => cases h
    rename_i e
    cases h
    subst e
    obtain ⟨p, rfl, hs⟩ := v1.scr w.bh
    exact ⟨_, _, rfl, .inl ⟨_, hs, rfl⟩, by rw [List.length_map]; exact w.scal (.int _) k⟩
  · cases h
theorem de_len {p pos : Pos} {e : Expr} {t : TA} {g : AF} (hm : X.mg "len" = none) (ha : DL X [e] t g) (hg : Gl X "len" := by rfl) (he : starEach [e] X.env = (false, eval e X.env) :: starEach [] X.env := by rfl) :
    DE X (.Call (.Name "len" p) [e] [] pos) (tCB (rLenX X.K) t) (callE lenP g) := de_fun cs_len call_len hm (by decide +kernel) ha hg (by decide) (by decide) he rfl
theorem de_lenS {p pos : Pos} {e : Expr} {t : TA} {g : AF} (hm : X.mg "len" = none) (ha : DL X [e] t g) (hg : Gl X "len" := by rfl) (he : starEach [e] X.env = (false, eval e X.env) :: starEach [] X.env := by rfl) :
    DE X (.Call (.Name "len" p) [e] [] pos) (tCB (rLenX X.K) t) (callE (lenS X.K) g) := de_fun cs_lenS call_len hm (by decide +kernel) ha hg (by decide) (by decide) he rfl
/-! ### int, list, tuple, sum, max, min, abs -/
noncomputable def intD : List D → Option M
  | [.int i] => some (.imm (.int i))
  | [.bl b] => some (.imm (.int (if b then 1 else 0)))
  | _ => none
theorem cs_int : CallS (fun xs H Q => (∃ i, xs = [.int i] ∧ Q (.int i) H) ∨ ∃ k, xs = [.bl k] ∧ Q (.int (if k then 1 else 0)) H) intD := by
  intro C B H its fp vs ds m w vv h Q k
  unfold intD at h
  split at h
  · obtain ⟨v, rfl, v1⟩ := vv.one
    cases h
    cases v1.int
    exact .inl ⟨_, rfl, w.scal (.int _) k⟩
  · obtain ⟨v, rfl, v1⟩ := vv.one
    cases h
    cases v1.bl
    exact .inr ⟨_, rfl, w.scal (.int _) k⟩
  · cases h
theorem de_intc {p pos : Pos} {e : Expr} {t : TA} {g : AF} (hm : X.mg "int" = none) (ha : DL X [e] t g) (hg : Gl X "int" := by rfl) (he : starEach [e] X.env = (false, eval e X.env) :: starEach [] X.env := by rfl) :
    DE X (.Call (.Name "int" p) [e] [] pos) (tCB (fun xs H Q => (∃ i, xs = [.int i] ∧ Q (.int i) H) ∨ ∃ k, xs = [.bl k] ∧ Q (.int (if k then 1 else 0)) H) t) (callE intD g) := de_ty cs_int call_int1 hm (by decide +kernel) ha hg (by decide) (by decide) he rfl
noncomputable def listD : List D → Option M
  | [.lst xs] => some (.lst xs)
  | [.tup xs] => some (.lst xs)
  | _ => none
abbrev rListX (K : PySem.W.Frag) : List V → Hp → VK → Prop := fun xs H Q => ∃ p ys, xs = [V.ref p] ∧ (SqL K H p ys ∨ SqT K H p ys) ∧ ∀ l : Addr, H l = none → Q (V.ref l) (upd H l (HO.lst ys))
theorem cs_list : CallS (rListX K) listD := by
  intro C B H its fp vs ds m w vv h Q k
  unfold listD at h
  split at h
  · obtain ⟨v, rfl, v1⟩ := vv.one
    cases h
    obtain ⟨p, us, rfl, hp, rr⟩ := v1.lst_ w.bh
    refine ⟨_, us, rfl, .inl (SqL.of hp), fun l hl => ?_⟩
    exact k _ _ _ _ (w.new_lst hl rr)
  · obtain ⟨v, rfl, v1⟩ := vv.one
    cases h
    obtain ⟨p, us, rfl, hp, rr⟩ := v1.tup_
    refine ⟨_, us, rfl, .inr (SqT.of (w.bh _ _ hp)), fun l hl => ?_⟩
    exact k _ _ _ _ (w.new_lst hl rr)
  · cases h
theorem de_listc {p pos : Pos} {e : Expr} {t : TA} {g : AF} (hm : X.mg "list" = none) (ha : DL X [e] t g) (hg : Gl X "list" := by rfl) (he : starEach [e] X.env = (false, eval e X.env) :: starEach [] X.env := by rfl) :
    DE X (.Call (.Name "list" p) [e] [] pos) (tCB (rListX X.K) t) (callE listD g) := de_ty cs_list call_list_of hm (by decide +kernel) ha hg (by decide) (by decide) he rfl
noncomputable def tupleD : List D → Option M
  | [.lst xs] => some (.imm (.tup xs))
  | [.tup xs] => some (.imm (.tup xs))
  | _ => none
abbrev rTupX (K : PySem.W.Frag) : List V → Hp → VK → Prop := fun xs H Q => ∃ p ys, xs = [V.ref p] ∧ ((SqL K H p ys ∧ ∀ l : Addr, H l = none → Q (V.ref l) (upd H l (HO.tup ys))) ∨ (SqT K H p ys ∧ Q (V.ref p) H))
theorem cs_tuple : CallS (rTupX K) tupleD := by
  intro C B H its fp vs ds m w vv h Q k
  unfold tupleD at h
  split at h
  · obtain ⟨v, rfl, v1⟩ := vv.one
    cases h
    obtain ⟨p, us, rfl, hp, rr⟩ := v1.lst_ w.bh
    refine ⟨_, us, rfl, .inl ⟨SqL.of hp, fun l hl => ?_⟩⟩
    obtain ⟨B', _, w'⟩ := w.new_tup hl rr
    exact k _ _ _ _ w'
  · obtain ⟨v, rfl, v1⟩ := vv.one
    cases h
    obtain ⟨p, us, rfl, hp, rr⟩ := v1.tup_
    exact ⟨_, us, rfl, .inr ⟨SqT.of (w.bh _ _ hp), k _ _ _ _ (w.imm (.tup hp rr))⟩⟩
  · cases h
theorem de_tuplec {p pos : Pos} {e : Expr} {t : TA} {g : AF} (hm : X.mg "tuple" = none) (ha : DL X [e] t g) (hg : Gl X "tuple" := by rfl) (he : starEach [e] X.env = (false, eval e X.env) :: starEach [] X.env := by rfl) :
    DE X (.Call (.Name "tuple" p) [e] [] pos) (tCB (rTupX X.K) t) (callE tupleD g) := de_ty cs_tuple call_tuple_of hm (by decide +kernel) ha hg (by decide) (by decide) he rfl
/-- a list of whole numbers -/
noncomputable def intsD : List D → Option (List Int)
  | [] => some []
  | .int i :: r => match intsD r with
    | some l => some (i :: l)
    | none => none
  | _ => none
theorem ints_rep {B : Hp} : ∀ {vs : List V} {ds : List D} {ns : List Int}, Reps B vs ds → intsD ds = some ns → vs = ns.map V.int
  | [], _, ns, .nil, h => by cases h; rfl
  | v :: vs, d :: ds, ns, .cons a b, h => by
    cases a with
    | int i =>
      unfold intsD at h
      split at h
      · rename_i l e
        cases h
        rw [ints_rep b e]; rfl
      · cases h
    | _ => cases h
theorem ints_of (ns : List Int) : intsD (ns.map .int) = some ns := by
  induction ns with
  | nil => rfl
  | cons a l ih => simp only [List.map, intsD, ih]
noncomputable def sumD : List D → Option M
  | [.lst xs] => match intsD xs with
    | some ns => some (.imm (.int ns.sum))
    | none => none
  | _ => none
noncomputable def sumS (K : PySem.W.Frag) : List D → Option M
  | [.scr K' ns] => open Classical in if K' = K then some (.imm (.int ns.sum)) else none
  | _ => none
theorem cs_sum : CallS (rSum K) sumD := by
  intro C B H its fp vs ds m w vv h Q k
  unfold sumD at h
  split at h
  · obtain ⟨v, rfl, v1⟩ := vv.one
    split at h
    · rename_i ns e
      cases h
      obtain ⟨p, us, rfl, hp, rr⟩ := v1.lst_ w.bh
      cases ints_rep rr e
      exact ⟨p, ns, rfl, SqL.of hp, w.scal (.int _) k⟩
    · cases h
  · cases h
theorem de_sum {p pos : Pos} {e : Expr} {t : TA} {g : AF} (hm : X.mg "sum" = none) (ha : DL X [e] t g) (hc : X.calm = true := by rfl) (hg : Gl X "sum" := by rfl) (he : starEach [e] X.env = (false, eval e X.env) :: starEach [] X.env := by rfl) :
    DE X (.Call (.Name "sum" p) [e] [] pos) (tCB (rSum X.K) t) (callE sumD g) := de_fun cs_sum (cr_sum hc) hm (by decide +kernel) ha hg (by decide) (by decide) he rfl
noncomputable def absD : List D → Option M
  | [.int i] => some (.imm (.int (if i < 0 then -i else i)))
  | _ => none
theorem cs_abs : CallS (fun xs H Q => ∃ i, xs = [.int i] ∧ Q (.int (if i < 0 then -i else i)) H) absD := by
  intro C B H its fp vs ds m w vv h Q k
  unfold absD at h
  split at h
  · obtain ⟨v, rfl, v1⟩ := vv.one
    cases h
    cases v1.int
    exact ⟨_, rfl, w.scal (.int _) k⟩
  · cases h
theorem de_abs {p pos : Pos} {e : Expr} {t : TA} {g : AF} (hm : X.mg "abs" = none) (ha : DL X [e] t g) (hg : Gl X "abs" := by rfl) (he : starEach [e] X.env = (false, eval e X.env) :: starEach [] X.env := by rfl) :
    DE X (.Call (.Name "abs" p) [e] [] pos) (tCB (fun xs H Q => ∃ i, xs = [.int i] ∧ Q (.int (if i < 0 then -i else i)) H) t) (callE absD g) := de_fun cs_abs call_abs hm (by decide +kernel) ha hg (by decide) (by decide) he rfl
noncomputable def max2D : List D → Option M
  | [.int i, .int j] => some (.imm (.int (if j > i then j else i)))
  | _ => none
noncomputable def min2D : List D → Option M
  | [.int i, .int j] => some (.imm (.int (if j < i then j else i)))
  | _ => none
theorem cs_max2 : CallS (fun xs H Q => ∃ i j, xs = [V.int i, V.int j] ∧ Q (V.int (if j > i then j else i)) H) max2D := by
  intro C B H its fp vs ds m w vv h Q k
  unfold max2D at h
  split at h
  · obtain ⟨v, u, rfl, v1, v2⟩ := vv.two
    cases h
    cases v1.int
    cases v2.int
    exact ⟨_, _, rfl, w.scal (.int _) k⟩
  · cases h
theorem cs_min2 : CallS (fun xs H Q => ∃ i j, xs = [V.int i, V.int j] ∧ Q (V.int (if j < i then j else i)) H) min2D := by
  intro C B H its fp vs ds m w vv h Q k
  unfold min2D at h
  split at h
  · obtain ⟨v, u, rfl, v1, v2⟩ := vv.two
    cases h
    cases v1.int
    cases v2.int
    exact ⟨_, _, rfl, w.scal (.int _) k⟩
  · cases h
theorem de_max2 {p pos : Pos} {e e2 : Expr} {t : TA} {g : AF} (hm : X.mg "max" = none) (ha : DL X [e, e2] t g) (hc : X.calm = true := by rfl) (hg : Gl X "max" := by rfl) (he : starEach [e, e2] X.env = (false, eval e X.env) :: starEach [e2] X.env := by rfl) (hp : (backTo pos (starEach [e2] X.env)).any (·.1) = false := by rfl) :
    DE X (.Call (.Name "max" p) [e, e2] [] pos) (tCB (fun xs H Q => ∃ i j, xs = [V.int i, V.int j] ∧ Q (V.int (if j > i then j else i)) H) t) (callE max2D g) := de_fun cs_max2 (call_max2 hc) hm (by decide +kernel) ha hg (by decide) (by decide) he hp
theorem de_min2 {p pos : Pos} {e e2 : Expr} {t : TA} {g : AF} (hm : X.mg "min" = none) (ha : DL X [e, e2] t g) (hc : X.calm = true := by rfl) (hg : Gl X "min" := by rfl) (he : starEach [e, e2] X.env = (false, eval e X.env) :: starEach [e2] X.env := by rfl) (hp : (backTo pos (starEach [e2] X.env)).any (·.1) = false := by rfl) :
    DE X (.Call (.Name "min" p) [e, e2] [] pos) (tCB (fun xs H Q => ∃ i j, xs = [V.int i, V.int j] ∧ Q (V.int (if j < i then j else i)) H) t) (callE min2D g) := de_fun cs_min2 (call_min2 hc) hm (by decide +kernel) ha hg (by decide) (by decide) he hp
noncomputable def maxL : List Int → Int
  | [] => 0
  | [a] => a
  | a :: l => max a (maxL l)
noncomputable def minL : List Int → Int
  | [] => 0
  | [a] => a
  | a :: l => min a (minL l)
theorem maxL_is : ∀ {l : List Int} {m : Int}, m ∈ l → (∀ y ∈ l, y ≤ m) → m = maxL l
  | [a], m, h, k => by simpa [maxL] using h
  | a :: b :: l, m, h, k => by
    show m = max a (maxL (b :: l))
    have g : ∀ l : List Int, l ≠ [] → maxL l ∈ l := by
      intro l
      induction l with
      | nil => intro h; exact absurd rfl h
      | cons a l ih =>
        intro _
        cases l with
        | nil => simp [maxL]
        | cons b l =>
          show max a (maxL (b :: l)) ∈ a :: b :: l
          have := ih (by simp)
          rcases Int.le_total a (maxL (b :: l)) with q | q
          · rw [Int.max_eq_right q]; exact List.mem_cons_of_mem _ this
          · rw [Int.max_eq_left q]; exact List.mem_cons_self ..
    have h1 := k _ (g (a :: b :: l) (by simp))
    have up : ∀ l : List Int, ∀ y ∈ l, y ≤ maxL l := by
      intro l
      induction l with
      | nil => intro y h; cases h
      | cons a l ih =>
        cases l with
        | nil => intro y h; simp at h; simp [maxL, h]
        | cons b l =>
          intro y h
          show y ≤ max a (maxL (b :: l))
          rcases List.mem_cons.mp h with e | h
          · rw [e]; exact Int.le_max_left ..
          · exact Int.le_trans (ih y h) (Int.le_max_right ..)
    exact Int.le_antisymm (up _ m h) h1
theorem minL_is : ∀ {l : List Int} {m : Int}, m ∈ l → (∀ y ∈ l, m ≤ y) → m = minL l
  | [a], m, h, k => by simpa [minL] using h
  | a :: b :: l, m, h, k => by
    have g : ∀ l : List Int, l ≠ [] → minL l ∈ l := by
      intro l
      induction l with
      | nil => intro h; exact absurd rfl h
      | cons a l ih =>
        intro _
        cases l with
        | nil => simp [minL]
        | cons b l =>
          show min a (minL (b :: l)) ∈ a :: b :: l
          have := ih (by simp)
          rcases Int.le_total a (minL (b :: l)) with q | q
          · rw [Int.min_eq_left q]; exact List.mem_cons_self ..
          · rw [Int.min_eq_right q]; exact List.mem_cons_of_mem _ this
    have h1 := k _ (g (a :: b :: l) (by simp))
    have up : ∀ l : List Int, ∀ y ∈ l, minL l ≤ y := by
      intro l
      induction l with
      | nil => intro y h; cases h
      | cons a l ih =>
        cases l with
        | nil => intro y h; simp at h; simp [minL, h]
        | cons b l =>
          intro y h
          show min a (minL (b :: l)) ≤ y
          rcases List.mem_cons.mp h with e | h
          · rw [e]; exact Int.min_le_left ..
          · exact Int.le_trans (Int.min_le_right ..) (ih y h)
    exact Int.le_antisymm h1 (up _ m h)
noncomputable def maxD : List D → Option M
  | [.lst xs] => match intsD xs with
    | some (n :: ns) => some (.imm (.int (maxL (n :: ns))))
    | _ => none
  | _ => none
noncomputable def minD : List D → Option M
  | [.lst xs] => match intsD xs with
    | some (n :: ns) => some (.imm (.int (minL (n :: ns))))
    | _ => none
  | _ => none
theorem cs_max : CallS (rMax K) maxD := by
  intro C B H its fp vs ds m w vv h Q k
  unfold maxD at h
  split at h
  · obtain ⟨v, rfl, v1⟩ := vv.one
    split at h
    · rename_i n ns e
      cases h
      obtain ⟨p, us, rfl, hp, rr⟩ := v1.lst_ w.bh
      cases ints_rep rr e
      exact ⟨p, _, rfl, SqL.of hp, Nat.succ_pos _, fun m h1 h2 => by rw [maxL_is h1 h2]; exact w.scal (.int _) k⟩
    · cases h
  · cases h
theorem cs_min : CallS (rMin K) minD := by
  intro C B H its fp vs ds m w vv h Q k
  unfold minD at h
  split at h
  · obtain ⟨v, rfl, v1⟩ := vv.one
    split at h
    · rename_i n ns e
      cases h
      obtain ⟨p, us, rfl, hp, rr⟩ := v1.lst_ w.bh
      cases ints_rep rr e
      exact ⟨p, _, rfl, SqL.of hp, Nat.succ_pos _, fun m h1 h2 => by rw [minL_is h1 h2]; exact w.scal (.int _) k⟩
    · cases h
  · cases h
theorem de_max {p pos : Pos} {e : Expr} {t : TA} {g : AF} (hm : X.mg "max" = none) (ha : DL X [e] t g) (hc : X.calm = true := by rfl) (hg : Gl X "max" := by rfl) (he : starEach [e] X.env = (false, eval e X.env) :: starEach [] X.env := by rfl) :
    DE X (.Call (.Name "max" p) [e] [] pos) (tCB (rMax X.K) t) (callE maxD g) := de_fun cs_max (cr_max hc) hm (by decide +kernel) ha hg (by decide) (by decide) he rfl
theorem de_min {p pos : Pos} {e : Expr} {t : TA} {g : AF} (hm : X.mg "min" = none) (ha : DL X [e] t g) (hc : X.calm = true := by rfl) (hg : Gl X "min" := by rfl) (he : starEach [e] X.env = (false, eval e X.env) :: starEach [] X.env := by rfl) :
    DE X (.Call (.Name "min" p) [e] [] pos) (tCB (rMin X.K) t) (callE minD g) := de_fun cs_min (cr_min hc) hm (by decide +kernel) ha hg (by decide) (by decide) he rfl
end
end FD
set_option Elab.async false
set_option linter.all false
set_option maxRecDepth 100000
/-! FD13: methods, repr, sorted, isinstance. -/
namespace FD
open PySem PySem.Spec PyProof.Rows L2
section
variable {X : Cx} {K : PySem.W.Frag}
/-! ### bit_length -/
noncomputable def bitsD : D → Option M
  | .int i => some (.imm (.int (Builtin.Int.intBits i : Nat)))
  | _ => none
theorem de_bits {o : Expr} {to : TE} {f : EF} {apos pos : Pos} (h : DE X o to f) (hb : attributeBase o (Str.ofString "bit_length") X.env (eval o X.env) = eval o X.env := by rfl) (hl : (apos.endLine == pos.line) = true := by rfl) :
    DE X (.Call (.Attribute o "bit_length" apos) [] [] pos) (tBits to) (op1 bitsD f) := ⟨pe_bits h.pe hb hl, by
  have : UnS (fun x H Q => ∃ i, x = V.int i ∧ Q (V.int (Builtin.Int.intBits i : Nat)) H) bitsD := by
    intro C B H its fp x d m w v1 hd Q k
    unfold bitsD at hd
    split at hd
    · cases hd
      cases v1.int
      exact ⟨_, rfl, w.scal (.int _) k⟩
    · cases hd
  exact sem_un this h.sem⟩
/-! ### list(range(..)) -/
noncomputable def rgOk (a b : Int) : Bool := sealB (-(2 ^ 62) ≤ a ∧ a < 2 ^ 62 ∧ -(2 ^ 62) ≤ b ∧ b < 2 ^ 62 ∧ (b - a).toNat ≤ 1000000)
theorem rgOk_is {a b : Int} (h : rgOk a b = true) : RgOk a b := by
  have := sealB_is h
  exact ⟨this.1, this.2.1, this.2.2.1, this.2.2.2.1, Nat.le_trans this.2.2.2.2 (by decide)⟩
noncomputable def rgD (a b : Int) : List D := (List.range (b - a).toNat).map fun i => .int (a + (i : Nat))
theorem rg_rep {B : Hp} (a b : Int) : Reps B (rgV a b) (rgD a b) := by
  unfold rgV rgD
  generalize List.range (b - a).toNat = l
  induction l with
  | nil => exact .nil
  | cons x l ih => exact .cons (.int _) ih
noncomputable def rg1E (f : EF) : EF := fun ρ => match f ρ with
  | none => none
  | some (r, ρ1) => match vw r ρ1 with
    | some (.int j, ρ2) => if rgOk 0 j then some (.tmp (.lst (rgD 0 j)), ρ2) else none
    | _ => none
noncomputable def rg2E (f1 f2 : EF) : EF := fun ρ => match f1 ρ with
  | none => none
  | some (r, ρ1) => match vw r ρ1 with
    | some (.int i, ρ2) => match f2 ρ2 with
      | none => none
      | some (r2, ρ3) => match vw r2 ρ3 with
        | some (.int j, ρ4) => if rgOk i j then some (.tmp (.lst (rgD i j)), ρ4) else none
        | _ => none
    | _ => none
theorem de_rg1 {p pos p2 pos2 : Pos} {a : Expr} {ta : TE} {f : EF} (hm : X.mg "list" = none) (hm2 : X.mg "range" = none) (ha : DE X a ta f) (hc : X.calm = true := by rfl) (hg : Gl X "list" := by rfl) (hg2 : Gl X "range" := by rfl)
    (hs : starEach [a] X.env = (false, eval a X.env) :: starEach [] X.env := by rfl) (hs2 : starEach [.Call (.Name "range" p2) [a] [] pos2] X.env = (false, eval (.Call (.Name "range" p2) [a] [] pos2) X.env) :: starEach [] X.env := by rfl) :
    DE X (.Call (.Name "list" p) [.Call (.Name "range" p2) [a] [] pos2] [] pos) (tLstRg (tRg1 ta)) (rg1E f) := ⟨pe_listRg hc hg hm (prg_1 hg2 hm2 ha.pe hs) hs2, ⟨fun C σ ρ ps H r ρ' q w Q k => by
  unfold rg1E at q
  split at q
  · cases q
  rename_i r1 ρ1 e1
  split at q
  · rename_i j ρ2 e2
    split at q
    case isFalse => cases q
    rename_i e3
    cases q
    refine ha.sem.run C σ ρ ps H r1 ρ1 e1 w _ fun x H1 w1 => ?_
    obtain ⟨B, w1⟩ := w1
    obtain ⟨B', s1, w2, v1⟩ := w1.vw e2
    cases v1.int
    refine ⟨j, rfl, rgOk_is e3, fun l hl => ?_⟩
    have w3 := w2.drop
    obtain ⟨fp, w4⟩ := w3.wd
    exact k _ _ (w3.front (w4.new_lst hl (rg_rep _ _)))
  · cases q⟩⟩
theorem de_rg2 {p pos p2 pos2 : Pos} {a b : Expr} {ta tb : TE} {f g : EF} (hm : X.mg "list" = none) (hm2 : X.mg "range" = none) (ha : DE X a ta f) (hb : DE X b tb g) (hc : X.calm = true := by rfl) (hg : Gl X "list" := by rfl) (hg2 : Gl X "range" := by rfl)
    (hs : starEach [a, b] X.env = (false, eval a X.env) :: starEach [b] X.env := by rfl) (hs1 : starEach [b] X.env = (false, eval b X.env) :: starEach [] X.env := by rfl) (hp : (backTo pos2 (starEach [b] X.env)).any (·.1) = false := by rfl)
    (hs2 : starEach [.Call (.Name "range" p2) [a, b] [] pos2] X.env = (false, eval (.Call (.Name "range" p2) [a, b] [] pos2) X.env) :: starEach [] X.env := by rfl) :
    DE X (.Call (.Name "list" p) [.Call (.Name "range" p2) [a, b] [] pos2] [] pos) (tLstRg (tRg2 ta tb)) (rg2E f g) := ⟨pe_listRg hc hg hm (prg_2 hg2 hm2 ha.pe hb.pe hs hs1 hp) hs2, ⟨fun C σ ρ ps H r ρ' q w Q k => by
  unfold rg2E at q
  split at q
  · cases q
  rename_i r1 ρ1 e1
  split at q
  · rename_i i ρ2 e2
    split at q
    · cases q
    rename_i r2 ρ3 e3
    split at q
    · rename_i j ρ4 e4
      split at q
      case isFalse => cases q
      rename_i e5
      cases q
      refine ha.sem.run C σ ρ ps H r1 ρ1 e1 w _ fun x H1 w1 => ?_
      obtain ⟨B, w1⟩ := w1
      obtain ⟨B', s1, w2, v1⟩ := w1.vw e2
      cases v1.int
      refine hb.sem.run C σ ρ2 ps H1 r2 ρ3 e3 ⟨B', w2.drop⟩ _ fun y H2 w3 => ?_
      obtain ⟨B3, w3⟩ := w3
      obtain ⟨B4, s4, w4, v4⟩ := w3.vw e4
      cases v4.int
      refine ⟨i, j, rfl, rfl, rgOk_is e5, fun l hl => ?_⟩
      have w5 := w4.drop
      obtain ⟨fp, w6⟩ := w5.wd
      exact k _ _ (w5.front (w6.new_lst hl (rg_rep _ _)))
    · cases q
  · cases q⟩⟩
/-! ### methods of a list that look only -/
noncomputable def lstR (r : R) (ρ : Env) : Bool := match r with
  | .tmp (.lst _) => true
  | .tmp (.deep _) => true
  | .tmp (.imm (.lst _)) => true
  | .slt i => match ρ[i]? with
    | some (some (.lst _)) => true
    | some (some (.deep _)) => true
    | some (some (.imm (.lst _))) => true
    | _ => false
  | _ => false
noncomputable def bmE (g : D → D → Option M) (f1 f2 : EF) : EF := fun ρ =>
  match f1 ρ with
  | none => none
  | some (r1, ρ1) => if lstR r1 ρ1 then match f2 ρ1 with
    | none => none
    | some (r2, ρ2) => match vw r1 ρ2 with
      | none => none
      | some (d1, ρ3) => match vw r2 ρ3 with
        | none => none
        | some (d2, ρ4) => match g d1 d2 with
          | none => none
          | some m => some (.tmp m, ρ4)
    else none
theorem lstR_vw {r : R} {ρ : Env} (h : lstR r ρ = true) : ∃ ds ρ', vw r ρ = some (.lst ds, ρ') := by
  unfold lstR at h
  split at h
  · exact ⟨_, _, rfl⟩
  · exact ⟨_, _, rfl⟩
  · exact ⟨_, _, rfl⟩
  · split at h
    · rename_i e; exact ⟨_, _, by unfold vw; simp only [e]; rfl⟩
    · rename_i e; exact ⟨_, _, by unfold vw; simp only [e]; rfl⟩
    · rename_i e; exact ⟨_, _, by unfold vw; simp only [e]; rfl⟩
    · cases h
  · cases h
theorem sem_bm {r : V → List V → Hp → VK → Prop} {g : D → D → Option M} {ta tb : TE} {f1 f2 : EF} (o : OpS (fun x y H Q => r x [y] H Q) g) (ha : SemE ta f1) (hb : SemE tb f2) : SemE (tBM K "list" r ta (tCons tb tNil)) (bmE g f1 f2) := ⟨fun C σ ρ ps H r' ρ' h w Q k => by
  unfold bmE at h
  split at h
  · cases h
  rename_i r1 ρ1 e1
  split at h
  case isFalse => cases h
  rename_i hL
  split at h
  · cases h
  rename_i r2 ρ2 e2
  split at h
  · cases h
  rename_i d1 ρ3 e3
  split at h
  · cases h
  rename_i d2 ρ4 e4
  split at h
  · cases h
  rename_i m e5
  cases h
  refine ha.run C σ ρ ps H r1 ρ1 e1 w _ fun x H1 w1 => ?_
  obtain ⟨B0, w1⟩ := w1
  obtain ⟨ds0, ρ0, e0⟩ := lstR_vw hL
  obtain ⟨B0', _, w0, v0⟩ := w1.vw e0
  obtain ⟨p, us, e6, hp, _⟩ := v0.lst_ w0.bh
  refine ⟨by rw [e6]; exact .inl ⟨rfl, us, SqL.of hp⟩, ?_⟩
  refine hb.run C σ ρ1 _ H1 r2 ρ2 e2 ⟨B0, w1⟩ _ fun y H2 w2 => ?_
  obtain ⟨B, w2⟩ := w2
  obtain ⟨B', s1, w3, v1⟩ := (w2.permP (List.Perm.swap _ _ _)).vw e3
  obtain ⟨B2, s2, w4, v2⟩ := (w3.permP (List.Perm.swap _ _ _)).vw e4
  have w5 := w4.drop.drop
  obtain ⟨fp, w6⟩ := w5.wd
  exact o C B2 H2 _ fp x y d1 d2 m w6 (v1.mono s2) v2 e5 Q fun v H' B' fp' w7 => k v H' ⟨B', .of_tmp w5.cov w5.ref w7⟩⟩
/-! ### index -/
noncomputable def D.scalL : D → Bool
  | .non | .bl _ | .int _ => true
  | .str s => PyData.strOk s
  | _ => false
/-- as D.ok, the texts of code points -/
noncomputable def D.lay : Nat → D → Bool
  | 0, d => d.scalL
  | n + 1, .lst xs => xs.all (D.lay n)
  | n + 1, .tup xs => xs.all (D.lay n)
  | _ + 1, d => d.scalL
theorem D.scalL_P {d : D} (h : d.scalL = true) : d.toP.plain = true ∧ d.toP.depth = 0 ∧ d.toP.canLay0 = true := by
  cases d <;> first | exact ⟨rfl, rfl, rfl⟩ | exact ⟨rfl, rfl, h⟩ | cases h
theorem D.lay_P : ∀ {n : Nat} {d : D}, D.lay n d = true → d.toP.plain = true ∧ d.toP.depth ≤ n ∧ d.toP.canLay0 = true := by
  intro n
  induction n with
  | zero => intro d h; have := D.scalL_P (d := d) h; exact ⟨this.1, by omega, this.2.2⟩
  | succ n ih =>
    have hs : ∀ xs : List D, xs.all (D.lay n) = true → PyData.plainAll (D.toPs xs) = true ∧ PyData.depthAll (D.toPs xs) ≤ n ∧ PyData.canLayAll0 (D.toPs xs) = true := by
      intro xs
      induction xs with
      | nil => intro _; exact ⟨rfl, Nat.zero_le _, rfl⟩
      | cons x xs ihx =>
        intro h
        rw [List.all_cons, Bool.and_eq_true] at h
        have h1 := ih h.1
        have h2 := ihx h.2
        refine ⟨?_, ?_, ?_⟩
        · show (x.toP.plain && PyData.plainAll (D.toPs xs)) = true
          rw [h1.1, h2.1]; rfl
        · show max x.toP.depth (PyData.depthAll (D.toPs xs)) ≤ n
          omega
        · show (x.toP.canLay0 && PyData.canLayAll0 (D.toPs xs)) = true
          rw [h1.2.2, h2.2.2]; rfl
    intro d h
    cases d with
    | lst xs => have := hs xs h; exact ⟨this.1, Nat.succ_le_succ this.2.1, this.2.2⟩
    | tup xs => have := hs xs h; exact ⟨this.1, Nat.succ_le_succ this.2.1, this.2.2⟩
    | non => exact ⟨rfl, Nat.zero_le _, rfl⟩
    | bl _ => exact ⟨rfl, Nat.zero_le _, rfl⟩
    | int _ => exact ⟨rfl, Nat.zero_le _, rfl⟩
    | str _ => exact ⟨rfl, Nat.zero_le _, h⟩
    | dK _ _ => cases h
    | dT _ _ => cases h
    | opq _ => cases h
    | scr _ _ => cases h
theorem D.lay_shaped {d : D} (h : D.lay 12 d = true) : SeqAt.shaped d.toP = true := by
  have := D.lay_P h
  unfold SeqAt.shaped
  rw [this.2.2, Bool.true_and]
  exact decide_eq_true (by omega)
noncomputable def posD (y : D) : List D → Option Nat
  | [] => none
  | z :: l => if eqv z y then some 0 else match posD y l with
    | some n => some (n + 1)
    | none => none
noncomputable def indexD : D → D → Option M
  | .lst xs, y => if D.lay 12 (.lst xs) && D.lay 12 y then match posD y xs with
      | some n => some (.imm (.int (n : Nat)))
      | none => none
    else none
  | _, _ => none
theorem posD_is {y : D} : ∀ {xs : List D} {n : Nat}, posD y xs = some n → (∃ z, (D.toPs xs)[n]? = some z ∧ z.eqv y.toP = true) ∧ ∀ (m : Nat) (z : PyData), m < n → (D.toPs xs)[m]? = some z → z.eqv y.toP = false
  | [], n, h => by cases h
  | x :: xs, n, h => by
    unfold posD at h
    split at h
    · rename_i e
      cases h
      exact ⟨⟨_, rfl, e⟩, fun m z hm => absurd hm (Nat.not_lt_zero _)⟩
    · rename_i e
      split at h
      · rename_i n' e2
        cases h
        obtain ⟨⟨z, h1, h2⟩, h3⟩ := posD_is e2
        refine ⟨⟨z, h1, h2⟩, fun m z' hm hz => ?_⟩
        cases m with
        | zero =>
          cases hz
          exact Bool.eq_false_iff.mpr e
        | succ m => exact h3 m z' (Nat.lt_of_succ_lt_succ hm) hz
      · cases h
theorem ops_index : OpS (fun x y H Q => rIndexD K x [y] H Q) indexD := by
  intro C B H its fp x y d e m w v1 v2 h Q k
  unfold indexD at h
  split at h
  · rename_i xs
    split at h
    case isFalse => cases h
    rename_i q
    rw [Bool.and_eq_true] at q
    split at h
    · rename_i n e0
      cases h
      obtain ⟨⟨z, h1, h2⟩, h3⟩ := posD_is e0
      have p1 := D.lay_P q.1
      have p2 := D.lay_P q.2
      have r1 := (v1.rep_h w.bh).dp (K := K) p1.1
      obtain ⟨p, us, rfl, _, _⟩ := v1.lst_ w.bh
      exact ⟨p, y, e.toP, D.toPs xs, n, z, rfl, rfl, r1, (v2.rep_h w.bh).dp p2.1, D.lay_shaped q.1, D.lay_shaped q.2, h1, h2, h3, w.scal (.int _) k⟩
    · cases h
  · cases h
theorem de_index {o e : Expr} {to te : TE} {f g : EF} {apos cpos : Pos} (hu : X.A.units + 65 < cLine) (ho : DE X o to f) (he : DE X e te g) (h1 : attributeBase o "index" X.env (eval o X.env) = eval o X.env := by rfl)
    (h2 : ((backTo cpos (starEach [e] X.env)).all (fun x => !x.1) && (backToKw cpos (keywordEach [] X.env)).all (fun x => x.1.isSome) && decide ([e].length + ([] : List Keyword).length + (if ([] : List Keyword).isEmpty then 0 else 1) < 30)) = true := by rfl)
    (h3 : (apos.endLine == cpos.line) = true := by rfl) (h4 : starEach [e] X.env = (false, eval e X.env) :: starEach [] X.env := by rfl) (h5 : (backTo cpos (starEach [] X.env)).any (·.1) = false := by rfl) :
    DE X (.Call (.Attribute o "index" apos) [e] [] cpos) (tBM X.K "list" (rIndexD X.K) to (tCons te tNil)) (bmE indexD f g) :=
  ⟨pe_bm F.plainAttrs_list F.slot_list_index F.type_list_index (mt_indexD hu) ho.pe (pa_cons he.pe pa_nil h4) h1 h2 h3 h4 h5, sem_bm ops_index ho.sem he.sem⟩
end
end FD
set_option Elab.async false
set_option linter.all false
set_option maxRecDepth 100000
/-! FD14: isinstance, repr, sorted. -/
namespace FD
open PySem PySem.Spec PyProof.Rows L2
section
variable {X : Cx} {K : PySem.W.Frag}
/-! ### isinstance -/
inductive Kd where
  | kInt | kBool | kStr | kList | kTuple | kDict
noncomputable def Kd.nm : Kd → String
  | .kInt => "int" | .kBool => "bool" | .kStr => "str" | .kList => "list" | .kTuple => "tuple" | .kDict => "dict"
noncomputable def Kd.is : Kd → D → Option Bool
  | _, .opq _ => none
  | .kInt, .int _ => some true
  | .kInt, .bl _ => some true
  | .kBool, .bl _ => some true
  | .kStr, .str _ => some true
  | .kList, .lst _ => some true
  | .kList, .scr _ _ => none
  | .kTuple, .tup _ => some true
  | .kDict, .dK _ _ => some true
  | .kDict, .dT _ _ => some true
  | _, .scr _ _ => none
  | _, _ => some false
noncomputable def tyN : D → String
  | .non => "NoneType" | .bl _ => "bool" | .int _ => "int" | .str _ => "str" | .lst _ => "list" | .tup _ => "tuple" | .dK _ _ => "dict" | .dT _ _ => "dict" | _ => ""
theorem kit_all : ∀ c : Kd, kitB "NoneType" c.nm = some false ∧ (kitB "bool" c.nm = some (match c with | .kInt => true | .kBool => true | _ => false)) ∧ (kitB "int" c.nm = some (match c with | .kInt => true | _ => false)) ∧ (kitB "str" c.nm = some (match c with | .kStr => true | _ => false)) ∧
    (kitB "list" c.nm = some (match c with | .kList => true | _ => false)) ∧ (kitB "tuple" c.nm = some (match c with | .kTuple => true | _ => false)) ∧ (kitB "dict" c.nm = some (match c with | .kDict => true | _ => false)) := by
  intro c
  cases c <;> decide +kernel
theorem Kd.ok {c : Kd} {d : D} {b : Bool} (h : c.is d = some b) : kitB (tyN d) c.nm = some b := by
  have k := kit_all c
  cases d with
  | non => rw [show tyN .non = "NoneType" from rfl, k.1]; cases c <;> exact h
  | bl x => rw [show tyN (.bl x) = "bool" from rfl, k.2.1]; cases c <;> exact h
  | int x => rw [show tyN (.int x) = "int" from rfl, k.2.2.1]; cases c <;> exact h
  | str x => rw [show tyN (.str x) = "str" from rfl, k.2.2.2.1]; cases c <;> exact h
  | lst x => rw [show tyN (.lst x) = "list" from rfl, k.2.2.2.2.1]; cases c <;> exact h
  | tup x => rw [show tyN (.tup x) = "tuple" from rfl, k.2.2.2.2.2.1]; cases c <;> exact h
  | dK x y => rw [show tyN (.dK x y) = "dict" from rfl, k.2.2.2.2.2.2]; cases c <;> exact h
  | dT x y => rw [show tyN (.dT x y) = "dict" from rfl, k.2.2.2.2.2.2]; cases c <;> exact h
  | opq x => cases c <;> cases h
  | scr x y => cases c <;> cases h
theorem View.ty {B H : Hp} (e : Same B H) {v : V} {d : D} {c : Kd} {b : Bool} (h : View B H v d) (hb : c.is d = some b) : TyX K H v (.type (tyN d)) := by
  have r := h.rep_h e
  cases r with
  | non => exact .base .non
  | bl b => exact .base (.bl b)
  | int i => exact .base (.int i)
  | str s => exact .base (.str s)
  | lst z _ => exact .base (.lst z)
  | tup z _ => exact .base (.tup z)
  | dK z _ _ => exact .base (.dK z)
  | dT z _ _ => exact .base (.dT z)
  | opq v => cases c <;> cases hb
  | scr h => cases c <;> cases hb
noncomputable def isiD (c : Kd) : D → Option M := fun d => match c.is d with
  | some b => some (.imm (.bl b))
  | none => none
theorem de_isi (c : Kd) {x : Str} {e : Expr} {te : TE} {f : EF} {p p2 pos : Pos} (hm : X.mg "isinstance" = none) (hm2 : X.mg x = none) (hv : bootBuiltins x = some (.type c.nm)) (he : DE X e te f) (hg : Gl X "isinstance" := by rfl) (hg2 : Gl X x := by rfl)
    (h1 : x ≠ Str.ofString "__name__" := by decide) (h2 : (x == Str.ofString "__debug__") = false := by decide)
    (hs : starEach [e, .Name x p2] X.env = (false, eval e X.env) :: starEach [.Name x p2] X.env := by rfl) (hs2 : starEach [.Name x p2] X.env = (false, eval (.Name x p2) X.env) :: starEach [] X.env := by rfl) (hp : (backTo pos (starEach [.Name x p2] X.env)).any (·.1) = false := by rfl) :
    DE X (.Call (.Name "isinstance" p) [e, .Name x p2] [] pos) (tCB (rIsi X.K) (tCons te (tCons (tC (.ty c.nm)) tNil))) (op1 (isiD c) f) :=
  ⟨pe_callB call_isi hg hm (by decide +kernel) (pa_cons he.pe (pa_cons (pe_bltn hg2 hm2 hv rfl h1 h2) pa_nil hs2) hs) (by decide) (by decide) hs hp, ⟨fun C σ ρ ps H r' ρ' h w Q k => by
    unfold op1 at h
    split at h
    · cases h
    rename_i r ρ1 e1
    split at h
    · cases h
    rename_i d ρ2 e2
    split at h
    · cases h
    rename_i m e3
    cases h
    refine he.sem.run C σ ρ ps H r ρ1 e1 w _ fun x H1 w1 => ?_
    obtain ⟨B, w1⟩ := w1
    obtain ⟨B', s1, w2, v1⟩ := w1.vw e2
    unfold isiD at e3
    split at e3
    case h_2 => cases e3
    rename_i b e4
    cases e3
    exact ⟨x, .ty c.nm, _, .type c.nm, b, rfl, .ty _, v1.ty w2.bh e4, kit_ty (Kd.ok e4), k _ _ (W.scal ⟨B', w2.drop⟩ fun _ => .bl _)⟩⟩⟩
/-! ### repr -/
/-- data that repr shows: the whole numbers short -/
noncomputable def D.scalR : D → Bool
  | .non | .bl _ | .str _ => true
  | .int i => sealB (i.natAbs.log2 < 1920)
  | _ => false
noncomputable def D.shw : Nat → D → Bool
  | 0, d => d.scalR
  | n + 1, .lst xs => xs.all (D.shw n)
  | n + 1, .tup xs => xs.all (D.shw n)
  | _ + 1, d => d.scalR
theorem D.scalR_P {d : D} (h : d.scalR = true) : d.toP.plain = true ∧ d.toP.depth = 0 ∧ d.toP.showable = true ∧ d.toP.hasDict = false := by
  cases d <;> first | exact ⟨rfl, rfl, rfl, rfl⟩ | exact ⟨rfl, rfl, decide_eq_true (sealB_is h), rfl⟩ | cases h
theorem D.shw_P : ∀ {n : Nat} {d : D}, D.shw n d = true → d.toP.plain = true ∧ d.toP.depth ≤ n ∧ d.toP.showable = true ∧ d.toP.hasDict = false := by
  intro n
  induction n with
  | zero => intro d h; have := D.scalR_P (d := d) h; exact ⟨this.1, by omega, this.2.2⟩
  | succ n ih =>
    have hs : ∀ xs : List D, xs.all (D.shw n) = true → PyData.plainAll (D.toPs xs) = true ∧ PyData.depthAll (D.toPs xs) ≤ n ∧ PyData.showableAll (D.toPs xs) = true ∧ PyData.hasDictAll (D.toPs xs) = false := by
      intro xs
      induction xs with
      | nil => intro _; exact ⟨rfl, Nat.zero_le _, rfl, rfl⟩
      | cons x xs ihx =>
        intro h
        rw [List.all_cons, Bool.and_eq_true] at h
        have h1 := ih h.1
        have h2 := ihx h.2
        refine ⟨?_, ?_, ?_, ?_⟩
        · show (x.toP.plain && PyData.plainAll (D.toPs xs)) = true
          rw [h1.1, h2.1]; rfl
        · show max x.toP.depth (PyData.depthAll (D.toPs xs)) ≤ n
          omega
        · show (x.toP.showable && PyData.showableAll (D.toPs xs)) = true
          rw [h1.2.2.1, h2.2.2.1]; rfl
        · show (x.toP.hasDict || PyData.hasDictAll (D.toPs xs)) = false
          rw [h1.2.2.2, h2.2.2.2]; rfl
    intro d h
    cases d with
    | lst xs => have := hs xs h; exact ⟨this.1, Nat.succ_le_succ this.2.1, this.2.2⟩
    | tup xs => have := hs xs h; exact ⟨this.1, Nat.succ_le_succ this.2.1, this.2.2⟩
    | non => exact ⟨rfl, Nat.zero_le _, rfl, rfl⟩
    | bl _ => exact ⟨rfl, Nat.zero_le _, rfl, rfl⟩
    | int _ => exact ⟨rfl, Nat.zero_le _, decide_eq_true (sealB_is h), rfl⟩
    | str _ => exact ⟨rfl, Nat.zero_le _, rfl, rfl⟩
    | dK _ _ => cases h
    | dT _ _ => cases h
    | opq _ => cases h
    | scr _ _ => cases h
abbrev rReprX (K : PySem.W.Frag) : List V → Hp → VK → Prop := fun xs H Q => ∃ x d, xs = [x] ∧ Dp K H x d ∧ d.showable = true ∧ d.hasDict = false ∧ d.depth ≤ 12 ∧ d.shown.length ≤ sizeLine ∧ Q (.str d.shown) H
theorem call_reprX (hq : Quiet X.A) (hu : X.A.units + 64 < cLine) : CallR X (.builtin "repr") (rReprX X.K) := by
  intro pins s σ H xs us Q I rv h
  obtain ⟨x, d, rfl, hd, h1, h2, h3, h4, q⟩ := h
  obtain ⟨u, us', ru, rn⟩ : ∃ u us', us = u :: us' ∧ L2.RelV x u ∧ Vals [] us' := by
    cases rv with
    | cons a b => exact ⟨_, _, rfl, a, b⟩
  obtain ⟨ru, rn⟩ := rn
  cases rn
  subst_vars
  obtain ⟨as, rd⟩ := Dp.reads I d x u hd ru
  cases hd with
  | non =>
    cases ru
    exact P.repr_of_none ⟨.str _, H, I.tok _, ⟨_, rfl⟩, q⟩
  | bl b =>
    cases ru
    refine P.repr_of_bool ⟨.str _, H, I.tok _, ⟨_, rfl⟩, ?_⟩
    cases b <;> exact q
  | int i =>
    obtain ⟨t, rfl⟩ := ru
    exact P.repr_of_int (of_decide_eq_true h1) ⟨.str _, H, I.tok _, ⟨_, rfl⟩, q⟩
  | str z =>
    obtain ⟨t, rfl⟩ := ru
    exact P.repr_of_str ⟨.str _, H, I.tok _, ⟨_, rfl⟩, q⟩ h4
  | lst hl ha =>
    cases ru
    exact repr_of_reads' rd h1 (fun z => by rw [h2] at z; cases z) hq (by omega) (fun b o e => e) (fun h' t tk keep => ⟨.str _, H, I.kept keep, ⟨_, rfl⟩, q⟩) h4
  | tup hl ha =>
    cases ru
    exact repr_of_reads' rd h1 (fun z => by rw [h2] at z; cases z) hq (by omega) (fun b o e => e) (fun h' t tk keep => ⟨.str _, H, I.kept keep, ⟨_, rfl⟩, q⟩) h4
noncomputable def reprD : List D → Option M
  | [d] => if D.shw 12 d && smallL d.toP.shown.length then some (.imm (.str d.toP.shown)) else none
  | _ => none
theorem cs_repr : CallS (rReprX K) reprD := by
  intro C B H its fp vs ds m w vv h Q k
  unfold reprD at h
  split at h
  · obtain ⟨v, rfl, v1⟩ := vv.one
    split at h
    case isFalse => cases h
    rename_i hs
    rw [Bool.and_eq_true] at hs
    cases h
    have p1 := D.shw_P hs.1
    exact ⟨_, _, rfl, (v1.rep_h w.bh).dp p1.1, p1.2.2.1, p1.2.2.2, p1.2.1, small_line hs.2, w.scal (.str _) k⟩
  · cases h
theorem de_repr {p pos : Pos} {e : Expr} {t : TA} {g : AF} (hq : Quiet X.A) (hu : X.A.units + 64 < cLine) (hm : X.mg "repr" = none) (ha : DL X [e] t g) (hg : Gl X "repr" := by rfl) (he : starEach [e] X.env = (false, eval e X.env) :: starEach [] X.env := by rfl) :
    DE X (.Call (.Name "repr" p) [e] [] pos) (tCB (rReprX X.K) t) (callE reprD g) := de_fun cs_repr (call_reprX hq hu) hm (by decide +kernel) ha hg (by decide) (by decide) he rfl
/-! ### sorted -/
noncomputable abbrev dLe : D → D → Bool := W.dataLe false D.toP
abbrev rSortX (K : PySem.W.Frag) : List V → Hp → VK → Prop := fun xs H Q => ∃ (B : Hp) (p : Addr) (vs : List V) (ds : List D), xs = [.ref p] ∧ Same B H ∧ SqL K H p vs ∧ Reps B vs ds ∧ PyData.plainAll (D.toPs ds) = true ∧ W.AllAlike (ds.map D.toP) ∧ W.Sortable (ds.map D.toP) ∧ (∀ d ∈ ds, d.toP.depth ≤ 12) ∧ ds.length ≤ sizeLine ∧
  ∀ ws q, Reps B ws (ds.mergeSort dLe) → H q = none → Q (.ref q) (upd H q (.lst ws))
theorem each_rel {B : Hp} : ∀ {vs : List V} {ds : List D} {us : List Value}, Reps B vs ds → Vals vs us → W.EachIs (fun u d => ∃ v, L2.RelV v u ∧ Rep B v d) us ds
  | _, _, _, .nil, .nil => .nil
  | _, _, _, .cons a b, .cons c e => .cons ⟨_, c, a⟩ (each_rel b e)
theorem each_back {B : Hp} : ∀ {us : List Value} {ds : List D}, W.EachIs (fun u d => ∃ v, L2.RelV v u ∧ Rep B v d) us ds → ∃ vs, Reps B vs ds ∧ Vals vs us
  | _, _, .nil => ⟨[], .nil, .nil⟩
  | _, _, .cons ⟨v, a, b⟩ r => by
    obtain ⟨vs, c, e⟩ := each_back r
    exact ⟨v :: vs, .cons b c, .cons a e⟩
theorem each_reads {pins : List (Addr × Obj)} {σ : L2.St} {H B : Hp} {sh : Shared} (I : L2.Inv X pins σ H sh) (e : Same B H) : ∀ {vs : List V} {ds : List D} {us : List Value}, Reps B vs ds → Vals vs us → PyData.plainAll (D.toPs ds) = true → W.EachIs (fun u d => ∃ as, Reads sh.heap u (D.toP d) as) us ds
  | _, _, _, .nil, .nil, _ => .nil
  | _, _, _, .cons a b, .cons c f, h => by
    have h' := Bool.and_eq_true_iff.mp h
    exact .cons (Dp.reads I _ _ _ ((a.mono e).dp (K := X.K) h'.1) c) (each_reads I e b f h'.2)
theorem call_sortX (hu : X.A.units + 64 < cLine) : CallR X (.builtin "sorted") (rSortX X.K) := by
  intro pins s σ H xs us Q I rv h
  obtain ⟨B, p, vs, ds, rfl, sm, hs, rp, pl, al, so, dp, ln, q⟩ := h
  rw [Vals.ref1 rv]
  obtain ⟨its, r2, hl, hz⟩ := I.list hs
  refine W.sorted_data (enc := D.toP) (bs := ds) (R := fun u d => ∃ v, L2.RelV v u ∧ Rep B v d) hl.isList (each_rel rp r2) (each_reads I sm rp r2 pl) al so ln (fun b hb => by have := dp b hb; omega) fun out ho ea => ?_
  obtain ⟨ws, h1, h2⟩ := each_back ea
  obtain ⟨ep, he⟩ := sortedAll_at s.heap its out.toArray
  have hlen : ws.length ≤ sizeLine := by rw [h2.length, ho]; exact ln
  exact ⟨.ref (s.heap.objs.size + 1), upd H (s.heap.objs.size + 1) (.lst ws), I.laid (fun _ _ => sortedAll_old) (Nat.le_succ _) ⟨hlen, out, ep, h2, he⟩, rfl, q ws _ h1 (HOk.fresh I.hok (Nat.le_succ _))⟩
/-- the items of one kind, not None -/
noncomputable def okSort (xs : List D) : Bool := xs.all (D.ok 12) && smallL xs.length
noncomputable def sortD : List D → Option M
  | [.lst xs] => open Classical in if okSort xs = true ∧ W.AllAlike (xs.map D.toP) ∧ W.Sortable (xs.map D.toP) then some (.lst (xs.mergeSort dLe)) else none
  | _ => none
theorem plain_all {n : Nat} : ∀ {xs : List D}, xs.all (D.ok n) = true → PyData.plainAll (D.toPs xs) = true ∧ ∀ d ∈ xs, d.toP.depth ≤ n
  | [], _ => ⟨rfl, fun _ h => by cases h⟩
  | x :: xs, h => by
    rw [List.all_cons, Bool.and_eq_true] at h
    have h1 := D.ok_P h.1
    have h2 := plain_all h.2
    refine ⟨?_, fun d hd => ?_⟩
    · show (x.toP.plain && PyData.plainAll (D.toPs xs)) = true
      rw [h1.1, h2.1]; rfl
    · rcases List.mem_cons.mp hd with e | hd
      · rw [e]; exact h1.2
      · exact h2.2 d hd
theorem cs_sort : CallS (rSortX K) sortD := by
  intro C B H its fp vs ds m w vv h Q k
  unfold sortD at h
  split at h
  · obtain ⟨v, rfl, v1⟩ := vv.one
    split at h
    case isFalse => cases h
    rename_i xs hs
    cases h
    obtain ⟨p, us, rfl, hp, rr⟩ := v1.lst_ w.bh
    have o1 := Bool.and_eq_true_iff.mp hs.1
    have o2 := plain_all o1.1
    exact ⟨B, p, us, xs, rfl, w.bh, SqL.of hp, rr, o2.1, hs.2.1, hs.2.2, o2.2, small_line o1.2, fun ws q h1 h2 => k _ _ _ _ (w.new_lst h2 h1)⟩
  · cases h
theorem de_sort {p pos : Pos} {e : Expr} {t : TA} {g : AF} (hu : X.A.units + 64 < cLine) (hm : X.mg "sorted" = none) (ha : DL X [e] t g) (hg : Gl X "sorted" := by rfl) (he : starEach [e] X.env = (false, eval e X.env) :: starEach [] X.env := by rfl) :
    DE X (.Call (.Name "sorted" p) [e] [] pos) (tCB (rSortX X.K) t) (callE sortD g) := de_fun cs_sort (call_sortX hu) hm (by decide +kernel) ha hg (by decide) (by decide) he rfl
end
end FD
set_option Elab.async false
set_option linter.all false
set_option maxRecDepth 100000
/-! FD15: methods that change, loops over enumerate and zip, keyword calls. -/
namespace FD
open PySem PySem.Spec PyProof.Rows L2
section
variable {X : Cx} {K : PySem.W.Frag}
abbrev Meth1 (X : Cx) (o : Expr) (nm : Str) (apos : Pos) (e : Expr) (cpos : Pos) : Prop := attributeBase o nm X.env (eval o X.env) = eval o X.env ∧
  ((backTo cpos (starEach [e] X.env)).all (fun x => !x.1) && (backToKw cpos (keywordEach [] X.env)).all (fun x => x.1.isSome) && decide ([e].length + ([] : List Keyword).length + (if ([] : List Keyword).isEmpty then 0 else 1) < 30)) = true ∧
  (apos.endLine == cpos.line) = true ∧ starEach [e] X.env = (false, eval e X.env) :: starEach [] X.env ∧ (backTo cpos (starEach [] X.env)).any (·.1) = false
theorem de_app (i : Nat) {x : Str} {px apos cpos : Pos} {e : Expr} {te : TE} {f : EF} (he : DE X e te f) (hN : X.N[i]? = some x := by rfl) (hv : Vis X.env.scope x := by first | exact Or.inl rfl | exact Or.inr (Or.inl rfl) | exact Or.inr (Or.inr rfl)) (hd : (x == ("__debug__" : Str)) = false := by decide) (hcd : (x == ("__classdict__" : Str)) = false := by decide)
    (hm : Meth1 X (.Name x px) "append" apos e cpos := by exact ⟨rfl, rfl, rfl, rfl, rfl⟩) :
    DE X (.Call (.Attribute (.Name x px) "append" apos) [e] [] cpos) (tBM X.K "list" rAppend (tVar i) (tCons te tNil)) (appE i f) :=
  ⟨pe_bm F.plainAttrs_list F.slot_list_append F.type_list_append mt_append (pe_var hN hv hd hcd) (pa_cons he.pe pa_nil hm.2.2.2.1) hm.1 hm.2.1 hm.2.2.1 hm.2.2.2.1 hm.2.2.2.2, sem_app he.sem⟩
theorem de_pop (i : Nat) {x : Str} {px apos cpos : Pos} (hN : X.N[i]? = some x := by rfl) (hv : Vis X.env.scope x := by first | exact Or.inl rfl | exact Or.inr (Or.inl rfl) | exact Or.inr (Or.inr rfl)) (hd : (x == ("__debug__" : Str)) = false := by decide) (hcd : (x == ("__classdict__" : Str)) = false := by decide)
    (h1 : attributeBase (.Name x px) "pop" X.env (eval (.Name x px) X.env) = eval (.Name x px) X.env := by rfl) (h2 : (apos.endLine == cpos.line) = true := by rfl) :
    DE X (.Call (.Attribute (.Name x px) "pop" apos) [] [] cpos) (tBM0 X.K "list" rPop (tVar i)) (popE i) :=
  ⟨pe_bm0 F.plainAttrs_list F.slot_list_pop F.type_list_pop mt_pop (pe_var hN hv hd hcd) h1 h2, sem_pop⟩
/-! ### x.pop(i) of a list of shared items -/
noncomputable def popAtE (i : Nat) (f : EF) : EF := fun ρ => if isL ρ[i]? then match f ρ with
  | none => none
  | some (r, ρ1) => match vw r ρ1 with
    | some (.int k, ρ2) => match ρ2[i]? with
      | some (some (.lst ds)) => if rngOk k then match seqIndex? k ds.length with
          | some j => match ds[j]? with
            | some d => some (.tmp (.imm d), ρ2.set i (some (.lst (ds.eraseIdx j))))
            | none => none
          | none => none
        else none
      | _ => none
    | _ => none
  else none
theorem sem_popAt {i : Nat} {te : TE} {f : EF} (he : SemE te f) : SemE (tBM K "list" rPopAt (tVar i) (tCons te tNil)) (popAtE i f) := ⟨fun C σ ρ ps H r ρ' h w Q k => by
  unfold popAtE at h
  split at h
  case isFalse => cases h
  rename_i hL
  obtain ⟨B0, w0⟩ := w
  obtain ⟨p, vs0, m0, hv, hp0, _⟩ := w0.slot_list hL
  refine ⟨.ref p, hv, .inl ⟨rfl, vs0, SqL.of hp0⟩, ?_⟩
  split at h
  · cases h
  rename_i r1 ρ1 e1
  split at h
  · rename_i kk ρ2 e2
    split at h
    · rename_i ds e3
      split at h
      case isFalse => cases h
      rename_i hk
      split at h
      case h_2 => cases h
      rename_i j e4
      split at h
      case h_2 => cases h
      rename_i d e5
      cases h
      refine he.run C σ ρ ps H r1 ρ1 e1 ⟨B0, w0⟩ _ fun y H1 w1 => ?_
      obtain ⟨B, w1⟩ := w1
      obtain ⟨B', s1, w2, v1⟩ := w1.vw e2
      cases v1.int
      have w3 := w2.drop
      have w4 := w3.take e3 hv
      obtain ⟨fp, z⟩ := w4.tmp
      obtain ⟨q, vs, e6, hp, rr⟩ := z.at_lst
      cases e6
      obtain ⟨u, h1, h2⟩ := rr.get e5
      have hk' := sealB_is hk
      refine ⟨p, vs, kk, j, u, rfl, rfl, hp, by have := hk'.1; omega, by have := hk'.2; omega, by rw [rr.length]; exact e4, h1, ?_⟩
      have z2 := z.set_lst (rr.eraseIdx j)
      have w5 : WB C B' σ (ρ2.set i none) ((.ref p, .tmp (.lst (ds.eraseIdx j))) :: ps) (upd H1 p (.lst (vs.eraseIdx j))) := .of_tmp w4.cov w4.psr z2
      exact k _ _ ⟨B', (w5.give (List.getElem?_eq_some_iff.mp e3).1 hv).imm h2⟩
    · cases h
  · cases h⟩
theorem de_popAt (i : Nat) {x : Str} {px apos cpos : Pos} {e : Expr} {te : TE} {f : EF} (he : DE X e te f) (hN : X.N[i]? = some x := by rfl) (hv : Vis X.env.scope x := by first | exact Or.inl rfl | exact Or.inr (Or.inl rfl) | exact Or.inr (Or.inr rfl)) (hd : (x == ("__debug__" : Str)) = false := by decide) (hcd : (x == ("__classdict__" : Str)) = false := by decide)
    (hm : Meth1 X (.Name x px) "pop" apos e cpos := by exact ⟨rfl, rfl, rfl, rfl, rfl⟩) :
    DE X (.Call (.Attribute (.Name x px) "pop" apos) [e] [] cpos) (tBM X.K "list" rPopAt (tVar i) (tCons te tNil)) (popAtE i f) :=
  ⟨pe_bm F.plainAttrs_list F.slot_list_pop F.type_list_pop mt_popAt (pe_var hN hv hd hcd) (pa_cons he.pe pa_nil hm.2.2.2.1) hm.1 hm.2.1 hm.2.2.1 hm.2.2.2.1 hm.2.2.2.2, sem_popAt he.sem⟩
/-! ### loops over enumerate, zip -/
theorem di_enum {e : Expr} {tl : TA} {g : AF} {p pos tpos : Pos} {elts : List Expr} {kk : Nat} (hm : X.mg "enumerate" = none) (h : DL X [e] tl g) (hg : Gl X "enumerate" := by rfl) (hs : starEach [e] X.env = [(false, eval e X.env)] := by rfl) :
    DI X (.Tuple elts kk tpos) (.Call (.Name "enumerate" p) [e] [] pos) (iEnum X.K tl) (enumI g) := ⟨pi_enum hg hm h.pa hs, sem_enumI h.sem⟩
theorem di_zip {e e2 : Expr} {tl : TA} {g : AF} {p pos tpos : Pos} {elts : List Expr} {kk : Nat} (hm : X.mg "zip" = none) (h : DL X [e, e2] tl g) (hg : Gl X "zip" := by rfl) (hs : starEach [e, e2] X.env = (false, eval e X.env) :: starEach [e2] X.env := by rfl) (hp : (backTo pos (starEach [e2] X.env)).any (·.1) = false := by rfl) :
    DI X (.Tuple elts kk tpos) (.Call (.Name "zip" p) [e, e2] [] pos) (iZip X.K tl) (zipI g) := ⟨pi_zip hg hm h.pa hs hp, sem_zipI h.sem⟩
/-! ### calls by names -/
noncomputable def permA (perm : List Nat) (g : AF) : AF := fun ρ => match g ρ with
  | none => none
  | some (rs, ρ') => if rs.length = perm.length then some (perm.map fun i => rs.getD i (.slt 0), ρ') else none
noncomputable def permT (perm : List Nat) (t : TA) : TA := fun σ H Q => t σ H fun vs H' => vs.length = perm.length ∧ Q (perm.map fun i => vs.getD i .non) H'
theorem perm_list {α : Type} (d : α) {perm : List Nat} {n : Nat} (hp : perm.Perm (List.range n)) {l : List α} (hl : l.length = n) : (perm.map fun i => l.getD i d).Perm l := by
  refine (hp.map _).trans ?_
  have : (List.range n).map (fun i => l.getD i d) = l := by
    apply List.ext_getElem
    · rw [List.length_map, List.length_range, hl]
    · intro i h1 h2
      rw [List.getElem_map, List.getElem_range]
      simp [List.getD, List.getElem?_eq_getElem h2]
  rw [this]
theorem sem_permL {perm : List Nat} {t : TA} {g : AF} (hp : perm.Perm (List.range perm.length)) (h : SemL t g) : SemL (permT perm t) (permA perm g) := ⟨fun C σ ρ ps H rs ρ' q w Q k => by
  unfold permA at q
  split at q
  · cases q
  rename_i rs0 ρ1 e1
  split at q
  case isFalse => cases q
  rename_i hl
  cases q
  refine h.run C σ ρ ps H rs0 ρ' e1 w _ fun vs H1 l w1 => ?_
  refine ⟨l.trans hl, k _ H1 (by rw [List.length_map, List.length_map]) ?_⟩
  have e : zps (perm.map fun i => vs.getD i .non) (perm.map fun i => rs0.getD i (.slt 0)) = perm.map fun i => (zps vs rs0).getD i (.non, .slt 0) := by
    have : ∀ i : Nat, (zps vs rs0).getD i (.non, .slt 0) = (vs.getD i .non, rs0.getD i (.slt 0)) := by
      intro i
      unfold zps
      rcases Nat.lt_or_ge i vs.length with q | q
      · have q2 : i < rs0.length := by omega
        have : (vs.zip rs0)[i]? = some (vs[i], rs0[i]) := List.getElem?_zip_eq_some.mpr ⟨List.getElem?_eq_getElem q, List.getElem?_eq_getElem q2⟩
        simp [List.getD, List.getElem?_eq_getElem q, List.getElem?_eq_getElem q2, this]
      · have q2 : rs0.length ≤ i := by omega
        have : (vs.zip rs0)[i]? = none := List.getElem?_eq_none (by rw [List.length_zip]; omega)
        simp [List.getD, List.getElem?_eq_none q, List.getElem?_eq_none q2, this]
    rw [List.map_congr_left (g := fun i => (vs.getD i .non, rs0.getD i (.slt 0))) fun i _ => this i]
    clear this
    generalize perm = l
    induction l with
    | nil => rfl
    | cons a l ih => simp only [List.map_cons, zps, List.zip_cons_cons]; exact congrArg _ ih
  rw [e]
  refine w1.permP ((perm_list _ hp ?_).symm.append_right _)
  unfold zps
  rw [List.length_zip, l, Nat.min_self, hl]⟩
structure DKw (X : Cx) (kws : List Keyword) (ta : TA) (f : AF) : Prop where
  pk : PK X kws ta
  sem : SemL ta f
theorem dk_nil : DKw X [] tNil nilA := ⟨pk_nil, sem_nil⟩
theorem dk_cons {kpos : Pos} {e : Expr} {kws : List Keyword} {te : TE} {t : TA} {nm : Option Str} {f : EF} {g : AF} (he : DE X e te f) (hr : DKw X kws t g) : DKw X ({ arg := nm, value := e, pos := kpos } :: kws) (tCons te t) (consA f g) := ⟨pk_cons he.pe hr.pk, sem_cons he.sem hr.sem⟩
/-- a def as callers by names see it -/
structure KnW (P : Program) (w : World) (K : PySem.W.Frag) (mg : Str → Option Value) (base : Heap) (k : Nat) (x : Str) (n : Nat) (io : List Nat) (F : FF) (ks : List Str) (perm : List Nat) : Prop where
  ex : ∃ (f : Addr) (fd : FuncData) (ps : List Str), GOk P w K mg base CX0 k f fd ps (spG n io F) ∧ mg x = some (.ref f) ∧ PySem.W.keepIn K (.ref f) = true ∧ (∀ (s : Shared) (ws : List Value), K.In s.heap → ws.length = perm.length → ps.length = perm.length → BindsTo s fd { pos := [], kw := ks.zip ws } (ps.zip (perm.map fun i => ws.getD i .none)))
theorem KnW.mono {P : Program} {w : World} {K : PySem.W.Frag} {mg : Str → Option Value} {base : Heap} {j k : Nat} {x : Str} {n : Nat} {io : List Nat} {F : FF} {ks : List Str} {perm : List Nat} (h : KnW P w K mg base j x n io F ks perm) (l : j ≤ k) : KnW P w K mg base k x n io F ks perm :=
  let ⟨f, fd, ps, a, b, c, d⟩ := h.ex
  ⟨f, fd, ps, a.mono l, b, c, d⟩
theorem vals_getD {zs : List V} {ws : List Value} (r : Vals zs ws) (i : Nat) : L2.RelV (zs.getD i .non) (ws.getD i .none) := by
  induction r generalizing i with
  | nil => exact rfl
  | cons a b ih =>
    cases i with
    | zero => exact a
    | succ i => exact ih i
theorem vals_perm {zs : List V} {ws : List Value} (r : Vals zs ws) : ∀ perm : List Nat, Vals (perm.map fun i => zs.getD i .non) (perm.map fun i => ws.getD i .none)
  | [] => .nil
  | i :: l => .cons (vals_getD r i) (vals_perm r l)
theorem permA_len {perm : List Nat} {g : AF} : ∀ ρ rs ρ', permA perm g ρ = some (rs, ρ') → rs.length = perm.length := fun ρ rs ρ' q => by
  unfold permA at q
  split at q
  · cases q
  split at q
  · cases q; rw [List.length_map]
  · cases q
theorem de_callK {k n : Nat} {x : Str} {io : List Nat} {F : FF} {ks : List Str} {perm : List Nat} {kws : List Keyword} {t : TA} {g : AF} {p pos : Pos} (h : KnW X.prog X.w X.K X.mg X.base k x n io F ks perm) (hgd : Quiet X.A) (hr : Room k X.A) (ha : DKw X kws t g) (hn : perm.length = n := by rfl) (hp : perm.Perm (List.range perm.length) := by decide) (hio : ∀ i ∈ io, i < n := by decide) (hg : Gl X x := by rfl)
    (hall : ((backToKw pos (keywordEach kws X.env)).all fun x => x.1.isSome) = true := by rfl) (hks : List.filterMap (fun x => x.1) (backToKw pos (keywordEach kws X.env)) = ks := by rfl)
    (hdb : (x == ("__debug__" : Str)) = false := by decide) (hpl : (((backTo pos (starEach [] X.env)).any fun x => x.1) || (backToKw pos (keywordEach kws X.env)).any fun x => x.1.isNone) = false := by rfl) :
    DE X (.Call (.Name x p) [] kws pos) (fun σ H Q => t σ H fun zs H1 => zs.length = perm.length ∧ spG n io F (perm.map fun i => zs.getD i .non) H1 Q E0) (callG io F (permA perm g)) := by
  obtain ⟨f, fd, ps, G, hm, hk, hb⟩ := h.ex
  refine ⟨g_call0 G hgd hr hg hm hk ks perm.length (fun ws => perm.map fun i => ws.getD i .none) (fun zs => perm.map fun i => zs.getD i .non) (fun s ws hK hw hl => hb s ws hK hw ?_) (fun zs ws r => vals_perm r perm) pass0 ha.pk hall hks hdb hpl, ⟨fun C σ ρ ps' H r ρ' q w Q kk => ?_⟩⟩
  · rw [← hl, List.length_map]
  · have S := sem_callG (n := n) (io := io) (F := F) (E := E0) (sem_permL hp ha.sem) (fun ρ rs ρ' q => (permA_len ρ rs ρ' q).trans hn) hio
    have z := S.run C σ ρ ps' H r ρ' q w Q kk
    unfold tCall permT at z
    simp only [List.append_nil] at z
    exact z
end
end FD
set_option Elab.async false
set_option linter.all false
set_option maxRecDepth 100000
/-! FD16: constants of the module, the script, truths by is, dict comprehensions, inner appends. -/
namespace FD
open PySem PySem.Spec PyProof.Rows L2
section
variable {X : Cx} {K : PySem.W.Frag}
theorem de_gint {x : Str} {n : Int} {pos : Pos} (h : ∃ t, X.mg x = some (.int n t)) (hg : Gl X x := by rfl) (hd : (x == Str.ofString "__debug__") = false := by decide) : DE X (.Name x pos) (tC (.int n)) (constE (.int n)) := by
  obtain ⟨t, h⟩ := h
  exact ⟨pe_glob hg h ⟨t, rfl⟩ hd, sem_c fun _ => .int n⟩
/-! ### the script -/
noncomputable def ixS (K : PySem.W.Frag) : D → D → Option M
  | .scr K' ns, .int i => open Classical in if K' = K then (atI ns i).map fun n => .imm (.int n) else none
  | _, _ => none
theorem ops_ixS : OpS (rIx K) (ixS K) := by
  intro C B H its fp x y d e m w v1 v2 h Q k
  unfold ixS at h
  split at h
  · split at h
    case isFalse => cases h
    rename_i ns i e0
    subst e0
    rw [Option.map_eq_some_iff] at h
    obtain ⟨n, h1, rfl⟩ := h
    obtain ⟨p, rfl, hs⟩ := v1.scr w.bh
    have h2 : atI (ns.map V.int) i = some (.int n) := by
      unfold atI at h1 ⊢
      rw [List.length_map]
      rw [Option.bind_eq_some_iff] at h1 ⊢
      obtain ⟨j, e1, e2⟩ := h1
      exact ⟨j, e1, by rw [List.getElem?_map, e2]; rfl⟩
    exact .inl ⟨p, _, i, .int n, rfl, v2.int, hs, h2, w.scal (.int _) k⟩
  · cases h
theorem de_ixS {a b : Expr} {ta tb : TE} {f1 f2 : EF} {pos : Pos} (ha : DE X a ta f1) (hb : DE X b tb f2) (hs : PlainIx b := by exact fun _ _ => rfl) : DE X (.Subscript a b pos) (tOp (rIx X.K) ta tb) (op2 (ixS X.K) f1 f2) := ⟨pe_ix ix_seq ha.pe hb.pe hs, sem_op ops_ixS ha.sem hb.sem⟩
noncomputable def sum1S (K : PySem.W.Frag) (i : Nat) : EF := fun ρ => match ρ[i]? with
  | some (some (.imm (.scr K' ns))) => open Classical in if K' = K then some (.tmp (.imm (.int (ns.take 1).sum)), ρ) else none
  | _ => none
theorem de_sum1S {x : Str} {p p1 p2 p3 pos : Pos} {j : Nat} (hm : X.mg "sum" = none) (i : Nat) (hN : X.N[i]? = some x := by rfl) (hv : Vis X.env.scope x := by first | exact Or.inl rfl | exact Or.inr (Or.inl rfl) | exact Or.inr (Or.inr rfl)) (hd : (x == ("__debug__" : Str)) = false := by decide) (hcd : (x == ("__classdict__" : Str)) = false := by decide)
    (hc : X.calm = true := by rfl) (hg : Gl X "sum" := by rfl) (he : starEach [.Subscript (.Name x p1) (.Slice none (some (.Constant (.int 1) j p3)) none p2) p] X.env = (false, eval (.Subscript (.Name x p1) (.Slice none (some (.Constant (.int 1) j p3)) none p2) p) X.env) :: starEach [] X.env := by rfl) {pn : Pos} :
    DE X (.Call (.Name "sum" pn) [.Subscript (.Name x p1) (.Slice none (some (.Constant (.int 1) j p3)) none p2) p] [] pos) (tCB (rSum X.K) (tCons (tSl (rSlL X.K) (tVar i) tNoPart (tPart (tC (.int 1)))) tNil)) (sum1S X.K i) :=
  ⟨pe_callB (cr_sum hc) hg hm (by decide +kernel) (pa_cons (pe_slice sl_list (pe_var hN hv hd hcd) po_none (po_some pe_int)) pa_nil he) (by decide) (by decide) he rfl, ⟨fun C σ ρ ps H r ρ' q w Q k => by
    unfold sum1S at q
    split at q
    · rename_i K' ns e
      split at q
      case isFalse => cases q
      rename_i e0
      subst e0
      cases q
      obtain ⟨B, w⟩ := w
      obtain ⟨v, hv'⟩ := w.cov.has i _ e
      have w1 := w.take e hv'
      have rp := w1.imm_rep
      cases rp with
      | scr hs =>
        rename_i a
        have hs' := SqL_mono w.bh hs
        refine ⟨_, hv', _, rfl, a, ns.map V.int, rfl, hs', fun l hl => ?_⟩
        have hcut : cutV (ns.map V.int) none (some 1) = (ns.take 1).map V.int := by
          cases ns with
          | nil => rfl
          | cons n l => simp [cutV, HT.sIx]
        rw [hcut]
        refine ⟨l, ns.take 1, rfl, SqL.of upd_same, ?_⟩
        obtain ⟨fp, z⟩ := w.wd
        have z2 := z.new_lst (vs := (ns.take 1).map V.int) (ds := (ns.take 1).map D.int) hl (by
          induction ns.take 1 with
          | nil => exact .nil
          | cons n l ih => exact .cons (.int n) ih)
        have w2 := w.front z2
        exact k _ _ (w2.drop.scal fun _ => .int _)
    · cases q⟩⟩
/-! ### x is True -/
noncomputable def isB2 (neg : Bool) : D → D → Option M
  | .bl a, .bl b => some (.imm (.bl (if neg then !decide (a = b) else decide (a = b))))
  | _, _ => none
theorem ops_isB : OpS (fun x y H Q => ∃ a b, x = .bl a ∧ y = .bl b ∧ Q (.bl (decide (a = b))) H) (isB2 false) := by
  intro C B H its fp x y d e m w v1 v2 h Q k
  unfold isB2 at h
  split at h
  · cases h
    exact ⟨_, _, v1.bl, v2.bl, w.scal (.bl _) k⟩
  · cases h
theorem ops_isntB : OpS (fun x y H Q => ∃ a b, x = .bl a ∧ y = .bl b ∧ Q (.bl (!decide (a = b))) H) (isB2 true) := by
  intro C B H its fp x y d e m w v1 v2 h Q k
  unfold isB2 at h
  split at h
  · cases h
    exact ⟨_, _, v1.bl, v2.bl, w.scal (.bl _) k⟩
  · cases h
theorem dt_is_b {a b : Expr} {ta tb : TE} {f1 f2 : EF} {pos : Pos} (ha : DE X a ta f1) (hb : DE X b tb f2) : DT X (.Compare a [.Is] [b] pos) (tTest (tOp (fun x y H Q => ∃ a b, x = .bl a ∧ y = .bl b ∧ Q (.bl (decide (a = b))) H) ta tb)) (boolT (op2 (isB2 false) f1 f2)) := dt_cmp op_is_bl ops_isB ha hb (nomark _)
theorem dt_isnt_b {a b : Expr} {ta tb : TE} {f1 f2 : EF} {pos : Pos} (ha : DE X a ta f1) (hb : DE X b tb f2) : DT X (.Compare a [.IsNot] [b] pos) (tTest (tOp (fun x y H Q => ∃ a b, x = .bl a ∧ y = .bl b ∧ Q (.bl (!decide (a = b))) H) ta tb)) (boolT (op2 (isB2 true) f1 f2)) := dt_cmp op_isnot_bl ops_isntB ha hb (nomark _)
/-! ### dict comprehensions -/
noncomputable def hasK (ks : List Key) (k : Key) : Bool := ks.any fun a => decide (a = k)
noncomputable def putKs (ks : List Key) (k : Key) : List Key := if hasK ks k then ks else ks ++ [k]
noncomputable def putVs {α : Type} (ks : List Key) (vs : List α) (k : Key) (v : α) : List α := if hasK ks k then List.zipWith (fun a b => if a = k then v else b) ks vs else vs ++ [v]
theorem putKs_len {α : Type} {ks : List Key} {vs : List α} {k : Key} {v : α} (l : ks.length = vs.length) : (putKs ks k).length = (putVs ks vs k v).length := by
  unfold putKs putVs
  split
  · rw [List.length_zipWith, l, Nat.min_self]
  · rw [List.length_append, List.length_append, l]; rfl
theorem putK_zip : ∀ {ks : List Key} {vs : List V} {k : Key} {v : V}, ks.length = vs.length → putK (ks.zip vs) k v = (putKs ks k).zip (putVs ks vs k v) := by
  intro ks vs k v l
  have any_ : ∀ (ks : List Key) (vs : List V), ks.length = vs.length → ((ks.zip vs).any fun kv => decide (kv.1 = k)) = hasK ks k := by
    intro ks
    induction ks with
    | nil => intro vs l; rfl
    | cons a ks ih =>
      intro vs l
      cases vs with
      | nil => cases l
      | cons b vs =>
        have := ih vs (by simpa using l)
        rw [List.zip_cons_cons, List.any_cons, this]
        rfl
  have map_ : ∀ (ks : List Key) (vs : List V), ks.length = vs.length → (ks.zip vs).map (fun kv => if kv.1 = k then (kv.1, v) else kv) = ks.zip (List.zipWith (fun a b => if a = k then v else b) ks vs) := by
    intro ks
    induction ks with
    | nil => intro vs l; rfl
    | cons a ks ih =>
      intro vs l
      cases vs with
      | nil => cases l
      | cons b vs =>
        rw [List.zip_cons_cons, List.map_cons, ih vs (by simpa using l), List.zipWith_cons_cons, List.zip_cons_cons]
        by_cases h : a = k
        · simp [h]
        · simp [h]
  unfold putK putKs putVs
  rw [any_ ks vs l]
  by_cases h : hasK ks k = true
  · simp only [h, if_true]
    exact map_ ks vs l
  · simp only [h]
    rw [if_neg Bool.false_ne_true, if_neg Bool.false_ne_true, if_neg Bool.false_ne_true, List.zip_append l]
    rfl
theorem Reps.put1 {B : Hp} {k : Key} {v : V} {d : D} (r1 : Rep B v d) : ∀ {ks : List Key} {vs : List V} {ds : List D}, Reps B vs ds → Reps B (List.zipWith (fun a b => if a = k then v else b) ks vs) (List.zipWith (fun a b => if a = k then d else b) ks ds)
  | [], _, _, _ => .nil
  | _ :: _, _, _, .nil => .nil
  | k0 :: ks, _, _, .cons a b => by
    rw [List.zipWith_cons_cons, List.zipWith_cons_cons]
    refine .cons ?_ (Reps.put1 r1 b)
    split
    · exact r1
    · exact a
theorem Reps.put {B : Hp} {k : Key} {v : V} {d : D} (r1 : Rep B v d) {ks : List Key} {vs : List V} {ds : List D} (r : Reps B vs ds) : Reps B (putVs ks vs k v) (putVs ks ds k d) := by
  unfold putVs
  split
  · exact Reps.put1 r1 r
  · exact r.append (.cons r1 .nil)
theorem Wld.at_dK {C : Cz} {B H : Hp} {its : List Item} {fp : List Addr} {v : V} {ks : List Key} {ds : List D} (w : Wld C B H ((v, .dK ks ds) :: its) fp) : ∃ p vs, v = .ref p ∧ H p = some (.dK (ks.zip vs)) ∧ ks.length = vs.length ∧ Reps B vs ds := by
  cases w with
  | mk bh rh b0 br it nd fr =>
  cases it with
  | @cons _ _ f _ g h rest =>
    cases h with
    | dK h0 l0 r0 => exact ⟨_, _, rfl, h0, l0, r0⟩
noncomputable def dcl (vs : List Nat) (G : GF) (p : TF) (fk fv : EF) : List D → List Key → List D → Env → Option ((List Key × List D) × Env)
  | [], ks, es, ρ => some ((ks, es), ρ)
  | d :: ds, ks, es, ρ => match G (.imm d) ρ with
    | none => none
    | some ρ1 => match p ρ1 with
      | none => none
      | some (false, ρ2) => dcl vs G p fk fv ds ks es (wipeF vs ρ2)
      | some (true, ρ2) => match frzA fk ρ2 with
        | some (.tmp (.imm dk), ρ3) => match key1 dk with
          | none => none
          | some k => match frzA fv ρ3 with
            | some (.tmp (.imm dv), ρ4) => dcl vs G p fk fv ds (putKs ks k) (putVs ks es k dv) (wipeF vs ρ4)
            | _ => none
        | _ => none
theorem putVs_le {α : Type} {ks : List Key} {vs : List α} {k : Key} {v : α} : (putVs ks vs k v).length ≤ vs.length + 1 := by
  unfold putVs
  split
  · rw [List.length_zipWith]; omega
  · rw [List.length_append]; simp
noncomputable def dcE (vs : List Nat) (it : IF) (G : GF) (p : TF) (fk fv : EF) : EF := fun ρ => match it ρ with
  | none => none
  | some (ds, bk, ρ1) => if smallL ds.length && bk.all (fun p => decide (p.1 ∉ vs)) then match dcl vs G p fk fv ds [] [] (wipeF vs ρ1) with
    | none => none
    | some ((ks, es), ρ2) => some (.tmp (.dK ks es), backF bk ρ2)
    else none
theorem SemE.frz {te : TE} {f : EF} (h : SemE te f) : SemE te (frzA f) := ⟨fun C σ ρ ps H r ρ' q w Q k => by
  unfold frzA at q
  split at q
  · cases q
  rename_i r1 ρ1 e1
  split at q
  · cases q
  rename_i d ρ2 e2
  cases q
  exact h.run C σ ρ ps H r1 ρ1 e1 w _ fun x H1 w1 => k x H1 (w1.fz e2)⟩
theorem sem_dc {wi : TI} {g : TG} {tt : TT} {tk tv : TE} {it : IF} {G : GF} {p : TF} {fk fv : EF} {S vs : List Nat} (hi : SemI wi it) (hg : SemG g G S) (ht : SemT tt p) (hk : SemE tk fk) (hv : SemE tv fv) (hS : ∀ i ∈ S, i ∈ vs) : SemE (tDc wi g tt tk tv vs) (dcE vs it G p fk fv) := ⟨fun C σ ρ ps H r ρ' h w Q k => by
  unfold dcE at h
  split at h
  · cases h
  rename_i ds bk ρ1 e1
  split at h
  case isFalse => cases h
  rename_i e2
  rw [Bool.and_eq_true] at e2
  split at h
  · cases h
  rename_i ks0 es0 ρ2 e3
  cases h
  have hr : ∀ v i, (v, R.slt i) ∈ ps → σ[i]? = some (some v) := w.choose_spec.ref
  refine hi.run C σ ρ _ H ds bk ρ1 e1 w _ fun J H1 js wk bb w1 D nD => ?_
  have hbk : ∀ i m, (i, m) ∈ bk → i ∉ vs := fun i m hm => of_decide_eq_true (List.all_eq_true.mp e2.2 _ hm)
  have base : W C (wipe σ vs) (wipeF vs ρ1) (tp ((V.ref D, M.dK [] []) :: (js ++ tmps ps))) (upd H1 D (.dK [])) := by
    have w2 := (w1.strip).wipe vs
    have e : tmps (tp js ++ ps) = js ++ tmps ps := by
      show List.filterMap tmpI (tp js ++ ps) = _
      rw [List.filterMap_append]
      exact congrArg (· ++ tmps ps) (tmps_tp js)
    rw [e] at w2
    obtain ⟨B, w2⟩ := w2
    have w3 := w2.to_wipe vs
    obtain ⟨fp, z⟩ := w3.wd
    have z2 := Wld.new_dK (ks := []) (vs := []) (ds := []) z nD rfl .nil
    exact ⟨B, .of_tmp w3.cov w3.ref z2⟩
  refine ⟨fun i m H' => m = ds.length - i ∧ i ≤ ds.length ∧ ∃ ks es ρi, es.length ≤ i ∧ W C (wipe σ vs) (wipeF vs ρi) (tp ((V.ref D, M.dK ks es) :: (js ++ tmps ps))) H' ∧ dcl vs G p fk fv (ds.drop i) ks es (wipeF vs ρi) = some ((ks0, es0), ρ2), ⟨_, rfl, Nat.zero_le _, [], [], ρ1, Nat.le_refl _, base, e3⟩, ?_⟩
  rintro i m H2 ⟨rfl, hi', ks, es, ρi, hacc, wi', ei⟩
  by_cases hl : i < ds.length
  · have ed : ds.drop i = ds[i] :: ds.drop (i + 1) := List.drop_eq_getElem_cons hl
    rw [ed] at ei
    simp only [dcl] at ei
    split at ei
    · cases ei
    rename_i ρ3 e4
    have wi2 : W C (wipe σ vs) (wipeF vs ρi) (tp js ++ tp ((V.ref D, M.dK ks es) :: tmps ps)) H2 := by
      rw [← tp_app]
      exact wi'.permP ((List.perm_middle (l₁ := js) (l₂ := tmps ps) (a := (V.ref D, M.dK ks es))).symm.map _)
    obtain ⟨hgo, hy⟩ := wk.step i _ _ _ H2 wi2 ds[i] (List.getElem?_eq_getElem hl)
    refine .inr ⟨hgo, fun H' => i + 1 ≤ ds.length ∧ ∃ ks es ρi, es.length ≤ i + 1 ∧ W C (wipe σ vs) (wipeF vs ρi) (tp ((V.ref D, M.dK ks es) :: (js ++ tmps ps))) H' ∧ dcl vs G p fk fv (ds.drop (i + 1)) ks es (wipeF vs ρi) = some ((ks0, es0), ρ2),
      fun H' ⟨h1, h2⟩ => ⟨ds.length - (i + 1), by omega, rfl, h1, h2⟩, fun x H' y => ?_⟩
    have w2 := hy x H' y
    rw [← tp_app] at w2
    have w2' : W C (wipe σ vs) (wipeF vs ρi) ((x, .tmp (.imm ds[i])) :: tp ((V.ref D, M.dK ks es) :: (js ++ tmps ps))) H' :=
      w2.permP (((List.perm_middle (l₁ := js) (l₂ := tmps ps) (a := (V.ref D, M.dK ks es))).map _).cons _)
    refine hg.run C _ _ _ H' x _ ρ3 e4 w2' _ fun σ2 H3 a2 w3 => ?_
    have ew : wipe σ2 vs = wipe σ vs := by rw [wipe_agree a2 hS, wipe_wipe]
    refine ⟨ew, ?_⟩
    have back : ∀ {ρ : Env} {qs : List Item} {H : Hp}, W C σ2 ρ (tp qs) H → W C (wipe σ vs) (wipeF vs ρ) (tp qs) H := fun w => by
      obtain ⟨B, w⟩ := w.wipe vs
      have w' := w.to_wipe vs
      rw [ew] at w'
      exact ⟨B, w'⟩
    split at ei
    · cases ei
    · rename_i ρ4 e5
      refine ht.run C σ2 ρ3 _ H3 _ _ e5 w3 _ fun H4 w4 => ?_
      rw [if_neg Bool.false_ne_true]
      exact ⟨hl, ks, es, ρ4, by omega, back w4, ei⟩
    · rename_i ρ4 e5
      split at ei
      case h_2 => cases ei
      rename_i dk ρ5 e6
      split at ei
      · cases ei
      rename_i kk e7
      split at ei
      case h_2 => cases ei
      rename_i dv ρ6 e8
      refine ht.run C σ2 ρ3 _ H3 _ _ e5 w3 _ fun H4 w4 => ?_
      rw [if_pos rfl]
      refine hk.frz.run C σ2 ρ4 _ H4 _ ρ5 e6 w4 _ fun y H5 w5 => ?_
      have hy : y = kV kk := by
        obtain ⟨B5, w5⟩ := w5
        exact key1_rep w5.imm_rep e7
      refine hv.frz.run C σ2 ρ5 _ H5 _ ρ6 e8 w5.drop _ fun z H6 w6 => ?_
      have w7 : W C σ2 ρ6 (tp ((z, M.imm dv) :: (V.ref D, M.dK ks es) :: (js ++ tmps ps))) H6 := w6
      obtain ⟨B, w8⟩ := back w7
      have rz : Rep B z dv := WB.imm_rep (ps := tp ((V.ref D, M.dK ks es) :: (js ++ tmps ps))) w8
      have w9 : WB C B (wipe σ vs) (wipeF vs ρ6) ((V.ref D, .tmp (M.dK ks es)) :: tp (js ++ tmps ps)) H6 := WB.drop (ps := tp ((V.ref D, M.dK ks es) :: (js ++ tmps ps))) w8
      obtain ⟨fp, zz⟩ := w9.tmp
      obtain ⟨D', us, eD, hp, hl2, rr⟩ := zz.at_dK
      cases eD
      have z3 := zz.set_dK (ks' := putKs ks kk) (vs' := putVs ks us kk z) (ds' := putVs ks es kk dv) (putKs_len hl2) (Reps.put rz rr)
      refine ⟨ks.zip us, kk, hy, hp, ?_, hl, putKs ks kk, putVs ks es kk dv, ρ6, ?_, ?_, ei⟩
      · rw [List.length_zip, hl2, Nat.min_self, rr.length]
        exact Nat.lt_of_lt_of_le (m := ds.length) (by omega) (small_line e2.1)
      · exact Nat.le_trans putVs_le (by omega)
      · rw [putK_zip hl2]
        exact ⟨B, .of_tmp w9.cov (fun v i h => (tp_no h).elim) z3⟩
  · have ed : ds.drop i = [] := List.drop_eq_nil_of_le (by omega)
    rw [ed] at ei
    cases ei
    have wi2 : W C (wipe σ vs) (wipeF vs ρi) (tp js ++ tp ((V.ref D, M.dK ks0 es0) :: tmps ps)) H2 := by
      rw [← tp_app]
      exact wi'.permP ((List.perm_middle (l₁ := js) (l₂ := tmps ps) (a := (V.ref D, M.dK ks0 es0))).symm.map _)
    refine .inl ⟨wk.stop i _ _ _ H2 wi2 (by omega), ?_⟩
    obtain ⟨B, w2⟩ := wi'
    have w3 : W C σ (wipeF vs ρi) (tp ((V.ref D, M.dK ks0 es0) :: (js ++ tmps ps))) H2 := ⟨B, w2.of_wipe vs⟩
    have w4 : W C σ (wipeF vs ρi) (tp ((V.ref D, M.dK ks0 es0) :: js) ++ ps) H2 := W.unstrip (qs := (V.ref D, M.dK ks0 es0) :: js) w3 hr
    have w5 : W C σ (wipeF vs ρi) (tp js ++ ((V.ref D, .tmp (M.dK ks0 es0)) :: ps)) H2 := w4.permP List.perm_middle.symm
    exact k _ _ (bb σ _ _ H2 (fun _ _ _ => rfl) w5)⟩
theorem de_dc {kx vx tg iter : Expr} {ifs : List Expr} {scope : Scope} {pos : Pos} {wi : TI} {g : TG} {tt : TT} {tk tv : TE} {it : IF} {G : GF} {p : TF} {fk fv : EF} {S : List Nat} (own : List (Str × Nat)) (hN : X.N.Nodup) (hi : DI X tg iter wi it) (ok : blkC X.N X.env.scope scope own = true)
    (hg : ∀ (s : Shared) (H : Hp) (C : Addr) (cl : List (Str × Addr)) (fp : List Addr), DG (blkX X scope s H C cl fp) tg g G S) (ht : ∀ (s : Shared) (H : Hp) (C : Addr) (cl : List (Str × Addr)) (fp : List Addr), DTs (blkX X scope s H C cl fp) ifs tt p)
    (hk : ∀ (s : Shared) (H : Hp) (C : Addr) (cl : List (Str × Addr)) (fp : List Addr), DE (blkX X scope s H C cl fp) kx tk fk) (hv : ∀ (s : Shared) (H : Hp) (C : Addr) (cl : List (Str × Addr)) (fp : List Addr), DE (blkX X scope s H C cl fp) vx tv fv)
    (hS : ∀ i ∈ S, i ∈ own.map (·.2) := by decide) (hc : X.calm = true := by rfl) (hs : ∀ x, foldedSetIterable iter X.env x = pure x := by intro _; rfl) :
    DE X (.DictComp kx vx [⟨tg, iter, ifs, 0⟩] scope pos) (tDc wi g tt tk tv (own.map (·.2))) (dcE (own.map (·.2)) it G p fk fv) :=
  ⟨pe_dc (own := own) hc hN hi.pi (blkOk_by ok) (fun s H C cl fp => (hg s H C cl fp).pg) (fun s H C cl fp => (ht s H C cl fp).pt) (fun s H C cl fp => (hk s H C cl fp).pe) (fun s H C cl fp => (hv s H C cl fp).pe) hs,
    sem_dc hi.sem (hg X.s_0 X.H_0 0 [] []).sem (ht X.s_0 X.H_0 0 [] []).sem (hk X.s_0 X.H_0 0 [] []).sem (hv X.s_0 X.H_0 0 [] []).sem hS⟩
/-! ### x[c].append(constant), x an owned tuple or list of owned lists -/
theorem Wld.set_innerT {C : Cz} {B H : Hp} {its : List Item} {fp : List Addr} {p : Addr} {ms : List M} {j : Nat} {ds : List D} (w : Wld C B H ((.ref p, .dtup ms) :: its) fp) (hj : ms[j]? = some (.lst ds)) :
    ∃ vs q ws, H p = some (.tup vs) ∧ vs.length = ms.length ∧ vs[j]? = some (.ref q) ∧ H q = some (.lst ws) ∧ Reps B ws ds ∧ ∀ ws' ds', Reps B ws' ds' → ∃ fp', Wld C B (upd H q (.lst ws')) ((.ref p, .dtup (ms.set j (.lst ds'))) :: its) fp' := by
  cases w with
  | mk bh rh b0 br it nd fr =>
  cases it with
  | @cons _ _ f0 _ gg h rest =>
    cases h with
    | @dtup _ vs _ its0 f hp e1 e2 r =>
      subst e1 e2
      obtain ⟨l, v, rr, f1, g, f2, e3, e4, h1, h2, h3, e5⟩ := r.at_ hj
      subst e3 e5
      cases h2 with
      | @lst q ws _ hq rw_ =>
        have nd1 := List.nodup_cons.mp nd
        have hq' := fr q (by simp)
        have hqp : q ≠ p := fun e => nd1.1 (by rw [e]; simp)
        have hn : ((f1 ++ ([q] ++ f2)) ++ gg).Nodup := nd1.2
        have nq : ∀ a, (a ∈ f1 ∨ a ∈ f2 ∨ a ∈ gg) → a ≠ q := by
          intro a ha e
          subst e
          have h1 := List.nodup_append.mp hn
          have h2 := List.nodup_append.mp h1.1
          have h3 := List.nodup_append.mp h2.2.1
          rcases ha with ha | ha | ha
          · exact h2.2.2 a ha a (by simp) rfl
          · exact h3.2.2 a (by simp) a ha rfl
          · exact h1.2.2 a (by simp) a ha rfl
        refine ⟨_, q, ws, hp, by rw [List.length_map, List.length_map], ?_, hq, rw_, fun ws' ds' r' => ⟨(p :: (f1 ++ ([q] ++ f2))) ++ gg, ?_⟩⟩
        · rw [List.map_append, List.getElem?_append_right (by rw [List.length_map]; omega), List.length_map, e4, Nat.sub_self]
          rfl
        · have em : ((l ++ (V.ref q, M.lst ds) :: rr).map (·.2)).set j (.lst ds') = (l ++ (V.ref q, M.lst ds') :: rr).map (·.2) := by
            rw [List.map_append, List.map_cons, ← e4, ← List.length_map (f := fun x : Item => x.2) (as := l), set_mid, List.map_append, List.map_cons]
          rw [em]
          refine ⟨fun a u e => ?_, fun a u e => ?_, b0, br, .cons (f := p :: (f1 ++ ([q] ++ f2))) (.dtup (its := l ++ (V.ref q, M.lst ds') :: rr) (vs := (l ++ (V.ref q, M.lst ds) :: rr).map (·.1)) ?_ ?_ rfl ?_) (rest.mono (.refl B) fun a ha u e => ?_), nd, fr⟩
          · rw [upd_ne (ne_of_none e hq'.1)]; exact bh a u e
          · rw [upd_ne (ne_of_none e hq'.2)]; exact rh a u e
          · rw [upd_ne hqp.symm]; exact hp
          · rw [List.map_append, List.map_append]; rfl
          · refine (h1.mono (.refl B) fun a ha u e => ?_).join (.cons (.lst upd_same r') (h3.mono (.refl B) fun a ha u e => ?_))
            · rw [upd_ne (nq a (.inl ha))]; exact e
            · rw [upd_ne (nq a (.inr (.inl ha)))]; exact e
          · rw [upd_ne (nq a (.inr (.inr ha)))]; exact e
noncomputable def app2E (i c : Nat) (d : D) : EF := fun ρ => match ρ[i]? with
  | some (some (.deep ms)) => match ms[c]? with
    | some (.lst ds) => if smallL ds.length then some (.tmp (.imm .non), ρ.set i (some (.deep (ms.set c (.lst (ds ++ [d])))))) else none
    | _ => none
  | some (some (.dtup ms)) => match ms[c]? with
    | some (.lst ds) => if smallL ds.length then some (.tmp (.imm .non), ρ.set i (some (.dtup (ms.set c (.lst (ds ++ [d])))))) else none
    | _ => none
  | _ => none
theorem atI_nat {α : Type} {l : List α} {c : Nat} {x : α} (h : l[c]? = some x) (hc : decide (c < 2 ^ 62) = true) : atI l (c : Nat) = some x := by
  have hl := (List.getElem?_eq_some_iff.mp h).1
  have hc' := of_decide_eq_true hc
  unfold atI
  have : ixN l.length (c : Nat) = some c := by
    unfold ixN
    simp
    omega
  rw [this]
  exact h
theorem sem_app2 {i c : Nat} {u : V} {d : D} (hc : decide (c < 2 ^ 62) = true) (hu : ∀ B, Rep B u d) : SemE (tBM K "list" rAppend (tOp (rIx K) (tVar i) (tC (.int (c : Nat)))) (tCons (tC u) tNil)) (app2E i c d) := ⟨fun C σ ρ ps H r ρ' h w Q k => by
  unfold app2E at h
  obtain ⟨B, w⟩ := w
  split at h
  · rename_i ms e
    split at h
    case h_2 => cases h
    rename_i ds e2
    split at h
    case isFalse => cases h
    rename_i e4
    cases h
    obtain ⟨v, hv⟩ := w.cov.has i _ e
    have w4 := w.take e hv
    obtain ⟨fp, z⟩ := w4.tmp
    obtain ⟨p, _, rfl, _, _⟩ := z.at_deep
    obtain ⟨vs, q, ws, hp, l, hj, hq, rr, up⟩ := z.set_inner e2
    refine ⟨_, hv, .inl ⟨p, vs, (c : Nat), .ref q, rfl, rfl, SqL.of hp, atI_nat hj hc, .inl ⟨rfl, ws, SqL.of hq⟩, q, ws, u, rfl, rfl, hq, by rw [rr.length]; exact small_lt e4, ?_⟩⟩
    obtain ⟨fp', z2⟩ := up (ws ++ [u]) (ds ++ [d]) (rr.append (.cons (hu B) .nil))
    have w5 : WB C B σ (ρ.set i none) ((.ref p, .tmp (.deep (ms.set c (.lst (ds ++ [d]))))) :: ps) (upd H q (.lst (ws ++ [u]))) := .of_tmp w4.cov w4.psr z2
    exact k _ _ (W.nonP ⟨B, w5.give (List.getElem?_eq_some_iff.mp e).1 hv⟩)
  · rename_i ms e
    split at h
    case h_2 => cases h
    rename_i ds e2
    split at h
    case isFalse => cases h
    rename_i e4
    cases h
    obtain ⟨v, hv⟩ := w.cov.has i _ e
    have w4 := w.take e hv
    obtain ⟨fp, z⟩ := w4.tmp
    have hp0 : ∃ p, v = .ref p := by
      cases z.it with
      | cons h _ => cases h with | dtup h e1 e2 r => exact ⟨_, rfl⟩
    obtain ⟨p, rfl⟩ := hp0
    obtain ⟨vs, q, ws, hp, l, hj, hq, rr, up⟩ := z.set_innerT e2
    refine ⟨_, hv, .inr (.inl ⟨p, vs, (c : Nat), .ref q, rfl, rfl, SqT.of hp, atI_nat hj hc, .inl ⟨rfl, ws, SqL.of hq⟩, q, ws, u, rfl, rfl, hq, by rw [rr.length]; exact small_lt e4, ?_⟩)⟩
    obtain ⟨fp', z2⟩ := up (ws ++ [u]) (ds ++ [d]) (rr.append (.cons (hu B) .nil))
    have w5 : WB C B σ (ρ.set i none) ((.ref p, .tmp (.dtup (ms.set c (.lst (ds ++ [d]))))) :: ps) (upd H q (.lst (ws ++ [u]))) := .of_tmp w4.cov w4.psr z2
    exact k _ _ (W.nonP ⟨B, w5.give (List.getElem?_eq_some_iff.mp e).1 hv⟩)
  · cases h⟩
theorem pe_app2 {i c : Nat} {x : Str} {px p2 p3 apos cpos : Pos} {j : Nat} {e : Expr} {u : V} (he : PE X e (tC u)) (hN : X.N[i]? = some x) (hv : Vis X.env.scope x) (hd : (x == ("__debug__" : Str)) = false) (hcd : (x == ("__classdict__" : Str)) = false)
    (hm : Meth1 X (.Subscript (.Name x px) (.Constant (.int (c : Nat)) j p3) p2) "append" apos e cpos) :
    PE X (.Call (.Attribute (.Subscript (.Name x px) (.Constant (.int (c : Nat)) j p3) p2) "append" apos) [e] [] cpos) (tBM X.K "list" rAppend (tOp (rIx X.K) (tVar i) (tC (.int (c : Nat)))) (tCons (tC u) tNil)) :=
  pe_bm F.plainAttrs_list F.slot_list_append F.type_list_append mt_append (pe_ix ix_seq (pe_var hN hv hd hcd) pe_int (fun _ _ => rfl)) (pa_cons he pa_nil hm.2.2.2.1) hm.1 hm.2.1 hm.2.2.1 hm.2.2.2.1 hm.2.2.2.2
theorem de_app2n (i c : Nat) {ci : Int} {x : Str} {px p2 p3 p4 apos cpos : Pos} {j j2 : Nat} (hci : ci = (c : Nat) := by rfl) (hc : decide (c < 2 ^ 62) = true := by rfl) (hN : X.N[i]? = some x := by rfl) (hv : Vis X.env.scope x := by first | exact Or.inl rfl | exact Or.inr (Or.inl rfl) | exact Or.inr (Or.inr rfl)) (hd : (x == ("__debug__" : Str)) = false := by decide) (hcd : (x == ("__classdict__" : Str)) = false := by decide)
    (hm : Meth1 X (.Subscript (.Name x px) (.Constant (.int ci) j p3) p2) "append" apos (.Constant .none j2 p4) cpos := by exact ⟨rfl, rfl, rfl, rfl, rfl⟩) :
    DE X (.Call (.Attribute (.Subscript (.Name x px) (.Constant (.int ci) j p3) p2) "append" apos) [.Constant .none j2 p4] [] cpos) (tBM X.K "list" rAppend (tOp (rIx X.K) (tVar i) (tC (.int (c : Nat)))) (tCons (tC .non) tNil)) (app2E i c .non) := by
  subst hci
  exact ⟨pe_app2 pe_non hN hv hd hcd hm, sem_app2 hc fun _ => .non⟩
theorem de_app2i (i c : Nat) {n : Int} {ci : Int} {x : Str} {px p2 p3 p4 apos cpos : Pos} {j j2 : Nat} (hci : ci = (c : Nat) := by rfl) (hc : decide (c < 2 ^ 62) = true := by rfl) (hN : X.N[i]? = some x := by rfl) (hv : Vis X.env.scope x := by first | exact Or.inl rfl | exact Or.inr (Or.inl rfl) | exact Or.inr (Or.inr rfl)) (hd : (x == ("__debug__" : Str)) = false := by decide) (hcd : (x == ("__classdict__" : Str)) = false := by decide)
    (hm : Meth1 X (.Subscript (.Name x px) (.Constant (.int ci) j p3) p2) "append" apos (.Constant (.int n) j2 p4) cpos := by exact ⟨rfl, rfl, rfl, rfl, rfl⟩) :
    DE X (.Call (.Attribute (.Subscript (.Name x px) (.Constant (.int ci) j p3) p2) "append" apos) [.Constant (.int n) j2 p4] [] cpos) (tBM X.K "list" rAppend (tOp (rIx X.K) (tVar i) (tC (.int (c : Nat)))) (tCons (tC (.int n)) tNil)) (app2E i c (.int n)) := by
  subst hci
  exact ⟨pe_app2 pe_int hN hv hd hcd hm, sem_app2 hc fun _ => .int n⟩
end
end FD
set_option Elab.async false
set_option linter.all false
set_option maxRecDepth 100000
/-! FD17: readings that a function tells by itself. -/
namespace FD
open PySem PySem.Spec PyProof.Rows L2
def teOf (f : EF) : TE := fun σ H Q => ∃ (C : Cz) (ρ : Env) (ps : Pend) (r : R) (ρ' : Env), f ρ = some (r, ρ') ∧ W C σ ρ ps H ∧ ∀ v H', W C σ ρ' ((v, r) :: ps) H' → Q v H'
def ttOf (f : TF) : TT := fun σ H Q => ∃ (C : Cz) (ρ : Env) (ps : Pend) (b : Bool) (ρ' : Env), f ρ = some (b, ρ') ∧ W C σ ρ ps H ∧ ∀ H', W C σ ρ' ps H' → Q b H'
def gOf (G : GF) (S : List Nat) : TG := fun v σ H Q => ∃ (C : Cz) (ρ : Env) (qs : List Item) (m : M) (ρ' : Env), G m ρ = some ρ' ∧ W C σ ρ ((v, .tmp m) :: tp qs) H ∧ ∀ σ' H', Agree S σ σ' → W C σ' ρ' (tp qs) H' → Q σ' H'
variable {X : Cx} {e : Expr}
theorem DE.q {te : TE} {f : EF} (h : DE X e te f) : DE X e (teOf f) f :=
  ⟨⟨fun pins s σ H Q I ⟨C, ρ, ps, r, ρ', e1, w, k⟩ => h.pe.run pins s σ H Q I (h.sem.run C σ ρ ps H r ρ' e1 w Q k)⟩, ⟨fun C σ ρ ps H r ρ' e1 w Q k => ⟨C, ρ, ps, r, ρ', e1, w, k⟩⟩⟩
theorem DT.q {tt : TT} {f : TF} (h : DT X e tt f) : DT X e (ttOf f) f :=
  ⟨⟨fun pins s σ H Q I ⟨C, ρ, ps, r, ρ', e1, w, k⟩ => h.pt.run pins s σ H Q I (h.sem.run C σ ρ ps H r ρ' e1 w Q k)⟩, ⟨fun C σ ρ ps H r ρ' e1 w Q k => ⟨C, ρ, ps, r, ρ', e1, w, k⟩⟩⟩
theorem DTs.q {es : List Expr} {tt : TT} {f : TF} (h : DTs X es tt f) : DTs X es (ttOf f) f :=
  ⟨⟨fun pins s σ H Q I ⟨C, ρ, ps, r, ρ', e1, w, k⟩ => h.pt.run pins s σ H Q I (h.sem.run C σ ρ ps H r ρ' e1 w Q k)⟩, ⟨fun C σ ρ ps H r ρ' e1 w Q k => ⟨C, ρ, ps, r, ρ', e1, w, k⟩⟩⟩
theorem DG.q {g : TG} {G : GF} {S : List Nat} (h : DG X e g G S) : DG X e (gOf G S) G S :=
  ⟨⟨fun pins s σ H v u Q I r ⟨C, ρ, ps, m, ρ', e1, w, k⟩ => h.pg.run pins s σ H v u Q I r (h.sem.run C σ ρ ps H v m ρ' e1 w Q k)⟩, ⟨fun C σ ρ qs H v m ρ' e1 w Q k => ⟨C, ρ, qs, m, ρ', e1, w, k⟩⟩⟩
end FD
set_option Elab.async false
set_option linter.all false
set_option maxRecDepth 100000
/-! FD18: x[:] = e. -/
namespace FD
open PySem PySem.Spec PyProof.Rows L2
theorem setItem_all {prog : Program} {w : World} {A : Around} {E : Value → Shared → Prop} {s : Shared} {l b sl : Addr} {items new : Array Value} {n n2 : Nat} {Q : Unit → Shared → Prop}
    (e : s.heap.get? l = some { cls := Value.type "list", data := Data.seq items n }) (e2 : s.heap.get? b = some { cls := Value.type "list", data := Data.seq new n2 }) (hne : l ≠ b) (hs : s.heap.IsSliceOf sl .none .none .none) (hz : items.size + new.size ≤ sizeLine)
    (h : Q () { heap := s.heap.update l (Obj.mapSeq fun xs => xs.extract 0 0 ++ new ++ xs.extract items.size), gens := s.gens, drawn := s.drawn, toks := s.toks, os := s.os }) :
    wpAny (model prog w) A (setItem (Value.ref l) (Value.ref sl) (Value.ref b)) Q E s := by
  have hl := IsL.isList e
  have hb := IsL.isList e2
  obtain ⟨os, hos, hcs, hds⟩ := id hs
  have hTs : s.TypeIs (.ref sl) "slice" := ⟨os, hos, hcs⟩
  refine wpAny_holding (wpAny_bind (wpAny_sequenceKey hl.typeIs (by decide) (wpAny_bind (wpAny_callSpecial?_slot hl.typeIs slot_list_setitem (wpAny_call_entry slot_list_setitem hl.typeIs entry_list_setitem ?_ (args_list_setitem _ _ _))))))
  show wpAny _ _ (Builtin.«list.__setitem__» _) _ _ _
  refine wpAny_bind (wpAny_of_eq rfl ?_)
  refine wpAny_bind ?_
  unfold Builtin.List.listSubscript?
  refine wpAny_bind (wpAny_specialOf hTs slice_no_index ?_)
  refine wpAny_of_eq rfl ?_
  dsimp only
  refine wpAny_bind (wpAny_typeOf hTs ?_)
  rw [if_neg (by decide)]
  rw [listSliceParts_eq]
  refine wpAny_bind (wpAny_bind (wpAny_field hos hds rfl (wpAny_bind (wpAny_listPart .none ?_))))
  dsimp only
  rw [if_neg (by decide)]
  refine wpAny_bind (wpAny_field hos hds rfl (wpAny_bind (wpAny_listPart .none ?_)))
  refine wpAny_bind (wpAny_field hos hds rfl (wpAny_bind (wpAny_listPart .none ?_)))
  refine wpAny_pure ?_
  dsimp only
  have hsame : Builtin.List.listSameRef (Value.ref l) (Value.ref b) = false := beq_eq_false_iff_ne.mpr hne
  rw [hsame, if_neg Bool.false_ne_true]
  have hit : ∀ {B : Addr} {xs : Array Value} {m : Nat} {R : Array Value → Shared → Prop}, s.heap.get? B = some { cls := Value.type "list", data := Data.seq xs m } → R xs s → wpAny (model prog w) A.in1 (Builtin.List.listItems (Value.ref B)) R E s := fun hB r => wpAny_listItems hB rfl r
  refine wpAny_bind ?_
  unfold Builtin.List.listAllItems
  refine wpAny_bind (wpAny_typeOf hb.typeIs ?_)
  rw [if_pos (by decide)]
  refine hit e2 ?_
  refine wpAny_bind (hit e ?_)
  rw [sliceIndices_raw none none none _ (by simp)]
  refine wpAny_bind (wpAny_pure ?_)
  have hb0 : sliceBounds none none none items.size = (0, (items.size : Int), 1) := by
    unfold sliceBounds
    simp
  rw [hb0]
  dsimp only
  rw [if_pos (by decide)]
  refine wpAny_bind (wpAny_rule ?_)
  have hz2 : Builtin.List.listTooLong (items.size + new.size) = false := by
    unfold Builtin.List.listTooLong
    exact decide_eq_false (by omega)
  rw [hz2, if_neg Bool.false_ne_true]
  have hm : (max (0 : Int) (items.size : Int)).toNat = items.size := by omega
  rw [hm]
  refine wpAny_bind ?_
  show wpAny _ _ (updateSeq l _) _ _ _
  refine wpAny_updateSeq e rfl ?_ (by omega) (by simp; omega)
  refine wpAny_bind (wpAny_letGo ?_)
  refine wpAny_pure ⟨.none, rfl, wpAny_pure h⟩
noncomputable def gAll (to : TE) : TG := fun v σ H Q => to σ H fun x H1 => ∃ (l b : Addr) (xs ys : List V), x = .ref l ∧ v = .ref b ∧ H1 l = some (.lst xs) ∧ H1 b = some (.lst ys) ∧ l ≠ b ∧ xs.length + ys.length ≤ sizeLine ∧ Q σ (upd H1 l (.lst ys))
theorem pg_all {X : Cx} {pos p2 : Pos} {o : Expr} {to : TE} (ho : PE X o to)
    (ha : ∀ v, assign (o.Subscript (.Slice none none none p2) pos) X.env v = (do
      let ov ← holding [v] (eval o X.env)
      let iv ← holding [v, ov] (eval (.Slice none none none p2) X.env)
      standAt pos
      holding [v, ov, iv] (setItem ov iv v)
      release [iv, v, ov] []) := by intro _; rfl) : PG X (o.Subscript (.Slice none none none p2) pos) (gAll to) := ⟨fun pins s σ H v u Q I r h => by
  rw [ha]
  refine wpAny_bind (wpAny_holding (thn (ho.run pins s σ H _ I h) ?_))
  rintro ov s1 ⟨x, H1, I1, r1, l, b, xs, ys, rfl, rfl, hl, hb, hne, hz, q⟩
  cases r1
  cases r
  refine wpAny_bind (wpAny_holding (wpAny_Slice ?_))
  rw [evalPart_none]
  refine wpAny_pure (wpAny_pure (wpAny_pure ?_))
  refine wpAny_bind (wpAny_standAt (wpAny_bind (wpAny_holding ?_)))
  have I4 := I1.kept (h' := s1.heap.push { cls := Value.type "slice", data := Data.fields #[.none, .none, .none] }) (t' := s1.toks) fun b ob q => Heap.get?_push_of_some _ q
  obtain ⟨z1, its, n, rx, hlx, ex⟩ := I4.lstM hl
  obtain ⟨z2, its2, n2, rx2, hlx2, ex2⟩ := I4.lstM hb
  refine setItem_all ex ex2 hne ⟨_, Heap.get?_push_size _ rfl, rfl, rfl⟩ ?_ ?_
  · rw [List.size_toArray, List.size_toArray, ← hlx, ← hlx2]
    exact hz
  · refine wpAny_release ⟨σ, upd H1 l (.lst ys), ?_, q⟩
    refine I4.lset (its' := its2) hl ex ?_ rx2 z2
    simp⟩
theorem sem_all {i : Nat} : SemG (gAll (tVar i)) (fun m ρ => match m.toD, ρ[i]? with
    | .lst ds, some (some (.lst ds0)) => if smallL ds.length && smallL ds0.length then some (ρ.set i (some (.lst ds))) else none
    | _, _ => none) [] := ⟨fun C σ ρ qs H v m ρ' h w Q k => by
  split at h
  case h_2 => cases h
  rename_i ds ds0 e1 e2
  split at h
  case isFalse => cases h
  rename_i e3
  rw [Bool.and_eq_true] at e3
  cases h
  obtain ⟨B, w⟩ := w
  obtain ⟨B', _, w3⟩ := w.freeze
  rw [e1] at w3
  obtain ⟨x, hv⟩ := w3.cov.has i _ e2
  have rv := w3.imm_rep
  have w4 := w3.drop.take e2 hv
  obtain ⟨fp, z⟩ := w4.tmp
  obtain ⟨p, vs, rfl, hp, rr⟩ := z.at_lst
  cases rv with
  | lst hb rb =>
    rename_i b us
    have hbp : p ≠ b := by
      intro e
      subst e
      cases z with
      | mk bh rh b0 br it nd fr =>
      cases it with
      | cons h rest =>
        cases h with
        | lst _ _ =>
          have := (fr p (by simp)).1
          rw [hb] at this
          cases this
    refine ⟨.ref p, hv, p, b, vs, us, rfl, rfl, hp, w3.bh _ _ hb, hbp, ?_, ?_⟩
    · rw [rr.length, rb.length]
      have h1 := sealB_is e3.1
      have h2 := sealB_is e3.2
      exact Nat.le_trans (Nat.add_le_add h2 h1) (by decide)
    · have z2 := z.set_lst rb
      have w5 : WB C B' σ (ρ.set i none) ((.ref p, .tmp (.lst ds)) :: tp qs) (upd H p (.lst us)) := .of_tmp w4.cov w4.psr z2
      exact k σ _ (.refl _ _) ⟨B', w5.give (List.getElem?_eq_some_iff.mp e2).1 hv⟩⟩
noncomputable def allG (i : Nat) : GF := fun m ρ => match m.toD, ρ[i]? with
    | .lst ds, some (some (.lst ds0)) => if smallL ds.length && smallL ds0.length then some (ρ.set i (some (.lst ds))) else none
    | _, _ => none
noncomputable def all2G (i c : Nat) : GF := fun m ρ => match m.toD, ρ[i]? with
    | .lst ds, some (some (.deep ms)) => match ms[c]? with
      | some (.lst ds0) => if smallL ds.length && smallL ds0.length then some (ρ.set i (some (.deep (ms.set c (.lst ds))))) else none
      | _ => none
    | _, _ => none
theorem sem_all2 {K : PySem.W.Frag} {i c : Nat} (hc : decide (c < 2 ^ 62) = true) : SemG (gAll (tOp (rIx K) (tVar i) (tC (.int (c : Nat))))) (all2G i c) [] := ⟨fun C σ ρ qs H v m ρ' h w Q k => by
  unfold all2G at h
  split at h
  case h_2 => cases h
  rename_i ds ms e1 e2
  split at h
  case h_2 => cases h
  rename_i ds0 e0
  split at h
  case isFalse => cases h
  rename_i e3
  rw [Bool.and_eq_true] at e3
  cases h
  obtain ⟨B, w⟩ := w
  obtain ⟨B', _, w3⟩ := w.freeze
  rw [e1] at w3
  obtain ⟨x, hv⟩ := w3.cov.has i _ e2
  have rv := w3.imm_rep
  have w4 := w3.drop.take e2 hv
  obtain ⟨fp, z⟩ := w4.tmp
  obtain ⟨p, _, rfl, _, _⟩ := z.at_deep
  obtain ⟨vs, q, ws, hp, l, hj, hq, rr, up⟩ := z.set_inner e0
  cases rv with
  | lst hb rb =>
    rename_i b us
    have hbq : q ≠ b := by
      intro e
      subst e
      obtain ⟨fp', z2⟩ := up [] [] .nil
      have h1 := z2.bh _ _ hb
      rw [upd_same] at h1
      cases h1
      obtain ⟨fp3, z3⟩ := up [.non] [.non] (.cons .non .nil)
      have h3 := z3.bh _ _ hb
      rw [upd_same] at h3
      cases h3
    refine ⟨_, hv, .inl ⟨p, vs, (c : Nat), .ref q, rfl, rfl, SqL.of hp, atI_nat hj hc, q, b, ws, us, rfl, rfl, hq, w3.bh _ _ hb, hbq, ?_, ?_⟩⟩
    · rw [rr.length, rb.length]
      have h1 := sealB_is e3.1
      have h2 := sealB_is e3.2
      exact Nat.le_trans (Nat.add_le_add h2 h1) (by decide)
    · obtain ⟨fp', z2⟩ := up us ds rb
      have w5 : WB C B' σ (ρ.set i none) ((.ref p, .tmp (.deep (ms.set c (.lst ds)))) :: tp qs) (upd H q (.lst us)) := .of_tmp w4.cov w4.psr z2
      exact k σ _ (.refl _ _) ⟨B', w5.give (List.getElem?_eq_some_iff.mp e2).1 hv⟩⟩
section
variable {X : Cx}
theorem dg_all (i : Nat) {x : Str} {px p2 pos : Pos} (hN : X.N[i]? = some x := by rfl) (hv : Vis X.env.scope x := by first | exact Or.inl rfl | exact Or.inr (Or.inl rfl) | exact Or.inr (Or.inr rfl)) (hd : (x == ("__debug__" : Str)) = false := by decide) (hcd : (x == ("__classdict__" : Str)) = false := by decide)
    (ha : ∀ v, assign ((Expr.Name x px).Subscript (.Slice none none none p2) pos) X.env v = (do
      let ov ← holding [v] (eval (Expr.Name x px) X.env)
      let iv ← holding [v, ov] (eval (.Slice none none none p2) X.env)
      standAt pos
      holding [v, ov, iv] (setItem ov iv v)
      release [iv, v, ov] []) := by intro _; rfl) : DG X ((Expr.Name x px).Subscript (.Slice none none none p2) pos) (gAll (tVar i)) (allG i) [] := ⟨pg_all (pe_var hN hv hd hcd) ha, sem_all⟩
theorem dg_all2 (i c : Nat) {ci : Int} {x : Str} {px p2 p3 p4 pos : Pos} {j : Nat} (hci : ci = (c : Nat) := by rfl) (hc : decide (c < 2 ^ 62) = true := by rfl) (hN : X.N[i]? = some x := by rfl) (hv : Vis X.env.scope x := by first | exact Or.inl rfl | exact Or.inr (Or.inl rfl) | exact Or.inr (Or.inr rfl)) (hd : (x == ("__debug__" : Str)) = false := by decide) (hcd : (x == ("__classdict__" : Str)) = false := by decide)
    (ha : ∀ v, assign (((Expr.Name x px).Subscript (.Constant (.int ci) j p3) p4).Subscript (.Slice none none none p2) pos) X.env v = (do
      let ov ← holding [v] (eval ((Expr.Name x px).Subscript (.Constant (.int ci) j p3) p4) X.env)
      let iv ← holding [v, ov] (eval (.Slice none none none p2) X.env)
      standAt pos
      holding [v, ov, iv] (setItem ov iv v)
      release [iv, v, ov] []) := by intro _; rfl) : DG X (((Expr.Name x px).Subscript (.Constant (.int ci) j p3) p4).Subscript (.Slice none none none p2) pos) (gAll (tOp (rIx X.K) (tVar i) (tC (.int (c : Nat))))) (all2G i c) [] := by
  subst hci
  exact ⟨pg_all (pe_ix ix_seq (pe_var hN hv hd hcd) pe_int (fun _ _ => rfl)) ha, sem_all2 hc⟩
end
end FD
set_option Elab.async false
set_option linter.all false
set_option maxRecDepth 100000
/-! FD19: the law's end. -/
namespace FD
open PySem PySem.Spec PyProof.Rows L2
theorem law_says {K : PySem.W.Frag} {F : FF} {H : Hp} {a : Addr} {ns : List Int} (hS : SqL K H a (ns.map V.int)) (main : F [.imm (.scr K ns)] = some (.imm (.bl true), [])) :
    spG 1 [] F [V.ref a] H (fun v _ => v = V.bl true) (fun _ _ _ => False) := by
  refine ⟨H, H, [.imm (.scr K ns)], .imm (.bl true), [], [], rfl, rfl, ?_, fun a h => .inl h, fun i m h _ => ?_, main, rfl, fun v H' w => ?_⟩
  · exact ⟨.refl _, .refl _, .refl _, fun a h _ => h, .cons (f := []) (.imm (.scr hS)) .nil, List.nodup_nil, fun a h => by cases h⟩
  · cases i with
    | zero => cases h; exact ⟨_, rfl⟩
    | succ i => simp at h
  · obtain ⟨B, fp, w⟩ := w
    cases w.it with
    | cons h _ =>
      cases h with
      | imm r => cases r; rfl
end FD
set_option Elab.async false
set_option linter.all false
set_option maxRecDepth 100000
/-! FE: loops and comprehensions as folds. -/
namespace FD
open PySem PySem.Spec PyProof.Rows L2
/-- one turn of a comprehension -/
noncomputable def cstep (vs : List Nat) (G : GF) (p : TF) (f : EF) (d : D) (ρ : Env) : Option (Option D × Env) := match G (.imm d) ρ with
  | none => none
  | some ρ1 => match p ρ1 with
    | none => none
    | some (false, ρ2) => some (none, wipeF vs ρ2)
    | some (true, ρ2) => match f ρ2 with
      | none => none
      | some (r, ρ3) => match fz r ρ3 with
        | none => none
        | some (d', ρ4) => some (some d', wipeF vs ρ4)
theorem cloopD_cons {vs : List Nat} {G : GF} {p : TF} {f : EF} {d : D} {ds : List D} {ρ : Env} : cloopD vs G p f (d :: ds) ρ = match cstep vs G p f d ρ with
    | none => none
    | some (none, ρ1) => cloopD vs G p f ds ρ1
    | some (some e, ρ1) => match cloopD vs G p f ds ρ1 with
      | none => none
      | some (es, ρ2) => some (e :: es, ρ2) := by
  rw [cloopD]
  unfold cstep
  cases G (.imm d) ρ with
  | none => rfl
  | some ρ1 =>
    simp only
    cases p ρ1 with
    | none => rfl
    | some q =>
      obtain ⟨b, ρ2⟩ := q
      cases b with
      | false => rfl
      | true =>
        simp only
        cases f ρ2 with
        | none => rfl
        | some q =>
          obtain ⟨r, ρ3⟩ := q
          simp only
          cases fz r ρ3 with
          | none => rfl
          | some q => rfl
theorem cloopD_fm {vs : List Nat} {G : GF} {p : TF} {f : EF} {ρ : Env} (k : D → Option D) : ∀ {ds : List D}, (∀ d ∈ ds, cstep vs G p f d ρ = some (k d, ρ)) → cloopD vs G p f ds ρ = some (ds.filterMap k, ρ)
  | [], _ => rfl
  | d :: ds, h => by
    rw [cloopD_cons, h d (List.mem_cons_self ..), List.filterMap_cons]
    have ih := cloopD_fm k (ds := ds) fun e he => h e (List.mem_cons_of_mem _ he)
    cases k d with
    | none => exact ih
    | some e => simp only [ih]
theorem cloopD_map {vs : List Nat} {G : GF} {p : TF} {f : EF} {ρ : Env} (k : D → D) {ds : List D} (h : ∀ d ∈ ds, cstep vs G p f d ρ = some (some (k d), ρ)) : cloopD vs G p f ds ρ = some (ds.map k, ρ) := by
  rw [cloopD_fm (fun d => some (k d)) h, List.filterMap_eq_map']
theorem cloopD_nil {vs : List Nat} {G : GF} {p : TF} {f : EF} {ρ : Env} {ds : List D} (h : ∀ d ∈ ds, cstep vs G p f d ρ = some (none, ρ)) : cloopD vs G p f ds ρ = some ([], ρ) := by
  rw [cloopD_fm (fun _ => none) h]
  congr 2
  induction ds with
  | nil => rfl
  | cons a l ih => exact ih fun d hd => h d (List.mem_cons_of_mem _ hd)
/-- with a state that goes on -/
theorem cloopD_ex {vs : List Nat} {G : GF} {p : TF} {f : EF} (I : Nat → Env → Prop) (Q : D → Prop) : ∀ {ds : List D} {ρ : Env} {i : Nat}, I i ρ → (∀ d ∈ ds, ∀ i ρ, I i ρ → ∃ e ρ', cstep vs G p f d ρ = some (some e, ρ') ∧ I (i + 1) ρ' ∧ Q e) →
    ∃ es ρ', cloopD vs G p f ds ρ = some (es, ρ') ∧ I (i + ds.length) ρ' ∧ es.length = ds.length ∧ ∀ e ∈ es, Q e
  | [], ρ, i, h, _ => ⟨[], ρ, rfl, h, rfl, fun _ h => by cases h⟩
  | d :: ds, ρ, i, h, k => by
    obtain ⟨e, ρ1, e1, h1, q1⟩ := k d (List.mem_cons_self ..) i ρ h
    obtain ⟨es, ρ2, e2, h2, l2, q2⟩ := cloopD_ex I Q (ds := ds) h1 fun d hd => k d (List.mem_cons_of_mem _ hd)
    have ee : i + (d :: ds).length = i + 1 + ds.length := by rw [List.length_cons]; omega
    refine ⟨e :: es, ρ2, by rw [cloopD_cons, e1]; simp only [e2], by rw [ee]; exact h2, by rw [List.length_cons, List.length_cons, l2], fun x hx => ?_⟩
    rcases List.mem_cons.mp hx with e3 | hx
    · rw [e3]; exact q1
    · exact q2 x hx
/-- one turn of a loop -/
noncomputable def lstep (G : GF) (F : SF) (d : D) : SF := fun ρ => match G (.imm d) ρ with
  | none => none
  | some ρ1 => F ρ1
theorem loopF_cons {G : GF} {F : SF} {d : D} {ds : List D} {ρ : Env} : loopF G F (d :: ds) ρ = match lstep G F d ρ with
    | none => none
    | some (ρ2, .nx) => loopF G F ds ρ2
    | some (ρ2, .ct) => loopF G F ds ρ2
    | some (ρ2, .bk) => some (ρ2, .nx)
    | some (ρ2, .ret m) => some (ρ2, .ret m) := by
  rw [loopF]
  unfold lstep
  cases G (.imm d) ρ with
  | none => rfl
  | some ρ1 => rfl
theorem loopF_fold {S : Type} {G : GF} {F : SF} (e : S → Env) (st : S → D → S) : ∀ {ds : List D} (s : S), (∀ s, ∀ d ∈ ds, lstep G F d (e s) = some (e (st s d), .nx)) → loopF G F ds (e s) = some (e (ds.foldl st s), .nx)
  | [], s, _ => rfl
  | d :: ds, s, h => by
    rw [loopF_cons, h s d (List.mem_cons_self ..)]
    exact loopF_fold e st (st s d) fun s d hd => h s d (List.mem_cons_of_mem _ hd)
/-- .. by an invariant -/
theorem loopF_inv {G : GF} {F : SF} (I : Nat → Env → Prop) : ∀ {ds : List D} {ρ : Env} {i : Nat}, I i ρ → (∀ j d ρ, ds[j]? = some d → I (i + j) ρ → ∃ ρ', (lstep G F d ρ = some (ρ', .nx) ∨ lstep G F d ρ = some (ρ', .ct)) ∧ I (i + j + 1) ρ') → ∃ ρ', loopF G F ds ρ = some (ρ', .nx) ∧ I (i + ds.length) ρ'
  | [], ρ, i, h, _ => ⟨ρ, rfl, h⟩
  | d :: ds, ρ, i, h, k => by
    obtain ⟨ρ1, e1, h1⟩ := k 0 d ρ rfl h
    obtain ⟨ρ2, e2, h2⟩ := loopF_inv I (ds := ds) (i := i + 1) h1 fun j d' ρ' hj hi => by
      have := k (j + 1) d' ρ' hj (by have e : i + (j + 1) = i + 1 + j := by omega
                                     rw [e]; exact hi)
      have e : i + (j + 1) + 1 = i + 1 + j + 1 := by omega
      rw [e] at this
      exact this
    refine ⟨ρ2, ?_, by rw [List.length_cons]; have e : i + (ds.length + 1) = i + 1 + ds.length := by omega
                       rw [e]; exact h2⟩
    rw [loopF_cons]
    rcases e1 with e1 | e1
    · rw [e1]; exact e2
    · rw [e1]; exact e2
/-- .. that may be left for good, or ended before -/
theorem loopF_ret {G : GF} {F : SF} (I : Nat → Env → Prop) (R : M → Env → Prop) (B : Env → Prop) : ∀ {ds : List D} {ρ : Env} {i : Nat}, I i ρ →
    (∀ j d ρ, ds[j]? = some d → I (i + j) ρ → (∃ ρ', (lstep G F d ρ = some (ρ', .nx) ∨ lstep G F d ρ = some (ρ', .ct)) ∧ I (i + j + 1) ρ') ∨ (∃ ρ', lstep G F d ρ = some (ρ', .bk) ∧ B ρ') ∨ ∃ m ρ', lstep G F d ρ = some (ρ', .ret m) ∧ R m ρ') →
    (∃ ρ', loopF G F ds ρ = some (ρ', .nx) ∧ (I (i + ds.length) ρ' ∨ B ρ')) ∨ ∃ m ρ', loopF G F ds ρ = some (ρ', .ret m) ∧ R m ρ'
  | [], ρ, i, h, _ => .inl ⟨ρ, rfl, .inl h⟩
  | d :: ds, ρ, i, h, k => by
    rw [loopF_cons]
    rcases k 0 d ρ rfl h with ⟨ρ1, e1, h1⟩ | ⟨ρ1, e1, h1⟩ | ⟨m, ρ1, e1, h1⟩
    · have ih := loopF_ret I R B (ds := ds) (i := i + 1) h1 fun j d' ρ' hj hi => by
        have := k (j + 1) d' ρ' hj (by have e : i + (j + 1) = i + 1 + j := by omega
                                       rw [e]; exact hi)
        have e : i + (j + 1) + 1 = i + 1 + j + 1 := by omega
        rw [e] at this
        exact this
      have e : i + (d :: ds).length = i + 1 + ds.length := by rw [List.length_cons]; omega
      rw [e]
      rcases e1 with e1 | e1 <;> (rw [e1]; exact ih)
    · rw [e1]; exact .inl ⟨ρ1, rfl, .inr h1⟩
    · rw [e1]; exact .inr ⟨m, ρ1, rfl, h1⟩
/-! ### numbers as data -/
noncomputable def nD (n : Nat) : D := .int (n : Int)
noncomputable def nl (xs : List Nat) : List D := xs.map nD
theorem nl_len (xs : List Nat) : (nl xs).length = xs.length := List.length_map ..
theorem ints_nl (xs : List Nat) : intsD (nl xs) = some (xs.map fun n : Nat => (n : Int)) := by
  have : nl xs = (xs.map fun n : Nat => (n : Int)).map D.int := by unfold nl; rw [List.map_map]; rfl
  rw [this]
  exact ints_of _
theorem nl_eqvs : ∀ xs ys : List Nat, PyData.eqvAll (D.toPs (nl xs)) (D.toPs (nl ys)) = decide (xs = ys)
  | [], [] => rfl
  | [], _ :: _ => rfl
  | _ :: _, [] => rfl
  | x :: xs, y :: ys => by
    show (PyData.eqv (.int x) (.int y) && PyData.eqvAll (D.toPs (nl xs)) (D.toPs (nl ys))) = _
    rw [nl_eqvs xs ys]
    have : PyData.eqv (.int x) (.int y) = decide (x = y) := by
      show decide ((x : Int) = y) = _
      by_cases h : x = y
      · simp [h]
      · have : ¬ (x : Int) = y := by omega
        simp [h, this]
    rw [this]
    by_cases h1 : x = y <;> by_cases h2 : xs = ys <;> simp [h1, h2]
theorem ok_nl (n : Nat) (xs : List Nat) : (nl xs).all (D.ok n) = true := by
  unfold nl
  induction xs with
  | nil => rfl
  | cons x xs ih =>
    rw [List.map_cons, List.all_cons, ih]
    cases n <;> rfl
end FD
set_option Elab.async false
set_option linter.all false
set_option maxRecDepth 100000
/-! FD20: a part of an owned tuple, taken out of it. -/
namespace FD
open PySem PySem.Spec PyProof.Rows L2
/-- f()[i], the tuple's other parts let go -/
noncomputable def ixM (i : Nat) (f : EF) : EF := fun ρ => match f ρ with
  | some (.tmp (.dtup ms), ρ1) => match ms[i]? with
    | some m => some (.tmp m, ρ1)
    | none => none
  | _ => none
noncomputable def sliceM (i : Nat) (f : EF) : EF := fun ρ => match f ρ with
  | some (.tmp (.dtup ms), ρ1) => if 0 < i ∧ i ≤ ms.length then some (.tmp (.dtup (ms.drop i)), ρ1) else none
  | _ => none
theorem zps_at {vs : List V} {ms : List M} {ps : Pend} {i : Nat} {m : M} (l : vs.length = ms.length) (h : ms[i]? = some m) : ∃ u qs, vs[i]? = some u ∧ (zps vs (ms.map .tmp) ++ ps).Perm ((u, R.tmp m) :: (qs ++ ps)) := by
  have hi := (List.getElem?_eq_some_iff.mp h).1
  have hv : i < vs.length := by omega
  refine ⟨vs[i], (zps vs (ms.map .tmp)).eraseIdx i, List.getElem?_eq_getElem hv, ?_⟩
  have hz : (zps vs (ms.map R.tmp))[i]? = some (vs[i], R.tmp m) := List.getElem?_zip_eq_some.mpr ⟨List.getElem?_eq_getElem hv, by rw [List.getElem?_map, h]; rfl⟩
  have hz2 := List.getElem?_eq_some_iff.mp hz
  have p : (zps vs (ms.map R.tmp)).Perm ((vs[i], R.tmp m) :: (zps vs (ms.map R.tmp)).eraseIdx i) := by
    rw [List.eraseIdx_eq_take_drop_succ]
    conv => lhs; rw [← List.take_append_drop i (zps vs (ms.map R.tmp)), List.drop_eq_getElem_cons hz2.1, hz2.2]
    exact List.perm_middle
  exact (p.append_right ps)
theorem W.dropsL {C : Cz} {σ : L2.St} {ρ : Env} {ps : Pend} {H : Hp} : ∀ {qs : Pend}, W C σ ρ (qs ++ ps) H → W C σ ρ ps H := fun w => w.dropL
section
variable {X : Cx} {e : Expr} {te : TE} {f : EF} {pos p2 p3 : Pos} {j : Nat}
theorem de_ixM (i : Nat) {ci : Int} (he : DE X e te f) (hci : ci = (i : Nat) := by rfl) (hc : decide (i < 2 ^ 62) = true := by rfl) : DE X (.Subscript e (.Constant (.int ci) j p2) pos) (tOp (rIx X.K) te (tC (.int ci))) (ixM i f) := ⟨pe_ix ix_seq he.pe pe_int (fun _ _ => rfl), ⟨fun C σ ρ ps H r' ρ' q w Q k => by
  subst hci
  unfold ixM at q
  split at q
  case h_2 => cases q
  rename_i ms ρ1 e1
  split at q
  case h_2 => cases q
  rename_i m e2
  cases q
  refine he.sem.run C σ ρ ps H _ ρ' e1 w _ fun x H1 w1 => ?_
  obtain ⟨B, w1⟩ := w1
  obtain ⟨p, vs, rfl, hp, l, w2⟩ := w1.parts (ms := ms) rfl
  obtain ⟨u, qs, hu, pm⟩ := zps_at (ps := ps) l e2
  refine .inr (.inl ⟨p, vs, (i : Nat), u, rfl, rfl, SqT.of hp, atI_nat hu hc, ?_⟩)
  have w3 := w2.permP pm
  have w4 : W C σ ρ' (qs ++ ((u, R.tmp m) :: ps)) H1 := w3.permP List.perm_middle.symm
  exact k _ _ w4.dropsL⟩⟩
theorem de_sliceM (i : Nat) {ci : Int} (he : DE X e te f) (hci : ci = (i : Nat) := by rfl) : DE X (.Subscript e (.Slice (some (.Constant (.int ci) j p2)) none none p3) pos) (tSl (rSlT X.K) te (tPart (tC (.int ci))) tNoPart) (sliceM i f) := ⟨pe_slice sl_tup he.pe (po_some pe_int) po_none, ⟨fun C σ ρ ps H r' ρ' q w Q k => by
  subst hci
  unfold sliceM at q
  split at q
  case h_2 => cases q
  rename_i ms ρ1 e1
  split at q
  case isFalse => cases q
  rename_i e2
  cases q
  refine he.sem.run C σ ρ ps H _ ρ' e1 w _ fun x H1 w1 => ?_
  obtain ⟨B, w1⟩ := w1
  obtain ⟨p, vs, rfl, hp, l, w2⟩ := w1.parts (ms := ms) rfl
  refine ⟨_, rfl, p, vs, rfl, SqT.of hp, ?_, fun a ha => ?_⟩
  · rintro ⟨z, _⟩
    unfold HT.sIx at z
    simp only at z
    rw [if_neg (by omega)] at z
    omega
  · have hcut : cutV vs (some (i : Int)) none = vs.drop i := by
      unfold cutV HT.sIx
      simp only
      rw [if_neg (by omega)]
      have : min ((i : Int)).toNat vs.length = i := by omega
      rw [this, List.take_of_length_le (by rw [List.length_drop]; exact Nat.le_refl _)]
    rw [hcut]
    have hz : zps vs (ms.map R.tmp) ++ ps = (zps vs (ms.map R.tmp)).take i ++ (zps (vs.drop i) ((ms.drop i).map R.tmp) ++ ps) := by
      rw [← List.append_assoc]
      congr 1
      conv => lhs; rw [← List.take_append_drop i (zps vs (ms.map R.tmp))]
      congr 1
      unfold zps
      rw [List.map_drop]
      rw [List.zip_eq_zipWith, List.drop_zipWith, ← List.zip_eq_zipWith]
    rw [hz] at w2
    have w3 := w2.dropsL
    obtain ⟨B3, w3⟩ := w3
    have l2 : (vs.drop i).length = (ms.drop i).length := by rw [List.length_drop, List.length_drop, l]
    obtain ⟨w4, fp, w5⟩ := w3.moved l2
    have w6 := w5.new_dtup ha
    rw [zip_fst l2, zip_snd l2] at w6
    exact k _ _ (w4.front w6)⟩⟩
end
end FD
set_option Elab.async false
set_option linter.all false
set_option maxRecDepth 100000
/-! FD21: looking without touching: an expression that changes nothing of what is owned, run over a world where all is data. -/
namespace FD
open PySem PySem.Spec PyProof.Rows L2
def frzS (ρ : Env) : Env := ρ.map fun o => o.map fun m => M.imm m.toD
mutual
/-- holds nothing but its own parts and plain scalars -/
noncomputable def M.free : M → Bool
  | .imm d => d.scal
  | .lst ds => ds.all D.scal
  | .deep ms => M.frees ms
  | .dtup ms => M.frees ms
  | .dK _ ds => ds.all D.scal
  | .dT _ ds => ds.all D.scal
noncomputable def M.frees : List M → Bool
  | [] => true
  | m :: ms => m.free && M.frees ms
end
theorem Rep.scal {B B' : Hp} {v : V} {d : D} (h : Rep B v d) (sc : d.scal = true) : Rep B' v d := by
  cases h with
  | non => exact .non
  | bl b => exact .bl b
  | int i => exact .int i
  | str s => exact .str s
  | _ => cases sc
theorem Reps.scal {B B' : Hp} : ∀ {vs : List V} {ds : List D}, Reps B vs ds → ds.all D.scal = true → Reps B' vs ds
  | _, _, .nil, _ => .nil
  | _, _, .cons a b, h => by
    rw [List.all_cons, Bool.and_eq_true] at h
    exact .cons (a.scal h.1) (b.scal h.2)
mutual
theorem T.free {B B' H : Hp} : ∀ {v : V} {m : M} {fp : List Addr}, T B H v m fp → m.free = true → T B' H v m fp
  | _, _, _, .imm h, q => .imm (h.scal q)
  | _, _, _, .lst h r, q => .lst h (r.scal q)
  | _, _, _, .deep h e1 e2 r, q => .deep h e1 e2 (Its.free r (by rw [e2]; exact q))
  | _, _, _, .dtup h e1 e2 r, q => .dtup h e1 e2 (Its.free r (by rw [e2]; exact q))
  | _, _, _, .dK h l r, q => .dK h l (r.scal q)
  | _, _, _, .dT h l r, q => .dT h l (r.scal q)
theorem Its.free {B B' H : Hp} : ∀ {its : List Item} {fp : List Addr}, Its B H its fp → M.frees (its.map (·.2)) = true → Its B' H its fp
  | _, _, .nil, _ => .nil
  | _, _, .cons h r, q => by
    have q' := Bool.and_eq_true_iff.mp q
    exact .cons (h.free q'.1) (Its.free r q'.2)
end
section
variable {C : Cz} {B H : Hp} {σ : L2.St} {ρ : Env} {ps : Pend} {v : V} {m : M}
/-- the same, in a heap that has grown -/
theorem WB.grow {H' : Hp} (w : WB C B σ ρ ps H) (s : Same H H') : WB C B σ ρ ps H' := by
  obtain ⟨fp, z⟩ := w.wd
  exact ⟨w.cov, w.ref, fp, ⟨fun a o h => s _ _ (z.bh _ _ h), fun a o h => s _ _ (z.rh _ _ h), z.b0, z.br, z.it.mono (.refl B) fun a _ o h => s _ _ h, z.nd, z.fr⟩⟩
theorem WB.obs {B' H' : Hp} {fp' : List Addr} (w : WB C B σ ρ ps H) (z : Wld ⟨H, H⟩ B' H' [(v, m)] fp') (hf : m.free = true) : WB C B σ ρ ((v, .tmp m) :: ps) H' := by
  have w' := w.grow z.rh
  obtain ⟨fp, y⟩ := w'.wd
  obtain ⟨fp0, y0⟩ := w.wd
  have hT : T B' H' v m fp' := by
    cases z.it with
    | cons h r =>
      cases r
      rw [List.append_nil] at *
      exact h
  refine .of_tmp w.cov w.ref (fp := fp' ++ fp0) ⟨y.bh, y.rh, y.b0, y.br, .cons (hT.free hf) (y0.it.mono (.refl B) fun a _ o h => z.rh _ _ h), List.nodup_append.mpr ⟨z.nd, y0.nd, fun a ha b hb e => ?_⟩, fun a ha => ?_⟩
  · subst e
    have h1 : H a = none := (z.fr a ha).2
    exact y0.it.dom a hb h1
  · rcases List.mem_append.mp ha with ha | ha
    · have h1 : H a = none := (z.fr a ha).2
      constructor
      · cases q : B a with
        | none => rfl
        | some o => have := y0.bh _ _ q; rw [h1] at this; cases this
      · cases q : C.R a with
        | none => rfl
        | some o => have := y0.rh _ _ q; rw [h1] at this; cases this
    · exact y0.fr a ha
theorem Its.allImm : ∀ {its : List Item} {fp : List Addr}, Same B H → Its B H its fp → Its H H (its.map fun p => (p.1, M.imm p.2.toD)) []
  | _, _, _, .nil => .nil
  | _, _, e, .cons h r => .cons (f := []) (.imm (h.rep e)) (Its.allImm e r)
theorem Sl_frz : ∀ (σ : L2.St) (ρ : Env), Sl σ (frzS ρ) = (Sl σ ρ).map fun p => (p.1, M.imm p.2.toD)
  | [], [] => rfl
  | [], none :: _ => rfl
  | [], some _ :: _ => rfl
  | none :: _, [] => rfl
  | some _ :: _, [] => rfl
  | none :: σ, none :: ρ => Sl_frz σ ρ
  | none :: σ, some _ :: ρ => Sl_frz σ ρ
  | some _ :: σ, none :: ρ => Sl_frz σ ρ
  | some v :: σ, some m :: ρ => by
    show (v, M.imm m.toD) :: Sl σ (frzS ρ) = _
    rw [Sl_frz σ ρ]
    rfl
theorem WB.all_frz (w : WB C B σ ρ ps H) : WB ⟨H, H⟩ H σ (frzS ρ) [] H := by
  obtain ⟨fp, z⟩ := w.wd
  have hl : σ.length = (frzS ρ).length := by unfold frzS; rw [List.length_map]; exact w.cov.len
  refine ⟨⟨hl, fun i m h => ?_⟩, (fun v i h => nomatch h), [], ⟨.refl _, .refl _, .refl _, fun a h _ => h, ?_, List.nodup_nil, fun a h => (nomatch h)⟩⟩
  · unfold frzS at h
    rw [List.getElem?_map, Option.map_eq_some_iff] at h
    obtain ⟨o, h1, h2⟩ := h
    rw [Option.map_eq_some_iff] at h2
    obtain ⟨m0, h3, _⟩ := h2
    subst h3
    exact w.cov.has i m0 h1
  · show Its H H (Sl σ (frzS ρ) ++ tmps []) []
    rw [Sl_frz, show tmps [] = [] from rfl, List.append_nil]
    obtain ⟨f, g, h1, _, _⟩ := z.it.split
    exact Its.allImm z.bh h1
end
noncomputable def obsE (f : EF) : EF := fun ρ => match f (frzS ρ) with
  | some (.tmp m, _) => if m.free then some (.tmp m, ρ) else none
  | _ => none
noncomputable def obsT (p : TF) : TF := fun ρ => match p (frzS ρ) with
  | some (b, _) => some (b, ρ)
  | none => none
noncomputable def obsF (f : EF) : SF := fun ρ => match f (frzS ρ) with
  | some _ => some (ρ, .nx)
  | none => none
theorem sem_obs {te : TE} {f : EF} (h : SemE te f) : SemE te (obsE f) := ⟨fun C σ ρ ps H r ρ' q w Q k => by
  unfold obsE at q
  split at q
  case h_2 => cases q
  rename_i m ρ1 e1
  split at q
  case isFalse => cases q
  rename_i hf
  cases q
  obtain ⟨B, w⟩ := w
  refine h.run ⟨H, H⟩ σ (frzS ρ) [] H (.tmp m) ρ1 e1 ⟨H, w.all_frz⟩ Q fun v H' w1 => ?_
  obtain ⟨B', w1⟩ := w1
  obtain ⟨fp, z⟩ := w1.tmp
  have z1 : ∃ fp', Wld ⟨H, H⟩ B' H' [(v, m)] fp' := by
    have it := z.it
    cases it with
    | @cons _ _ f1 _ g1 ht r => exact ⟨f1, z.bh, z.rh, z.b0, z.br, by have := Its.cons ht Its.nil; rwa [List.append_nil] at this, (List.nodup_append.mp z.nd).1, fun a ha => z.fr a (List.mem_append_left _ ha)⟩
  obtain ⟨fp', z1⟩ := z1
  exact k v H' ⟨B, w.obs z1 hf⟩⟩
theorem sem_obsT {tt : TT} {p : TF} (h : SemT tt p) : SemT tt (obsT p) := ⟨fun C σ ρ ps H b ρ' q w Q k => by
  unfold obsT at q
  split at q
  case h_2 => cases q
  rename_i b0 ρ1 e1
  cases q
  obtain ⟨B, w⟩ := w
  refine h.run ⟨H, H⟩ σ (frzS ρ) [] H _ ρ1 e1 ⟨H, w.all_frz⟩ Q fun H' w1 => ?_
  obtain ⟨B', w1⟩ := w1
  obtain ⟨fp, z⟩ := w1.wd
  exact k H' ⟨B, w.grow z.rh⟩⟩
section
variable {X : Cx} {e : Expr} {te : TE} {tt : TT} {f : EF} {p : TF} {pos : Pos}
theorem de_obs (h : DE X e te f) : DE X e te (obsE f) := ⟨h.pe, sem_obs h.sem⟩
theorem dt_obs (h : DT X e tt p) : DT X e tt (obsT p) := ⟨h.pt, sem_obsT h.sem⟩
theorem ds_obs (he : DE X e te f) (hs : swapsWith e none pos.line X.env = pure false := by rfl) : DS X (.Expr e pos) (tDrop te) (obsF f) [] := ⟨ps_expr he.pe hs, ⟨fun C σ ρ qs H ρ' c h w D k => by
  unfold obsF at h
  split at h
  case h_2 => cases h
  rename_i r e1
  obtain ⟨r, ρ1⟩ := r
  cases h
  obtain ⟨B, w⟩ := w
  refine he.sem.run ⟨H, H⟩ σ (frzS ρ) [] H _ ρ1 e1 ⟨H, w.all_frz⟩ _ fun v H1 w1 => ?_
  obtain ⟨B', w1⟩ := w1
  obtain ⟨fp, z⟩ := w1.wd
  exact k σ H1 (.refl _ _) ⟨B, w.grow z.rh⟩⟩⟩
end
end FD
set_option linter.all false
/-! M1: orders, rotations, single deeds, runs: plain lists of numbers. -/
namespace TL
/-! ### lists of numbers below a bound -/
theorem nodup_le : ∀ (c : Nat) (l : List Nat), l.Nodup → (∀ x ∈ l, x < c) → l.length ≤ c
  | 0, [], _, _ => Nat.le_refl _
  | 0, x :: l, _, h => absurd (h x (by simp)) (Nat.not_lt_zero _)
  | c + 1, l, nd, h => by
    have h1 : ∀ x ∈ l.erase c, x < c := fun x hx => by
      have hx' := (List.Nodup.mem_erase_iff nd).mp hx
      have := h x hx'.2
      omega
    have h2 := nodup_le c (l.erase c) (nd.erase c) h1
    have h3 : l.length ≤ (l.erase c).length + 1 := by
      rw [List.length_erase]
      split <;> omega
    omega
theorem full {c : Nat} {l : List Nat} (nd : l.Nodup) (h : ∀ x ∈ l, x < c) (hl : l.length = c) {b : Nat} (hb : b < c) : b ∈ l := by
  refine Classical.byContradiction fun hn => ?_
  have := nodup_le c (b :: l) (List.nodup_cons.mpr ⟨hn, nd⟩) fun x hx => by
    rcases List.mem_cons.mp hx with e | hx
    · rw [e]; exact hb
    · exact h x hx
  rw [List.length_cons, hl] at this
  omega
/-- an order: all letters once -/
structure Row (o : List Nat) : Prop where
  nd : o.Nodup
  lt : ∀ x ∈ o, x < o.length
theorem Row.mem {o : List Nat} (h : Row o) {b : Nat} (hb : b < o.length) : b ∈ o := full h.nd h.lt rfl hb
theorem Row.range (n : Nat) : Row (List.range n) := ⟨List.nodup_range, fun x hx => by rw [List.length_range]; exact List.mem_range.mp hx⟩
theorem Row.perm {o o' : List Nat} (h : Row o) (p : o.Perm o') : Row o' := ⟨p.nodup_iff.mp h.nd, fun x hx => by rw [← p.length_eq]; exact h.lt x (p.mem_iff.mpr hx)⟩
/-- no part from the front that stays within itself -/
def Irr (o : List Nat) : Prop := ∀ c, 0 < c → c < o.length → ∃ x ∈ o.take c, c ≤ x
structure Ord (o : List Nat) : Prop extends Row o where
  two : 2 ≤ o.length
  irr : Irr o
/-! ### rotations -/
def rotl {α : Type} (l : List α) (t : Nat) : List α := l.drop (t % l.length) ++ l.take (t % l.length)
theorem rotl_perm {α : Type} (l : List α) (t : Nat) : (rotl l t).Perm l := by
  unfold rotl
  exact List.perm_append_comm.trans (by rw [List.take_append_drop])
theorem rotl_len {α : Type} (l : List α) (t : Nat) : (rotl l t).length = l.length := (rotl_perm l t).length_eq
theorem rotl_zero {α : Type} (l : List α) : rotl l 0 = l := by simp [rotl]
theorem rotl_cons {α : Type} {l : List α} (h : 0 < l.length) (t : Nat) : ∃ hd tl, l[t % l.length]? = some hd ∧ rotl l t = hd :: tl ∧ rotl l (t + 1) = tl ++ [hd] := by
  have ht := Nat.mod_lt t h
  have e2 : (t + 1) % l.length = (t % l.length + 1) % l.length := (Nat.mod_add_mod t l.length 1).symm
  unfold rotl
  rw [e2]
  generalize t % l.length = j at ht
  have hd : l.drop j = l[j] :: l.drop (j + 1) := List.drop_eq_getElem_cons ht
  refine ⟨l[j], l.drop (j + 1) ++ l.take j, List.getElem?_eq_getElem ht, by rw [hd, List.cons_append], ?_⟩
  rcases Nat.lt_or_ge (j + 1) l.length with q | q
  · rw [Nat.mod_eq_of_lt q, List.append_assoc, List.take_succ_eq_append_getElem ht]
  · have : j + 1 = l.length := by omega
    rw [this, Nat.mod_self, List.drop_zero, List.take_zero, List.append_nil, List.drop_length, List.nil_append, ← List.take_succ_eq_append_getElem ht, this, List.take_length]
/-! ### single deeds -/
def lastL (o : List Nat) : Nat := o.getLastD 0
def cutU (o : List Nat) : Nat := o.idxOf (o.length - 1) + 1
def stepU (o : List Nat) : List Nat := o.take (cutU o) ++ [lastL o] ++ (o.drop (cutU o)).dropLast
def upOf (b n : Nat) : List Nat := List.range (b + 1) ++ [n - 1] ++ List.range' (b + 1) (n - 2 - b)
def stepL (o : List Nat) : List Nat := o.map fun x => (upOf (lastL o) o.length).idxOf x
/-- what stands behind the greatest letter -/
def suf (o : List Nat) : List Nat := o.drop (cutU o)
def runU (o : List Nat) (t : Nat) : List Nat := o.take (cutU o) ++ (rotl (suf o).reverse t).reverse
/-- the letters that lose, below b -/
def losL (b n : Nat) : List Nat := (List.range' (b + 1) (n - 1 - b)).reverse
def upL (b n t : Nat) : List Nat := List.range (b + 1) ++ (rotl (losL b n) t).reverse
def runL (o : List Nat) (t : Nat) : List Nat := o.map fun x => (upL (lastL o) o.length t).idxOf x
theorem lastL_eq {o : List Nat} (h : o ≠ []) : lastL o = o.getLast h := by
  unfold lastL
  rw [List.getLastD_eq_getLast?, List.getLast?_eq_getLast h]; rfl
theorem lastL_append {a b : List Nat} (h : b ≠ []) : lastL (a ++ b) = lastL b := by
  rw [lastL_eq (by simp [h]), lastL_eq h, List.getLast_append_of_ne_nil _ h]
theorem lastL_snoc (a : List Nat) (x : Nat) : lastL (a ++ [x]) = x := by
  rw [lastL_append (by simp)]; rfl
variable {o : List Nat}
theorem Ord.ne (h : Ord o) : o ≠ [] := fun e => by have := h.two; rw [e] at this; simp at this
theorem Ord.last_mem (h : Ord o) : o.length - 1 ∈ o := h.mem (by have := h.two; omega)
/-- the last letter is not the greatest -/
theorem Ord.last_ne (h : Ord o) : lastL o < o.length - 1 := by
  have h2 := h.two
  have h1 := h.lt _ (List.getLast_mem h.ne)
  rw [← lastL_eq h.ne] at h1
  rcases Nat.lt_or_ge (lastL o) (o.length - 1) with q | q
  · exact q
  obtain ⟨x, hx, hc⟩ := h.irr (o.length - 1) (by omega) (by omega)
  have e : x = o.length - 1 := by have := h.lt x (List.mem_of_mem_take hx); omega
  have e2 : lastL o = x := by omega
  rw [← List.dropLast_eq_take, ← e2, lastL_eq h.ne] at hx
  have nd := h.nd
  rw [← List.dropLast_concat_getLast h.ne] at nd
  exact absurd rfl ((List.nodup_append.mp nd).2.2 _ hx _ (by simp))
theorem Ord.cut_le (h : Ord o) : cutU o < o.length := by
  unfold cutU
  have h1 := List.idxOf_lt_length_of_mem h.last_mem
  rcases Nat.lt_or_ge (o.idxOf (o.length - 1) + 1) o.length with q | q
  · exact q
  have e : o.idxOf (o.length - 1) = o.length - 1 := by omega
  have h2 := List.getElem_idxOf h1
  have h3 := h.last_ne
  rw [lastL_eq h.ne, List.getLast_eq_getElem] at h3
  simp only [e] at h2
  omega
theorem Ord.suf_pos (h : Ord o) : 0 < (suf o).length := by
  unfold suf
  rw [List.length_drop]
  have := h.cut_le
  omega
theorem cut_suf (o : List Nat) : o.take (cutU o) ++ suf o = o := List.take_append_drop _ _
theorem runU_zero : runU o 0 = o := by unfold runU; rw [rotl_zero, List.reverse_reverse, cut_suf]
theorem runU_perm (t : Nat) : (runU o t).Perm o := by
  unfold runU
  refine ((List.Perm.append_left _ ((List.reverse_perm _).trans ((rotl_perm _ _).trans (List.reverse_perm _))))).trans ?_
  rw [cut_suf]
theorem runU_len (t : Nat) : (runU o t).length = o.length := (runU_perm t).length_eq
theorem take_cut_mem (h : o.length - 1 ∈ o) : o.length - 1 ∈ o.take (cutU o) := by
  have h1 := List.idxOf_lt_length_of_mem h
  unfold cutU
  rw [List.take_succ_eq_append_getElem h1, List.getElem_idxOf h1]
  simp
theorem cut_runU (h : Ord o) (t : Nat) : cutU (runU o t) = cutU o := by
  unfold cutU
  rw [runU_len]
  have : (runU o t).idxOf (o.length - 1) = (o.take (cutU o)).idxOf (o.length - 1) := by
    unfold runU
    rw [List.idxOf_append, if_pos (take_cut_mem h.last_mem)]
  rw [this]
  have e : o.idxOf (o.length - 1) = (o.take (cutU o)).idxOf (o.length - 1) := by
    have := List.idxOf_append (l₁ := o.take (cutU o)) (l₂ := suf o) (a := o.length - 1)
    rw [cut_suf, if_pos (take_cut_mem h.last_mem)] at this
    exact this
  omega
theorem suf_runU (h : Ord o) (t : Nat) : suf (runU o t) = (rotl (suf o).reverse t).reverse := by
  show (runU o t).drop (cutU (runU o t)) = _
  rw [cut_runU h t]
  unfold runU
  have hl : (o.take (cutU o)).length = cutU o := by rw [List.length_take]; have := h.cut_le; omega
  rw [List.drop_append, hl, Nat.sub_self, List.drop_zero, List.drop_eq_nil_of_le (by omega), List.nil_append]
theorem take_runU (h : Ord o) (t : Nat) : (runU o t).take (cutU o) = o.take (cutU o) := by
  unfold runU
  have hl : (o.take (cutU o)).length = cutU o := by rw [List.length_take]; have := h.cut_le; omega
  rw [List.take_append, hl, Nat.sub_self, List.take_zero, List.append_nil, List.take_of_length_le (by omega)]
/-- the letter that loses next -/
theorem runU_next (h : Ord o) (t : Nat) : ∃ b, (suf o).reverse[t % (suf o).length]? = some b ∧ lastL (runU o t) = b ∧ stepU (runU o t) = runU o (t + 1) := by
  have hp : 0 < (suf o).reverse.length := by rw [List.length_reverse]; exact h.suf_pos
  obtain ⟨hd, tl, e1, e2, e3⟩ := rotl_cons hp t
  rw [List.length_reverse] at e1
  refine ⟨hd, e1, ?_, ?_⟩
  · unfold runU
    rw [e2, List.reverse_cons, ← List.append_assoc, lastL_snoc]
  · have hb : lastL (runU o t) = hd := by
      unfold runU
      rw [e2, List.reverse_cons, ← List.append_assoc, lastL_snoc]
    unfold stepU
    rw [hb, cut_runU h t, take_runU h t]
    have hs : (runU o t).drop (cutU (runU o t)) = (rotl (suf o).reverse t).reverse := suf_runU h t
    rw [cut_runU h t] at hs
    rw [hs, e2, List.reverse_cons, List.dropLast_concat]
    unfold runU
    rw [e3, List.reverse_append]
    simp
theorem runU_irr (h : Ord o) (t : Nat) : Irr (runU o t) := by
  intro c c0 c1
  rw [runU_len] at c1
  rcases Nat.lt_or_ge c (cutU o) with q | q
  · obtain ⟨x, hx, hc⟩ := h.irr c c0 c1
    refine ⟨x, ?_, hc⟩
    have e1 : (runU o t).take c = ((runU o t).take (cutU o)).take c := by rw [List.take_take, Nat.min_eq_left (by omega)]
    have e2 : o.take c = (o.take (cutU o)).take c := by rw [List.take_take, Nat.min_eq_left (by omega)]
    rw [e1, take_runU h t, ← e2]
    exact hx
  · refine ⟨o.length - 1, ?_, by omega⟩
    have e1 : (runU o t).take (cutU o) = ((runU o t).take c).take (cutU o) := by rw [List.take_take, Nat.min_eq_left q]
    have := take_cut_mem h.last_mem
    rw [← take_runU h t, e1] at this
    exact List.mem_of_mem_take this
theorem runU_ord (h : Ord o) (t : Nat) : Ord (runU o t) := ⟨h.toRow.perm (runU_perm t).symm, by rw [runU_len]; exact h.two, runU_irr h t⟩
/-! ### the other deed -/
theorem idxOf_append_right {a b : List Nat} {x : Nat} (h : x ∉ a) : (a ++ b).idxOf x = a.length + b.idxOf x := by
  rw [List.idxOf_append, if_neg h, Nat.add_comm]
theorem idxOf_append_left {a b : List Nat} {x : Nat} (h : x ∈ a) : (a ++ b).idxOf x = a.idxOf x := by
  rw [List.idxOf_append, if_pos h]
theorem idxOf_range {n x : Nat} (h : x < n) : (List.range n).idxOf x = x := by
  have nd : (List.range n).Nodup := List.nodup_range
  have := List.Nodup.idxOf_getElem nd x (by rw [List.length_range]; exact h)
  rwa [List.getElem_range] at this
theorem losL_len (b n : Nat) : (losL b n).length = n - 1 - b := by unfold losL; rw [List.length_reverse, List.length_range']
theorem mem_losL {b n x : Nat} : x ∈ losL b n ↔ b < x ∧ x < n := by
  unfold losL
  rw [List.mem_reverse, List.mem_range'_1]
  omega
theorem upL_mem {b n t x : Nat} (hb : b < n) : x ∈ upL b n t ↔ x < n := by
  unfold upL
  rw [List.mem_append, List.mem_range, List.mem_reverse, (rotl_perm _ _).mem_iff, mem_losL]
  omega
theorem upL_nd (b n t : Nat) : (upL b n t).Nodup := by
  unfold upL
  refine List.nodup_append.mpr ⟨List.nodup_range, ((List.reverse_perm _).nodup_iff.mpr ((rotl_perm _ _).nodup_iff.mpr ((List.reverse_perm _).nodup_iff.mpr (List.nodup_range' ..)))), fun x hx y hy => ?_⟩
  rw [List.mem_range] at hx
  rw [List.mem_reverse, (rotl_perm _ _).mem_iff, mem_losL] at hy
  omega
theorem upL_len {b n t : Nat} (hb : b < n) : (upL b n t).length = n := by
  unfold upL
  rw [List.length_append, List.length_range, List.length_reverse, rotl_len, losL_len]
  omega
theorem upL_row {b n t : Nat} (hb : b < n) : Row (upL b n t) := ⟨upL_nd b n t, fun x hx => by rw [upL_len hb]; exact (upL_mem hb).mp hx⟩
theorem idx_upL_low {b n t x : Nat} (h : x ≤ b) : (upL b n t).idxOf x = x := by
  unfold upL
  rw [idxOf_append_left (List.mem_range.mpr (by omega)), idxOf_range (by omega)]
theorem idx_upL_lt {b n t x : Nat} (hb : b < n) (h : x < n) : (upL b n t).idxOf x < n := by
  have := List.idxOf_lt_length_of_mem ((upL_mem (t := t) hb).mpr h)
  rwa [upL_len hb] at this
theorem runL_len (o : List Nat) (t : Nat) : (runL o t).length = o.length := by unfold runL; rw [List.length_map]
theorem runL_zero (h : Ord o) : runL o 0 = o := by
  have hb := h.last_ne
  have e : upL (lastL o) o.length 0 = List.range o.length := by
    unfold upL losL
    rw [rotl_zero, List.reverse_reverse, List.range_eq_range', List.range_eq_range']
    have := @List.range'_append_1 0 (lastL o + 1) (o.length - 1 - lastL o)
    rw [Nat.zero_add] at this
    rw [this]
    congr 1
    omega
  unfold runL
  rw [e]
  conv => rhs; rw [← List.map_id o]
  exact List.map_congr_left fun x hx => idxOf_range (h.lt x hx)
theorem idx_inj {l : List Nat} {x y : Nat} (hx : x ∈ l) (hy : y ∈ l) (e : l.idxOf x = l.idxOf y) : x = y := by
  have h1 := List.getElem_idxOf (List.idxOf_lt_length_of_mem hx)
  have h2 := List.getElem_idxOf (List.idxOf_lt_length_of_mem hy)
  rw [← h1, ← h2]
  simp only [e]
theorem nodup_map {f : Nat → Nat} : ∀ {l : List Nat}, l.Nodup → (∀ x ∈ l, ∀ y ∈ l, f x = f y → x = y) → (l.map f).Nodup
  | [], _, _ => List.nodup_nil
  | a :: l, nd, h => by
    have nd' := List.nodup_cons.mp nd
    rw [List.map_cons]
    refine List.nodup_cons.mpr ⟨fun hm => ?_, nodup_map nd'.2 fun x hx y hy => h x (List.mem_cons_of_mem _ hx) y (List.mem_cons_of_mem _ hy)⟩
    obtain ⟨y, hy, e⟩ := List.mem_map.mp hm
    have := h y (List.mem_cons_of_mem _ hy) a (List.mem_cons_self ..) e
    rw [this] at hy
    exact nd'.1 hy
theorem runL_row (h : Ord o) (t : Nat) : Row (runL o t) := by
  have hb := h.last_ne
  refine ⟨nodup_map h.nd fun x hx y hy e => idx_inj ((upL_mem (by omega)).mpr (h.lt x hx)) ((upL_mem (by omega)).mpr (h.lt y hy)) e, fun x hx => ?_⟩
  rw [runL_len]
  obtain ⟨y, hy, e⟩ := List.mem_map.mp hx
  rw [← e]
  exact idx_upL_lt (by omega) (h.lt y hy)
theorem runL_last (h : Ord o) (t : Nat) : lastL (runL o t) = lastL o := by
  have hb := h.last_ne
  rw [lastL_eq (by unfold runL; simp [h.ne])]
  unfold runL
  rw [List.getLast_map, ← lastL_eq h.ne, idx_upL_low (Nat.le_refl _)]
theorem idx_upL_hi {b n t x : Nat} (hx : b < x) (h : x < n) : b < (upL b n t).idxOf x := by
  unfold upL
  rw [idxOf_append_right (by rw [List.mem_range]; omega), List.length_range]
  omega
theorem runL_irr (h : Ord o) (t : Nat) : Irr (runL o t) := by
  intro c c0 c1
  have R := runL_row h t
  have hl := runL_last h t
  have hb := h.last_ne
  refine Classical.byContradiction fun hn => ?_
  have hall : ∀ x ∈ (runL o t).take c, x < c := fun x hx => by
    refine Classical.byContradiction fun q => hn ⟨x, hx, by omega⟩
  have hlen : ((runL o t).take c).length = c := by rw [List.length_take]; omega
  have nd := R.nd
  rcases Nat.lt_or_ge (lastL o) c with q | q
  · have hm := full (nd.sublist (List.take_sublist _ _)) hall hlen q
    have ne : runL o t ≠ [] := by unfold runL; simp [h.ne]
    have e := lastL_eq ne
    rw [hl] at e
    rw [← List.dropLast_concat_getLast ne] at nd
    have hm2 : lastL o ∈ (runL o t).dropLast := by
      rw [List.dropLast_eq_take]
      have : (runL o t).take c = ((runL o t).take ((runL o t).length - 1)).take c := by rw [List.take_take, Nat.min_eq_left (by omega)]
      rw [this] at hm
      exact List.mem_of_mem_take hm
    exact (List.nodup_append.mp nd).2.2 _ hm2 _ (by rw [← e]; simp) rfl
  · rw [runL_len] at c1
    obtain ⟨x, hx, hc⟩ := h.irr c c0 c1
    have hm : (upL (lastL o) o.length t).idxOf x ∈ (runL o t).take c := by
      unfold runL
      rw [← List.map_take]
      exact List.mem_map_of_mem hx
    have h1 := hall _ hm
    rcases Nat.lt_or_ge (lastL o) x with z | z
    · have := idx_upL_hi (t := t) z (h.lt x (List.mem_of_mem_take hx))
      omega
    · rw [idx_upL_low z] at h1
      omega
theorem runL_ord (h : Ord o) (t : Nat) : Ord (runL o t) := ⟨runL_row h t, by rw [runL_len]; exact h.two, runL_irr h t⟩
end TL
set_option linter.all false
/-! M2: the other deed step by step; lengths. -/
namespace TL
variable {o : List Nat}
theorem map_getD_range {l : List Nat} {a k : Nat} (h : a + k ≤ l.length) : (List.range' a k).map (fun i => l.getD i 0) = (l.drop a).take k := by
  apply List.ext_getElem
  · rw [List.length_map, List.length_range', List.length_take, List.length_drop]; omega
  · intro i h1 h2
    rw [List.length_map, List.length_range'] at h1
    rw [List.getElem_map, List.getElem_range', List.getElem_take, List.getElem_drop, Nat.one_mul]
    have : a + i < l.length := by omega
    simp [List.getD, List.getElem?_eq_getElem this]
theorem map_getD_all (l : List Nat) : (List.range l.length).map (fun i => l.getD i 0) = l := by
  rw [List.range_eq_range', map_getD_range (by omega), List.drop_zero, List.take_length]
theorem upL_next {b n : Nat} (hb : b + 1 < n) (t : Nat) : ∃ hd, (losL b n)[t % (losL b n).length]? = some hd ∧ (upL b n t).getD (n - 1) 0 = hd ∧ upL b n (t + 1) = (upOf b n).map fun i => (upL b n t).getD i 0 := by
  have hp : 0 < (losL b n).length := by rw [losL_len]; omega
  obtain ⟨hd, tl, e1, e2, e3⟩ := rotl_cons hp t
  have ht : tl.length = n - 2 - b := by
    have := rotl_len (losL b n) t
    rw [e2, List.length_cons, losL_len] at this
    omega
  have eU : upL b n t = List.range (b + 1) ++ (tl.reverse ++ [hd]) := by unfold upL; rw [e2, List.reverse_cons]
  have eV : upL b n (t + 1) = List.range (b + 1) ++ (hd :: tl.reverse) := by unfold upL; rw [e3, List.reverse_append]; rfl
  have hn : (upL b n t).length = n := upL_len (by omega)
  have hg : (upL b n t).getD (n - 1) 0 = hd := by
    rw [eU]
    simp only [List.getD]
    rw [List.getElem?_append_right (by rw [List.length_range]; omega), List.getElem?_append_right (by rw [List.length_range, List.length_reverse]; omega)]
    have : n - 1 - (List.range (b + 1)).length - tl.reverse.length = 0 := by rw [List.length_range, List.length_reverse]; omega
    rw [this]
    rfl
  refine ⟨hd, e1, hg, ?_⟩
  unfold upOf
  rw [List.map_append, List.map_append, List.map_cons, List.map_nil, hg, List.range_eq_range', map_getD_range (by omega), map_getD_range (by omega), eV, eU]
  have l1 : (List.range (b + 1)).length = b + 1 := List.length_range
  rw [List.drop_zero, List.take_append, l1, Nat.sub_self, List.take_zero, List.append_nil, List.take_of_length_le (by omega), List.drop_append, l1, Nat.sub_self, List.drop_zero, List.drop_eq_nil_of_le (by omega), List.nil_append, List.take_append, List.length_reverse, ht, Nat.sub_self, List.take_zero, List.append_nil,
    List.take_of_length_le (by rw [List.length_reverse]; omega), List.append_assoc]
  rfl
theorem idxOf_map {f : Nat → Nat} {x : Nat} : ∀ {l : List Nat}, (∀ y ∈ l, f y = f x → y = x) → (l.map f).idxOf (f x) = l.idxOf x
  | [], _ => rfl
  | a :: l, h => by
    rw [List.map_cons, List.idxOf_cons, List.idxOf_cons]
    by_cases e : a = x
    · subst e; simp
    · have : ¬ f a = f x := fun q => e (h a (List.mem_cons_self ..) q)
      have e1 : (f a == f x) = false := by simpa using this
      have e2 : (a == x) = false := by simpa using e
      rw [e1, e2, idxOf_map fun y hy => h y (List.mem_cons_of_mem _ hy)]
theorem getD_inj {l : List Nat} (nd : l.Nodup) {i j : Nat} (hi : i < l.length) (hj : j < l.length) (e : l.getD i 0 = l.getD j 0) : i = j := by
  simp only [List.getD, List.getElem?_eq_getElem hi, List.getElem?_eq_getElem hj, Option.getD_some] at e
  have h1 := List.Nodup.idxOf_getElem nd i hi
  have h2 := List.Nodup.idxOf_getElem nd j hj
  rw [e] at h1
  omega
theorem getD_idx {l : List Nat} {x : Nat} (h : x ∈ l) : l.getD (l.idxOf x) 0 = x := by
  have hl := List.idxOf_lt_length_of_mem h
  simp only [List.getD, List.getElem?_eq_getElem hl, Option.getD_some]
  exact List.getElem_idxOf hl
theorem mem_upOf {b n x : Nat} (hb : b + 1 < n) : x ∈ upOf b n ↔ x < n := by
  unfold upOf
  rw [List.mem_append, List.mem_append, List.mem_range, List.mem_singleton, List.mem_range'_1]
  omega
theorem idx_up_next {b n x : Nat} (hb : b + 1 < n) (t : Nat) (h : x < n) : (upOf b n).idxOf ((upL b n t).idxOf x) = (upL b n (t + 1)).idxOf x := by
  obtain ⟨hd, _, _, e⟩ := upL_next hb t
  have hx : x ∈ upL b n t := (upL_mem (by omega)).mpr h
  have hn : (upL b n t).length = n := upL_len (by omega)
  have hi := List.idxOf_lt_length_of_mem hx
  rw [e]
  have := idxOf_map (f := fun i => (upL b n t).getD i 0) (x := (upL b n t).idxOf x) (l := upOf b n) fun y hy q => getD_inj (upL_nd b n t) (by rw [hn]; exact (mem_upOf hb).mp hy) hi q
  rw [← this]
  rw [getD_idx hx]
theorem runL_next (h : Ord o) (t : Nat) : stepL (runL o t) = runL o (t + 1) := by
  have hb := h.last_ne
  unfold stepL
  rw [runL_last h t, runL_len]
  unfold runL
  rw [List.map_map]
  exact List.map_congr_left fun x hx => idx_up_next (by omega) t (h.lt x hx)
/-! ### lengths -/
inductive Deed where | u | l
  deriving DecidableEq
/-- the deed that lengths take, the order and the lengths behind it -/
def nextd (o L : List Nat) : Option Deed :=
  let a := L.getD (o.length - 1) 0
  let c := L.getD (lastL o) 0
  if a = c then none else if a > c then some .u else some .l
def lenU (o L : List Nat) (w : Nat) : List Nat := L.set (o.length - 1) w
def lenL (U : List Nat) (b w : Nat) (L : List Nat) : List Nat := U.map fun x => if x = b then w else L.getD x 0
def takeS (o L : List Nat) : Option (Deed × List Nat × List Nat) :=
  let a := L.getD (o.length - 1) 0
  let c := L.getD (lastL o) 0
  match nextd o L with
  | none => none
  | some .u => some (.u, stepU o, lenU o L (a - c))
  | some .l => some (.l, stepL o, lenL (upOf (lastL o) o.length) (lastL o) (c - a) L)
end TL
set_option linter.all false
/-! M3: runs of one deed. -/
namespace TL
variable {o L : List Nat}
def Deed.other : Deed → Deed | .u => .l | .l => .u
def winner (d : Deed) (o : List Nat) : Nat := match d with | .u => o.length - 1 | .l => lastL o
def losers (d : Deed) (o : List Nat) : List Nat := match d with | .u => (suf o).reverse | .l => losL (lastL o) o.length
def ordAt (d : Deed) (o : List Nat) (t : Nat) : List Nat := match d with | .u => runU o t | .l => runL o t
def lenAt (d : Deed) (o L : List Nat) (t w : Nat) : List Nat := match d with | .u => lenU o L w | .l => lenL (upL (lastL o) o.length t) (lastL o) w L
theorem losers_pos (h : Ord o) (d : Deed) : 0 < (losers d o).length := by
  cases d with
  | u => show 0 < (suf o).reverse.length; rw [List.length_reverse]; exact h.suf_pos
  | l => show 0 < (losL _ _).length; rw [losL_len]; have := h.last_ne; omega
theorem ordAt_ord (h : Ord o) (d : Deed) (t : Nat) : Ord (ordAt d o t) := by
  cases d with
  | u => exact runU_ord h t
  | l => exact runL_ord h t
theorem ordAt_len (d : Deed) (t : Nat) : (ordAt d o t).length = o.length := by
  cases d with
  | u => exact runU_len t
  | l => exact runL_len o t
theorem ordAt_zero (h : Ord o) (d : Deed) : ordAt d o 0 = o := by
  cases d with
  | u => exact runU_zero
  | l => exact runL_zero h
theorem getD_set_self {l : List Nat} {i w : Nat} (h : i < l.length) : (l.set i w).getD i 0 = w := by simp [List.getD, h]
theorem getD_set_ne {l : List Nat} {i j w : Nat} (h : i ≠ j) : (l.set i w).getD j 0 = l.getD j 0 := by simp [List.getD, List.getElem?_set_ne h]
theorem getD_map {f : Nat → Nat} {l : List Nat} {i : Nat} (h : i < l.length) : (l.map f).getD i 0 = f (l.getD i 0) := by simp [List.getD, h]
theorem upL_at_low {b n t : Nat} (i : Nat) (h : i ≤ b) : (upL b n t).getD i 0 = i := by
  unfold upL
  simp only [List.getD]
  rw [List.getElem?_append_left (by rw [List.length_range]; omega), List.getElem?_range (by omega)]
  rfl
theorem lenAt_len (hL : L.length = o.length) (h : Ord o) (d : Deed) (t w : Nat) : (lenAt d o L t w).length = o.length := by
  cases d with
  | u => show (L.set _ _).length = _; rw [List.length_set, hL]
  | l => show (List.map _ _).length = _; rw [List.length_map, upL_len (by have := h.last_ne; omega)]
theorem upL0 (h : Ord o) : upL (lastL o) o.length 0 = List.range o.length := by
  have hb := h.last_ne
  unfold upL losL
  rw [rotl_zero, List.reverse_reverse, List.range_eq_range', List.range_eq_range']
  have := @List.range'_append_1 0 (lastL o + 1) (o.length - 1 - lastL o)
  rw [Nat.zero_add] at this
  rw [this]
  congr 1
  omega
theorem lenAt_zero (hL : L.length = o.length) (h : Ord o) (d : Deed) : lenAt d o L 0 (L.getD (winner d o) 0) = L := by
  have h2 := h.two
  cases d with
  | u =>
    show L.set (o.length - 1) (L.getD (o.length - 1) 0) = L
    have hl : o.length - 1 < L.length := by omega
    simp only [List.getD, List.getElem?_eq_getElem hl, Option.getD_some]
    exact List.set_getElem_self hl
  | l =>
    show lenL _ _ _ _ = L
    unfold lenL
    rw [upL0 h]
    have e : (List.range o.length).map (fun x => if x = lastL o then L.getD (winner .l o) 0 else L.getD x 0) = (List.range o.length).map fun x => L.getD x 0 := by
      refine List.map_congr_left fun x _ => ?_
      split
      · rename_i q; rw [q]; rfl
      · rfl
    rw [e, ← hL]
    exact map_getD_all L
/-- the letter that loses at turn t -/
def loser (d : Deed) (o : List Nat) (t : Nat) : Nat := (losers d o).getD (t % (losers d o).length) 0
theorem loser_u (h : Ord o) (t : Nat) : lastL (runU o t) = loser .u o t ∧ stepU (runU o t) = runU o (t + 1) ∧ loser .u o t ∈ suf o := by
  obtain ⟨b, e1, e2, e3⟩ := runU_next h t
  have e : loser .u o t = b := by
    unfold loser losers
    simp only [List.getD, List.length_reverse, e1, Option.getD_some]
  rw [e]
  exact ⟨e2, e3, List.mem_reverse.mp (List.mem_of_getElem? e1)⟩
theorem loser_l (h : Ord o) (t : Nat) : (upL (lastL o) o.length t).getD (o.length - 1) 0 = loser .l o t ∧ upL (lastL o) o.length (t + 1) = (upOf (lastL o) o.length).map (fun i => (upL (lastL o) o.length t).getD i 0) ∧ lastL o < loser .l o t ∧ loser .l o t < o.length := by
  obtain ⟨hd, e1, e2, e3⟩ := upL_next (b := lastL o) (n := o.length) (by have := h.last_ne; omega) t
  have e : loser .l o t = hd := by
    unfold loser losers
    simp only [List.getD, e1, Option.getD_some]
  rw [e]
  have := mem_losL.mp (List.mem_of_getElem? e1)
  exact ⟨e2, e3, this.1, this.2⟩
theorem loser_ne (h : Ord o) (d : Deed) (t : Nat) : loser d o t ≠ winner d o ∧ loser d o t < o.length := by
  cases d with
  | u =>
    have h1 := (loser_u h t).2.2
    have nd := h.nd
    rw [← cut_suf o] at nd
    refine ⟨fun e => ?_, h.lt _ (List.mem_of_mem_drop h1)⟩
    rw [e] at h1
    exact (List.nodup_append.mp nd).2.2 _ (take_cut_mem h.last_mem) _ h1 rfl
  | l =>
    obtain ⟨_, _, h1, h2⟩ := loser_l h t
    exact ⟨fun e => by have : loser .l o t = lastL o := e; omega, h2⟩
/-- one turn more -/
theorem next_at (hL : L.length = o.length) (h : Ord o) (d : Deed) (t w : Nat) :
    nextd (ordAt d o t) (lenAt d o L t w) = if w = L.getD (loser d o t) 0 then none else if w > L.getD (loser d o t) 0 then some d else some d.other := by
  have h2 := h.two
  have hn := loser_ne h d t
  unfold nextd
  rw [ordAt_len]
  cases d with
  | u =>
    have e1 : (lenAt .u o L t w).getD (o.length - 1) 0 = w := getD_set_self (by omega)
    have e2 : lastL (ordAt .u o t) = loser .u o t := (loser_u h t).1
    have e3 : (lenAt .u o L t w).getD (loser .u o t) 0 = L.getD (loser .u o t) 0 := getD_set_ne fun e => hn.1 e.symm
    simp only [e1, e2, e3]
    rfl
  | l =>
    obtain ⟨l1, l2, l3, l4⟩ := loser_l h t
    have hb := h.last_ne
    have e2 : lastL (ordAt .l o t) = lastL o := runL_last h t
    have ul : (upL (lastL o) o.length t).length = o.length := upL_len (by omega)
    have e1 : (lenAt .l o L t w).getD (o.length - 1) 0 = L.getD (loser .l o t) 0 := by
      show (List.map _ _).getD _ 0 = _
      rw [getD_map (by omega), l1, if_neg (by omega)]
    have e3 : (lenAt .l o L t w).getD (lastL o) 0 = w := by
      show (List.map _ _).getD _ 0 = _
      rw [getD_map (by omega), upL_at_low _ (Nat.le_refl _), if_pos rfl]
    simp only [e1, e2, e3]
    by_cases q : w = L.getD (loser .l o t) 0
    · rw [if_pos q.symm, if_pos q]
    · rw [if_neg (fun e => q e.symm), if_neg q]
      by_cases q2 : w > L.getD (loser .l o t) 0
      · rw [if_neg (by omega), if_pos q2]
      · rw [if_pos (by omega), if_neg q2]; rfl
theorem take_at (hL : L.length = o.length) (h : Ord o) (d : Deed) (t w : Nat) (hw : L.getD (loser d o t) 0 < w) :
    takeS (ordAt d o t) (lenAt d o L t w) = some (d, ordAt d o (t + 1), lenAt d o L (t + 1) (w - L.getD (loser d o t) 0)) := by
  have h2 := h.two
  have hn := loser_ne h d t
  have hd := next_at hL h d t w
  rw [if_neg (by omega), if_pos hw] at hd
  unfold takeS
  rw [hd, ordAt_len]
  cases d with
  | u =>
    have e1 : (lenAt .u o L t w).getD (o.length - 1) 0 = w := getD_set_self (by omega)
    have e2 : lastL (ordAt .u o t) = loser .u o t := (loser_u h t).1
    have e3 : (lenAt .u o L t w).getD (loser .u o t) 0 = L.getD (loser .u o t) 0 := getD_set_ne fun e => hn.1 e.symm
    have e4 : stepU (ordAt .u o t) = ordAt .u o (t + 1) := (loser_u h t).2.1
    simp only [e1, e2, e3, e4]
    unfold lenU
    rw [ordAt_len]
    show some (Deed.u, _, (L.set _ _).set _ _) = some (Deed.u, _, L.set _ _)
    rw [List.set_set]
  | l =>
    obtain ⟨l1, l2, l3, l4⟩ := loser_l h t
    have hb := h.last_ne
    have e2 : lastL (ordAt .l o t) = lastL o := runL_last h t
    have ul : (upL (lastL o) o.length t).length = o.length := upL_len (by omega)
    have e1 : (lenAt .l o L t w).getD (o.length - 1) 0 = L.getD (loser .l o t) 0 := by
      show (List.map _ _).getD _ 0 = _
      rw [getD_map (by omega), l1, if_neg (by omega)]
    have e3 : (lenAt .l o L t w).getD (lastL o) 0 = w := by
      show (List.map _ _).getD _ 0 = _
      rw [getD_map (by omega), upL_at_low _ (Nat.le_refl _), if_pos rfl]
    have e4 : stepL (ordAt .l o t) = ordAt .l o (t + 1) := runL_next h t
    simp only [e1, e2, e3, e4]
    have : lenL (upOf (lastL o) o.length) (lastL o) (w - L.getD (loser .l o t) 0) (lenAt .l o L t w) = lenAt .l o L (t + 1) (w - L.getD (loser .l o t) 0) := by
      show _ = lenL _ _ _ _
      rw [l2]
      unfold lenL
      rw [List.map_map]
      refine List.map_congr_left fun i hi => ?_
      have hi' := (mem_upOf (b := lastL o) (n := o.length) (by omega)).mp hi
      show _ = if _ = _ then _ else _
      by_cases q : i = lastL o
      · rw [if_pos q, q]
        show _ = if (upL (lastL o) o.length t).getD (lastL o) 0 = lastL o then _ else _
        rw [upL_at_low _ (Nat.le_refl _), if_pos rfl]
      · rw [if_neg q]
        have ne : (upL (lastL o) o.length t).getD i 0 ≠ lastL o := fun e => q (getD_inj (upL_nd _ _ t) (by omega) (by omega) (e.trans (upL_at_low _ (Nat.le_refl _)).symm))
        show (lenAt .l o L t w).getD i 0 = if (upL (lastL o) o.length t).getD i 0 = lastL o then _ else _
        rw [if_neg ne]
        show (List.map _ _).getD _ 0 = _
        rw [getD_map (by omega), if_neg ne]
    rw [this]
/-! ### the whole run -/
/-- what the winner has lost when t letters have lost -/
def spent (d : Deed) (o L : List Nat) : Nat → Nat
  | 0 => 0
  | t + 1 => spent d o L t + L.getD (loser d o t) 0
/-- the state at turn t -/
def leftAt (d : Deed) (o L : List Nat) (t : Nat) : Nat := L.getD (winner d o) 0 - spent d o L t
inductive Std : List Nat → List Nat → List Deed → List Nat → List Nat → Prop
  | done {o L : List Nat} : takeS o L = none → Std o L [] o L
  | step {o L o1 L1 o2 L2 : List Nat} {d : Deed} {w : List Deed} : takeS o L = some (d, o1, L1) → Std o1 L1 w o2 L2 → Std o L (d :: w) o2 L2
theorem takeS_none {o L : List Nat} : takeS o L = none ↔ nextd o L = none := by
  unfold takeS
  cases nextd o L with
  | none => simp
  | some d => cases d <;> simp
theorem Std.det {o L : List Nat} {w w' : List Deed} {o2 L2 o3 L3 : List Nat} (h : Std o L w o2 L2) (h' : Std o L w' o3 L3) : w = w' ∧ o2 = o3 ∧ L2 = L3 := by
  induction h generalizing w' o3 L3 with
  | done e =>
    cases h' with
    | done _ => exact ⟨rfl, rfl, rfl⟩
    | step e2 _ => rw [e] at e2; cases e2
  | step e _ ih =>
    cases h' with
    | done e2 => rw [e] at e2; cases e2
    | step e2 h2 =>
      rw [e] at e2
      cases e2
      obtain ⟨a, b, c⟩ := ih h2
      exact ⟨by rw [a], b, c⟩
/-- T turns of one deed -/
theorem Std.run (hL : L.length = o.length) (h : Ord o) (d : Deed) {w : List Deed} {o2 L2 : List Nat} : ∀ (T : Nat), (∀ t, t < T → spent d o L t + L.getD (loser d o t) 0 < L.getD (winner d o) 0) →
    Std (ordAt d o T) (lenAt d o L T (leftAt d o L T)) w o2 L2 → Std o L (List.replicate T d ++ w) o2 L2 := by
  intro T hT hS
  have key : ∀ j, j ≤ T → Std (ordAt d o (T - j)) (lenAt d o L (T - j) (leftAt d o L (T - j))) (List.replicate j d ++ w) o2 L2 := by
    intro j
    induction j with
    | zero => intro _; exact hS
    | succ j ih =>
      intro hj
      have h1 := hT (T - (j + 1)) (by omega)
      have e : T - (j + 1) + 1 = T - j := by omega
      have h2 := take_at hL h d (T - (j + 1)) (leftAt d o L (T - (j + 1))) (by unfold leftAt; omega)
      rw [e] at h2
      have h3 : leftAt d o L (T - (j + 1)) - L.getD (loser d o (T - (j + 1))) 0 = leftAt d o L (T - j) := by
        rw [← e]
        unfold leftAt
        show _ = _ - (_ + _)
        omega
      rw [h3] at h2
      rw [List.replicate_succ, List.cons_append]
      exact .step h2 (ih (by omega))
  have := key T (Nat.le_refl _)
  rw [Nat.sub_self, ordAt_zero h] at this
  have e0 : leftAt d o L 0 = L.getD (winner d o) 0 := Nat.sub_zero _
  rw [e0, lenAt_zero hL h] at this
  exact this
end TL
set_option linter.all false
/-! M4: how many turns a run has. -/
namespace TL
variable {o L : List Nat}
def lossOf (d : Deed) (o L : List Nat) : List Nat := (losers d o).map fun x => L.getD x 0
theorem lossOf_len (d : Deed) : (lossOf d o L).length = (losers d o).length := List.length_map ..
theorem spent_take (d : Deed) : ∀ {j : Nat}, j ≤ (losers d o).length → spent d o L j = ((lossOf d o L).take j).sum
  | 0, _ => rfl
  | j + 1, h => by
    show spent d o L j + _ = _
    have hl : j < (lossOf d o L).length := by rw [lossOf_len]; omega
    rw [spent_take d (by omega : j ≤ _), List.take_succ_eq_append_getElem hl, List.sum_append]
    congr 1
    show L.getD ((losers d o).getD (j % (losers d o).length) 0) 0 = _
    rw [Nat.mod_eq_of_lt (by omega)]
    simp [lossOf, List.getD, (by omega : j < (losers d o).length)]
theorem spent_ring (d : Deed) : spent d o L (losers d o).length = (lossOf d o L).sum := by
  rw [spent_take d (Nat.le_refl _), ← lossOf_len (L := L) d, List.take_length]
theorem loser_add (d : Deed) (t : Nat) : loser d o (t + (losers d o).length) = loser d o t := by
  unfold loser
  rw [Nat.add_mod_right]
theorem spent_add (d : Deed) : ∀ t, spent d o L (t + (losers d o).length) = spent d o L t + (lossOf d o L).sum
  | 0 => by rw [Nat.zero_add, spent_ring]; exact (Nat.zero_add _).symm
  | t + 1 => by
    have e : t + 1 + (losers d o).length = t + (losers d o).length + 1 := by omega
    rw [e]
    show spent d o L (t + (losers d o).length) + L.getD (loser d o (t + (losers d o).length)) 0 = spent d o L t + L.getD (loser d o t) 0 + _
    rw [spent_add d t, loser_add]
    omega
theorem spent_rings (d : Deed) (j : Nat) : ∀ q, spent d o L (q * (losers d o).length + j) = q * (lossOf d o L).sum + spent d o L j
  | 0 => by rw [Nat.zero_mul, Nat.zero_mul]; simp
  | q + 1 => by
    have e : (q + 1) * (losers d o).length + j = q * (losers d o).length + j + (losers d o).length := by rw [Nat.succ_mul]; omega
    rw [e, spent_add, spent_rings d j q, Nat.succ_mul]
    omega
theorem spent_mono (d : Deed) {s t : Nat} (h : s ≤ t) : spent d o L s ≤ spent d o L t := by
  induction h with
  | refl => exact Nat.le_refl _
  | step _ ih => exact Nat.le_trans ih (Nat.le_add_right _ _)
/-- the losers one by one -/
def walkL (most : Option Nat) : List Nat → Nat → Nat → Nat × Nat
  | [], left, times => (left, times)
  | l :: ls, left, times => if left ≤ l ∨ some times = most then (left, times) else walkL most ls (left - l) (times + 1)
theorem walk_spec (d : Deed) (most : Option Nat) (q : Nat) : ∀ (k j : Nat), j + k = (losers d o).length → (∀ t, t < q * (losers d o).length + j → spent d o L t + L.getD (loser d o t) 0 < L.getD (winner d o) 0) →
    ∃ T, walkL most ((lossOf d o L).drop j) (leftAt d o L (q * (losers d o).length + j)) (q * (losers d o).length + j) = (leftAt d o L T, T) ∧ q * (losers d o).length + j ≤ T ∧ T ≤ (q + 1) * (losers d o).length ∧
      (∀ t, t < T → spent d o L t + L.getD (loser d o t) 0 < L.getD (winner d o) 0) ∧ (T = (q + 1) * (losers d o).length ∨ leftAt d o L T ≤ L.getD (loser d o T) 0 ∨ some T = most)
  | 0, j, hj, h => by
    have e : (lossOf d o L).drop j = [] := List.drop_eq_nil_of_le (by rw [lossOf_len]; omega)
    rw [e]
    exact ⟨_, rfl, Nat.le_refl _, by rw [Nat.succ_mul]; omega, h, .inl (by rw [Nat.succ_mul]; omega)⟩
  | k + 1, j, hj, h => by
    have hl : j < (lossOf d o L).length := by rw [lossOf_len]; omega
    have e : (lossOf d o L).drop j = L.getD (loser d o (q * (losers d o).length + j)) 0 :: (lossOf d o L).drop (j + 1) := by
      rw [List.drop_eq_getElem_cons hl]
      congr 1
      unfold loser
      rw [Nat.mul_comm, Nat.mul_add_mod, Nat.mod_eq_of_lt (by omega)]
      simp [lossOf, List.getD, (by omega : j < (losers d o).length)]
    rw [e]
    unfold walkL
    by_cases c : leftAt d o L (q * (losers d o).length + j) ≤ L.getD (loser d o (q * (losers d o).length + j)) 0 ∨ some (q * (losers d o).length + j) = most
    · rw [if_pos c]
      exact ⟨_, rfl, Nat.le_refl _, by rw [Nat.succ_mul]; omega, h, .inr c⟩
    · rw [if_neg c]
      have c1 : ¬ leftAt d o L (q * (losers d o).length + j) ≤ L.getD (loser d o (q * (losers d o).length + j)) 0 := fun z => c (.inl z)
      have hn : spent d o L (q * (losers d o).length + j) + L.getD (loser d o (q * (losers d o).length + j)) 0 < L.getD (winner d o) 0 := by
        unfold leftAt at c1
        omega
      have e2 : leftAt d o L (q * (losers d o).length + j) - L.getD (loser d o (q * (losers d o).length + j)) 0 = leftAt d o L (q * (losers d o).length + (j + 1)) := by
        have e3 : spent d o L (q * (losers d o).length + (j + 1)) = spent d o L (q * (losers d o).length + j) + L.getD (loser d o (q * (losers d o).length + j)) 0 := rfl
        unfold leftAt
        rw [e3]
        omega
      rw [e2]
      obtain ⟨T, h1, h2, h3, h4, h5⟩ := walk_spec d most q k (j + 1) (by omega) fun t ht => by
        rcases Nat.lt_or_ge t (q * (losers d o).length + j) with z | z
        · exact h t z
        · have : t = q * (losers d o).length + j := by omega
          rw [this]; exact hn
      exact ⟨T, h1, by omega, h3, h4, h5⟩
/-- the turns of the run and what is left to the winner -/
def turnsOf (d : Deed) (o L : List Nat) (most : Option Nat) : Nat × Nat :=
  let ring := (lossOf d o L).sum
  let q := match most with
    | none => (L.getD (winner d o) 0 - 1) / ring
    | some k => min ((L.getD (winner d o) 0 - 1) / ring) (k / (losers d o).length)
  walkL most (lossOf d o L) (L.getD (winner d o) 0 - q * ring) (q * (losers d o).length)
theorem turns_gen (d : Deed) (most : Option Nat) (q : Nat) (hq : q * (lossOf d o L).sum < L.getD (winner d o) 0) :
    ∃ T, walkL most (lossOf d o L) (L.getD (winner d o) 0 - q * (lossOf d o L).sum) (q * (losers d o).length) = (leftAt d o L T, T) ∧ q * (losers d o).length ≤ T ∧ T ≤ (q + 1) * (losers d o).length ∧
      (∀ t, t < T → spent d o L t + L.getD (loser d o t) 0 < L.getD (winner d o) 0) ∧ (T = (q + 1) * (losers d o).length ∨ leftAt d o L T ≤ L.getD (loser d o T) 0 ∨ some T = most) := by
  have e : spent d o L (q * (losers d o).length) = q * (lossOf d o L).sum := by
    have := spent_rings (o := o) (L := L) d 0 q
    rw [Nat.add_zero] at this
    rw [this]
    exact Nat.add_zero _
  have := walk_spec (o := o) (L := L) d most q (losers d o).length 0 (Nat.zero_add _) fun t ht => by
    have h1 : spent d o L t + L.getD (loser d o t) 0 = spent d o L (t + 1) := rfl
    have h2 := spent_mono (o := o) (L := L) d (s := t + 1) (t := q * (losers d o).length) (by omega)
    omega
  rw [List.drop_zero, Nat.add_zero] at this
  have e2 : leftAt d o L (q * (losers d o).length) = L.getD (winner d o) 0 - q * (lossOf d o L).sum := by unfold leftAt; rw [e]
  rw [e2] at this
  exact this
theorem loss_pos (hL : L.length = o.length) (hp : ∀ x ∈ L, 0 < x) (h : Ord o) (d : Deed) (t : Nat) : 0 < L.getD (loser d o t) 0 := by
  have hl := (loser_ne h d t).2
  have hl' : loser d o t < L.length := by omega
  simp only [List.getD, List.getElem?_eq_getElem hl', Option.getD_some]
  exact hp _ (List.getElem_mem hl')
theorem ring_pos (hL : L.length = o.length) (hp : ∀ x ∈ L, 0 < x) (h : Ord o) (d : Deed) : 0 < (lossOf d o L).sum := by
  rw [← spent_ring]
  have h1 := losers_pos h d
  have h2 := spent_mono (o := o) (L := L) d (s := 1) (t := (losers d o).length) h1
  have h3 : spent d o L 1 = 0 + L.getD (loser d o 0) 0 := rfl
  have := loss_pos hL hp h d 0
  omega
/-- as many as the lengths allow -/
theorem turns_none (hL : L.length = o.length) (hp : ∀ x ∈ L, 0 < x) (h : Ord o) (d : Deed) (hw : 0 < L.getD (winner d o) 0) :
    ∃ T, turnsOf d o L none = (leftAt d o L T, T) ∧ (∀ t, t < T → spent d o L t + L.getD (loser d o t) 0 < L.getD (winner d o) 0) ∧ leftAt d o L T ≤ L.getD (loser d o T) 0 := by
  have hr := ring_pos hL hp h d
  have hq : (L.getD (winner d o) 0 - 1) / (lossOf d o L).sum * (lossOf d o L).sum < L.getD (winner d o) 0 := by
    have := Nat.div_mul_le_self (L.getD (winner d o) 0 - 1) (lossOf d o L).sum
    omega
  obtain ⟨T, h1, h2, h3, h4, h5⟩ := turns_gen (o := o) (L := L) d none _ hq
  refine ⟨T, h1, h4, ?_⟩
  rcases h5 with e | e | e
  · exfalso
    have hm := losers_pos h d
    have hT : 0 < T := by
      rw [e]
      exact Nat.mul_pos (Nat.succ_pos _) hm
    have h6 := h4 (T - 1) (by omega)
    have h7 : spent d o L (T - 1) + L.getD (loser d o (T - 1)) 0 = spent d o L T := by
      have : T - 1 + 1 = T := by omega
      conv => rhs; rw [← this]
      rfl
    have h8 := spent_rings (o := o) (L := L) d 0 ((L.getD (winner d o) 0 - 1) / (lossOf d o L).sum + 1)
    rw [Nat.add_zero] at h8
    rw [h7, e, h8] at h6
    have h9 := Nat.lt_div_mul_add (a := L.getD (winner d o) 0 - 1) hr
    rw [Nat.succ_mul] at h6
    omega
  · exact e
  · cases e
/-- one alone -/
theorem turns_one (hL : L.length = o.length) (hp : ∀ x ∈ L, 0 < x) (h : Ord o) (d : Deed) (hw : L.getD (loser d o 0) 0 < L.getD (winner d o) 0) : turnsOf d o L (some 1) = (leftAt d o L 1, 1) := by
  have hr := ring_pos hL hp h d
  have hm := losers_pos h d
  have hq0 : min ((L.getD (winner d o) 0 - 1) / (lossOf d o L).sum) (1 / (losers d o).length) * (lossOf d o L).sum < L.getD (winner d o) 0 := by
    have := Nat.div_mul_le_self (L.getD (winner d o) 0 - 1) (lossOf d o L).sum
    have h2 := Nat.mul_le_mul_right (lossOf d o L).sum (Nat.min_le_left ((L.getD (winner d o) 0 - 1) / (lossOf d o L).sum) (1 / (losers d o).length))
    omega
  obtain ⟨T, h1, h2, h3, h4, h5⟩ := turns_gen (o := o) (L := L) d (some 1) _ hq0
  have hT : T = 1 := by
    have s1 : spent d o L 0 = 0 := rfl
    rcases Nat.lt_trichotomy T 1 with z | z | z
    · have z0 : T = 0 := by omega
      subst z0
      rcases h5 with e | e | e
      · have := Nat.mul_pos (Nat.succ_pos (min ((L.getD (winner d o) 0 - 1) / (lossOf d o L).sum) (1 / (losers d o).length))) hm
        rw [← Nat.add_one] at this
        omega
      · unfold leftAt at e
        omega
      · cases e
    · exact z
    · -- the walk stops at one
      exfalso
      rcases Nat.lt_or_ge 1 (losers d o).length with c | c
      · have c0 : 1 / (losers d o).length = 0 := Nat.div_eq_of_lt c
        rw [c0, Nat.min_zero] at h1
        rw [Nat.zero_mul, Nat.zero_mul, Nat.sub_zero] at h1
        have hl : 1 < (lossOf d o L).length := by rw [lossOf_len]; exact c
        match hx : lossOf d o L, hl with
        | a :: b :: r, _ =>
          rw [hx] at h1
          unfold walkL at h1
          split at h1
          · have := (Prod.mk.inj h1).2; omega
          · unfold walkL at h1
            rw [if_pos (.inr rfl)] at h1
            have := (Prod.mk.inj h1).2
            omega
      · have c0 : (losers d o).length = 1 := by omega
        have hl : (lossOf d o L).length = 1 := by rw [lossOf_len]; exact c0
        match hx : lossOf d o L, hl with
        | [a], _ =>
          have ha : a = L.getD (loser d o 0) 0 := by
            have := spent_ring (o := o) (L := L) d
            rw [c0, hx] at this
            have h9 : spent d o L 1 = 0 + L.getD (loser d o 0) 0 := rfl
            simp at this
            omega
          rw [hx, c0] at h1
          have hap := loss_pos hL hp h d 0
          have hs1 : ([a] : List Nat).sum = a := by simp
          have hq1 : 1 ≤ (L.getD (winner d o) 0 - 1) / ([a] : List Nat).sum := by
            rw [hs1, Nat.le_div_iff_mul_le (by omega)]
            omega
          have : min ((L.getD (winner d o) 0 - 1) / ([a] : List Nat).sum) (1 / 1) = 1 := by omega
          rw [this] at h1
          unfold walkL at h1
          rw [if_pos (.inr rfl)] at h1
          have := (Prod.mk.inj h1).2
          omega
  subst hT
  exact h1
end TL
set_option linter.all false
/-! M5: all runs of lengths. -/
namespace TL
variable {o L : List Nat}
theorem row_perm {U : List Nat} (h : Row U) : U.Perm (List.range U.length) := by
  refine (List.perm_ext_iff_of_nodup h.nd List.nodup_range).mpr fun x => ⟨fun hx => List.mem_range.mpr (h.lt x hx), fun hx => h.mem (List.mem_range.mp hx)⟩
theorem map_set_range {b w : Nat} (hb : b < L.length) : (List.range L.length).map (fun x => if x = b then w else L.getD x 0) = L.set b w := by
  apply List.ext_getElem
  · simp
  · intro i h1 h2
    rw [List.length_map, List.length_range] at h1
    rw [List.getElem_map, List.getElem_range, List.getElem_set]
    by_cases e : i = b
    · rw [if_pos e, if_pos e.symm]
    · rw [if_neg e, if_neg (fun z => e z.symm)]
      simp [List.getD, h1]
theorem winner_lt (h : Ord o) (d : Deed) : winner d o < o.length := by
  have h2 := h.two
  have := h.last_ne
  cases d with
  | u => show o.length - 1 < _; omega
  | l => show lastL o < _; omega
theorem lenAt_perm (hL : L.length = o.length) (h : Ord o) (d : Deed) (t w : Nat) : (lenAt d o L t w).Perm (L.set (winner d o) w) := by
  have hw := winner_lt h d
  cases d with
  | u => exact .refl _
  | l =>
    have hU : (upL (lastL o) o.length t).length = o.length := upL_len hw
    have := (row_perm (upL_row (b := lastL o) (n := o.length) (t := t) hw)).map (fun x => if x = lastL o then w else L.getD x 0)
    rw [hU, ← hL, map_set_range (b := lastL o) (by rw [hL]; exact hw)] at this
    rw [hL] at this
    exact this
theorem sum_set {w : Nat} : ∀ {l : List Nat} {i : Nat}, i < l.length → (l.set i w).sum + l.getD i 0 = l.sum + w
  | a :: l, 0, _ => by simp; omega
  | a :: l, i + 1, h => by
    have := sum_set (w := w) (l := l) (i := i) (by simpa using h)
    simp only [List.set_cons_succ, List.sum_cons]
    show a + _ + (l.getD i 0) = _
    omega
def Pos (L : List Nat) : Prop := ∀ x ∈ L, 0 < x
theorem pos_set {i w : Nat} (hp : Pos L) (hw : 0 < w) : Pos (L.set i w) := fun x hx => by
  rcases List.mem_or_eq_of_mem_set hx with h | h
  · exact hp x h
  · rw [h]; exact hw
theorem Pos.getD {i : Nat} (hp : Pos L) (h : i < L.length) : 0 < L.getD i 0 := by
  simp only [List.getD, List.getElem?_eq_getElem h, Option.getD_some]
  exact hp _ (List.getElem_mem h)
/-- an order with its lengths -/
structure Line (o L : List Nat) : Prop where
  ord : Ord o
  len : L.length = o.length
  pos : Pos L
theorem Line.at_ (h : Line o L) (d : Deed) (t : Nat) {w : Nat} (hw : 0 < w) : Line (ordAt d o t) (lenAt d o L t w) :=
  ⟨ordAt_ord h.ord d t, by rw [lenAt_len h.len h.ord, ordAt_len], fun x hx => pos_set h.pos hw x ((lenAt_perm h.len h.ord d t w).mem_iff.mp hx)⟩
theorem Line.sum_at (h : Line o L) (d : Deed) (t w : Nat) : (lenAt d o L t w).sum + L.getD (winner d o) 0 = L.sum + w := by
  rw [(lenAt_perm h.len h.ord d t w).sum_nat]
  exact sum_set (by rw [h.len]; exact winner_lt h.ord d)
/-- the deed taken, by the letters -/
theorem nextd_is (h : Line o L) (d : Deed) : nextd o L = if L.getD (winner d o) 0 = L.getD (loser d o 0) 0 then none else if L.getD (winner d o) 0 > L.getD (loser d o 0) 0 then some d else some d.other := by
  have := next_at h.len h.ord d 0 (L.getD (winner d o) 0)
  rwa [ordAt_zero h.ord, lenAt_zero h.len h.ord] at this
theorem nextd_gt (h : Line o L) {d : Deed} (hd : nextd o L = some d) : L.getD (loser d o 0) 0 < L.getD (winner d o) 0 := by
  rw [nextd_is h d] at hd
  split at hd
  · cases hd
  · split at hd
    · assumption
    · cases d <;> cases hd
inductive Rn : List Nat → List Nat → List (Deed × Nat) → List Nat → List Nat → Prop
  | done {o L : List Nat} : nextd o L = none → Rn o L [] o L
  | run {o L o2 L2 : List Nat} {d : Deed} {T left : Nat} {rs : List (Deed × Nat)} : nextd o L = some d → turnsOf d o L none = (left, T) → Rn (ordAt d o T) (lenAt d o L T left) rs o2 L2 → Rn o L ((d, T) :: rs) o2 L2
def flat : List (Deed × Nat) → List Deed
  | [] => []
  | (d, T) :: rs => List.replicate T d ++ flat rs
/-- what a run does -/
theorem run_facts (h : Line o L) {d : Deed} {T left : Nat} (hd : nextd o L = some d) (ht : turnsOf d o L none = (left, T)) :
    left = leftAt d o L T ∧ 0 < T ∧ 0 < left ∧ (∀ t, t < T → spent d o L t + L.getD (loser d o t) 0 < L.getD (winner d o) 0) ∧ nextd (ordAt d o T) (lenAt d o L T left) ≠ some d ∧ left < L.getD (winner d o) 0 := by
  have hg := nextd_gt h hd
  obtain ⟨T', h1, h2, h3⟩ := turns_none h.len h.pos h.ord d (by omega)
  rw [h1] at ht
  cases ht
  have hT : 0 < T := by
    rcases Nat.eq_zero_or_pos T with z | z
    · subst z
      have e : leftAt d o L 0 = L.getD (winner d o) 0 := Nat.sub_zero _
      omega
    · exact z
  have hs : spent d o L T < L.getD (winner d o) 0 := by
    have h6 := h2 (T - 1) (by omega)
    have h7 : spent d o L (T - 1) + L.getD (loser d o (T - 1)) 0 = spent d o L T := by
      have : T - 1 + 1 = T := by omega
      conv => rhs; rw [← this]
      rfl
    omega
  have hs0 : 0 < spent d o L T := by
    have h1 := spent_mono (o := o) (L := L) d (s := 1) (t := T) hT
    have h2 : spent d o L 1 = 0 + L.getD (loser d o 0) 0 := rfl
    have := loss_pos h.len h.pos h.ord d 0
    omega
  refine ⟨rfl, hT, by unfold leftAt; omega, h2, ?_, by unfold leftAt; omega⟩
  rw [next_at h.len h.ord d T]
  split
  · exact fun z => by cases z
  · rw [if_neg (by omega)]
    cases d <;> exact fun z => by cases z
theorem Rn.ex : ∀ (n : Nat) (o L : List Nat), Line o L → L.sum ≤ n → ∃ rs o2 L2, Rn o L rs o2 L2
  | 0, o, L, h, hn => by
    have h2 := h.ord.two
    have := h.len
    match L, h.pos, hn with
    | a :: l, hp, hn =>
      have := hp a (List.mem_cons_self ..)
      simp at hn
      omega
    | [], _, _ => simp at this; omega
  | n + 1, o, L, h, hn => by
    cases hd : nextd o L with
    | none => exact ⟨_, _, _, .done hd⟩
    | some d =>
      cases ht : turnsOf d o L none with
      | mk left T =>
        obtain ⟨e, h1, h2, _, _, h3⟩ := run_facts h hd ht
        have hs := h.sum_at d T left
        obtain ⟨rs, o2, L2, hr⟩ := Rn.ex n _ _ (h.at_ d T h2) (by omega)
        exact ⟨_, _, _, .run hd ht hr⟩
theorem Rn.line {rs : List (Deed × Nat)} {o2 L2 : List Nat} (h : Rn o L rs o2 L2) (hl : Line o L) : Line o2 L2 ∧ nextd o2 L2 = none := by
  induction h with
  | done e => exact ⟨hl, e⟩
  | run hd ht _ ih =>
    obtain ⟨_, _, h2, _⟩ := run_facts hl hd ht
    exact ih (hl.at_ _ _ h2)
theorem Rn.std {rs : List (Deed × Nat)} {o2 L2 : List Nat} (h : Rn o L rs o2 L2) (hl : Line o L) : Std o L (flat rs) o2 L2 := by
  induction h with
  | done e => exact .done (takeS_none.mpr e)
  | run hd ht _ ih =>
    obtain ⟨e, _, h2, h3, _⟩ := run_facts hl hd ht
    subst e
    exact Std.run hl.len hl.ord _ _ h3 (ih (hl.at_ _ _ h2))
/-- no two runs of one deed behind one another, each of some turns -/
def Alt : List (Deed × Nat) → Prop
  | [] => True
  | (_, T) :: [] => 0 < T
  | (d, T) :: (e, S) :: rs => 0 < T ∧ d ≠ e ∧ Alt ((e, S) :: rs)
theorem Rn.alt {rs : List (Deed × Nat)} {o2 L2 : List Nat} (h : Rn o L rs o2 L2) (hl : Line o L) : Alt rs := by
  induction h with
  | done e => exact trivial
  | run hd ht hr ih =>
    obtain ⟨e, h1, h2, h3, h4, _⟩ := run_facts hl hd ht
    have := ih (hl.at_ _ _ h2)
    cases hr with
    | done _ => exact h1
    | run hd2 ht2 _ => exact ⟨h1, fun q => h4 (by rw [hd2, q]), this⟩
theorem Rn.none {rs : List (Deed × Nat)} {o2 L2 : List Nat} (h : Rn o L rs o2 L2) (hn : nextd o L = none) : rs = [] ∧ o2 = o ∧ L2 = L := by
  cases h with
  | done _ => exact ⟨rfl, rfl, rfl⟩
  | run hd _ _ => rw [hn] at hd; cases hd
end TL
set_option Elab.async false
set_option linter.all false
set_option maxRecDepth 100000
/-! FE2: built-ins at lists of numbers. -/
namespace FD
open PySem PySem.Spec PyProof.Rows L2
theorem small_of {n : Nat} (h : n ≤ 1000000) : smallL n = true := sealB_of h
theorem big_of {i j : Int} (h : i.natAbs.log2 + j.natAbs.log2 < 1000000) : bigOk i j = true := sealB_of h
theorem rng_of {i : Int} (h : -(2 ^ 62) ≤ i ∧ i < 2 ^ 62) : rngOk i = true := sealB_of h
theorem dLe_nD (a b : Nat) : dLe (nD a) (nD b) = decide (a ≤ b) := by
  have h := W.dataLe_int (β := Nat) (fun n => (n : Int))
  have e : W.dataLe false D.toP (nD a) (nD b) = W.dataLe false (fun n : Nat => PyData.int (n : Int)) a b := rfl
  show W.dataLe false D.toP (nD a) (nD b) = _
  rw [e, h]
  by_cases q : a ≤ b
  · simp [q]
  · simp [q]
theorem alike_nl (xs : List Nat) : W.AllAlike ((nl xs).map D.toP) ∧ W.Sortable ((nl xs).map D.toP) := by
  have h : ∀ d ∈ (nl xs).map D.toP, ∃ i : Int, d = .int i := fun d hd => by
    obtain ⟨e, he, rfl⟩ := List.mem_map.mp hd
    obtain ⟨n, _, rfl⟩ := List.mem_map.mp he
    exact ⟨n, rfl⟩
  refine ⟨fun d hd d' hd' => ?_, .inr fun d hd => ?_⟩
  · obtain ⟨i, rfl⟩ := h d hd
    obtain ⟨j, rfl⟩ := h d' hd'
    rfl
  · obtain ⟨i, rfl⟩ := h d hd
    exact ⟨fun z => (by cases z), fun xs z => (by cases z)⟩
theorem sort_nl {xs : List Nat} (hl : xs.length ≤ 1000000) : sortD [.lst (nl xs)] = some (.lst (nl (xs.mergeSort fun a b => decide (a ≤ b)))) := by
  have ho : okSort (nl xs) = true := by
    unfold okSort
    rw [ok_nl, Bool.true_and, nl_len]
    exact sealB_of hl
  unfold sortD
  simp only
  rw [if_pos ⟨ho, alike_nl xs⟩]
  have := W.sort_maps (r := fun a b : Nat => decide (a ≤ b)) (s := dLe) nD (l := xs) fun a _ b _ => (dLe_nD a b).symm
  unfold nl
  rw [← this]
theorem sort_row {o : List Nat} (h : TL.Row o) : o.mergeSort (fun a b => decide (a ≤ b)) = List.range o.length := by
  have p := (List.mergeSort_perm o fun a b => decide (a ≤ b)).trans (TL.row_perm h)
  refine List.Perm.eq_of_pairwise (le := fun a b => a ≤ b) (fun a b _ _ h1 h2 => Nat.le_antisymm h1 h2) ?_ ?_ p
  · exact (List.pairwise_mergeSort (le := fun a b => decide (a ≤ b)) (fun a b c h1 h2 => decide_eq_true (Nat.le_trans (of_decide_eq_true h1) (of_decide_eq_true h2))) (fun a b => by simp; exact Nat.le_total a b) o).imp fun h => of_decide_eq_true h
  · exact List.pairwise_le_range
theorem rgD_nat (n : Nat) : rgD 0 (n : Int) = nl (List.range n) := by
  unfold rgD nl nD
  simp
theorem rgD_nat2 (a n : Nat) : rgD (a : Int) ((a + n : Nat) : Int) = nl (List.range' a n) := by
  unfold rgD nl nD
  have : (((a + n : Nat) : Int) - a).toNat = n := by omega
  rw [this, List.range'_eq_map_range, List.map_map]
  apply List.map_congr_left
  intro i _
  simp
theorem rgOk_nat {n : Nat} (h : n ≤ 1000000) : rgOk 0 (n : Int) = true := by
  unfold rgOk
  refine sealB_of ?_
  omega
theorem rgOk_nat2 {a b : Nat} (h : b ≤ 1000000) (ha : a ≤ 1000000) : rgOk (a : Int) (b : Int) = true := by
  unfold rgOk
  refine sealB_of ?_
  omega
theorem okE_nl {xs : List Nat} : okE (.lst (nl xs)) = true := ok_nl 11 xs
theorem eqD_nl (xs ys : List Nat) : eqD (.lst (nl xs)) (.lst (nl ys)) = some (.imm (.bl (decide (xs = ys)))) := by
  unfold eqD
  rw [okE_nl, okE_nl]
  show some (M.imm (.bl (PyData.eqvAll (D.toPs (nl xs)) (D.toPs (nl ys))))) = _
  rw [nl_eqvs]
theorem neD_nil (xs : List D) (h : xs.all (D.ok 11) = true) : neD (.lst xs) (.lst []) = some (.imm (.bl (!decide (xs = [])))) := by
  unfold neD
  have : okE (.lst xs) = true := h
  rw [this]
  cases xs with
  | nil => rfl
  | cons a l => rfl
theorem eqv_int (i j : Int) : eqv (.int i) (.int j) = decide (i = j) := rfl
theorem eqD_int (i j : Int) : eqD (.int i) (.int j) = some (.imm (.bl (decide (i = j)))) := rfl
theorem neD_int (i j : Int) : neD (.int i) (.int j) = some (.imm (.bl (!decide (i = j)))) := rfl
theorem cut_to {xs : List D} {k : Nat} : cutD xs none (some (k : Int)) = xs.take k := by
  unfold cutD HT.sIx
  simp only [Nat.sub_zero, List.drop_zero]
  rw [if_neg (by omega)]
  rcases Nat.le_total k xs.length with q | q
  · congr 1; omega
  · rw [List.take_of_length_le (by omega), List.take_of_length_le q]
theorem cut_from {xs : List D} {k : Nat} : cutD xs (some (k : Int)) none = xs.drop k := by
  unfold cutD HT.sIx
  simp only
  rw [if_neg (by omega)]
  rcases Nat.le_total k xs.length with q | q
  · have : min ((k : Int)).toNat xs.length = k := by omega
    rw [this, List.take_of_length_le (by rw [List.length_drop]; exact Nat.le_refl _)]
  · have : min ((k : Int)).toNat xs.length = xs.length := by omega
    rw [this, List.drop_length, List.drop_eq_nil_of_le q, List.take_nil]
theorem cut_neg1 {xs : List D} : cutD xs none (some (-1)) = xs.dropLast := by
  unfold cutD HT.sIx
  simp only [Nat.sub_zero, List.drop_zero]
  rw [if_pos (by omega), List.dropLast_eq_take]
  congr 1
  omega
theorem cut_from_neg1 {xs : List D} {k : Nat} : cutD xs (some (k : Int)) (some (-1)) = (xs.drop k).dropLast := by
  unfold cutD HT.sIx
  simp only
  rw [if_pos (by omega), if_neg (by omega)]
  rcases Nat.le_total k xs.length with q | q
  · have : min ((k : Int)).toNat xs.length = k := by omega
    rw [this, List.dropLast_eq_take, List.length_drop]
    congr 1
    omega
  · have : min ((k : Int)).toNat xs.length = xs.length := by omega
    rw [this, List.drop_length, List.drop_eq_nil_of_le q]
    simp
theorem nl_take (xs : List Nat) (k : Nat) : (nl xs).take k = nl (xs.take k) := by unfold nl; rw [List.map_take]
theorem nl_drop (xs : List Nat) (k : Nat) : (nl xs).drop k = nl (xs.drop k) := by unfold nl; rw [List.map_drop]
theorem nl_dropLast (xs : List Nat) : (nl xs).dropLast = nl xs.dropLast := by unfold nl; rw [List.map_dropLast]
theorem nl_append (xs ys : List Nat) : nl xs ++ nl ys = nl (xs ++ ys) := by unfold nl; rw [List.map_append]
theorem nl_reverse (xs : List Nat) : (nl xs).reverse = nl xs.reverse := by unfold nl; rw [List.map_reverse]
theorem sum_nl (xs : List Nat) : sumD [.lst (nl xs)] = some (.imm (.int (xs.sum : Nat))) := by
  unfold sumD
  simp only [ints_nl]
  congr 3
  induction xs with
  | nil => rfl
  | cons a l ih => rw [List.map_cons, List.sum_cons, List.sum_cons, ih]; omega
theorem ix_nl {xs : List Nat} {i : Nat} (h : i < xs.length) (hi : i < 2 ^ 62) : ixD (.lst (nl xs)) (.int (i : Nat)) = some (.imm (nD (xs.getD i 0))) := by
  unfold ixD
  have : atI (nl xs) (i : Nat) = some (nD (xs.getD i 0)) := by
    refine atI_nat ?_ (decide_eq_true hi)
    unfold nl
    rw [List.getElem?_map, List.getElem?_eq_getElem h]
    simp [List.getD, h]
  simp only [this, Option.map_some]
theorem ix_last {xs : List Nat} (h : xs ≠ []) : ixD (.lst (nl xs)) (.int (-1)) = some (.imm (nD (TL.lastL xs))) := by
  have hl : 0 < xs.length := List.length_pos_iff.mpr h
  unfold ixD
  have : atI (nl xs) (-1) = some (nD (TL.lastL xs)) := by
    unfold atI
    have e : ixN (nl xs).length (-1) = some (xs.length - 1) := by
      unfold ixN
      rw [nl_len]
      simp
      omega
    rw [e]
    show (nl xs)[xs.length - 1]? = _
    unfold nl
    rw [List.getElem?_map, List.getElem?_eq_getElem (by omega)]
    rw [TL.lastL_eq h, List.getLast_eq_getElem]
    rfl
  simp only [this, Option.map_some]
theorem pos_nl {x : Nat} : ∀ {xs : List Nat}, x ∈ xs → posD (nD x) (nl xs) = some (xs.idxOf x)
  | a :: l, h => by
    show (if eqv (nD a) (nD x) then some 0 else match posD (nD x) (nl l) with | some n => some (n + 1) | none => none) = _
    have e : eqv (nD a) (nD x) = decide (a = x) := by
      rw [show eqv (nD a) (nD x) = decide ((a : Int) = x) from rfl]
      by_cases q : a = x <;> simp [q]
      omega
    rw [e, List.idxOf_cons]
    by_cases q : a = x
    · simp [q]
    · have hx : x ∈ l := by
        rcases List.mem_cons.mp h with z | z
        · exact absurd z.symm q
        · exact z
      have e2 : (a == x) = false := by simpa using q
      simp only [q, decide_false, e2, pos_nl hx]
      rfl
theorem lay_nl (n : Nat) (xs : List Nat) : D.lay (n + 1) (.lst (nl xs)) = true := by
  show (nl xs).all (D.lay n) = true
  unfold nl
  induction xs with
  | nil => rfl
  | cons x xs ih =>
    rw [List.map_cons, List.all_cons, ih]
    cases n <;> rfl
theorem index_nl {x : Nat} {xs : List Nat} (h : x ∈ xs) : indexD (.lst (nl xs)) (.int (x : Nat)) = some (.imm (nD (xs.idxOf x))) := by
  unfold indexD
  simp only
  rw [lay_nl, show D.lay 12 (.int (x : Nat)) = true from rfl, Bool.and_self, if_pos rfl]
  have := pos_nl h
  unfold nD at this
  rw [this]
  rfl
end FD
set_option Elab.async false
set_option linter.all false
set_option maxRecDepth 100000
/-! FE3: data that is short when shown; data that equals itself. -/
namespace FD
open PySem PySem.Spec PyProof.Rows L2
theorem shw_ok : ∀ {n : Nat} {d : D}, D.shw n d = true → D.ok n d = true := by
  intro n
  induction n with
  | zero => intro d h; cases d <;> first | rfl | cases h
  | succ n ih =>
    intro d h
    cases d with
    | lst xs => exact List.all_eq_true.mpr fun x hx => ih (List.all_eq_true.mp h x hx)
    | tup xs => exact List.all_eq_true.mpr fun x hx => ih (List.all_eq_true.mp h x hx)
    | non => rfl
    | bl _ => rfl
    | int _ => rfl
    | str _ => rfl
    | dK _ _ => cases h
    | dT _ _ => cases h
    | opq _ => cases h
    | scr _ _ => cases h
theorem shw_up : ∀ {n : Nat} {d : D}, D.shw n d = true → D.shw (n + 1) d = true := by
  intro n
  induction n with
  | zero => intro d h; cases d <;> first | exact h | cases h
  | succ n ih =>
    intro d h
    cases d with
    | lst xs => exact List.all_eq_true.mpr fun x hx => ih (List.all_eq_true.mp h x hx)
    | tup xs => exact List.all_eq_true.mpr fun x hx => ih (List.all_eq_true.mp h x hx)
    | non => exact h
    | bl _ => exact h
    | int _ => exact h
    | str _ => exact h
    | dK _ _ => cases h
    | dT _ _ => cases h
    | opq _ => cases h
    | scr _ _ => cases h
theorem shw_le {n m : Nat} {d : D} (h : D.shw n d = true) (l : n ≤ m) : D.shw m d = true := by
  induction l with
  | refl => exact h
  | step _ ih => exact shw_up ih
theorem ok_up : ∀ {n : Nat} {d : D}, D.ok n d = true → D.ok (n + 1) d = true := by
  intro n
  induction n with
  | zero => intro d h; cases d <;> first | exact h | cases h
  | succ n ih =>
    intro d h
    cases d with
    | lst xs => exact List.all_eq_true.mpr fun x hx => ih (List.all_eq_true.mp h x hx)
    | tup xs => exact List.all_eq_true.mpr fun x hx => ih (List.all_eq_true.mp h x hx)
    | non => exact h
    | bl _ => exact h
    | int _ => exact h
    | str _ => exact h
    | dK _ _ => cases h
    | dT _ _ => cases h
    | opq _ => cases h
    | scr _ _ => cases h
theorem ok_le {n m : Nat} {d : D} (h : D.ok n d = true) (l : n ≤ m) : D.ok m d = true := by
  induction l with
  | refl => exact h
  | step _ ih => exact ok_up ih
/-- data: at most so deep, its numbers shown at most so long, its weight -/
structure Sh (n B w : Nat) (d : D) : Prop where
  shw : D.shw n d = true
  lv : d.toP.leavesShort B = true
  wt : d.toP.weight ≤ w
theorem Sh.up {n B w m v : Nat} {d : D} (h : Sh n B w d) (l : n ≤ m) (k : w ≤ v) : Sh m B v d := ⟨shw_le h.shw l, h.lv, Nat.le_trans h.wt k⟩
theorem Sh.non {n B w : Nat} : Sh n B w .non := ⟨shw_le (n := 0) rfl (Nat.zero_le _), rfl, Nat.zero_le _⟩
theorem Sh.bl {n B w : Nat} {b : Bool} : Sh n B w (.bl b) := ⟨shw_le (n := 0) rfl (Nat.zero_le _), rfl, Nat.zero_le _⟩
theorem Sh.int {n w : Nat} {i : Int} (h : i.natAbs < 10 ^ 12) (hw : 40 ≤ w) : Sh n 13 w (.int i) := by
  have hl : i.natAbs.log2 < 40 := by
    rcases Nat.eq_zero_or_pos i.natAbs with z | z
    · rw [z]; decide
    · exact (Nat.log2_lt (by omega)).mpr (by omega)
  refine ⟨shw_le (n := 0) (sealB_of (by omega)) (Nat.zero_le _), decide_eq_true (PyData.shown_int_le h), ?_⟩
  show (if i == 0 then 0 else i.natAbs.log2 + 1) ≤ w
  split <;> omega
theorem Sh.nat {n w k : Nat} (h : k < 10 ^ 12) (hw : 40 ≤ w) : Sh n 13 w (nD k) := .int (by omega) hw
theorem Sh.str {n B w : Nat} {s : Str} (h : s.cps.toList.all (fun c => decide (c < 16 ^ 8)) = true) (hw : s.cps.size ≤ w) : Sh n B w (.str s) := ⟨shw_le (n := 0) rfl (Nat.zero_le _), h, hw⟩
theorem Sh.all {n B w : Nat} : ∀ {ds : List D}, (∀ d ∈ ds, Sh n B w d) → PyData.leavesShortAll B (D.toPs ds) = true ∧ PyData.weightAll (D.toPs ds) ≤ ds.length * (w + 1)
  | [], _ => ⟨rfl, Nat.zero_le _⟩
  | d :: ds, h => by
    have h1 := h d (List.mem_cons_self ..)
    have h2 := Sh.all (ds := ds) fun e he => h e (List.mem_cons_of_mem _ he)
    refine ⟨Bool.and_eq_true_iff.mpr ⟨h1.lv, h2.1⟩, ?_⟩
    show d.toP.weight + 1 + PyData.weightAll (D.toPs ds) ≤ _
    have := h1.wt
    rw [List.length_cons, Nat.add_mul]
    omega
theorem Sh.lst {n B w : Nat} {ds : List D} (h : ∀ d ∈ ds, Sh n B w d) : Sh (n + 1) B (ds.length * (w + 1)) (.lst ds) :=
  ⟨List.all_eq_true.mpr fun d hd => (h d hd).shw, (Sh.all h).1, (Sh.all h).2⟩
theorem Sh.tup {n B w : Nat} {ds : List D} (h : ∀ d ∈ ds, Sh n B w d) : Sh (n + 1) B (ds.length * (w + 1)) (.tup ds) :=
  ⟨List.all_eq_true.mpr fun d hd => (h d hd).shw, (Sh.all h).1, (Sh.all h).2⟩
theorem Sh.nats {xs : List Nat} {n w k : Nat} (h : ∀ x ∈ xs, x < 10 ^ 12) (hl : xs.length ≤ k) (hn : 1 ≤ n) (hw : k * 41 ≤ w) : Sh n 13 w (.lst (nl xs)) := by
  have : Sh 1 13 ((nl xs).length * (40 + 1)) (.lst (nl xs)) := Sh.lst fun d hd => by
    obtain ⟨x, hx, rfl⟩ := List.mem_map.mp hd
    exact Sh.nat (n := 0) (h x hx) (Nat.le_refl _)
  rw [nl_len] at this
  have h2 := Nat.mul_le_mul_right 41 hl
  exact this.up hn (by omega)
theorem repr_ok {d : D} {n B w : Nat} (h : Sh n B w d) (hn : n ≤ 12) (hB : 8 ≤ B) (hw : (B + 2) * w + B ≤ 1000000) : reprD [d] = some (.imm (.str d.toP.shown)) := by
  have h1 := PyData.shown_le B hB _ h.lv
  have h2 : (B + 2) * d.toP.weight ≤ (B + 2) * w := Nat.mul_le_mul_left _ h.wt
  have h3 : smallL d.toP.shown.length = true := small_of (by omega)
  unfold reprD
  simp only [shw_le h.shw hn, h3, Bool.and_self, if_true]
theorem eqv_self {n : Nat} {d : D} (h : D.ok n d = true) : eqv d d = true := PySem.SeqAt.eqv_refl_plain _ (D.ok_P h).1
theorem eqD_self {n : Nat} {d : D} (h : D.ok n d = true) (l : n ≤ 12) : eqD d d = some (.imm (.bl true)) := by
  unfold eqD okE
  rw [ok_le h l, eqv_self h]
  rfl
theorem neD_self {n : Nat} {d : D} (h : D.ok n d = true) (l : n ≤ 12) : neD d d = some (.imm (.bl false)) := by
  unfold neD okE
  rw [ok_le h l, eqv_self h]
  rfl
theorem neD_str (s : Str) : neD (.str s) (.str s) = some (.imm (.bl false)) := neD_self (n := 0) rfl (by omega)
theorem eqD_str (s : Str) : eqD (.str s) (.str s) = some (.imm (.bl true)) := eqD_self (n := 0) rfl (by omega)
end FD
set_option Elab.async false
set_option linter.all false
set_option maxRecDepth 100000
namespace Law
open PySem PySem.Spec PyProof.Rows L2 FD
noncomputable def F_is_whole : SF := (retF (andV (op1 (isiD .kInt) (nameE 0)) (notV (op1 (isiD .kBool) (nameE 0)))))
noncomputable def f_is_whole : FF := fnF 1 [] (F_is_whole)
noncomputable def F_is_between : SF := (retF (andV (callG [] f_is_whole (consA (nameE 0) nilA)) (andV (op2 geD (nameE 0) (nameE 1)) (orV (op2 (isD false) (nameE 2) (constE .non)) (op2 leD (nameE 0) (nameE 2))))))
noncomputable def f_is_between : FF := fnF 3 [] (F_is_between)
noncomputable def F_is_row : SF := (seqF (ifF (orT (notT (boolT (op1 (isiD .kList) (nameE 0)))) (notT (boolT (chainE leD leD (constE (.int 2)) (callE lenP (consA (nameE 0) nilA)) (constE (.int 40)))))) (retF (constE (.bl false))) nxF) (seqF (ifF (boolT (op2 neD (compD [1] (listI (nameE 0)) (nameG 1) (notT (boolT (callG [] f_is_between (consA (nameE 1) (consA (constE (.int 0)) (consA (op2 subD (callE lenP (consA (nameE 0) nilA)) (constE (.int 1))) nilA)))))) (nameE 1)) (lstE nilA))) (retF (constE (.bl false))) nxF) (retF (op2 eqD (callE sortD (consA (nameE 0) nilA)) (rg1E (callE lenP (consA (nameE 0) nilA)))))))
noncomputable def f_is_row : FF := fnF 2 [] (F_is_row)
noncomputable def F_fall_of : SF := (seqF (asgF (op1 negD (constE (.int 1))) (nameG 1)) (seqF (fgtF [1, 2, 3] (forF (enumI (consA (sliceE (nameE 0) noneO (someO (op1 negD (constE (.int 1))))) nilA)) (tupG 2 (consG (nameG 2) (consG (nameG 3) nilG))) (fgtF [2, 3] (seqF (fgtF [3] (asgF (callE max2D (consA (nameE 1) (consA (nameE 3) nilA))) (nameG 1))) (fgtF [2] (ifF (boolT (op2 eqD (nameE 1) (nameE 2))) (retF (op2 addD (nameE 2) (constE (.int 1)))) nxF)))) [2, 3, 1])) (retF (constE .non))))
noncomputable def f_fall_of : FF := fnF 4 [] (F_fall_of)
noncomputable def F_is_order_list : SF := (retF (andV (callG [] f_is_row (consA (nameE 0) nilA)) (op2 (isD false) (callG [] f_fall_of (consA (nameE 0) nilA)) (constE .non))))
noncomputable def f_is_order_list : FF := fnF 1 [] (F_is_order_list)
noncomputable def F_check_order : SF := (ifF (notT (boolT (callG [] f_is_order_list (consA (nameE 0) nilA)))) offF nxF)
noncomputable def f_check_order : FF := fnF 1 [] (F_check_order)
noncomputable def F_named_anew : SF := (seqF (asgF (dcE [2, 3] (enumI (consA (nameE 0) nilA)) (tupG 2 (consG (nameG 2) (consG (nameG 3) nilG))) yesT (nameE 3) (nameE 2)) (nameG 4)) (retF (compD [3] (listI (nameE 1)) (nameG 3) yesT (op2 dixD (nameE 4) (nameE 3)))))
noncomputable def f_named_anew : FF := fnF 5 [] (F_named_anew)
noncomputable def F_is_deed : SF := (retF (andV (op1 (isiD .kStr) (nameE 0)) (op2 (inD false) (nameE 0) (lstE (consA (constE (.str "u")) (consA (constE (.str "l")) nilA))))))
noncomputable def f_is_deed : FF := fnF 1 [] (F_is_deed)
noncomputable def F_check_lengths : SF := (seqF (exprF (callG [] f_check_order (consA (nameE 0) nilA))) (seqF (ifF (orT (notT (boolT (op1 (isiD .kList) (nameE 1)))) (boolT (op2 neD (callE lenP (consA (nameE 1) nilA)) (callE lenP (consA (nameE 0) nilA))))) offF nxF) (ifF (boolT (op2 neD (compD [2] (listI (nameE 1)) (nameG 2) (notT (boolT (callG [] f_is_between (consA (nameE 2) (consA (constE (.int 1)) (consA (constE .non) nilA)))))) (nameE 2)) (lstE nilA))) offF nxF)))
noncomputable def f_check_lengths : FF := fnF 3 [] (F_check_lengths)
noncomputable def F_is_run_list : SF := (seqF (ifF (notT (boolT (op1 (isiD .kList) (nameE 0)))) (retF (constE (.bl false))) nxF) (seqF (asgF (constE .non) (nameG 1)) (seqF (fgtF [1, 2] (forF (listI (nameE 0)) (nameG 2) (fgtF [2] (seqF (fgtF [1] (ifF (orT (notT (boolT (op1 (isiD .kTuple) (nameE 2)))) (orT (boolT (op2 neD (callE lenP (consA (nameE 2) nilA)) (constE (.int 2)))) (orT (notT (boolT (callG [] f_is_deed (consA (op2 ixD (nameE 2) (constE (.int 0))) nilA)))) (boolT (op2 eqD (op2 ixD (nameE 2) (constE (.int 0))) (nameE 1)))))) (retF (constE (.bl false))) nxF)) (seqF (ifF (notT (boolT (callG [] f_is_between (consA (op2 ixD (nameE 2) (constE (.int 1))) (consA (constE (.int 1)) (consA (constE .non) nilA)))))) (retF (constE (.bl false))) nxF) (fgtF [2] (asgF (op2 ixD (nameE 2) (constE (.int 0))) (nameG 1)))))) [2, 1])) (retF (constE (.bl true))))))
noncomputable def f_is_run_list : FF := fnF 3 [] (F_is_run_list)
noncomputable def F_ring_losers : SF := (seqF (asgF (op2 subD (callE lenP (consA (nameE 0) nilA)) (constE (.int 1))) (nameG 2)) (seqF (ifF (boolT (op2 eqD (nameE 1) (constE (.str "u")))) (retF (tupE (consA (nameE 2) (consA (revE (sliceE (nameE 0) (someO (op2 addD (bmE indexD (nameE 0) (nameE 2)) (constE (.int 1)))) noneO)) nilA)))) nxF) (retF (tupE (consA (op2 ixD (nameE 0) (op1 negD (constE (.int 1)))) (consA (revE (rg2E (op2 addD (op2 ixD (nameE 0) (op1 negD (constE (.int 1)))) (constE (.int 1))) (op2 addD (nameE 2) (constE (.int 1))))) nilA))))))
noncomputable def f_ring_losers : FF := fnF 3 [] (F_ring_losers)
noncomputable def F_behind_run : SF := (seqF (asgF (callG [] f_ring_losers (consA (nameE 0) (consA (nameE 1) nilA))) (tupG 2 (consG (nameG 3) (consG (nameG 4) nilG)))) (seqF (asgF (op2 modD (nameE 2) (callE lenP (consA (nameE 4) nilA))) (nameG 5)) (seqF (fgtF [4, 5] (asgF (revE (op2 addD (sliceE (nameE 4) (someO (nameE 5)) noneO) (sliceE (nameE 4) noneO (someO (nameE 5))))) (nameG 6))) (seqF (ifF (boolT (op2 eqD (nameE 1) (constE (.str "u")))) (retF (dtupE (consA (op2 addD (sliceE (nameE 0) noneO (someO (op2 addD (bmE indexD (nameE 0) (nameE 3)) (constE (.int 1))))) (nameE 6)) (consA (rg1E (callE lenP (consA (nameE 0) nilA))) nilA)))) nxF) (seqF (fgtF [3, 6] (asgF (op2 addD (rg1E (op2 addD (nameE 3) (constE (.int 1)))) (nameE 6)) (nameG 7))) (seqF (asgF (compD [8] (rng1I (consA (callE lenP (consA (nameE 0) nilA)) nilA)) (nameG 8) yesT (bmE indexD (nameE 7) (nameE 8))) (nameG 9)) (retF (dtupE (consA (callG [] f_named_anew (consA (nameE 7) (consA (nameE 0) nilA))) (consA (movA (nameE 9)) nilA))))))))))
noncomputable def f_behind_run : FF := fnF 10 [] (F_behind_run)
noncomputable def F_next_deed : SF := (seqF (parF [2, 3] (consA (op2 ixD (nameE 1) (op1 negD (constE (.int 1)))) (consA (op2 ixD (nameE 1) (op2 ixD (nameE 0) (op1 negD (constE (.int 1))))) nilA))) (seqF (ifF (boolT (op2 eqD (nameE 2) (nameE 3))) (retF (constE .non)) nxF) (retF (ifV (boolT (op2 gtD (nameE 2) (nameE 3))) (constE (.str "u")) (constE (.str "l"))))))
noncomputable def f_next_deed : FF := fnF 4 [] (F_next_deed)
noncomputable def F_run_taken : SF := (seqF (asgF (callG [] f_next_deed (consA (nameE 0) (consA (nameE 1) nilA))) (nameG 3)) (seqF (asgF (callG [] f_ring_losers (consA (nameE 0) (consA (nameE 3) nilA))) (tupG 2 (consG (nameG 4) (consG (nameG 5) nilG)))) (seqF (fgtF [6] (asgF (callE sumD (consA (compD [6] (listI (nameE 5)) (nameG 6) yesT (op2 ixD (nameE 1) (nameE 6))) nilA)) (nameG 7))) (seqF (asgF (op2 fdivD (op2 subD (op2 ixD (nameE 1) (nameE 4)) (constE (.int 1))) (nameE 7)) (nameG 8)) (seqF (ifF (boolT (op2 (isD true) (nameE 2) (constE .non))) (asgF (callE min2D (consA (nameE 8) (consA (op2 fdivD (nameE 2) (callE lenP (consA (nameE 5) nilA))) nilA))) (nameG 8)) nxF) (seqF (fgtF [7, 8] (parF [9, 10] (consA (op2 subD (op2 ixD (nameE 1) (nameE 4)) (op2 mulD (nameE 8) (nameE 7))) (consA (op2 mulD (nameE 8) (callE lenP (consA (nameE 5) nilA))) nilA)))) (seqF (fgtF [5, 11] (forF (listI (nameE 5)) (nameG 11) (fgtF [11] (seqF (ifF (orT (boolT (op2 leD (nameE 9) (op2 ixD (nameE 1) (nameE 11)))) (boolT (op2 eqD (nameE 10) (nameE 2)))) bkF nxF) (fgtF [11] (parF [9, 10] (consA (op2 subD (nameE 9) (op2 ixD (nameE 1) (nameE 11))) (consA (op2 addD (nameE 10) (constE (.int 1))) nilA)))))) [11, 9, 10])) (seqF (asgF (callG [] f_behind_run (consA (nameE 0) (consA (nameE 3) (consA (nameE 10) nilA)))) (tupG 2 (consG (nameG 12) (consG (nameG 13) nilG)))) (seqF (asgF (op2 mulD (lstE (consA (constE (.int 0)) nilA)) (callE lenP (consA (nameE 0) nilA))) (nameG 14)) (seqF (fgtF [4, 6, 9, 13, 15] (forF (enumI (consA (nameE 1) nilA)) (tupG 2 (consG (nameG 6) (consG (nameG 15) nilG))) (fgtF [6, 15] (fgtF [6, 15] (asgF (ifV (boolT (op2 eqD (nameE 6) (nameE 4))) (nameE 9) (nameE 15)) (stoG 14 (op2 ixD (nameE 13) (nameE 6)))))) [6, 15])) (retF (dtupE (consA (movA (nameE 3)) (consA (movA (nameE 10)) (consA (movA (nameE 12)) (consA (movA (nameE 14)) nilA))))))))))))))))
noncomputable def f_run_taken : FF := fnF 16 [] (F_run_taken)
noncomputable def F_all_runs : SF := (seqF (parF [2, 0, 1] (consA (lstE nilA) (consA (callE listD (consA (nameE 0) nilA)) (consA (callE listD (consA (nameE 1) nilA)) nilA)))) (seqF (fgtF [3, 4] (whF (obsT (boolT (op2 (isD true) (callG [] f_next_deed (consA (nameE 0) (consA (nameE 1) nilA))) (constE .non)))) (fgtF [3, 4] (seqF (asgF (callG [] f_run_taken (consA (nameE 0) (consA (nameE 1) (consA (constE .non) nilA)))) (tupG 4 (consG (nameG 3) (consG (nameG 4) (consG (nameG 0) (consG (nameG 1) nilG)))))) (fgtF [3, 4] (exprF (appE 2 (tupE (consA (nameE 3) (consA (nameE 4) nilA)))))))))) (retF (dtupE (consA (movA (nameE 2)) (consA (movA (nameE 0)) (consA (movA (nameE 1)) nilA)))))))
noncomputable def f_all_runs : FF := fnF 5 [] (F_all_runs)
noncomputable def F_taken : SF := (seqF (exprF (callG [] f_check_lengths (consA (nameE 0) (consA (nameE 1) nilA)))) (seqF (ifF (boolT (op2 (isD false) (callG [] f_next_deed (consA (nameE 0) (consA (nameE 1) nilA))) (constE .non))) (retF (constE .non)) nxF) (seqF (fgtF [3] (asgF (callG [] f_run_taken (consA (nameE 0) (consA (nameE 1) (consA (constE (.int 1)) nilA)))) (tupG 4 (consG (nameG 2) (consG (nameG 3) (consG (nameG 4) (consG (nameG 5) nilG))))))) (retF (dtupE (consA (movA (nameE 2)) (consA (movA (nameE 4)) (consA (movA (nameE 5)) nilA))))))))
noncomputable def f_taken : FF := fnF 6 [] (F_taken)
noncomputable def F_is_runs : SF := (retF (callG [] f_is_run_list (consA (nameE 0) nilA)))
noncomputable def f_is_runs : FF := fnF 1 [] (F_is_runs)
noncomputable def F_runs_of : SF := (seqF (exprF (callG [] f_check_lengths (consA (nameE 0) (consA (nameE 1) nilA)))) (retF (ixM 0 (callG [] f_all_runs (consA (nameE 0) (consA (nameE 1) nilA))))))
noncomputable def f_runs_of : FF := fnF 2 [] (F_runs_of)
noncomputable def F_end_of : SF := (seqF (exprF (callG [] f_check_lengths (consA (nameE 0) (consA (nameE 1) nilA)))) (retF (sliceM 1 (callG [] f_all_runs (consA (nameE 0) (consA (nameE 1) nilA))))))
noncomputable def f_end_of : FF := fnF 2 [] (F_end_of)
noncomputable def F__law_hash : SF := (seqF (asgF (op2 modD (callE intD (consA (op2 addD (op2 addD (op2 addD (op2 mulD (nameE 0) (constE (.int 1140671))) (op2 mulD (op2 mulD (constE (.int 27644437)) (nameE 1)) (nameE 1))) (op2 mulD (constE (.int 131)) (nameE 1))) (constE (.int 19))) nilA)) (constE (.int 2147483629))) (nameG 2)) (seqF (asgF (op2 modD (callE intD (consA (op2 addD (op2 addD (op2 mulD (nameE 2) (nameE 2)) (op2 mulD (constE (.int 62089)) (nameE 1))) (constE (.int 32416187))) nilA)) (constE (.int 2147483587))) (nameG 2)) (retF (op2 modD (callE intD (consA (op2 mulD (nameE 2) (constE (.int 48271))) nilA)) (constE (.int 2147483647))))))
noncomputable def f__law_hash : FF := fnF 3 [] (F__law_hash)
noncomputable def F__law_random : SF := (seqF (fgtF [2] (ifF (boolT (op2 gtD (op2 ixD (nameE 0) (constE (.int 0))) (constE (.int 0)))) (seqF (asgF (op2 modD (callE intD (consA (op2 ixD (nameE 0) (constE (.int 0))) nilA)) (nameE 1)) (nameG 2)) (seqF (asgF (op2 fdivD (op2 ixD (nameE 0) (constE (.int 0))) (nameE 1)) (stoG 0 (constE (.int 0)))) (retF (nameE 2)))) nxF)) (seqF (asgF (constE (.int 0)) (nameG 2)) (seqF (fgtF [3] (forF (rng1I (consA (op2 addD (constE (.int 1)) (op2 fdivD (op1 bitsD (nameE 1)) (constE (.int 30)))) nilA)) (nameG 3) (fgtF [3] (seqF (asgF (op2 addD (op2 ixD (nameE 0) (constE (.int 2))) (constE (.int 1))) (stoG 0 (constE (.int 2)))) (asgF (op2 addD (op2 mulD (nameE 2) (constE (.int 2147483587))) (callG [] f__law_hash (consA (op2 ixD (nameE 0) (constE (.int 1))) (consA (op2 ixD (nameE 0) (constE (.int 2))) nilA)))) (nameG 2)))) [3, 2])) (retF (op2 modD (callE intD (consA (nameE 2) nilA)) (nameE 1))))))
noncomputable def f__law_random : FF := fnF 4 [0] (F__law_random)
noncomputable def F__law_cell (K : PySem.W.Frag) : SF := (seqF (ifF (boolT (op2 ltD (nameE 1) (callE (lenS K) (consA (nameE 0) nilA)))) (retF (op2 (ixS K) (nameE 0) (nameE 1))) nxF) (retF (op2 modD (sum1S K 0) (constE (.int 1000003)))))
noncomputable def f__law_cell (K : PySem.W.Frag) : FF := fnF 2 [] (F__law_cell K)
noncomputable def F__law_generator (K : PySem.W.Frag) : SF := (seqF (asgF (callG [] (f__law_cell K) (consA (nameE 0) (consA (nameE 1) nilA))) (nameG 2)) (retF (lstE (consA (op2 modD (callE intD (consA (callE max2D (consA (op2 subD (nameE 2) (op2 powD (constE (.int 10)) (constE (.int 18)))) (consA (constE (.int 0)) nilA))) nilA)) (op2 powD (op2 powD (constE (.int 10)) (constE (.int 60))) (constE (.int 10)))) (consA (op2 modD (callE intD (consA (nameE 2) nilA)) (constE (.int 2147483647))) (consA (op2 mulD (constE (.int 1000)) (nameE 1)) nilA))))))
noncomputable def f__law_generator (K : PySem.W.Frag) : FF := fnF 3 [] (F__law_generator K)
noncomputable def F__law_order : SF := (seqF (asgF (op2 addD (constE (.int 2)) (callG [0] f__law_random (consA (nameE 0) (consA (op2 subD (nameE 1) (constE (.int 1))) nilA)))) (nameG 2)) (seqF (fgtF [3, 4, 5, 6] (forF (rng1I (consA (constE (.int 12)) nilA)) (nameG 3) (fgtF [3, 4, 5, 6] (seqF (asgF (dtupE (consA (rg1E (nameE 2)) (consA (lstE nilA) nilA))) (tupG 2 (consG (nameG 4) (consG (nameG 5) nilG)))) (seqF (fgtF [4, 6] (forF (rng1I (consA (nameE 2) nilA)) (nameG 6) (fgtF [6] (exprF (appE 5 (popAtE 4 (callG [0] f__law_random (consA (nameE 0) (consA (callE lenP (consA (nameE 4) nilA)) nilA))))))) [6])) (fgtF [5] (ifF (boolT (op2 eqD (compD [7] (rng2I (consA (constE (.int 1)) (consA (nameE 2) nilA))) (nameG 7) (boolT (op2 ltD (callE maxD (consA (sliceE (nameE 5) noneO (someO (nameE 7))) nilA)) (nameE 7))) (nameE 7)) (lstE nilA))) (retF (nameE 5)) nxF))))) [3, 4, 5, 6])) (retF (revE (rg1E (nameE 2))))))
noncomputable def f__law_order : FF := fnF 8 [0] (F__law_order)
noncomputable def F__law_done : SF := (seqF (parF [2, 3] (consA (op2 subD (callE lenP (consA (nameE 0) nilA)) (constE (.int 1))) (consA (op2 ixD (nameE 0) (op1 negD (constE (.int 1)))) nilA))) (seqF (fgtF [4] (ifF (boolT (op2 eqD (nameE 1) (constE (.str "u")))) (seqF (asgF (op2 addD (bmE indexD (nameE 0) (nameE 2)) (constE (.int 1))) (nameG 4)) (retF (tupE (consA (op2 addD (op2 addD (sliceE (nameE 0) noneO (someO (nameE 4))) (lstE (consA (nameE 3) nilA))) (sliceE (nameE 0) (someO (nameE 4)) (someO (op1 negD (constE (.int 1)))))) (consA (rg1E (op2 addD (nameE 2) (constE (.int 1)))) nilA))))) nxF)) (seqF (fgtF [3] (asgF (op2 addD (op2 addD (rg1E (op2 addD (nameE 3) (constE (.int 1)))) (lstE (consA (nameE 2) nilA))) (rg2E (op2 addD (nameE 3) (constE (.int 1))) (nameE 2))) (nameG 5))) (seqF (fgtF [2, 5] (asgF (compD [6] (rng1I (consA (op2 addD (nameE 2) (constE (.int 1))) nilA)) (nameG 6) yesT (bmE indexD (nameE 5) (nameE 6))) (nameG 7))) (retF (tupE (consA (compD [6] (listI (nameE 0)) (nameG 6) yesT (op2 ixD (nameE 7) (nameE 6))) (consA (nameE 7) nilA))))))))
noncomputable def f__law_done : FF := fnF 8 [] (F__law_done)
noncomputable def F__law_told : SF := (seqF (asgF (lstE nilA) (nameG 1)) (seqF (fgtF [2] (forF (strI (nameE 0)) (nameG 2) (fgtF [2] (fgtF [2] (ifF (andT (boolT (op2 neD (nameE 1) (lstE nilA))) (boolT (op2 eqD (op2 ixD (op2 ixD (nameE 1) (op1 negD (constE (.int 1)))) (constE (.int 0))) (nameE 2)))) (fgtF [2] (asgF (tupE (consA (nameE 2) (consA (op2 addD (op2 ixD (op2 ixD (nameE 1) (op1 negD (constE (.int 1)))) (constE (.int 1))) (constE (.int 1))) nilA))) (stoG 1 (op1 negD (constE (.int 1)))))) (fgtF [2] (exprF (appE 1 (tupE (consA (nameE 2) (consA (constE (.int 1)) nilA))))))))) [2])) (retF (nameE 1))))
noncomputable def f__law_told : FF := fnF 3 [] (F__law_told)
noncomputable def F__law_take : SF := (seqF (parF [2, 3] (consA (op2 subD (callE lenP (consA (nameE 0) nilA)) (constE (.int 1))) (consA (op2 ixD (nameE 0) (op1 negD (constE (.int 1)))) nilA))) (seqF (ifF (boolT (op2 eqD (op2 ixD (nameE 1) (nameE 2)) (op2 ixD (nameE 1) (nameE 3)))) (retF (constE .non)) nxF) (seqF (asgF (ifV (boolT (op2 gtD (op2 ixD (nameE 1) (nameE 2)) (op2 ixD (nameE 1) (nameE 3)))) (constE (.str "u")) (constE (.str "l"))) (nameG 4)) (seqF (fgtF [2, 3] (asgF (ifV (boolT (op2 eqD (nameE 4) (constE (.str "u")))) (tupE (consA (nameE 2) (consA (nameE 3) nilA))) (tupE (consA (nameE 3) (consA (nameE 2) nilA)))) (tupG 2 (consG (nameG 5) (consG (nameG 6) nilG))))) (seqF (asgF (callG [] f__law_done (consA (nameE 0) (consA (nameE 4) nilA))) (tupG 2 (consG (nameG 7) (consG (nameG 8) nilG)))) (seqF (asgF (op2 mulD (lstE (consA (constE (.int 0)) nilA)) (callE lenP (consA (nameE 0) nilA))) (nameG 9)) (seqF (fgtF [5, 6, 8, 10, 11] (forF (enumI (consA (nameE 1) nilA)) (tupG 2 (consG (nameG 10) (consG (nameG 11) nilG))) (fgtF [10, 11] (fgtF [10, 11] (asgF (ifV (boolT (op2 eqD (nameE 10) (nameE 5))) (op2 subD (nameE 11) (op2 ixD (nameE 1) (nameE 6))) (nameE 11)) (stoG 9 (op2 ixD (nameE 8) (nameE 10)))))) [10, 11])) (retF (tupE (consA (nameE 4) (consA (nameE 7) (consA (nameE 9) nilA))))))))))))
noncomputable def f__law_take : FF := fnF 12 [] (F__law_take)
noncomputable def F__law_stand : SF := (seqF (parF [2, 3] (consA (constE (.str "")) (consA (tupE (consA (callE listD (consA (nameE 0) nilA)) (consA (callE listD (consA (nameE 1) nilA)) nilA))) nilA))) (seqF (fgtF [4, 5, 6] (whF (boolT (op2 (isD true) (callG [] f__law_take (consA (op2 ixD (nameE 3) (constE (.int 0))) (consA (op2 ixD (nameE 3) (constE (.int 1))) nilA))) (constE .non))) (fgtF [4, 5, 6] (seqF (fgtF [3] (asgF (callG [] f__law_take (consA (op2 ixD (nameE 3) (constE (.int 0))) (consA (op2 ixD (nameE 3) (constE (.int 1))) nilA))) (tupG 3 (consG (nameG 4) (consG (nameG 5) (consG (nameG 6) nilG)))))) (fgtF [4, 5, 6] (parF [2, 3] (consA (op2 addD (nameE 2) (nameE 4)) (consA (tupE (consA (nameE 5) (consA (nameE 6) nilA))) nilA)))))))) (retF (tupE (consA (nameE 2) (consA (op2 ixD (nameE 3) (constE (.int 0))) (consA (op2 ixD (nameE 3) (constE (.int 1))) nilA)))))))
noncomputable def f__law_stand : FF := fnF 7 [] (F__law_stand)
noncomputable def F__law_lengths : SF := (retF (compD [3] (rng1I (consA (nameE 1) nilA)) (nameG 3) yesT (op2 addD (constE (.int 1)) (callG [0] f__law_random (consA (nameE 0) (consA (nameE 2) nilA))))))
noncomputable def f__law_lengths : FF := fnF 4 [0] (F__law_lengths)
noncomputable def F__law_right : SF := (seqF (asgF (callG [0] f__law_order (consA (nameE 0) (consA (constE (.int 7)) nilA))) (nameG 1)) (seqF (asgF (callG [0] f__law_lengths (consA (nameE 0) (consA (callE lenP (consA (nameE 1) nilA)) (consA (constE (.int 40)) nilA)))) (nameG 2)) (seqF (parF [3, 4] (consA (tupE (consA (nameE 1) (consA (nameE 2) nilA))) (consA (callE reprD (consA (lstE (consA (nameE 1) (consA (nameE 2) nilA))) nilA)) nilA))) (seqF (fgtF [3, 5, 6, 7] (forF (rng1I (consA (constE (.int 30)) nilA)) (nameG 5) (fgtF [5, 6, 7] (seqF (parF [6, 7] (consA (callG [] f__law_take (consA (op2 ixD (nameE 3) (constE (.int 0))) (consA (op2 ixD (nameE 3) (constE (.int 1))) nilA))) (consA (callG [] f_taken (consA (op2 ixD (nameE 3) (constE (.int 0))) (consA (op2 ixD (nameE 3) (constE (.int 1))) nilA))) nilA))) (seqF (ifF (obsT (orT (boolT (op2 neD (callE reprD (consA (nameE 7) nilA)) (callE reprD (consA (nameE 6) nilA)))) (boolT (op2 neD (callE reprD (consA (callG [] f_taken (permA [1, 0] (consA (op2 ixD (nameE 3) (constE (.int 1))) (consA (op2 ixD (nameE 3) (constE (.int 0))) nilA)))) nilA)) (callE reprD (consA (nameE 6) nilA)))))) (retF (constE (.bl false))) nxF) (fgtF [6, 7] (ifF (boolT (op2 (isD true) (nameE 6) (constE .non))) (seqF (exprF (app2E 7 1 .non)) (seqF (fgtF [7] (exprF (app2E 7 2 .non))) (seqF (fgtF [3] (ifF (boolT (op2 neD (callG [] f_taken (consA (op2 ixD (nameE 3) (constE (.int 0))) (consA (op2 ixD (nameE 3) (constE (.int 1))) nilA))) (nameE 6))) (retF (constE (.bl false))) nxF)) (fgtF [6] (asgF (tupE (consA (op2 ixD (nameE 6) (constE (.int 1))) (consA (op2 ixD (nameE 6) (constE (.int 2))) nilA))) (nameG 3)))))) nxF))))) [5, 6, 7, 3])) (seqF (asgF (callG [] f__law_stand (consA (nameE 1) (consA (nameE 2) nilA))) (tupG 3 (consG (nameG 8) (consG (nameG 9) (consG (nameG 10) nilG))))) (seqF (parF [11, 12] (consA (callG [] f_runs_of (consA (nameE 1) (consA (nameE 2) nilA))) (consA (callG [] f_end_of (consA (nameE 1) (consA (nameE 2) nilA))) nilA))) (seqF (ifF (obsT (orT (boolT (op2 neD (callE reprD (consA (nameE 11) nilA)) (callE reprD (consA (callG [] f__law_told (consA (nameE 8) nilA)) nilA)))) (orT (boolT (op2 neD (callE reprD (consA (nameE 12) nilA)) (callE reprD (consA (tupE (consA (nameE 9) (consA (nameE 10) nilA))) nilA)))) (orT (boolT (op2 (isB2 true) (callG [] f_is_runs (consA (nameE 11) nilA)) (constE (.bl true)))) (boolT (op2 (isD true) (callG [] f_taken (consA (nameE 9) (consA (nameE 10) nilA))) (constE .non))))))) (retF (constE (.bl false))) nxF) (seqF (fgtF [11] (exprF (appE 11 (constE .non)))) (seqF (exprF (app2E 12 0 .non)) (seqF (fgtF [12] (exprF (app2E 12 1 .non))) (seqF (fgtF [8] (ifF (orT (boolT (op2 neD (callE reprD (consA (callG [] f_runs_of (permA [1, 0] (consA (nameE 2) (consA (nameE 1) nilA)))) nilA)) (callE reprD (consA (callG [] f__law_told (consA (nameE 8) nilA)) nilA)))) (boolT (op2 neD (callG [] f_end_of (permA [1, 0] (consA (nameE 2) (consA (nameE 1) nilA)))) (tupE (consA (nameE 9) (consA (nameE 10) nilA)))))) (retF (constE (.bl false))) nxF)) (seqF (asgF (deepE (consA (callE listD (consA (nameE 1) nilA)) (consA (callE listD (consA (nameE 2) nilA)) nilA))) (nameG 13)) (seqF (obsF (callG [] f_runs_of (consA (op2 ixD (nameE 13) (constE (.int 0))) (consA (op2 ixD (nameE 13) (constE (.int 1))) nilA)))) (seqF (fgtF [10] (asgF (nameE 10) (all2G 13 1))) (retF (andV (op2 eqD (callG [] f_runs_of (consA (nameE 9) (consA (op2 ixD (nameE 13) (constE (.int 1))) nilA))) (lstE nilA)) (op2 eqD (callE reprD (consA (lstE (consA (nameE 1) (consA (nameE 2) nilA))) nilA)) (nameE 4))))))))))))))))))
noncomputable def f__law_right : FF := fnF 14 [0] (F__law_right)
noncomputable def F_law (K : PySem.W.Frag) : SF := (seqF (fgtF [1] (forF (rng1I (consA (constE (.int 2)) nilA)) (nameG 1) (fgtF [1] (fgtF [1] (ifF (notT (boolT (callG [0] f__law_right (consA (callG [] (f__law_generator K) (consA (nameE 0) (consA (nameE 1) nilA))) nilA)))) (retF (constE (.bl false))) nxF))) [1])) (seqF (asgF (lstE (consA (constE (.int 2)) (consA (constE (.int 1)) (consA (constE (.int 0)) nilA)))) (nameG 2)) (seqF (ifF (orT (boolT (op2 neD (callG [] f_taken (consA (nameE 2) (consA (lstE (consA (constE (.int 2)) (consA (constE (.int 1)) (consA (constE (.int 3)) nilA)))) nilA))) (tupE (consA (constE (.str "u")) (consA (lstE (consA (constE (.int 2)) (consA (constE (.int 0)) (consA (constE (.int 1)) nilA)))) (consA (lstE (consA (constE (.int 2)) (consA (constE (.int 1)) (consA (constE (.int 1)) nilA)))) nilA)))))) (orT (boolT (op2 neD (callG [] f_taken (consA (nameE 2) (consA (lstE (consA (constE (.int 4)) (consA (constE (.int 1)) (consA (constE (.int 3)) nilA)))) nilA))) (tupE (consA (constE (.str "l")) (consA (lstE (consA (constE (.int 1)) (consA (constE (.int 2)) (consA (constE (.int 0)) nilA)))) (consA (lstE (consA (constE (.int 1)) (consA (constE (.int 3)) (consA (constE (.int 1)) nilA)))) nilA)))))) (boolT (op2 (isD true) (callG [] f_taken (consA (nameE 2) (consA (lstE (consA (constE (.int 3)) (consA (constE (.int 1)) (consA (constE (.int 3)) nilA)))) nilA))) (constE .non))))) (retF (constE (.bl false))) nxF) (retF (andV (op2 eqD (callG [] f_runs_of (consA (nameE 2) (consA (lstE (consA (constE (.int 2)) (consA (constE (.int 1)) (consA (constE (.int 6)) nilA)))) nilA))) (lstE (consA (tupE (consA (constE (.str "u")) (consA (constE (.int 3)) nilA))) nilA))) (andV (op2 eqD (callG [] f_runs_of (consA (lstE (consA (constE (.int 1)) (consA (constE (.int 0)) nilA))) (consA (lstE (consA (constE (.int 1)) (consA (constE (.int 1)) nilA))) nilA))) (lstE nilA)) (op2 eqD (callG [] f_runs_of (consA (lstE (consA (constE (.int 1)) (consA (constE (.int 0)) nilA))) (consA (lstE (consA (op2 powD (constE (.int 10)) (constE (.int 29))) (consA (constE (.int 3)) nilA))) nilA))) (lstE (consA (tupE (consA (constE (.str "l")) (consA (constE (.int 33333333333333333333333333333)) nilA))) (consA (tupE (consA (constE (.str "u")) (consA (constE (.int 2)) nilA))) nilA))))))))))
noncomputable def f_law (K : PySem.W.Frag) : FF := fnF 3 [] (F_law K)
end Law
set_option Elab.async false
set_option linter.all false
set_option maxRecDepth 100000
set_option maxHeartbeats 4000000
namespace Law
open PySem PySem.Spec PyProof.Rows L2 FD
def top (i : Nat) : Stmt := PySem.Challenge.pw_turnlines_k48_deeds_that_lengths_take.main.body.getD i (.Pass ⟨0, 0, 0, 0⟩)
section
variable {P : Program} {w : World} {K : PySem.W.Frag} {mg : Str → Option Value} {base : Heap} {k : Nat}
/-! ### is_whole -/
theorem s_is_whole : FnScope ["value"] ["value"] (defScope (top 6)) := ⟨rfl, rfl, rfl, by decide +kernel, rfl, by decide +kernel, by decide +kernel⟩
theorem ok_is_whole {f : Addr} {fd : FuncData} (F : FunD K "is_whole" "is_whole" (defArgs (top 6)) (defBody (top 6)) (defScope (top 6)) [] [] f fd) (g_int : mg "int" = none) (g_isinstance : mg "isinstance" = none) (g_bool : mg "bool" = none) : GOk P w K mg base CX0 (k + 1) f fd ["value"] (spG 1 [] (f_is_whole)) := by
  refine fn_ok (S0 := []) F s_is_whole (fun cdv A outer s H E hq hr => ?_)
  have hu : (A.deeper (envOfC "is_whole" (defScope (top 6)) s.heap.objs.size f cdv)).units + 64 < cLine := by have := hr.un; omega
  have hu' : (A.deeper (envOfC "is_whole" (defScope (top 6)) s.heap.objs.size f cdv)).units + 65 < cLine := by have := hr.un; omega
  have hN := s_is_whole.nd
  exact ⟨_, (dss_one (ds_ret ((de_and (de_isi .kInt g_isinstance g_int (by decide +kernel) (de_name 0)) (de_one (de_not (de_isi .kBool g_isinstance g_bool (by decide +kernel) (de_name 0))))))))⟩
/-! ### is_between -/
theorem s_is_between : FnScope ["value", "low", "high"] ["value", "low", "high"] (defScope (top 7)) := ⟨rfl, rfl, rfl, by decide +kernel, rfl, by decide +kernel, by decide +kernel⟩
theorem ok_is_between {f : Addr} {fd : FuncData} (F : FunD K "is_between" "is_between" (defArgs (top 7)) (defBody (top 7)) (defScope (top 7)) [] [] f fd) (k_is_whole : Kn P w K mg base k "is_whole" 1 [] (f_is_whole)) : GOk P w K mg base CX0 (k + 1) f fd ["value", "low", "high"] (spG 3 [] (f_is_between)) := by
  refine fn_ok (S0 := []) F s_is_between (fun cdv A outer s H E hq hr => ?_)
  have hu : (A.deeper (envOfC "is_between" (defScope (top 7)) s.heap.objs.size f cdv)).units + 64 < cLine := by have := hr.un; omega
  have hu' : (A.deeper (envOfC "is_between" (defScope (top 7)) s.heap.objs.size f cdv)).units + 65 < cLine := by have := hr.un; omega
  have hN := s_is_between.nd
  exact ⟨_, (dss_one (ds_ret ((de_and (de_call k_is_whole hq hr (dl_cons (de_name 0) dl_nil) (len_cons len_nil)) (de_and (de_ge (de_name 0) (de_name 1)) (de_one ((de_or (de_is (de_name 2) (de_non)) (de_one (de_le (de_name 0) (de_name 2)))))))))))⟩
/-! ### is_row -/
theorem s_is_row : FnScope ["value", "letter"] ["value"] (defScope (top 8)) := ⟨rfl, rfl, rfl, by decide +kernel, rfl, by decide +kernel, by decide +kernel⟩
theorem ok_is_row {f : Addr} {fd : FuncData} (F : FunD K "is_row" "is_row" (defArgs (top 8)) (defBody (top 8)) (defScope (top 8)) [] [] f fd) (g_list : mg "list" = none) (g_isinstance : mg "isinstance" = none) (g_len : mg "len" = none) (g_MOST_SIZE : ∃ t, mg "MOST_SIZE" = some (.int 40 t)) (k_is_between : Kn P w K mg base k "is_between" 3 [] (f_is_between)) (g_sorted : mg "sorted" = none) (g_range : mg "range" = none) : GOk P w K mg base CX0 (k + 1) f fd ["value"] (spG 1 [] (f_is_row)) := by
  refine fn_ok (S0 := []) F s_is_row (fun cdv A outer s H E hq hr => ?_)
  have hu : (A.deeper (envOfC "is_row" (defScope (top 8)) s.heap.objs.size f cdv)).units + 64 < cLine := by have := hr.un; omega
  have hu' : (A.deeper (envOfC "is_row" (defScope (top 8)) s.heap.objs.size f cdv)).units + 65 < cLine := by have := hr.un; omega
  have hN := s_is_row.nd
  exact ⟨_, (dss_cons (ds_if ((dw_or (dt_not (dt_val (de_isi .kList g_isinstance g_list (by decide +kernel) (de_name 0)))) (dw_or1 (dt_not (dt_chain op_le op_le ops_cmpI ops_cmpI (de_int) (de_len g_len (dl_cons (de_name 0) dl_nil)) (de_gint g_MOST_SIZE))))).dt) (dss_one (ds_ret (de_bl))) dss_nil) (dss_cons (ds_if (dt_ne hu (de_comp [("letter", 1)] hN (di_list (de_name 0)) (by rfl) (fun _ _ _ _ _ => DG.q (dg_name hN)) (fun _ _ _ _ _ => DTs.q (dts_one (dt_not (dt_val (de_call k_is_between hq hr (dl_cons (de_name 1) (dl_cons (de_int) (dl_cons (de_sub (de_len g_len (dl_cons (de_name 0) dl_nil)) (de_int)) dl_nil))) (len_cons (len_cons (len_cons len_nil)))))))) (fun _ _ _ _ _ => DE.q (de_name 1))) (de_lst dl_nil)) (dss_one (ds_ret (de_bl))) dss_nil) (dss_one (ds_ret (de_eq hu (de_sort hu g_sorted (dl_cons (de_name 0) dl_nil)) (de_rg1 g_list g_range (de_len g_len (dl_cons (de_name 0) dl_nil))))))))⟩
/-! ### fall_of -/
theorem s_fall_of : FnScope ["row", "most", "at", "letter"] ["row"] (defScope (top 9)) := ⟨rfl, rfl, rfl, by decide +kernel, rfl, by decide +kernel, by decide +kernel⟩
theorem ok_fall_of {f : Addr} {fd : FuncData} (F : FunD K "fall_of" "fall_of" (defArgs (top 9)) (defBody (top 9)) (defScope (top 9)) [] [] f fd) (g_enumerate : mg "enumerate" = none) (g_max : mg "max" = none) : GOk P w K mg base CX0 (k + 1) f fd ["row"] (spG 1 [] (f_fall_of)) := by
  refine fn_ok (S0 := [1, 2, 3, 1]) F s_fall_of (fun cdv A outer s H E hq hr => ?_)
  have hu : (A.deeper (envOfC "fall_of" (defScope (top 9)) s.heap.objs.size f cdv)).units + 64 < cLine := by have := hr.un; omega
  have hu' : (A.deeper (envOfC "fall_of" (defScope (top 9)) s.heap.objs.size f cdv)).units + 65 < cLine := by have := hr.un; omega
  have hN := s_fall_of.nd
  exact ⟨_, (dss_cons (ds_set (i := 1) hN (de_neg (de_int))) (dss_cons (ds_fgt [1, 2, 3] (ds_for PassesOwn.never (di_enum g_enumerate (dl_cons (de_slice (de_name 0) do_none (do_some (de_neg (de_int)))) dl_nil)) (dg_tup (dgs_cons (dg_name hN) (dgs_cons (dg_name hN) dgs_nil))) (dss_fgt [2, 3] (dss_cons (ds_fgt [3] (ds_set (i := 1) hN (de_max2 g_max (dl_cons (de_name 1) (dl_cons (de_name 3) dl_nil))))) (dss_one (ds_fgt [2] (ds_if (dt_eq hu (de_name 1) (de_name 2)) (dss_one (ds_ret (de_add (de_name 2) (de_int)))) dss_nil))))))) (dss_one (ds_ret (de_non)))))⟩
/-! ### is_order_list -/
theorem s_is_order_list : FnScope ["value"] ["value"] (defScope (top 10)) := ⟨rfl, rfl, rfl, by decide +kernel, rfl, by decide +kernel, by decide +kernel⟩
theorem ok_is_order_list {f : Addr} {fd : FuncData} (F : FunD K "is_order_list" "is_order_list" (defArgs (top 10)) (defBody (top 10)) (defScope (top 10)) [] [] f fd) (k_is_row : Kn P w K mg base k "is_row" 1 [] (f_is_row)) (k_fall_of : Kn P w K mg base k "fall_of" 1 [] (f_fall_of)) : GOk P w K mg base CX0 (k + 1) f fd ["value"] (spG 1 [] (f_is_order_list)) := by
  refine fn_ok (S0 := []) F s_is_order_list (fun cdv A outer s H E hq hr => ?_)
  have hu : (A.deeper (envOfC "is_order_list" (defScope (top 10)) s.heap.objs.size f cdv)).units + 64 < cLine := by have := hr.un; omega
  have hu' : (A.deeper (envOfC "is_order_list" (defScope (top 10)) s.heap.objs.size f cdv)).units + 65 < cLine := by have := hr.un; omega
  have hN := s_is_order_list.nd
  exact ⟨_, (dss_one (ds_ret ((de_and (de_call k_is_row hq hr (dl_cons (de_name 0) dl_nil) (len_cons len_nil)) (de_one (de_is (de_call k_fall_of hq hr (dl_cons (de_name 0) dl_nil) (len_cons len_nil)) (de_non)))))))⟩
/-! ### check_order -/
theorem s_check_order : FnScope ["order"] ["order"] (defScope (top 11)) := ⟨rfl, rfl, rfl, by decide +kernel, rfl, by decide +kernel, by decide +kernel⟩
theorem ok_check_order {f : Addr} {fd : FuncData} (F : FunD K "check_order" "check_order" (defArgs (top 11)) (defBody (top 11)) (defScope (top 11)) [] [] f fd) (k_is_order_list : Kn P w K mg base k "is_order_list" 1 [] (f_is_order_list)) : GOk P w K mg base CX0 (k + 1) f fd ["order"] (spG 1 [] (f_check_order)) := by
  refine fn_ok (S0 := []) F s_check_order (fun cdv A outer s H E hq hr => ?_)
  have hu : (A.deeper (envOfC "check_order" (defScope (top 11)) s.heap.objs.size f cdv)).units + 64 < cLine := by have := hr.un; omega
  have hu' : (A.deeper (envOfC "check_order" (defScope (top 11)) s.heap.objs.size f cdv)).units + 65 < cLine := by have := hr.un; omega
  have hN := s_check_order.nd
  exact ⟨_, (dss_one (ds_if (dt_not (dt_val (de_call k_is_order_list hq hr (dl_cons (de_name 0) dl_nil) (len_cons len_nil)))) (dss_one (ds_off)) dss_nil))⟩
/-! ### named_anew -/
theorem s_named_anew : FnScope ["upper", "lower", "at", "letter", "names"] ["upper", "lower"] (defScope (top 12)) := ⟨rfl, rfl, rfl, by decide +kernel, rfl, by decide +kernel, by decide +kernel⟩
theorem ok_named_anew {f : Addr} {fd : FuncData} (F : FunD K "named_anew" "named_anew" (defArgs (top 12)) (defBody (top 12)) (defScope (top 12)) [] [] f fd) (g_enumerate : mg "enumerate" = none) : GOk P w K mg base CX0 (k + 1) f fd ["upper", "lower"] (spG 2 [] (f_named_anew)) := by
  refine fn_ok (S0 := [4]) F s_named_anew (fun cdv A outer s H E hq hr => ?_)
  have hu : (A.deeper (envOfC "named_anew" (defScope (top 12)) s.heap.objs.size f cdv)).units + 64 < cLine := by have := hr.un; omega
  have hu' : (A.deeper (envOfC "named_anew" (defScope (top 12)) s.heap.objs.size f cdv)).units + 65 < cLine := by have := hr.un; omega
  have hN := s_named_anew.nd
  exact ⟨_, (dss_cons (ds_set (i := 4) hN (de_dc [("at", 2), ("letter", 3)] hN (di_enum g_enumerate (dl_cons (de_name 0) dl_nil)) (by rfl) (fun _ _ _ _ _ => DG.q (dg_tup (dgs_cons (dg_name hN) (dgs_cons (dg_name hN) dgs_nil)))) (fun _ _ _ _ _ => DTs.q dts_nil) (fun _ _ _ _ _ => DE.q (de_name 3)) (fun _ _ _ _ _ => DE.q (de_name 2)))) (dss_one (ds_ret (de_comp [("letter", 3)] hN (di_list (de_name 1)) (by rfl) (fun _ _ _ _ _ => DG.q (dg_name hN)) (fun _ _ _ _ _ => DTs.q dts_nil) (fun _ _ _ _ _ => DE.q (de_dix hu (de_name 4) (de_name 3)))))))⟩
/-! ### is_deed -/
theorem s_is_deed : FnScope ["value"] ["value"] (defScope (top 14)) := ⟨rfl, rfl, rfl, by decide +kernel, rfl, by decide +kernel, by decide +kernel⟩
theorem ok_is_deed {f : Addr} {fd : FuncData} (F : FunD K "is_deed" "is_deed" (defArgs (top 14)) (defBody (top 14)) (defScope (top 14)) [] [] f fd) (g_str : mg "str" = none) (g_isinstance : mg "isinstance" = none) : GOk P w K mg base CX0 (k + 1) f fd ["value"] (spG 1 [] (f_is_deed)) := by
  refine fn_ok (S0 := []) F s_is_deed (fun cdv A outer s H E hq hr => ?_)
  have hu : (A.deeper (envOfC "is_deed" (defScope (top 14)) s.heap.objs.size f cdv)).units + 64 < cLine := by have := hr.un; omega
  have hu' : (A.deeper (envOfC "is_deed" (defScope (top 14)) s.heap.objs.size f cdv)).units + 65 < cLine := by have := hr.un; omega
  have hN := s_is_deed.nd
  exact ⟨_, (dss_one (ds_ret ((de_and (de_isi .kStr g_isinstance g_str (by decide +kernel) (de_name 0)) (de_one (de_in hu (de_name 0) (de_lst (dl_cons (de_str) (dl_cons (de_str) dl_nil)))))))))⟩
/-! ### check_lengths -/
theorem s_check_lengths : FnScope ["order", "lengths", "length"] ["order", "lengths"] (defScope (top 16)) := ⟨rfl, rfl, rfl, by decide +kernel, rfl, by decide +kernel, by decide +kernel⟩
theorem ok_check_lengths {f : Addr} {fd : FuncData} (F : FunD K "check_lengths" "check_lengths" (defArgs (top 16)) (defBody (top 16)) (defScope (top 16)) [] [] f fd) (k_check_order : Kn P w K mg base k "check_order" 1 [] (f_check_order)) (g_list : mg "list" = none) (g_isinstance : mg "isinstance" = none) (g_len : mg "len" = none) (k_is_between : Kn P w K mg base k "is_between" 3 [] (f_is_between)) : GOk P w K mg base CX0 (k + 1) f fd ["order", "lengths"] (spG 2 [] (f_check_lengths)) := by
  refine fn_ok (S0 := []) F s_check_lengths (fun cdv A outer s H E hq hr => ?_)
  have hu : (A.deeper (envOfC "check_lengths" (defScope (top 16)) s.heap.objs.size f cdv)).units + 64 < cLine := by have := hr.un; omega
  have hu' : (A.deeper (envOfC "check_lengths" (defScope (top 16)) s.heap.objs.size f cdv)).units + 65 < cLine := by have := hr.un; omega
  have hN := s_check_lengths.nd
  exact ⟨_, (dss_cons (ds_expr (de_call k_check_order hq hr (dl_cons (de_name 0) dl_nil) (len_cons len_nil))) (dss_cons (ds_if ((dw_or (dt_not (dt_val (de_isi .kList g_isinstance g_list (by decide +kernel) (de_name 1)))) (dw_or1 (dt_ne hu (de_len g_len (dl_cons (de_name 1) dl_nil)) (de_len g_len (dl_cons (de_name 0) dl_nil))))).dt) (dss_one (ds_off)) dss_nil) (dss_one (ds_if (dt_ne hu (de_comp [("length", 2)] hN (di_list (de_name 1)) (by rfl) (fun _ _ _ _ _ => DG.q (dg_name hN)) (fun _ _ _ _ _ => DTs.q (dts_one (dt_not (dt_val (de_call k_is_between hq hr (dl_cons (de_name 2) (dl_cons (de_int) (dl_cons (de_non) dl_nil))) (len_cons (len_cons (len_cons len_nil)))))))) (fun _ _ _ _ _ => DE.q (de_name 2))) (de_lst dl_nil)) (dss_one (ds_off)) dss_nil))))⟩
/-! ### is_run_list -/
theorem s_is_run_list : FnScope ["value", "last", "item"] ["value"] (defScope (top 18)) := ⟨rfl, rfl, rfl, by decide +kernel, rfl, by decide +kernel, by decide +kernel⟩
theorem ok_is_run_list {f : Addr} {fd : FuncData} (F : FunD K "is_run_list" "is_run_list" (defArgs (top 18)) (defBody (top 18)) (defScope (top 18)) [] [] f fd) (g_list : mg "list" = none) (g_isinstance : mg "isinstance" = none) (g_tuple : mg "tuple" = none) (g_len : mg "len" = none) (k_is_deed : Kn P w K mg base k "is_deed" 1 [] (f_is_deed)) (k_is_between : Kn P w K mg base k "is_between" 3 [] (f_is_between)) : GOk P w K mg base CX0 (k + 1) f fd ["value"] (spG 1 [] (f_is_run_list)) := by
  refine fn_ok (S0 := [1, 2, 1]) F s_is_run_list (fun cdv A outer s H E hq hr => ?_)
  have hu : (A.deeper (envOfC "is_run_list" (defScope (top 18)) s.heap.objs.size f cdv)).units + 64 < cLine := by have := hr.un; omega
  have hu' : (A.deeper (envOfC "is_run_list" (defScope (top 18)) s.heap.objs.size f cdv)).units + 65 < cLine := by have := hr.un; omega
  have hN := s_is_run_list.nd
  exact ⟨_, (dss_cons (ds_if (dt_not (dt_val (de_isi .kList g_isinstance g_list (by decide +kernel) (de_name 0)))) (dss_one (ds_ret (de_bl))) dss_nil) (dss_cons (ds_set (i := 1) hN (de_non)) (dss_cons (ds_fgt [1, 2] (ds_for PassesOwn.never (di_list (de_name 0)) (dg_name hN) (dss_fgt [2] (dss_cons (ds_fgt [1] (ds_if ((dw_or (dt_not (dt_val (de_isi .kTuple g_isinstance g_tuple (by decide +kernel) (de_name 2)))) (dw_or (dt_ne hu (de_len g_len (dl_cons (de_name 2) dl_nil)) (de_int)) (dw_or (dt_not (dt_val (de_call k_is_deed hq hr (dl_cons (de_ix (de_name 2) (de_int)) dl_nil) (len_cons len_nil)))) (dw_or1 (dt_eq hu (de_ix (de_name 2) (de_int)) (de_name 1)))))).dt) (dss_one (ds_ret (de_bl))) dss_nil)) (dss_cons (ds_if (dt_not (dt_val (de_call k_is_between hq hr (dl_cons (de_ix (de_name 2) (de_int)) (dl_cons (de_int) (dl_cons (de_non) dl_nil))) (len_cons (len_cons (len_cons len_nil)))))) (dss_one (ds_ret (de_bl))) dss_nil) (dss_one (ds_fgt [2] (ds_set (i := 1) hN (de_ix (de_name 2) (de_int)))))))))) (dss_one (ds_ret (de_bl))))))⟩
/-! ### ring_losers -/
theorem s_ring_losers : FnScope ["order", "deed", "last"] ["order", "deed"] (defScope (top 19)) := ⟨rfl, rfl, rfl, by decide +kernel, rfl, by decide +kernel, by decide +kernel⟩
theorem ok_ring_losers {f : Addr} {fd : FuncData} (F : FunD K "ring_losers" "ring_losers" (defArgs (top 19)) (defBody (top 19)) (defScope (top 19)) [] [] f fd) (g_len : mg "len" = none) (g_list : mg "list" = none) (g_range : mg "range" = none) : GOk P w K mg base CX0 (k + 1) f fd ["order", "deed"] (spG 2 [] (f_ring_losers)) := by
  refine fn_ok (S0 := [2]) F s_ring_losers (fun cdv A outer s H E hq hr => ?_)
  have hu : (A.deeper (envOfC "ring_losers" (defScope (top 19)) s.heap.objs.size f cdv)).units + 64 < cLine := by have := hr.un; omega
  have hu' : (A.deeper (envOfC "ring_losers" (defScope (top 19)) s.heap.objs.size f cdv)).units + 65 < cLine := by have := hr.un; omega
  have hN := s_ring_losers.nd
  exact ⟨_, (dss_cons (ds_set (i := 2) hN (de_sub (de_len g_len (dl_cons (de_name 0) dl_nil)) (de_int))) (dss_cons (ds_if (dt_eq hu (de_name 1) (de_str)) (dss_one (ds_ret (de_tup (dl_cons (de_name 2) (dl_cons (de_rev (de_slice (de_name 0) (do_some (de_add (de_index hu' (de_name 0) (de_name 2)) (de_int))) do_none)) dl_nil))))) dss_nil) (dss_one (ds_ret (de_tup (dl_cons (de_ix (de_name 0) (de_neg (de_int))) (dl_cons (de_rev (de_rg2 g_list g_range (de_add (de_ix (de_name 0) (de_neg (de_int))) (de_int)) (de_add (de_name 2) (de_int)))) dl_nil)))))))⟩
/-! ### behind_run -/
theorem s_behind_run : FnScope ["order", "deed", "times", "winner", "losers", "turn", "ring", "upper", "letter", "names"] ["order", "deed", "times"] (defScope (top 20)) := ⟨rfl, rfl, rfl, by decide +kernel, rfl, by decide +kernel, by decide +kernel⟩
theorem ok_behind_run {f : Addr} {fd : FuncData} (F : FunD K "behind_run" "behind_run" (defArgs (top 20)) (defBody (top 20)) (defScope (top 20)) [] [] f fd) (k_ring_losers : Kn P w K mg base k "ring_losers" 2 [] (f_ring_losers)) (g_len : mg "len" = none) (g_list : mg "list" = none) (g_range : mg "range" = none) (k_named_anew : Kn P w K mg base k "named_anew" 2 [] (f_named_anew)) : GOk P w K mg base CX0 (k + 1) f fd ["order", "deed", "times"] (spG 3 [] (f_behind_run)) := by
  refine fn_ok (S0 := [3, 4, 5, 6, 7, 9]) F s_behind_run (fun cdv A outer s H E hq hr => ?_)
  have hu : (A.deeper (envOfC "behind_run" (defScope (top 20)) s.heap.objs.size f cdv)).units + 64 < cLine := by have := hr.un; omega
  have hu' : (A.deeper (envOfC "behind_run" (defScope (top 20)) s.heap.objs.size f cdv)).units + 65 < cLine := by have := hr.un; omega
  have hN := s_behind_run.nd
  exact ⟨_, (dss_cons (ds_asg (de_call k_ring_losers hq hr (dl_cons (de_name 0) (dl_cons (de_name 1) dl_nil)) (len_cons (len_cons len_nil))) (dg_tup (dgs_cons (dg_name hN) (dgs_cons (dg_name hN) dgs_nil)))) (dss_cons (ds_set (i := 5) hN (de_mod (de_name 2) (de_len g_len (dl_cons (de_name 4) dl_nil)))) (dss_cons (ds_fgt [4, 5] (ds_set (i := 6) hN (de_rev (de_add (de_slice (de_name 4) (do_some (de_name 5)) do_none) (de_slice (de_name 4) do_none (do_some (de_name 5))))))) (dss_cons (ds_if (dt_eq hu (de_name 1) (de_str)) (dss_one (ds_ret (de_dtup (dl_cons (de_add (de_slice (de_name 0) do_none (do_some (de_add (de_index hu' (de_name 0) (de_name 3)) (de_int)))) (de_name 6)) (dl_cons (de_rg1 g_list g_range (de_len g_len (dl_cons (de_name 0) dl_nil))) dl_nil))))) dss_nil) (dss_cons (ds_fgt [3, 6] (ds_set (i := 7) hN (de_add (de_rg1 g_list g_range (de_add (de_name 3) (de_int))) (de_name 6)))) (dss_cons (ds_setLc [("letter", 8)] hN (by rfl) (di_rng1 g_range (dl_cons (de_len g_len (dl_cons (de_name 0) dl_nil)) dl_nil)) (by rfl) (fun _ _ _ _ _ => DG.q (dg_name hN)) (fun _ _ _ _ _ => DTs.q dts_nil) (fun _ _ _ _ _ => DE.q (de_index hu' (de_name 7) (de_name 8)))) (dss_one (ds_ret (de_dtup (dl_cons (de_call k_named_anew hq hr (dl_cons (de_name 7) (dl_cons (de_name 0) dl_nil)) (len_cons (len_cons len_nil))) (dl_cons (de_mov (de_name 9)) dl_nil)))))))))))⟩
/-! ### next_deed -/
theorem s_next_deed : FnScope ["order", "lengths", "above", "below"] ["order", "lengths"] (defScope (top 21)) := ⟨rfl, rfl, rfl, by decide +kernel, rfl, by decide +kernel, by decide +kernel⟩
theorem ok_next_deed {f : Addr} {fd : FuncData} (F : FunD K "next_deed" "next_deed" (defArgs (top 21)) (defBody (top 21)) (defScope (top 21)) [] [] f fd)  : GOk P w K mg base CX0 (k + 1) f fd ["order", "lengths"] (spG 2 [] (f_next_deed)) := by
  refine fn_ok (S0 := [2, 3]) F s_next_deed (fun cdv A outer s H E hq hr => ?_)
  have hu : (A.deeper (envOfC "next_deed" (defScope (top 21)) s.heap.objs.size f cdv)).units + 64 < cLine := by have := hr.un; omega
  have hu' : (A.deeper (envOfC "next_deed" (defScope (top 21)) s.heap.objs.size f cdv)).units + 65 < cLine := by have := hr.un; omega
  have hN := s_next_deed.nd
  exact ⟨_, (dss_cons (ds_par (i := 2) (j := 3) hN (dl_cons (de_ix (de_name 1) (de_neg (de_int))) (dl_cons (de_ix (de_name 1) (de_ix (de_name 0) (de_neg (de_int)))) dl_nil))) (dss_cons (ds_if (dt_eq hu (de_name 2) (de_name 3)) (dss_one (ds_ret (de_non))) dss_nil) (dss_one (ds_ret (de_if (dt_gt (de_name 2) (de_name 3)) (de_str) (de_str))))))⟩
/-! ### run_taken -/
theorem s_run_taken : FnScope ["order", "lengths", "most", "deed", "winner", "losers", "letter", "ring", "turns", "left", "times", "loser", "behind", "names", "found", "length"] ["order", "lengths", "most"] (defScope (top 22)) := ⟨rfl, rfl, rfl, by decide +kernel, rfl, by decide +kernel, by decide +kernel⟩
theorem ok_run_taken {f : Addr} {fd : FuncData} (F : FunD K "run_taken" "run_taken" (defArgs (top 22)) (defBody (top 22)) (defScope (top 22)) [] [] f fd) (k_next_deed : Kn P w K mg base k "next_deed" 2 [] (f_next_deed)) (k_ring_losers : Kn P w K mg base k "ring_losers" 2 [] (f_ring_losers)) (g_sum : mg "sum" = none) (g_len : mg "len" = none) (g_min : mg "min" = none) (k_behind_run : Kn P w K mg base k "behind_run" 3 [] (f_behind_run)) (g_enumerate : mg "enumerate" = none) : GOk P w K mg base CX0 (k + 1) f fd ["order", "lengths", "most"] (spG 3 [] (f_run_taken)) := by
  refine fn_ok (S0 := [3, 4, 5, 7, 8, 8, 9, 10, 11, 9, 10, 12, 13, 14, 6, 15]) F s_run_taken (fun cdv A outer s H E hq hr => ?_)
  have hu : (A.deeper (envOfC "run_taken" (defScope (top 22)) s.heap.objs.size f cdv)).units + 64 < cLine := by have := hr.un; omega
  have hu' : (A.deeper (envOfC "run_taken" (defScope (top 22)) s.heap.objs.size f cdv)).units + 65 < cLine := by have := hr.un; omega
  have hN := s_run_taken.nd
  exact ⟨_, (dss_cons (ds_set (i := 3) hN (de_call k_next_deed hq hr (dl_cons (de_name 0) (dl_cons (de_name 1) dl_nil)) (len_cons (len_cons len_nil)))) (dss_cons (ds_asg (de_call k_ring_losers hq hr (dl_cons (de_name 0) (dl_cons (de_name 3) dl_nil)) (len_cons (len_cons len_nil))) (dg_tup (dgs_cons (dg_name hN) (dgs_cons (dg_name hN) dgs_nil)))) (dss_cons (ds_fgt [6] (ds_set (i := 7) hN (de_sum g_sum (dl_cons (de_comp [("letter", 6)] hN (di_list (de_name 5)) (by rfl) (fun _ _ _ _ _ => DG.q (dg_name hN)) (fun _ _ _ _ _ => DTs.q dts_nil) (fun _ _ _ _ _ => DE.q (de_ix (de_name 1) (de_name 6)))) dl_nil)))) (dss_cons (ds_set (i := 8) hN (de_fdiv (de_sub (de_ix (de_name 1) (de_name 4)) (de_int)) (de_name 7))) (dss_cons (ds_if (dt_isnt (de_name 2) (de_non)) (dss_one (ds_set (i := 8) hN (de_min2 g_min (dl_cons (de_name 8) (dl_cons (de_fdiv (de_name 2) (de_len g_len (dl_cons (de_name 5) dl_nil))) dl_nil))))) dss_nil) (dss_cons (ds_fgt [7, 8] (ds_par (i := 9) (j := 10) hN (dl_cons (de_sub (de_ix (de_name 1) (de_name 4)) (de_mul (de_name 8) (de_name 7))) (dl_cons (de_mul (de_name 8) (de_len g_len (dl_cons (de_name 5) dl_nil))) dl_nil)))) (dss_cons (ds_fgt [5, 11] (ds_for PassesOwn.never (di_list (de_name 5)) (dg_name hN) (dss_fgt [11] (dss_cons (ds_if ((dw_or (dt_le (de_name 9) (de_ix (de_name 1) (de_name 11))) (dw_or1 (dt_eq hu (de_name 10) (de_name 2)))).dt) (dss_one (ds_break)) dss_nil) (dss_one (ds_fgt [11] (ds_par (i := 9) (j := 10) hN (dl_cons (de_sub (de_name 9) (de_ix (de_name 1) (de_name 11))) (dl_cons (de_add (de_name 10) (de_int)) dl_nil))))))))) (dss_cons (ds_asg (de_call k_behind_run hq hr (dl_cons (de_name 0) (dl_cons (de_name 3) (dl_cons (de_name 10) dl_nil))) (len_cons (len_cons (len_cons len_nil)))) (dg_tup (dgs_cons (dg_name hN) (dgs_cons (dg_name hN) dgs_nil)))) (dss_cons (ds_set (i := 14) hN (de_mul (de_lst (dl_cons (de_int) dl_nil)) (de_len g_len (dl_cons (de_name 0) dl_nil)))) (dss_cons (ds_fgt [4, 6, 9, 13, 15] (ds_for PassesOwn.never (di_enum g_enumerate (dl_cons (de_name 1) dl_nil)) (dg_tup (dgs_cons (dg_name hN) (dgs_cons (dg_name hN) dgs_nil))) (dss_fgt [6, 15] (dss_one (ds_fgt [6, 15] (ds_asg (de_if (dt_eq hu (de_name 6) (de_name 4)) (de_name 9) (de_name 15)) (dg_sto (i := 14) (de_ix (de_name 13) (de_name 6))))))))) (dss_one (ds_ret (de_dtup (dl_cons (de_mov (de_name 3)) (dl_cons (de_mov (de_name 10)) (dl_cons (de_mov (de_name 12)) (dl_cons (de_mov (de_name 14)) dl_nil)))))))))))))))))⟩
/-! ### all_runs -/
theorem s_all_runs : FnScope ["order", "lengths", "found", "deed", "times"] ["order", "lengths"] (defScope (top 23)) := ⟨rfl, rfl, rfl, by decide +kernel, rfl, by decide +kernel, by decide +kernel⟩
theorem ok_all_runs {f : Addr} {fd : FuncData} (F : FunD K "all_runs" "all_runs" (defArgs (top 23)) (defBody (top 23)) (defScope (top 23)) [] [] f fd) (g_list : mg "list" = none) (k_next_deed : Kn P w K mg base k "next_deed" 2 [] (f_next_deed)) (k_run_taken : Kn P w K mg base k "run_taken" 3 [] (f_run_taken)) : GOk P w K mg base CX0 (k + 1) f fd ["order", "lengths"] (spG 2 [] (f_all_runs)) := by
  refine fn_ok (S0 := [2, 0, 1, 3, 4, 0, 1]) F s_all_runs (fun cdv A outer s H E hq hr => ?_)
  have hu : (A.deeper (envOfC "all_runs" (defScope (top 23)) s.heap.objs.size f cdv)).units + 64 < cLine := by have := hr.un; omega
  have hu' : (A.deeper (envOfC "all_runs" (defScope (top 23)) s.heap.objs.size f cdv)).units + 65 < cLine := by have := hr.un; omega
  have hN := s_all_runs.nd
  exact ⟨_, (dss_cons (ds_par3 (i := 2) (j := 0) (l := 1) hN (dl_cons (de_lst dl_nil) (dl_cons (de_listc g_list (dl_cons (de_name 0) dl_nil)) (dl_cons (de_listc g_list (dl_cons (de_name 1) dl_nil)) dl_nil)))) (dss_cons (ds_fgt [3, 4] (ds_while PassesOwn.never (dt_obs (dt_isnt (de_call k_next_deed hq hr (dl_cons (de_name 0) (dl_cons (de_name 1) dl_nil)) (len_cons (len_cons len_nil))) (de_non))) (dss_fgt [3, 4] (dss_cons (ds_asg (de_call k_run_taken hq hr (dl_cons (de_name 0) (dl_cons (de_name 1) (dl_cons (de_non) dl_nil))) (len_cons (len_cons (len_cons len_nil)))) (dg_tup (dgs_cons (dg_name hN) (dgs_cons (dg_name hN) (dgs_cons (dg_name hN) (dgs_cons (dg_name hN) dgs_nil)))))) (dss_one (ds_fgt [3, 4] (ds_expr (de_app 2 (de_tup (dl_cons (de_name 3) (dl_cons (de_name 4) dl_nil))))))))))) (dss_one (ds_ret (de_dtup (dl_cons (de_mov (de_name 2)) (dl_cons (de_mov (de_name 0)) (dl_cons (de_mov (de_name 1)) dl_nil))))))))⟩
/-! ### taken -/
theorem s_taken : FnScope ["order", "lengths", "deed", "_", "behind", "found"] ["order", "lengths"] (defScope (top 24)) := ⟨rfl, rfl, rfl, by decide +kernel, rfl, by decide +kernel, by decide +kernel⟩
theorem ok_taken {f : Addr} {fd : FuncData} (F : FunD K "taken" "taken" (defArgs (top 24)) (defBody (top 24)) (defScope (top 24)) [] [] f fd) (k_check_lengths : Kn P w K mg base k "check_lengths" 2 [] (f_check_lengths)) (k_next_deed : Kn P w K mg base k "next_deed" 2 [] (f_next_deed)) (k_run_taken : Kn P w K mg base k "run_taken" 3 [] (f_run_taken)) : GOk P w K mg base CX0 (k + 1) f fd ["order", "lengths"] (spG 2 [] (f_taken)) := by
  refine fn_ok (S0 := [2, 3, 4, 5]) F s_taken (fun cdv A outer s H E hq hr => ?_)
  have hu : (A.deeper (envOfC "taken" (defScope (top 24)) s.heap.objs.size f cdv)).units + 64 < cLine := by have := hr.un; omega
  have hu' : (A.deeper (envOfC "taken" (defScope (top 24)) s.heap.objs.size f cdv)).units + 65 < cLine := by have := hr.un; omega
  have hN := s_taken.nd
  exact ⟨_, (dss_cons (ds_expr (de_call k_check_lengths hq hr (dl_cons (de_name 0) (dl_cons (de_name 1) dl_nil)) (len_cons (len_cons len_nil)))) (dss_cons (ds_if (dt_is (de_call k_next_deed hq hr (dl_cons (de_name 0) (dl_cons (de_name 1) dl_nil)) (len_cons (len_cons len_nil))) (de_non)) (dss_one (ds_ret (de_non))) dss_nil) (dss_cons (ds_fgt [3] (ds_asg (de_call k_run_taken hq hr (dl_cons (de_name 0) (dl_cons (de_name 1) (dl_cons (de_int) dl_nil))) (len_cons (len_cons (len_cons len_nil)))) (dg_tup (dgs_cons (dg_name hN) (dgs_cons (dg_name hN) (dgs_cons (dg_name hN) (dgs_cons (dg_name hN) dgs_nil))))))) (dss_one (ds_ret (de_dtup (dl_cons (de_mov (de_name 2)) (dl_cons (de_mov (de_name 4)) (dl_cons (de_mov (de_name 5)) dl_nil)))))))))⟩
/-! ### is_runs -/
theorem s_is_runs : FnScope ["value"] ["value"] (defScope (top 25)) := ⟨rfl, rfl, rfl, by decide +kernel, rfl, by decide +kernel, by decide +kernel⟩
theorem ok_is_runs {f : Addr} {fd : FuncData} (F : FunD K "is_runs" "is_runs" (defArgs (top 25)) (defBody (top 25)) (defScope (top 25)) [] [] f fd) (k_is_run_list : Kn P w K mg base k "is_run_list" 1 [] (f_is_run_list)) : GOk P w K mg base CX0 (k + 1) f fd ["value"] (spG 1 [] (f_is_runs)) := by
  refine fn_ok (S0 := []) F s_is_runs (fun cdv A outer s H E hq hr => ?_)
  have hu : (A.deeper (envOfC "is_runs" (defScope (top 25)) s.heap.objs.size f cdv)).units + 64 < cLine := by have := hr.un; omega
  have hu' : (A.deeper (envOfC "is_runs" (defScope (top 25)) s.heap.objs.size f cdv)).units + 65 < cLine := by have := hr.un; omega
  have hN := s_is_runs.nd
  exact ⟨_, (dss_one (ds_ret (de_call k_is_run_list hq hr (dl_cons (de_name 0) dl_nil) (len_cons len_nil))))⟩
/-! ### runs_of -/
theorem s_runs_of : FnScope ["order", "lengths"] ["order", "lengths"] (defScope (top 26)) := ⟨rfl, rfl, rfl, by decide +kernel, rfl, by decide +kernel, by decide +kernel⟩
theorem ok_runs_of {f : Addr} {fd : FuncData} (F : FunD K "runs_of" "runs_of" (defArgs (top 26)) (defBody (top 26)) (defScope (top 26)) [] [] f fd) (k_check_lengths : Kn P w K mg base k "check_lengths" 2 [] (f_check_lengths)) (k_all_runs : Kn P w K mg base k "all_runs" 2 [] (f_all_runs)) : GOk P w K mg base CX0 (k + 1) f fd ["order", "lengths"] (spG 2 [] (f_runs_of)) := by
  refine fn_ok (S0 := []) F s_runs_of (fun cdv A outer s H E hq hr => ?_)
  have hu : (A.deeper (envOfC "runs_of" (defScope (top 26)) s.heap.objs.size f cdv)).units + 64 < cLine := by have := hr.un; omega
  have hu' : (A.deeper (envOfC "runs_of" (defScope (top 26)) s.heap.objs.size f cdv)).units + 65 < cLine := by have := hr.un; omega
  have hN := s_runs_of.nd
  exact ⟨_, (dss_cons (ds_expr (de_call k_check_lengths hq hr (dl_cons (de_name 0) (dl_cons (de_name 1) dl_nil)) (len_cons (len_cons len_nil)))) (dss_one (ds_ret (de_ixM 0 (de_call k_all_runs hq hr (dl_cons (de_name 0) (dl_cons (de_name 1) dl_nil)) (len_cons (len_cons len_nil)))))))⟩
/-! ### end_of -/
theorem s_end_of : FnScope ["order", "lengths"] ["order", "lengths"] (defScope (top 27)) := ⟨rfl, rfl, rfl, by decide +kernel, rfl, by decide +kernel, by decide +kernel⟩
theorem ok_end_of {f : Addr} {fd : FuncData} (F : FunD K "end_of" "end_of" (defArgs (top 27)) (defBody (top 27)) (defScope (top 27)) [] [] f fd) (k_check_lengths : Kn P w K mg base k "check_lengths" 2 [] (f_check_lengths)) (k_all_runs : Kn P w K mg base k "all_runs" 2 [] (f_all_runs)) : GOk P w K mg base CX0 (k + 1) f fd ["order", "lengths"] (spG 2 [] (f_end_of)) := by
  refine fn_ok (S0 := []) F s_end_of (fun cdv A outer s H E hq hr => ?_)
  have hu : (A.deeper (envOfC "end_of" (defScope (top 27)) s.heap.objs.size f cdv)).units + 64 < cLine := by have := hr.un; omega
  have hu' : (A.deeper (envOfC "end_of" (defScope (top 27)) s.heap.objs.size f cdv)).units + 65 < cLine := by have := hr.un; omega
  have hN := s_end_of.nd
  exact ⟨_, (dss_cons (ds_expr (de_call k_check_lengths hq hr (dl_cons (de_name 0) (dl_cons (de_name 1) dl_nil)) (len_cons (len_cons len_nil)))) (dss_one (ds_ret (de_sliceM 1 (de_call k_all_runs hq hr (dl_cons (de_name 0) (dl_cons (de_name 1) dl_nil)) (len_cons (len_cons len_nil)))))))⟩
/-! ### _law_hash -/
theorem s__law_hash : FnScope ["_law_seed", "_law_index", "_law_mixed"] ["_law_seed", "_law_index"] (defScope (top 29)) := ⟨rfl, rfl, rfl, by decide +kernel, rfl, by decide +kernel, by decide +kernel⟩
theorem ok__law_hash {f : Addr} {fd : FuncData} (F : FunD K "_law_hash" "_law_hash" (defArgs (top 29)) (defBody (top 29)) (defScope (top 29)) [] [] f fd) (g_int : mg "int" = none) : GOk P w K mg base CX0 (k + 1) f fd ["_law_seed", "_law_index"] (spG 2 [] (f__law_hash)) := by
  refine fn_ok (S0 := [2, 2]) F s__law_hash (fun cdv A outer s H E hq hr => ?_)
  have hu : (A.deeper (envOfC "_law_hash" (defScope (top 29)) s.heap.objs.size f cdv)).units + 64 < cLine := by have := hr.un; omega
  have hu' : (A.deeper (envOfC "_law_hash" (defScope (top 29)) s.heap.objs.size f cdv)).units + 65 < cLine := by have := hr.un; omega
  have hN := s__law_hash.nd
  exact ⟨_, (dss_cons (ds_set (i := 2) hN (de_mod (de_intc g_int (dl_cons (de_add (de_add (de_add (de_mul (de_name 0) (de_int)) (de_mul (de_mul (de_int) (de_name 1)) (de_name 1))) (de_mul (de_int) (de_name 1))) (de_int)) dl_nil)) (de_int))) (dss_cons (ds_set (i := 2) hN (de_mod (de_intc g_int (dl_cons (de_add (de_add (de_mul (de_name 2) (de_name 2)) (de_mul (de_int) (de_name 1))) (de_int)) dl_nil)) (de_int))) (dss_one (ds_ret (de_mod (de_intc g_int (dl_cons (de_mul (de_name 2) (de_int)) dl_nil)) (de_int))))))⟩
/-! ### _law_random -/
theorem s__law_random : FnScope ["_law_generator_here", "_law_bound", "_law_drawn", "_law_turn"] ["_law_generator_here", "_law_bound"] (defScope (top 30)) := ⟨rfl, rfl, rfl, by decide +kernel, rfl, by decide +kernel, by decide +kernel⟩
theorem ok__law_random {f : Addr} {fd : FuncData} (F : FunD K "_law_random" "_law_random" (defArgs (top 30)) (defBody (top 30)) (defScope (top 30)) [] [] f fd) (g_int : mg "int" = none) (g_range : mg "range" = none) (k__law_hash : Kn P w K mg base k "_law_hash" 2 [] (f__law_hash)) : GOk P w K mg base CX0 (k + 1) f fd ["_law_generator_here", "_law_bound"] (spG 2 [0] (f__law_random)) := by
  refine fn_ok (S0 := [2, 2, 3, 2]) F s__law_random (fun cdv A outer s H E hq hr => ?_)
  have hu : (A.deeper (envOfC "_law_random" (defScope (top 30)) s.heap.objs.size f cdv)).units + 64 < cLine := by have := hr.un; omega
  have hu' : (A.deeper (envOfC "_law_random" (defScope (top 30)) s.heap.objs.size f cdv)).units + 65 < cLine := by have := hr.un; omega
  have hN := s__law_random.nd
  exact ⟨_, (dss_cons (ds_fgt [2] (ds_if (dt_gt (de_ix (de_name 0) (de_int)) (de_int)) (dss_cons (ds_set (i := 2) hN (de_mod (de_intc g_int (dl_cons (de_ix (de_name 0) (de_int)) dl_nil)) (de_name 1))) (dss_cons (ds_asg (de_fdiv (de_ix (de_name 0) (de_int)) (de_name 1)) (dg_sto (i := 0) (de_int))) (dss_one (ds_ret (de_name 2))))) dss_nil)) (dss_cons (ds_set (i := 2) hN (de_int)) (dss_cons (ds_fgt [3] (ds_for PassesOwn.never (di_rng1 g_range (dl_cons (de_add (de_int) (de_fdiv (de_bits (de_name 1)) (de_int))) dl_nil)) (dg_name hN) (dss_fgt [3] (dss_cons (ds_asg (de_add (de_ix (de_name 0) (de_int)) (de_int)) (dg_sto (i := 0) (de_int))) (dss_one (ds_set (i := 2) hN (de_add (de_mul (de_name 2) (de_int)) (de_call k__law_hash hq hr (dl_cons (de_ix (de_name 0) (de_int)) (dl_cons (de_ix (de_name 0) (de_int)) dl_nil)) (len_cons (len_cons len_nil)))))))))) (dss_one (ds_ret (de_mod (de_intc g_int (dl_cons (de_name 2) dl_nil)) (de_name 1)))))))⟩
/-! ### _law_cell -/
theorem s__law_cell : FnScope ["_law_script", "_law_index"] ["_law_script", "_law_index"] (defScope (top 31)) := ⟨rfl, rfl, rfl, by decide +kernel, rfl, by decide +kernel, by decide +kernel⟩
theorem ok__law_cell {f : Addr} {fd : FuncData} (F : FunD K "_law_cell" "_law_cell" (defArgs (top 31)) (defBody (top 31)) (defScope (top 31)) [] [] f fd) (g_len : mg "len" = none) (g_sum : mg "sum" = none) : GOk P w K mg base CX0 (k + 1) f fd ["_law_script", "_law_index"] (spG 2 [] (f__law_cell K)) := by
  refine fn_ok (S0 := []) F s__law_cell (fun cdv A outer s H E hq hr => ?_)
  have hu : (A.deeper (envOfC "_law_cell" (defScope (top 31)) s.heap.objs.size f cdv)).units + 64 < cLine := by have := hr.un; omega
  have hu' : (A.deeper (envOfC "_law_cell" (defScope (top 31)) s.heap.objs.size f cdv)).units + 65 < cLine := by have := hr.un; omega
  have hN := s__law_cell.nd
  exact ⟨_, (dss_cons (ds_if (dt_lt (de_name 1) (de_lenS g_len (dl_cons (de_name 0) dl_nil))) (dss_one (ds_ret (de_ixS (de_name 0) (de_name 1)))) dss_nil) (dss_one (ds_ret (de_mod (de_sum1S g_sum 0) (de_int)))))⟩
/-! ### _law_generator -/
theorem s__law_generator : FnScope ["_law_script", "_law_index", "_law_seed"] ["_law_script", "_law_index"] (defScope (top 32)) := ⟨rfl, rfl, rfl, by decide +kernel, rfl, by decide +kernel, by decide +kernel⟩
theorem ok__law_generator {f : Addr} {fd : FuncData} (F : FunD K "_law_generator" "_law_generator" (defArgs (top 32)) (defBody (top 32)) (defScope (top 32)) [] [] f fd) (k__law_cell : Kn P w K mg base k "_law_cell" 2 [] (f__law_cell K)) (g_max : mg "max" = none) (g_int : mg "int" = none) : GOk P w K mg base CX0 (k + 1) f fd ["_law_script", "_law_index"] (spG 2 [] (f__law_generator K)) := by
  refine fn_ok (S0 := [2]) F s__law_generator (fun cdv A outer s H E hq hr => ?_)
  have hu : (A.deeper (envOfC "_law_generator" (defScope (top 32)) s.heap.objs.size f cdv)).units + 64 < cLine := by have := hr.un; omega
  have hu' : (A.deeper (envOfC "_law_generator" (defScope (top 32)) s.heap.objs.size f cdv)).units + 65 < cLine := by have := hr.un; omega
  have hN := s__law_generator.nd
  exact ⟨_, (dss_cons (ds_set (i := 2) hN (de_call k__law_cell hq hr (dl_cons (de_name 0) (dl_cons (de_name 1) dl_nil)) (len_cons (len_cons len_nil)))) (dss_one (ds_ret (de_lst (dl_cons (de_mod (de_intc g_int (dl_cons (de_max2 g_max (dl_cons (de_sub (de_name 2) (de_pow (de_int) (de_int))) (dl_cons (de_int) dl_nil))) dl_nil)) (de_pow (de_pow (de_int) (de_int)) (de_int))) (dl_cons (de_mod (de_intc g_int (dl_cons (de_name 2) dl_nil)) (de_int)) (dl_cons (de_mul (de_int) (de_name 1)) dl_nil)))))))⟩
/-! ### _law_order -/
theorem s__law_order : FnScope ["_law_generator_here", "_law_most", "_law_size", "_law_turn", "_law_left", "_law_found", "_law_at", "_law_count"] ["_law_generator_here", "_law_most"] (defScope (top 33)) := ⟨rfl, rfl, rfl, by decide +kernel, rfl, by decide +kernel, by decide +kernel⟩
theorem ok__law_order {f : Addr} {fd : FuncData} (F : FunD K "_law_order" "_law_order" (defArgs (top 33)) (defBody (top 33)) (defScope (top 33)) [] [] f fd) (k__law_random : Kn P w K mg base k "_law_random" 2 [0] (f__law_random)) (g_range : mg "range" = none) (g_list : mg "list" = none) (g_len : mg "len" = none) (g_max : mg "max" = none) : GOk P w K mg base CX0 (k + 1) f fd ["_law_generator_here", "_law_most"] (spG 2 [0] (f__law_order)) := by
  refine fn_ok (S0 := [2, 3, 4, 5, 6]) F s__law_order (fun cdv A outer s H E hq hr => ?_)
  have hu : (A.deeper (envOfC "_law_order" (defScope (top 33)) s.heap.objs.size f cdv)).units + 64 < cLine := by have := hr.un; omega
  have hu' : (A.deeper (envOfC "_law_order" (defScope (top 33)) s.heap.objs.size f cdv)).units + 65 < cLine := by have := hr.un; omega
  have hN := s__law_order.nd
  exact ⟨_, (dss_cons (ds_set (i := 2) hN (de_add (de_int) (de_call k__law_random hq hr (dl_cons (de_name 0) (dl_cons (de_sub (de_name 1) (de_int)) dl_nil)) (len_cons (len_cons len_nil))))) (dss_cons (ds_fgt [3, 4, 5, 6] (ds_for PassesOwn.never (di_rng1 g_range (dl_cons (de_int) dl_nil)) (dg_name hN) (dss_fgt [3, 4, 5, 6] (dss_cons (ds_asg (de_dtup (dl_cons (de_rg1 g_list g_range (de_name 2)) (dl_cons (de_lst dl_nil) dl_nil))) (dg_tup (dgs_cons (dg_name hN) (dgs_cons (dg_name hN) dgs_nil)))) (dss_cons (ds_fgt [4, 6] (ds_for PassesOwn.never (di_rng1 g_range (dl_cons (de_name 2) dl_nil)) (dg_name hN) (dss_fgt [6] (dss_one (ds_expr (de_app 5 (de_popAt 4 (de_call k__law_random hq hr (dl_cons (de_name 0) (dl_cons (de_len g_len (dl_cons (de_name 4) dl_nil)) dl_nil)) (len_cons (len_cons len_nil)))))))))) (dss_one (ds_fgt [5] (ds_if (dt_eq hu (de_comp [("_law_count", 7)] hN (di_rng2 g_range (dl_cons (de_int) (dl_cons (de_name 2) dl_nil))) (by rfl) (fun _ _ _ _ _ => DG.q (dg_name hN)) (fun _ _ _ _ _ => DTs.q (dts_one (dt_lt (de_max g_max (dl_cons (de_slice (de_name 5) do_none (do_some (de_name 7))) dl_nil)) (de_name 7)))) (fun _ _ _ _ _ => DE.q (de_name 7))) (de_lst dl_nil)) (dss_one (ds_ret (de_name 5))) dss_nil)))))))) (dss_one (ds_ret (de_rev (de_rg1 g_list g_range (de_name 2)))))))⟩
/-! ### _law_done -/
theorem s__law_done : FnScope ["_law_order_here", "_law_deed", "_law_last", "_law_below", "_law_place", "_law_upper", "_law_letter", "_law_names"] ["_law_order_here", "_law_deed"] (defScope (top 34)) := ⟨rfl, rfl, rfl, by decide +kernel, rfl, by decide +kernel, by decide +kernel⟩
theorem ok__law_done {f : Addr} {fd : FuncData} (F : FunD K "_law_done" "_law_done" (defArgs (top 34)) (defBody (top 34)) (defScope (top 34)) [] [] f fd) (g_len : mg "len" = none) (g_list : mg "list" = none) (g_range : mg "range" = none) : GOk P w K mg base CX0 (k + 1) f fd ["_law_order_here", "_law_deed"] (spG 2 [] (f__law_done)) := by
  refine fn_ok (S0 := [2, 3, 4, 5, 7]) F s__law_done (fun cdv A outer s H E hq hr => ?_)
  have hu : (A.deeper (envOfC "_law_done" (defScope (top 34)) s.heap.objs.size f cdv)).units + 64 < cLine := by have := hr.un; omega
  have hu' : (A.deeper (envOfC "_law_done" (defScope (top 34)) s.heap.objs.size f cdv)).units + 65 < cLine := by have := hr.un; omega
  have hN := s__law_done.nd
  exact ⟨_, (dss_cons (ds_par (i := 2) (j := 3) hN (dl_cons (de_sub (de_len g_len (dl_cons (de_name 0) dl_nil)) (de_int)) (dl_cons (de_ix (de_name 0) (de_neg (de_int))) dl_nil))) (dss_cons (ds_fgt [4] (ds_if (dt_eq hu (de_name 1) (de_str)) (dss_cons (ds_set (i := 4) hN (de_add (de_index hu' (de_name 0) (de_name 2)) (de_int))) (dss_one (ds_ret (de_tup (dl_cons (de_add (de_add (de_slice (de_name 0) do_none (do_some (de_name 4))) (de_lst (dl_cons (de_name 3) dl_nil))) (de_slice (de_name 0) (do_some (de_name 4)) (do_some (de_neg (de_int))))) (dl_cons (de_rg1 g_list g_range (de_add (de_name 2) (de_int))) dl_nil)))))) dss_nil)) (dss_cons (ds_fgt [3] (ds_set (i := 5) hN (de_add (de_add (de_rg1 g_list g_range (de_add (de_name 3) (de_int))) (de_lst (dl_cons (de_name 2) dl_nil))) (de_rg2 g_list g_range (de_add (de_name 3) (de_int)) (de_name 2))))) (dss_cons (ds_fgt [2, 5] (ds_set (i := 7) hN (de_comp [("_law_letter", 6)] hN (di_rng1 g_range (dl_cons (de_add (de_name 2) (de_int)) dl_nil)) (by rfl) (fun _ _ _ _ _ => DG.q (dg_name hN)) (fun _ _ _ _ _ => DTs.q dts_nil) (fun _ _ _ _ _ => DE.q (de_index hu' (de_name 5) (de_name 6)))))) (dss_one (ds_ret (de_tup (dl_cons (de_comp [("_law_letter", 6)] hN (di_list (de_name 0)) (by rfl) (fun _ _ _ _ _ => DG.q (dg_name hN)) (fun _ _ _ _ _ => DTs.q dts_nil) (fun _ _ _ _ _ => DE.q (de_ix (de_name 7) (de_name 6)))) (dl_cons (de_name 7) dl_nil)))))))))⟩
/-! ### _law_told -/
theorem s__law_told : FnScope ["_law_word", "_law_found", "_law_deed"] ["_law_word"] (defScope (top 35)) := ⟨rfl, rfl, rfl, by decide +kernel, rfl, by decide +kernel, by decide +kernel⟩
theorem ok__law_told {f : Addr} {fd : FuncData} (F : FunD K "_law_told" "_law_told" (defArgs (top 35)) (defBody (top 35)) (defScope (top 35)) [] [] f fd)  : GOk P w K mg base CX0 (k + 1) f fd ["_law_word"] (spG 1 [] (f__law_told)) := by
  refine fn_ok (S0 := [1, 2]) F s__law_told (fun cdv A outer s H E hq hr => ?_)
  have hu : (A.deeper (envOfC "_law_told" (defScope (top 35)) s.heap.objs.size f cdv)).units + 64 < cLine := by have := hr.un; omega
  have hu' : (A.deeper (envOfC "_law_told" (defScope (top 35)) s.heap.objs.size f cdv)).units + 65 < cLine := by have := hr.un; omega
  have hN := s__law_told.nd
  exact ⟨_, (dss_cons (ds_set (i := 1) hN (de_lst dl_nil)) (dss_cons (ds_fgt [2] (ds_for PassesOwn.never (di_str (de_name 0)) (dg_name hN) (dss_fgt [2] (dss_one (ds_fgt [2] (ds_if ((dw_and (dt_ne hu (de_name 1) (de_lst dl_nil)) (dw_and1 (dt_eq hu (de_ix (de_ix (de_name 1) (de_neg (de_int))) (de_int)) (de_name 2)))).dt) (dss_one (ds_fgt [2] (ds_asg (de_tup (dl_cons (de_name 2) (dl_cons (de_add (de_ix (de_ix (de_name 1) (de_neg (de_int))) (de_int)) (de_int)) dl_nil))) (dg_sto (i := 1) (de_neg (de_int)))))) (dss_one (ds_fgt [2] (ds_expr (de_app 1 (de_tup (dl_cons (de_name 2) (dl_cons (de_int) dl_nil))))))))))))) (dss_one (ds_ret (de_name 1)))))⟩
/-! ### _law_take -/
theorem s__law_take : FnScope ["_law_order_here", "_law_lengths_here", "_law_last", "_law_below", "_law_deed", "_law_winner", "_law_loser", "_law_behind", "_law_names", "_law_found", "_law_letter", "_law_length"] ["_law_order_here", "_law_lengths_here"] (defScope (top 36)) := ⟨rfl, rfl, rfl, by decide +kernel, rfl, by decide +kernel, by decide +kernel⟩
theorem ok__law_take {f : Addr} {fd : FuncData} (F : FunD K "_law_take" "_law_take" (defArgs (top 36)) (defBody (top 36)) (defScope (top 36)) [] [] f fd) (g_len : mg "len" = none) (k__law_done : Kn P w K mg base k "_law_done" 2 [] (f__law_done)) (g_enumerate : mg "enumerate" = none) : GOk P w K mg base CX0 (k + 1) f fd ["_law_order_here", "_law_lengths_here"] (spG 2 [] (f__law_take)) := by
  refine fn_ok (S0 := [2, 3, 4, 5, 6, 7, 8, 9, 10, 11]) F s__law_take (fun cdv A outer s H E hq hr => ?_)
  have hu : (A.deeper (envOfC "_law_take" (defScope (top 36)) s.heap.objs.size f cdv)).units + 64 < cLine := by have := hr.un; omega
  have hu' : (A.deeper (envOfC "_law_take" (defScope (top 36)) s.heap.objs.size f cdv)).units + 65 < cLine := by have := hr.un; omega
  have hN := s__law_take.nd
  exact ⟨_, (dss_cons (ds_par (i := 2) (j := 3) hN (dl_cons (de_sub (de_len g_len (dl_cons (de_name 0) dl_nil)) (de_int)) (dl_cons (de_ix (de_name 0) (de_neg (de_int))) dl_nil))) (dss_cons (ds_if (dt_eq hu (de_ix (de_name 1) (de_name 2)) (de_ix (de_name 1) (de_name 3))) (dss_one (ds_ret (de_non))) dss_nil) (dss_cons (ds_set (i := 4) hN (de_if (dt_gt (de_ix (de_name 1) (de_name 2)) (de_ix (de_name 1) (de_name 3))) (de_str) (de_str))) (dss_cons (ds_fgt [2, 3] (ds_asg (de_if (dt_eq hu (de_name 4) (de_str)) (de_tup (dl_cons (de_name 2) (dl_cons (de_name 3) dl_nil))) (de_tup (dl_cons (de_name 3) (dl_cons (de_name 2) dl_nil)))) (dg_tup (dgs_cons (dg_name hN) (dgs_cons (dg_name hN) dgs_nil))))) (dss_cons (ds_asg (de_call k__law_done hq hr (dl_cons (de_name 0) (dl_cons (de_name 4) dl_nil)) (len_cons (len_cons len_nil))) (dg_tup (dgs_cons (dg_name hN) (dgs_cons (dg_name hN) dgs_nil)))) (dss_cons (ds_set (i := 9) hN (de_mul (de_lst (dl_cons (de_int) dl_nil)) (de_len g_len (dl_cons (de_name 0) dl_nil)))) (dss_cons (ds_fgt [5, 6, 8, 10, 11] (ds_for PassesOwn.never (di_enum g_enumerate (dl_cons (de_name 1) dl_nil)) (dg_tup (dgs_cons (dg_name hN) (dgs_cons (dg_name hN) dgs_nil))) (dss_fgt [10, 11] (dss_one (ds_fgt [10, 11] (ds_asg (de_if (dt_eq hu (de_name 10) (de_name 5)) (de_sub (de_name 11) (de_ix (de_name 1) (de_name 6))) (de_name 11)) (dg_sto (i := 9) (de_ix (de_name 8) (de_name 10))))))))) (dss_one (ds_ret (de_tup (dl_cons (de_name 4) (dl_cons (de_name 7) (dl_cons (de_name 9) dl_nil)))))))))))))⟩
/-! ### _law_stand -/
theorem s__law_stand : FnScope ["_law_order_here", "_law_lengths_here", "_law_word", "_law_here", "_law_deed", "_law_low", "_law_high"] ["_law_order_here", "_law_lengths_here"] (defScope (top 37)) := ⟨rfl, rfl, rfl, by decide +kernel, rfl, by decide +kernel, by decide +kernel⟩
theorem ok__law_stand {f : Addr} {fd : FuncData} (F : FunD K "_law_stand" "_law_stand" (defArgs (top 37)) (defBody (top 37)) (defScope (top 37)) [] [] f fd) (g_list : mg "list" = none) (k__law_take : Kn P w K mg base k "_law_take" 2 [] (f__law_take)) : GOk P w K mg base CX0 (k + 1) f fd ["_law_order_here", "_law_lengths_here"] (spG 2 [] (f__law_stand)) := by
  refine fn_ok (S0 := [2, 3, 4, 5, 6, 2, 3]) F s__law_stand (fun cdv A outer s H E hq hr => ?_)
  have hu : (A.deeper (envOfC "_law_stand" (defScope (top 37)) s.heap.objs.size f cdv)).units + 64 < cLine := by have := hr.un; omega
  have hu' : (A.deeper (envOfC "_law_stand" (defScope (top 37)) s.heap.objs.size f cdv)).units + 65 < cLine := by have := hr.un; omega
  have hN := s__law_stand.nd
  exact ⟨_, (dss_cons (ds_par (i := 2) (j := 3) hN (dl_cons (de_str) (dl_cons (de_tup (dl_cons (de_listc g_list (dl_cons (de_name 0) dl_nil)) (dl_cons (de_listc g_list (dl_cons (de_name 1) dl_nil)) dl_nil))) dl_nil))) (dss_cons (ds_fgt [4, 5, 6] (ds_while PassesOwn.never (dt_isnt (de_call k__law_take hq hr (dl_cons (de_ix (de_name 3) (de_int)) (dl_cons (de_ix (de_name 3) (de_int)) dl_nil)) (len_cons (len_cons len_nil))) (de_non)) (dss_fgt [4, 5, 6] (dss_cons (ds_fgt [3] (ds_asg (de_call k__law_take hq hr (dl_cons (de_ix (de_name 3) (de_int)) (dl_cons (de_ix (de_name 3) (de_int)) dl_nil)) (len_cons (len_cons len_nil))) (dg_tup (dgs_cons (dg_name hN) (dgs_cons (dg_name hN) (dgs_cons (dg_name hN) dgs_nil)))))) (dss_one (ds_fgt [4, 5, 6] (ds_par (i := 2) (j := 3) hN (dl_cons (de_add (de_name 2) (de_name 4)) (dl_cons (de_tup (dl_cons (de_name 5) (dl_cons (de_name 6) dl_nil))) dl_nil))))))))) (dss_one (ds_ret (de_tup (dl_cons (de_name 2) (dl_cons (de_ix (de_name 3) (de_int)) (dl_cons (de_ix (de_name 3) (de_int)) dl_nil))))))))⟩
/-! ### _law_lengths -/
theorem s__law_lengths : FnScope ["_law_generator_here", "_law_size", "_law_most", "_law_at"] ["_law_generator_here", "_law_size", "_law_most"] (defScope (top 38)) := ⟨rfl, rfl, rfl, by decide +kernel, rfl, by decide +kernel, by decide +kernel⟩
theorem ok__law_lengths {f : Addr} {fd : FuncData} (F : FunD K "_law_lengths" "_law_lengths" (defArgs (top 38)) (defBody (top 38)) (defScope (top 38)) [] [] f fd) (g_range : mg "range" = none) (k__law_random : Kn P w K mg base k "_law_random" 2 [0] (f__law_random)) : GOk P w K mg base CX0 (k + 1) f fd ["_law_generator_here", "_law_size", "_law_most"] (spG 3 [0] (f__law_lengths)) := by
  refine fn_ok (S0 := []) F s__law_lengths (fun cdv A outer s H E hq hr => ?_)
  have hu : (A.deeper (envOfC "_law_lengths" (defScope (top 38)) s.heap.objs.size f cdv)).units + 64 < cLine := by have := hr.un; omega
  have hu' : (A.deeper (envOfC "_law_lengths" (defScope (top 38)) s.heap.objs.size f cdv)).units + 65 < cLine := by have := hr.un; omega
  have hN := s__law_lengths.nd
  exact ⟨_, (dss_one (ds_ret (de_comp [("_law_at", 3)] hN (di_rng1 g_range (dl_cons (de_name 1) dl_nil)) (by rfl) (fun _ _ _ _ _ => DG.q (dg_name hN)) (fun _ _ _ _ _ => DTs.q dts_nil) (fun _ _ _ _ _ => DE.q (de_add (de_int) (de_call k__law_random hq hr (dl_cons (de_name 0) (dl_cons (de_name 2) dl_nil)) (len_cons (len_cons len_nil))))))))⟩
/-! ### _law_right -/
theorem s__law_right : FnScope ["_law_generator_here", "_law_order_here", "_law_lengths_here", "_law_here", "_law_kept", "_law_turn", "_law_due", "_law_found", "_law_word", "_law_last", "_law_rest", "_law_runs", "_law_end", "_law_given"] ["_law_generator_here"] (defScope (top 39)) := ⟨rfl, rfl, rfl, by decide +kernel, rfl, by decide +kernel, by decide +kernel⟩
theorem ok__law_right {f : Addr} {fd : FuncData} (F : FunD K "_law_right" "_law_right" (defArgs (top 39)) (defBody (top 39)) (defScope (top 39)) [] [] f fd) (k__law_order : Kn P w K mg base k "_law_order" 2 [0] (f__law_order)) (k__law_lengths : Kn P w K mg base k "_law_lengths" 3 [0] (f__law_lengths)) (g_len : mg "len" = none) (g_repr : mg "repr" = none) (g_range : mg "range" = none) (k__law_take : Kn P w K mg base k "_law_take" 2 [] (f__law_take)) (k_taken : Kn P w K mg base k "taken" 2 [] (f_taken)) (kw_taken_lengths_order : KnW P w K mg base k "taken" 2 [] (f_taken) ["lengths", "order"] [1, 0]) (k__law_stand : Kn P w K mg base k "_law_stand" 2 [] (f__law_stand)) (k_runs_of : Kn P w K mg base k "runs_of" 2 [] (f_runs_of)) (k_end_of : Kn P w K mg base k "end_of" 2 [] (f_end_of)) (k__law_told : Kn P w K mg base k "_law_told" 1 [] (f__law_told)) (k_is_runs : Kn P w K mg base k "is_runs" 1 [] (f_is_runs)) (kw_runs_of_lengths_order : KnW P w K mg base k "runs_of" 2 [] (f_runs_of) ["lengths", "order"] [1, 0]) (kw_end_of_lengths_order : KnW P w K mg base k "end_of" 2 [] (f_end_of) ["lengths", "order"] [1, 0]) (g_list : mg "list" = none) : GOk P w K mg base CX0 (k + 1) f fd ["_law_generator_here"] (spG 1 [0] (f__law_right)) := by
  refine fn_ok (S0 := [1, 2, 3, 4, 5, 6, 7, 3, 8, 9, 10, 11, 12, 13]) F s__law_right (fun cdv A outer s H E hq hr => ?_)
  have hu : (A.deeper (envOfC "_law_right" (defScope (top 39)) s.heap.objs.size f cdv)).units + 64 < cLine := by have := hr.un; omega
  have hu' : (A.deeper (envOfC "_law_right" (defScope (top 39)) s.heap.objs.size f cdv)).units + 65 < cLine := by have := hr.un; omega
  have hN := s__law_right.nd
  exact ⟨_, (dss_cons (ds_set (i := 1) hN (de_call k__law_order hq hr (dl_cons (de_name 0) (dl_cons (de_int) dl_nil)) (len_cons (len_cons len_nil)))) (dss_cons (ds_set (i := 2) hN (de_call k__law_lengths hq hr (dl_cons (de_name 0) (dl_cons (de_len g_len (dl_cons (de_name 1) dl_nil)) (dl_cons (de_int) dl_nil))) (len_cons (len_cons (len_cons len_nil))))) (dss_cons (ds_par (i := 3) (j := 4) hN (dl_cons (de_tup (dl_cons (de_name 1) (dl_cons (de_name 2) dl_nil))) (dl_cons (de_repr hq hu g_repr (dl_cons (de_lst (dl_cons (de_name 1) (dl_cons (de_name 2) dl_nil))) dl_nil)) dl_nil))) (dss_cons (ds_fgt [3, 5, 6, 7] (ds_for PassesOwn.never (di_rng1 g_range (dl_cons (de_int) dl_nil)) (dg_name hN) (dss_fgt [5, 6, 7] (dss_cons (ds_par (i := 6) (j := 7) hN (dl_cons (de_call k__law_take hq hr (dl_cons (de_ix (de_name 3) (de_int)) (dl_cons (de_ix (de_name 3) (de_int)) dl_nil)) (len_cons (len_cons len_nil))) (dl_cons (de_call k_taken hq hr (dl_cons (de_ix (de_name 3) (de_int)) (dl_cons (de_ix (de_name 3) (de_int)) dl_nil)) (len_cons (len_cons len_nil))) dl_nil))) (dss_cons (ds_if (dt_obs ((dw_or (dt_ne hu (de_repr hq hu g_repr (dl_cons (de_name 7) dl_nil)) (de_repr hq hu g_repr (dl_cons (de_name 6) dl_nil))) (dw_or1 (dt_ne hu (de_repr hq hu g_repr (dl_cons (de_callK kw_taken_lengths_order hq hr (dk_cons (de_ix (de_name 3) (de_int)) (dk_cons (de_ix (de_name 3) (de_int)) dk_nil))) dl_nil)) (de_repr hq hu g_repr (dl_cons (de_name 6) dl_nil))))).dt)) (dss_one (ds_ret (de_bl))) dss_nil) (dss_one (ds_fgt [6, 7] (ds_if (dt_isnt (de_name 6) (de_non)) (dss_cons (ds_expr (de_app2n 7 1)) (dss_cons (ds_fgt [7] (ds_expr (de_app2n 7 2))) (dss_cons (ds_fgt [3] (ds_if (dt_ne hu (de_call k_taken hq hr (dl_cons (de_ix (de_name 3) (de_int)) (dl_cons (de_ix (de_name 3) (de_int)) dl_nil)) (len_cons (len_cons len_nil))) (de_name 6)) (dss_one (ds_ret (de_bl))) dss_nil)) (dss_one (ds_fgt [6] (ds_set (i := 3) hN (de_tup (dl_cons (de_ix (de_name 6) (de_int)) (dl_cons (de_ix (de_name 6) (de_int)) dl_nil))))))))) dss_nil)))))))) (dss_cons (ds_asg (de_call k__law_stand hq hr (dl_cons (de_name 1) (dl_cons (de_name 2) dl_nil)) (len_cons (len_cons len_nil))) (dg_tup (dgs_cons (dg_name hN) (dgs_cons (dg_name hN) (dgs_cons (dg_name hN) dgs_nil))))) (dss_cons (ds_par (i := 11) (j := 12) hN (dl_cons (de_call k_runs_of hq hr (dl_cons (de_name 1) (dl_cons (de_name 2) dl_nil)) (len_cons (len_cons len_nil))) (dl_cons (de_call k_end_of hq hr (dl_cons (de_name 1) (dl_cons (de_name 2) dl_nil)) (len_cons (len_cons len_nil))) dl_nil))) (dss_cons (ds_if (dt_obs ((dw_or (dt_ne hu (de_repr hq hu g_repr (dl_cons (de_name 11) dl_nil)) (de_repr hq hu g_repr (dl_cons (de_call k__law_told hq hr (dl_cons (de_name 8) dl_nil) (len_cons len_nil)) dl_nil))) (dw_or (dt_ne hu (de_repr hq hu g_repr (dl_cons (de_name 12) dl_nil)) (de_repr hq hu g_repr (dl_cons (de_tup (dl_cons (de_name 9) (dl_cons (de_name 10) dl_nil))) dl_nil))) (dw_or (dt_isnt_b (de_call k_is_runs hq hr (dl_cons (de_name 11) dl_nil) (len_cons len_nil)) (de_bl)) (dw_or1 (dt_isnt (de_call k_taken hq hr (dl_cons (de_name 9) (dl_cons (de_name 10) dl_nil)) (len_cons (len_cons len_nil))) (de_non)))))).dt)) (dss_one (ds_ret (de_bl))) dss_nil) (dss_cons (ds_fgt [11] (ds_expr (de_app 11 (de_non)))) (dss_cons (ds_expr (de_app2n 12 0)) (dss_cons (ds_fgt [12] (ds_expr (de_app2n 12 1))) (dss_cons (ds_fgt [8] (ds_if ((dw_or (dt_ne hu (de_repr hq hu g_repr (dl_cons (de_callK kw_runs_of_lengths_order hq hr (dk_cons (de_name 2) (dk_cons (de_name 1) dk_nil))) dl_nil)) (de_repr hq hu g_repr (dl_cons (de_call k__law_told hq hr (dl_cons (de_name 8) dl_nil) (len_cons len_nil)) dl_nil))) (dw_or1 (dt_ne hu (de_callK kw_end_of_lengths_order hq hr (dk_cons (de_name 2) (dk_cons (de_name 1) dk_nil))) (de_tup (dl_cons (de_name 9) (dl_cons (de_name 10) dl_nil)))))).dt) (dss_one (ds_ret (de_bl))) dss_nil)) (dss_cons (ds_set (i := 13) hN (de_deep (dl_cons (de_listc g_list (dl_cons (de_name 1) dl_nil)) (dl_cons (de_listc g_list (dl_cons (de_name 2) dl_nil)) dl_nil)))) (dss_cons (ds_obs (de_call k_runs_of hq hr (dl_cons (de_ix (de_name 13) (de_int)) (dl_cons (de_ix (de_name 13) (de_int)) dl_nil)) (len_cons (len_cons len_nil)))) (dss_cons (ds_fgt [10] (ds_asg (de_name 10) (dg_all2 13 1))) (dss_one (ds_ret ((de_and (de_eq hu (de_call k_runs_of hq hr (dl_cons (de_name 9) (dl_cons (de_ix (de_name 13) (de_int)) dl_nil)) (len_cons (len_cons len_nil))) (de_lst dl_nil)) (de_one (de_eq hu (de_repr hq hu g_repr (dl_cons (de_lst (dl_cons (de_name 1) (dl_cons (de_name 2) dl_nil))) dl_nil)) (de_name 4)))))))))))))))))))))⟩
/-! ### law -/
theorem s_law : FnScope ["_law_script", "_law_index", "_law_turned"] ["_law_script"] (defScope (top 40)) := ⟨rfl, rfl, rfl, by decide +kernel, rfl, by decide +kernel, by decide +kernel⟩
theorem ok_law {f : Addr} {fd : FuncData} (F : FunD K "law" "law" (defArgs (top 40)) (defBody (top 40)) (defScope (top 40)) [] [] f fd) (g_range : mg "range" = none) (k__law_right : Kn P w K mg base k "_law_right" 1 [0] (f__law_right)) (k__law_generator : Kn P w K mg base k "_law_generator" 2 [] (f__law_generator K)) (k_taken : Kn P w K mg base k "taken" 2 [] (f_taken)) (k_runs_of : Kn P w K mg base k "runs_of" 2 [] (f_runs_of)) : GOk P w K mg base CX0 (k + 1) f fd ["_law_script"] (spG 1 [] (f_law K)) := by
  refine fn_ok (S0 := [1, 2]) F s_law (fun cdv A outer s H E hq hr => ?_)
  have hu : (A.deeper (envOfC "law" (defScope (top 40)) s.heap.objs.size f cdv)).units + 64 < cLine := by have := hr.un; omega
  have hu' : (A.deeper (envOfC "law" (defScope (top 40)) s.heap.objs.size f cdv)).units + 65 < cLine := by have := hr.un; omega
  have hN := s_law.nd
  exact ⟨_, (dss_cons (ds_fgt [1] (ds_for PassesOwn.never (di_rng1 g_range (dl_cons (de_int) dl_nil)) (dg_name hN) (dss_fgt [1] (dss_one (ds_fgt [1] (ds_if (dt_not (dt_val (de_call k__law_right hq hr (dl_cons (de_call k__law_generator hq hr (dl_cons (de_name 0) (dl_cons (de_name 1) dl_nil)) (len_cons (len_cons len_nil))) dl_nil) (len_cons len_nil)))) (dss_one (ds_ret (de_bl))) dss_nil)))))) (dss_cons (ds_set (i := 2) hN (de_lst (dl_cons (de_int) (dl_cons (de_int) (dl_cons (de_int) dl_nil))))) (dss_cons (ds_if ((dw_or (dt_ne hu (de_call k_taken hq hr (dl_cons (de_name 2) (dl_cons (de_lst (dl_cons (de_int) (dl_cons (de_int) (dl_cons (de_int) dl_nil)))) dl_nil)) (len_cons (len_cons len_nil))) (de_tup (dl_cons (de_str) (dl_cons (de_lst (dl_cons (de_int) (dl_cons (de_int) (dl_cons (de_int) dl_nil)))) (dl_cons (de_lst (dl_cons (de_int) (dl_cons (de_int) (dl_cons (de_int) dl_nil)))) dl_nil))))) (dw_or (dt_ne hu (de_call k_taken hq hr (dl_cons (de_name 2) (dl_cons (de_lst (dl_cons (de_int) (dl_cons (de_int) (dl_cons (de_int) dl_nil)))) dl_nil)) (len_cons (len_cons len_nil))) (de_tup (dl_cons (de_str) (dl_cons (de_lst (dl_cons (de_int) (dl_cons (de_int) (dl_cons (de_int) dl_nil)))) (dl_cons (de_lst (dl_cons (de_int) (dl_cons (de_int) (dl_cons (de_int) dl_nil)))) dl_nil))))) (dw_or1 (dt_isnt (de_call k_taken hq hr (dl_cons (de_name 2) (dl_cons (de_lst (dl_cons (de_int) (dl_cons (de_int) (dl_cons (de_int) dl_nil)))) dl_nil)) (len_cons (len_cons len_nil))) (de_non))))).dt) (dss_one (ds_ret (de_bl))) dss_nil) (dss_one (ds_ret ((de_and (de_eq hu (de_call k_runs_of hq hr (dl_cons (de_name 2) (dl_cons (de_lst (dl_cons (de_int) (dl_cons (de_int) (dl_cons (de_int) dl_nil)))) dl_nil)) (len_cons (len_cons len_nil))) (de_lst (dl_cons (de_tup (dl_cons (de_str) (dl_cons (de_int) dl_nil))) dl_nil))) (de_and (de_eq hu (de_call k_runs_of hq hr (dl_cons (de_lst (dl_cons (de_int) (dl_cons (de_int) dl_nil))) (dl_cons (de_lst (dl_cons (de_int) (dl_cons (de_int) dl_nil))) dl_nil)) (len_cons (len_cons len_nil))) (de_lst dl_nil)) (de_one (de_eq hu (de_call k_runs_of hq hr (dl_cons (de_lst (dl_cons (de_int) (dl_cons (de_int) dl_nil))) (dl_cons (de_lst (dl_cons (de_pow (de_int) (de_int)) (dl_cons (de_int) dl_nil))) dl_nil)) (len_cons (len_cons len_nil))) (de_lst (dl_cons (de_tup (dl_cons (de_str) (dl_cons (de_int) dl_nil))) (dl_cons (de_tup (dl_cons (de_str) (dl_cons (de_int) dl_nil))) dl_nil)))))))))))))⟩
end
end Law
set_option Elab.async false
set_option linter.all false
set_option maxRecDepth 100000
set_option maxHeartbeats 0
namespace Law
open PySem PySem.Spec PyProof.Rows L2 FD
abbrev dd (x : Str) (i : Nat) : He.DefD := ⟨(x, none), x, x, defArgs (top i), defBody (top i), defScope (top i), [], []⟩
def fn : List He.DefD := ([dd "_law_hash" 29, dd "_law_random" 30, dd "_law_order" 33, dd "_law_lengths" 38, dd "_law_done" 34, dd "_law_take" 36, dd "is_whole" 6, dd "is_between" 7, dd "is_row" 8, dd "fall_of" 9, dd "is_order_list" 10, dd "check_order" 11, dd "check_lengths" 16, dd "next_deed" 21, dd "ring_losers" 19, dd "named_anew" 12, dd "behind_run" 20, dd "run_taken" 22, dd "taken" 24, dd "_law_stand" 37, dd "all_runs" 23, dd "runs_of" 26, dd "end_of" 27, dd "_law_told" 35, dd "is_deed" 14, dd "is_run_list" 18, dd "is_runs" 25, dd "_law_right" 39, dd "_law_cell" 31, dd "_law_generator" 32] : List He.DefD) ++ ([dd "law" 40] : List He.DefD)
def fa : List He.Fa := ([.glo "_law_hash", .glo "_law_random", .glo "_law_order", .glo "_law_lengths", .glo "_law_done", .glo "_law_take", .glo "is_whole", .glo "is_between", .glo "is_row", .glo "fall_of", .glo "is_order_list", .glo "check_order", .glo "check_lengths", .glo "next_deed", .glo "ring_losers", .glo "named_anew", .glo "behind_run", .glo "run_taken", .glo "taken", .glo "_law_stand", .glo "all_runs", .glo "runs_of", .glo "end_of", .glo "_law_told", .glo "is_deed", .glo "is_run_list", .glo "is_runs", .glo "_law_right", .glo "_law_cell", .glo "_law_generator"] : List He.Fa) ++ ([.glo "law", .free "int", .free "range", .free "list", .free "len", .free "max", .free "enumerate", .free "isinstance", .free "bool", .free "sorted", .free "sum", .free "min", .free "str", .free "tuple", .free "repr", .int "MOST_SIZE" 40] : List He.Fa)
abbrev RR : PySem.W.OpenRow := PySem.W.OpenLaw.row PySem.Challenge.rw_turnlines_k48_deeds_that_lengths_take
abbrev hk : PySem.W.Hook := He.hookD 4 fa fn
def ob (s : PySem.W.SharedT) : He.AlD := He.obsDG 4 fa fn (HandSHeadRun.getT s)
theorem ob_eq (s : PySem.W.SharedT) : ob s = hk.obs s.abs := He.obsDG_eq (HandSHeadRun.getT_eq s)
def loose : List Str := (["TurnError", "InvalidOrder", "InvalidLengths", "MOST_SIZE", "is_whole", "is_between", "is_row", "fall_of", "is_order_list", "check_order", "named_anew", "is_deed", "check_lengths", "is_run_list", "ring_losers", "behind_run", "next_deed", "run_taken", "all_runs", "taken", "is_runs", "runs_of", "end_of", "_law_hash", "_law_random", "_law_cell", "_law_generator", "_law_order", "_law_done", "_law_told"] : List Str) ++ (["_law_take", "_law_stand", "_law_lengths", "_law_right"] : List Str)
theorem run (w : World) : HandSHeadRun.RunEq RR (PySem.W.view RR.prog [40]) hk ob 6000 loose w := by
  intro os
  kernel_rfl
theorem kn_of {P : Program} {w : World} {K : PySem.W.Frag} {mg : Str → Option Value} {base : Heap} {k n : Nat} {x qual : Str} {params : Arguments} {body : List Stmt} {scope : Scope} {kws : List (Str × V)} {f : Addr} {fd : FuncData} {ps : List Str} {io : List Nat} {F : FF}
    (D : FunD K x qual params body scope [] kws f fd) (G : GOk P w K mg base CX0 k f fd ps (spG n io F)) (g : mg x = some (.ref f)) (b : ∀ (kV doc pm : Value) (an : Option Addr) (cdv ct : Value) (us : List Value), us.length = ps.length → bindArgs (W.fnOf x qual params body scope Value.none kV doc pm an cdv ct) { pos := us } = pure (ps.zip us)) :
    Kn P w K mg base k x n io F := ⟨f, fd, ps, G, g, D.kp, D.bindsN b⟩
theorem knw_of {P : Program} {w : World} {K : PySem.W.Frag} {mg : Str → Option Value} {base : Heap} {k n : Nat} {x qual : Str} {params : Arguments} {body : List Stmt} {scope : Scope} {kws : List (Str × V)} {f : Addr} {fd : FuncData} {ps : List Str} {io : List Nat} {F : FF} {ks : List Str} {perm : List Nat}
    (D : FunD K x qual params body scope [] kws f fd) (G : GOk P w K mg base CX0 k f fd ps (spG n io F)) (g : mg x = some (.ref f)) (b : ∀ (kV doc pm : Value) (an : Option Addr) (cdv ct : Value) (ws : List Value), ws.length = perm.length → bindArgs (W.fnOf x qual params body scope Value.none kV doc pm an cdv ct) { pos := [], kw := ks.zip ws } = pure (ps.zip (perm.map fun i => ws.getD i .none))) :
    KnW P w K mg base k x n io F ks perm := ⟨f, fd, ps, G, g, D.kp, fun s ws _ hw hl => by
  obtain ⟨oc, od, dV, kV, doc, pm, an, cdv, ct, osl, e, _, _, hd, _⟩ := D.ex
  have hd' : dV = Value.none := hd.elim (fun z => z.2) fun z => absurd rfl z.1
  subst hd'
  subst e
  intro M A E Q q
  rw [b kV doc pm an cdv ct ws hw]
  exact wpAny_pure q⟩
theorem facts {P : Program} {w : World} {K : PySem.W.Frag} {h : Heap} {mg : Str → Option Value} {f : Addr} (X : K.In h) (G : h.Ns mainGlobals mg) (hfa : mg ("law" : Str) = some (.ref f)) (c : He.SaysD fa fn K) :
    ∃ fd : FuncData, (∀ (s : Shared) (v : Value), BindsTo s fd ⟨[v], []⟩ [("_law_script", v)]) ∧ ∀ base : Heap, K.In base → base.Ns mainGlobals mg → GOk P w K mg base CX0 9 f fd ["_law_script"] (spG 1 [] (f_law K)) := by
  obtain ⟨fd__law_hash, F__law_hash⟩ := c.def_ 0 (d := dd "_law_hash" 29) rfl
  obtain ⟨fd__law_random, F__law_random⟩ := c.def_ 1 (d := dd "_law_random" 30) rfl
  obtain ⟨fd__law_order, F__law_order⟩ := c.def_ 2 (d := dd "_law_order" 33) rfl
  obtain ⟨fd__law_lengths, F__law_lengths⟩ := c.def_ 3 (d := dd "_law_lengths" 38) rfl
  obtain ⟨fd__law_done, F__law_done⟩ := c.def_ 4 (d := dd "_law_done" 34) rfl
  obtain ⟨fd__law_take, F__law_take⟩ := c.def_ 5 (d := dd "_law_take" 36) rfl
  obtain ⟨fd_is_whole, F_is_whole⟩ := c.def_ 6 (d := dd "is_whole" 6) rfl
  obtain ⟨fd_is_between, F_is_between⟩ := c.def_ 7 (d := dd "is_between" 7) rfl
  obtain ⟨fd_is_row, F_is_row⟩ := c.def_ 8 (d := dd "is_row" 8) rfl
  obtain ⟨fd_fall_of, F_fall_of⟩ := c.def_ 9 (d := dd "fall_of" 9) rfl
  obtain ⟨fd_is_order_list, F_is_order_list⟩ := c.def_ 10 (d := dd "is_order_list" 10) rfl
  obtain ⟨fd_check_order, F_check_order⟩ := c.def_ 11 (d := dd "check_order" 11) rfl
  obtain ⟨fd_check_lengths, F_check_lengths⟩ := c.def_ 12 (d := dd "check_lengths" 16) rfl
  obtain ⟨fd_next_deed, F_next_deed⟩ := c.def_ 13 (d := dd "next_deed" 21) rfl
  obtain ⟨fd_ring_losers, F_ring_losers⟩ := c.def_ 14 (d := dd "ring_losers" 19) rfl
  obtain ⟨fd_named_anew, F_named_anew⟩ := c.def_ 15 (d := dd "named_anew" 12) rfl
  obtain ⟨fd_behind_run, F_behind_run⟩ := c.def_ 16 (d := dd "behind_run" 20) rfl
  obtain ⟨fd_run_taken, F_run_taken⟩ := c.def_ 17 (d := dd "run_taken" 22) rfl
  obtain ⟨fd_taken, F_taken⟩ := c.def_ 18 (d := dd "taken" 24) rfl
  obtain ⟨fd__law_stand, F__law_stand⟩ := c.def_ 19 (d := dd "_law_stand" 37) rfl
  obtain ⟨fd_all_runs, F_all_runs⟩ := c.def_ 20 (d := dd "all_runs" 23) rfl
  obtain ⟨fd_runs_of, F_runs_of⟩ := c.def_ 21 (d := dd "runs_of" 26) rfl
  obtain ⟨fd_end_of, F_end_of⟩ := c.def_ 22 (d := dd "end_of" 27) rfl
  obtain ⟨fd__law_told, F__law_told⟩ := c.def_ 23 (d := dd "_law_told" 35) rfl
  obtain ⟨fd_is_deed, F_is_deed⟩ := c.def_ 24 (d := dd "is_deed" 14) rfl
  obtain ⟨fd_is_run_list, F_is_run_list⟩ := c.def_ 25 (d := dd "is_run_list" 18) rfl
  obtain ⟨fd_is_runs, F_is_runs⟩ := c.def_ 26 (d := dd "is_runs" 25) rfl
  obtain ⟨fd__law_right, F__law_right⟩ := c.def_ 27 (d := dd "_law_right" 39) rfl
  obtain ⟨fd__law_cell, F__law_cell⟩ := c.def_ 28 (d := dd "_law_cell" 31) rfl
  obtain ⟨fd__law_generator, F__law_generator⟩ := c.def_ 29 (d := dd "_law_generator" 32) rfl
  obtain ⟨fd_law, F_law⟩ := c.def_ 30 (d := dd "law" 40) rfl
  have m__law_hash := He.glo_ok X G (c.fact 0 (f := .glo "_law_hash") rfl)
  have m__law_random := He.glo_ok X G (c.fact 1 (f := .glo "_law_random") rfl)
  have m__law_order := He.glo_ok X G (c.fact 2 (f := .glo "_law_order") rfl)
  have m__law_lengths := He.glo_ok X G (c.fact 3 (f := .glo "_law_lengths") rfl)
  have m__law_done := He.glo_ok X G (c.fact 4 (f := .glo "_law_done") rfl)
  have m__law_take := He.glo_ok X G (c.fact 5 (f := .glo "_law_take") rfl)
  have m_is_whole := He.glo_ok X G (c.fact 6 (f := .glo "is_whole") rfl)
  have m_is_between := He.glo_ok X G (c.fact 7 (f := .glo "is_between") rfl)
  have m_is_row := He.glo_ok X G (c.fact 8 (f := .glo "is_row") rfl)
  have m_fall_of := He.glo_ok X G (c.fact 9 (f := .glo "fall_of") rfl)
  have m_is_order_list := He.glo_ok X G (c.fact 10 (f := .glo "is_order_list") rfl)
  have m_check_order := He.glo_ok X G (c.fact 11 (f := .glo "check_order") rfl)
  have m_check_lengths := He.glo_ok X G (c.fact 12 (f := .glo "check_lengths") rfl)
  have m_next_deed := He.glo_ok X G (c.fact 13 (f := .glo "next_deed") rfl)
  have m_ring_losers := He.glo_ok X G (c.fact 14 (f := .glo "ring_losers") rfl)
  have m_named_anew := He.glo_ok X G (c.fact 15 (f := .glo "named_anew") rfl)
  have m_behind_run := He.glo_ok X G (c.fact 16 (f := .glo "behind_run") rfl)
  have m_run_taken := He.glo_ok X G (c.fact 17 (f := .glo "run_taken") rfl)
  have m_taken := He.glo_ok X G (c.fact 18 (f := .glo "taken") rfl)
  have m__law_stand := He.glo_ok X G (c.fact 19 (f := .glo "_law_stand") rfl)
  have m_all_runs := He.glo_ok X G (c.fact 20 (f := .glo "all_runs") rfl)
  have m_runs_of := He.glo_ok X G (c.fact 21 (f := .glo "runs_of") rfl)
  have m_end_of := He.glo_ok X G (c.fact 22 (f := .glo "end_of") rfl)
  have m__law_told := He.glo_ok X G (c.fact 23 (f := .glo "_law_told") rfl)
  have m_is_deed := He.glo_ok X G (c.fact 24 (f := .glo "is_deed") rfl)
  have m_is_run_list := He.glo_ok X G (c.fact 25 (f := .glo "is_run_list") rfl)
  have m_is_runs := He.glo_ok X G (c.fact 26 (f := .glo "is_runs") rfl)
  have m__law_right := He.glo_ok X G (c.fact 27 (f := .glo "_law_right") rfl)
  have m__law_cell := He.glo_ok X G (c.fact 28 (f := .glo "_law_cell") rfl)
  have m__law_generator := He.glo_ok X G (c.fact 29 (f := .glo "_law_generator") rfl)
  have m_law := He.glo_ok X G (c.fact 30 (f := .glo "law") rfl)
  have g_int := He.free_ok X G (c.fact 31 (f := .free "int") rfl)
  have g_range := He.free_ok X G (c.fact 32 (f := .free "range") rfl)
  have g_list := He.free_ok X G (c.fact 33 (f := .free "list") rfl)
  have g_len := He.free_ok X G (c.fact 34 (f := .free "len") rfl)
  have g_max := He.free_ok X G (c.fact 35 (f := .free "max") rfl)
  have g_enumerate := He.free_ok X G (c.fact 36 (f := .free "enumerate") rfl)
  have g_isinstance := He.free_ok X G (c.fact 37 (f := .free "isinstance") rfl)
  have g_bool := He.free_ok X G (c.fact 38 (f := .free "bool") rfl)
  have g_sorted := He.free_ok X G (c.fact 39 (f := .free "sorted") rfl)
  have g_sum := He.free_ok X G (c.fact 40 (f := .free "sum") rfl)
  have g_min := He.free_ok X G (c.fact 41 (f := .free "min") rfl)
  have g_str := He.free_ok X G (c.fact 42 (f := .free "str") rfl)
  have g_tuple := He.free_ok X G (c.fact 43 (f := .free "tuple") rfl)
  have g_repr := He.free_ok X G (c.fact 44 (f := .free "repr") rfl)
  have g_MOST_SIZE := He.int_ok X G (c.fact 45 (f := .int "MOST_SIZE" 40) rfl)
  have e := hfa.symm.trans m_law
  cases e
  have b := FunD.bindsA (ps := ["_law_script"]) F_law fun _ _ _ _ _ _ us hl => match us, hl with | [_], _ => rfl
  refine ⟨fd_law, fun s v => b s [v] rfl, fun base KB GB => ?_⟩
  have o__law_hash := ok__law_hash (P := P) (w := w) (K := K) (mg := mg) (base := base) (k := 0) F__law_hash g_int
  have k__law_hash := kn_of F__law_hash o__law_hash m__law_hash (fun _ _ _ _ _ _ us hl => match us, hl with | [_, _], _ => rfl)
  have o__law_random := ok__law_random (P := P) (w := w) (K := K) (mg := mg) (base := base) (k := 1) F__law_random g_int g_range (k__law_hash.mono (by decide))
  have k__law_random := kn_of F__law_random o__law_random m__law_random (fun _ _ _ _ _ _ us hl => match us, hl with | [_, _], _ => rfl)
  have o__law_order := ok__law_order (P := P) (w := w) (K := K) (mg := mg) (base := base) (k := 2) F__law_order (k__law_random.mono (by decide)) g_range g_list g_len g_max
  have k__law_order := kn_of F__law_order o__law_order m__law_order (fun _ _ _ _ _ _ us hl => match us, hl with | [_, _], _ => rfl)
  have o__law_lengths := ok__law_lengths (P := P) (w := w) (K := K) (mg := mg) (base := base) (k := 2) F__law_lengths g_range (k__law_random.mono (by decide))
  have k__law_lengths := kn_of F__law_lengths o__law_lengths m__law_lengths (fun _ _ _ _ _ _ us hl => match us, hl with | [_, _, _], _ => rfl)
  have o__law_done := ok__law_done (P := P) (w := w) (K := K) (mg := mg) (base := base) (k := 0) F__law_done g_len g_list g_range
  have k__law_done := kn_of F__law_done o__law_done m__law_done (fun _ _ _ _ _ _ us hl => match us, hl with | [_, _], _ => rfl)
  have o__law_take := ok__law_take (P := P) (w := w) (K := K) (mg := mg) (base := base) (k := 1) F__law_take g_len (k__law_done.mono (by decide)) g_enumerate
  have k__law_take := kn_of F__law_take o__law_take m__law_take (fun _ _ _ _ _ _ us hl => match us, hl with | [_, _], _ => rfl)
  have o_is_whole := ok_is_whole (P := P) (w := w) (K := K) (mg := mg) (base := base) (k := 0) F_is_whole g_int g_isinstance g_bool
  have k_is_whole := kn_of F_is_whole o_is_whole m_is_whole (fun _ _ _ _ _ _ us hl => match us, hl with | [_], _ => rfl)
  have o_is_between := ok_is_between (P := P) (w := w) (K := K) (mg := mg) (base := base) (k := 1) F_is_between (k_is_whole.mono (by decide))
  have k_is_between := kn_of F_is_between o_is_between m_is_between (fun _ _ _ _ _ _ us hl => match us, hl with | [_, _, _], _ => rfl)
  have o_is_row := ok_is_row (P := P) (w := w) (K := K) (mg := mg) (base := base) (k := 2) F_is_row g_list g_isinstance g_len g_MOST_SIZE (k_is_between.mono (by decide)) g_sorted g_range
  have k_is_row := kn_of F_is_row o_is_row m_is_row (fun _ _ _ _ _ _ us hl => match us, hl with | [_], _ => rfl)
  have o_fall_of := ok_fall_of (P := P) (w := w) (K := K) (mg := mg) (base := base) (k := 0) F_fall_of g_enumerate g_max
  have k_fall_of := kn_of F_fall_of o_fall_of m_fall_of (fun _ _ _ _ _ _ us hl => match us, hl with | [_], _ => rfl)
  have o_is_order_list := ok_is_order_list (P := P) (w := w) (K := K) (mg := mg) (base := base) (k := 3) F_is_order_list (k_is_row.mono (by decide)) (k_fall_of.mono (by decide))
  have k_is_order_list := kn_of F_is_order_list o_is_order_list m_is_order_list (fun _ _ _ _ _ _ us hl => match us, hl with | [_], _ => rfl)
  have o_check_order := ok_check_order (P := P) (w := w) (K := K) (mg := mg) (base := base) (k := 4) F_check_order (k_is_order_list.mono (by decide))
  have k_check_order := kn_of F_check_order o_check_order m_check_order (fun _ _ _ _ _ _ us hl => match us, hl with | [_], _ => rfl)
  have o_check_lengths := ok_check_lengths (P := P) (w := w) (K := K) (mg := mg) (base := base) (k := 5) F_check_lengths (k_check_order.mono (by decide)) g_list g_isinstance g_len (k_is_between.mono (by decide))
  have k_check_lengths := kn_of F_check_lengths o_check_lengths m_check_lengths (fun _ _ _ _ _ _ us hl => match us, hl with | [_, _], _ => rfl)
  have o_next_deed := ok_next_deed (P := P) (w := w) (K := K) (mg := mg) (base := base) (k := 0) F_next_deed
  have k_next_deed := kn_of F_next_deed o_next_deed m_next_deed (fun _ _ _ _ _ _ us hl => match us, hl with | [_, _], _ => rfl)
  have o_ring_losers := ok_ring_losers (P := P) (w := w) (K := K) (mg := mg) (base := base) (k := 0) F_ring_losers g_len g_list g_range
  have k_ring_losers := kn_of F_ring_losers o_ring_losers m_ring_losers (fun _ _ _ _ _ _ us hl => match us, hl with | [_, _], _ => rfl)
  have o_named_anew := ok_named_anew (P := P) (w := w) (K := K) (mg := mg) (base := base) (k := 0) F_named_anew g_enumerate
  have k_named_anew := kn_of F_named_anew o_named_anew m_named_anew (fun _ _ _ _ _ _ us hl => match us, hl with | [_, _], _ => rfl)
  have o_behind_run := ok_behind_run (P := P) (w := w) (K := K) (mg := mg) (base := base) (k := 1) F_behind_run (k_ring_losers.mono (by decide)) g_len g_list g_range (k_named_anew.mono (by decide))
  have k_behind_run := kn_of F_behind_run o_behind_run m_behind_run (fun _ _ _ _ _ _ us hl => match us, hl with | [_, _, _], _ => rfl)
  have o_run_taken := ok_run_taken (P := P) (w := w) (K := K) (mg := mg) (base := base) (k := 2) F_run_taken (k_next_deed.mono (by decide)) (k_ring_losers.mono (by decide)) g_sum g_len g_min (k_behind_run.mono (by decide)) g_enumerate
  have k_run_taken := kn_of F_run_taken o_run_taken m_run_taken (fun _ _ _ _ _ _ us hl => match us, hl with | [_, _, _], _ => rfl)
  have o_taken := ok_taken (P := P) (w := w) (K := K) (mg := mg) (base := base) (k := 6) F_taken (k_check_lengths.mono (by decide)) (k_next_deed.mono (by decide)) (k_run_taken.mono (by decide))
  have k_taken := kn_of F_taken o_taken m_taken (fun _ _ _ _ _ _ us hl => match us, hl with | [_, _], _ => rfl)
  have kw_taken_lengths_order := knw_of (ks := ["lengths", "order"]) (perm := [1, 0]) F_taken o_taken m_taken (fun _ _ _ _ _ _ ws hl => match ws, hl with | [_, _], _ => rfl)
  have o__law_stand := ok__law_stand (P := P) (w := w) (K := K) (mg := mg) (base := base) (k := 2) F__law_stand g_list (k__law_take.mono (by decide))
  have k__law_stand := kn_of F__law_stand o__law_stand m__law_stand (fun _ _ _ _ _ _ us hl => match us, hl with | [_, _], _ => rfl)
  have o_all_runs := ok_all_runs (P := P) (w := w) (K := K) (mg := mg) (base := base) (k := 3) F_all_runs g_list (k_next_deed.mono (by decide)) (k_run_taken.mono (by decide))
  have k_all_runs := kn_of F_all_runs o_all_runs m_all_runs (fun _ _ _ _ _ _ us hl => match us, hl with | [_, _], _ => rfl)
  have o_runs_of := ok_runs_of (P := P) (w := w) (K := K) (mg := mg) (base := base) (k := 6) F_runs_of (k_check_lengths.mono (by decide)) (k_all_runs.mono (by decide))
  have k_runs_of := kn_of F_runs_of o_runs_of m_runs_of (fun _ _ _ _ _ _ us hl => match us, hl with | [_, _], _ => rfl)
  have kw_runs_of_lengths_order := knw_of (ks := ["lengths", "order"]) (perm := [1, 0]) F_runs_of o_runs_of m_runs_of (fun _ _ _ _ _ _ ws hl => match ws, hl with | [_, _], _ => rfl)
  have o_end_of := ok_end_of (P := P) (w := w) (K := K) (mg := mg) (base := base) (k := 6) F_end_of (k_check_lengths.mono (by decide)) (k_all_runs.mono (by decide))
  have k_end_of := kn_of F_end_of o_end_of m_end_of (fun _ _ _ _ _ _ us hl => match us, hl with | [_, _], _ => rfl)
  have kw_end_of_lengths_order := knw_of (ks := ["lengths", "order"]) (perm := [1, 0]) F_end_of o_end_of m_end_of (fun _ _ _ _ _ _ ws hl => match ws, hl with | [_, _], _ => rfl)
  have o__law_told := ok__law_told (P := P) (w := w) (K := K) (mg := mg) (base := base) (k := 0) F__law_told
  have k__law_told := kn_of F__law_told o__law_told m__law_told (fun _ _ _ _ _ _ us hl => match us, hl with | [_], _ => rfl)
  have o_is_deed := ok_is_deed (P := P) (w := w) (K := K) (mg := mg) (base := base) (k := 0) F_is_deed g_str g_isinstance
  have k_is_deed := kn_of F_is_deed o_is_deed m_is_deed (fun _ _ _ _ _ _ us hl => match us, hl with | [_], _ => rfl)
  have o_is_run_list := ok_is_run_list (P := P) (w := w) (K := K) (mg := mg) (base := base) (k := 2) F_is_run_list g_list g_isinstance g_tuple g_len (k_is_deed.mono (by decide)) (k_is_between.mono (by decide))
  have k_is_run_list := kn_of F_is_run_list o_is_run_list m_is_run_list (fun _ _ _ _ _ _ us hl => match us, hl with | [_], _ => rfl)
  have o_is_runs := ok_is_runs (P := P) (w := w) (K := K) (mg := mg) (base := base) (k := 3) F_is_runs (k_is_run_list.mono (by decide))
  have k_is_runs := kn_of F_is_runs o_is_runs m_is_runs (fun _ _ _ _ _ _ us hl => match us, hl with | [_], _ => rfl)
  have o__law_right := ok__law_right (P := P) (w := w) (K := K) (mg := mg) (base := base) (k := 7) F__law_right (k__law_order.mono (by decide)) (k__law_lengths.mono (by decide)) g_len g_repr g_range (k__law_take.mono (by decide)) (k_taken.mono (by decide)) (kw_taken_lengths_order.mono (by decide)) (k__law_stand.mono (by decide)) (k_runs_of.mono (by decide)) (k_end_of.mono (by decide)) (k__law_told.mono (by decide)) (k_is_runs.mono (by decide)) (kw_runs_of_lengths_order.mono (by decide)) (kw_end_of_lengths_order.mono (by decide)) g_list
  have k__law_right := kn_of F__law_right o__law_right m__law_right (fun _ _ _ _ _ _ us hl => match us, hl with | [_], _ => rfl)
  have o__law_cell := ok__law_cell (P := P) (w := w) (K := K) (mg := mg) (base := base) (k := 0) F__law_cell g_len g_sum
  have k__law_cell := kn_of F__law_cell o__law_cell m__law_cell (fun _ _ _ _ _ _ us hl => match us, hl with | [_, _], _ => rfl)
  have o__law_generator := ok__law_generator (P := P) (w := w) (K := K) (mg := mg) (base := base) (k := 1) F__law_generator (k__law_cell.mono (by decide)) g_max g_int
  have k__law_generator := kn_of F__law_generator o__law_generator m__law_generator (fun _ _ _ _ _ _ us hl => match us, hl with | [_, _], _ => rfl)
  have o_law := ok_law (P := P) (w := w) (K := K) (mg := mg) (base := base) (k := 8) F_law g_range (k__law_right.mono (by decide)) (k__law_generator.mono (by decide)) (k_taken.mono (by decide)) (k_runs_of.mono (by decide))
  exact o_law
end Law
open PySem PySem.W PySem.Calls PyProof.Rows
theorem law_end (main : ∀ (K : PySem.W.Frag) (ns : List Int), ns.length ≤ 63 → Law.f_law K [.imm (.scr K ns)] = some (.imm (.bl true), [])) : PySem.Challenge.rw_turnlines_k48_deeds_that_lengths_take.Holds := by
  w_on; o_law
  refine HandSHeadRun.head_any (r := OpenLaw.row PySem.Challenge.rw_turnlines_k48_deeds_that_lengths_take) (q := view (OpenLaw.row PySem.Challenge.rw_turnlines_k48_deeds_that_lengths_take).prog [40]) (H := Law.hk) (ob := Law.ob) (M := 6000) (loose := Law.loose) (d := HandSHeadRun.topDef (OpenLaw.row PySem.Challenge.rw_turnlines_k48_deeds_that_lengths_take).prog 40) (kwd := []) Law.ob_eq
    (by kernel_rfl) (fun s => by kernel_rfl) Law.run (by kernel_rfl) (by kernel_rfl) (by kernel_rfl) (by rfl) (by first | assumption | decide +kernel) (by decide +kernel) ⟨rfl, rfl, rfl, rfl, rfl, by decide +kernel⟩ ?hw ?hc
  case hw => w_witness2
  case hc =>
    refine FD.g_walk (l := PySem.Challenge.rw_turnlines_k48_deeds_that_lengths_take) (n := 63) (k := 9) (x := "_law_script") (CX := L2.CX0) rfl (by decide) (by kernel_rfl) ⟨rfl, by decide, by decide⟩ ?F (fun _ _ _ _ z => z)
    intro w mg fa h Y G hmg0
    obtain ⟨K, KX, c⟩ := Y
    have hmg : mg ("law" : PySem.Str) = some (.ref fa) := by
      have e : (HandSHeadRun.topDef (OpenLaw.row PySem.Challenge.rw_turnlines_k48_deeds_that_lengths_take).prog 40).name = ("law" : PySem.Str) := by kernel_rfl
      rw [← e]
      exact hmg0
    obtain ⟨fd, hb, hF⟩ := Law.facts (P := (PySem.Challenge.rw_turnlines_k48_deeds_that_lengths_take).prog) (w := w) KX G hmg c
    refine ⟨K, fd, _, KX, hb, fun H a ns hl _ hS => ?_, hF⟩
    exact FD.law_says hS (main K ns hl)
set_option linter.all false
set_option maxRecDepth 100000
set_option maxHeartbeats 4000000
namespace Law
open PySem PySem.Spec PyProof.Rows L2 FD
theorem whole_int (i : Int) : f_is_whole [.imm (.int i)] = some (.imm (.bl true), []) := by
  simp [FD.seqF, FD.asgF, FD.ifF, FD.retF, FD.retNF, FD.nxF, FD.nameE, FD.constE, FD.op2, FD.op1, FD.vw, FD.fz, FD.mv, FD.own, FD.addD, FD.subD, FD.mulD, FD.fdivD, FD.modD, FD.powD, FD.intD, FD.callE, FD.vws, FD.consA, FD.nilA, FD.nameG, FD.fnF, FD.outs, FD.M.toD, FD.M.flat, FD.boolT, FD.fgtF, FD.wipeF, FD.callG, FD.argsG, FD.giveG, FD.andV, FD.orV, FD.notV, FD.andT, FD.orT, FD.notT, FD.ifV, FD.lstE, FD.fzs, FD.tupE, FD.mvs, FD.cmpI, FD.isD, FD.isiD, FD.Kd.is, FD.lenP, FD.lstR, FD.bmE, FD.takeR, FD.backF, FD.chainE, FD.exprF, FD.offF, FD.compD, FD.listI, FD.forF, FD.tupG, FD.consG, FD.nilG, FD.partsM, FD.enumI, FD.noneO, FD.someO, FD.sliceE, FD.negD, FD.rg1E, FD.rg2E, FD.cstep, FD.lstep, FD.yesT, FD.nl_len, FD.R.flat, f_is_whole, F_is_whole]
theorem between_in (v lo : Int) (hi : D) (h : lo ≤ v) (hh : hi = .non ∨ ∃ h : Int, hi = .int h ∧ v ≤ h) : f_is_between [.imm (.int v), .imm (.int lo), .imm hi] = some (.imm (.bl true), []) := by
  rcases hh with rfl | ⟨k, rfl, hk⟩
  · simp [FD.seqF, FD.asgF, FD.ifF, FD.retF, FD.retNF, FD.nxF, FD.nameE, FD.constE, FD.op2, FD.op1, FD.vw, FD.fz, FD.mv, FD.own, FD.addD, FD.subD, FD.mulD, FD.fdivD, FD.modD, FD.powD, FD.intD, FD.callE, FD.vws, FD.consA, FD.nilA, FD.nameG, FD.fnF, FD.outs, FD.M.toD, FD.M.flat, FD.boolT, FD.fgtF, FD.wipeF, FD.callG, FD.argsG, FD.giveG, FD.andV, FD.orV, FD.notV, FD.andT, FD.orT, FD.notT, FD.ifV, FD.lstE, FD.fzs, FD.tupE, FD.mvs, FD.cmpI, FD.isD, FD.isiD, FD.Kd.is, FD.lenP, FD.lstR, FD.bmE, FD.takeR, FD.backF, FD.chainE, FD.exprF, FD.offF, FD.compD, FD.listI, FD.forF, FD.tupG, FD.consG, FD.nilG, FD.partsM, FD.enumI, FD.noneO, FD.someO, FD.sliceE, FD.negD, FD.rg1E, FD.rg2E, FD.cstep, FD.lstep, FD.yesT, FD.nl_len, FD.R.flat, f_is_between, F_is_between, whole_int, h]
  · simp [FD.seqF, FD.asgF, FD.ifF, FD.retF, FD.retNF, FD.nxF, FD.nameE, FD.constE, FD.op2, FD.op1, FD.vw, FD.fz, FD.mv, FD.own, FD.addD, FD.subD, FD.mulD, FD.fdivD, FD.modD, FD.powD, FD.intD, FD.callE, FD.vws, FD.consA, FD.nilA, FD.nameG, FD.fnF, FD.outs, FD.M.toD, FD.M.flat, FD.boolT, FD.fgtF, FD.wipeF, FD.callG, FD.argsG, FD.giveG, FD.andV, FD.orV, FD.notV, FD.andT, FD.orT, FD.notT, FD.ifV, FD.lstE, FD.fzs, FD.tupE, FD.mvs, FD.cmpI, FD.isD, FD.isiD, FD.Kd.is, FD.lenP, FD.lstR, FD.bmE, FD.takeR, FD.backF, FD.chainE, FD.exprF, FD.offF, FD.compD, FD.listI, FD.forF, FD.tupG, FD.consG, FD.nilG, FD.partsM, FD.enumI, FD.noneO, FD.someO, FD.sliceE, FD.negD, FD.rg1E, FD.rg2E, FD.cstep, FD.lstep, FD.yesT, FD.nl_len, FD.R.flat, f_is_between, F_is_between, whole_int, h, hk]
theorem row_ok {o : List Nat} (h : TL.Ord o) (h40 : o.length ≤ 40) : f_is_row [.imm (.lst (nl o))] = some (.imm (.bl true), []) := by
  have h2 := h.two
  have c : cloopD [1] (nameG 1) (notT (boolT (callG [] f_is_between (consA (nameE 1) (consA (constE (.int 0)) (consA (op2 subD (callE lenP (consA (nameE 0) nilA)) (constE (.int 1))) nilA)))))) (nameE 1) (nl o) [some (M.imm (D.lst (nl o))), none] = some ([], [some (M.imm (D.lst (nl o))), none]) := by
    refine cloopD_nil fun d hd => ?_
    obtain ⟨n, hn, rfl⟩ := List.mem_map.mp hd
    have hl := h.lt n hn
    have b := between_in n 0 (.int ((o.length : Int) - 1)) (by omega) (.inr ⟨_, rfl, by omega⟩)
    simp [FD.seqF, FD.asgF, FD.ifF, FD.retF, FD.retNF, FD.nxF, FD.nameE, FD.constE, FD.op2, FD.op1, FD.vw, FD.fz, FD.mv, FD.own, FD.addD, FD.subD, FD.mulD, FD.fdivD, FD.modD, FD.powD, FD.intD, FD.callE, FD.vws, FD.consA, FD.nilA, FD.nameG, FD.fnF, FD.outs, FD.M.toD, FD.M.flat, FD.boolT, FD.fgtF, FD.wipeF, FD.callG, FD.argsG, FD.giveG, FD.andV, FD.orV, FD.notV, FD.andT, FD.orT, FD.notT, FD.ifV, FD.lstE, FD.fzs, FD.tupE, FD.mvs, FD.cmpI, FD.isD, FD.isiD, FD.Kd.is, FD.lenP, FD.lstR, FD.bmE, FD.takeR, FD.backF, FD.chainE, FD.exprF, FD.offF, FD.compD, FD.listI, FD.forF, FD.tupG, FD.consG, FD.nilG, FD.partsM, FD.enumI, FD.noneO, FD.someO, FD.sliceE, FD.negD, FD.rg1E, FD.rg2E, FD.cstep, FD.lstep, FD.yesT, FD.nl_len, FD.R.flat, nD, b]
  have hs := sort_nl (xs := o) (by omega)
  rw [sort_row h.toRow] at hs
  have e : neD (.lst []) (.lst []) = some (.imm (.bl false)) := rfl
  simp [FD.seqF, FD.asgF, FD.ifF, FD.retF, FD.retNF, FD.nxF, FD.nameE, FD.constE, FD.op2, FD.op1, FD.vw, FD.fz, FD.mv, FD.own, FD.addD, FD.subD, FD.mulD, FD.fdivD, FD.modD, FD.powD, FD.intD, FD.callE, FD.vws, FD.consA, FD.nilA, FD.nameG, FD.fnF, FD.outs, FD.M.toD, FD.M.flat, FD.boolT, FD.fgtF, FD.wipeF, FD.callG, FD.argsG, FD.giveG, FD.andV, FD.orV, FD.notV, FD.andT, FD.orT, FD.notT, FD.ifV, FD.lstE, FD.fzs, FD.tupE, FD.mvs, FD.cmpI, FD.isD, FD.isiD, FD.Kd.is, FD.lenP, FD.lstR, FD.bmE, FD.takeR, FD.backF, FD.chainE, FD.exprF, FD.offF, FD.compD, FD.listI, FD.forF, FD.tupG, FD.consG, FD.nilG, FD.partsM, FD.enumI, FD.noneO, FD.someO, FD.sliceE, FD.negD, FD.rg1E, FD.rg2E, FD.cstep, FD.lstep, FD.yesT, FD.nl_len, FD.R.flat, f_is_row, F_is_row, h2, h40, c, hs, e, rgOk_nat (n := o.length) (by omega), rgD_nat, eqD_nl, small_of (n := 0) (by omega), small_of (n := o.length) (by omega), (by omega : (2 : Int) ≤ (o.length : Int)), (by omega : (o.length : Int) ≤ 40)]
/-- the greatest of the first letters -/
def most (o : List Nat) : Nat → Int
  | 0 => -1
  | k + 1 => max (most o k) (o.getD k 0 : Nat)
theorem most_ge {o : List Nat} : ∀ {k : Nat} {x : Nat}, x ∈ o.take k → k ≤ o.length → (x : Int) ≤ most o k
  | 0, x, h, _ => by simp [FD.seqF, FD.asgF, FD.ifF, FD.retF, FD.retNF, FD.nxF, FD.nameE, FD.constE, FD.op2, FD.op1, FD.vw, FD.fz, FD.mv, FD.own, FD.addD, FD.subD, FD.mulD, FD.fdivD, FD.modD, FD.powD, FD.intD, FD.callE, FD.vws, FD.consA, FD.nilA, FD.nameG, FD.fnF, FD.outs, FD.M.toD, FD.M.flat, FD.boolT, FD.fgtF, FD.wipeF, FD.callG, FD.argsG, FD.giveG, FD.andV, FD.orV, FD.notV, FD.andT, FD.orT, FD.notT, FD.ifV, FD.lstE, FD.fzs, FD.tupE, FD.mvs, FD.cmpI, FD.isD, FD.isiD, FD.Kd.is, FD.lenP, FD.lstR, FD.bmE, FD.takeR, FD.backF, FD.chainE, FD.exprF, FD.offF, FD.compD, FD.listI, FD.forF, FD.tupG, FD.consG, FD.nilG, FD.partsM, FD.enumI, FD.noneO, FD.someO, FD.sliceE, FD.negD, FD.rg1E, FD.rg2E, FD.cstep, FD.lstep, FD.yesT, FD.nl_len, FD.R.flat] at h
  | k + 1, x, h, hk => by
    have hl : k < o.length := by omega
    rw [List.take_succ_eq_append_getElem hl] at h
    have e : o.getD k 0 = o[k] := by simp [FD.seqF, FD.asgF, FD.ifF, FD.retF, FD.retNF, FD.nxF, FD.nameE, FD.constE, FD.op2, FD.op1, FD.vw, FD.fz, FD.mv, FD.own, FD.addD, FD.subD, FD.mulD, FD.fdivD, FD.modD, FD.powD, FD.intD, FD.callE, FD.vws, FD.consA, FD.nilA, FD.nameG, FD.fnF, FD.outs, FD.M.toD, FD.M.flat, FD.boolT, FD.fgtF, FD.wipeF, FD.callG, FD.argsG, FD.giveG, FD.andV, FD.orV, FD.notV, FD.andT, FD.orT, FD.notT, FD.ifV, FD.lstE, FD.fzs, FD.tupE, FD.mvs, FD.cmpI, FD.isD, FD.isiD, FD.Kd.is, FD.lenP, FD.lstR, FD.bmE, FD.takeR, FD.backF, FD.chainE, FD.exprF, FD.offF, FD.compD, FD.listI, FD.forF, FD.tupG, FD.consG, FD.nilG, FD.partsM, FD.enumI, FD.noneO, FD.someO, FD.sliceE, FD.negD, FD.rg1E, FD.rg2E, FD.cstep, FD.lstep, FD.yesT, FD.nl_len, FD.R.flat, List.getD, hl]
    show _ ≤ max _ _
    rcases List.mem_append.mp h with h | h
    · have := most_ge h (by omega)
      omega
    · have : x = o[k] := by simpa [FD.seqF, FD.asgF, FD.ifF, FD.retF, FD.retNF, FD.nxF, FD.nameE, FD.constE, FD.op2, FD.op1, FD.vw, FD.fz, FD.mv, FD.own, FD.addD, FD.subD, FD.mulD, FD.fdivD, FD.modD, FD.powD, FD.intD, FD.callE, FD.vws, FD.consA, FD.nilA, FD.nameG, FD.fnF, FD.outs, FD.M.toD, FD.M.flat, FD.boolT, FD.fgtF, FD.wipeF, FD.callG, FD.argsG, FD.giveG, FD.andV, FD.orV, FD.notV, FD.andT, FD.orT, FD.notT, FD.ifV, FD.lstE, FD.fzs, FD.tupE, FD.mvs, FD.cmpI, FD.isD, FD.isiD, FD.Kd.is, FD.lenP, FD.lstR, FD.bmE, FD.takeR, FD.backF, FD.chainE, FD.exprF, FD.offF, FD.compD, FD.listI, FD.forF, FD.tupG, FD.consG, FD.nilG, FD.partsM, FD.enumI, FD.noneO, FD.someO, FD.sliceE, FD.negD, FD.rg1E, FD.rg2E, FD.cstep, FD.lstep, FD.yesT, FD.nl_len, FD.R.flat] using h
      rw [e]
      omega
theorem fall_ok {o : List Nat} (h : TL.Ord o) (h40 : o.length ≤ 40) : f_fall_of [.imm (.lst (nl o))] = some (.imm .non, []) := by
  have h2 := h.two
  obtain ⟨ρ', e1, e2⟩ := loopF_inv (G := tupG 2 (consG (nameG 2) (consG (nameG 3) nilG))) (F := fgtF [2, 3] (seqF (fgtF [3] (asgF (callE max2D (consA (nameE 1) (consA (nameE 3) nilA))) (nameG 1))) (fgtF [2] (ifF (boolT (op2 eqD (nameE 1) (nameE 2))) (retF (op2 addD (nameE 2) (constE (.int 1)))) nxF))))
    (fun i ρ => ρ = [some (.imm (.lst (nl o))), some (.imm (.int (most o i))), none, none]) (ds := enumD (nl o.dropLast)) (i := 0) (ρ := [some (.imm (.lst (nl o))), some (.imm (.int (-1))), none, none]) rfl (fun j d ρ hd hI => by
      subst hI
      unfold enumD at hd
      rw [List.getElem?_map, Option.map_eq_some_iff] at hd
      obtain ⟨⟨d', k⟩, hz, rfl⟩ := hd
      rw [List.getElem?_zipIdx, Option.map_eq_some_iff] at hz
      obtain ⟨d2, hz, e⟩ := hz
      cases e
      have hj : j < o.dropLast.length := by
        have := (List.getElem?_eq_some_iff.mp hz).1
        rwa [nl_len] at this
      rw [List.length_dropLast] at hj
      have hv : d' = nD (o.getD j 0) := by
        unfold nl at hz
        rw [List.getElem?_map, List.getElem?_dropLast, if_pos hj, List.getElem?_eq_getElem (by omega)] at hz
        cases hz
        simp [FD.seqF, FD.asgF, FD.ifF, FD.retF, FD.retNF, FD.nxF, FD.nameE, FD.constE, FD.op2, FD.op1, FD.vw, FD.fz, FD.mv, FD.own, FD.addD, FD.subD, FD.mulD, FD.fdivD, FD.modD, FD.powD, FD.intD, FD.callE, FD.vws, FD.consA, FD.nilA, FD.nameG, FD.fnF, FD.outs, FD.M.toD, FD.M.flat, FD.boolT, FD.fgtF, FD.wipeF, FD.callG, FD.argsG, FD.giveG, FD.andV, FD.orV, FD.notV, FD.andT, FD.orT, FD.notT, FD.ifV, FD.lstE, FD.fzs, FD.tupE, FD.mvs, FD.cmpI, FD.isD, FD.isiD, FD.Kd.is, FD.lenP, FD.lstR, FD.bmE, FD.takeR, FD.backF, FD.chainE, FD.exprF, FD.offF, FD.compD, FD.listI, FD.forF, FD.tupG, FD.consG, FD.nilG, FD.partsM, FD.enumI, FD.noneO, FD.someO, FD.sliceE, FD.negD, FD.rg1E, FD.rg2E, FD.cstep, FD.lstep, FD.yesT, FD.nl_len, FD.R.flat, List.getD, (by omega : j < o.length)]
      subst hv
      rw [Nat.zero_add]
      have hm : ¬ max (most o j) (o.getD j 0 : Nat) = (j : Int) := by
        obtain ⟨x, hx, hc⟩ := h.irr (j + 1) (by omega) (by omega)
        have := most_ge hx (by omega)
        have e : most o (j + 1) = max (most o j) (o.getD j 0 : Nat) := rfl
        omega
      refine ⟨[some (.imm (.lst (nl o))), some (.imm (.int (most o (j + 1)))), none, none], .inl ?_, rfl⟩
      have e : most o (j + 1) = max (most o j) (o.getD j 0 : Nat) := rfl
      rw [e]
      revert hm
      generalize o.getD j 0 = v
      intro hm
      by_cases q : (v : Int) > most o j
      · have hv : max (most o j) v = v := by omega
        rw [hv] at hm ⊢
        simp [FD.seqF, FD.asgF, FD.ifF, FD.retF, FD.retNF, FD.nxF, FD.nameE, FD.constE, FD.op2, FD.op1, FD.vw, FD.fz, FD.mv, FD.own, FD.addD, FD.subD, FD.mulD, FD.fdivD, FD.modD, FD.powD, FD.intD, FD.callE, FD.vws, FD.consA, FD.nilA, FD.nameG, FD.fnF, FD.outs, FD.M.toD, FD.M.flat, FD.boolT, FD.fgtF, FD.wipeF, FD.callG, FD.argsG, FD.giveG, FD.andV, FD.orV, FD.notV, FD.andT, FD.orT, FD.notT, FD.ifV, FD.lstE, FD.fzs, FD.tupE, FD.mvs, FD.cmpI, FD.isD, FD.isiD, FD.Kd.is, FD.lenP, FD.lstR, FD.bmE, FD.takeR, FD.backF, FD.chainE, FD.exprF, FD.offF, FD.compD, FD.listI, FD.forF, FD.tupG, FD.consG, FD.nilG, FD.partsM, FD.enumI, FD.noneO, FD.someO, FD.sliceE, FD.negD, FD.rg1E, FD.rg2E, FD.cstep, FD.lstep, FD.yesT, FD.nl_len, FD.R.flat, lstep, nD, max2D, eqD_int, q, hm]
      · have hv : max (most o j) v = most o j := by omega
        rw [hv] at hm ⊢
        simp [FD.seqF, FD.asgF, FD.ifF, FD.retF, FD.retNF, FD.nxF, FD.nameE, FD.constE, FD.op2, FD.op1, FD.vw, FD.fz, FD.mv, FD.own, FD.addD, FD.subD, FD.mulD, FD.fdivD, FD.modD, FD.powD, FD.intD, FD.callE, FD.vws, FD.consA, FD.nilA, FD.nameG, FD.fnF, FD.outs, FD.M.toD, FD.M.flat, FD.boolT, FD.fgtF, FD.wipeF, FD.callG, FD.argsG, FD.giveG, FD.andV, FD.orV, FD.notV, FD.andT, FD.orT, FD.notT, FD.ifV, FD.lstE, FD.fzs, FD.tupE, FD.mvs, FD.cmpI, FD.isD, FD.isiD, FD.Kd.is, FD.lenP, FD.lstR, FD.bmE, FD.takeR, FD.backF, FD.chainE, FD.exprF, FD.offF, FD.compD, FD.listI, FD.forF, FD.tupG, FD.consG, FD.nilG, FD.partsM, FD.enumI, FD.noneO, FD.someO, FD.sliceE, FD.negD, FD.rg1E, FD.rg2E, FD.cstep, FD.lstep, FD.yesT, FD.nl_len, FD.R.flat, lstep, nD, max2D, eqD_int, q, hm])
  subst e2
  simp [FD.seqF, FD.asgF, FD.ifF, FD.retF, FD.retNF, FD.nxF, FD.nameE, FD.constE, FD.op2, FD.op1, FD.vw, FD.fz, FD.mv, FD.own, FD.addD, FD.subD, FD.mulD, FD.fdivD, FD.modD, FD.powD, FD.intD, FD.callE, FD.vws, FD.consA, FD.nilA, FD.nameG, FD.fnF, FD.outs, FD.M.toD, FD.M.flat, FD.boolT, FD.fgtF, FD.wipeF, FD.callG, FD.argsG, FD.giveG, FD.andV, FD.orV, FD.notV, FD.andT, FD.orT, FD.notT, FD.ifV, FD.lstE, FD.fzs, FD.tupE, FD.mvs, FD.cmpI, FD.isD, FD.isiD, FD.Kd.is, FD.lenP, FD.lstR, FD.bmE, FD.takeR, FD.backF, FD.chainE, FD.exprF, FD.offF, FD.compD, FD.listI, FD.forF, FD.tupG, FD.consG, FD.nilG, FD.partsM, FD.enumI, FD.noneO, FD.someO, FD.sliceE, FD.negD, FD.rg1E, FD.rg2E, FD.cstep, FD.lstep, FD.yesT, FD.nl_len, FD.R.flat, f_fall_of, F_fall_of, cut_neg1, nl_dropLast, e1]
theorem order_list_ok {o : List Nat} (h : TL.Ord o) (h40 : o.length ≤ 40) : f_is_order_list [.imm (.lst (nl o))] = some (.imm (.bl true), []) := by
  simp [FD.seqF, FD.asgF, FD.ifF, FD.retF, FD.retNF, FD.nxF, FD.nameE, FD.constE, FD.op2, FD.op1, FD.vw, FD.fz, FD.mv, FD.own, FD.addD, FD.subD, FD.mulD, FD.fdivD, FD.modD, FD.powD, FD.intD, FD.callE, FD.vws, FD.consA, FD.nilA, FD.nameG, FD.fnF, FD.outs, FD.M.toD, FD.M.flat, FD.boolT, FD.fgtF, FD.wipeF, FD.callG, FD.argsG, FD.giveG, FD.andV, FD.orV, FD.notV, FD.andT, FD.orT, FD.notT, FD.ifV, FD.lstE, FD.fzs, FD.tupE, FD.mvs, FD.cmpI, FD.isD, FD.isiD, FD.Kd.is, FD.lenP, FD.lstR, FD.bmE, FD.takeR, FD.backF, FD.chainE, FD.exprF, FD.offF, FD.compD, FD.listI, FD.forF, FD.tupG, FD.consG, FD.nilG, FD.partsM, FD.enumI, FD.noneO, FD.someO, FD.sliceE, FD.negD, FD.rg1E, FD.rg2E, FD.cstep, FD.lstep, FD.yesT, FD.nl_len, FD.R.flat, f_is_order_list, F_is_order_list, row_ok h h40, fall_ok h h40]
theorem check_order_ok {o : List Nat} (h : TL.Ord o) (h40 : o.length ≤ 40) : f_check_order [.imm (.lst (nl o))] = some (.imm .non, []) := by
  simp [FD.seqF, FD.asgF, FD.ifF, FD.retF, FD.retNF, FD.nxF, FD.nameE, FD.constE, FD.op2, FD.op1, FD.vw, FD.fz, FD.mv, FD.own, FD.addD, FD.subD, FD.mulD, FD.fdivD, FD.modD, FD.powD, FD.intD, FD.callE, FD.vws, FD.consA, FD.nilA, FD.nameG, FD.fnF, FD.outs, FD.M.toD, FD.M.flat, FD.boolT, FD.fgtF, FD.wipeF, FD.callG, FD.argsG, FD.giveG, FD.andV, FD.orV, FD.notV, FD.andT, FD.orT, FD.notT, FD.ifV, FD.lstE, FD.fzs, FD.tupE, FD.mvs, FD.cmpI, FD.isD, FD.isiD, FD.Kd.is, FD.lenP, FD.lstR, FD.bmE, FD.takeR, FD.backF, FD.chainE, FD.exprF, FD.offF, FD.compD, FD.listI, FD.forF, FD.tupG, FD.consG, FD.nilG, FD.partsM, FD.enumI, FD.noneO, FD.someO, FD.sliceE, FD.negD, FD.rg1E, FD.rg2E, FD.cstep, FD.lstep, FD.yesT, FD.nl_len, FD.R.flat, f_check_order, F_check_order, order_list_ok h h40]
theorem check_lengths_ok {o L : List Nat} (h : TL.Line o L) (h40 : o.length ≤ 40) : f_check_lengths [.imm (.lst (nl o)), .imm (.lst (nl L))] = some (.imm .non, []) := by
  have hl := h.len
  have c : ∀ ρ0 : Option M, cloopD [2] (nameG 2) (notT (boolT (callG [] f_is_between (consA (nameE 2) (consA (constE (.int 1)) (consA (constE .non) nilA)))))) (nameE 2) (nl L) [ρ0, some (.imm (.lst (nl L))), none] = some ([], [ρ0, some (.imm (.lst (nl L))), none]) := fun ρ0 => by
    refine cloopD_nil fun d hd => ?_
    obtain ⟨n, hn, rfl⟩ := List.mem_map.mp hd
    have hp := h.pos n hn
    have b := between_in n 1 .non (by omega) (.inl rfl)
    simp [FD.seqF, FD.asgF, FD.ifF, FD.retF, FD.retNF, FD.nxF, FD.nameE, FD.constE, FD.op2, FD.op1, FD.vw, FD.fz, FD.mv, FD.own, FD.addD, FD.subD, FD.mulD, FD.fdivD, FD.modD, FD.powD, FD.intD, FD.callE, FD.vws, FD.consA, FD.nilA, FD.nameG, FD.fnF, FD.outs, FD.M.toD, FD.M.flat, FD.boolT, FD.fgtF, FD.wipeF, FD.callG, FD.argsG, FD.giveG, FD.andV, FD.orV, FD.notV, FD.andT, FD.orT, FD.notT, FD.ifV, FD.lstE, FD.fzs, FD.tupE, FD.mvs, FD.cmpI, FD.isD, FD.isiD, FD.Kd.is, FD.lenP, FD.lstR, FD.bmE, FD.takeR, FD.backF, FD.chainE, FD.exprF, FD.offF, FD.compD, FD.listI, FD.forF, FD.tupG, FD.consG, FD.nilG, FD.partsM, FD.enumI, FD.noneO, FD.someO, FD.sliceE, FD.negD, FD.rg1E, FD.rg2E, FD.cstep, FD.lstep, FD.yesT, FD.nl_len, FD.R.flat, nD, b]
  have e : neD (.lst []) (.lst []) = some (.imm (.bl false)) := rfl
  simp [FD.seqF, FD.asgF, FD.ifF, FD.retF, FD.retNF, FD.nxF, FD.nameE, FD.constE, FD.op2, FD.op1, FD.vw, FD.fz, FD.mv, FD.own, FD.addD, FD.subD, FD.mulD, FD.fdivD, FD.modD, FD.powD, FD.intD, FD.callE, FD.vws, FD.consA, FD.nilA, FD.nameG, FD.fnF, FD.outs, FD.M.toD, FD.M.flat, FD.boolT, FD.fgtF, FD.wipeF, FD.callG, FD.argsG, FD.giveG, FD.andV, FD.orV, FD.notV, FD.andT, FD.orT, FD.notT, FD.ifV, FD.lstE, FD.fzs, FD.tupE, FD.mvs, FD.cmpI, FD.isD, FD.isiD, FD.Kd.is, FD.lenP, FD.lstR, FD.bmE, FD.takeR, FD.backF, FD.chainE, FD.exprF, FD.offF, FD.compD, FD.listI, FD.forF, FD.tupG, FD.consG, FD.nilG, FD.partsM, FD.enumI, FD.noneO, FD.someO, FD.sliceE, FD.negD, FD.rg1E, FD.rg2E, FD.cstep, FD.lstep, FD.yesT, FD.nl_len, FD.R.flat, f_check_lengths, F_check_lengths, check_order_ok h.ord h40, hl, c, e, neD_int, small_of (n := 0) (by omega), small_of (n := o.length) (by omega)]
theorem deed_u : f_is_deed [.imm (.str "u")] = some (.imm (.bl true), []) := by
  have : inD false (.str "u") (.lst [.str "u", .str "l"]) = some (.imm (.bl true)) := by
    have : isIn (.str "u") [.str "u", .str "l"] = true := by decide +kernel
    show some (M.imm (.bl (isIn _ _))) = _
    rw [this]
  simp [FD.seqF, FD.asgF, FD.ifF, FD.retF, FD.retNF, FD.nxF, FD.nameE, FD.constE, FD.op2, FD.op1, FD.vw, FD.fz, FD.mv, FD.own, FD.addD, FD.subD, FD.mulD, FD.fdivD, FD.modD, FD.powD, FD.intD, FD.callE, FD.vws, FD.consA, FD.nilA, FD.nameG, FD.fnF, FD.outs, FD.M.toD, FD.M.flat, FD.boolT, FD.fgtF, FD.wipeF, FD.callG, FD.argsG, FD.giveG, FD.andV, FD.orV, FD.notV, FD.andT, FD.orT, FD.notT, FD.ifV, FD.lstE, FD.fzs, FD.tupE, FD.mvs, FD.cmpI, FD.isD, FD.isiD, FD.Kd.is, FD.lenP, FD.lstR, FD.bmE, FD.takeR, FD.backF, FD.chainE, FD.exprF, FD.offF, FD.compD, FD.listI, FD.forF, FD.tupG, FD.consG, FD.nilG, FD.partsM, FD.enumI, FD.noneO, FD.someO, FD.sliceE, FD.negD, FD.rg1E, FD.rg2E, FD.cstep, FD.lstep, FD.yesT, FD.nl_len, FD.R.flat, f_is_deed, F_is_deed, this, small_of (n := 2) (by omega)]
theorem deed_l : f_is_deed [.imm (.str "l")] = some (.imm (.bl true), []) := by
  have : inD false (.str "l") (.lst [.str "u", .str "l"]) = some (.imm (.bl true)) := by
    have : isIn (.str "l") [.str "u", .str "l"] = true := by decide +kernel
    show some (M.imm (.bl (isIn _ _))) = _
    rw [this]
  simp [FD.seqF, FD.asgF, FD.ifF, FD.retF, FD.retNF, FD.nxF, FD.nameE, FD.constE, FD.op2, FD.op1, FD.vw, FD.fz, FD.mv, FD.own, FD.addD, FD.subD, FD.mulD, FD.fdivD, FD.modD, FD.powD, FD.intD, FD.callE, FD.vws, FD.consA, FD.nilA, FD.nameG, FD.fnF, FD.outs, FD.M.toD, FD.M.flat, FD.boolT, FD.fgtF, FD.wipeF, FD.callG, FD.argsG, FD.giveG, FD.andV, FD.orV, FD.notV, FD.andT, FD.orT, FD.notT, FD.ifV, FD.lstE, FD.fzs, FD.tupE, FD.mvs, FD.cmpI, FD.isD, FD.isiD, FD.Kd.is, FD.lenP, FD.lstR, FD.bmE, FD.takeR, FD.backF, FD.chainE, FD.exprF, FD.offF, FD.compD, FD.listI, FD.forF, FD.tupG, FD.consG, FD.nilG, FD.partsM, FD.enumI, FD.noneO, FD.someO, FD.sliceE, FD.negD, FD.rg1E, FD.rg2E, FD.cstep, FD.lstep, FD.yesT, FD.nl_len, FD.R.flat, f_is_deed, F_is_deed, this, small_of (n := 2) (by omega)]
def dS : TL.Deed → Str
  | .u => "u" | .l => "l"
def dDd (d : TL.Deed) : D := .str (dS d)
theorem eq_deed (d e : TL.Deed) : eqD (dDd d) (dDd e) = some (.imm (.bl (decide (d = e)))) := by
  have : eqv (dDd d) (dDd e) = decide (d = e) := by cases d <;> cases e <;> decide +kernel
  show some (M.imm (.bl (eqv _ _))) = _
  rw [this]
end Law
set_option linter.all false
set_option maxRecDepth 100000
set_option maxHeartbeats 4000000
namespace Law
open PySem PySem.Spec PyProof.Rows L2 FD
theorem eq_du : eqD (dDd .u) (.str "u") = some (.imm (.bl true)) := eq_deed .u .u
theorem eq_lu : eqD (dDd .l) (.str "u") = some (.imm (.bl false)) := eq_deed .l .u
theorem losers_u (o : List Nat) : (nl (o.drop (TL.cutU o))).reverse = nl (TL.losers .u o) := nl_reverse _
theorem ring_losers_eq {o : List Nat} (h : TL.Ord o) (h40 : o.length ≤ 40) (d : TL.Deed) : f_ring_losers [.imm (.lst (nl o)), .imm (dDd d)] = some (.imm (.tup [nD (TL.winner d o), .lst (nl (TL.losers d o))]), []) := by
  have h2 := h.two
  have hb := h.last_ne
  have e1 : (o.length : Int) - 1 = ((o.length - 1 : Nat) : Int) := by omega
  have hi := index_nl h.last_mem
  have e2 : ((o.idxOf (o.length - 1) : Nat) : Int) + 1 = (TL.cutU o : Nat) := rfl
  cases d with
  | u =>
    simp [FD.seqF, FD.asgF, FD.ifF, FD.retF, FD.retNF, FD.nxF, FD.nameE, FD.constE, FD.op2, FD.op1, FD.vw, FD.fz, FD.mv, FD.own, FD.addD, FD.subD, FD.mulD, FD.fdivD, FD.modD, FD.powD, FD.intD, FD.callE, FD.vws, FD.consA, FD.nilA, FD.nameG, FD.fnF, FD.outs, FD.M.toD, FD.M.flat, FD.boolT, FD.fgtF, FD.wipeF, FD.callG, FD.argsG, FD.giveG, FD.andV, FD.orV, FD.notV, FD.andT, FD.orT, FD.notT, FD.ifV, FD.lstE, FD.fzs, FD.tupE, FD.mvs, FD.cmpI, FD.isD, FD.isiD, FD.Kd.is, FD.lenP, FD.lstR, FD.bmE, FD.takeR, FD.backF, FD.chainE, FD.exprF, FD.offF, FD.compD, FD.listI, FD.forF, FD.tupG, FD.consG, FD.nilG, FD.partsM, FD.enumI, FD.noneO, FD.someO, FD.sliceE, FD.negD, FD.rg1E, FD.rg2E, FD.cstep, FD.lstep, FD.yesT, FD.nl_len, FD.R.flat, FD.revE, FD.dtupE, FD.movA, FD.rng1I, FD.dcE, FD.dixD, FD.parF, FD.owns, f_ring_losers, F_ring_losers, e1, hi, eq_du, nD, e2, cut_from, nl_drop, nl_reverse, small_of (n := 2) (by omega)]
    exact ⟨rfl, rfl⟩
  | l =>
    have e3 : ((TL.lastL o : Nat) : Int) + 1 = ((TL.lastL o + 1 : Nat) : Int) := rfl
    have e4 : ((o.length - 1 : Nat) : Int) + 1 = ((TL.lastL o + 1 + (o.length - 1 - TL.lastL o) : Nat) : Int) := by omega
    have hr := rgOk_nat2 (a := TL.lastL o + 1) (b := TL.lastL o + 1 + (o.length - 1 - TL.lastL o)) (by omega) (by omega)
    have hg := rgD_nat2 (TL.lastL o + 1) (o.length - 1 - TL.lastL o)
    simp only [f_ring_losers, F_ring_losers]
    simp [FD.seqF, FD.asgF, FD.ifF, FD.retF, FD.retNF, FD.nxF, FD.nameE, FD.constE, FD.op2, FD.op1, FD.vw, FD.fz, FD.mv, FD.own, FD.addD, FD.subD, FD.mulD, FD.fdivD, FD.modD, FD.powD, FD.intD, FD.callE, FD.vws, FD.consA, FD.nilA, FD.nameG, FD.fnF, FD.outs, FD.M.toD, FD.M.flat, FD.boolT, FD.fgtF, FD.wipeF, FD.callG, FD.argsG, FD.giveG, FD.andV, FD.orV, FD.notV, FD.andT, FD.orT, FD.notT, FD.ifV, FD.lstE, FD.fzs, FD.tupE, FD.mvs, FD.cmpI, FD.isD, FD.isiD, FD.Kd.is, FD.lenP, FD.lstR, FD.bmE, FD.takeR, FD.backF, FD.chainE, FD.exprF, FD.offF, FD.compD, FD.listI, FD.forF, FD.tupG, FD.consG, FD.nilG, FD.partsM, FD.enumI, FD.noneO, FD.someO, FD.sliceE, FD.negD, FD.rg1E, FD.rg2E, FD.cstep, FD.lstep, FD.yesT, FD.nl_len, FD.R.flat, FD.revE, FD.dtupE, FD.movA, FD.rng1I, FD.dcE, FD.dixD, FD.parF, FD.owns, e1, eq_lu, ix_last h.ne, nD, small_of (n := 2) (by omega)]
    rw [e3, e4]
    simp only [hr, hg]
    simp [FD.seqF, FD.asgF, FD.ifF, FD.retF, FD.retNF, FD.nxF, FD.nameE, FD.constE, FD.op2, FD.op1, FD.vw, FD.fz, FD.mv, FD.own, FD.addD, FD.subD, FD.mulD, FD.fdivD, FD.modD, FD.powD, FD.intD, FD.callE, FD.vws, FD.consA, FD.nilA, FD.nameG, FD.fnF, FD.outs, FD.M.toD, FD.M.flat, FD.boolT, FD.fgtF, FD.wipeF, FD.callG, FD.argsG, FD.giveG, FD.andV, FD.orV, FD.notV, FD.andT, FD.orT, FD.notT, FD.ifV, FD.lstE, FD.fzs, FD.tupE, FD.mvs, FD.cmpI, FD.isD, FD.isiD, FD.Kd.is, FD.lenP, FD.lstR, FD.bmE, FD.takeR, FD.backF, FD.chainE, FD.exprF, FD.offF, FD.compD, FD.listI, FD.forF, FD.tupG, FD.consG, FD.nilG, FD.partsM, FD.enumI, FD.noneO, FD.someO, FD.sliceE, FD.negD, FD.rg1E, FD.rg2E, FD.cstep, FD.lstep, FD.yesT, FD.nl_len, FD.R.flat, FD.revE, FD.dtupE, FD.movA, FD.rng1I, FD.dcE, FD.dixD, FD.parF, FD.owns, nl_reverse, small_of (n := 2) (by omega)]
    exact ⟨rfl, rfl⟩
theorem next_deed_eq {o L : List Nat} (h : TL.Line o L) (h40 : o.length ≤ 40) : f_next_deed [.imm (.lst (nl o)), .imm (.lst (nl L))] = some (.imm (match TL.nextd o L with | none => .non | some d => dDd d), []) := by
  have hl := h.len
  have h2 := h.ord.two
  have hb := h.ord.last_ne
  have ne : L ≠ [] := fun e => by rw [e] at hl; simp [FD.seqF, FD.asgF, FD.ifF, FD.retF, FD.retNF, FD.nxF, FD.nameE, FD.constE, FD.op2, FD.op1, FD.vw, FD.fz, FD.mv, FD.own, FD.addD, FD.subD, FD.mulD, FD.fdivD, FD.modD, FD.powD, FD.intD, FD.callE, FD.vws, FD.consA, FD.nilA, FD.nameG, FD.fnF, FD.outs, FD.M.toD, FD.M.flat, FD.boolT, FD.fgtF, FD.wipeF, FD.callG, FD.argsG, FD.giveG, FD.andV, FD.orV, FD.notV, FD.andT, FD.orT, FD.notT, FD.ifV, FD.lstE, FD.fzs, FD.tupE, FD.mvs, FD.cmpI, FD.isD, FD.isiD, FD.Kd.is, FD.lenP, FD.lstR, FD.bmE, FD.takeR, FD.backF, FD.chainE, FD.exprF, FD.offF, FD.compD, FD.listI, FD.forF, FD.tupG, FD.consG, FD.nilG, FD.partsM, FD.enumI, FD.noneO, FD.someO, FD.sliceE, FD.negD, FD.rg1E, FD.rg2E, FD.cstep, FD.lstep, FD.yesT, FD.nl_len, FD.R.flat, FD.revE, FD.dtupE, FD.movA, FD.rng1I, FD.dcE, FD.dixD, FD.parF, FD.owns] at hl; omega
  have e1 := ix_last ne
  have e0 : TL.lastL L = L.getD (o.length - 1) 0 := by
    rw [TL.lastL_eq ne, List.getLast_eq_getElem]
    have hl' : o.length - 1 < L.length := by omega
    simp only [hl, List.getD, List.getElem?_eq_getElem hl', Option.getD_some]
  have e2 := ix_last h.ord.ne
  have e3 := ix_nl (xs := L) (i := TL.lastL o) (by omega) (by omega)
  rw [e0] at e1
  simp only [f_next_deed, F_next_deed, TL.nextd]
  generalize L.getD (o.length - 1) 0 = a at *
  generalize L.getD (TL.lastL o) 0 = c at *
  simp [FD.seqF, FD.asgF, FD.ifF, FD.retF, FD.retNF, FD.nxF, FD.nameE, FD.constE, FD.op2, FD.op1, FD.vw, FD.fz, FD.mv, FD.own, FD.addD, FD.subD, FD.mulD, FD.fdivD, FD.modD, FD.powD, FD.intD, FD.callE, FD.vws, FD.consA, FD.nilA, FD.nameG, FD.fnF, FD.outs, FD.M.toD, FD.M.flat, FD.boolT, FD.fgtF, FD.wipeF, FD.callG, FD.argsG, FD.giveG, FD.andV, FD.orV, FD.notV, FD.andT, FD.orT, FD.notT, FD.ifV, FD.lstE, FD.fzs, FD.tupE, FD.mvs, FD.cmpI, FD.isD, FD.isiD, FD.Kd.is, FD.lenP, FD.lstR, FD.bmE, FD.takeR, FD.backF, FD.chainE, FD.exprF, FD.offF, FD.compD, FD.listI, FD.forF, FD.tupG, FD.consG, FD.nilG, FD.partsM, FD.enumI, FD.noneO, FD.someO, FD.sliceE, FD.negD, FD.rg1E, FD.rg2E, FD.cstep, FD.lstep, FD.yesT, FD.nl_len, FD.R.flat, FD.revE, FD.dtupE, FD.movA, FD.rng1I, FD.dcE, FD.dixD, FD.parF, FD.owns, e1, e2, nD]
  rw [e3]
  by_cases q : a = c
  · subst q
    simp [FD.seqF, FD.asgF, FD.ifF, FD.retF, FD.retNF, FD.nxF, FD.nameE, FD.constE, FD.op2, FD.op1, FD.vw, FD.fz, FD.mv, FD.own, FD.addD, FD.subD, FD.mulD, FD.fdivD, FD.modD, FD.powD, FD.intD, FD.callE, FD.vws, FD.consA, FD.nilA, FD.nameG, FD.fnF, FD.outs, FD.M.toD, FD.M.flat, FD.boolT, FD.fgtF, FD.wipeF, FD.callG, FD.argsG, FD.giveG, FD.andV, FD.orV, FD.notV, FD.andT, FD.orT, FD.notT, FD.ifV, FD.lstE, FD.fzs, FD.tupE, FD.mvs, FD.cmpI, FD.isD, FD.isiD, FD.Kd.is, FD.lenP, FD.lstR, FD.bmE, FD.takeR, FD.backF, FD.chainE, FD.exprF, FD.offF, FD.compD, FD.listI, FD.forF, FD.tupG, FD.consG, FD.nilG, FD.partsM, FD.enumI, FD.noneO, FD.someO, FD.sliceE, FD.negD, FD.rg1E, FD.rg2E, FD.cstep, FD.lstep, FD.yesT, FD.nl_len, FD.R.flat, FD.revE, FD.dtupE, FD.movA, FD.rng1I, FD.dcE, FD.dixD, FD.parF, FD.owns, nD, eqD_int]
  · have q' : ¬ ((a : Int) = c) := by omega
    by_cases q2 : c < a
    · have q3 : (c : Int) < a := by omega
      simp [FD.seqF, FD.asgF, FD.ifF, FD.retF, FD.retNF, FD.nxF, FD.nameE, FD.constE, FD.op2, FD.op1, FD.vw, FD.fz, FD.mv, FD.own, FD.addD, FD.subD, FD.mulD, FD.fdivD, FD.modD, FD.powD, FD.intD, FD.callE, FD.vws, FD.consA, FD.nilA, FD.nameG, FD.fnF, FD.outs, FD.M.toD, FD.M.flat, FD.boolT, FD.fgtF, FD.wipeF, FD.callG, FD.argsG, FD.giveG, FD.andV, FD.orV, FD.notV, FD.andT, FD.orT, FD.notT, FD.ifV, FD.lstE, FD.fzs, FD.tupE, FD.mvs, FD.cmpI, FD.isD, FD.isiD, FD.Kd.is, FD.lenP, FD.lstR, FD.bmE, FD.takeR, FD.backF, FD.chainE, FD.exprF, FD.offF, FD.compD, FD.listI, FD.forF, FD.tupG, FD.consG, FD.nilG, FD.partsM, FD.enumI, FD.noneO, FD.someO, FD.sliceE, FD.negD, FD.rg1E, FD.rg2E, FD.cstep, FD.lstep, FD.yesT, FD.nl_len, FD.R.flat, FD.revE, FD.dtupE, FD.movA, FD.rng1I, FD.dcE, FD.dixD, FD.parF, FD.owns, nD, eqD_int, q, q', q2, q3]
      rfl
    · have q3 : ¬ (c : Int) < a := by omega
      simp [FD.seqF, FD.asgF, FD.ifF, FD.retF, FD.retNF, FD.nxF, FD.nameE, FD.constE, FD.op2, FD.op1, FD.vw, FD.fz, FD.mv, FD.own, FD.addD, FD.subD, FD.mulD, FD.fdivD, FD.modD, FD.powD, FD.intD, FD.callE, FD.vws, FD.consA, FD.nilA, FD.nameG, FD.fnF, FD.outs, FD.M.toD, FD.M.flat, FD.boolT, FD.fgtF, FD.wipeF, FD.callG, FD.argsG, FD.giveG, FD.andV, FD.orV, FD.notV, FD.andT, FD.orT, FD.notT, FD.ifV, FD.lstE, FD.fzs, FD.tupE, FD.mvs, FD.cmpI, FD.isD, FD.isiD, FD.Kd.is, FD.lenP, FD.lstR, FD.bmE, FD.takeR, FD.backF, FD.chainE, FD.exprF, FD.offF, FD.compD, FD.listI, FD.forF, FD.tupG, FD.consG, FD.nilG, FD.partsM, FD.enumI, FD.noneO, FD.someO, FD.sliceE, FD.negD, FD.rg1E, FD.rg2E, FD.cstep, FD.lstep, FD.yesT, FD.nl_len, FD.R.flat, FD.revE, FD.dtupE, FD.movA, FD.rng1I, FD.dcE, FD.dixD, FD.parF, FD.owns, nD, eqD_int, q, q', q2, q3]
      rfl
/-- places by letters: a dict -/
theorem dict_enum (ρ0 ρ1 : Option M) : ∀ (U : List Nat) (k : Nat) (ks : List Key) (vs : List D), (∀ x ∈ U, hasK ks (.inl (x : Int)) = false) → U.Nodup →
    dcl [2, 3] (tupG 2 (consG (nameG 2) (consG (nameG 3) nilG))) yesT (nameE 3) (nameE 2) (((nl U).zipIdx k).map fun p => .tup [.int (p.2 : Nat), p.1]) ks vs [ρ0, ρ1, none, none, none] =
      some ((ks ++ U.map (fun x : Nat => (.inl (x : Int) : Key)), vs ++ (List.range' k U.length).map nD), [ρ0, ρ1, none, none, none])
  | [], k, ks, vs, _, _ => by simp [FD.seqF, FD.asgF, FD.ifF, FD.retF, FD.retNF, FD.nxF, FD.nameE, FD.constE, FD.op2, FD.op1, FD.vw, FD.fz, FD.mv, FD.own, FD.addD, FD.subD, FD.mulD, FD.fdivD, FD.modD, FD.powD, FD.intD, FD.callE, FD.vws, FD.consA, FD.nilA, FD.nameG, FD.fnF, FD.outs, FD.M.toD, FD.M.flat, FD.boolT, FD.fgtF, FD.wipeF, FD.callG, FD.argsG, FD.giveG, FD.andV, FD.orV, FD.notV, FD.andT, FD.orT, FD.notT, FD.ifV, FD.lstE, FD.fzs, FD.tupE, FD.mvs, FD.cmpI, FD.isD, FD.isiD, FD.Kd.is, FD.lenP, FD.lstR, FD.bmE, FD.takeR, FD.backF, FD.chainE, FD.exprF, FD.offF, FD.compD, FD.listI, FD.forF, FD.tupG, FD.consG, FD.nilG, FD.partsM, FD.enumI, FD.noneO, FD.someO, FD.sliceE, FD.negD, FD.rg1E, FD.rg2E, FD.cstep, FD.lstep, FD.yesT, FD.nl_len, FD.R.flat, FD.revE, FD.dtupE, FD.movA, FD.rng1I, FD.dcE, FD.dixD, FD.parF, FD.owns, nl, dcl]
  | x :: U, k, ks, vs, h, nd => by
    have nd' := List.nodup_cons.mp nd
    have hx := h x (List.mem_cons_self ..)
    have ih := dict_enum ρ0 ρ1 U (k + 1) (ks ++ [.inl (x : Int)]) (vs ++ [nD k]) (fun y hy => by
      unfold hasK
      rw [List.any_append]
      have h1 : ks.any (fun a => decide (a = .inl (y : Int))) = false := h y (List.mem_cons_of_mem _ hy)
      rw [h1]
      have : ¬ (Sum.inl (x : Int) : Key) = .inl (y : Int) := fun e => by
        have := Sum.inl.inj e
        have e2 : x = y := by omega
        rw [e2] at nd'
        exact nd'.1 hy
      simp [FD.seqF, FD.asgF, FD.ifF, FD.retF, FD.retNF, FD.nxF, FD.nameE, FD.constE, FD.op2, FD.op1, FD.vw, FD.fz, FD.mv, FD.own, FD.addD, FD.subD, FD.mulD, FD.fdivD, FD.modD, FD.powD, FD.intD, FD.callE, FD.vws, FD.consA, FD.nilA, FD.nameG, FD.fnF, FD.outs, FD.M.toD, FD.M.flat, FD.boolT, FD.fgtF, FD.wipeF, FD.callG, FD.argsG, FD.giveG, FD.andV, FD.orV, FD.notV, FD.andT, FD.orT, FD.notT, FD.ifV, FD.lstE, FD.fzs, FD.tupE, FD.mvs, FD.cmpI, FD.isD, FD.isiD, FD.Kd.is, FD.lenP, FD.lstR, FD.bmE, FD.takeR, FD.backF, FD.chainE, FD.exprF, FD.offF, FD.compD, FD.listI, FD.forF, FD.tupG, FD.consG, FD.nilG, FD.partsM, FD.enumI, FD.noneO, FD.someO, FD.sliceE, FD.negD, FD.rg1E, FD.rg2E, FD.cstep, FD.lstep, FD.yesT, FD.nl_len, FD.R.flat, FD.revE, FD.dtupE, FD.movA, FD.rng1I, FD.dcE, FD.dixD, FD.parF, FD.owns, this]) nd'.2
    have e1 : putKs ks (.inl (x : Int)) = ks ++ [.inl (x : Int)] := by unfold putKs; rw [hx]; rfl
    have e2 : putVs ks vs (.inl (x : Int)) (nD k) = vs ++ [nD k] := by unfold putVs; rw [hx]; rfl
    have e3 : nl (x :: U) = nD x :: nl U := rfl
    rw [e3, List.zipIdx_cons, List.map_cons]
    unfold dcl
    simp [FD.seqF, FD.asgF, FD.ifF, FD.retF, FD.retNF, FD.nxF, FD.nameE, FD.constE, FD.op2, FD.op1, FD.vw, FD.fz, FD.mv, FD.own, FD.addD, FD.subD, FD.mulD, FD.fdivD, FD.modD, FD.powD, FD.intD, FD.callE, FD.vws, FD.consA, FD.nilA, FD.nameG, FD.fnF, FD.outs, FD.M.toD, FD.M.flat, FD.boolT, FD.fgtF, FD.wipeF, FD.callG, FD.argsG, FD.giveG, FD.andV, FD.orV, FD.notV, FD.andT, FD.orT, FD.notT, FD.ifV, FD.lstE, FD.fzs, FD.tupE, FD.mvs, FD.cmpI, FD.isD, FD.isiD, FD.Kd.is, FD.lenP, FD.lstR, FD.bmE, FD.takeR, FD.backF, FD.chainE, FD.exprF, FD.offF, FD.compD, FD.listI, FD.forF, FD.tupG, FD.consG, FD.nilG, FD.partsM, FD.enumI, FD.noneO, FD.someO, FD.sliceE, FD.negD, FD.rg1E, FD.rg2E, FD.cstep, FD.lstep, FD.yesT, FD.nl_len, FD.R.flat, FD.revE, FD.dtupE, FD.movA, FD.rng1I, FD.dcE, FD.dixD, FD.parF, FD.owns, frzA, nD, key1]
    have e2' : putVs ks vs (.inl (x : Int)) (.int (k : Int)) = vs ++ [nD k] := e2
    rw [e1, e2']
    rw [ih, List.range'_succ]
    simp [FD.seqF, FD.asgF, FD.ifF, FD.retF, FD.retNF, FD.nxF, FD.nameE, FD.constE, FD.op2, FD.op1, FD.vw, FD.fz, FD.mv, FD.own, FD.addD, FD.subD, FD.mulD, FD.fdivD, FD.modD, FD.powD, FD.intD, FD.callE, FD.vws, FD.consA, FD.nilA, FD.nameG, FD.fnF, FD.outs, FD.M.toD, FD.M.flat, FD.boolT, FD.fgtF, FD.wipeF, FD.callG, FD.argsG, FD.giveG, FD.andV, FD.orV, FD.notV, FD.andT, FD.orT, FD.notT, FD.ifV, FD.lstE, FD.fzs, FD.tupE, FD.mvs, FD.cmpI, FD.isD, FD.isiD, FD.Kd.is, FD.lenP, FD.lstR, FD.bmE, FD.takeR, FD.backF, FD.chainE, FD.exprF, FD.offF, FD.compD, FD.listI, FD.forF, FD.tupG, FD.consG, FD.nilG, FD.partsM, FD.enumI, FD.noneO, FD.someO, FD.sliceE, FD.negD, FD.rg1E, FD.rg2E, FD.cstep, FD.lstep, FD.yesT, FD.nl_len, FD.R.flat, FD.revE, FD.dtupE, FD.movA, FD.rng1I, FD.dcE, FD.dixD, FD.parF, FD.owns]
theorem look_idx {x : Nat} : ∀ (U : List Nat) (k : Nat), x ∈ U → lookD (.inl (x : Int)) (U.map (fun x : Nat => (.inl (x : Int) : Key))) ((List.range' k U.length).map nD) = some (nD (k + U.idxOf x))
  | y :: U, k, h => by
    rw [List.length_cons, List.range'_succ, List.map_cons, List.map_cons]
    unfold lookD
    rw [List.idxOf_cons]
    by_cases q : y = x
    · subst q; simp [FD.seqF, FD.asgF, FD.ifF, FD.retF, FD.retNF, FD.nxF, FD.nameE, FD.constE, FD.op2, FD.op1, FD.vw, FD.fz, FD.mv, FD.own, FD.addD, FD.subD, FD.mulD, FD.fdivD, FD.modD, FD.powD, FD.intD, FD.callE, FD.vws, FD.consA, FD.nilA, FD.nameG, FD.fnF, FD.outs, FD.M.toD, FD.M.flat, FD.boolT, FD.fgtF, FD.wipeF, FD.callG, FD.argsG, FD.giveG, FD.andV, FD.orV, FD.notV, FD.andT, FD.orT, FD.notT, FD.ifV, FD.lstE, FD.fzs, FD.tupE, FD.mvs, FD.cmpI, FD.isD, FD.isiD, FD.Kd.is, FD.lenP, FD.lstR, FD.bmE, FD.takeR, FD.backF, FD.chainE, FD.exprF, FD.offF, FD.compD, FD.listI, FD.forF, FD.tupG, FD.consG, FD.nilG, FD.partsM, FD.enumI, FD.noneO, FD.someO, FD.sliceE, FD.negD, FD.rg1E, FD.rg2E, FD.cstep, FD.lstep, FD.yesT, FD.nl_len, FD.R.flat, FD.revE, FD.dtupE, FD.movA, FD.rng1I, FD.dcE, FD.dixD, FD.parF, FD.owns]
    · have hx : x ∈ U := by
        rcases List.mem_cons.mp h with z | z
        · exact absurd z.symm q
        · exact z
      have e2 : (y == x) = false := by simpa [FD.seqF, FD.asgF, FD.ifF, FD.retF, FD.retNF, FD.nxF, FD.nameE, FD.constE, FD.op2, FD.op1, FD.vw, FD.fz, FD.mv, FD.own, FD.addD, FD.subD, FD.mulD, FD.fdivD, FD.modD, FD.powD, FD.intD, FD.callE, FD.vws, FD.consA, FD.nilA, FD.nameG, FD.fnF, FD.outs, FD.M.toD, FD.M.flat, FD.boolT, FD.fgtF, FD.wipeF, FD.callG, FD.argsG, FD.giveG, FD.andV, FD.orV, FD.notV, FD.andT, FD.orT, FD.notT, FD.ifV, FD.lstE, FD.fzs, FD.tupE, FD.mvs, FD.cmpI, FD.isD, FD.isiD, FD.Kd.is, FD.lenP, FD.lstR, FD.bmE, FD.takeR, FD.backF, FD.chainE, FD.exprF, FD.offF, FD.compD, FD.listI, FD.forF, FD.tupG, FD.consG, FD.nilG, FD.partsM, FD.enumI, FD.noneO, FD.someO, FD.sliceE, FD.negD, FD.rg1E, FD.rg2E, FD.cstep, FD.lstep, FD.yesT, FD.nl_len, FD.R.flat, FD.revE, FD.dtupE, FD.movA, FD.rng1I, FD.dcE, FD.dixD, FD.parF, FD.owns] using q
      have e3 : ¬ (Sum.inl (y : Int) : Key) = .inl (x : Int) := fun e => q (by have := Sum.inl.inj e; omega)
      have ih := look_idx U (k + 1) hx
      rw [e2]
      simp [FD.seqF, FD.asgF, FD.ifF, FD.retF, FD.retNF, FD.nxF, FD.nameE, FD.constE, FD.op2, FD.op1, FD.vw, FD.fz, FD.mv, FD.own, FD.addD, FD.subD, FD.mulD, FD.fdivD, FD.modD, FD.powD, FD.intD, FD.callE, FD.vws, FD.consA, FD.nilA, FD.nameG, FD.fnF, FD.outs, FD.M.toD, FD.M.flat, FD.boolT, FD.fgtF, FD.wipeF, FD.callG, FD.argsG, FD.giveG, FD.andV, FD.orV, FD.notV, FD.andT, FD.orT, FD.notT, FD.ifV, FD.lstE, FD.fzs, FD.tupE, FD.mvs, FD.cmpI, FD.isD, FD.isiD, FD.Kd.is, FD.lenP, FD.lstR, FD.bmE, FD.takeR, FD.backF, FD.chainE, FD.exprF, FD.offF, FD.compD, FD.listI, FD.forF, FD.tupG, FD.consG, FD.nilG, FD.partsM, FD.enumI, FD.noneO, FD.someO, FD.sliceE, FD.negD, FD.rg1E, FD.rg2E, FD.cstep, FD.lstep, FD.yesT, FD.nl_len, FD.R.flat, FD.revE, FD.dtupE, FD.movA, FD.rng1I, FD.dcE, FD.dixD, FD.parF, FD.owns, e3, ih]
      unfold nD
      congr 1
      omega
theorem named_anew_eq {U o : List Nat} (nd : U.Nodup) (h : ∀ x ∈ o, x ∈ U) (h1 : U.length ≤ 1000) (h2 : o.length ≤ 1000) : f_named_anew [.imm (.lst (nl U)), .imm (.lst (nl o))] = some (.lst (nl (o.map fun x => U.idxOf x)), []) := by
  have e := dict_enum (some (.imm (.lst (nl U)))) (some (.imm (.lst (nl o)))) U 0 [] [] (fun _ _ => rfl) nd
  have c : ∀ ρ0 ρ1 : Option M, cloopD [3] (nameG 3) yesT (op2 dixD (nameE 4) (nameE 3)) (nl o) [ρ0, ρ1, none, none, some (.dK (U.map (fun x : Nat => (.inl (x : Int) : Key))) ((List.range' 0 U.length).map nD))] =
      some ((nl o).map (fun d => match d with | .int i => nD (U.idxOf i.toNat) | _ => .non), [ρ0, ρ1, none, none, some (.dK (U.map (fun x : Nat => (.inl (x : Int) : Key))) ((List.range' 0 U.length).map nD))]) := fun ρ0 ρ1 => by
    refine cloopD_map _ fun d hd => ?_
    obtain ⟨n, hn, rfl⟩ := List.mem_map.mp hd
    have hk : lookD (Sum.inl (n : Int) : Key) (U.map (fun x : Nat => (.inl (x : Int) : Key))) ((List.range' 0 U.length).map nD) = some (nD (0 + U.idxOf n)) := look_idx U 0 (h n hn)
    rw [Nat.zero_add] at hk
    have hdx : dixD (.dK (U.map (fun x : Nat => (.inl (x : Int) : Key))) ((List.range' 0 U.length).map nD)) (.int (n : Int)) = some (.imm (nD (U.idxOf n))) := by
      show (match (match keyD (.int (n : Int)) with | some (.inl k) => some (lookD k _ _) | _ => none) with | some (some v) => some (M.imm v) | _ => none) = _
      show (match some (lookD (Sum.inl (n : Int) : Key) _ _) with | some (some v) => some (M.imm v) | _ => none) = _
      rw [hk]
    simp [FD.seqF, FD.asgF, FD.ifF, FD.retF, FD.retNF, FD.nxF, FD.nameE, FD.constE, FD.op2, FD.op1, FD.vw, FD.fz, FD.mv, FD.own, FD.addD, FD.subD, FD.mulD, FD.fdivD, FD.modD, FD.powD, FD.intD, FD.callE, FD.vws, FD.consA, FD.nilA, FD.nameG, FD.fnF, FD.outs, FD.M.toD, FD.M.flat, FD.boolT, FD.fgtF, FD.wipeF, FD.callG, FD.argsG, FD.giveG, FD.andV, FD.orV, FD.notV, FD.andT, FD.orT, FD.notT, FD.ifV, FD.lstE, FD.fzs, FD.tupE, FD.mvs, FD.cmpI, FD.isD, FD.isiD, FD.Kd.is, FD.lenP, FD.lstR, FD.bmE, FD.takeR, FD.backF, FD.chainE, FD.exprF, FD.offF, FD.compD, FD.listI, FD.forF, FD.tupG, FD.consG, FD.nilG, FD.partsM, FD.enumI, FD.noneO, FD.someO, FD.sliceE, FD.negD, FD.rg1E, FD.rg2E, FD.cstep, FD.lstep, FD.yesT, FD.nl_len, FD.R.flat, FD.revE, FD.dtupE, FD.movA, FD.rng1I, FD.dcE, FD.dixD, FD.parF, FD.owns, nD] at hdx ⊢
    simp [FD.seqF, FD.asgF, FD.ifF, FD.retF, FD.retNF, FD.nxF, FD.nameE, FD.constE, FD.op2, FD.op1, FD.vw, FD.fz, FD.mv, FD.own, FD.addD, FD.subD, FD.mulD, FD.fdivD, FD.modD, FD.powD, FD.intD, FD.callE, FD.vws, FD.consA, FD.nilA, FD.nameG, FD.fnF, FD.outs, FD.M.toD, FD.M.flat, FD.boolT, FD.fgtF, FD.wipeF, FD.callG, FD.argsG, FD.giveG, FD.andV, FD.orV, FD.notV, FD.andT, FD.orT, FD.notT, FD.ifV, FD.lstE, FD.fzs, FD.tupE, FD.mvs, FD.cmpI, FD.isD, FD.isiD, FD.Kd.is, FD.lenP, FD.lstR, FD.bmE, FD.takeR, FD.backF, FD.chainE, FD.exprF, FD.offF, FD.compD, FD.listI, FD.forF, FD.tupG, FD.consG, FD.nilG, FD.partsM, FD.enumI, FD.noneO, FD.someO, FD.sliceE, FD.negD, FD.rg1E, FD.rg2E, FD.cstep, FD.lstep, FD.yesT, FD.nl_len, FD.R.flat, FD.revE, FD.dtupE, FD.movA, FD.rng1I, FD.dcE, FD.dixD, FD.parF, FD.owns, hdx]
  have c2 : (nl o).map (fun d => match d with | .int i => nD (U.idxOf i.toNat) | _ => .non) = nl (o.map fun x => U.idxOf x) := by
    unfold nl
    rw [List.map_map, List.map_map]
    exact List.map_congr_left fun x _ => rfl
  rw [List.nil_append, List.nil_append] at e
  simp only [f_named_anew, F_named_anew]
  simp [FD.seqF, FD.asgF, FD.ifF, FD.retF, FD.retNF, FD.nxF, FD.nameE, FD.constE, FD.op2, FD.op1, FD.vw, FD.fz, FD.mv, FD.own, FD.addD, FD.subD, FD.mulD, FD.fdivD, FD.modD, FD.powD, FD.intD, FD.callE, FD.vws, FD.consA, FD.nilA, FD.nameG, FD.fnF, FD.outs, FD.M.toD, FD.M.flat, FD.boolT, FD.fgtF, FD.wipeF, FD.callG, FD.argsG, FD.giveG, FD.andV, FD.orV, FD.notV, FD.andT, FD.orT, FD.notT, FD.ifV, FD.lstE, FD.fzs, FD.tupE, FD.mvs, FD.cmpI, FD.isD, FD.isiD, FD.Kd.is, FD.lenP, FD.lstR, FD.bmE, FD.takeR, FD.backF, FD.chainE, FD.exprF, FD.offF, FD.compD, FD.listI, FD.forF, FD.tupG, FD.consG, FD.nilG, FD.partsM, FD.enumI, FD.noneO, FD.someO, FD.sliceE, FD.negD, FD.rg1E, FD.rg2E, FD.cstep, FD.lstep, FD.yesT, FD.nl_len, FD.R.flat, FD.revE, FD.dtupE, FD.movA, FD.rng1I, FD.dcE, FD.dixD, FD.parF, FD.owns, enumD, e, small_of (n := U.length) (by omega), small_of (n := o.length) (by omega), c, c2]
end Law
set_option linter.all false
set_option maxRecDepth 100000
set_option maxHeartbeats 4000000
namespace Law
open PySem PySem.Spec PyProof.Rows L2 FD
/-- the letters' new names -/
def namesAt (d : TL.Deed) (o : List Nat) (t : Nat) : List Nat := match d with
  | .u => List.range o.length
  | .l => (List.range o.length).map fun x => (TL.upL (TL.lastL o) o.length t).idxOf x
theorem small40 {n : Nat} (h : n ≤ 1000) : smallL n = true := small_of (by omega)
theorem losers_le {o : List Nat} (h : TL.Ord o) (d : TL.Deed) : (TL.losers d o).length < o.length := by
  cases d with
  | u => show (TL.suf o).reverse.length < _; rw [List.length_reverse]; unfold TL.suf TL.cutU; rw [List.length_drop]; have := h.two; omega
  | l => show (TL.losL _ _).length < _; rw [TL.losL_len]; have := h.two; omega
theorem behind_eq {o : List Nat} (h : TL.Ord o) (h40 : o.length ≤ 40) (d : TL.Deed) (t : Nat) : f_behind_run [.imm (.lst (nl o)), .imm (dDd d), .imm (nD t)] = some (.dtup [.lst (nl (TL.ordAt d o t)), .lst (nl (namesAt d o t))], []) := by
  have h2 := h.two
  have hb := h.last_ne
  have hr := ring_losers_eq h h40 d
  have hp := TL.losers_pos h d
  have hle := losers_le h d
  have p0 : (0 : Int) < ((TL.losers d o).length : Int) := by omega
  obtain ⟨j, hj⟩ : ∃ j, j = t % (TL.losers d o).length := ⟨_, rfl⟩
  have em : (t : Int) % ((TL.losers d o).length : Int) = (j : Int) := by omega
  have hml : j < (TL.losers d o).length := by rw [hj]; exact Nat.mod_lt _ hp
  have hrot : (TL.losers d o).drop j ++ (TL.losers d o).take j = TL.rotl (TL.losers d o) t := by rw [hj]; rfl
  have hrl := TL.rotl_len (TL.losers d o) t
  simp only [f_behind_run, F_behind_run]
  cases d with
  | u =>
    have hi := index_nl h.last_mem
    have hw : TL.winner .u o = o.length - 1 := rfl
    have e2 : ((o.idxOf (o.length - 1) : Nat) : Int) + 1 = (TL.cutU o : Nat) := rfl
    simp [FD.seqF, FD.asgF, FD.ifF, FD.retF, FD.retNF, FD.nxF, FD.nameE, FD.constE, FD.op2, FD.op1, FD.vw, FD.fz, FD.mv, FD.own, FD.addD, FD.subD, FD.mulD, FD.fdivD, FD.modD, FD.powD, FD.intD, FD.callE, FD.vws, FD.consA, FD.nilA, FD.nameG, FD.fnF, FD.outs, FD.M.toD, FD.M.flat, FD.boolT, FD.fgtF, FD.wipeF, FD.callG, FD.argsG, FD.giveG, FD.andV, FD.orV, FD.notV, FD.andT, FD.orT, FD.notT, FD.ifV, FD.lstE, FD.fzs, FD.tupE, FD.mvs, FD.cmpI, FD.isD, FD.isiD, FD.Kd.is, FD.lenP, FD.lstR, FD.bmE, FD.takeR, FD.backF, FD.chainE, FD.exprF, FD.offF, FD.compD, FD.listI, FD.forF, FD.tupG, FD.consG, FD.nilG, FD.partsM, FD.enumI, FD.noneO, FD.someO, FD.sliceE, FD.negD, FD.rg1E, FD.rg2E, FD.cstep, FD.lstep, FD.yesT, FD.nl_len, FD.R.flat, FD.revE, FD.dtupE, FD.movA, FD.rng1I, FD.dcE, FD.dixD, FD.parF, FD.owns, FD.nl_drop, FD.nl_take, FD.nl_append, FD.nl_reverse, hr, nD, hp, em, cut_from, cut_to, hrot, eq_du, hw, hi, e2, small40 (n := 2) (by omega), small40 (n := (TL.losers .u o).length - j + min j (TL.losers .u o).length) (by omega)]
    have z1 := small40 (n := min (TL.cutU o) o.length + (TL.rotl (TL.losers .u o) t).length) (by omega)
    have hg : rgOk 0 (o.length : Int) = true := rgOk_nat (by omega)
    simp [FD.seqF, FD.asgF, FD.ifF, FD.retF, FD.retNF, FD.nxF, FD.nameE, FD.constE, FD.op2, FD.op1, FD.vw, FD.fz, FD.mv, FD.own, FD.addD, FD.subD, FD.mulD, FD.fdivD, FD.modD, FD.powD, FD.intD, FD.callE, FD.vws, FD.consA, FD.nilA, FD.nameG, FD.fnF, FD.outs, FD.M.toD, FD.M.flat, FD.boolT, FD.fgtF, FD.wipeF, FD.callG, FD.argsG, FD.giveG, FD.andV, FD.orV, FD.notV, FD.andT, FD.orT, FD.notT, FD.ifV, FD.lstE, FD.fzs, FD.tupE, FD.mvs, FD.cmpI, FD.isD, FD.isiD, FD.Kd.is, FD.lenP, FD.lstR, FD.bmE, FD.takeR, FD.backF, FD.chainE, FD.exprF, FD.offF, FD.compD, FD.listI, FD.forF, FD.tupG, FD.consG, FD.nilG, FD.partsM, FD.enumI, FD.noneO, FD.someO, FD.sliceE, FD.negD, FD.rg1E, FD.rg2E, FD.cstep, FD.lstep, FD.yesT, FD.nl_len, FD.R.flat, FD.revE, FD.dtupE, FD.movA, FD.rng1I, FD.dcE, FD.dixD, FD.parF, FD.owns, FD.nl_drop, FD.nl_take, FD.nl_append, FD.nl_reverse, z1, hg, rgD_nat, small40 (n := 2) (by omega)]
    exact ⟨rfl, rfl⟩
  | l =>
    have hw : TL.winner .l o = TL.lastL o := rfl
    have e3 : ((TL.lastL o : Nat) : Int) + 1 = ((TL.lastL o + 1 : Nat) : Int) := rfl
    obtain ⟨b, hbb⟩ : ∃ b, b = TL.lastL o + 1 := ⟨_, rfl⟩
    rw [← hbb] at e3
    have hgb : rgOk 0 (b : Int) = true := rgOk_nat (by omega)
    have hg : rgOk 0 (o.length : Int) = true := rgOk_nat (by omega)
    have hU : List.range b ++ (TL.rotl (TL.losers .l o) t).reverse = TL.upL (TL.lastL o) o.length t := by rw [hbb]; rfl
    have ul : (TL.upL (TL.lastL o) o.length t).length = o.length := TL.upL_len (by omega)
    have z1 := small40 (n := b + (TL.rotl (TL.losers .l o) t).length) (by omega)
    have nm := named_anew_eq (U := TL.upL (TL.lastL o) o.length t) (o := o) (TL.upL_nd _ _ t) (fun x hx => (TL.upL_mem (by omega)).mpr (h.lt x hx)) (by omega) (by omega)
    have c : ∀ r0 r1 r2 r5 : Option M, cloopD [8] (nameG 8) yesT (bmE indexD (nameE 7) (nameE 8)) (rngD 0 o.length) [r0, r1, r2, none, none, none, none, some (.lst (nl (TL.upL (TL.lastL o) o.length t))), none, r5] =
        some ((rngD 0 o.length).map (fun d => match d with | .int i => nD ((TL.upL (TL.lastL o) o.length t).idxOf i.toNat) | _ => .non), [r0, r1, r2, none, none, none, none, some (.lst (nl (TL.upL (TL.lastL o) o.length t))), none, r5]) := fun r0 r1 r2 r5 => by
      refine cloopD_map _ fun d hd => ?_
      unfold rngD at hd
      obtain ⟨n, hn, rfl⟩ := List.mem_map.mp hd
      rw [List.mem_range] at hn
      have hx := index_nl (x := n) (xs := TL.upL (TL.lastL o) o.length t) ((TL.upL_mem (by omega)).mpr hn)
      simp [FD.seqF, FD.asgF, FD.ifF, FD.retF, FD.retNF, FD.nxF, FD.nameE, FD.constE, FD.op2, FD.op1, FD.vw, FD.fz, FD.mv, FD.own, FD.addD, FD.subD, FD.mulD, FD.fdivD, FD.modD, FD.powD, FD.intD, FD.callE, FD.vws, FD.consA, FD.nilA, FD.nameG, FD.fnF, FD.outs, FD.M.toD, FD.M.flat, FD.boolT, FD.fgtF, FD.wipeF, FD.callG, FD.argsG, FD.giveG, FD.andV, FD.orV, FD.notV, FD.andT, FD.orT, FD.notT, FD.ifV, FD.lstE, FD.fzs, FD.tupE, FD.mvs, FD.cmpI, FD.isD, FD.isiD, FD.Kd.is, FD.lenP, FD.lstR, FD.bmE, FD.takeR, FD.backF, FD.chainE, FD.exprF, FD.offF, FD.compD, FD.listI, FD.forF, FD.tupG, FD.consG, FD.nilG, FD.partsM, FD.enumI, FD.noneO, FD.someO, FD.sliceE, FD.negD, FD.rg1E, FD.rg2E, FD.cstep, FD.lstep, FD.yesT, FD.nl_len, FD.R.flat, FD.revE, FD.dtupE, FD.movA, FD.rng1I, FD.dcE, FD.dixD, FD.parF, FD.owns, FD.nl_drop, FD.nl_take, FD.nl_append, FD.nl_reverse, nD] at hx
      simp [FD.seqF, FD.asgF, FD.ifF, FD.retF, FD.retNF, FD.nxF, FD.nameE, FD.constE, FD.op2, FD.op1, FD.vw, FD.fz, FD.mv, FD.own, FD.addD, FD.subD, FD.mulD, FD.fdivD, FD.modD, FD.powD, FD.intD, FD.callE, FD.vws, FD.consA, FD.nilA, FD.nameG, FD.fnF, FD.outs, FD.M.toD, FD.M.flat, FD.boolT, FD.fgtF, FD.wipeF, FD.callG, FD.argsG, FD.giveG, FD.andV, FD.orV, FD.notV, FD.andT, FD.orT, FD.notT, FD.ifV, FD.lstE, FD.fzs, FD.tupE, FD.mvs, FD.cmpI, FD.isD, FD.isiD, FD.Kd.is, FD.lenP, FD.lstR, FD.bmE, FD.takeR, FD.backF, FD.chainE, FD.exprF, FD.offF, FD.compD, FD.listI, FD.forF, FD.tupG, FD.consG, FD.nilG, FD.partsM, FD.enumI, FD.noneO, FD.someO, FD.sliceE, FD.negD, FD.rg1E, FD.rg2E, FD.cstep, FD.lstep, FD.yesT, FD.nl_len, FD.R.flat, FD.revE, FD.dtupE, FD.movA, FD.rng1I, FD.dcE, FD.dixD, FD.parF, FD.owns, FD.nl_drop, FD.nl_take, FD.nl_append, FD.nl_reverse, hx, nD]
    have c2 : (rngD 0 o.length).map (fun d => match d with | .int i => nD ((TL.upL (TL.lastL o) o.length t).idxOf i.toNat) | _ => .non) = nl (namesAt .l o t) := by
      unfold rngD nl namesAt
      rw [List.map_map, List.map_map]
      refine List.map_congr_left fun x _ => ?_
      simp [FD.seqF, FD.asgF, FD.ifF, FD.retF, FD.retNF, FD.nxF, FD.nameE, FD.constE, FD.op2, FD.op1, FD.vw, FD.fz, FD.mv, FD.own, FD.addD, FD.subD, FD.mulD, FD.fdivD, FD.modD, FD.powD, FD.intD, FD.callE, FD.vws, FD.consA, FD.nilA, FD.nameG, FD.fnF, FD.outs, FD.M.toD, FD.M.flat, FD.boolT, FD.fgtF, FD.wipeF, FD.callG, FD.argsG, FD.giveG, FD.andV, FD.orV, FD.notV, FD.andT, FD.orT, FD.notT, FD.ifV, FD.lstE, FD.fzs, FD.tupE, FD.mvs, FD.cmpI, FD.isD, FD.isiD, FD.Kd.is, FD.lenP, FD.lstR, FD.bmE, FD.takeR, FD.backF, FD.chainE, FD.exprF, FD.offF, FD.compD, FD.listI, FD.forF, FD.tupG, FD.consG, FD.nilG, FD.partsM, FD.enumI, FD.noneO, FD.someO, FD.sliceE, FD.negD, FD.rg1E, FD.rg2E, FD.cstep, FD.lstep, FD.yesT, FD.nl_len, FD.R.flat, FD.revE, FD.dtupE, FD.movA, FD.rng1I, FD.dcE, FD.dixD, FD.parF, FD.owns, FD.nl_drop, FD.nl_take, FD.nl_append, FD.nl_reverse]
    have hrn : rngOk (o.length : Int) = true := rng_of (by omega)
    have hrd : (rngD 0 o.length).length = o.length := by unfold rngD; rw [List.length_map, List.length_range]
    simp [FD.seqF, FD.asgF, FD.ifF, FD.retF, FD.retNF, FD.nxF, FD.nameE, FD.constE, FD.op2, FD.op1, FD.vw, FD.fz, FD.mv, FD.own, FD.addD, FD.subD, FD.mulD, FD.fdivD, FD.modD, FD.powD, FD.intD, FD.callE, FD.vws, FD.consA, FD.nilA, FD.nameG, FD.fnF, FD.outs, FD.M.toD, FD.M.flat, FD.boolT, FD.fgtF, FD.wipeF, FD.callG, FD.argsG, FD.giveG, FD.andV, FD.orV, FD.notV, FD.andT, FD.orT, FD.notT, FD.ifV, FD.lstE, FD.fzs, FD.tupE, FD.mvs, FD.cmpI, FD.isD, FD.isiD, FD.Kd.is, FD.lenP, FD.lstR, FD.bmE, FD.takeR, FD.backF, FD.chainE, FD.exprF, FD.offF, FD.compD, FD.listI, FD.forF, FD.tupG, FD.consG, FD.nilG, FD.partsM, FD.enumI, FD.noneO, FD.someO, FD.sliceE, FD.negD, FD.rg1E, FD.rg2E, FD.cstep, FD.lstep, FD.yesT, FD.nl_len, FD.R.flat, FD.revE, FD.dtupE, FD.movA, FD.rng1I, FD.dcE, FD.dixD, FD.parF, FD.owns, FD.nl_drop, FD.nl_take, FD.nl_append, FD.nl_reverse, hr, nD, hp, em, cut_from, cut_to, hrot, eq_lu, hw, e3, hgb, rgD_nat, small40 (n := (TL.losers .l o).length - j + min j (TL.losers .l o).length) (by omega), z1, hU]
    have z3 := small40 (n := o.length) (by omega)
    have z4 := small40 (n := 2) (by omega)
    simp [FD.seqF, FD.asgF, FD.ifF, FD.retF, FD.retNF, FD.nxF, FD.nameE, FD.constE, FD.op2, FD.op1, FD.vw, FD.fz, FD.mv, FD.own, FD.addD, FD.subD, FD.mulD, FD.fdivD, FD.modD, FD.powD, FD.intD, FD.callE, FD.vws, FD.consA, FD.nilA, FD.nameG, FD.fnF, FD.outs, FD.M.toD, FD.M.flat, FD.boolT, FD.fgtF, FD.wipeF, FD.callG, FD.argsG, FD.giveG, FD.andV, FD.orV, FD.notV, FD.andT, FD.orT, FD.notT, FD.ifV, FD.lstE, FD.fzs, FD.tupE, FD.mvs, FD.cmpI, FD.isD, FD.isiD, FD.Kd.is, FD.lenP, FD.lstR, FD.bmE, FD.takeR, FD.backF, FD.chainE, FD.exprF, FD.offF, FD.compD, FD.listI, FD.forF, FD.tupG, FD.consG, FD.nilG, FD.partsM, FD.enumI, FD.noneO, FD.someO, FD.sliceE, FD.negD, FD.rg1E, FD.rg2E, FD.cstep, FD.lstep, FD.yesT, FD.nl_len, FD.R.flat, FD.revE, FD.dtupE, FD.movA, FD.rng1I, FD.dcE, FD.dixD, FD.parF, FD.owns, FD.nl_drop, FD.nl_take, FD.nl_append, FD.nl_reverse, hrn, hrd, z3, c, c2, nm, z4]
    rfl
end Law
set_option linter.all false
set_option maxRecDepth 100000
set_option maxHeartbeats 4000000
namespace Law
open PySem PySem.Spec PyProof.Rows L2 FD
noncomputable def mostD : Option Nat → D
  | none => .non
  | some k => nD k
/-- the losers one by one -/
noncomputable def B1 : SF := fgtF [11] (seqF (ifF (orT (boolT (op2 leD (nameE 9) (op2 ixD (nameE 1) (nameE 11)))) (boolT (op2 eqD (nameE 10) (nameE 2)))) bkF nxF) (fgtF [11] (parF [9, 10] (consA (op2 subD (nameE 9) (op2 ixD (nameE 1) (nameE 11))) (consA (op2 addD (nameE 10) (constE (.int 1))) nilA)))))
theorem eq_most (t : Nat) (most : Option Nat) : eqD (nD t) (mostD most) = some (.imm (.bl (decide (some t = most)))) := by
  cases most with
  | none => rfl
  | some k =>
    show some (M.imm (.bl (decide ((t : Int) = k)))) = _
    by_cases q : t = k
    · simp [FD.seqF, FD.asgF, FD.ifF, FD.retF, FD.retNF, FD.nxF, FD.nameE, FD.constE, FD.op2, FD.op1, FD.vw, FD.fz, FD.mv, FD.own, FD.addD, FD.subD, FD.mulD, FD.fdivD, FD.modD, FD.powD, FD.intD, FD.callE, FD.vws, FD.consA, FD.nilA, FD.nameG, FD.fnF, FD.outs, FD.M.toD, FD.M.flat, FD.boolT, FD.fgtF, FD.wipeF, FD.callG, FD.argsG, FD.giveG, FD.andV, FD.orV, FD.notV, FD.andT, FD.orT, FD.notT, FD.ifV, FD.lstE, FD.fzs, FD.tupE, FD.mvs, FD.cmpI, FD.isD, FD.isiD, FD.Kd.is, FD.lenP, FD.lstR, FD.bmE, FD.takeR, FD.backF, FD.chainE, FD.exprF, FD.offF, FD.compD, FD.listI, FD.forF, FD.tupG, FD.consG, FD.nilG, FD.partsM, FD.enumI, FD.noneO, FD.someO, FD.sliceE, FD.negD, FD.rg1E, FD.rg2E, FD.cstep, FD.lstep, FD.yesT, FD.nl_len, FD.R.flat, FD.revE, FD.dtupE, FD.movA, FD.rng1I, FD.dcE, FD.dixD, FD.parF, FD.owns, FD.nl_drop, FD.nl_take, FD.nl_append, FD.nl_reverse, FD.bkF, FD.isL, FD.stoG, q]
    · have : ¬ (t : Int) = k := by omega
      simp [FD.seqF, FD.asgF, FD.ifF, FD.retF, FD.retNF, FD.nxF, FD.nameE, FD.constE, FD.op2, FD.op1, FD.vw, FD.fz, FD.mv, FD.own, FD.addD, FD.subD, FD.mulD, FD.fdivD, FD.modD, FD.powD, FD.intD, FD.callE, FD.vws, FD.consA, FD.nilA, FD.nameG, FD.fnF, FD.outs, FD.M.toD, FD.M.flat, FD.boolT, FD.fgtF, FD.wipeF, FD.callG, FD.argsG, FD.giveG, FD.andV, FD.orV, FD.notV, FD.andT, FD.orT, FD.notT, FD.ifV, FD.lstE, FD.fzs, FD.tupE, FD.mvs, FD.cmpI, FD.isD, FD.isiD, FD.Kd.is, FD.lenP, FD.lstR, FD.bmE, FD.takeR, FD.backF, FD.chainE, FD.exprF, FD.offF, FD.compD, FD.listI, FD.forF, FD.tupG, FD.consG, FD.nilG, FD.partsM, FD.enumI, FD.noneO, FD.someO, FD.sliceE, FD.negD, FD.rg1E, FD.rg2E, FD.cstep, FD.lstep, FD.yesT, FD.nl_len, FD.R.flat, FD.revE, FD.dtupE, FD.movA, FD.rng1I, FD.dcE, FD.dixD, FD.parF, FD.owns, FD.nl_drop, FD.nl_take, FD.nl_append, FD.nl_reverse, FD.bkF, FD.isL, FD.stoG, q, this]
theorem loop_walk {L : List Nat} (hL : L.length ≤ 1000) (most : Option Nat) (a0 a3 a4 a5 a6 a7 a8 a12 a13 a14 a15 : Option M) : ∀ (ls : List Nat) (left times : Nat), (∀ x ∈ ls, x < L.length) →
    loopF (nameG 11) B1 (nl ls) [a0, some (.imm (.lst (nl L))), some (.imm (mostD most)), a3, a4, a5, a6, a7, a8, some (.imm (nD left)), some (.imm (nD times)), none, a12, a13, a14, a15] =
      some ([a0, some (.imm (.lst (nl L))), some (.imm (mostD most)), a3, a4, a5, a6, a7, a8, some (.imm (nD (TL.walkL most (ls.map fun x => L.getD x 0) left times).1)), some (.imm (nD (TL.walkL most (ls.map fun x => L.getD x 0) left times).2)), none, a12, a13, a14, a15], .nx)
  | [], left, times, _ => rfl
  | x :: ls, left, times, h => by
    have hx := ix_nl (xs := L) (i := x) (h x (List.mem_cons_self ..)) (by have := h x (List.mem_cons_self ..); omega)
    have e3 : nl (x :: ls) = nD x :: nl ls := rfl
    have em := eq_most times most
    rw [e3, loopF_cons, List.map_cons]
    unfold TL.walkL
    have ih := loop_walk hL most a0 a3 a4 a5 a6 a7 a8 a12 a13 a14 a15 ls
    generalize L.getD x 0 = l at hx
    by_cases q1 : left ≤ l
    · have q1' : (left : Int) ≤ l := by omega
      rw [if_pos (.inl q1)]
      simp [FD.seqF, FD.asgF, FD.ifF, FD.retF, FD.retNF, FD.nxF, FD.nameE, FD.constE, FD.op2, FD.op1, FD.vw, FD.fz, FD.mv, FD.own, FD.addD, FD.subD, FD.mulD, FD.fdivD, FD.modD, FD.powD, FD.intD, FD.callE, FD.vws, FD.consA, FD.nilA, FD.nameG, FD.fnF, FD.outs, FD.M.toD, FD.M.flat, FD.boolT, FD.fgtF, FD.wipeF, FD.callG, FD.argsG, FD.giveG, FD.andV, FD.orV, FD.notV, FD.andT, FD.orT, FD.notT, FD.ifV, FD.lstE, FD.fzs, FD.tupE, FD.mvs, FD.cmpI, FD.isD, FD.isiD, FD.Kd.is, FD.lenP, FD.lstR, FD.bmE, FD.takeR, FD.backF, FD.chainE, FD.exprF, FD.offF, FD.compD, FD.listI, FD.forF, FD.tupG, FD.consG, FD.nilG, FD.partsM, FD.enumI, FD.noneO, FD.someO, FD.sliceE, FD.negD, FD.rg1E, FD.rg2E, FD.cstep, FD.lstep, FD.yesT, FD.nl_len, FD.R.flat, FD.revE, FD.dtupE, FD.movA, FD.rng1I, FD.dcE, FD.dixD, FD.parF, FD.owns, FD.nl_drop, FD.nl_take, FD.nl_append, FD.nl_reverse, FD.bkF, FD.isL, FD.stoG, B1, hx, nD, q1, q1']
    · have q1' : ¬ (left : Int) ≤ l := by omega
      by_cases q2 : some times = most
      · rw [if_pos (.inr q2)]
        rw [q2] at em
        simp [FD.seqF, FD.asgF, FD.ifF, FD.retF, FD.retNF, FD.nxF, FD.nameE, FD.constE, FD.op2, FD.op1, FD.vw, FD.fz, FD.mv, FD.own, FD.addD, FD.subD, FD.mulD, FD.fdivD, FD.modD, FD.powD, FD.intD, FD.callE, FD.vws, FD.consA, FD.nilA, FD.nameG, FD.fnF, FD.outs, FD.M.toD, FD.M.flat, FD.boolT, FD.fgtF, FD.wipeF, FD.callG, FD.argsG, FD.giveG, FD.andV, FD.orV, FD.notV, FD.andT, FD.orT, FD.notT, FD.ifV, FD.lstE, FD.fzs, FD.tupE, FD.mvs, FD.cmpI, FD.isD, FD.isiD, FD.Kd.is, FD.lenP, FD.lstR, FD.bmE, FD.takeR, FD.backF, FD.chainE, FD.exprF, FD.offF, FD.compD, FD.listI, FD.forF, FD.tupG, FD.consG, FD.nilG, FD.partsM, FD.enumI, FD.noneO, FD.someO, FD.sliceE, FD.negD, FD.rg1E, FD.rg2E, FD.cstep, FD.lstep, FD.yesT, FD.nl_len, FD.R.flat, FD.revE, FD.dtupE, FD.movA, FD.rng1I, FD.dcE, FD.dixD, FD.parF, FD.owns, FD.nl_drop, FD.nl_take, FD.nl_append, FD.nl_reverse, FD.bkF, FD.isL, FD.stoG, nD] at em
        simp [FD.seqF, FD.asgF, FD.ifF, FD.retF, FD.retNF, FD.nxF, FD.nameE, FD.constE, FD.op2, FD.op1, FD.vw, FD.fz, FD.mv, FD.own, FD.addD, FD.subD, FD.mulD, FD.fdivD, FD.modD, FD.powD, FD.intD, FD.callE, FD.vws, FD.consA, FD.nilA, FD.nameG, FD.fnF, FD.outs, FD.M.toD, FD.M.flat, FD.boolT, FD.fgtF, FD.wipeF, FD.callG, FD.argsG, FD.giveG, FD.andV, FD.orV, FD.notV, FD.andT, FD.orT, FD.notT, FD.ifV, FD.lstE, FD.fzs, FD.tupE, FD.mvs, FD.cmpI, FD.isD, FD.isiD, FD.Kd.is, FD.lenP, FD.lstR, FD.bmE, FD.takeR, FD.backF, FD.chainE, FD.exprF, FD.offF, FD.compD, FD.listI, FD.forF, FD.tupG, FD.consG, FD.nilG, FD.partsM, FD.enumI, FD.noneO, FD.someO, FD.sliceE, FD.negD, FD.rg1E, FD.rg2E, FD.cstep, FD.lstep, FD.yesT, FD.nl_len, FD.R.flat, FD.revE, FD.dtupE, FD.movA, FD.rng1I, FD.dcE, FD.dixD, FD.parF, FD.owns, FD.nl_drop, FD.nl_take, FD.nl_append, FD.nl_reverse, FD.bkF, FD.isL, FD.stoG, B1, hx, nD, q1, q1', em]
      · rw [if_neg (fun z => z.elim q1 q2)]
        have ih' := ih (left - l) (times + 1) fun y hy => h y (List.mem_cons_of_mem _ hy)
        have e4 : (left : Int) - l = ((left - l : Nat) : Int) := by omega
        have hs : lstep (nameG 11) B1 (nD x) [a0, some (.imm (.lst (nl L))), some (.imm (mostD most)), a3, a4, a5, a6, a7, a8, some (.imm (nD left)), some (.imm (nD times)), none, a12, a13, a14, a15] = some ([a0, some (.imm (.lst (nl L))), some (.imm (mostD most)), a3, a4, a5, a6, a7, a8, some (.imm (nD (left - l))), some (.imm (nD (times + 1))), none, a12, a13, a14, a15], .nx) := by
          simp [FD.seqF, FD.asgF, FD.ifF, FD.retF, FD.retNF, FD.nxF, FD.nameE, FD.constE, FD.op2, FD.op1, FD.vw, FD.fz, FD.mv, FD.own, FD.addD, FD.subD, FD.mulD, FD.fdivD, FD.modD, FD.powD, FD.intD, FD.callE, FD.vws, FD.consA, FD.nilA, FD.nameG, FD.fnF, FD.outs, FD.M.toD, FD.M.flat, FD.boolT, FD.fgtF, FD.wipeF, FD.callG, FD.argsG, FD.giveG, FD.andV, FD.orV, FD.notV, FD.andT, FD.orT, FD.notT, FD.ifV, FD.lstE, FD.fzs, FD.tupE, FD.mvs, FD.cmpI, FD.isD, FD.isiD, FD.Kd.is, FD.lenP, FD.lstR, FD.bmE, FD.takeR, FD.backF, FD.chainE, FD.exprF, FD.offF, FD.compD, FD.listI, FD.forF, FD.tupG, FD.consG, FD.nilG, FD.partsM, FD.enumI, FD.noneO, FD.someO, FD.sliceE, FD.negD, FD.rg1E, FD.rg2E, FD.cstep, FD.lstep, FD.yesT, FD.nl_len, FD.R.flat, FD.revE, FD.dtupE, FD.movA, FD.rng1I, FD.dcE, FD.dixD, FD.parF, FD.owns, FD.nl_drop, FD.nl_take, FD.nl_append, FD.nl_reverse, FD.bkF, FD.isL, FD.stoG, nD, q2] at em
          simp [FD.seqF, FD.asgF, FD.ifF, FD.retF, FD.retNF, FD.nxF, FD.nameE, FD.constE, FD.op2, FD.op1, FD.vw, FD.fz, FD.mv, FD.own, FD.addD, FD.subD, FD.mulD, FD.fdivD, FD.modD, FD.powD, FD.intD, FD.callE, FD.vws, FD.consA, FD.nilA, FD.nameG, FD.fnF, FD.outs, FD.M.toD, FD.M.flat, FD.boolT, FD.fgtF, FD.wipeF, FD.callG, FD.argsG, FD.giveG, FD.andV, FD.orV, FD.notV, FD.andT, FD.orT, FD.notT, FD.ifV, FD.lstE, FD.fzs, FD.tupE, FD.mvs, FD.cmpI, FD.isD, FD.isiD, FD.Kd.is, FD.lenP, FD.lstR, FD.bmE, FD.takeR, FD.backF, FD.chainE, FD.exprF, FD.offF, FD.compD, FD.listI, FD.forF, FD.tupG, FD.consG, FD.nilG, FD.partsM, FD.enumI, FD.noneO, FD.someO, FD.sliceE, FD.negD, FD.rg1E, FD.rg2E, FD.cstep, FD.lstep, FD.yesT, FD.nl_len, FD.R.flat, FD.revE, FD.dtupE, FD.movA, FD.rng1I, FD.dcE, FD.dixD, FD.parF, FD.owns, FD.nl_drop, FD.nl_take, FD.nl_append, FD.nl_reverse, FD.bkF, FD.isL, FD.stoG, B1, hx, nD, q1, q1', em, e4]
        rw [hs]
        exact ih'
/-! ### lengths laid by new names -/
noncomputable def B2 : SF := fgtF [6, 15] (fgtF [6, 15] (asgF (ifV (boolT (op2 eqD (nameE 6) (nameE 4))) (nameE 9) (nameE 15)) (stoG 14 (op2 ixD (nameE 13) (nameE 6)))))
theorem set_scatter {U : List Nat} (nd : U.Nodup) {k : Nat} (hk : k ∈ U) (g : Nat → Nat) : (U.map fun x => if x < k then g x else 0).set (U.idxOf k) (g k) = U.map fun x => if x < k + 1 then g x else 0 := by
  have hi := List.idxOf_lt_length_of_mem hk
  apply List.ext_getElem
  · simp [FD.seqF, FD.asgF, FD.ifF, FD.retF, FD.retNF, FD.nxF, FD.nameE, FD.constE, FD.op2, FD.op1, FD.vw, FD.fz, FD.mv, FD.own, FD.addD, FD.subD, FD.mulD, FD.fdivD, FD.modD, FD.powD, FD.intD, FD.callE, FD.vws, FD.consA, FD.nilA, FD.nameG, FD.fnF, FD.outs, FD.M.toD, FD.M.flat, FD.boolT, FD.fgtF, FD.wipeF, FD.callG, FD.argsG, FD.giveG, FD.andV, FD.orV, FD.notV, FD.andT, FD.orT, FD.notT, FD.ifV, FD.lstE, FD.fzs, FD.tupE, FD.mvs, FD.cmpI, FD.isD, FD.isiD, FD.Kd.is, FD.lenP, FD.lstR, FD.bmE, FD.takeR, FD.backF, FD.chainE, FD.exprF, FD.offF, FD.compD, FD.listI, FD.forF, FD.tupG, FD.consG, FD.nilG, FD.partsM, FD.enumI, FD.noneO, FD.someO, FD.sliceE, FD.negD, FD.rg1E, FD.rg2E, FD.cstep, FD.lstep, FD.yesT, FD.nl_len, FD.R.flat, FD.revE, FD.dtupE, FD.movA, FD.rng1I, FD.dcE, FD.dixD, FD.parF, FD.owns, FD.nl_drop, FD.nl_take, FD.nl_append, FD.nl_reverse, FD.bkF, FD.isL, FD.stoG]
  · intro i h1 h2
    rw [List.length_map] at h2
    rw [List.getElem_set, List.getElem_map, List.getElem_map]
    by_cases q : U.idxOf k = i
    · subst q
      rw [if_pos rfl, List.getElem_idxOf hi, if_pos (by omega)]
    · rw [if_neg q]
      have ne : U[i] ≠ k := fun e => q (by rw [← e]; exact List.Nodup.idxOf_getElem nd i h2)
      by_cases z : U[i] < k
      · rw [if_pos z, if_pos (by omega)]
      · rw [if_neg z, if_neg (by omega)]
theorem ixN_nat {n i : Nat} (h : i < n) (hn : n ≤ 1000000) : ixN n (i : Nat) = some i := by
  unfold ixN
  simp [FD.seqF, FD.asgF, FD.ifF, FD.retF, FD.retNF, FD.nxF, FD.nameE, FD.constE, FD.op2, FD.op1, FD.vw, FD.fz, FD.mv, FD.own, FD.addD, FD.subD, FD.mulD, FD.fdivD, FD.modD, FD.powD, FD.intD, FD.callE, FD.vws, FD.consA, FD.nilA, FD.nameG, FD.fnF, FD.outs, FD.M.toD, FD.M.flat, FD.boolT, FD.fgtF, FD.wipeF, FD.callG, FD.argsG, FD.giveG, FD.andV, FD.orV, FD.notV, FD.andT, FD.orT, FD.notT, FD.ifV, FD.lstE, FD.fzs, FD.tupE, FD.mvs, FD.cmpI, FD.isD, FD.isiD, FD.Kd.is, FD.lenP, FD.lstR, FD.bmE, FD.takeR, FD.backF, FD.chainE, FD.exprF, FD.offF, FD.compD, FD.listI, FD.forF, FD.tupG, FD.consG, FD.nilG, FD.partsM, FD.enumI, FD.noneO, FD.someO, FD.sliceE, FD.negD, FD.rg1E, FD.rg2E, FD.cstep, FD.lstep, FD.yesT, FD.nl_len, FD.R.flat, FD.revE, FD.dtupE, FD.movA, FD.rng1I, FD.dcE, FD.dixD, FD.parF, FD.owns, FD.nl_drop, FD.nl_take, FD.nl_append, FD.nl_reverse, FD.bkF, FD.isL, FD.stoG]
  omega
theorem loop_scatter {U L names : List Nat} {n w left : Nat} (hn : n ≤ 1000) (hU : TL.Row U) (hUn : U.length = n) (hL : L.length = n) (hnm : names.length = n) (hns : ∀ x, x < n → names.getD x 0 = U.idxOf x) (a0 a1 a2 a3 a5 a7 a8 a10 a11 a12 : Option M) :
    ∀ (k : Nat), k ≤ n → loopF (tupG 2 (consG (nameG 6) (consG (nameG 15) nilG))) B2 (((nl (L.drop k)).zipIdx k).map fun p => .tup [.int (p.2 : Nat), p.1]) [a0, a1, a2, a3, some (.imm (nD w)), a5, none, a7, a8, some (.imm (nD left)), a10, a11, a12, some (.lst (nl names)), some (.lst (nl (U.map fun x => if x < k then (if x = w then left else L.getD x 0) else 0))), none] =
      some ([a0, a1, a2, a3, some (.imm (nD w)), a5, none, a7, a8, some (.imm (nD left)), a10, a11, a12, some (.lst (nl names)), some (.lst (nl (U.map fun x => if x = w then left else L.getD x 0))), none], .nx) := by
  intro k hk
  obtain ⟨j, hj⟩ : ∃ j, n - k = j := ⟨_, rfl⟩
  induction j generalizing k with
  | zero =>
    have e : k = n := by omega
    subst e
    have e1 : L.drop k = [] := List.drop_eq_nil_of_le (by omega)
    have e2 : (U.map fun x => if x < k then (if x = w then left else L.getD x 0) else 0) = U.map fun x => if x = w then left else L.getD x 0 := by
      refine List.map_congr_left fun x hx => ?_
      have := hU.lt x hx
      rw [if_pos (by omega)]
    rw [e1, e2]
    rfl
  | succ j ih =>
    have hkl : k < L.length := by omega
    have e1 : L.drop k = L.getD k 0 :: L.drop (k + 1) := by
      rw [List.drop_eq_getElem_cons hkl]
      simp [FD.seqF, FD.asgF, FD.ifF, FD.retF, FD.retNF, FD.nxF, FD.nameE, FD.constE, FD.op2, FD.op1, FD.vw, FD.fz, FD.mv, FD.own, FD.addD, FD.subD, FD.mulD, FD.fdivD, FD.modD, FD.powD, FD.intD, FD.callE, FD.vws, FD.consA, FD.nilA, FD.nameG, FD.fnF, FD.outs, FD.M.toD, FD.M.flat, FD.boolT, FD.fgtF, FD.wipeF, FD.callG, FD.argsG, FD.giveG, FD.andV, FD.orV, FD.notV, FD.andT, FD.orT, FD.notT, FD.ifV, FD.lstE, FD.fzs, FD.tupE, FD.mvs, FD.cmpI, FD.isD, FD.isiD, FD.Kd.is, FD.lenP, FD.lstR, FD.bmE, FD.takeR, FD.backF, FD.chainE, FD.exprF, FD.offF, FD.compD, FD.listI, FD.forF, FD.tupG, FD.consG, FD.nilG, FD.partsM, FD.enumI, FD.noneO, FD.someO, FD.sliceE, FD.negD, FD.rg1E, FD.rg2E, FD.cstep, FD.lstep, FD.yesT, FD.nl_len, FD.R.flat, FD.revE, FD.dtupE, FD.movA, FD.rng1I, FD.dcE, FD.dixD, FD.parF, FD.owns, FD.nl_drop, FD.nl_take, FD.nl_append, FD.nl_reverse, FD.bkF, FD.isL, FD.stoG, List.getD, hkl]
    have e3 : nl (L.getD k 0 :: L.drop (k + 1)) = nD (L.getD k 0) :: nl (L.drop (k + 1)) := rfl
    have hx := ix_nl (xs := names) (i := k) (by omega) (by omega)
    rw [hns k (by omega)] at hx
    have hm : k ∈ U := hU.mem (by omega)
    have hi := List.idxOf_lt_length_of_mem hm
    have hset := set_scatter hU.nd hm (fun x => if x = w then left else L.getD x 0)
    have ih' := ih (k + 1) (by omega) (by omega)
    rw [e1, e3, List.zipIdx_cons, List.map_cons, loopF_cons]
    have hs : lstep (tupG 2 (consG (nameG 6) (consG (nameG 15) nilG))) B2 (.tup [.int (k : Nat), nD (L.getD k 0)]) [a0, a1, a2, a3, some (.imm (nD w)), a5, none, a7, a8, some (.imm (nD left)), a10, a11, a12, some (.lst (nl names)), some (.lst (nl (U.map fun x => if x < k then (if x = w then left else L.getD x 0) else 0))), none] =
        some ([a0, a1, a2, a3, some (.imm (nD w)), a5, none, a7, a8, some (.imm (nD left)), a10, a11, a12, some (.lst (nl names)), some (.lst (nl (U.map fun x => if x < k + 1 then (if x = w then left else L.getD x 0) else 0))), none], .nx) := by
      rw [← hset]
      have hfl : (U.map fun x => if x < k then (if x = w then left else L.getD x 0) else 0).length = n := by rw [List.length_map, hUn]
      revert hfl
      generalize (U.map fun x => if x < k then (if x = w then left else L.getD x 0) else 0) = f
      intro hfl
      clear hset ih ih' e1 e3
      generalize L.getD k 0 = v
      have hf : (nl f).set (U.idxOf k) (nD (if k = w then left else v)) = nl (f.set (U.idxOf k) (if k = w then left else v)) := by unfold nl; rw [List.map_set]
      have hix : ixN n (U.idxOf k : Nat) = some (U.idxOf k) := ixN_nat (by omega) (by omega)
      by_cases q : k = w
      · subst q
        rw [if_pos rfl] at hf ⊢
        simp [FD.seqF, FD.asgF, FD.ifF, FD.retF, FD.retNF, FD.nxF, FD.nameE, FD.constE, FD.op2, FD.op1, FD.vw, FD.fz, FD.mv, FD.own, FD.addD, FD.subD, FD.mulD, FD.fdivD, FD.modD, FD.powD, FD.intD, FD.callE, FD.vws, FD.consA, FD.nilA, FD.nameG, FD.fnF, FD.outs, FD.M.toD, FD.M.flat, FD.boolT, FD.fgtF, FD.wipeF, FD.callG, FD.argsG, FD.giveG, FD.andV, FD.orV, FD.notV, FD.andT, FD.orT, FD.notT, FD.ifV, FD.lstE, FD.fzs, FD.tupE, FD.mvs, FD.cmpI, FD.isD, FD.isiD, FD.Kd.is, FD.lenP, FD.lstR, FD.bmE, FD.takeR, FD.backF, FD.chainE, FD.exprF, FD.offF, FD.compD, FD.listI, FD.forF, FD.tupG, FD.consG, FD.nilG, FD.partsM, FD.enumI, FD.noneO, FD.someO, FD.sliceE, FD.negD, FD.rg1E, FD.rg2E, FD.cstep, FD.lstep, FD.yesT, FD.nl_len, FD.R.flat, FD.revE, FD.dtupE, FD.movA, FD.rng1I, FD.dcE, FD.dixD, FD.parF, FD.owns, FD.nl_drop, FD.nl_take, FD.nl_append, FD.nl_reverse, FD.bkF, FD.isL, FD.stoG, nD] at hx hf
        simp [FD.seqF, FD.asgF, FD.ifF, FD.retF, FD.retNF, FD.nxF, FD.nameE, FD.constE, FD.op2, FD.op1, FD.vw, FD.fz, FD.mv, FD.own, FD.addD, FD.subD, FD.mulD, FD.fdivD, FD.modD, FD.powD, FD.intD, FD.callE, FD.vws, FD.consA, FD.nilA, FD.nameG, FD.fnF, FD.outs, FD.M.toD, FD.M.flat, FD.boolT, FD.fgtF, FD.wipeF, FD.callG, FD.argsG, FD.giveG, FD.andV, FD.orV, FD.notV, FD.andT, FD.orT, FD.notT, FD.ifV, FD.lstE, FD.fzs, FD.tupE, FD.mvs, FD.cmpI, FD.isD, FD.isiD, FD.Kd.is, FD.lenP, FD.lstR, FD.bmE, FD.takeR, FD.backF, FD.chainE, FD.exprF, FD.offF, FD.compD, FD.listI, FD.forF, FD.tupG, FD.consG, FD.nilG, FD.partsM, FD.enumI, FD.noneO, FD.someO, FD.sliceE, FD.negD, FD.rg1E, FD.rg2E, FD.cstep, FD.lstep, FD.yesT, FD.nl_len, FD.R.flat, FD.revE, FD.dtupE, FD.movA, FD.rng1I, FD.dcE, FD.dixD, FD.parF, FD.owns, FD.nl_drop, FD.nl_take, FD.nl_append, FD.nl_reverse, FD.bkF, FD.isL, FD.stoG, B2, nD, eqD_int, hx, hfl, hix, hf]
      · have q' : ¬ (k : Int) = w := by omega
        rw [if_neg q] at hf ⊢
        simp [FD.seqF, FD.asgF, FD.ifF, FD.retF, FD.retNF, FD.nxF, FD.nameE, FD.constE, FD.op2, FD.op1, FD.vw, FD.fz, FD.mv, FD.own, FD.addD, FD.subD, FD.mulD, FD.fdivD, FD.modD, FD.powD, FD.intD, FD.callE, FD.vws, FD.consA, FD.nilA, FD.nameG, FD.fnF, FD.outs, FD.M.toD, FD.M.flat, FD.boolT, FD.fgtF, FD.wipeF, FD.callG, FD.argsG, FD.giveG, FD.andV, FD.orV, FD.notV, FD.andT, FD.orT, FD.notT, FD.ifV, FD.lstE, FD.fzs, FD.tupE, FD.mvs, FD.cmpI, FD.isD, FD.isiD, FD.Kd.is, FD.lenP, FD.lstR, FD.bmE, FD.takeR, FD.backF, FD.chainE, FD.exprF, FD.offF, FD.compD, FD.listI, FD.forF, FD.tupG, FD.consG, FD.nilG, FD.partsM, FD.enumI, FD.noneO, FD.someO, FD.sliceE, FD.negD, FD.rg1E, FD.rg2E, FD.cstep, FD.lstep, FD.yesT, FD.nl_len, FD.R.flat, FD.revE, FD.dtupE, FD.movA, FD.rng1I, FD.dcE, FD.dixD, FD.parF, FD.owns, FD.nl_drop, FD.nl_take, FD.nl_append, FD.nl_reverse, FD.bkF, FD.isL, FD.stoG, nD] at hx hf
        simp [FD.seqF, FD.asgF, FD.ifF, FD.retF, FD.retNF, FD.nxF, FD.nameE, FD.constE, FD.op2, FD.op1, FD.vw, FD.fz, FD.mv, FD.own, FD.addD, FD.subD, FD.mulD, FD.fdivD, FD.modD, FD.powD, FD.intD, FD.callE, FD.vws, FD.consA, FD.nilA, FD.nameG, FD.fnF, FD.outs, FD.M.toD, FD.M.flat, FD.boolT, FD.fgtF, FD.wipeF, FD.callG, FD.argsG, FD.giveG, FD.andV, FD.orV, FD.notV, FD.andT, FD.orT, FD.notT, FD.ifV, FD.lstE, FD.fzs, FD.tupE, FD.mvs, FD.cmpI, FD.isD, FD.isiD, FD.Kd.is, FD.lenP, FD.lstR, FD.bmE, FD.takeR, FD.backF, FD.chainE, FD.exprF, FD.offF, FD.compD, FD.listI, FD.forF, FD.tupG, FD.consG, FD.nilG, FD.partsM, FD.enumI, FD.noneO, FD.someO, FD.sliceE, FD.negD, FD.rg1E, FD.rg2E, FD.cstep, FD.lstep, FD.yesT, FD.nl_len, FD.R.flat, FD.revE, FD.dtupE, FD.movA, FD.rng1I, FD.dcE, FD.dixD, FD.parF, FD.owns, FD.nl_drop, FD.nl_take, FD.nl_append, FD.nl_reverse, FD.bkF, FD.isL, FD.stoG, B2, nD, eqD_int, hx, hfl, hix, hf, q']
    rw [hs]
    exact ih'
theorem names_at {o : List Nat} (h : TL.Ord o) (d : TL.Deed) (t : Nat) : ∃ U, TL.Row U ∧ U.length = o.length ∧ (namesAt d o t).length = o.length ∧ (∀ x, x < o.length → (namesAt d o t).getD x 0 = U.idxOf x) ∧ ∀ L w, L.length = o.length → TL.lenAt d o L t w = U.map fun x => if x = TL.winner d o then w else L.getD x 0 := by
  have h2 := h.two
  have hb := h.last_ne
  cases d with
  | u =>
    refine ⟨List.range o.length, TL.Row.range _, List.length_range, List.length_range, fun x hx => ?_, fun L w hL => ?_⟩
    · rw [TL.idxOf_range hx]
      show (List.range o.length).getD x 0 = x
      simp [FD.seqF, FD.asgF, FD.ifF, FD.retF, FD.retNF, FD.nxF, FD.nameE, FD.constE, FD.op2, FD.op1, FD.vw, FD.fz, FD.mv, FD.own, FD.addD, FD.subD, FD.mulD, FD.fdivD, FD.modD, FD.powD, FD.intD, FD.callE, FD.vws, FD.consA, FD.nilA, FD.nameG, FD.fnF, FD.outs, FD.M.toD, FD.M.flat, FD.boolT, FD.fgtF, FD.wipeF, FD.callG, FD.argsG, FD.giveG, FD.andV, FD.orV, FD.notV, FD.andT, FD.orT, FD.notT, FD.ifV, FD.lstE, FD.fzs, FD.tupE, FD.mvs, FD.cmpI, FD.isD, FD.isiD, FD.Kd.is, FD.lenP, FD.lstR, FD.bmE, FD.takeR, FD.backF, FD.chainE, FD.exprF, FD.offF, FD.compD, FD.listI, FD.forF, FD.tupG, FD.consG, FD.nilG, FD.partsM, FD.enumI, FD.noneO, FD.someO, FD.sliceE, FD.negD, FD.rg1E, FD.rg2E, FD.cstep, FD.lstep, FD.yesT, FD.nl_len, FD.R.flat, FD.revE, FD.dtupE, FD.movA, FD.rng1I, FD.dcE, FD.dixD, FD.parF, FD.owns, FD.nl_drop, FD.nl_take, FD.nl_append, FD.nl_reverse, FD.bkF, FD.isL, FD.stoG, List.getD, hx]
    · show L.set (o.length - 1) w = _
      rw [← hL, ← TL.map_set_range (by omega)]
      show _ = (List.range L.length).map fun x => if x = o.length - 1 then w else _
      rw [hL]
  | l =>
    refine ⟨TL.upL (TL.lastL o) o.length t, TL.upL_row (by omega), TL.upL_len (by omega), by unfold namesAt; rw [List.length_map, List.length_range], fun x hx => ?_, fun L w hL => rfl⟩
    unfold namesAt
    rw [TL.getD_map (by rw [List.length_range]; exact hx)]
    congr 1
    simp [FD.seqF, FD.asgF, FD.ifF, FD.retF, FD.retNF, FD.nxF, FD.nameE, FD.constE, FD.op2, FD.op1, FD.vw, FD.fz, FD.mv, FD.own, FD.addD, FD.subD, FD.mulD, FD.fdivD, FD.modD, FD.powD, FD.intD, FD.callE, FD.vws, FD.consA, FD.nilA, FD.nameG, FD.fnF, FD.outs, FD.M.toD, FD.M.flat, FD.boolT, FD.fgtF, FD.wipeF, FD.callG, FD.argsG, FD.giveG, FD.andV, FD.orV, FD.notV, FD.andT, FD.orT, FD.notT, FD.ifV, FD.lstE, FD.fzs, FD.tupE, FD.mvs, FD.cmpI, FD.isD, FD.isiD, FD.Kd.is, FD.lenP, FD.lstR, FD.bmE, FD.takeR, FD.backF, FD.chainE, FD.exprF, FD.offF, FD.compD, FD.listI, FD.forF, FD.tupG, FD.consG, FD.nilG, FD.partsM, FD.enumI, FD.noneO, FD.someO, FD.sliceE, FD.negD, FD.rg1E, FD.rg2E, FD.cstep, FD.lstep, FD.yesT, FD.nl_len, FD.R.flat, FD.revE, FD.dtupE, FD.movA, FD.rng1I, FD.dcE, FD.dixD, FD.parF, FD.owns, FD.nl_drop, FD.nl_take, FD.nl_append, FD.nl_reverse, FD.bkF, FD.isL, FD.stoG, List.getD, hx]
theorem small_log {a b : Nat} (h : a ≤ b) (hb : b < 2 ^ 8000) : a.log2 < 8000 := by
  rcases Nat.eq_zero_or_pos a with z | z
  · subst z; simp [FD.seqF, FD.asgF, FD.ifF, FD.retF, FD.retNF, FD.nxF, FD.nameE, FD.constE, FD.op2, FD.op1, FD.vw, FD.fz, FD.mv, FD.own, FD.addD, FD.subD, FD.mulD, FD.fdivD, FD.modD, FD.powD, FD.intD, FD.callE, FD.vws, FD.consA, FD.nilA, FD.nameG, FD.fnF, FD.outs, FD.M.toD, FD.M.flat, FD.boolT, FD.fgtF, FD.wipeF, FD.callG, FD.argsG, FD.giveG, FD.andV, FD.orV, FD.notV, FD.andT, FD.orT, FD.notT, FD.ifV, FD.lstE, FD.fzs, FD.tupE, FD.mvs, FD.cmpI, FD.isD, FD.isiD, FD.Kd.is, FD.lenP, FD.lstR, FD.bmE, FD.takeR, FD.backF, FD.chainE, FD.exprF, FD.offF, FD.compD, FD.listI, FD.forF, FD.tupG, FD.consG, FD.nilG, FD.partsM, FD.enumI, FD.noneO, FD.someO, FD.sliceE, FD.negD, FD.rg1E, FD.rg2E, FD.cstep, FD.lstep, FD.yesT, FD.nl_len, FD.R.flat, FD.revE, FD.dtupE, FD.movA, FD.rng1I, FD.dcE, FD.dixD, FD.parF, FD.owns, FD.nl_drop, FD.nl_take, FD.nl_append, FD.nl_reverse, FD.bkF, FD.isL, FD.stoG]
  · exact (Nat.log2_lt (by omega)).mpr (by omega)
theorem run_taken_eq {o L : List Nat} (h : TL.Line o L) (h40 : o.length ≤ 40) {d : TL.Deed} (hR : (TL.lossOf d o L).sum < 2 ^ 8000) (hW : L.getD (TL.winner d o) 0 < 2 ^ 8000) (hd : TL.nextd o L = some d) {most : Option Nat} {left T : Nat} (ht : TL.turnsOf d o L most = (left, T)) :
    f_run_taken [.imm (.lst (nl o)), .imm (.lst (nl L)), .imm (mostD most)] = some (.dtup [.imm (dDd d), .imm (nD T), .lst (nl (TL.ordAt d o T)), .lst (nl (TL.lenAt d o L T left))], []) := by
  have hl := h.len
  have h2 := h.ord.two
  have nd := next_deed_eq h h40
  rw [hd] at nd
  have rl := ring_losers_eq h.ord h40 d
  have hle := losers_le h.ord d
  have hlp := TL.losers_pos h.ord d
  have bh := behind_eq h.ord h40 d T
  have hwl := TL.winner_lt h.ord d
  obtain ⟨U, u1, u2, u3, u4, u5⟩ := names_at h.ord d T
  have hw := ix_nl (xs := L) (i := TL.winner d o) (by omega) (by omega)
  have hlos : ∀ x ∈ TL.losers d o, x < L.length := fun x hx => by
    obtain ⟨i, hi, e⟩ := List.mem_iff_getElem.mp hx
    have := (TL.loser_ne h.ord d i).2
    unfold TL.loser at this
    rw [Nat.mod_eq_of_lt hi] at this
    simp [FD.seqF, FD.asgF, FD.ifF, FD.retF, FD.retNF, FD.nxF, FD.nameE, FD.constE, FD.op2, FD.op1, FD.vw, FD.fz, FD.mv, FD.own, FD.addD, FD.subD, FD.mulD, FD.fdivD, FD.modD, FD.powD, FD.intD, FD.callE, FD.vws, FD.consA, FD.nilA, FD.nameG, FD.fnF, FD.outs, FD.M.toD, FD.M.flat, FD.boolT, FD.fgtF, FD.wipeF, FD.callG, FD.argsG, FD.giveG, FD.andV, FD.orV, FD.notV, FD.andT, FD.orT, FD.notT, FD.ifV, FD.lstE, FD.fzs, FD.tupE, FD.mvs, FD.cmpI, FD.isD, FD.isiD, FD.Kd.is, FD.lenP, FD.lstR, FD.bmE, FD.takeR, FD.backF, FD.chainE, FD.exprF, FD.offF, FD.compD, FD.listI, FD.forF, FD.tupG, FD.consG, FD.nilG, FD.partsM, FD.enumI, FD.noneO, FD.someO, FD.sliceE, FD.negD, FD.rg1E, FD.rg2E, FD.cstep, FD.lstep, FD.yesT, FD.nl_len, FD.R.flat, FD.revE, FD.dtupE, FD.movA, FD.rng1I, FD.dcE, FD.dixD, FD.parF, FD.owns, FD.nl_drop, FD.nl_take, FD.nl_append, FD.nl_reverse, FD.bkF, FD.isL, FD.stoG, List.getD, hi, e] at this
    omega
  have c : ∀ a0 a2 a3 a4 a5 : Option M, cloopD [6] (nameG 6) yesT (op2 ixD (nameE 1) (nameE 6)) (nl (TL.losers d o)) [a0, some (.imm (.lst (nl L))), a2, a3, a4, a5, none, none, none, none, none, none, none, none, none, none] =
      some (nl (TL.lossOf d o L), [a0, some (.imm (.lst (nl L))), a2, a3, a4, a5, none, none, none, none, none, none, none, none, none, none]) := fun a0 a2 a3 a4 a5 => by
    have := cloopD_map (vs := [6]) (G := nameG 6) (p := yesT) (f := op2 ixD (nameE 1) (nameE 6)) (ρ := [a0, some (.imm (.lst (nl L))), a2, a3, a4, a5, none, none, none, none, none, none, none, none, none, none]) (fun dd => match dd with | .int i => nD (L.getD i.toNat 0) | _ => .non) (ds := nl (TL.losers d o)) fun dd hd => by
      obtain ⟨n, hn, rfl⟩ := List.mem_map.mp hd
      have hx := ix_nl (xs := L) (i := n) (hlos n hn) (by have := hlos n hn; omega)
      generalize L.getD n 0 = v at hx
      have e : (match nD n with | .int i => nD (L.getD i.toNat 0) | _ => .non) = nD (L.getD n 0) := rfl
      rw [e]
      have hx' := ix_nl (xs := L) (i := n) (hlos n hn) (by have := hlos n hn; omega)
      revert hx'
      generalize L.getD n 0 = v'
      intro hx'
      simp [FD.seqF, FD.asgF, FD.ifF, FD.retF, FD.retNF, FD.nxF, FD.nameE, FD.constE, FD.op2, FD.op1, FD.vw, FD.fz, FD.mv, FD.own, FD.addD, FD.subD, FD.mulD, FD.fdivD, FD.modD, FD.powD, FD.intD, FD.callE, FD.vws, FD.consA, FD.nilA, FD.nameG, FD.fnF, FD.outs, FD.M.toD, FD.M.flat, FD.boolT, FD.fgtF, FD.wipeF, FD.callG, FD.argsG, FD.giveG, FD.andV, FD.orV, FD.notV, FD.andT, FD.orT, FD.notT, FD.ifV, FD.lstE, FD.fzs, FD.tupE, FD.mvs, FD.cmpI, FD.isD, FD.isiD, FD.Kd.is, FD.lenP, FD.lstR, FD.bmE, FD.takeR, FD.backF, FD.chainE, FD.exprF, FD.offF, FD.compD, FD.listI, FD.forF, FD.tupG, FD.consG, FD.nilG, FD.partsM, FD.enumI, FD.noneO, FD.someO, FD.sliceE, FD.negD, FD.rg1E, FD.rg2E, FD.cstep, FD.lstep, FD.yesT, FD.nl_len, FD.R.flat, FD.revE, FD.dtupE, FD.movA, FD.rng1I, FD.dcE, FD.dixD, FD.parF, FD.owns, FD.nl_drop, FD.nl_take, FD.nl_append, FD.nl_reverse, FD.bkF, FD.isL, FD.stoG, nD] at hx'
      simp [FD.seqF, FD.asgF, FD.ifF, FD.retF, FD.retNF, FD.nxF, FD.nameE, FD.constE, FD.op2, FD.op1, FD.vw, FD.fz, FD.mv, FD.own, FD.addD, FD.subD, FD.mulD, FD.fdivD, FD.modD, FD.powD, FD.intD, FD.callE, FD.vws, FD.consA, FD.nilA, FD.nameG, FD.fnF, FD.outs, FD.M.toD, FD.M.flat, FD.boolT, FD.fgtF, FD.wipeF, FD.callG, FD.argsG, FD.giveG, FD.andV, FD.orV, FD.notV, FD.andT, FD.orT, FD.notT, FD.ifV, FD.lstE, FD.fzs, FD.tupE, FD.mvs, FD.cmpI, FD.isD, FD.isiD, FD.Kd.is, FD.lenP, FD.lstR, FD.bmE, FD.takeR, FD.backF, FD.chainE, FD.exprF, FD.offF, FD.compD, FD.listI, FD.forF, FD.tupG, FD.consG, FD.nilG, FD.partsM, FD.enumI, FD.noneO, FD.someO, FD.sliceE, FD.negD, FD.rg1E, FD.rg2E, FD.cstep, FD.lstep, FD.yesT, FD.nl_len, FD.R.flat, FD.revE, FD.dtupE, FD.movA, FD.rng1I, FD.dcE, FD.dixD, FD.parF, FD.owns, FD.nl_drop, FD.nl_take, FD.nl_append, FD.nl_reverse, FD.bkF, FD.isL, FD.stoG, nD, hx']
    rw [this]
    congr 2
    unfold nl TL.lossOf
    rw [List.map_map, List.map_map]
    exact List.map_congr_left fun x _ => rfl
  have hsum := sum_nl (TL.lossOf d o L)
  have hrp := TL.ring_pos h.len h.pos h.ord d
  have hg := TL.nextd_gt h hd
  generalize hLw : L.getD (TL.winner d o) 0 = Lw at *
  generalize hring : (TL.lossOf d o L).sum = ring at *
  generalize hlen : (TL.losers d o).length = m at *
  have hz := small40 (n := m) (by omega)
  have z1 := small40 (n := 1) (by omega)
  have z2 := small40 (n := 2) (by omega)
  cases most with
  | none =>
    obtain ⟨q, hq⟩ : ∃ q, q = (Lw - 1) / ring := ⟨_, rfl⟩
    have hqr : q * ring ≤ Lw - 1 := by rw [hq]; exact Nat.div_mul_le_self _ _
    have em : ((Lw : Int) - 1) / (ring : Int) = (q : Int) := by
      have : (Lw : Int) - 1 = ((Lw - 1 : Nat) : Int) := by omega
      rw [this, hq]
      rfl
    obtain ⟨l0, hl0⟩ : ∃ l0, l0 = Lw - q * ring := ⟨_, rfl⟩
    obtain ⟨t0, ht0⟩ : ∃ t0, t0 = q * m := ⟨_, rfl⟩
    have em1 : (Lw : Int) - (q : Int) * ring = (l0 : Int) := by
      have : ((q * ring : Nat) : Int) = (q : Int) * ring := Int.natCast_mul q ring
      omega
    have em2 : (q : Int) * m = (t0 : Int) := by rw [ht0]; exact (Int.natCast_mul q m).symm
    have s1 : sealB (0 < ring ∧ ring.log2 < 9000) = true := sealB_of ⟨hrp, by have := small_log (Nat.le_refl ring) hR; omega⟩
    have hqW : q < 2 ^ 8000 := by
      have : q ≤ q * ring := Nat.le_mul_of_pos_right q hrp
      omega
    have lq := small_log (Nat.le_refl q) hqW
    have lr := small_log (Nat.le_refl ring) hR
    have lm := small_log (a := m) (b := m) (Nat.le_refl m) (Nat.lt_of_lt_of_le (by omega : m < 2 ^ 6) (Nat.pow_le_pow_right (by omega) (by omega)))
    have b1 : bigOk (q : Int) (ring : Int) = true := big_of (by simp [FD.seqF, FD.asgF, FD.ifF, FD.retF, FD.retNF, FD.nxF, FD.nameE, FD.constE, FD.op2, FD.op1, FD.vw, FD.fz, FD.mv, FD.own, FD.addD, FD.subD, FD.mulD, FD.fdivD, FD.modD, FD.powD, FD.intD, FD.callE, FD.vws, FD.consA, FD.nilA, FD.nameG, FD.fnF, FD.outs, FD.M.toD, FD.M.flat, FD.boolT, FD.fgtF, FD.wipeF, FD.callG, FD.argsG, FD.giveG, FD.andV, FD.orV, FD.notV, FD.andT, FD.orT, FD.notT, FD.ifV, FD.lstE, FD.fzs, FD.tupE, FD.mvs, FD.cmpI, FD.isD, FD.isiD, FD.Kd.is, FD.lenP, FD.lstR, FD.bmE, FD.takeR, FD.backF, FD.chainE, FD.exprF, FD.offF, FD.compD, FD.listI, FD.forF, FD.tupG, FD.consG, FD.nilG, FD.partsM, FD.enumI, FD.noneO, FD.someO, FD.sliceE, FD.negD, FD.rg1E, FD.rg2E, FD.cstep, FD.lstep, FD.yesT, FD.nl_len, FD.R.flat, FD.revE, FD.dtupE, FD.movA, FD.rng1I, FD.dcE, FD.dixD, FD.parF, FD.owns, FD.nl_drop, FD.nl_take, FD.nl_append, FD.nl_reverse, FD.bkF, FD.isL, FD.stoG]; omega)
    have b2 : bigOk (q : Int) (m : Int) = true := big_of (by simp [FD.seqF, FD.asgF, FD.ifF, FD.retF, FD.retNF, FD.nxF, FD.nameE, FD.constE, FD.op2, FD.op1, FD.vw, FD.fz, FD.mv, FD.own, FD.addD, FD.subD, FD.mulD, FD.fdivD, FD.modD, FD.powD, FD.intD, FD.callE, FD.vws, FD.consA, FD.nilA, FD.nameG, FD.fnF, FD.outs, FD.M.toD, FD.M.flat, FD.boolT, FD.fgtF, FD.wipeF, FD.callG, FD.argsG, FD.giveG, FD.andV, FD.orV, FD.notV, FD.andT, FD.orT, FD.notT, FD.ifV, FD.lstE, FD.fzs, FD.tupE, FD.mvs, FD.cmpI, FD.isD, FD.isiD, FD.Kd.is, FD.lenP, FD.lstR, FD.bmE, FD.takeR, FD.backF, FD.chainE, FD.exprF, FD.offF, FD.compD, FD.listI, FD.forF, FD.tupG, FD.consG, FD.nilG, FD.partsM, FD.enumI, FD.noneO, FD.someO, FD.sliceE, FD.negD, FD.rg1E, FD.rg2E, FD.cstep, FD.lstep, FD.yesT, FD.nl_len, FD.R.flat, FD.revE, FD.dtupE, FD.movA, FD.rng1I, FD.dcE, FD.dixD, FD.parF, FD.owns, FD.nl_drop, FD.nl_take, FD.nl_append, FD.nl_reverse, FD.bkF, FD.isL, FD.stoG]; omega)
    have htw : TL.walkL none (TL.lossOf d o L) l0 t0 = (left, T) := by
      rw [← ht]
      unfold TL.turnsOf
      simp only [hLw, hring, hlen, ← hq, ← hl0, ← ht0]
    have lw := fun a0 a3 a4 a5 a6 a7 a8 a12 a13 a14 a15 => loop_walk (L := L) (by omega) none a0 a3 a4 a5 a6 a7 a8 a12 a13 a14 a15 (TL.losers d o) l0 t0 hlos
    have hlo : (TL.losers d o).map (fun x => L.getD x 0) = TL.lossOf d o L := rfl
    simp only [hlo, htw, mostD, B1, nD] at lw
    have ls := fun a0 a1 a2 a3 a5 a7 a8 a10 a11 a12 => loop_scatter (U := U) (L := L) (names := namesAt d o T) (n := o.length) (w := TL.winner d o) (left := left) (by omega) u1 u2 hl u3 u4 a0 a1 a2 a3 a5 a7 a8 a10 a11 a12 0 (Nat.zero_le _)
    have hz0 : nl (U.map fun x => if x < 0 then (if x = TL.winner d o then left else L.getD x 0) else 0) = List.replicate o.length (.int 0) := by
      have : (U.map fun x => if x < 0 then (if x = TL.winner d o then left else L.getD x 0) else 0) = List.replicate o.length 0 := by
        rw [← u2]
        exact List.map_eq_replicate_iff.mpr fun x _ => rfl
      rw [this]
      unfold nl
      rw [List.map_replicate]
      rfl
    simp only [hz0, List.drop_zero, B2, nD, ← u5 L left hl] at ls
    simp only [f_run_taken, F_run_taken, mostD]
    simp [FD.seqF, FD.asgF, FD.ifF, FD.retF, FD.retNF, FD.nxF, FD.nameE, FD.constE, FD.op2, FD.op1, FD.vw, FD.fz, FD.mv, FD.own, FD.addD, FD.subD, FD.mulD, FD.fdivD, FD.modD, FD.powD, FD.intD, FD.callE, FD.vws, FD.consA, FD.nilA, FD.nameG, FD.fnF, FD.outs, FD.M.toD, FD.M.flat, FD.boolT, FD.fgtF, FD.wipeF, FD.callG, FD.argsG, FD.giveG, FD.andV, FD.orV, FD.notV, FD.andT, FD.orT, FD.notT, FD.ifV, FD.lstE, FD.fzs, FD.tupE, FD.mvs, FD.cmpI, FD.isD, FD.isiD, FD.Kd.is, FD.lenP, FD.lstR, FD.bmE, FD.takeR, FD.backF, FD.chainE, FD.exprF, FD.offF, FD.compD, FD.listI, FD.forF, FD.tupG, FD.consG, FD.nilG, FD.partsM, FD.enumI, FD.noneO, FD.someO, FD.sliceE, FD.negD, FD.rg1E, FD.rg2E, FD.cstep, FD.lstep, FD.yesT, FD.nl_len, FD.R.flat, FD.revE, FD.dtupE, FD.movA, FD.rng1I, FD.dcE, FD.dixD, FD.parF, FD.owns, FD.nl_drop, FD.nl_take, FD.nl_append, FD.nl_reverse, FD.bkF, FD.isL, FD.stoG, nd, rl, c, hsum, hw, nD, hz, hlen, s1, em, b1, b2, em1, em2, lw]
    have bh' : f_behind_run [.imm (.lst (nl o)), .imm (dDd d), .imm (.int (T : Nat))] = _ := bh
    have s9 : sealB ((o.length : Int) < 9223372036854775808) = true := sealB_of (by omega)
    have z9 : smallL o.length = true := small40 (by omega)
    have hen : smallL L.length = true := small40 (by omega)
    have z4 : smallL 4 = true := small40 (by omega)
    simp [FD.seqF, FD.asgF, FD.ifF, FD.retF, FD.retNF, FD.nxF, FD.nameE, FD.constE, FD.op2, FD.op1, FD.vw, FD.fz, FD.mv, FD.own, FD.addD, FD.subD, FD.mulD, FD.fdivD, FD.modD, FD.powD, FD.intD, FD.callE, FD.vws, FD.consA, FD.nilA, FD.nameG, FD.fnF, FD.outs, FD.M.toD, FD.M.flat, FD.boolT, FD.fgtF, FD.wipeF, FD.callG, FD.argsG, FD.giveG, FD.andV, FD.orV, FD.notV, FD.andT, FD.orT, FD.notT, FD.ifV, FD.lstE, FD.fzs, FD.tupE, FD.mvs, FD.cmpI, FD.isD, FD.isiD, FD.Kd.is, FD.lenP, FD.lstR, FD.bmE, FD.takeR, FD.backF, FD.chainE, FD.exprF, FD.offF, FD.compD, FD.listI, FD.forF, FD.tupG, FD.consG, FD.nilG, FD.partsM, FD.enumI, FD.noneO, FD.someO, FD.sliceE, FD.negD, FD.rg1E, FD.rg2E, FD.cstep, FD.lstep, FD.yesT, FD.nl_len, FD.R.flat, FD.revE, FD.dtupE, FD.movA, FD.rng1I, FD.dcE, FD.dixD, FD.parF, FD.owns, FD.nl_drop, FD.nl_take, FD.nl_append, FD.nl_reverse, FD.bkF, FD.isL, FD.stoG, bh', z1, hl]
    rw [if_pos ⟨s9, z9⟩]
    simp [FD.seqF, FD.asgF, FD.ifF, FD.retF, FD.retNF, FD.nxF, FD.nameE, FD.constE, FD.op2, FD.op1, FD.vw, FD.fz, FD.mv, FD.own, FD.addD, FD.subD, FD.mulD, FD.fdivD, FD.modD, FD.powD, FD.intD, FD.callE, FD.vws, FD.consA, FD.nilA, FD.nameG, FD.fnF, FD.outs, FD.M.toD, FD.M.flat, FD.boolT, FD.fgtF, FD.wipeF, FD.callG, FD.argsG, FD.giveG, FD.andV, FD.orV, FD.notV, FD.andT, FD.orT, FD.notT, FD.ifV, FD.lstE, FD.fzs, FD.tupE, FD.mvs, FD.cmpI, FD.isD, FD.isiD, FD.Kd.is, FD.lenP, FD.lstR, FD.bmE, FD.takeR, FD.backF, FD.chainE, FD.exprF, FD.offF, FD.compD, FD.listI, FD.forF, FD.tupG, FD.consG, FD.nilG, FD.partsM, FD.enumI, FD.noneO, FD.someO, FD.sliceE, FD.negD, FD.rg1E, FD.rg2E, FD.cstep, FD.lstep, FD.yesT, FD.nl_len, FD.R.flat, FD.revE, FD.dtupE, FD.movA, FD.rng1I, FD.dcE, FD.dixD, FD.parF, FD.owns, FD.nl_drop, FD.nl_take, FD.nl_append, FD.nl_reverse, FD.bkF, FD.isL, FD.stoG, hl, z9, enumD, ls, z4]
  | some k =>
    obtain ⟨q0, hq0⟩ : ∃ q0, q0 = (Lw - 1) / ring := ⟨_, rfl⟩
    obtain ⟨p, hp0⟩ : ∃ p, p = k / m := ⟨_, rfl⟩
    obtain ⟨q, hq⟩ : ∃ q, q = min q0 p := ⟨_, rfl⟩
    have hqr : q * ring ≤ Lw - 1 := by
      have h1 : q * ring ≤ q0 * ring := Nat.mul_le_mul_right _ (by omega)
      have h2 : q0 * ring ≤ Lw - 1 := by rw [hq0]; exact Nat.div_mul_le_self _ _
      omega
    have em : ((Lw : Int) - 1) / (ring : Int) = (q0 : Int) := by
      have : (Lw : Int) - 1 = ((Lw - 1 : Nat) : Int) := by omega
      rw [this, hq0]
      rfl
    have em5 : (k : Int) / (m : Int) = (p : Int) := by rw [hp0]; rfl
    have em6 : (if p < q0 then (p : Int) else (q0 : Int)) = (q : Int) := by split <;> omega
    obtain ⟨l0, hl0⟩ : ∃ l0, l0 = Lw - q * ring := ⟨_, rfl⟩
    obtain ⟨t0, ht0⟩ : ∃ t0, t0 = q * m := ⟨_, rfl⟩
    have em1 : (Lw : Int) - (q : Int) * ring = (l0 : Int) := by
      have : ((q * ring : Nat) : Int) = (q : Int) * ring := Int.natCast_mul q ring
      omega
    have em2 : (q : Int) * m = (t0 : Int) := by rw [ht0]; exact (Int.natCast_mul q m).symm
    have s0 : sealB (0 < m ∧ m.log2 < 9000) = true := sealB_of ⟨hlp, by have := small_log (a := m) (b := m) (Nat.le_refl m) (Nat.lt_of_lt_of_le (by omega : m < 2 ^ 6) (Nat.pow_le_pow_right (by omega) (by omega))); omega⟩
    have s1 : sealB (0 < ring ∧ ring.log2 < 9000) = true := sealB_of ⟨hrp, by have := small_log (Nat.le_refl ring) hR; omega⟩
    have hqW : q < 2 ^ 8000 := by
      have : q ≤ q * ring := Nat.le_mul_of_pos_right q hrp
      omega
    have lq := small_log (Nat.le_refl q) hqW
    have lr := small_log (Nat.le_refl ring) hR
    have lm := small_log (a := m) (b := m) (Nat.le_refl m) (Nat.lt_of_lt_of_le (by omega : m < 2 ^ 6) (Nat.pow_le_pow_right (by omega) (by omega)))
    have b1 : bigOk (q : Int) (ring : Int) = true := big_of (by simp [FD.seqF, FD.asgF, FD.ifF, FD.retF, FD.retNF, FD.nxF, FD.nameE, FD.constE, FD.op2, FD.op1, FD.vw, FD.fz, FD.mv, FD.own, FD.addD, FD.subD, FD.mulD, FD.fdivD, FD.modD, FD.powD, FD.intD, FD.callE, FD.vws, FD.consA, FD.nilA, FD.nameG, FD.fnF, FD.outs, FD.M.toD, FD.M.flat, FD.boolT, FD.fgtF, FD.wipeF, FD.callG, FD.argsG, FD.giveG, FD.andV, FD.orV, FD.notV, FD.andT, FD.orT, FD.notT, FD.ifV, FD.lstE, FD.fzs, FD.tupE, FD.mvs, FD.cmpI, FD.isD, FD.isiD, FD.Kd.is, FD.lenP, FD.lstR, FD.bmE, FD.takeR, FD.backF, FD.chainE, FD.exprF, FD.offF, FD.compD, FD.listI, FD.forF, FD.tupG, FD.consG, FD.nilG, FD.partsM, FD.enumI, FD.noneO, FD.someO, FD.sliceE, FD.negD, FD.rg1E, FD.rg2E, FD.cstep, FD.lstep, FD.yesT, FD.nl_len, FD.R.flat, FD.revE, FD.dtupE, FD.movA, FD.rng1I, FD.dcE, FD.dixD, FD.parF, FD.owns, FD.nl_drop, FD.nl_take, FD.nl_append, FD.nl_reverse, FD.bkF, FD.isL, FD.stoG]; omega)
    have b2 : bigOk (q : Int) (m : Int) = true := big_of (by simp [FD.seqF, FD.asgF, FD.ifF, FD.retF, FD.retNF, FD.nxF, FD.nameE, FD.constE, FD.op2, FD.op1, FD.vw, FD.fz, FD.mv, FD.own, FD.addD, FD.subD, FD.mulD, FD.fdivD, FD.modD, FD.powD, FD.intD, FD.callE, FD.vws, FD.consA, FD.nilA, FD.nameG, FD.fnF, FD.outs, FD.M.toD, FD.M.flat, FD.boolT, FD.fgtF, FD.wipeF, FD.callG, FD.argsG, FD.giveG, FD.andV, FD.orV, FD.notV, FD.andT, FD.orT, FD.notT, FD.ifV, FD.lstE, FD.fzs, FD.tupE, FD.mvs, FD.cmpI, FD.isD, FD.isiD, FD.Kd.is, FD.lenP, FD.lstR, FD.bmE, FD.takeR, FD.backF, FD.chainE, FD.exprF, FD.offF, FD.compD, FD.listI, FD.forF, FD.tupG, FD.consG, FD.nilG, FD.partsM, FD.enumI, FD.noneO, FD.someO, FD.sliceE, FD.negD, FD.rg1E, FD.rg2E, FD.cstep, FD.lstep, FD.yesT, FD.nl_len, FD.R.flat, FD.revE, FD.dtupE, FD.movA, FD.rng1I, FD.dcE, FD.dixD, FD.parF, FD.owns, FD.nl_drop, FD.nl_take, FD.nl_append, FD.nl_reverse, FD.bkF, FD.isL, FD.stoG]; omega)
    have htw : TL.walkL (some k) (TL.lossOf d o L) l0 t0 = (left, T) := by
      rw [← ht]
      unfold TL.turnsOf
      simp only [hLw, hring, hlen, ← hq0, ← hp0, ← hq, ← hl0, ← ht0]
    have lw := fun a0 a3 a4 a5 a6 a7 a8 a12 a13 a14 a15 => loop_walk (L := L) (by omega) (some k) a0 a3 a4 a5 a6 a7 a8 a12 a13 a14 a15 (TL.losers d o) l0 t0 hlos
    have hlo : (TL.losers d o).map (fun x => L.getD x 0) = TL.lossOf d o L := rfl
    simp only [hlo, htw, mostD, B1, nD] at lw
    have ls := fun a0 a1 a2 a3 a5 a7 a8 a10 a11 a12 => loop_scatter (U := U) (L := L) (names := namesAt d o T) (n := o.length) (w := TL.winner d o) (left := left) (by omega) u1 u2 hl u3 u4 a0 a1 a2 a3 a5 a7 a8 a10 a11 a12 0 (Nat.zero_le _)
    have hz0 : nl (U.map fun x => if x < 0 then (if x = TL.winner d o then left else L.getD x 0) else 0) = List.replicate o.length (.int 0) := by
      have : (U.map fun x => if x < 0 then (if x = TL.winner d o then left else L.getD x 0) else 0) = List.replicate o.length 0 := by
        rw [← u2]
        exact List.map_eq_replicate_iff.mpr fun x _ => rfl
      rw [this]
      unfold nl
      rw [List.map_replicate]
      rfl
    simp only [hz0, List.drop_zero, B2, nD, ← u5 L left hl] at ls
    simp only [f_run_taken, F_run_taken, mostD]
    simp [FD.seqF, FD.asgF, FD.ifF, FD.retF, FD.retNF, FD.nxF, FD.nameE, FD.constE, FD.op2, FD.op1, FD.vw, FD.fz, FD.mv, FD.own, FD.addD, FD.subD, FD.mulD, FD.fdivD, FD.modD, FD.powD, FD.intD, FD.callE, FD.vws, FD.consA, FD.nilA, FD.nameG, FD.fnF, FD.outs, FD.M.toD, FD.M.flat, FD.boolT, FD.fgtF, FD.wipeF, FD.callG, FD.argsG, FD.giveG, FD.andV, FD.orV, FD.notV, FD.andT, FD.orT, FD.notT, FD.ifV, FD.lstE, FD.fzs, FD.tupE, FD.mvs, FD.cmpI, FD.isD, FD.isiD, FD.Kd.is, FD.lenP, FD.lstR, FD.bmE, FD.takeR, FD.backF, FD.chainE, FD.exprF, FD.offF, FD.compD, FD.listI, FD.forF, FD.tupG, FD.consG, FD.nilG, FD.partsM, FD.enumI, FD.noneO, FD.someO, FD.sliceE, FD.negD, FD.rg1E, FD.rg2E, FD.cstep, FD.lstep, FD.yesT, FD.nl_len, FD.R.flat, FD.revE, FD.dtupE, FD.movA, FD.rng1I, FD.dcE, FD.dixD, FD.parF, FD.owns, FD.nl_drop, FD.nl_take, FD.nl_append, FD.nl_reverse, FD.bkF, FD.isL, FD.stoG, nd, rl, c, hsum, hw, nD, hz, hlen, s1, s0, em, em5, min2D, em6, b1, b2, em1, em2, lw]
    have bh' : f_behind_run [.imm (.lst (nl o)), .imm (dDd d), .imm (.int (T : Nat))] = _ := bh
    have s9 : sealB ((o.length : Int) < 9223372036854775808) = true := sealB_of (by omega)
    have z9 : smallL o.length = true := small40 (by omega)
    have hen : smallL L.length = true := small40 (by omega)
    have z4 : smallL 4 = true := small40 (by omega)
    simp [FD.seqF, FD.asgF, FD.ifF, FD.retF, FD.retNF, FD.nxF, FD.nameE, FD.constE, FD.op2, FD.op1, FD.vw, FD.fz, FD.mv, FD.own, FD.addD, FD.subD, FD.mulD, FD.fdivD, FD.modD, FD.powD, FD.intD, FD.callE, FD.vws, FD.consA, FD.nilA, FD.nameG, FD.fnF, FD.outs, FD.M.toD, FD.M.flat, FD.boolT, FD.fgtF, FD.wipeF, FD.callG, FD.argsG, FD.giveG, FD.andV, FD.orV, FD.notV, FD.andT, FD.orT, FD.notT, FD.ifV, FD.lstE, FD.fzs, FD.tupE, FD.mvs, FD.cmpI, FD.isD, FD.isiD, FD.Kd.is, FD.lenP, FD.lstR, FD.bmE, FD.takeR, FD.backF, FD.chainE, FD.exprF, FD.offF, FD.compD, FD.listI, FD.forF, FD.tupG, FD.consG, FD.nilG, FD.partsM, FD.enumI, FD.noneO, FD.someO, FD.sliceE, FD.negD, FD.rg1E, FD.rg2E, FD.cstep, FD.lstep, FD.yesT, FD.nl_len, FD.R.flat, FD.revE, FD.dtupE, FD.movA, FD.rng1I, FD.dcE, FD.dixD, FD.parF, FD.owns, FD.nl_drop, FD.nl_take, FD.nl_append, FD.nl_reverse, FD.bkF, FD.isL, FD.stoG, bh', z1, hl]
    rw [if_pos ⟨s9, z9⟩]
    simp [FD.seqF, FD.asgF, FD.ifF, FD.retF, FD.retNF, FD.nxF, FD.nameE, FD.constE, FD.op2, FD.op1, FD.vw, FD.fz, FD.mv, FD.own, FD.addD, FD.subD, FD.mulD, FD.fdivD, FD.modD, FD.powD, FD.intD, FD.callE, FD.vws, FD.consA, FD.nilA, FD.nameG, FD.fnF, FD.outs, FD.M.toD, FD.M.flat, FD.boolT, FD.fgtF, FD.wipeF, FD.callG, FD.argsG, FD.giveG, FD.andV, FD.orV, FD.notV, FD.andT, FD.orT, FD.notT, FD.ifV, FD.lstE, FD.fzs, FD.tupE, FD.mvs, FD.cmpI, FD.isD, FD.isiD, FD.Kd.is, FD.lenP, FD.lstR, FD.bmE, FD.takeR, FD.backF, FD.chainE, FD.exprF, FD.offF, FD.compD, FD.listI, FD.forF, FD.tupG, FD.consG, FD.nilG, FD.partsM, FD.enumI, FD.noneO, FD.someO, FD.sliceE, FD.negD, FD.rg1E, FD.rg2E, FD.cstep, FD.lstep, FD.yesT, FD.nl_len, FD.R.flat, FD.revE, FD.dtupE, FD.movA, FD.rng1I, FD.dcE, FD.dixD, FD.parF, FD.owns, FD.nl_drop, FD.nl_take, FD.nl_append, FD.nl_reverse, FD.bkF, FD.isL, FD.stoG, hl, z9, enumD, ls, z4]
end Law
set_option linter.all false
set_option maxRecDepth 100000
set_option maxHeartbeats 4000000
namespace Law
open PySem PySem.Spec PyProof.Rows L2 FD
/-- lengths that are not too great -/
structure Fit (o L : List Nat) : Prop extends TL.Line o L where
  n40 : o.length ≤ 40
  sum : L.sum < 2 ^ 8000
theorem sum_ge {L : List Nat} {i : Nat} (h : i < L.length) : L.getD i 0 ≤ L.sum := by
  have := TL.sum_set (w := 0) h
  omega
theorem taken_eq {o L : List Nat} (h : Fit o L) (hR : ∀ d, (TL.lossOf d o L).sum < 2 ^ 8000) : f_taken [.imm (.lst (nl o)), .imm (.lst (nl L))] = match TL.takeS o L with
    | none => some (.imm .non, [])
    | some (d, o', L') => some (.dtup [.imm (dDd d), .lst (nl o'), .lst (nl L')], []) := by
  have hl := h.len
  have hc := check_lengths_ok h.toLine h.n40
  have nd := next_deed_eq h.toLine h.n40
  cases hd : TL.nextd o L with
  | none =>
    rw [TL.takeS_none.mpr hd]
    rw [hd] at nd
    simp [FD.seqF, FD.asgF, FD.ifF, FD.retF, FD.retNF, FD.nxF, FD.nameE, FD.constE, FD.op2, FD.op1, FD.vw, FD.fz, FD.mv, FD.own, FD.addD, FD.subD, FD.mulD, FD.fdivD, FD.modD, FD.powD, FD.intD, FD.callE, FD.vws, FD.consA, FD.nilA, FD.nameG, FD.fnF, FD.outs, FD.M.toD, FD.M.flat, FD.boolT, FD.fgtF, FD.wipeF, FD.callG, FD.argsG, FD.giveG, FD.andV, FD.orV, FD.notV, FD.andT, FD.orT, FD.notT, FD.ifV, FD.lstE, FD.fzs, FD.tupE, FD.mvs, FD.cmpI, FD.isD, FD.isiD, FD.Kd.is, FD.lenP, FD.lstR, FD.bmE, FD.takeR, FD.backF, FD.chainE, FD.exprF, FD.offF, FD.compD, FD.listI, FD.forF, FD.tupG, FD.consG, FD.nilG, FD.partsM, FD.enumI, FD.noneO, FD.someO, FD.sliceE, FD.negD, FD.rg1E, FD.rg2E, FD.cstep, FD.lstep, FD.yesT, FD.nl_len, FD.R.flat, FD.revE, FD.dtupE, FD.movA, FD.rng1I, FD.dcE, FD.dixD, FD.parF, FD.owns, FD.nl_drop, FD.nl_take, FD.nl_append, FD.nl_reverse, FD.bkF, FD.isL, FD.stoG, FD.listD, FD.appE, FD.ixM, FD.sliceM, FD.obsT, FD.obsF, FD.frzS, f_taken, F_taken, hc, nd]
  | some d =>
    have hg := TL.nextd_gt h.toLine hd
    have ht := TL.turns_one h.len h.pos h.ord d hg
    have hw := TL.winner_lt h.ord d
    have hrt := run_taken_eq h.toLine h.n40 (hR d) (by have := sum_ge (L := L) (i := TL.winner d o) (by omega); have := h.sum; omega) hd ht
    have h1 := TL.take_at h.len h.ord d 0 (L.getD (TL.winner d o) 0) hg
    rw [TL.ordAt_zero h.ord, TL.lenAt_zero h.len h.ord] at h1
    have e : TL.leftAt d o L 1 = L.getD (TL.winner d o) 0 - L.getD (TL.loser d o 0) 0 := by
      have : TL.spent d o L 1 = 0 + L.getD (TL.loser d o 0) 0 := rfl
      unfold TL.leftAt
      rw [this, Nat.zero_add]
    rw [h1]
    rw [e] at hrt
    rw [hd] at nd
    have hds : ∀ d : TL.Deed, (match dDd d with | .non => some (M.imm (.bl true)) | .opq _ => none | _ => some (M.imm (.bl false))) = some (M.imm (.bl false)) := fun d => by cases d <;> rfl
    have z3 : smallL 3 = true := small40 (by omega)
    simp only [mostD, nD] at hrt
    have hrt' : f_run_taken [.imm (.lst (nl o)), .imm (.lst (nl L)), .imm (.int 1)] = _ := hrt
    cases d <;> simp [FD.seqF, FD.asgF, FD.ifF, FD.retF, FD.retNF, FD.nxF, FD.nameE, FD.constE, FD.op2, FD.op1, FD.vw, FD.fz, FD.mv, FD.own, FD.addD, FD.subD, FD.mulD, FD.fdivD, FD.modD, FD.powD, FD.intD, FD.callE, FD.vws, FD.consA, FD.nilA, FD.nameG, FD.fnF, FD.outs, FD.M.toD, FD.M.flat, FD.boolT, FD.fgtF, FD.wipeF, FD.callG, FD.argsG, FD.giveG, FD.andV, FD.orV, FD.notV, FD.andT, FD.orT, FD.notT, FD.ifV, FD.lstE, FD.fzs, FD.tupE, FD.mvs, FD.cmpI, FD.isD, FD.isiD, FD.Kd.is, FD.lenP, FD.lstR, FD.bmE, FD.takeR, FD.backF, FD.chainE, FD.exprF, FD.offF, FD.compD, FD.listI, FD.forF, FD.tupG, FD.consG, FD.nilG, FD.partsM, FD.enumI, FD.noneO, FD.someO, FD.sliceE, FD.negD, FD.rg1E, FD.rg2E, FD.cstep, FD.lstep, FD.yesT, FD.nl_len, FD.R.flat, FD.revE, FD.dtupE, FD.movA, FD.rng1I, FD.dcE, FD.dixD, FD.parF, FD.owns, FD.nl_drop, FD.nl_take, FD.nl_append, FD.nl_reverse, FD.bkF, FD.isL, FD.stoG, FD.listD, FD.appE, FD.ixM, FD.sliceM, FD.obsT, FD.obsF, FD.frzS, f_taken, F_taken, hc, nd, hrt', dDd, z3]
end Law
set_option linter.all false
set_option maxRecDepth 100000
set_option maxHeartbeats 4000000
namespace Law
open PySem PySem.Spec PyProof.Rows L2 FD
/-- the letters of a list of some letters weigh no more than all -/
theorem part_sum {L l : List Nat} (nd : l.Nodup) (h : ∀ x ∈ l, x < L.length) : (l.map fun x => L.getD x 0).sum ≤ L.sum := by
  have hU : TL.Row (l ++ (List.range L.length).filter (fun x => decide (x ∉ l))) := by
    have hnd : (l ++ (List.range L.length).filter (fun x => decide (x ∉ l))).Nodup := List.nodup_append.mpr ⟨nd, List.nodup_range.sublist List.filter_sublist, fun a ha b hb e => by
      have := (List.mem_filter.mp hb).2
      subst e
      simp [FD.seqF, FD.asgF, FD.ifF, FD.retF, FD.retNF, FD.nxF, FD.nameE, FD.constE, FD.op2, FD.op1, FD.vw, FD.fz, FD.mv, FD.own, FD.addD, FD.subD, FD.mulD, FD.fdivD, FD.modD, FD.powD, FD.intD, FD.callE, FD.vws, FD.consA, FD.nilA, FD.nameG, FD.fnF, FD.outs, FD.M.toD, FD.M.flat, FD.boolT, FD.fgtF, FD.wipeF, FD.callG, FD.argsG, FD.giveG, FD.andV, FD.orV, FD.notV, FD.andT, FD.orT, FD.notT, FD.ifV, FD.lstE, FD.fzs, FD.tupE, FD.mvs, FD.cmpI, FD.isD, FD.isiD, FD.Kd.is, FD.lenP, FD.lstR, FD.bmE, FD.takeR, FD.backF, FD.chainE, FD.exprF, FD.offF, FD.compD, FD.listI, FD.forF, FD.tupG, FD.consG, FD.nilG, FD.partsM, FD.enumI, FD.noneO, FD.someO, FD.sliceE, FD.negD, FD.rg1E, FD.rg2E, FD.cstep, FD.lstep, FD.yesT, FD.nl_len, FD.R.flat, FD.revE, FD.dtupE, FD.movA, FD.rng1I, FD.dcE, FD.dixD, FD.parF, FD.owns, FD.nl_drop, FD.nl_take, FD.nl_append, FD.nl_reverse, FD.bkF, FD.isL, FD.stoG, FD.listD, FD.appE, FD.ixM, FD.sliceM, FD.obsT, FD.obsF, FD.frzS] at this
      exact this ha⟩
    have hlt : ∀ x ∈ l ++ (List.range L.length).filter (fun x => decide (x ∉ l)), x < L.length := fun x hx => by
      rcases List.mem_append.mp hx with hx | hx
      · exact h x hx
      · exact List.mem_range.mp (List.mem_filter.mp hx).1
    have hge : L.length ≤ (l ++ (List.range L.length).filter (fun x => decide (x ∉ l))).length := by
      have hsub : ∀ x ∈ List.range L.length, x ∈ l ++ (List.range L.length).filter (fun x => decide (x ∉ l)) := fun x hx => by
        rcases Classical.em (x ∈ l) with q | q
        · exact List.mem_append_left _ q
        · exact List.mem_append_right _ (List.mem_filter.mpr ⟨hx, by simpa [FD.seqF, FD.asgF, FD.ifF, FD.retF, FD.retNF, FD.nxF, FD.nameE, FD.constE, FD.op2, FD.op1, FD.vw, FD.fz, FD.mv, FD.own, FD.addD, FD.subD, FD.mulD, FD.fdivD, FD.modD, FD.powD, FD.intD, FD.callE, FD.vws, FD.consA, FD.nilA, FD.nameG, FD.fnF, FD.outs, FD.M.toD, FD.M.flat, FD.boolT, FD.fgtF, FD.wipeF, FD.callG, FD.argsG, FD.giveG, FD.andV, FD.orV, FD.notV, FD.andT, FD.orT, FD.notT, FD.ifV, FD.lstE, FD.fzs, FD.tupE, FD.mvs, FD.cmpI, FD.isD, FD.isiD, FD.Kd.is, FD.lenP, FD.lstR, FD.bmE, FD.takeR, FD.backF, FD.chainE, FD.exprF, FD.offF, FD.compD, FD.listI, FD.forF, FD.tupG, FD.consG, FD.nilG, FD.partsM, FD.enumI, FD.noneO, FD.someO, FD.sliceE, FD.negD, FD.rg1E, FD.rg2E, FD.cstep, FD.lstep, FD.yesT, FD.nl_len, FD.R.flat, FD.revE, FD.dtupE, FD.movA, FD.rng1I, FD.dcE, FD.dixD, FD.parF, FD.owns, FD.nl_drop, FD.nl_take, FD.nl_append, FD.nl_reverse, FD.bkF, FD.isL, FD.stoG, FD.listD, FD.appE, FD.ixM, FD.sliceM, FD.obsT, FD.obsF, FD.frzS] using q⟩)
      have := (List.nodup_range (n := L.length)).length_le_of_subset hsub
      rwa [List.length_range] at this
    exact ⟨hnd, fun x hx => Nat.lt_of_lt_of_le (hlt x hx) hge⟩
  have hlen : (l ++ (List.range L.length).filter (fun x => decide (x ∉ l))).length = L.length := by
    have h1 := TL.nodup_le L.length _ hU.nd fun x hx => by
      rcases List.mem_append.mp hx with hx | hx
      · exact h x hx
      · exact List.mem_range.mp (List.mem_filter.mp hx).1
    have h2 : L.length ≤ (l ++ (List.range L.length).filter (fun x => decide (x ∉ l))).length := by
      rcases Nat.lt_or_ge (l ++ (List.range L.length).filter (fun x => decide (x ∉ l))).length L.length with q | q
      · have hm : ∀ x, x < L.length → x ∈ l ++ (List.range L.length).filter (fun x => decide (x ∉ l)) := fun x hx => by
          rcases Classical.em (x ∈ l) with q | q
          · exact List.mem_append_left _ q
          · exact List.mem_append_right _ (List.mem_filter.mpr ⟨List.mem_range.mpr hx, by simpa [FD.seqF, FD.asgF, FD.ifF, FD.retF, FD.retNF, FD.nxF, FD.nameE, FD.constE, FD.op2, FD.op1, FD.vw, FD.fz, FD.mv, FD.own, FD.addD, FD.subD, FD.mulD, FD.fdivD, FD.modD, FD.powD, FD.intD, FD.callE, FD.vws, FD.consA, FD.nilA, FD.nameG, FD.fnF, FD.outs, FD.M.toD, FD.M.flat, FD.boolT, FD.fgtF, FD.wipeF, FD.callG, FD.argsG, FD.giveG, FD.andV, FD.orV, FD.notV, FD.andT, FD.orT, FD.notT, FD.ifV, FD.lstE, FD.fzs, FD.tupE, FD.mvs, FD.cmpI, FD.isD, FD.isiD, FD.Kd.is, FD.lenP, FD.lstR, FD.bmE, FD.takeR, FD.backF, FD.chainE, FD.exprF, FD.offF, FD.compD, FD.listI, FD.forF, FD.tupG, FD.consG, FD.nilG, FD.partsM, FD.enumI, FD.noneO, FD.someO, FD.sliceE, FD.negD, FD.rg1E, FD.rg2E, FD.cstep, FD.lstep, FD.yesT, FD.nl_len, FD.R.flat, FD.revE, FD.dtupE, FD.movA, FD.rng1I, FD.dcE, FD.dixD, FD.parF, FD.owns, FD.nl_drop, FD.nl_take, FD.nl_append, FD.nl_reverse, FD.bkF, FD.isL, FD.stoG, FD.listD, FD.appE, FD.ixM, FD.sliceM, FD.obsT, FD.obsF, FD.frzS] using q⟩)
        have := hU.lt _ (hm _ q)
        omega
      · exact q
    omega
  have p := (TL.row_perm hU).map (fun x => L.getD x 0)
  rw [hlen, TL.map_getD_all] at p
  have := p.sum_nat
  rw [List.map_append, List.sum_append] at this
  omega
theorem losers_nd {o : List Nat} (h : TL.Ord o) (d : TL.Deed) : (TL.losers d o).Nodup ∧ ∀ x ∈ TL.losers d o, x < o.length := by
  cases d with
  | u => exact ⟨(List.reverse_perm _).nodup_iff.mpr (h.nd.sublist (List.drop_sublist _ _)), fun x hx => h.lt x (List.mem_of_mem_drop (List.mem_reverse.mp hx))⟩
  | l => exact ⟨(List.reverse_perm _).nodup_iff.mpr (List.nodup_range' ..), fun x hx => (TL.mem_losL.mp hx).2⟩
theorem ring_le {o L : List Nat} (h : TL.Line o L) (d : TL.Deed) : (TL.lossOf d o L).sum ≤ L.sum := by
  have := losers_nd h.ord d
  exact part_sum this.1 fun x hx => by rw [h.len]; exact this.2 x hx
theorem Fit.ring {o L : List Nat} (h : Fit o L) (d : TL.Deed) : (TL.lossOf d o L).sum < 2 ^ 8000 := Nat.lt_of_le_of_lt (ring_le h.toLine d) h.sum
theorem Fit.at_ {o L : List Nat} (h : Fit o L) {d : TL.Deed} {T left : Nat} (hd : TL.nextd o L = some d) (ht : TL.turnsOf d o L none = (left, T)) : Fit (TL.ordAt d o T) (TL.lenAt d o L T left) := by
  obtain ⟨_, _, h2, _, _, h3⟩ := TL.run_facts h.toLine hd ht
  have hs := h.toLine.sum_at d T left
  refine ⟨h.toLine.at_ d T h2, by rw [TL.ordAt_len]; exact h.n40, Nat.lt_of_le_of_lt (by omega) h.sum⟩
noncomputable def runD (r : TL.Deed × Nat) : D := .tup [dDd r.1, nD r.2]
end Law
set_option linter.all false
set_option maxRecDepth 100000
set_option maxHeartbeats 4000000
namespace Law
open PySem PySem.Spec PyProof.Rows L2 FD
theorem runs_le {o L : List Nat} {rs : List (TL.Deed × Nat)} {o2 L2 : List Nat} (h : TL.Rn o L rs o2 L2) (hl : TL.Line o L) : rs.length ≤ L.sum := by
  induction h with
  | done _ => exact Nat.zero_le _
  | @run o L o2 L2 d T left rs hd ht _ ih =>
    obtain ⟨_, _, h2, _, _, h3⟩ := TL.run_facts hl hd ht
    have := ih (hl.at_ _ _ h2)
    have hs := hl.sum_at d T left
    rw [List.length_cons]
    omega
noncomputable def PW : TF := obsT (boolT (op2 (isD true) (callG [] f_next_deed (consA (nameE 0) (consA (nameE 1) nilA))) (constE .non)))
noncomputable def BW : SF := fgtF [3, 4] (seqF (asgF (callG [] f_run_taken (consA (nameE 0) (consA (nameE 1) (consA (constE .non) nilA)))) (tupG 4 (consG (nameG 3) (consG (nameG 4) (consG (nameG 0) (consG (nameG 1) nilG)))))) (fgtF [3, 4] (exprF (appE 2 (tupE (consA (nameE 3) (consA (nameE 4) nilA)))))))
theorem while_runs {o L : List Nat} {rs : List (TL.Deed × Nat)} {o2 L2 : List Nat} (h : TL.Rn o L rs o2 L2) : Fit o L → ∀ acc : List D, acc.length + rs.length ≤ 1000000 →
    whF PW BW [some (.lst (nl o)), some (.lst (nl L)), some (.lst acc), none, none] = some ([some (.lst (nl o2)), some (.lst (nl L2)), some (.lst (acc ++ rs.map runD)), none, none], .nx) := by
  induction h with
  | @done o L hd =>
    intro hf acc _
    have nd := next_deed_eq hf.toLine hf.n40
    rw [hd] at nd
    rw [List.map_nil, List.append_nil]
    refine whF_stop ?_
    simp [FD.seqF, FD.asgF, FD.ifF, FD.retF, FD.retNF, FD.nxF, FD.nameE, FD.constE, FD.op2, FD.op1, FD.vw, FD.fz, FD.mv, FD.own, FD.addD, FD.subD, FD.mulD, FD.fdivD, FD.modD, FD.powD, FD.intD, FD.callE, FD.vws, FD.consA, FD.nilA, FD.nameG, FD.fnF, FD.outs, FD.M.toD, FD.M.flat, FD.boolT, FD.fgtF, FD.wipeF, FD.callG, FD.argsG, FD.giveG, FD.andV, FD.orV, FD.notV, FD.andT, FD.orT, FD.notT, FD.ifV, FD.lstE, FD.fzs, FD.tupE, FD.mvs, FD.cmpI, FD.isD, FD.isiD, FD.Kd.is, FD.lenP, FD.lstR, FD.bmE, FD.takeR, FD.backF, FD.chainE, FD.exprF, FD.offF, FD.compD, FD.listI, FD.forF, FD.tupG, FD.consG, FD.nilG, FD.partsM, FD.enumI, FD.noneO, FD.someO, FD.sliceE, FD.negD, FD.rg1E, FD.rg2E, FD.cstep, FD.lstep, FD.yesT, FD.nl_len, FD.R.flat, FD.revE, FD.dtupE, FD.movA, FD.rng1I, FD.dcE, FD.dixD, FD.parF, FD.owns, FD.nl_drop, FD.nl_take, FD.nl_append, FD.nl_reverse, FD.bkF, FD.isL, FD.stoG, FD.listD, FD.appE, FD.ixM, FD.sliceM, FD.obsT, FD.obsF, FD.frzS, PW, nd]
  | @run o L o2 L2 d T left rs hd ht hr ih =>
    intro hf acc ha
    have nd := next_deed_eq hf.toLine hf.n40
    rw [hd] at nd
    rw [List.length_cons] at ha
    have hw := TL.winner_lt hf.ord d
    have hrt := run_taken_eq hf.toLine hf.n40 (hf.ring d) (by have := sum_ge (L := L) (i := TL.winner d o) (by have := hf.len; omega); have := hf.sum; omega) hd ht
    have hrt' : f_run_taken [.imm (.lst (nl o)), .imm (.lst (nl L)), .imm .non] = _ := hrt
    have ih' := ih (hf.at_ hd ht) (acc ++ [runD (d, T)]) (by rw [List.length_append, List.length_singleton]; omega)
    rw [List.append_assoc] at ih'
    have hp : PW [some (.lst (nl o)), some (.lst (nl L)), some (.lst acc), none, none] = some (true, [some (.lst (nl o)), some (.lst (nl L)), some (.lst acc), none, none]) := by
      cases d <;> simp [FD.seqF, FD.asgF, FD.ifF, FD.retF, FD.retNF, FD.nxF, FD.nameE, FD.constE, FD.op2, FD.op1, FD.vw, FD.fz, FD.mv, FD.own, FD.addD, FD.subD, FD.mulD, FD.fdivD, FD.modD, FD.powD, FD.intD, FD.callE, FD.vws, FD.consA, FD.nilA, FD.nameG, FD.fnF, FD.outs, FD.M.toD, FD.M.flat, FD.boolT, FD.fgtF, FD.wipeF, FD.callG, FD.argsG, FD.giveG, FD.andV, FD.orV, FD.notV, FD.andT, FD.orT, FD.notT, FD.ifV, FD.lstE, FD.fzs, FD.tupE, FD.mvs, FD.cmpI, FD.isD, FD.isiD, FD.Kd.is, FD.lenP, FD.lstR, FD.bmE, FD.takeR, FD.backF, FD.chainE, FD.exprF, FD.offF, FD.compD, FD.listI, FD.forF, FD.tupG, FD.consG, FD.nilG, FD.partsM, FD.enumI, FD.noneO, FD.someO, FD.sliceE, FD.negD, FD.rg1E, FD.rg2E, FD.cstep, FD.lstep, FD.yesT, FD.nl_len, FD.R.flat, FD.revE, FD.dtupE, FD.movA, FD.rng1I, FD.dcE, FD.dixD, FD.parF, FD.owns, FD.nl_drop, FD.nl_take, FD.nl_append, FD.nl_reverse, FD.bkF, FD.isL, FD.stoG, FD.listD, FD.appE, FD.ixM, FD.sliceM, FD.obsT, FD.obsF, FD.frzS, PW, nd, dDd]
    have z2 : smallL 2 = true := small40 (by omega)
    have za : smallL acc.length = true := small_of (by omega)
    refine whF_next (ρ1 := [some (.lst (nl o)), some (.lst (nl L)), some (.lst acc), none, none]) (ρ2 := [some (.lst (nl (TL.ordAt d o T))), some (.lst (nl (TL.lenAt d o L T left))), some (.lst (acc ++ [runD (d, T)])), none, none]) hp ?_ ih'
    simp [FD.seqF, FD.asgF, FD.ifF, FD.retF, FD.retNF, FD.nxF, FD.nameE, FD.constE, FD.op2, FD.op1, FD.vw, FD.fz, FD.mv, FD.own, FD.addD, FD.subD, FD.mulD, FD.fdivD, FD.modD, FD.powD, FD.intD, FD.callE, FD.vws, FD.consA, FD.nilA, FD.nameG, FD.fnF, FD.outs, FD.M.toD, FD.M.flat, FD.boolT, FD.fgtF, FD.wipeF, FD.callG, FD.argsG, FD.giveG, FD.andV, FD.orV, FD.notV, FD.andT, FD.orT, FD.notT, FD.ifV, FD.lstE, FD.fzs, FD.tupE, FD.mvs, FD.cmpI, FD.isD, FD.isiD, FD.Kd.is, FD.lenP, FD.lstR, FD.bmE, FD.takeR, FD.backF, FD.chainE, FD.exprF, FD.offF, FD.compD, FD.listI, FD.forF, FD.tupG, FD.consG, FD.nilG, FD.partsM, FD.enumI, FD.noneO, FD.someO, FD.sliceE, FD.negD, FD.rg1E, FD.rg2E, FD.cstep, FD.lstep, FD.yesT, FD.nl_len, FD.R.flat, FD.revE, FD.dtupE, FD.movA, FD.rng1I, FD.dcE, FD.dixD, FD.parF, FD.owns, FD.nl_drop, FD.nl_take, FD.nl_append, FD.nl_reverse, FD.bkF, FD.isL, FD.stoG, FD.listD, FD.appE, FD.ixM, FD.sliceM, FD.obsT, FD.obsF, FD.frzS, BW, hrt', z2, za, runD]
theorem all_runs_eq {o L : List Nat} (hf : Fit o L) {rs : List (TL.Deed × Nat)} {o2 L2 : List Nat} (h : TL.Rn o L rs o2 L2) (hn : rs.length ≤ 1000000) : f_all_runs [.imm (.lst (nl o)), .imm (.lst (nl L))] = some (.dtup [.lst (rs.map runD), .lst (nl o2), .lst (nl L2)], []) := by
  have w := while_runs h hf [] (by simpa [FD.seqF, FD.asgF, FD.ifF, FD.retF, FD.retNF, FD.nxF, FD.nameE, FD.constE, FD.op2, FD.op1, FD.vw, FD.fz, FD.mv, FD.own, FD.addD, FD.subD, FD.mulD, FD.fdivD, FD.modD, FD.powD, FD.intD, FD.callE, FD.vws, FD.consA, FD.nilA, FD.nameG, FD.fnF, FD.outs, FD.M.toD, FD.M.flat, FD.boolT, FD.fgtF, FD.wipeF, FD.callG, FD.argsG, FD.giveG, FD.andV, FD.orV, FD.notV, FD.andT, FD.orT, FD.notT, FD.ifV, FD.lstE, FD.fzs, FD.tupE, FD.mvs, FD.cmpI, FD.isD, FD.isiD, FD.Kd.is, FD.lenP, FD.lstR, FD.bmE, FD.takeR, FD.backF, FD.chainE, FD.exprF, FD.offF, FD.compD, FD.listI, FD.forF, FD.tupG, FD.consG, FD.nilG, FD.partsM, FD.enumI, FD.noneO, FD.someO, FD.sliceE, FD.negD, FD.rg1E, FD.rg2E, FD.cstep, FD.lstep, FD.yesT, FD.nl_len, FD.R.flat, FD.revE, FD.dtupE, FD.movA, FD.rng1I, FD.dcE, FD.dixD, FD.parF, FD.owns, FD.nl_drop, FD.nl_take, FD.nl_append, FD.nl_reverse, FD.bkF, FD.isL, FD.stoG, FD.listD, FD.appE, FD.ixM, FD.sliceM, FD.obsT, FD.obsF, FD.frzS] using hn)
  simp only [PW, BW] at w
  have z0 : smallL 0 = true := small40 (by omega)
  have z3 : smallL 3 = true := small40 (by omega)
  simp only [f_all_runs, F_all_runs]
  simp [FD.seqF, FD.asgF, FD.ifF, FD.retF, FD.retNF, FD.nxF, FD.nameE, FD.constE, FD.op2, FD.op1, FD.vw, FD.fz, FD.mv, FD.own, FD.addD, FD.subD, FD.mulD, FD.fdivD, FD.modD, FD.powD, FD.intD, FD.callE, FD.vws, FD.consA, FD.nilA, FD.nameG, FD.fnF, FD.outs, FD.M.toD, FD.M.flat, FD.boolT, FD.fgtF, FD.wipeF, FD.callG, FD.argsG, FD.giveG, FD.andV, FD.orV, FD.notV, FD.andT, FD.orT, FD.notT, FD.ifV, FD.lstE, FD.fzs, FD.tupE, FD.mvs, FD.cmpI, FD.isD, FD.isiD, FD.Kd.is, FD.lenP, FD.lstR, FD.bmE, FD.takeR, FD.backF, FD.chainE, FD.exprF, FD.offF, FD.compD, FD.listI, FD.forF, FD.tupG, FD.consG, FD.nilG, FD.partsM, FD.enumI, FD.noneO, FD.someO, FD.sliceE, FD.negD, FD.rg1E, FD.rg2E, FD.cstep, FD.lstep, FD.yesT, FD.nl_len, FD.R.flat, FD.revE, FD.dtupE, FD.movA, FD.rng1I, FD.dcE, FD.dixD, FD.parF, FD.owns, FD.nl_drop, FD.nl_take, FD.nl_append, FD.nl_reverse, FD.bkF, FD.isL, FD.stoG, FD.listD, FD.appE, FD.ixM, FD.sliceM, FD.obsT, FD.obsF, FD.frzS, z0, w, z3]
theorem runs_of_eq {o L : List Nat} (hf : Fit o L) {rs : List (TL.Deed × Nat)} {o2 L2 : List Nat} (h : TL.Rn o L rs o2 L2) (hn : rs.length ≤ 1000000) : f_runs_of [.imm (.lst (nl o)), .imm (.lst (nl L))] = some (.lst (rs.map runD), []) := by
  simp [FD.seqF, FD.asgF, FD.ifF, FD.retF, FD.retNF, FD.nxF, FD.nameE, FD.constE, FD.op2, FD.op1, FD.vw, FD.fz, FD.mv, FD.own, FD.addD, FD.subD, FD.mulD, FD.fdivD, FD.modD, FD.powD, FD.intD, FD.callE, FD.vws, FD.consA, FD.nilA, FD.nameG, FD.fnF, FD.outs, FD.M.toD, FD.M.flat, FD.boolT, FD.fgtF, FD.wipeF, FD.callG, FD.argsG, FD.giveG, FD.andV, FD.orV, FD.notV, FD.andT, FD.orT, FD.notT, FD.ifV, FD.lstE, FD.fzs, FD.tupE, FD.mvs, FD.cmpI, FD.isD, FD.isiD, FD.Kd.is, FD.lenP, FD.lstR, FD.bmE, FD.takeR, FD.backF, FD.chainE, FD.exprF, FD.offF, FD.compD, FD.listI, FD.forF, FD.tupG, FD.consG, FD.nilG, FD.partsM, FD.enumI, FD.noneO, FD.someO, FD.sliceE, FD.negD, FD.rg1E, FD.rg2E, FD.cstep, FD.lstep, FD.yesT, FD.nl_len, FD.R.flat, FD.revE, FD.dtupE, FD.movA, FD.rng1I, FD.dcE, FD.dixD, FD.parF, FD.owns, FD.nl_drop, FD.nl_take, FD.nl_append, FD.nl_reverse, FD.bkF, FD.isL, FD.stoG, FD.listD, FD.appE, FD.ixM, FD.sliceM, FD.obsT, FD.obsF, FD.frzS, f_runs_of, F_runs_of, check_lengths_ok hf.toLine hf.n40, all_runs_eq hf h hn]
theorem end_of_eq {o L : List Nat} (hf : Fit o L) {rs : List (TL.Deed × Nat)} {o2 L2 : List Nat} (h : TL.Rn o L rs o2 L2) (hn : rs.length ≤ 1000000) : f_end_of [.imm (.lst (nl o)), .imm (.lst (nl L))] = some (.dtup [.lst (nl o2), .lst (nl L2)], []) := by
  simp [FD.seqF, FD.asgF, FD.ifF, FD.retF, FD.retNF, FD.nxF, FD.nameE, FD.constE, FD.op2, FD.op1, FD.vw, FD.fz, FD.mv, FD.own, FD.addD, FD.subD, FD.mulD, FD.fdivD, FD.modD, FD.powD, FD.intD, FD.callE, FD.vws, FD.consA, FD.nilA, FD.nameG, FD.fnF, FD.outs, FD.M.toD, FD.M.flat, FD.boolT, FD.fgtF, FD.wipeF, FD.callG, FD.argsG, FD.giveG, FD.andV, FD.orV, FD.notV, FD.andT, FD.orT, FD.notT, FD.ifV, FD.lstE, FD.fzs, FD.tupE, FD.mvs, FD.cmpI, FD.isD, FD.isiD, FD.Kd.is, FD.lenP, FD.lstR, FD.bmE, FD.takeR, FD.backF, FD.chainE, FD.exprF, FD.offF, FD.compD, FD.listI, FD.forF, FD.tupG, FD.consG, FD.nilG, FD.partsM, FD.enumI, FD.noneO, FD.someO, FD.sliceE, FD.negD, FD.rg1E, FD.rg2E, FD.cstep, FD.lstep, FD.yesT, FD.nl_len, FD.R.flat, FD.revE, FD.dtupE, FD.movA, FD.rng1I, FD.dcE, FD.dixD, FD.parF, FD.owns, FD.nl_drop, FD.nl_take, FD.nl_append, FD.nl_reverse, FD.bkF, FD.isL, FD.stoG, FD.listD, FD.appE, FD.ixM, FD.sliceM, FD.obsT, FD.obsF, FD.frzS, f_end_of, F_end_of, check_lengths_ok hf.toLine hf.n40, all_runs_eq hf h hn]
end Law
set_option linter.all false
set_option maxRecDepth 100000
set_option maxHeartbeats 4000000
namespace Law
open PySem PySem.Spec PyProof.Rows L2 FD
noncomputable def BR : SF := fgtF [2] (seqF (fgtF [1] (ifF (orT (notT (boolT (op1 (isiD .kTuple) (nameE 2)))) (orT (boolT (op2 neD (callE lenP (consA (nameE 2) nilA)) (constE (.int 2)))) (orT (notT (boolT (callG [] f_is_deed (consA (op2 ixD (nameE 2) (constE (.int 0))) nilA)))) (boolT (op2 eqD (op2 ixD (nameE 2) (constE (.int 0))) (nameE 1)))))) (retF (constE (.bl false))) nxF)) (seqF (ifF (notT (boolT (callG [] f_is_between (consA (op2 ixD (nameE 2) (constE (.int 1))) (consA (constE (.int 1)) (consA (constE .non) nilA)))))) (retF (constE (.bl false))) nxF) (fgtF [2] (asgF (op2 ixD (nameE 2) (constE (.int 0))) (nameG 1)))))
theorem deed_ok (d : TL.Deed) : f_is_deed [.imm (dDd d)] = some (.imm (.bl true), []) := by cases d; exact deed_u; exact deed_l
theorem ix_run0 (d : TL.Deed) (T : Nat) : ixD (runD (d, T)) (.int 0) = some (.imm (dDd d)) := rfl
theorem ix_run1 (d : TL.Deed) (T : Nat) : ixD (runD (d, T)) (.int 1) = some (.imm (nD T)) := rfl
theorem loop_alt (r0 : Option M) : ∀ (rs : List (TL.Deed × Nat)) (last : D), TL.Alt rs → (∀ d T r, rs = (d, T) :: r → eqD (dDd d) last = some (.imm (.bl false))) →
    ∃ last', loopF (nameG 2) BR (rs.map runD) [r0, some (.imm last), none] = some ([r0, some (.imm last'), none], .nx)
  | [], last, _, _ => ⟨last, rfl⟩
  | (d, T) :: rs, last, ha, hl => by
    have hT : 0 < T := by
      cases rs with
      | nil => exact ha
      | cons r rs => obtain ⟨e, S⟩ := r; exact ha.1
    have hd := hl d T rs rfl
    have hb := between_in (T : Int) 1 .non (by omega) (.inl rfl)
    have h0 : (D.tup [dDd d, .int (T : Int)]) = runD (d, T) := rfl
    have hs : lstep (nameG 2) BR (runD (d, T)) [r0, some (.imm last), none] = some ([r0, some (.imm (dDd d)), none], .nx) := by
      have i0 := ix_run0 d T
      have i1 := ix_run1 d T
      have hk : isiD .kTuple (runD (d, T)) = some (.imm (.bl true)) := rfl
      have hn : lenP [runD (d, T)] = some (.imm (.int 2)) := rfl
      simp only [nD] at i1
      simp [FD.seqF, FD.asgF, FD.ifF, FD.retF, FD.retNF, FD.nxF, FD.nameE, FD.constE, FD.op2, FD.op1, FD.vw, FD.fz, FD.mv, FD.own, FD.addD, FD.subD, FD.mulD, FD.fdivD, FD.modD, FD.powD, FD.intD, FD.callE, FD.vws, FD.consA, FD.nilA, FD.nameG, FD.fnF, FD.outs, FD.M.toD, FD.M.flat, FD.boolT, FD.fgtF, FD.wipeF, FD.callG, FD.argsG, FD.giveG, FD.andV, FD.orV, FD.notV, FD.andT, FD.orT, FD.notT, FD.ifV, FD.lstE, FD.fzs, FD.tupE, FD.mvs, FD.cmpI, FD.isD, FD.isiD, FD.Kd.is, FD.lenP, FD.lstR, FD.bmE, FD.takeR, FD.backF, FD.chainE, FD.exprF, FD.offF, FD.compD, FD.listI, FD.forF, FD.tupG, FD.consG, FD.nilG, FD.partsM, FD.enumI, FD.noneO, FD.someO, FD.sliceE, FD.negD, FD.rg1E, FD.rg2E, FD.cstep, FD.lstep, FD.yesT, FD.nl_len, FD.R.flat, FD.revE, FD.dtupE, FD.movA, FD.rng1I, FD.dcE, FD.dixD, FD.parF, FD.owns, FD.nl_drop, FD.nl_take, FD.nl_append, FD.nl_reverse, FD.bkF, FD.isL, FD.stoG, FD.listD, FD.appE, FD.ixM, FD.sliceM, FD.obsT, FD.obsF, FD.frzS, BR, -isiD, -lenP, i0, i1, hk, hn, deed_ok, hd, hb, neD_int]
    obtain ⟨last', h⟩ := loop_alt r0 rs (dDd d) (by
      cases rs with
      | nil => exact trivial
      | cons r rs => obtain ⟨e, S⟩ := r; exact ha.2.2) (fun e S r q => by
        subst q
        rw [eq_deed, decide_eq_false (fun z => ha.2.1 z.symm)])
    refine ⟨last', ?_⟩
    rw [List.map_cons, loopF_cons, hs]
    exact h
theorem is_runs_eq {rs : List (TL.Deed × Nat)} (h : TL.Alt rs) : f_is_runs [.imm (.lst (rs.map runD))] = some (.imm (.bl true), []) := by
  obtain ⟨last', e⟩ := loop_alt (some (.imm (.lst (rs.map runD)))) rs .non h (fun d T r _ => by cases d <;> rfl)
  simp only [BR] at e
  simp [FD.seqF, FD.asgF, FD.ifF, FD.retF, FD.retNF, FD.nxF, FD.nameE, FD.constE, FD.op2, FD.op1, FD.vw, FD.fz, FD.mv, FD.own, FD.addD, FD.subD, FD.mulD, FD.fdivD, FD.modD, FD.powD, FD.intD, FD.callE, FD.vws, FD.consA, FD.nilA, FD.nameG, FD.fnF, FD.outs, FD.M.toD, FD.M.flat, FD.boolT, FD.fgtF, FD.wipeF, FD.callG, FD.argsG, FD.giveG, FD.andV, FD.orV, FD.notV, FD.andT, FD.orT, FD.notT, FD.ifV, FD.lstE, FD.fzs, FD.tupE, FD.mvs, FD.cmpI, FD.isD, FD.isiD, FD.Kd.is, FD.lenP, FD.lstR, FD.bmE, FD.takeR, FD.backF, FD.chainE, FD.exprF, FD.offF, FD.compD, FD.listI, FD.forF, FD.tupG, FD.consG, FD.nilG, FD.partsM, FD.enumI, FD.noneO, FD.someO, FD.sliceE, FD.negD, FD.rg1E, FD.rg2E, FD.cstep, FD.lstep, FD.yesT, FD.nl_len, FD.R.flat, FD.revE, FD.dtupE, FD.movA, FD.rng1I, FD.dcE, FD.dixD, FD.parF, FD.owns, FD.nl_drop, FD.nl_take, FD.nl_append, FD.nl_reverse, FD.bkF, FD.isL, FD.stoG, FD.listD, FD.appE, FD.ixM, FD.sliceM, FD.obsT, FD.obsF, FD.frzS, f_is_runs, F_is_runs, f_is_run_list, F_is_run_list, e]
end Law
set_option linter.all false
set_option maxRecDepth 100000
set_option maxHeartbeats 4000000
namespace Law
open PySem PySem.Spec PyProof.Rows L2 FD
/-- the names behind one deed -/
def names1 (d : TL.Deed) (o : List Nat) : List Nat := match d with
  | .u => List.range o.length
  | .l => (List.range o.length).map fun x => (TL.upOf (TL.lastL o) o.length).idxOf x
def step1 (d : TL.Deed) (o : List Nat) : List Nat := match d with | .u => TL.stepU o | .l => TL.stepL o
theorem nl_one (n : Nat) : [D.int (n : Int)] = nl [n] := rfl
theorem done_u {o : List Nat} (h : TL.Ord o) (h40 : o.length ≤ 40) : f__law_done [.imm (.lst (nl o)), .imm (.str "u")] = some (.imm (.tup [.lst (nl (TL.stepU o)), .lst (nl (List.range o.length))]), []) := by
  have h2 := h.two
  have hb := h.last_ne
  have e1 : (o.length : Int) - 1 = ((o.length - 1 : Nat) : Int) := by omega
  have e4 : ((o.length - 1 : Nat) : Int) + 1 = (o.length : Int) := by omega
  have hi := index_nl h.last_mem
  have e2 : ((o.idxOf (o.length - 1) : Nat) : Int) + 1 = (TL.cutU o : Nat) := rfl
  have hc := h.cut_le
  have hg : rgOk 0 (o.length : Int) = true := rgOk_nat (by omega)
  have z1 : smallL 1 = true := small40 (by omega)
  have z2 : smallL 2 = true := small40 (by omega)
  have eu : eqD (.str "u") (.str "u") = some (.imm (.bl true)) := by
    have : eqv (.str "u") (.str "u") = true := by decide +kernel
    show some (M.imm (.bl (eqv _ _))) = _
    rw [this]
  simp only [f__law_done, F__law_done]
  simp [FD.seqF, FD.asgF, FD.ifF, FD.retF, FD.retNF, FD.nxF, FD.nameE, FD.constE, FD.op2, FD.op1, FD.vw, FD.fz, FD.mv, FD.own, FD.addD, FD.subD, FD.mulD, FD.fdivD, FD.modD, FD.powD, FD.intD, FD.callE, FD.vws, FD.consA, FD.nilA, FD.nameG, FD.fnF, FD.outs, FD.M.toD, FD.M.flat, FD.boolT, FD.fgtF, FD.wipeF, FD.callG, FD.argsG, FD.giveG, FD.andV, FD.orV, FD.notV, FD.andT, FD.orT, FD.notT, FD.ifV, FD.lstE, FD.fzs, FD.tupE, FD.mvs, FD.cmpI, FD.isD, FD.isiD, FD.Kd.is, FD.lenP, FD.lstR, FD.bmE, FD.takeR, FD.backF, FD.chainE, FD.exprF, FD.offF, FD.compD, FD.listI, FD.forF, FD.tupG, FD.consG, FD.nilG, FD.partsM, FD.enumI, FD.noneO, FD.someO, FD.sliceE, FD.negD, FD.rg1E, FD.rg2E, FD.cstep, FD.lstep, FD.yesT, FD.nl_len, FD.R.flat, FD.revE, FD.dtupE, FD.movA, FD.rng1I, FD.dcE, FD.dixD, FD.parF, FD.owns, FD.nl_drop, FD.nl_take, FD.nl_append, FD.nl_reverse, FD.bkF, FD.isL, FD.stoG, FD.listD, FD.appE, FD.ixM, FD.sliceM, FD.obsT, FD.obsF, FD.frzS, FD.nl_dropLast, e1, ix_last h.ne, nD, eu, hi, e2, cut_to, cut_from_neg1, e4, hg, rgD_nat, z1, z2, nl_one]
  have z3 : smallL (min (TL.cutU o) o.length + 1) = true := small40 (by omega)
  simp only [z3, if_true]
  simp [FD.seqF, FD.asgF, FD.ifF, FD.retF, FD.retNF, FD.nxF, FD.nameE, FD.constE, FD.op2, FD.op1, FD.vw, FD.fz, FD.mv, FD.own, FD.addD, FD.subD, FD.mulD, FD.fdivD, FD.modD, FD.powD, FD.intD, FD.callE, FD.vws, FD.consA, FD.nilA, FD.nameG, FD.fnF, FD.outs, FD.M.toD, FD.M.flat, FD.boolT, FD.fgtF, FD.wipeF, FD.callG, FD.argsG, FD.giveG, FD.andV, FD.orV, FD.notV, FD.andT, FD.orT, FD.notT, FD.ifV, FD.lstE, FD.fzs, FD.tupE, FD.mvs, FD.cmpI, FD.isD, FD.isiD, FD.Kd.is, FD.lenP, FD.lstR, FD.bmE, FD.takeR, FD.backF, FD.chainE, FD.exprF, FD.offF, FD.compD, FD.listI, FD.forF, FD.tupG, FD.consG, FD.nilG, FD.partsM, FD.enumI, FD.noneO, FD.someO, FD.sliceE, FD.negD, FD.rg1E, FD.rg2E, FD.cstep, FD.lstep, FD.yesT, FD.nl_len, FD.R.flat, FD.revE, FD.dtupE, FD.movA, FD.rng1I, FD.dcE, FD.dixD, FD.parF, FD.owns, FD.nl_drop, FD.nl_take, FD.nl_append, FD.nl_reverse, FD.bkF, FD.isL, FD.stoG, FD.listD, FD.appE, FD.ixM, FD.sliceM, FD.obsT, FD.obsF, FD.frzS, FD.nl_dropLast, e1, e4, hg, rgD_nat, z1, z2, nl_one, cut_from_neg1]
  have z4 : smallL (min (TL.cutU o) o.length + 1 + (o.length - TL.cutU o - 1)) = true := small40 (by omega)
  simp [FD.seqF, FD.asgF, FD.ifF, FD.retF, FD.retNF, FD.nxF, FD.nameE, FD.constE, FD.op2, FD.op1, FD.vw, FD.fz, FD.mv, FD.own, FD.addD, FD.subD, FD.mulD, FD.fdivD, FD.modD, FD.powD, FD.intD, FD.callE, FD.vws, FD.consA, FD.nilA, FD.nameG, FD.fnF, FD.outs, FD.M.toD, FD.M.flat, FD.boolT, FD.fgtF, FD.wipeF, FD.callG, FD.argsG, FD.giveG, FD.andV, FD.orV, FD.notV, FD.andT, FD.orT, FD.notT, FD.ifV, FD.lstE, FD.fzs, FD.tupE, FD.mvs, FD.cmpI, FD.isD, FD.isiD, FD.Kd.is, FD.lenP, FD.lstR, FD.bmE, FD.takeR, FD.backF, FD.chainE, FD.exprF, FD.offF, FD.compD, FD.listI, FD.forF, FD.tupG, FD.consG, FD.nilG, FD.partsM, FD.enumI, FD.noneO, FD.someO, FD.sliceE, FD.negD, FD.rg1E, FD.rg2E, FD.cstep, FD.lstep, FD.yesT, FD.nl_len, FD.R.flat, FD.revE, FD.dtupE, FD.movA, FD.rng1I, FD.dcE, FD.dixD, FD.parF, FD.owns, FD.nl_drop, FD.nl_take, FD.nl_append, FD.nl_reverse, FD.bkF, FD.isL, FD.stoG, FD.listD, FD.appE, FD.ixM, FD.sliceM, FD.obsT, FD.obsF, FD.frzS, FD.nl_dropLast, z4, hg, rgD_nat, z2]
  simp only [e4, hg, rgD_nat, if_true]
  simp [FD.seqF, FD.asgF, FD.ifF, FD.retF, FD.retNF, FD.nxF, FD.nameE, FD.constE, FD.op2, FD.op1, FD.vw, FD.fz, FD.mv, FD.own, FD.addD, FD.subD, FD.mulD, FD.fdivD, FD.modD, FD.powD, FD.intD, FD.callE, FD.vws, FD.consA, FD.nilA, FD.nameG, FD.fnF, FD.outs, FD.M.toD, FD.M.flat, FD.boolT, FD.fgtF, FD.wipeF, FD.callG, FD.argsG, FD.giveG, FD.andV, FD.orV, FD.notV, FD.andT, FD.orT, FD.notT, FD.ifV, FD.lstE, FD.fzs, FD.tupE, FD.mvs, FD.cmpI, FD.isD, FD.isiD, FD.Kd.is, FD.lenP, FD.lstR, FD.bmE, FD.takeR, FD.backF, FD.chainE, FD.exprF, FD.offF, FD.compD, FD.listI, FD.forF, FD.tupG, FD.consG, FD.nilG, FD.partsM, FD.enumI, FD.noneO, FD.someO, FD.sliceE, FD.negD, FD.rg1E, FD.rg2E, FD.cstep, FD.lstep, FD.yesT, FD.nl_len, FD.R.flat, FD.revE, FD.dtupE, FD.movA, FD.rng1I, FD.dcE, FD.dixD, FD.parF, FD.owns, FD.nl_drop, FD.nl_take, FD.nl_append, FD.nl_reverse, FD.bkF, FD.isL, FD.stoG, FD.listD, FD.appE, FD.ixM, FD.sliceM, FD.obsT, FD.obsF, FD.frzS, FD.nl_dropLast, z2]
  unfold TL.stepU
  rw [List.append_assoc]
  rfl
theorem upOf_len {b n : Nat} (h : b + 1 < n) : (TL.upOf b n).length = n := by
  unfold TL.upOf
  rw [List.length_append, List.length_append, List.length_range, List.length_singleton, List.length_range']
  omega
theorem upOf_row {b n : Nat} (h : b + 1 < n) : TL.Row (TL.upOf b n) := by
  refine ⟨?_, fun x hx => by rw [upOf_len h]; exact (TL.mem_upOf h).mp hx⟩
  unfold TL.upOf
  refine List.nodup_append.mpr ⟨List.nodup_append.mpr ⟨List.nodup_range, by simp [FD.seqF, FD.asgF, FD.ifF, FD.retF, FD.retNF, FD.nxF, FD.nameE, FD.constE, FD.op2, FD.op1, FD.vw, FD.fz, FD.mv, FD.own, FD.addD, FD.subD, FD.mulD, FD.fdivD, FD.modD, FD.powD, FD.intD, FD.callE, FD.vws, FD.consA, FD.nilA, FD.nameG, FD.fnF, FD.outs, FD.M.toD, FD.M.flat, FD.boolT, FD.fgtF, FD.wipeF, FD.callG, FD.argsG, FD.giveG, FD.andV, FD.orV, FD.notV, FD.andT, FD.orT, FD.notT, FD.ifV, FD.lstE, FD.fzs, FD.tupE, FD.mvs, FD.cmpI, FD.isD, FD.isiD, FD.Kd.is, FD.lenP, FD.lstR, FD.bmE, FD.takeR, FD.backF, FD.chainE, FD.exprF, FD.offF, FD.compD, FD.listI, FD.forF, FD.tupG, FD.consG, FD.nilG, FD.partsM, FD.enumI, FD.noneO, FD.someO, FD.sliceE, FD.negD, FD.rg1E, FD.rg2E, FD.cstep, FD.lstep, FD.yesT, FD.nl_len, FD.R.flat, FD.revE, FD.dtupE, FD.movA, FD.rng1I, FD.dcE, FD.dixD, FD.parF, FD.owns, FD.nl_drop, FD.nl_take, FD.nl_append, FD.nl_reverse, FD.bkF, FD.isL, FD.stoG, FD.listD, FD.appE, FD.ixM, FD.sliceM, FD.obsT, FD.obsF, FD.frzS, FD.nl_dropLast], fun a ha b' hb e => ?_⟩, List.nodup_range' .., fun a ha b' hb e => ?_⟩
  · rw [List.mem_range] at ha; simp [FD.seqF, FD.asgF, FD.ifF, FD.retF, FD.retNF, FD.nxF, FD.nameE, FD.constE, FD.op2, FD.op1, FD.vw, FD.fz, FD.mv, FD.own, FD.addD, FD.subD, FD.mulD, FD.fdivD, FD.modD, FD.powD, FD.intD, FD.callE, FD.vws, FD.consA, FD.nilA, FD.nameG, FD.fnF, FD.outs, FD.M.toD, FD.M.flat, FD.boolT, FD.fgtF, FD.wipeF, FD.callG, FD.argsG, FD.giveG, FD.andV, FD.orV, FD.notV, FD.andT, FD.orT, FD.notT, FD.ifV, FD.lstE, FD.fzs, FD.tupE, FD.mvs, FD.cmpI, FD.isD, FD.isiD, FD.Kd.is, FD.lenP, FD.lstR, FD.bmE, FD.takeR, FD.backF, FD.chainE, FD.exprF, FD.offF, FD.compD, FD.listI, FD.forF, FD.tupG, FD.consG, FD.nilG, FD.partsM, FD.enumI, FD.noneO, FD.someO, FD.sliceE, FD.negD, FD.rg1E, FD.rg2E, FD.cstep, FD.lstep, FD.yesT, FD.nl_len, FD.R.flat, FD.revE, FD.dtupE, FD.movA, FD.rng1I, FD.dcE, FD.dixD, FD.parF, FD.owns, FD.nl_drop, FD.nl_take, FD.nl_append, FD.nl_reverse, FD.bkF, FD.isL, FD.stoG, FD.listD, FD.appE, FD.ixM, FD.sliceM, FD.obsT, FD.obsF, FD.frzS, FD.nl_dropLast] at hb; omega
  · rw [List.mem_range'_1] at hb
    rcases List.mem_append.mp ha with ha | ha
    · rw [List.mem_range] at ha; omega
    · simp [FD.seqF, FD.asgF, FD.ifF, FD.retF, FD.retNF, FD.nxF, FD.nameE, FD.constE, FD.op2, FD.op1, FD.vw, FD.fz, FD.mv, FD.own, FD.addD, FD.subD, FD.mulD, FD.fdivD, FD.modD, FD.powD, FD.intD, FD.callE, FD.vws, FD.consA, FD.nilA, FD.nameG, FD.fnF, FD.outs, FD.M.toD, FD.M.flat, FD.boolT, FD.fgtF, FD.wipeF, FD.callG, FD.argsG, FD.giveG, FD.andV, FD.orV, FD.notV, FD.andT, FD.orT, FD.notT, FD.ifV, FD.lstE, FD.fzs, FD.tupE, FD.mvs, FD.cmpI, FD.isD, FD.isiD, FD.Kd.is, FD.lenP, FD.lstR, FD.bmE, FD.takeR, FD.backF, FD.chainE, FD.exprF, FD.offF, FD.compD, FD.listI, FD.forF, FD.tupG, FD.consG, FD.nilG, FD.partsM, FD.enumI, FD.noneO, FD.someO, FD.sliceE, FD.negD, FD.rg1E, FD.rg2E, FD.cstep, FD.lstep, FD.yesT, FD.nl_len, FD.R.flat, FD.revE, FD.dtupE, FD.movA, FD.rng1I, FD.dcE, FD.dixD, FD.parF, FD.owns, FD.nl_drop, FD.nl_take, FD.nl_append, FD.nl_reverse, FD.bkF, FD.isL, FD.stoG, FD.listD, FD.appE, FD.ixM, FD.sliceM, FD.obsT, FD.obsF, FD.frzS, FD.nl_dropLast] at ha; omega
theorem done_l {o : List Nat} (h : TL.Ord o) (h40 : o.length ≤ 40) : f__law_done [.imm (.lst (nl o)), .imm (.str "l")] = some (.imm (.tup [.lst (nl (TL.stepL o)), .lst (nl (names1 .l o))]), []) := by
  have h2 := h.two
  have hb := h.last_ne
  have e1 : (o.length : Int) - 1 = ((o.length - 1 : Nat) : Int) := by omega
  have e4 : ((o.length - 1 : Nat) : Int) + 1 = (o.length : Int) := by omega
  have eu : eqD (.str "l") (.str "u") = some (.imm (.bl false)) := by
    have : eqv (.str "l") (.str "u") = false := by decide +kernel
    show some (M.imm (.bl (eqv _ _))) = _
    rw [this]
  obtain ⟨b, hbb⟩ : ∃ b, b = TL.lastL o := ⟨_, rfl⟩
  obtain ⟨b1, hb1⟩ : ∃ b1, b1 = b + 1 := ⟨_, rfl⟩
  have e5 : (b : Int) + 1 = (b1 : Int) := by omega
  have hg1 : rgOk 0 (b1 : Int) = true := rgOk_nat (by omega)
  have hg2 : rgOk (b1 : Int) ((o.length - 1 : Nat) : Int) = true := rgOk_nat2 (by omega) (by omega)
  have er : rgD (b1 : Int) ((o.length - 1 : Nat) : Int) = nl (List.range' b1 (o.length - 1 - b1)) := by
    have := rgD_nat2 b1 (o.length - 1 - b1)
    have e : b1 + (o.length - 1 - b1) = o.length - 1 := by omega
    rw [e] at this
    exact this
  have hU : List.range b1 ++ [o.length - 1] ++ List.range' b1 (o.length - 1 - b1) = TL.upOf (TL.lastL o) o.length := by
    unfold TL.upOf
    rw [hb1, hbb]
    congr 2
    omega
  have lu : (TL.upOf (TL.lastL o) o.length).length = o.length := upOf_len (by omega)
  have c : ∀ r0 r1 r2 r5 : Option M, cloopD [6] (nameG 6) yesT (bmE indexD (nameE 5) (nameE 6)) (rngD 0 o.length) [r0, r1, r2, none, none, some (.lst (nl (TL.upOf (TL.lastL o) o.length))), none, r5] =
      some (nl (names1 .l o), [r0, r1, r2, none, none, some (.lst (nl (TL.upOf (TL.lastL o) o.length))), none, r5]) := fun r0 r1 r2 r5 => by
    have := cloopD_map (vs := [6]) (G := nameG 6) (p := yesT) (f := bmE indexD (nameE 5) (nameE 6)) (ρ := [r0, r1, r2, none, none, some (.lst (nl (TL.upOf (TL.lastL o) o.length))), none, r5]) (fun d => match d with | .int i => nD ((TL.upOf (TL.lastL o) o.length).idxOf i.toNat) | _ => .non) (ds := rngD 0 o.length) fun d hd => by
      unfold rngD at hd
      obtain ⟨n, hn, rfl⟩ := List.mem_map.mp hd
      rw [List.mem_range] at hn
      have hx := index_nl (x := n) (xs := TL.upOf (TL.lastL o) o.length) ((TL.mem_upOf (by omega)).mpr hn)
      simp [FD.seqF, FD.asgF, FD.ifF, FD.retF, FD.retNF, FD.nxF, FD.nameE, FD.constE, FD.op2, FD.op1, FD.vw, FD.fz, FD.mv, FD.own, FD.addD, FD.subD, FD.mulD, FD.fdivD, FD.modD, FD.powD, FD.intD, FD.callE, FD.vws, FD.consA, FD.nilA, FD.nameG, FD.fnF, FD.outs, FD.M.toD, FD.M.flat, FD.boolT, FD.fgtF, FD.wipeF, FD.callG, FD.argsG, FD.giveG, FD.andV, FD.orV, FD.notV, FD.andT, FD.orT, FD.notT, FD.ifV, FD.lstE, FD.fzs, FD.tupE, FD.mvs, FD.cmpI, FD.isD, FD.isiD, FD.Kd.is, FD.lenP, FD.lstR, FD.bmE, FD.takeR, FD.backF, FD.chainE, FD.exprF, FD.offF, FD.compD, FD.listI, FD.forF, FD.tupG, FD.consG, FD.nilG, FD.partsM, FD.enumI, FD.noneO, FD.someO, FD.sliceE, FD.negD, FD.rg1E, FD.rg2E, FD.cstep, FD.lstep, FD.yesT, FD.nl_len, FD.R.flat, FD.revE, FD.dtupE, FD.movA, FD.rng1I, FD.dcE, FD.dixD, FD.parF, FD.owns, FD.nl_drop, FD.nl_take, FD.nl_append, FD.nl_reverse, FD.bkF, FD.isL, FD.stoG, FD.listD, FD.appE, FD.ixM, FD.sliceM, FD.obsT, FD.obsF, FD.frzS, FD.nl_dropLast, nD] at hx
      simp [FD.seqF, FD.asgF, FD.ifF, FD.retF, FD.retNF, FD.nxF, FD.nameE, FD.constE, FD.op2, FD.op1, FD.vw, FD.fz, FD.mv, FD.own, FD.addD, FD.subD, FD.mulD, FD.fdivD, FD.modD, FD.powD, FD.intD, FD.callE, FD.vws, FD.consA, FD.nilA, FD.nameG, FD.fnF, FD.outs, FD.M.toD, FD.M.flat, FD.boolT, FD.fgtF, FD.wipeF, FD.callG, FD.argsG, FD.giveG, FD.andV, FD.orV, FD.notV, FD.andT, FD.orT, FD.notT, FD.ifV, FD.lstE, FD.fzs, FD.tupE, FD.mvs, FD.cmpI, FD.isD, FD.isiD, FD.Kd.is, FD.lenP, FD.lstR, FD.bmE, FD.takeR, FD.backF, FD.chainE, FD.exprF, FD.offF, FD.compD, FD.listI, FD.forF, FD.tupG, FD.consG, FD.nilG, FD.partsM, FD.enumI, FD.noneO, FD.someO, FD.sliceE, FD.negD, FD.rg1E, FD.rg2E, FD.cstep, FD.lstep, FD.yesT, FD.nl_len, FD.R.flat, FD.revE, FD.dtupE, FD.movA, FD.rng1I, FD.dcE, FD.dixD, FD.parF, FD.owns, FD.nl_drop, FD.nl_take, FD.nl_append, FD.nl_reverse, FD.bkF, FD.isL, FD.stoG, FD.listD, FD.appE, FD.ixM, FD.sliceM, FD.obsT, FD.obsF, FD.frzS, FD.nl_dropLast, hx, nD]
    rw [this]
    congr 2
    unfold rngD nl names1
    rw [List.map_map, List.map_map]
    refine List.map_congr_left fun x _ => ?_
    simp [FD.seqF, FD.asgF, FD.ifF, FD.retF, FD.retNF, FD.nxF, FD.nameE, FD.constE, FD.op2, FD.op1, FD.vw, FD.fz, FD.mv, FD.own, FD.addD, FD.subD, FD.mulD, FD.fdivD, FD.modD, FD.powD, FD.intD, FD.callE, FD.vws, FD.consA, FD.nilA, FD.nameG, FD.fnF, FD.outs, FD.M.toD, FD.M.flat, FD.boolT, FD.fgtF, FD.wipeF, FD.callG, FD.argsG, FD.giveG, FD.andV, FD.orV, FD.notV, FD.andT, FD.orT, FD.notT, FD.ifV, FD.lstE, FD.fzs, FD.tupE, FD.mvs, FD.cmpI, FD.isD, FD.isiD, FD.Kd.is, FD.lenP, FD.lstR, FD.bmE, FD.takeR, FD.backF, FD.chainE, FD.exprF, FD.offF, FD.compD, FD.listI, FD.forF, FD.tupG, FD.consG, FD.nilG, FD.partsM, FD.enumI, FD.noneO, FD.someO, FD.sliceE, FD.negD, FD.rg1E, FD.rg2E, FD.cstep, FD.lstep, FD.yesT, FD.nl_len, FD.R.flat, FD.revE, FD.dtupE, FD.movA, FD.rng1I, FD.dcE, FD.dixD, FD.parF, FD.owns, FD.nl_drop, FD.nl_take, FD.nl_append, FD.nl_reverse, FD.bkF, FD.isL, FD.stoG, FD.listD, FD.appE, FD.ixM, FD.sliceM, FD.obsT, FD.obsF, FD.frzS, FD.nl_dropLast]
  have hrn : rngOk (o.length : Int) = true := rng_of (by omega)
  have hrd : (rngD 0 o.length).length = o.length := by unfold rngD; rw [List.length_map, List.length_range]
  have c2 : ∀ r0 r1 : Option M, cloopD [6] (nameG 6) yesT (op2 ixD (nameE 7) (nameE 6)) (nl o) [r0, r1, none, none, none, none, none, some (.lst (nl (names1 .l o)))] = some (nl (TL.stepL o), [r0, r1, none, none, none, none, none, some (.lst (nl (names1 .l o)))]) := fun r0 r1 => by
    have := cloopD_map (vs := [6]) (G := nameG 6) (p := yesT) (f := op2 ixD (nameE 7) (nameE 6)) (ρ := [r0, r1, none, none, none, none, none, some (.lst (nl (names1 .l o)))]) (fun d => match d with | .int i => nD ((TL.upOf (TL.lastL o) o.length).idxOf i.toNat) | _ => .non) (ds := nl o) fun d hd => by
      obtain ⟨n, hn, rfl⟩ := List.mem_map.mp hd
      have hlt := h.lt n hn
      have hl1 : (names1 .l o).length = o.length := by unfold names1; rw [List.length_map, List.length_range]
      have hx := ix_nl (xs := names1 .l o) (i := n) (by omega) (by omega)
      have hv : (names1 .l o).getD n 0 = (TL.upOf (TL.lastL o) o.length).idxOf n := by
        unfold names1
        rw [TL.getD_map (by rw [List.length_range]; exact hlt)]
        congr 1
        simp [FD.seqF, FD.asgF, FD.ifF, FD.retF, FD.retNF, FD.nxF, FD.nameE, FD.constE, FD.op2, FD.op1, FD.vw, FD.fz, FD.mv, FD.own, FD.addD, FD.subD, FD.mulD, FD.fdivD, FD.modD, FD.powD, FD.intD, FD.callE, FD.vws, FD.consA, FD.nilA, FD.nameG, FD.fnF, FD.outs, FD.M.toD, FD.M.flat, FD.boolT, FD.fgtF, FD.wipeF, FD.callG, FD.argsG, FD.giveG, FD.andV, FD.orV, FD.notV, FD.andT, FD.orT, FD.notT, FD.ifV, FD.lstE, FD.fzs, FD.tupE, FD.mvs, FD.cmpI, FD.isD, FD.isiD, FD.Kd.is, FD.lenP, FD.lstR, FD.bmE, FD.takeR, FD.backF, FD.chainE, FD.exprF, FD.offF, FD.compD, FD.listI, FD.forF, FD.tupG, FD.consG, FD.nilG, FD.partsM, FD.enumI, FD.noneO, FD.someO, FD.sliceE, FD.negD, FD.rg1E, FD.rg2E, FD.cstep, FD.lstep, FD.yesT, FD.nl_len, FD.R.flat, FD.revE, FD.dtupE, FD.movA, FD.rng1I, FD.dcE, FD.dixD, FD.parF, FD.owns, FD.nl_drop, FD.nl_take, FD.nl_append, FD.nl_reverse, FD.bkF, FD.isL, FD.stoG, FD.listD, FD.appE, FD.ixM, FD.sliceM, FD.obsT, FD.obsF, FD.frzS, FD.nl_dropLast, List.getD, hlt]
      rw [hv] at hx
      simp [FD.seqF, FD.asgF, FD.ifF, FD.retF, FD.retNF, FD.nxF, FD.nameE, FD.constE, FD.op2, FD.op1, FD.vw, FD.fz, FD.mv, FD.own, FD.addD, FD.subD, FD.mulD, FD.fdivD, FD.modD, FD.powD, FD.intD, FD.callE, FD.vws, FD.consA, FD.nilA, FD.nameG, FD.fnF, FD.outs, FD.M.toD, FD.M.flat, FD.boolT, FD.fgtF, FD.wipeF, FD.callG, FD.argsG, FD.giveG, FD.andV, FD.orV, FD.notV, FD.andT, FD.orT, FD.notT, FD.ifV, FD.lstE, FD.fzs, FD.tupE, FD.mvs, FD.cmpI, FD.isD, FD.isiD, FD.Kd.is, FD.lenP, FD.lstR, FD.bmE, FD.takeR, FD.backF, FD.chainE, FD.exprF, FD.offF, FD.compD, FD.listI, FD.forF, FD.tupG, FD.consG, FD.nilG, FD.partsM, FD.enumI, FD.noneO, FD.someO, FD.sliceE, FD.negD, FD.rg1E, FD.rg2E, FD.cstep, FD.lstep, FD.yesT, FD.nl_len, FD.R.flat, FD.revE, FD.dtupE, FD.movA, FD.rng1I, FD.dcE, FD.dixD, FD.parF, FD.owns, FD.nl_drop, FD.nl_take, FD.nl_append, FD.nl_reverse, FD.bkF, FD.isL, FD.stoG, FD.listD, FD.appE, FD.ixM, FD.sliceM, FD.obsT, FD.obsF, FD.frzS, FD.nl_dropLast, nD] at hx
      simp [FD.seqF, FD.asgF, FD.ifF, FD.retF, FD.retNF, FD.nxF, FD.nameE, FD.constE, FD.op2, FD.op1, FD.vw, FD.fz, FD.mv, FD.own, FD.addD, FD.subD, FD.mulD, FD.fdivD, FD.modD, FD.powD, FD.intD, FD.callE, FD.vws, FD.consA, FD.nilA, FD.nameG, FD.fnF, FD.outs, FD.M.toD, FD.M.flat, FD.boolT, FD.fgtF, FD.wipeF, FD.callG, FD.argsG, FD.giveG, FD.andV, FD.orV, FD.notV, FD.andT, FD.orT, FD.notT, FD.ifV, FD.lstE, FD.fzs, FD.tupE, FD.mvs, FD.cmpI, FD.isD, FD.isiD, FD.Kd.is, FD.lenP, FD.lstR, FD.bmE, FD.takeR, FD.backF, FD.chainE, FD.exprF, FD.offF, FD.compD, FD.listI, FD.forF, FD.tupG, FD.consG, FD.nilG, FD.partsM, FD.enumI, FD.noneO, FD.someO, FD.sliceE, FD.negD, FD.rg1E, FD.rg2E, FD.cstep, FD.lstep, FD.yesT, FD.nl_len, FD.R.flat, FD.revE, FD.dtupE, FD.movA, FD.rng1I, FD.dcE, FD.dixD, FD.parF, FD.owns, FD.nl_drop, FD.nl_take, FD.nl_append, FD.nl_reverse, FD.bkF, FD.isL, FD.stoG, FD.listD, FD.appE, FD.ixM, FD.sliceM, FD.obsT, FD.obsF, FD.frzS, FD.nl_dropLast, hx, nD]
    rw [this]
    congr 2
    unfold nl TL.stepL
    rw [List.map_map, List.map_map]
    exact List.map_congr_left fun x _ => rfl
  have z2 : smallL 2 = true := small40 (by omega)
  have z1 : smallL 1 = true := small40 (by omega)
  have zo : smallL o.length = true := small40 (by omega)
  have il := ix_last h.ne
  rw [← hbb] at il
  simp only [f__law_done, F__law_done]
  simp [FD.seqF, FD.asgF, FD.ifF, FD.retF, FD.retNF, FD.nxF, FD.nameE, FD.constE, FD.op2, FD.op1, FD.vw, FD.fz, FD.mv, FD.own, FD.addD, FD.subD, FD.mulD, FD.fdivD, FD.modD, FD.powD, FD.intD, FD.callE, FD.vws, FD.consA, FD.nilA, FD.nameG, FD.fnF, FD.outs, FD.M.toD, FD.M.flat, FD.boolT, FD.fgtF, FD.wipeF, FD.callG, FD.argsG, FD.giveG, FD.andV, FD.orV, FD.notV, FD.andT, FD.orT, FD.notT, FD.ifV, FD.lstE, FD.fzs, FD.tupE, FD.mvs, FD.cmpI, FD.isD, FD.isiD, FD.Kd.is, FD.lenP, FD.lstR, FD.bmE, FD.takeR, FD.backF, FD.chainE, FD.exprF, FD.offF, FD.compD, FD.listI, FD.forF, FD.tupG, FD.consG, FD.nilG, FD.partsM, FD.enumI, FD.noneO, FD.someO, FD.sliceE, FD.negD, FD.rg1E, FD.rg2E, FD.cstep, FD.lstep, FD.yesT, FD.nl_len, FD.R.flat, FD.revE, FD.dtupE, FD.movA, FD.rng1I, FD.dcE, FD.dixD, FD.parF, FD.owns, FD.nl_drop, FD.nl_take, FD.nl_append, FD.nl_reverse, FD.bkF, FD.isL, FD.stoG, FD.listD, FD.appE, FD.ixM, FD.sliceM, FD.obsT, FD.obsF, FD.frzS, FD.nl_dropLast, e1, il, nD, eu, e5, hg1, hg2, er, rgD_nat, z1, z2, nl_one]
  have z3 : smallL (b1 + 1) = true := small40 (by omega)
  have z4 : smallL (b1 + 1 + (o.length - 1 - b1)) = true := small40 (by omega)
  have hU' : List.range b1 ++ (o.length - 1) :: List.range' b1 (o.length - 1 - b1) = TL.upOf (TL.lastL o) o.length := by rw [← hU, List.append_assoc]; rfl
  simp only [z3, if_true]
  simp [FD.seqF, FD.asgF, FD.ifF, FD.retF, FD.retNF, FD.nxF, FD.nameE, FD.constE, FD.op2, FD.op1, FD.vw, FD.fz, FD.mv, FD.own, FD.addD, FD.subD, FD.mulD, FD.fdivD, FD.modD, FD.powD, FD.intD, FD.callE, FD.vws, FD.consA, FD.nilA, FD.nameG, FD.fnF, FD.outs, FD.M.toD, FD.M.flat, FD.boolT, FD.fgtF, FD.wipeF, FD.callG, FD.argsG, FD.giveG, FD.andV, FD.orV, FD.notV, FD.andT, FD.orT, FD.notT, FD.ifV, FD.lstE, FD.fzs, FD.tupE, FD.mvs, FD.cmpI, FD.isD, FD.isiD, FD.Kd.is, FD.lenP, FD.lstR, FD.bmE, FD.takeR, FD.backF, FD.chainE, FD.exprF, FD.offF, FD.compD, FD.listI, FD.forF, FD.tupG, FD.consG, FD.nilG, FD.partsM, FD.enumI, FD.noneO, FD.someO, FD.sliceE, FD.negD, FD.rg1E, FD.rg2E, FD.cstep, FD.lstep, FD.yesT, FD.nl_len, FD.R.flat, FD.revE, FD.dtupE, FD.movA, FD.rng1I, FD.dcE, FD.dixD, FD.parF, FD.owns, FD.nl_drop, FD.nl_take, FD.nl_append, FD.nl_reverse, FD.bkF, FD.isL, FD.stoG, FD.listD, FD.appE, FD.ixM, FD.sliceM, FD.obsT, FD.obsF, FD.frzS, FD.nl_dropLast, e5, hg2, er, z4, hU']
  have en : o.length - 1 + 1 = o.length := by omega
  simp only [e4, en, hrn, if_true]
  simp [FD.seqF, FD.asgF, FD.ifF, FD.retF, FD.retNF, FD.nxF, FD.nameE, FD.constE, FD.op2, FD.op1, FD.vw, FD.fz, FD.mv, FD.own, FD.addD, FD.subD, FD.mulD, FD.fdivD, FD.modD, FD.powD, FD.intD, FD.callE, FD.vws, FD.consA, FD.nilA, FD.nameG, FD.fnF, FD.outs, FD.M.toD, FD.M.flat, FD.boolT, FD.fgtF, FD.wipeF, FD.callG, FD.argsG, FD.giveG, FD.andV, FD.orV, FD.notV, FD.andT, FD.orT, FD.notT, FD.ifV, FD.lstE, FD.fzs, FD.tupE, FD.mvs, FD.cmpI, FD.isD, FD.isiD, FD.Kd.is, FD.lenP, FD.lstR, FD.bmE, FD.takeR, FD.backF, FD.chainE, FD.exprF, FD.offF, FD.compD, FD.listI, FD.forF, FD.tupG, FD.consG, FD.nilG, FD.partsM, FD.enumI, FD.noneO, FD.someO, FD.sliceE, FD.negD, FD.rg1E, FD.rg2E, FD.cstep, FD.lstep, FD.yesT, FD.nl_len, FD.R.flat, FD.revE, FD.dtupE, FD.movA, FD.rng1I, FD.dcE, FD.dixD, FD.parF, FD.owns, FD.nl_drop, FD.nl_take, FD.nl_append, FD.nl_reverse, FD.bkF, FD.isL, FD.stoG, FD.listD, FD.appE, FD.ixM, FD.sliceM, FD.obsT, FD.obsF, FD.frzS, FD.nl_dropLast, hrd, zo, c, c2, z2]
end Law
set_option linter.all false
set_option maxRecDepth 100000
set_option maxHeartbeats 4000000
namespace Law
open PySem PySem.Spec PyProof.Rows L2 FD
/-! ### the law's own step: lengths laid anew -/
noncomputable def B3 : SF := fgtF [10, 11] (fgtF [10, 11] (asgF (ifV (boolT (op2 eqD (nameE 10) (nameE 5))) (op2 subD (nameE 11) (op2 ixD (nameE 1) (nameE 6))) (nameE 11)) (stoG 9 (op2 ixD (nameE 8) (nameE 10)))))
theorem loop_lay {U L names : List Nat} {n w s : Nat} (hn : n ≤ 1000) (hU : TL.Row U) (hUn : U.length = n) (hL : L.length = n) (hnm : names.length = n) (hns : ∀ x, x < n → names.getD x 0 = U.idxOf x) (hs : s < n) (hw : L.getD s 0 ≤ L.getD w 0) (a0 a2 a3 a4 a7 : Option M) :
    ∀ (k : Nat), k ≤ n → loopF (tupG 2 (consG (nameG 10) (consG (nameG 11) nilG))) B3 (((nl (L.drop k)).zipIdx k).map fun p => .tup [.int (p.2 : Nat), p.1]) [a0, some (.imm (.lst (nl L))), a2, a3, a4, some (.imm (nD w)), some (.imm (nD s)), a7, some (.imm (.lst (nl names))), some (.lst (nl (U.map fun x => if x < k then (if x = w then L.getD w 0 - L.getD s 0 else L.getD x 0) else 0))), none, none] =
      some ([a0, some (.imm (.lst (nl L))), a2, a3, a4, some (.imm (nD w)), some (.imm (nD s)), a7, some (.imm (.lst (nl names))), some (.lst (nl (U.map fun x => if x = w then L.getD w 0 - L.getD s 0 else L.getD x 0))), none, none], .nx) := by
  intro k hk
  obtain ⟨j, hj⟩ : ∃ j, n - k = j := ⟨_, rfl⟩
  have hsx := ix_nl (xs := L) (i := s) (by omega) (by omega)
  induction j generalizing k with
  | zero =>
    have e : k = n := by omega
    subst e
    have e1 : L.drop k = [] := List.drop_eq_nil_of_le (by omega)
    have e2 : (U.map fun x => if x < k then (if x = w then L.getD w 0 - L.getD s 0 else L.getD x 0) else 0) = U.map fun x => if x = w then L.getD w 0 - L.getD s 0 else L.getD x 0 := by
      refine List.map_congr_left fun x hx => ?_
      have := hU.lt x hx
      rw [if_pos (by omega)]
    rw [e1, e2]
    rfl
  | succ j ih =>
    have hkl : k < L.length := by omega
    have e1 : L.drop k = L.getD k 0 :: L.drop (k + 1) := by
      rw [List.drop_eq_getElem_cons hkl]
      simp [FD.seqF, FD.asgF, FD.ifF, FD.retF, FD.retNF, FD.nxF, FD.nameE, FD.constE, FD.op2, FD.op1, FD.vw, FD.fz, FD.mv, FD.own, FD.addD, FD.subD, FD.mulD, FD.fdivD, FD.modD, FD.powD, FD.intD, FD.callE, FD.vws, FD.consA, FD.nilA, FD.nameG, FD.fnF, FD.outs, FD.M.toD, FD.M.flat, FD.boolT, FD.fgtF, FD.wipeF, FD.callG, FD.argsG, FD.giveG, FD.andV, FD.orV, FD.notV, FD.andT, FD.orT, FD.notT, FD.ifV, FD.lstE, FD.fzs, FD.tupE, FD.mvs, FD.cmpI, FD.isD, FD.isiD, FD.Kd.is, FD.lenP, FD.lstR, FD.bmE, FD.takeR, FD.backF, FD.chainE, FD.exprF, FD.offF, FD.compD, FD.listI, FD.forF, FD.tupG, FD.consG, FD.nilG, FD.partsM, FD.enumI, FD.noneO, FD.someO, FD.sliceE, FD.negD, FD.rg1E, FD.rg2E, FD.cstep, FD.lstep, FD.yesT, FD.nl_len, FD.R.flat, FD.revE, FD.dtupE, FD.movA, FD.rng1I, FD.dcE, FD.dixD, FD.parF, FD.owns, FD.nl_drop, FD.nl_take, FD.nl_append, FD.nl_reverse, FD.bkF, FD.isL, FD.stoG, FD.listD, FD.appE, FD.ixM, FD.sliceM, FD.obsT, FD.obsF, FD.frzS, FD.nl_dropLast, List.getD, hkl]
    have e3 : nl (L.getD k 0 :: L.drop (k + 1)) = nD (L.getD k 0) :: nl (L.drop (k + 1)) := rfl
    have hx := ix_nl (xs := names) (i := k) (by omega) (by omega)
    rw [hns k (by omega)] at hx
    have hm : k ∈ U := hU.mem (by omega)
    have hi := List.idxOf_lt_length_of_mem hm
    have hset := set_scatter hU.nd hm (fun x => if x = w then L.getD w 0 - L.getD s 0 else L.getD x 0)
    have ih' := ih (k + 1) (by omega) (by omega)
    rw [e1, e3, List.zipIdx_cons, List.map_cons, loopF_cons]
    have hs : lstep (tupG 2 (consG (nameG 10) (consG (nameG 11) nilG))) B3 (.tup [.int (k : Nat), nD (L.getD k 0)]) [a0, some (.imm (.lst (nl L))), a2, a3, a4, some (.imm (nD w)), some (.imm (nD s)), a7, some (.imm (.lst (nl names))), some (.lst (nl (U.map fun x => if x < k then (if x = w then L.getD w 0 - L.getD s 0 else L.getD x 0) else 0))), none, none] =
        some ([a0, some (.imm (.lst (nl L))), a2, a3, a4, some (.imm (nD w)), some (.imm (nD s)), a7, some (.imm (.lst (nl names))), some (.lst (nl (U.map fun x => if x < k + 1 then (if x = w then L.getD w 0 - L.getD s 0 else L.getD x 0) else 0))), none, none], .nx) := by
      rw [← hset]
      have hfl : (U.map fun x => if x < k then (if x = w then L.getD w 0 - L.getD s 0 else L.getD x 0) else 0).length = n := by rw [List.length_map, hUn]
      revert hfl
      generalize (U.map fun x => if x < k then (if x = w then L.getD w 0 - L.getD s 0 else L.getD x 0) else 0) = f
      intro hfl
      clear hset ih ih' e1 e3
      have hix : ixN n (U.idxOf k : Nat) = some (U.idxOf k) := ixN_nat (by omega) (by omega)
      by_cases q : k = w
      · subst q
        revert hw hsx
        generalize L.getD k 0 = v
        generalize L.getD s 0 = u
        intro hsx hw
        have e4 : (v : Int) - u = ((v - u : Nat) : Int) := by omega
        have hf : (nl f).set (U.idxOf k) (nD (v - u)) = nl (f.set (U.idxOf k) (v - u)) := by unfold nl; rw [List.map_set]
        rw [if_pos rfl]
        simp [FD.seqF, FD.asgF, FD.ifF, FD.retF, FD.retNF, FD.nxF, FD.nameE, FD.constE, FD.op2, FD.op1, FD.vw, FD.fz, FD.mv, FD.own, FD.addD, FD.subD, FD.mulD, FD.fdivD, FD.modD, FD.powD, FD.intD, FD.callE, FD.vws, FD.consA, FD.nilA, FD.nameG, FD.fnF, FD.outs, FD.M.toD, FD.M.flat, FD.boolT, FD.fgtF, FD.wipeF, FD.callG, FD.argsG, FD.giveG, FD.andV, FD.orV, FD.notV, FD.andT, FD.orT, FD.notT, FD.ifV, FD.lstE, FD.fzs, FD.tupE, FD.mvs, FD.cmpI, FD.isD, FD.isiD, FD.Kd.is, FD.lenP, FD.lstR, FD.bmE, FD.takeR, FD.backF, FD.chainE, FD.exprF, FD.offF, FD.compD, FD.listI, FD.forF, FD.tupG, FD.consG, FD.nilG, FD.partsM, FD.enumI, FD.noneO, FD.someO, FD.sliceE, FD.negD, FD.rg1E, FD.rg2E, FD.cstep, FD.lstep, FD.yesT, FD.nl_len, FD.R.flat, FD.revE, FD.dtupE, FD.movA, FD.rng1I, FD.dcE, FD.dixD, FD.parF, FD.owns, FD.nl_drop, FD.nl_take, FD.nl_append, FD.nl_reverse, FD.bkF, FD.isL, FD.stoG, FD.listD, FD.appE, FD.ixM, FD.sliceM, FD.obsT, FD.obsF, FD.frzS, FD.nl_dropLast, nD] at hx hf hsx
        simp [FD.seqF, FD.asgF, FD.ifF, FD.retF, FD.retNF, FD.nxF, FD.nameE, FD.constE, FD.op2, FD.op1, FD.vw, FD.fz, FD.mv, FD.own, FD.addD, FD.subD, FD.mulD, FD.fdivD, FD.modD, FD.powD, FD.intD, FD.callE, FD.vws, FD.consA, FD.nilA, FD.nameG, FD.fnF, FD.outs, FD.M.toD, FD.M.flat, FD.boolT, FD.fgtF, FD.wipeF, FD.callG, FD.argsG, FD.giveG, FD.andV, FD.orV, FD.notV, FD.andT, FD.orT, FD.notT, FD.ifV, FD.lstE, FD.fzs, FD.tupE, FD.mvs, FD.cmpI, FD.isD, FD.isiD, FD.Kd.is, FD.lenP, FD.lstR, FD.bmE, FD.takeR, FD.backF, FD.chainE, FD.exprF, FD.offF, FD.compD, FD.listI, FD.forF, FD.tupG, FD.consG, FD.nilG, FD.partsM, FD.enumI, FD.noneO, FD.someO, FD.sliceE, FD.negD, FD.rg1E, FD.rg2E, FD.cstep, FD.lstep, FD.yesT, FD.nl_len, FD.R.flat, FD.revE, FD.dtupE, FD.movA, FD.rng1I, FD.dcE, FD.dixD, FD.parF, FD.owns, FD.nl_drop, FD.nl_take, FD.nl_append, FD.nl_reverse, FD.bkF, FD.isL, FD.stoG, FD.listD, FD.appE, FD.ixM, FD.sliceM, FD.obsT, FD.obsF, FD.frzS, FD.nl_dropLast, B3, nD, eqD_int, hx, hsx, hfl, hix, hf, e4]
      · have q' : ¬ (k : Int) = w := by omega
        rw [if_neg q]
        clear hw hsx
        generalize L.getD k 0 = v
        have hf : (nl f).set (U.idxOf k) (nD v) = nl (f.set (U.idxOf k) v) := by unfold nl; rw [List.map_set]
        simp [FD.seqF, FD.asgF, FD.ifF, FD.retF, FD.retNF, FD.nxF, FD.nameE, FD.constE, FD.op2, FD.op1, FD.vw, FD.fz, FD.mv, FD.own, FD.addD, FD.subD, FD.mulD, FD.fdivD, FD.modD, FD.powD, FD.intD, FD.callE, FD.vws, FD.consA, FD.nilA, FD.nameG, FD.fnF, FD.outs, FD.M.toD, FD.M.flat, FD.boolT, FD.fgtF, FD.wipeF, FD.callG, FD.argsG, FD.giveG, FD.andV, FD.orV, FD.notV, FD.andT, FD.orT, FD.notT, FD.ifV, FD.lstE, FD.fzs, FD.tupE, FD.mvs, FD.cmpI, FD.isD, FD.isiD, FD.Kd.is, FD.lenP, FD.lstR, FD.bmE, FD.takeR, FD.backF, FD.chainE, FD.exprF, FD.offF, FD.compD, FD.listI, FD.forF, FD.tupG, FD.consG, FD.nilG, FD.partsM, FD.enumI, FD.noneO, FD.someO, FD.sliceE, FD.negD, FD.rg1E, FD.rg2E, FD.cstep, FD.lstep, FD.yesT, FD.nl_len, FD.R.flat, FD.revE, FD.dtupE, FD.movA, FD.rng1I, FD.dcE, FD.dixD, FD.parF, FD.owns, FD.nl_drop, FD.nl_take, FD.nl_append, FD.nl_reverse, FD.bkF, FD.isL, FD.stoG, FD.listD, FD.appE, FD.ixM, FD.sliceM, FD.obsT, FD.obsF, FD.frzS, FD.nl_dropLast, nD] at hx hf
        simp [FD.seqF, FD.asgF, FD.ifF, FD.retF, FD.retNF, FD.nxF, FD.nameE, FD.constE, FD.op2, FD.op1, FD.vw, FD.fz, FD.mv, FD.own, FD.addD, FD.subD, FD.mulD, FD.fdivD, FD.modD, FD.powD, FD.intD, FD.callE, FD.vws, FD.consA, FD.nilA, FD.nameG, FD.fnF, FD.outs, FD.M.toD, FD.M.flat, FD.boolT, FD.fgtF, FD.wipeF, FD.callG, FD.argsG, FD.giveG, FD.andV, FD.orV, FD.notV, FD.andT, FD.orT, FD.notT, FD.ifV, FD.lstE, FD.fzs, FD.tupE, FD.mvs, FD.cmpI, FD.isD, FD.isiD, FD.Kd.is, FD.lenP, FD.lstR, FD.bmE, FD.takeR, FD.backF, FD.chainE, FD.exprF, FD.offF, FD.compD, FD.listI, FD.forF, FD.tupG, FD.consG, FD.nilG, FD.partsM, FD.enumI, FD.noneO, FD.someO, FD.sliceE, FD.negD, FD.rg1E, FD.rg2E, FD.cstep, FD.lstep, FD.yesT, FD.nl_len, FD.R.flat, FD.revE, FD.dtupE, FD.movA, FD.rng1I, FD.dcE, FD.dixD, FD.parF, FD.owns, FD.nl_drop, FD.nl_take, FD.nl_append, FD.nl_reverse, FD.bkF, FD.isL, FD.stoG, FD.listD, FD.appE, FD.ixM, FD.sliceM, FD.obsT, FD.obsF, FD.frzS, FD.nl_dropLast, B3, nD, eqD_int, hx, hfl, hix, hf, q']
    rw [hs]
    exact ih'
end Law
set_option linter.all false
set_option maxRecDepth 100000
set_option maxHeartbeats 4000000
namespace Law
open PySem PySem.Spec PyProof.Rows L2 FD
/-- the law's own step is takeS -/
theorem law_take_eq {o L : List Nat} (h : TL.Line o L) (h40 : o.length ≤ 40) : f__law_take [.imm (.lst (nl o)), .imm (.lst (nl L))] = some (.imm (match TL.takeS o L with
    | none => .non
    | some (d, o', L') => .tup [dDd d, .lst (nl o'), .lst (nl L')]), []) := by
  have hl := h.len
  have h2 := h.ord.two
  have hb := h.ord.last_ne
  have e1 : (o.length : Int) - 1 = ((o.length - 1 : Nat) : Int) := by omega
  have il := ix_last h.ord.ne
  have xa := ix_nl (xs := L) (i := o.length - 1) (by omega) (by omega)
  have xc := ix_nl (xs := L) (i := TL.lastL o) (by omega) (by omega)
  have z2 : smallL 2 = true := small40 (by omega)
  have z3 : smallL 3 = true := small40 (by omega)
  have z1 : smallL 1 = true := small40 (by omega)
  have s9 : sealB ((o.length : Int) < 9223372036854775808) = true := sealB_of (by omega)
  have z9 : smallL o.length = true := small40 (by omega)
  have hd := TL.takeS o L
  by_cases q : L.getD (o.length - 1) 0 = L.getD (TL.lastL o) 0
  · have ht : TL.takeS o L = none := TL.takeS_none.mpr (by unfold TL.nextd; simp only [q, if_true])
    rw [ht]
    rw [q] at xa
    generalize L.getD (TL.lastL o) 0 = a at *
    simp only [f__law_take, F__law_take]
    simp [FD.seqF, FD.asgF, FD.ifF, FD.retF, FD.retNF, FD.nxF, FD.nameE, FD.constE, FD.op2, FD.op1, FD.vw, FD.fz, FD.mv, FD.own, FD.addD, FD.subD, FD.mulD, FD.fdivD, FD.modD, FD.powD, FD.intD, FD.callE, FD.vws, FD.consA, FD.nilA, FD.nameG, FD.fnF, FD.outs, FD.M.toD, FD.M.flat, FD.boolT, FD.fgtF, FD.wipeF, FD.callG, FD.argsG, FD.giveG, FD.andV, FD.orV, FD.notV, FD.andT, FD.orT, FD.notT, FD.ifV, FD.lstE, FD.fzs, FD.tupE, FD.mvs, FD.cmpI, FD.isD, FD.isiD, FD.Kd.is, FD.lenP, FD.lstR, FD.bmE, FD.takeR, FD.backF, FD.chainE, FD.exprF, FD.offF, FD.compD, FD.listI, FD.forF, FD.tupG, FD.consG, FD.nilG, FD.partsM, FD.enumI, FD.noneO, FD.someO, FD.sliceE, FD.negD, FD.rg1E, FD.rg2E, FD.cstep, FD.lstep, FD.yesT, FD.nl_len, FD.R.flat, FD.revE, FD.dtupE, FD.movA, FD.rng1I, FD.dcE, FD.dixD, FD.parF, FD.owns, FD.nl_drop, FD.nl_take, FD.nl_append, FD.nl_reverse, FD.bkF, FD.isL, FD.stoG, FD.listD, FD.appE, FD.ixM, FD.sliceM, FD.obsT, FD.obsF, FD.frzS, FD.nl_dropLast, e1, il, nD, xa, xc, eqD_int]
  · simp only [f__law_take, F__law_take]
    by_cases q2 : L.getD (TL.lastL o) 0 < L.getD (o.length - 1) 0
    · have hn : TL.nextd o L = some .u := by unfold TL.nextd; simp only [q, if_false, q2, gt_iff_lt, if_true]
      have ht : TL.takeS o L = some (.u, TL.stepU o, TL.lenU o L (L.getD (o.length - 1) 0 - L.getD (TL.lastL o) 0)) := by unfold TL.takeS; simp only [hn]
      rw [ht]
      have dn := done_u h.ord h40
      have lw := fun a0 a2 a3 a4 a7 => loop_lay (U := List.range o.length) (L := L) (names := List.range o.length) (n := o.length) (w := o.length - 1) (s := TL.lastL o) (by omega) (TL.Row.range _) List.length_range hl List.length_range (fun x hx => by rw [TL.idxOf_range hx]; simp [FD.seqF, FD.asgF, FD.ifF, FD.retF, FD.retNF, FD.nxF, FD.nameE, FD.constE, FD.op2, FD.op1, FD.vw, FD.fz, FD.mv, FD.own, FD.addD, FD.subD, FD.mulD, FD.fdivD, FD.modD, FD.powD, FD.intD, FD.callE, FD.vws, FD.consA, FD.nilA, FD.nameG, FD.fnF, FD.outs, FD.M.toD, FD.M.flat, FD.boolT, FD.fgtF, FD.wipeF, FD.callG, FD.argsG, FD.giveG, FD.andV, FD.orV, FD.notV, FD.andT, FD.orT, FD.notT, FD.ifV, FD.lstE, FD.fzs, FD.tupE, FD.mvs, FD.cmpI, FD.isD, FD.isiD, FD.Kd.is, FD.lenP, FD.lstR, FD.bmE, FD.takeR, FD.backF, FD.chainE, FD.exprF, FD.offF, FD.compD, FD.listI, FD.forF, FD.tupG, FD.consG, FD.nilG, FD.partsM, FD.enumI, FD.noneO, FD.someO, FD.sliceE, FD.negD, FD.rg1E, FD.rg2E, FD.cstep, FD.lstep, FD.yesT, FD.nl_len, FD.R.flat, FD.revE, FD.dtupE, FD.movA, FD.rng1I, FD.dcE, FD.dixD, FD.parF, FD.owns, FD.nl_drop, FD.nl_take, FD.nl_append, FD.nl_reverse, FD.bkF, FD.isL, FD.stoG, FD.listD, FD.appE, FD.ixM, FD.sliceM, FD.obsT, FD.obsF, FD.frzS, FD.nl_dropLast, List.getD, hx]) (by omega) (by omega) a0 a2 a3 a4 a7 0 (Nat.zero_le _)
      have hz0 : nl ((List.range o.length).map fun x => if x < 0 then (if x = o.length - 1 then L.getD (o.length - 1) 0 - L.getD (TL.lastL o) 0 else L.getD x 0) else 0) = List.replicate o.length (.int 0) := by
        have : ((List.range o.length).map fun x => if x < 0 then (if x = o.length - 1 then L.getD (o.length - 1) 0 - L.getD (TL.lastL o) 0 else L.getD x 0) else 0) = List.replicate o.length 0 := by
          conv => rhs; rw [← List.length_range (n := o.length)]
          exact List.map_eq_replicate_iff.mpr fun x _ => rfl
        rw [this]
        unfold nl
        rw [List.map_replicate]
        rfl
      have hL2 : ((List.range o.length).map fun x => if x = o.length - 1 then L.getD (o.length - 1) 0 - L.getD (TL.lastL o) 0 else L.getD x 0) = TL.lenU o L (L.getD (o.length - 1) 0 - L.getD (TL.lastL o) 0) := by
        unfold TL.lenU
        rw [← hl]
        exact TL.map_set_range (by omega)
      simp only [hz0, List.drop_zero, B3, nD, hL2] at lw
      have q2' : (L.getD (TL.lastL o) 0 : Int) < (L.getD (o.length - 1) 0 : Nat) := by omega
      have q' : ¬ ((L.getD (o.length - 1) 0 : Nat) : Int) = (L.getD (TL.lastL o) 0 : Nat) := by omega
      generalize TL.lenU o L (L.getD (o.length - 1) 0 - L.getD (TL.lastL o) 0) = R at *
      generalize L.getD (o.length - 1) 0 = a at *
      generalize L.getD (TL.lastL o) 0 = c at *
      have eu : eqD (.str "u") (.str "u") = some (.imm (.bl true)) := by
        have : eqv (.str "u") (.str "u") = true := by decide +kernel
        show some (M.imm (.bl (eqv _ _))) = _
        rw [this]
      simp [FD.seqF, FD.asgF, FD.ifF, FD.retF, FD.retNF, FD.nxF, FD.nameE, FD.constE, FD.op2, FD.op1, FD.vw, FD.fz, FD.mv, FD.own, FD.addD, FD.subD, FD.mulD, FD.fdivD, FD.modD, FD.powD, FD.intD, FD.callE, FD.vws, FD.consA, FD.nilA, FD.nameG, FD.fnF, FD.outs, FD.M.toD, FD.M.flat, FD.boolT, FD.fgtF, FD.wipeF, FD.callG, FD.argsG, FD.giveG, FD.andV, FD.orV, FD.notV, FD.andT, FD.orT, FD.notT, FD.ifV, FD.lstE, FD.fzs, FD.tupE, FD.mvs, FD.cmpI, FD.isD, FD.isiD, FD.Kd.is, FD.lenP, FD.lstR, FD.bmE, FD.takeR, FD.backF, FD.chainE, FD.exprF, FD.offF, FD.compD, FD.listI, FD.forF, FD.tupG, FD.consG, FD.nilG, FD.partsM, FD.enumI, FD.noneO, FD.someO, FD.sliceE, FD.negD, FD.rg1E, FD.rg2E, FD.cstep, FD.lstep, FD.yesT, FD.nl_len, FD.R.flat, FD.revE, FD.dtupE, FD.movA, FD.rng1I, FD.dcE, FD.dixD, FD.parF, FD.owns, FD.nl_drop, FD.nl_take, FD.nl_append, FD.nl_reverse, FD.bkF, FD.isL, FD.stoG, FD.listD, FD.appE, FD.ixM, FD.sliceM, FD.obsT, FD.obsF, FD.frzS, FD.nl_dropLast, e1, il, nD, xa, xc, eqD_int, q', q2', eu, z2, dn, z1]
      rw [if_pos ⟨s9, z9⟩]
      simp [FD.seqF, FD.asgF, FD.ifF, FD.retF, FD.retNF, FD.nxF, FD.nameE, FD.constE, FD.op2, FD.op1, FD.vw, FD.fz, FD.mv, FD.own, FD.addD, FD.subD, FD.mulD, FD.fdivD, FD.modD, FD.powD, FD.intD, FD.callE, FD.vws, FD.consA, FD.nilA, FD.nameG, FD.fnF, FD.outs, FD.M.toD, FD.M.flat, FD.boolT, FD.fgtF, FD.wipeF, FD.callG, FD.argsG, FD.giveG, FD.andV, FD.orV, FD.notV, FD.andT, FD.orT, FD.notT, FD.ifV, FD.lstE, FD.fzs, FD.tupE, FD.mvs, FD.cmpI, FD.isD, FD.isiD, FD.Kd.is, FD.lenP, FD.lstR, FD.bmE, FD.takeR, FD.backF, FD.chainE, FD.exprF, FD.offF, FD.compD, FD.listI, FD.forF, FD.tupG, FD.consG, FD.nilG, FD.partsM, FD.enumI, FD.noneO, FD.someO, FD.sliceE, FD.negD, FD.rg1E, FD.rg2E, FD.cstep, FD.lstep, FD.yesT, FD.nl_len, FD.R.flat, FD.revE, FD.dtupE, FD.movA, FD.rng1I, FD.dcE, FD.dixD, FD.parF, FD.owns, FD.nl_drop, FD.nl_take, FD.nl_append, FD.nl_reverse, FD.bkF, FD.isL, FD.stoG, FD.listD, FD.appE, FD.ixM, FD.sliceM, FD.obsT, FD.obsF, FD.frzS, FD.nl_dropLast, hl, z9, enumD, lw, z3]
      rfl
    · have hn : TL.nextd o L = some .l := by
        unfold TL.nextd
        rw [if_neg q, if_neg q2]
      have ht : TL.takeS o L = some (.l, TL.stepL o, TL.lenL (TL.upOf (TL.lastL o) o.length) (TL.lastL o) (L.getD (TL.lastL o) 0 - L.getD (o.length - 1) 0) L) := by unfold TL.takeS; simp only [hn]
      rw [ht]
      have dn := done_l h.ord h40
      have hln : (names1 .l o).length = o.length := by unfold names1; rw [List.length_map, List.length_range]
      have lw := fun a0 a2 a3 a4 a7 => loop_lay (U := TL.upOf (TL.lastL o) o.length) (L := L) (names := names1 .l o) (n := o.length) (w := TL.lastL o) (s := o.length - 1) (by omega) (upOf_row (by omega)) (upOf_len (by omega)) hl hln (fun x hx => by
        unfold names1
        rw [TL.getD_map (by rw [List.length_range]; exact hx)]
        congr 1
        simp [FD.seqF, FD.asgF, FD.ifF, FD.retF, FD.retNF, FD.nxF, FD.nameE, FD.constE, FD.op2, FD.op1, FD.vw, FD.fz, FD.mv, FD.own, FD.addD, FD.subD, FD.mulD, FD.fdivD, FD.modD, FD.powD, FD.intD, FD.callE, FD.vws, FD.consA, FD.nilA, FD.nameG, FD.fnF, FD.outs, FD.M.toD, FD.M.flat, FD.boolT, FD.fgtF, FD.wipeF, FD.callG, FD.argsG, FD.giveG, FD.andV, FD.orV, FD.notV, FD.andT, FD.orT, FD.notT, FD.ifV, FD.lstE, FD.fzs, FD.tupE, FD.mvs, FD.cmpI, FD.isD, FD.isiD, FD.Kd.is, FD.lenP, FD.lstR, FD.bmE, FD.takeR, FD.backF, FD.chainE, FD.exprF, FD.offF, FD.compD, FD.listI, FD.forF, FD.tupG, FD.consG, FD.nilG, FD.partsM, FD.enumI, FD.noneO, FD.someO, FD.sliceE, FD.negD, FD.rg1E, FD.rg2E, FD.cstep, FD.lstep, FD.yesT, FD.nl_len, FD.R.flat, FD.revE, FD.dtupE, FD.movA, FD.rng1I, FD.dcE, FD.dixD, FD.parF, FD.owns, FD.nl_drop, FD.nl_take, FD.nl_append, FD.nl_reverse, FD.bkF, FD.isL, FD.stoG, FD.listD, FD.appE, FD.ixM, FD.sliceM, FD.obsT, FD.obsF, FD.frzS, FD.nl_dropLast, List.getD, hx]) (by omega) (by omega) a0 a2 a3 a4 a7 0 (Nat.zero_le _)
      have hz0 : nl ((TL.upOf (TL.lastL o) o.length).map fun x => if x < 0 then (if x = TL.lastL o then L.getD (TL.lastL o) 0 - L.getD (o.length - 1) 0 else L.getD x 0) else 0) = List.replicate o.length (.int 0) := by
        have : ((TL.upOf (TL.lastL o) o.length).map fun x => if x < 0 then (if x = TL.lastL o then L.getD (TL.lastL o) 0 - L.getD (o.length - 1) 0 else L.getD x 0) else 0) = List.replicate o.length 0 := by
          conv => rhs; rw [← upOf_len (b := TL.lastL o) (n := o.length) (by omega)]
          exact List.map_eq_replicate_iff.mpr fun x _ => rfl
        rw [this]
        unfold nl
        rw [List.map_replicate]
        rfl
      have hL2 : ((TL.upOf (TL.lastL o) o.length).map fun x => if x = TL.lastL o then L.getD (TL.lastL o) 0 - L.getD (o.length - 1) 0 else L.getD x 0) = TL.lenL (TL.upOf (TL.lastL o) o.length) (TL.lastL o) (L.getD (TL.lastL o) 0 - L.getD (o.length - 1) 0) L := rfl
      simp only [hz0, List.drop_zero, B3, nD, hL2] at lw
      have q2' : ¬ (L.getD (TL.lastL o) 0 : Int) < (L.getD (o.length - 1) 0 : Nat) := by omega
      have q' : ¬ ((L.getD (o.length - 1) 0 : Nat) : Int) = (L.getD (TL.lastL o) 0 : Nat) := by omega
      generalize TL.lenL (TL.upOf (TL.lastL o) o.length) (TL.lastL o) (L.getD (TL.lastL o) 0 - L.getD (o.length - 1) 0) L = R at *
      generalize L.getD (o.length - 1) 0 = a at *
      generalize L.getD (TL.lastL o) 0 = c at *
      have eu : eqD (.str "l") (.str "u") = some (.imm (.bl false)) := by
        have : eqv (.str "l") (.str "u") = false := by decide +kernel
        show some (M.imm (.bl (eqv _ _))) = _
        rw [this]
      simp [FD.seqF, FD.asgF, FD.ifF, FD.retF, FD.retNF, FD.nxF, FD.nameE, FD.constE, FD.op2, FD.op1, FD.vw, FD.fz, FD.mv, FD.own, FD.addD, FD.subD, FD.mulD, FD.fdivD, FD.modD, FD.powD, FD.intD, FD.callE, FD.vws, FD.consA, FD.nilA, FD.nameG, FD.fnF, FD.outs, FD.M.toD, FD.M.flat, FD.boolT, FD.fgtF, FD.wipeF, FD.callG, FD.argsG, FD.giveG, FD.andV, FD.orV, FD.notV, FD.andT, FD.orT, FD.notT, FD.ifV, FD.lstE, FD.fzs, FD.tupE, FD.mvs, FD.cmpI, FD.isD, FD.isiD, FD.Kd.is, FD.lenP, FD.lstR, FD.bmE, FD.takeR, FD.backF, FD.chainE, FD.exprF, FD.offF, FD.compD, FD.listI, FD.forF, FD.tupG, FD.consG, FD.nilG, FD.partsM, FD.enumI, FD.noneO, FD.someO, FD.sliceE, FD.negD, FD.rg1E, FD.rg2E, FD.cstep, FD.lstep, FD.yesT, FD.nl_len, FD.R.flat, FD.revE, FD.dtupE, FD.movA, FD.rng1I, FD.dcE, FD.dixD, FD.parF, FD.owns, FD.nl_drop, FD.nl_take, FD.nl_append, FD.nl_reverse, FD.bkF, FD.isL, FD.stoG, FD.listD, FD.appE, FD.ixM, FD.sliceM, FD.obsT, FD.obsF, FD.frzS, FD.nl_dropLast, e1, il, nD, xa, xc, eqD_int, q', q2', eu, z2, dn, z1]
      rw [if_pos ⟨s9, z9⟩]
      simp [FD.seqF, FD.asgF, FD.ifF, FD.retF, FD.retNF, FD.nxF, FD.nameE, FD.constE, FD.op2, FD.op1, FD.vw, FD.fz, FD.mv, FD.own, FD.addD, FD.subD, FD.mulD, FD.fdivD, FD.modD, FD.powD, FD.intD, FD.callE, FD.vws, FD.consA, FD.nilA, FD.nameG, FD.fnF, FD.outs, FD.M.toD, FD.M.flat, FD.boolT, FD.fgtF, FD.wipeF, FD.callG, FD.argsG, FD.giveG, FD.andV, FD.orV, FD.notV, FD.andT, FD.orT, FD.notT, FD.ifV, FD.lstE, FD.fzs, FD.tupE, FD.mvs, FD.cmpI, FD.isD, FD.isiD, FD.Kd.is, FD.lenP, FD.lstR, FD.bmE, FD.takeR, FD.backF, FD.chainE, FD.exprF, FD.offF, FD.compD, FD.listI, FD.forF, FD.tupG, FD.consG, FD.nilG, FD.partsM, FD.enumI, FD.noneO, FD.someO, FD.sliceE, FD.negD, FD.rg1E, FD.rg2E, FD.cstep, FD.lstep, FD.yesT, FD.nl_len, FD.R.flat, FD.revE, FD.dtupE, FD.movA, FD.rng1I, FD.dcE, FD.dixD, FD.parF, FD.owns, FD.nl_drop, FD.nl_take, FD.nl_append, FD.nl_reverse, FD.bkF, FD.isL, FD.stoG, FD.listD, FD.appE, FD.ixM, FD.sliceM, FD.obsT, FD.obsF, FD.frzS, FD.nl_dropLast, hl, z9, enumD, lw, z3]
      rfl
end Law
set_option linter.all false
set_option maxRecDepth 100000
set_option maxHeartbeats 4000000
namespace Law
open PySem PySem.Spec PyProof.Rows L2 FD
def dC : TL.Deed → Nat
  | .u => 117 | .l => 108
/-- a word as a text -/
def wS (w : List TL.Deed) : Str := ⟨(w.map dC).toArray⟩
theorem dS_eq (d : TL.Deed) : dS d = ⟨#[dC d]⟩ := by cases d <;> rfl
theorem wS_snoc (w : List TL.Deed) (d : TL.Deed) : wS w ++ dS d = wS (w ++ [d]) := by
  rw [dS_eq]
  show Str.mk ((w.map dC).toArray ++ #[dC d]) = ⟨((w ++ [d]).map dC).toArray⟩
  congr 1
  simp [FD.seqF, FD.asgF, FD.ifF, FD.retF, FD.retNF, FD.nxF, FD.nameE, FD.constE, FD.op2, FD.op1, FD.vw, FD.fz, FD.mv, FD.own, FD.addD, FD.subD, FD.mulD, FD.fdivD, FD.modD, FD.powD, FD.intD, FD.callE, FD.vws, FD.consA, FD.nilA, FD.nameG, FD.fnF, FD.outs, FD.M.toD, FD.M.flat, FD.boolT, FD.fgtF, FD.wipeF, FD.callG, FD.argsG, FD.giveG, FD.andV, FD.orV, FD.notV, FD.andT, FD.orT, FD.notT, FD.ifV, FD.lstE, FD.fzs, FD.tupE, FD.mvs, FD.cmpI, FD.isD, FD.isiD, FD.Kd.is, FD.lenP, FD.lstR, FD.bmE, FD.takeR, FD.backF, FD.chainE, FD.exprF, FD.offF, FD.compD, FD.listI, FD.forF, FD.tupG, FD.consG, FD.nilG, FD.partsM, FD.enumI, FD.noneO, FD.someO, FD.sliceE, FD.negD, FD.rg1E, FD.rg2E, FD.cstep, FD.lstep, FD.yesT, FD.nl_len, FD.R.flat, FD.revE, FD.dtupE, FD.movA, FD.rng1I, FD.dcE, FD.dixD, FD.parF, FD.owns, FD.nl_drop, FD.nl_take, FD.nl_append, FD.nl_reverse, FD.bkF, FD.isL, FD.stoG, FD.listD, FD.appE, FD.ixM, FD.sliceM, FD.obsT, FD.obsF, FD.frzS, FD.nl_dropLast]
theorem wS_len (w : List TL.Deed) : (wS w).length = w.length := by
  show (w.map dC).toArray.size = _
  simp [FD.seqF, FD.asgF, FD.ifF, FD.retF, FD.retNF, FD.nxF, FD.nameE, FD.constE, FD.op2, FD.op1, FD.vw, FD.fz, FD.mv, FD.own, FD.addD, FD.subD, FD.mulD, FD.fdivD, FD.modD, FD.powD, FD.intD, FD.callE, FD.vws, FD.consA, FD.nilA, FD.nameG, FD.fnF, FD.outs, FD.M.toD, FD.M.flat, FD.boolT, FD.fgtF, FD.wipeF, FD.callG, FD.argsG, FD.giveG, FD.andV, FD.orV, FD.notV, FD.andT, FD.orT, FD.notT, FD.ifV, FD.lstE, FD.fzs, FD.tupE, FD.mvs, FD.cmpI, FD.isD, FD.isiD, FD.Kd.is, FD.lenP, FD.lstR, FD.bmE, FD.takeR, FD.backF, FD.chainE, FD.exprF, FD.offF, FD.compD, FD.listI, FD.forF, FD.tupG, FD.consG, FD.nilG, FD.partsM, FD.enumI, FD.noneO, FD.someO, FD.sliceE, FD.negD, FD.rg1E, FD.rg2E, FD.cstep, FD.lstep, FD.yesT, FD.nl_len, FD.R.flat, FD.revE, FD.dtupE, FD.movA, FD.rng1I, FD.dcE, FD.dixD, FD.parF, FD.owns, FD.nl_drop, FD.nl_take, FD.nl_append, FD.nl_reverse, FD.bkF, FD.isL, FD.stoG, FD.listD, FD.appE, FD.ixM, FD.sliceM, FD.obsT, FD.obsF, FD.frzS, FD.nl_dropLast]
theorem step_line {o L : List Nat} (h : TL.Line o L) {d : TL.Deed} {o1 L1 : List Nat} (ht : TL.takeS o L = some (d, o1, L1)) : TL.Line o1 L1 ∧ o1.length = o.length ∧ L1.sum < L.sum := by
  have hd : TL.nextd o L = some d := by
    unfold TL.takeS at ht
    cases q : TL.nextd o L with
    | none => rw [q] at ht; cases ht
    | some e => rw [q] at ht; cases e <;> (simp [FD.seqF, FD.asgF, FD.ifF, FD.retF, FD.retNF, FD.nxF, FD.nameE, FD.constE, FD.op2, FD.op1, FD.vw, FD.fz, FD.mv, FD.own, FD.addD, FD.subD, FD.mulD, FD.fdivD, FD.modD, FD.powD, FD.intD, FD.callE, FD.vws, FD.consA, FD.nilA, FD.nameG, FD.fnF, FD.outs, FD.M.toD, FD.M.flat, FD.boolT, FD.fgtF, FD.wipeF, FD.callG, FD.argsG, FD.giveG, FD.andV, FD.orV, FD.notV, FD.andT, FD.orT, FD.notT, FD.ifV, FD.lstE, FD.fzs, FD.tupE, FD.mvs, FD.cmpI, FD.isD, FD.isiD, FD.Kd.is, FD.lenP, FD.lstR, FD.bmE, FD.takeR, FD.backF, FD.chainE, FD.exprF, FD.offF, FD.compD, FD.listI, FD.forF, FD.tupG, FD.consG, FD.nilG, FD.partsM, FD.enumI, FD.noneO, FD.someO, FD.sliceE, FD.negD, FD.rg1E, FD.rg2E, FD.cstep, FD.lstep, FD.yesT, FD.nl_len, FD.R.flat, FD.revE, FD.dtupE, FD.movA, FD.rng1I, FD.dcE, FD.dixD, FD.parF, FD.owns, FD.nl_drop, FD.nl_take, FD.nl_append, FD.nl_reverse, FD.bkF, FD.isL, FD.stoG, FD.listD, FD.appE, FD.ixM, FD.sliceM, FD.obsT, FD.obsF, FD.frzS, FD.nl_dropLast] at ht; rw [ht.1])
  have hg := TL.nextd_gt h hd
  have h1 := TL.take_at h.len h.ord d 0 (L.getD (TL.winner d o) 0) hg
  rw [TL.ordAt_zero h.ord, TL.lenAt_zero h.len h.ord, ht] at h1
  cases h1
  have hp := TL.loss_pos h.len h.pos h.ord d 0
  refine ⟨h.at_ d _ (by omega), TL.ordAt_len d _, ?_⟩
  have := h.sum_at d (0 + 1) (L.getD (TL.winner d o) 0 - L.getD (TL.loser d o 0) 0)
  omega
theorem std_len {o L : List Nat} {w : List TL.Deed} {o2 L2 : List Nat} (h : TL.Std o L w o2 L2) (hl : TL.Line o L) : w.length ≤ L.sum ∧ TL.Line o2 L2 ∧ o2.length = o.length ∧ TL.takeS o2 L2 = none := by
  induction h with
  | done e => exact ⟨Nat.zero_le _, hl, rfl, e⟩
  | step e _ ih =>
    obtain ⟨a, b, c⟩ := step_line hl e
    obtain ⟨d1, d2, d3, d4⟩ := ih a
    exact ⟨by rw [List.length_cons]; omega, d2, by omega, d4⟩
noncomputable def PS : TF := boolT (op2 (isD true) (callG [] f__law_take (consA (op2 ixD (nameE 3) (constE (.int 0))) (consA (op2 ixD (nameE 3) (constE (.int 1))) nilA))) (constE .non))
noncomputable def BS : SF := fgtF [4, 5, 6] (seqF (fgtF [3] (asgF (callG [] f__law_take (consA (op2 ixD (nameE 3) (constE (.int 0))) (consA (op2 ixD (nameE 3) (constE (.int 1))) nilA))) (tupG 3 (consG (nameG 4) (consG (nameG 5) (consG (nameG 6) nilG)))))) (fgtF [4, 5, 6] (parF [2, 3] (consA (op2 addD (nameE 2) (nameE 4)) (consA (tupE (consA (nameE 5) (consA (nameE 6) nilA))) nilA)))))
theorem ix0 (a b : D) : ixD (.tup [a, b]) (.int 0) = some (.imm a) := rfl
theorem ix1 (a b : D) : ixD (.tup [a, b]) (.int 1) = some (.imm b) := rfl
theorem while_stand (r0 r1 : Option M) {o L : List Nat} {w : List TL.Deed} {o2 L2 : List Nat} (h : TL.Std o L w o2 L2) : TL.Line o L → o.length ≤ 40 → ∀ p : List TL.Deed, p.length + w.length ≤ 900000 →
    whF PS BS [r0, r1, some (.imm (.str (wS p))), some (.imm (.tup [.lst (nl o), .lst (nl L)])), none, none, none] = some ([r0, r1, some (.imm (.str (wS (p ++ w)))), some (.imm (.tup [.lst (nl o2), .lst (nl L2)])), none, none, none], .nx) := by
  induction h with
  | @done o L e =>
    intro hl h40 p _
    have lt := law_take_eq hl h40
    rw [e] at lt
    rw [List.append_nil]
    refine whF_stop ?_
    simp [FD.seqF, FD.asgF, FD.ifF, FD.retF, FD.retNF, FD.nxF, FD.nameE, FD.constE, FD.op2, FD.op1, FD.vw, FD.fz, FD.mv, FD.own, FD.addD, FD.subD, FD.mulD, FD.fdivD, FD.modD, FD.powD, FD.intD, FD.callE, FD.vws, FD.consA, FD.nilA, FD.nameG, FD.fnF, FD.outs, FD.M.toD, FD.M.flat, FD.boolT, FD.fgtF, FD.wipeF, FD.callG, FD.argsG, FD.giveG, FD.andV, FD.orV, FD.notV, FD.andT, FD.orT, FD.notT, FD.ifV, FD.lstE, FD.fzs, FD.tupE, FD.mvs, FD.cmpI, FD.isD, FD.isiD, FD.Kd.is, FD.lenP, FD.lstR, FD.bmE, FD.takeR, FD.backF, FD.chainE, FD.exprF, FD.offF, FD.compD, FD.listI, FD.forF, FD.tupG, FD.consG, FD.nilG, FD.partsM, FD.enumI, FD.noneO, FD.someO, FD.sliceE, FD.negD, FD.rg1E, FD.rg2E, FD.cstep, FD.lstep, FD.yesT, FD.nl_len, FD.R.flat, FD.revE, FD.dtupE, FD.movA, FD.rng1I, FD.dcE, FD.dixD, FD.parF, FD.owns, FD.nl_drop, FD.nl_take, FD.nl_append, FD.nl_reverse, FD.bkF, FD.isL, FD.stoG, FD.listD, FD.appE, FD.ixM, FD.sliceM, FD.obsT, FD.obsF, FD.frzS, FD.nl_dropLast, PS, ix0, ix1, lt]
  | @step o L o1 L1 o2 L2 d w e _ ih =>
    intro hl h40 p hp
    have lt := law_take_eq hl h40
    rw [e] at lt
    obtain ⟨a, b, _⟩ := step_line hl e
    rw [List.length_cons] at hp
    have ih' := ih a (by omega) (p ++ [d]) (by rw [List.length_append, List.length_singleton]; omega)
    rw [List.append_assoc] at ih'
    have z2 : smallL 2 = true := small40 (by omega)
    have hs : smallL ((wS p).length + (dS d).length) = true := small_of (by rw [wS_len, dS_eq]; show _ + 1 ≤ _; omega)
    refine whF_next (ρ1 := [r0, r1, some (.imm (.str (wS p))), some (.imm (.tup [.lst (nl o), .lst (nl L)])), none, none, none]) (ρ2 := [r0, r1, some (.imm (.str (wS (p ++ [d])))), some (.imm (.tup [.lst (nl o1), .lst (nl L1)])), none, none, none]) ?_ ?_ ih'
    · simp [FD.seqF, FD.asgF, FD.ifF, FD.retF, FD.retNF, FD.nxF, FD.nameE, FD.constE, FD.op2, FD.op1, FD.vw, FD.fz, FD.mv, FD.own, FD.addD, FD.subD, FD.mulD, FD.fdivD, FD.modD, FD.powD, FD.intD, FD.callE, FD.vws, FD.consA, FD.nilA, FD.nameG, FD.fnF, FD.outs, FD.M.toD, FD.M.flat, FD.boolT, FD.fgtF, FD.wipeF, FD.callG, FD.argsG, FD.giveG, FD.andV, FD.orV, FD.notV, FD.andT, FD.orT, FD.notT, FD.ifV, FD.lstE, FD.fzs, FD.tupE, FD.mvs, FD.cmpI, FD.isD, FD.isiD, FD.Kd.is, FD.lenP, FD.lstR, FD.bmE, FD.takeR, FD.backF, FD.chainE, FD.exprF, FD.offF, FD.compD, FD.listI, FD.forF, FD.tupG, FD.consG, FD.nilG, FD.partsM, FD.enumI, FD.noneO, FD.someO, FD.sliceE, FD.negD, FD.rg1E, FD.rg2E, FD.cstep, FD.lstep, FD.yesT, FD.nl_len, FD.R.flat, FD.revE, FD.dtupE, FD.movA, FD.rng1I, FD.dcE, FD.dixD, FD.parF, FD.owns, FD.nl_drop, FD.nl_take, FD.nl_append, FD.nl_reverse, FD.bkF, FD.isL, FD.stoG, FD.listD, FD.appE, FD.ixM, FD.sliceM, FD.obsT, FD.obsF, FD.frzS, FD.nl_dropLast, PS, ix0, ix1, lt]
    · simp [FD.seqF, FD.asgF, FD.ifF, FD.retF, FD.retNF, FD.nxF, FD.nameE, FD.constE, FD.op2, FD.op1, FD.vw, FD.fz, FD.mv, FD.own, FD.addD, FD.subD, FD.mulD, FD.fdivD, FD.modD, FD.powD, FD.intD, FD.callE, FD.vws, FD.consA, FD.nilA, FD.nameG, FD.fnF, FD.outs, FD.M.toD, FD.M.flat, FD.boolT, FD.fgtF, FD.wipeF, FD.callG, FD.argsG, FD.giveG, FD.andV, FD.orV, FD.notV, FD.andT, FD.orT, FD.notT, FD.ifV, FD.lstE, FD.fzs, FD.tupE, FD.mvs, FD.cmpI, FD.isD, FD.isiD, FD.Kd.is, FD.lenP, FD.lstR, FD.bmE, FD.takeR, FD.backF, FD.chainE, FD.exprF, FD.offF, FD.compD, FD.listI, FD.forF, FD.tupG, FD.consG, FD.nilG, FD.partsM, FD.enumI, FD.noneO, FD.someO, FD.sliceE, FD.negD, FD.rg1E, FD.rg2E, FD.cstep, FD.lstep, FD.yesT, FD.nl_len, FD.R.flat, FD.revE, FD.dtupE, FD.movA, FD.rng1I, FD.dcE, FD.dixD, FD.parF, FD.owns, FD.nl_drop, FD.nl_take, FD.nl_append, FD.nl_reverse, FD.bkF, FD.isL, FD.stoG, FD.listD, FD.appE, FD.ixM, FD.sliceM, FD.obsT, FD.obsF, FD.frzS, FD.nl_dropLast, BS, ix0, ix1, lt, dDd, hs, z2, wS_snoc]
theorem law_stand_eq {o L : List Nat} {w : List TL.Deed} {o2 L2 : List Nat} (h : TL.Std o L w o2 L2) (hl : TL.Line o L) (h40 : o.length ≤ 40) (hs : L.sum ≤ 900000) : f__law_stand [.imm (.lst (nl o)), .imm (.lst (nl L))] = some (.imm (.tup [.str (wS w), .lst (nl o2), .lst (nl L2)]), []) := by
  have hw := (std_len h hl).1
  have lp := fun r0 r1 => while_stand r0 r1 h hl h40 [] (by rw [List.length_nil]; omega)
  have e0 : wS [] = ("" : Str) := rfl
  simp only [e0, PS, BS, List.nil_append] at lp
  have z2 : smallL 2 = true := small40 (by omega)
  have z3 : smallL 3 = true := small40 (by omega)
  simp only [f__law_stand, F__law_stand]
  simp [FD.seqF, FD.asgF, FD.ifF, FD.retF, FD.retNF, FD.nxF, FD.nameE, FD.constE, FD.op2, FD.op1, FD.vw, FD.fz, FD.mv, FD.own, FD.addD, FD.subD, FD.mulD, FD.fdivD, FD.modD, FD.powD, FD.intD, FD.callE, FD.vws, FD.consA, FD.nilA, FD.nameG, FD.fnF, FD.outs, FD.M.toD, FD.M.flat, FD.boolT, FD.fgtF, FD.wipeF, FD.callG, FD.argsG, FD.giveG, FD.andV, FD.orV, FD.notV, FD.andT, FD.orT, FD.notT, FD.ifV, FD.lstE, FD.fzs, FD.tupE, FD.mvs, FD.cmpI, FD.isD, FD.isiD, FD.Kd.is, FD.lenP, FD.lstR, FD.bmE, FD.takeR, FD.backF, FD.chainE, FD.exprF, FD.offF, FD.compD, FD.listI, FD.forF, FD.tupG, FD.consG, FD.nilG, FD.partsM, FD.enumI, FD.noneO, FD.someO, FD.sliceE, FD.negD, FD.rg1E, FD.rg2E, FD.cstep, FD.lstep, FD.yesT, FD.nl_len, FD.R.flat, FD.revE, FD.dtupE, FD.movA, FD.rng1I, FD.dcE, FD.dixD, FD.parF, FD.owns, FD.nl_drop, FD.nl_take, FD.nl_append, FD.nl_reverse, FD.bkF, FD.isL, FD.stoG, FD.listD, FD.appE, FD.ixM, FD.sliceM, FD.obsT, FD.obsF, FD.frzS, FD.nl_dropLast, z2, z3, lp, ix0, ix1]
end Law
set_option linter.all false
set_option maxRecDepth 100000
set_option maxHeartbeats 4000000
namespace Law
open PySem PySem.Spec PyProof.Rows L2 FD
/-- runs as they are found, a deed more -/
def more : List (TL.Deed × Nat) → TL.Deed → List (TL.Deed × Nat)
  | [], d => [(d, 1)]
  | [(e, n)], d => if e = d then [(e, n + 1)] else [(e, n), (d, 1)]
  | r :: s :: rs, d => r :: more (s :: rs) d
theorem more_snoc (rs : List (TL.Deed × Nat)) (e : TL.Deed) (n : Nat) (d : TL.Deed) : more (rs ++ [(e, n)]) d = if e = d then rs ++ [(e, n + 1)] else rs ++ [(e, n), (d, 1)] := by
  induction rs with
  | nil => rfl
  | cons r rs ih =>
    cases rs with
    | nil => show r :: more [(e, n)] d = _; rw [show more [(e, n)] d = if e = d then [(e, n + 1)] else [(e, n), (d, 1)] from rfl]; split <;> rfl
    | cons s rs =>
      show r :: more (s :: (rs ++ [(e, n)])) d = _
      have : s :: (rs ++ [(e, n)]) = (s :: rs) ++ [(e, n)] := rfl
      rw [this, ih]
      split <;> rfl
theorem more_rep (d : TL.Deed) : ∀ (T : Nat) (rs : List (TL.Deed × Nat)) (n : Nat), (List.replicate T d).foldl more (rs ++ [(d, n)]) = rs ++ [(d, n + T)]
  | 0, rs, n => rfl
  | T + 1, rs, n => by
    rw [List.replicate_succ, List.foldl_cons, more_snoc, if_pos rfl, more_rep d T rs (n + 1)]
    congr 3
    omega
theorem more_new (d : TL.Deed) {T : Nat} (hT : 0 < T) (rs : List (TL.Deed × Nat)) (h : ∀ r e n, rs = r ++ [(e, n)] → e ≠ d) : (List.replicate T d).foldl more rs = rs ++ [(d, T)] := by
  obtain ⟨S, rfl⟩ : ∃ S, T = S + 1 := ⟨T - 1, by omega⟩
  rw [List.replicate_succ, List.foldl_cons]
  have e1 : more rs d = rs ++ [(d, 1)] := by
    rcases List.eq_nil_or_concat rs with z | ⟨r, x, z⟩
    · subst z; rfl
    · obtain ⟨e, n⟩ := x
      rw [List.concat_eq_append] at z
      subst z
      rw [more_snoc, if_neg (h r e n rfl), List.append_assoc]
      rfl
  rw [e1, more_rep d S rs 1]
  congr 3
  omega
theorem more_flat : ∀ (rs acc : List (TL.Deed × Nat)), TL.Alt rs → (∀ r e n, acc = r ++ [(e, n)] → ∀ d T q, rs = (d, T) :: q → e ≠ d) → (TL.flat rs).foldl more acc = acc ++ rs
  | [], acc, _, _ => by simp [FD.seqF, FD.asgF, FD.ifF, FD.retF, FD.retNF, FD.nxF, FD.nameE, FD.constE, FD.op2, FD.op1, FD.vw, FD.fz, FD.mv, FD.own, FD.addD, FD.subD, FD.mulD, FD.fdivD, FD.modD, FD.powD, FD.intD, FD.callE, FD.vws, FD.consA, FD.nilA, FD.nameG, FD.fnF, FD.outs, FD.M.toD, FD.M.flat, FD.boolT, FD.fgtF, FD.wipeF, FD.callG, FD.argsG, FD.giveG, FD.andV, FD.orV, FD.notV, FD.andT, FD.orT, FD.notT, FD.ifV, FD.lstE, FD.fzs, FD.tupE, FD.mvs, FD.cmpI, FD.isD, FD.isiD, FD.Kd.is, FD.lenP, FD.lstR, FD.bmE, FD.takeR, FD.backF, FD.chainE, FD.exprF, FD.offF, FD.compD, FD.listI, FD.forF, FD.tupG, FD.consG, FD.nilG, FD.partsM, FD.enumI, FD.noneO, FD.someO, FD.sliceE, FD.negD, FD.rg1E, FD.rg2E, FD.cstep, FD.lstep, FD.yesT, FD.nl_len, FD.R.flat, FD.revE, FD.dtupE, FD.movA, FD.rng1I, FD.dcE, FD.dixD, FD.parF, FD.owns, FD.nl_drop, FD.nl_take, FD.nl_append, FD.nl_reverse, FD.bkF, FD.isL, FD.stoG, FD.listD, FD.appE, FD.ixM, FD.sliceM, FD.obsT, FD.obsF, FD.frzS, FD.nl_dropLast, FD.strI, TL.flat]
  | (d, T) :: rs, acc, ha, hl => by
    have hT : 0 < T := by
      cases rs with
      | nil => exact ha
      | cons r rs => obtain ⟨e, S⟩ := r; exact ha.1
    have ha' : TL.Alt rs := by
      cases rs with
      | nil => exact trivial
      | cons r rs => obtain ⟨e, S⟩ := r; exact ha.2.2
    show (List.replicate T d ++ TL.flat rs).foldl more acc = _
    rw [List.foldl_append, more_new d hT acc fun r e n q => hl r e n q d T rs rfl, more_flat rs (acc ++ [(d, T)]) ha' fun r e n q d' T' q' q2 => by
      have := List.append_inj' q rfl
      have h1 := this.2
      cases h1
      subst q2
      exact ha.2.1, List.append_assoc]
    rfl
end Law
set_option linter.all false
set_option maxRecDepth 100000
set_option maxHeartbeats 4000000
namespace Law
open PySem PySem.Spec PyProof.Rows L2 FD
noncomputable def BT : SF := fgtF [2] (fgtF [2] (ifF (andT (boolT (op2 neD (nameE 1) (lstE nilA))) (boolT (op2 eqD (op2 ixD (op2 ixD (nameE 1) (op1 negD (constE (.int 1)))) (constE (.int 0))) (nameE 2)))) (fgtF [2] (asgF (tupE (consA (nameE 2) (consA (op2 addD (op2 ixD (op2 ixD (nameE 1) (op1 negD (constE (.int 1)))) (constE (.int 1))) (constE (.int 1))) nilA))) (stoG 1 (op1 negD (constE (.int 1)))))) (fgtF [2] (exprF (appE 1 (tupE (consA (nameE 2) (consA (constE (.int 1)) nilA))))))))
theorem run_ok (r : TL.Deed × Nat) : D.ok 11 (runD r) = true := by
  obtain ⟨d, n⟩ := r
  cases d <;> rfl
theorem runs_ok (rs : List (TL.Deed × Nat)) : (rs.map runD).all (D.ok 11) = true := by
  rw [List.all_map]
  exact List.all_eq_true.mpr fun r _ => run_ok r
theorem ix_snoc (xs : List D) (x : D) : ixD (.lst (xs ++ [x])) (.int (-1)) = some (.imm x) := by
  unfold ixD
  have : atI (xs ++ [x]) (-1) = some x := by
    unfold atI
    have e : ixN (xs ++ [x]).length (-1) = some xs.length := by
      unfold ixN
      rw [List.length_append]
      simp [FD.seqF, FD.asgF, FD.ifF, FD.retF, FD.retNF, FD.nxF, FD.nameE, FD.constE, FD.op2, FD.op1, FD.vw, FD.fz, FD.mv, FD.own, FD.addD, FD.subD, FD.mulD, FD.fdivD, FD.modD, FD.powD, FD.intD, FD.callE, FD.vws, FD.consA, FD.nilA, FD.nameG, FD.fnF, FD.outs, FD.M.toD, FD.M.flat, FD.boolT, FD.fgtF, FD.wipeF, FD.callG, FD.argsG, FD.giveG, FD.andV, FD.orV, FD.notV, FD.andT, FD.orT, FD.notT, FD.ifV, FD.lstE, FD.fzs, FD.tupE, FD.mvs, FD.cmpI, FD.isD, FD.isiD, FD.Kd.is, FD.lenP, FD.lstR, FD.bmE, FD.takeR, FD.backF, FD.chainE, FD.exprF, FD.offF, FD.compD, FD.listI, FD.forF, FD.tupG, FD.consG, FD.nilG, FD.partsM, FD.enumI, FD.noneO, FD.someO, FD.sliceE, FD.negD, FD.rg1E, FD.rg2E, FD.cstep, FD.lstep, FD.yesT, FD.nl_len, FD.R.flat, FD.revE, FD.dtupE, FD.movA, FD.rng1I, FD.dcE, FD.dixD, FD.parF, FD.owns, FD.nl_drop, FD.nl_take, FD.nl_append, FD.nl_reverse, FD.bkF, FD.isL, FD.stoG, FD.listD, FD.appE, FD.ixM, FD.sliceM, FD.obsT, FD.obsF, FD.frzS, FD.nl_dropLast, FD.strI]
      omega
    rw [e]
    show (xs ++ [x])[xs.length]? = _
    simp [FD.seqF, FD.asgF, FD.ifF, FD.retF, FD.retNF, FD.nxF, FD.nameE, FD.constE, FD.op2, FD.op1, FD.vw, FD.fz, FD.mv, FD.own, FD.addD, FD.subD, FD.mulD, FD.fdivD, FD.modD, FD.powD, FD.intD, FD.callE, FD.vws, FD.consA, FD.nilA, FD.nameG, FD.fnF, FD.outs, FD.M.toD, FD.M.flat, FD.boolT, FD.fgtF, FD.wipeF, FD.callG, FD.argsG, FD.giveG, FD.andV, FD.orV, FD.notV, FD.andT, FD.orT, FD.notT, FD.ifV, FD.lstE, FD.fzs, FD.tupE, FD.mvs, FD.cmpI, FD.isD, FD.isiD, FD.Kd.is, FD.lenP, FD.lstR, FD.bmE, FD.takeR, FD.backF, FD.chainE, FD.exprF, FD.offF, FD.compD, FD.listI, FD.forF, FD.tupG, FD.consG, FD.nilG, FD.partsM, FD.enumI, FD.noneO, FD.someO, FD.sliceE, FD.negD, FD.rg1E, FD.rg2E, FD.cstep, FD.lstep, FD.yesT, FD.nl_len, FD.R.flat, FD.revE, FD.dtupE, FD.movA, FD.rng1I, FD.dcE, FD.dixD, FD.parF, FD.owns, FD.nl_drop, FD.nl_take, FD.nl_append, FD.nl_reverse, FD.bkF, FD.isL, FD.stoG, FD.listD, FD.appE, FD.ixM, FD.sliceM, FD.obsT, FD.obsF, FD.frzS, FD.nl_dropLast, FD.strI]
  simp only [this, Option.map_some]
theorem ixN_snoc (n : Nat) : ixN (n + 1) (-1) = some n := by
  unfold ixN
  simp [FD.seqF, FD.asgF, FD.ifF, FD.retF, FD.retNF, FD.nxF, FD.nameE, FD.constE, FD.op2, FD.op1, FD.vw, FD.fz, FD.mv, FD.own, FD.addD, FD.subD, FD.mulD, FD.fdivD, FD.modD, FD.powD, FD.intD, FD.callE, FD.vws, FD.consA, FD.nilA, FD.nameG, FD.fnF, FD.outs, FD.M.toD, FD.M.flat, FD.boolT, FD.fgtF, FD.wipeF, FD.callG, FD.argsG, FD.giveG, FD.andV, FD.orV, FD.notV, FD.andT, FD.orT, FD.notT, FD.ifV, FD.lstE, FD.fzs, FD.tupE, FD.mvs, FD.cmpI, FD.isD, FD.isiD, FD.Kd.is, FD.lenP, FD.lstR, FD.bmE, FD.takeR, FD.backF, FD.chainE, FD.exprF, FD.offF, FD.compD, FD.listI, FD.forF, FD.tupG, FD.consG, FD.nilG, FD.partsM, FD.enumI, FD.noneO, FD.someO, FD.sliceE, FD.negD, FD.rg1E, FD.rg2E, FD.cstep, FD.lstep, FD.yesT, FD.nl_len, FD.R.flat, FD.revE, FD.dtupE, FD.movA, FD.rng1I, FD.dcE, FD.dixD, FD.parF, FD.owns, FD.nl_drop, FD.nl_take, FD.nl_append, FD.nl_reverse, FD.bkF, FD.isL, FD.stoG, FD.listD, FD.appE, FD.ixM, FD.sliceM, FD.obsT, FD.obsF, FD.frzS, FD.nl_dropLast, FD.strI]
  omega
theorem told_step (r0 : Option M) (acc : List (TL.Deed × Nat)) (d : TL.Deed) (hn : acc.length ≤ 1000000) : lstep (nameG 2) BT (dDd d) [r0, some (.lst (acc.map runD)), none] = some ([r0, some (.lst ((more acc d).map runD)), none], .nx) := by
  have z0 : smallL 0 = true := small40 (by omega)
  have z2 : smallL 2 = true := small40 (by omega)
  have zn : smallL acc.length = true := small_of hn
  rcases List.eq_nil_or_concat acc with z | ⟨rs, x, z⟩
  · subst z
    have e : neD (.lst []) (.lst []) = some (.imm (.bl false)) := rfl
    simp [FD.seqF, FD.asgF, FD.ifF, FD.retF, FD.retNF, FD.nxF, FD.nameE, FD.constE, FD.op2, FD.op1, FD.vw, FD.fz, FD.mv, FD.own, FD.addD, FD.subD, FD.mulD, FD.fdivD, FD.modD, FD.powD, FD.intD, FD.callE, FD.vws, FD.consA, FD.nilA, FD.nameG, FD.fnF, FD.outs, FD.M.toD, FD.M.flat, FD.boolT, FD.fgtF, FD.wipeF, FD.callG, FD.argsG, FD.giveG, FD.andV, FD.orV, FD.notV, FD.andT, FD.orT, FD.notT, FD.ifV, FD.lstE, FD.fzs, FD.tupE, FD.mvs, FD.cmpI, FD.isD, FD.isiD, FD.Kd.is, FD.lenP, FD.lstR, FD.bmE, FD.takeR, FD.backF, FD.chainE, FD.exprF, FD.offF, FD.compD, FD.listI, FD.forF, FD.tupG, FD.consG, FD.nilG, FD.partsM, FD.enumI, FD.noneO, FD.someO, FD.sliceE, FD.negD, FD.rg1E, FD.rg2E, FD.cstep, FD.lstep, FD.yesT, FD.nl_len, FD.R.flat, FD.revE, FD.dtupE, FD.movA, FD.rng1I, FD.dcE, FD.dixD, FD.parF, FD.owns, FD.nl_drop, FD.nl_take, FD.nl_append, FD.nl_reverse, FD.bkF, FD.isL, FD.stoG, FD.listD, FD.appE, FD.ixM, FD.sliceM, FD.obsT, FD.obsF, FD.frzS, FD.nl_dropLast, FD.strI, BT, e, z0, z2, more, runD, nD]
  · obtain ⟨e, n⟩ := x
    rw [List.concat_eq_append] at z
    subst z
    have hne := neD_nil ((rs ++ [(e, n)]).map runD) (runs_ok _)
    have hne2 : (!decide ((rs ++ [(e, n)]).map runD = [])) = true := by simp [FD.seqF, FD.asgF, FD.ifF, FD.retF, FD.retNF, FD.nxF, FD.nameE, FD.constE, FD.op2, FD.op1, FD.vw, FD.fz, FD.mv, FD.own, FD.addD, FD.subD, FD.mulD, FD.fdivD, FD.modD, FD.powD, FD.intD, FD.callE, FD.vws, FD.consA, FD.nilA, FD.nameG, FD.fnF, FD.outs, FD.M.toD, FD.M.flat, FD.boolT, FD.fgtF, FD.wipeF, FD.callG, FD.argsG, FD.giveG, FD.andV, FD.orV, FD.notV, FD.andT, FD.orT, FD.notT, FD.ifV, FD.lstE, FD.fzs, FD.tupE, FD.mvs, FD.cmpI, FD.isD, FD.isiD, FD.Kd.is, FD.lenP, FD.lstR, FD.bmE, FD.takeR, FD.backF, FD.chainE, FD.exprF, FD.offF, FD.compD, FD.listI, FD.forF, FD.tupG, FD.consG, FD.nilG, FD.partsM, FD.enumI, FD.noneO, FD.someO, FD.sliceE, FD.negD, FD.rg1E, FD.rg2E, FD.cstep, FD.lstep, FD.yesT, FD.nl_len, FD.R.flat, FD.revE, FD.dtupE, FD.movA, FD.rng1I, FD.dcE, FD.dixD, FD.parF, FD.owns, FD.nl_drop, FD.nl_take, FD.nl_append, FD.nl_reverse, FD.bkF, FD.isL, FD.stoG, FD.listD, FD.appE, FD.ixM, FD.sliceM, FD.obsT, FD.obsF, FD.frzS, FD.nl_dropLast, FD.strI]
    rw [hne2] at hne
    rw [List.map_append] at hne ⊢
    have hx := ix_snoc (rs.map runD) (runD (e, n))
    have hed := eq_deed e d
    have i0 := ix_run0 e n
    have i1 := ix_run1 e n
    simp only [nD] at i1
    have hl : ((rs ++ [(e, n)]).length : Nat) = rs.length + 1 := by simp [FD.seqF, FD.asgF, FD.ifF, FD.retF, FD.retNF, FD.nxF, FD.nameE, FD.constE, FD.op2, FD.op1, FD.vw, FD.fz, FD.mv, FD.own, FD.addD, FD.subD, FD.mulD, FD.fdivD, FD.modD, FD.powD, FD.intD, FD.callE, FD.vws, FD.consA, FD.nilA, FD.nameG, FD.fnF, FD.outs, FD.M.toD, FD.M.flat, FD.boolT, FD.fgtF, FD.wipeF, FD.callG, FD.argsG, FD.giveG, FD.andV, FD.orV, FD.notV, FD.andT, FD.orT, FD.notT, FD.ifV, FD.lstE, FD.fzs, FD.tupE, FD.mvs, FD.cmpI, FD.isD, FD.isiD, FD.Kd.is, FD.lenP, FD.lstR, FD.bmE, FD.takeR, FD.backF, FD.chainE, FD.exprF, FD.offF, FD.compD, FD.listI, FD.forF, FD.tupG, FD.consG, FD.nilG, FD.partsM, FD.enumI, FD.noneO, FD.someO, FD.sliceE, FD.negD, FD.rg1E, FD.rg2E, FD.cstep, FD.lstep, FD.yesT, FD.nl_len, FD.R.flat, FD.revE, FD.dtupE, FD.movA, FD.rng1I, FD.dcE, FD.dixD, FD.parF, FD.owns, FD.nl_drop, FD.nl_take, FD.nl_append, FD.nl_reverse, FD.bkF, FD.isL, FD.stoG, FD.listD, FD.appE, FD.ixM, FD.sliceM, FD.obsT, FD.obsF, FD.frzS, FD.nl_dropLast, FD.strI]
    rw [more_snoc]
    simp [FD.seqF, FD.asgF, FD.ifF, FD.retF, FD.retNF, FD.nxF, FD.nameE, FD.constE, FD.op2, FD.op1, FD.vw, FD.fz, FD.mv, FD.own, FD.addD, FD.subD, FD.mulD, FD.fdivD, FD.modD, FD.powD, FD.intD, FD.callE, FD.vws, FD.consA, FD.nilA, FD.nameG, FD.fnF, FD.outs, FD.M.toD, FD.M.flat, FD.boolT, FD.fgtF, FD.wipeF, FD.callG, FD.argsG, FD.giveG, FD.andV, FD.orV, FD.notV, FD.andT, FD.orT, FD.notT, FD.ifV, FD.lstE, FD.fzs, FD.tupE, FD.mvs, FD.cmpI, FD.isD, FD.isiD, FD.Kd.is, FD.lenP, FD.lstR, FD.bmE, FD.takeR, FD.backF, FD.chainE, FD.exprF, FD.offF, FD.compD, FD.listI, FD.forF, FD.tupG, FD.consG, FD.nilG, FD.partsM, FD.enumI, FD.noneO, FD.someO, FD.sliceE, FD.negD, FD.rg1E, FD.rg2E, FD.cstep, FD.lstep, FD.yesT, FD.nl_len, FD.R.flat, FD.revE, FD.dtupE, FD.movA, FD.rng1I, FD.dcE, FD.dixD, FD.parF, FD.owns, FD.nl_drop, FD.nl_take, FD.nl_append, FD.nl_reverse, FD.bkF, FD.isL, FD.stoG, FD.listD, FD.appE, FD.ixM, FD.sliceM, FD.obsT, FD.obsF, FD.frzS, FD.nl_dropLast, FD.strI] at hne hx
    by_cases q : e = d
    · subst q
      have hix := ixN_snoc rs.length
      have i1' : (n : Int) + 1 = ((n + 1 : Nat) : Int) := rfl
      have hr : runD (e, n + 1) = .tup [dDd e, .int ((n : Int) + 1)] := rfl
      simp [FD.seqF, FD.asgF, FD.ifF, FD.retF, FD.retNF, FD.nxF, FD.nameE, FD.constE, FD.op2, FD.op1, FD.vw, FD.fz, FD.mv, FD.own, FD.addD, FD.subD, FD.mulD, FD.fdivD, FD.modD, FD.powD, FD.intD, FD.callE, FD.vws, FD.consA, FD.nilA, FD.nameG, FD.fnF, FD.outs, FD.M.toD, FD.M.flat, FD.boolT, FD.fgtF, FD.wipeF, FD.callG, FD.argsG, FD.giveG, FD.andV, FD.orV, FD.notV, FD.andT, FD.orT, FD.notT, FD.ifV, FD.lstE, FD.fzs, FD.tupE, FD.mvs, FD.cmpI, FD.isD, FD.isiD, FD.Kd.is, FD.lenP, FD.lstR, FD.bmE, FD.takeR, FD.backF, FD.chainE, FD.exprF, FD.offF, FD.compD, FD.listI, FD.forF, FD.tupG, FD.consG, FD.nilG, FD.partsM, FD.enumI, FD.noneO, FD.someO, FD.sliceE, FD.negD, FD.rg1E, FD.rg2E, FD.cstep, FD.lstep, FD.yesT, FD.nl_len, FD.R.flat, FD.revE, FD.dtupE, FD.movA, FD.rng1I, FD.dcE, FD.dixD, FD.parF, FD.owns, FD.nl_drop, FD.nl_take, FD.nl_append, FD.nl_reverse, FD.bkF, FD.isL, FD.stoG, FD.listD, FD.appE, FD.ixM, FD.sliceM, FD.obsT, FD.obsF, FD.frzS, FD.nl_dropLast, FD.strI, BT, hne, hx, i0, i1, hed, z0, z2, hix, hr]
    · simp [FD.seqF, FD.asgF, FD.ifF, FD.retF, FD.retNF, FD.nxF, FD.nameE, FD.constE, FD.op2, FD.op1, FD.vw, FD.fz, FD.mv, FD.own, FD.addD, FD.subD, FD.mulD, FD.fdivD, FD.modD, FD.powD, FD.intD, FD.callE, FD.vws, FD.consA, FD.nilA, FD.nameG, FD.fnF, FD.outs, FD.M.toD, FD.M.flat, FD.boolT, FD.fgtF, FD.wipeF, FD.callG, FD.argsG, FD.giveG, FD.andV, FD.orV, FD.notV, FD.andT, FD.orT, FD.notT, FD.ifV, FD.lstE, FD.fzs, FD.tupE, FD.mvs, FD.cmpI, FD.isD, FD.isiD, FD.Kd.is, FD.lenP, FD.lstR, FD.bmE, FD.takeR, FD.backF, FD.chainE, FD.exprF, FD.offF, FD.compD, FD.listI, FD.forF, FD.tupG, FD.consG, FD.nilG, FD.partsM, FD.enumI, FD.noneO, FD.someO, FD.sliceE, FD.negD, FD.rg1E, FD.rg2E, FD.cstep, FD.lstep, FD.yesT, FD.nl_len, FD.R.flat, FD.revE, FD.dtupE, FD.movA, FD.rng1I, FD.dcE, FD.dixD, FD.parF, FD.owns, FD.nl_drop, FD.nl_take, FD.nl_append, FD.nl_reverse, FD.bkF, FD.isL, FD.stoG, FD.listD, FD.appE, FD.ixM, FD.sliceM, FD.obsT, FD.obsF, FD.frzS, FD.nl_dropLast, FD.strI] at zn
      have hr : runD (d, 1) = .tup [dDd d, .int 1] := rfl
      simp [FD.seqF, FD.asgF, FD.ifF, FD.retF, FD.retNF, FD.nxF, FD.nameE, FD.constE, FD.op2, FD.op1, FD.vw, FD.fz, FD.mv, FD.own, FD.addD, FD.subD, FD.mulD, FD.fdivD, FD.modD, FD.powD, FD.intD, FD.callE, FD.vws, FD.consA, FD.nilA, FD.nameG, FD.fnF, FD.outs, FD.M.toD, FD.M.flat, FD.boolT, FD.fgtF, FD.wipeF, FD.callG, FD.argsG, FD.giveG, FD.andV, FD.orV, FD.notV, FD.andT, FD.orT, FD.notT, FD.ifV, FD.lstE, FD.fzs, FD.tupE, FD.mvs, FD.cmpI, FD.isD, FD.isiD, FD.Kd.is, FD.lenP, FD.lstR, FD.bmE, FD.takeR, FD.backF, FD.chainE, FD.exprF, FD.offF, FD.compD, FD.listI, FD.forF, FD.tupG, FD.consG, FD.nilG, FD.partsM, FD.enumI, FD.noneO, FD.someO, FD.sliceE, FD.negD, FD.rg1E, FD.rg2E, FD.cstep, FD.lstep, FD.yesT, FD.nl_len, FD.R.flat, FD.revE, FD.dtupE, FD.movA, FD.rng1I, FD.dcE, FD.dixD, FD.parF, FD.owns, FD.nl_drop, FD.nl_take, FD.nl_append, FD.nl_reverse, FD.bkF, FD.isL, FD.stoG, FD.listD, FD.appE, FD.ixM, FD.sliceM, FD.obsT, FD.obsF, FD.frzS, FD.nl_dropLast, FD.strI, BT, hne, hx, i0, i1, hed, z0, z2, q, zn, hr]
end Law
set_option linter.all false
set_option maxRecDepth 100000
set_option maxHeartbeats 4000000
namespace Law
open PySem PySem.Spec PyProof.Rows L2 FD
theorem more_len : ∀ (rs : List (TL.Deed × Nat)) (d : TL.Deed), (more rs d).length ≤ rs.length + 1
  | [], d => Nat.le_refl _
  | [(e, n)], d => by
    show (if e = d then [(e, n + 1)] else [(e, n), (d, 1)]).length ≤ _
    split <;> simp [FD.seqF, FD.asgF, FD.ifF, FD.retF, FD.retNF, FD.nxF, FD.nameE, FD.constE, FD.op2, FD.op1, FD.vw, FD.fz, FD.mv, FD.own, FD.consA, FD.nilA, FD.nameG, FD.fnF, FD.outs, FD.M.toD, FD.M.flat, FD.fgtF, FD.wipeF, FD.lstE, FD.fzs, FD.forF, FD.R.flat, FD.backF, FD.strI]
  | r :: s :: rs, d => by
    have := more_len (s :: rs) d
    show (r :: more (s :: rs) d).length ≤ _
    simp [FD.seqF, FD.asgF, FD.ifF, FD.retF, FD.retNF, FD.nxF, FD.nameE, FD.constE, FD.op2, FD.op1, FD.vw, FD.fz, FD.mv, FD.own, FD.consA, FD.nilA, FD.nameG, FD.fnF, FD.outs, FD.M.toD, FD.M.flat, FD.fgtF, FD.wipeF, FD.lstE, FD.fzs, FD.forF, FD.R.flat, FD.backF, FD.strI] at this ⊢
    omega
theorem loop_told (r0 : Option M) : ∀ (w : List TL.Deed) (acc : List (TL.Deed × Nat)), acc.length + w.length ≤ 1000000 →
    loopF (nameG 2) BT (w.map dDd) [r0, some (.lst (acc.map runD)), none] = some ([r0, some (.lst ((w.foldl more acc).map runD)), none], .nx)
  | [], acc, _ => rfl
  | d :: w, acc, h => by
    rw [List.length_cons] at h
    rw [List.map_cons, loopF_cons, told_step r0 acc d (by omega)]
    exact loop_told r0 w (more acc d) (by have := more_len acc d; omega)
theorem told_eq {rs : List (TL.Deed × Nat)} (h : TL.Alt rs) (hn : (TL.flat rs).length ≤ 1000000) : f__law_told [.imm (.str (wS (TL.flat rs)))] = some (.lst (rs.map runD), []) := by
  have e : (wS (TL.flat rs)).cps.toList.map (fun c => D.str ⟨#[c]⟩) = (TL.flat rs).map dDd := by
    show ((TL.flat rs).map dC).toArray.toList.map _ = _
    rw [List.toList_toArray, List.map_map]
    exact List.map_congr_left fun d _ => by cases d <;> rfl
  have l := fun r0 => loop_told r0 (TL.flat rs) [] (by simpa [FD.seqF, FD.asgF, FD.ifF, FD.retF, FD.retNF, FD.nxF, FD.nameE, FD.constE, FD.op2, FD.op1, FD.vw, FD.fz, FD.mv, FD.own, FD.consA, FD.nilA, FD.nameG, FD.fnF, FD.outs, FD.M.toD, FD.M.flat, FD.fgtF, FD.wipeF, FD.lstE, FD.fzs, FD.forF, FD.R.flat, FD.backF, FD.strI] using hn)
  have m := more_flat rs [] h (fun r e n q => by simp [FD.seqF, FD.asgF, FD.ifF, FD.retF, FD.retNF, FD.nxF, FD.nameE, FD.constE, FD.op2, FD.op1, FD.vw, FD.fz, FD.mv, FD.own, FD.consA, FD.nilA, FD.nameG, FD.fnF, FD.outs, FD.M.toD, FD.M.flat, FD.fgtF, FD.wipeF, FD.lstE, FD.fzs, FD.forF, FD.R.flat, FD.backF, FD.strI] at q)
  rw [List.nil_append] at m
  simp only [m, BT, List.map_nil] at l
  have z0 : smallL 0 = true := small40 (by omega)
  simp only [f__law_told, F__law_told]
  simp [FD.seqF, FD.asgF, FD.ifF, FD.retF, FD.retNF, FD.nxF, FD.nameE, FD.constE, FD.op2, FD.op1, FD.vw, FD.fz, FD.mv, FD.own, FD.consA, FD.nilA, FD.nameG, FD.fnF, FD.outs, FD.M.toD, FD.M.flat, FD.fgtF, FD.wipeF, FD.lstE, FD.fzs, FD.forF, FD.R.flat, FD.backF, FD.strI, z0, e, l]
end Law
set_option linter.all false
set_option maxRecDepth 100000
set_option maxHeartbeats 4000000
set_option exponentiation.threshold 10000
namespace Law
open PySem PySem.Spec PyProof.Rows L2 FD
theorem big_lt {i j : Int} {k l : Nat} (h1 : i.natAbs < 2 ^ k) (h2 : j.natAbs < 2 ^ l) (h : k + l < 1000000) : bigOk i j = true := by
  refine big_of ?_
  have a1 : i.natAbs.log2 ≤ k := by
    rcases Nat.eq_zero_or_pos i.natAbs with z | z
    · rw [z]; simp [FD.seqF, FD.asgF, FD.ifF, FD.retF, FD.retNF, FD.nxF, FD.nameE, FD.constE, FD.op2, FD.op1, FD.vw, FD.fz, FD.mv, FD.own, FD.addD, FD.subD, FD.mulD, FD.fdivD, FD.modD, FD.powD, FD.intD, FD.callE, FD.vws, FD.consA, FD.nilA, FD.nameG, FD.fnF, FD.outs, FD.M.toD, FD.M.flat, FD.boolT, FD.fgtF, FD.wipeF, FD.callG, FD.argsG, FD.giveG, FD.cmpI, FD.lstR, FD.backF, FD.exprF, FD.forF, FD.R.flat, FD.rng1I, FD.ixD, FD.isL, FD.stoG, FD.bitsD]
    · exact Nat.le_of_lt ((Nat.log2_lt (by omega)).mpr h1)
  have a2 : j.natAbs.log2 ≤ l := by
    rcases Nat.eq_zero_or_pos j.natAbs with z | z
    · rw [z]; simp [FD.seqF, FD.asgF, FD.ifF, FD.retF, FD.retNF, FD.nxF, FD.nameE, FD.constE, FD.op2, FD.op1, FD.vw, FD.fz, FD.mv, FD.own, FD.addD, FD.subD, FD.mulD, FD.fdivD, FD.modD, FD.powD, FD.intD, FD.callE, FD.vws, FD.consA, FD.nilA, FD.nameG, FD.fnF, FD.outs, FD.M.toD, FD.M.flat, FD.boolT, FD.fgtF, FD.wipeF, FD.callG, FD.argsG, FD.giveG, FD.cmpI, FD.lstR, FD.backF, FD.exprF, FD.forF, FD.R.flat, FD.rng1I, FD.ixD, FD.isL, FD.stoG, FD.bitsD]
    · exact Nat.le_of_lt ((Nat.log2_lt (by omega)).mpr h2)
  omega
theorem abs_mul_lt {i j : Int} {k l : Nat} (h1 : i.natAbs < 2 ^ k) (h2 : j.natAbs < 2 ^ l) : (i * j).natAbs < 2 ^ (k + l) := by
  rw [Int.natAbs_mul, Nat.pow_add]
  exact Nat.mul_lt_mul'' h1 h2
theorem hash_ok {a b : Int} (ha : a.natAbs < 2 ^ 64) (hb : b.natAbs < 2 ^ 1000) : ∃ h : Int, f__law_hash [.imm (.int a), .imm (.int b)] = some (.imm (.int h), []) ∧ 0 ≤ h ∧ h < 2147483647 := by
  have c1 : bigOk a 1140671 = true := big_lt ha (l := 21) (by decide) (by omega)
  have c2 : bigOk 27644437 b = true := big_lt (k := 25) (by decide) hb (by omega)
  have c3 : bigOk (27644437 * b) b = true := big_lt (abs_mul_lt (k := 25) (by decide) hb) hb (by omega)
  have c4 : bigOk 131 b = true := big_lt (k := 8) (by decide) hb (by omega)
  have c5 : ∀ x : Int, bigOk (x % 2147483629) (x % 2147483629) = true := fun x => big_lt (k := 32) (l := 32) (by omega) (by omega) (by omega)
  have c6 : bigOk 62089 b = true := big_lt (k := 16) (by decide) hb (by omega)
  have c7 : ∀ x : Int, bigOk (x % 2147483587) 48271 = true := fun x => big_lt (k := 32) (l := 16) (by omega) (by decide) (by omega)
  refine ⟨_, by simp [FD.seqF, FD.asgF, FD.ifF, FD.retF, FD.retNF, FD.nxF, FD.nameE, FD.constE, FD.op2, FD.op1, FD.vw, FD.fz, FD.mv, FD.own, FD.addD, FD.subD, FD.mulD, FD.fdivD, FD.modD, FD.powD, FD.intD, FD.callE, FD.vws, FD.consA, FD.nilA, FD.nameG, FD.fnF, FD.outs, FD.M.toD, FD.M.flat, FD.boolT, FD.fgtF, FD.wipeF, FD.callG, FD.argsG, FD.giveG, FD.cmpI, FD.lstR, FD.backF, FD.exprF, FD.forF, FD.R.flat, FD.rng1I, FD.ixD, FD.isL, FD.stoG, FD.bitsD, f__law_hash, F__law_hash, c1, c2, c3, c4, c5, c6, c7]; rfl, ?_, ?_⟩
  · omega
  · omega
end Law
set_option linter.all false
set_option maxRecDepth 100000
set_option maxHeartbeats 4000000
set_option exponentiation.threshold 10000
namespace Law
open PySem PySem.Spec PyProof.Rows L2 FD
/-- the generator: its seed, how often it was asked -/
structure GS (g : M) (m : Nat) : Prop where
  ex : ∃ a b c : Int, g = .lst [.int a, .int b, .int c] ∧ 0 ≤ b ∧ b < 2147483647 ∧ 0 ≤ c ∧ c ≤ (m : Int)
theorem GS.mono {g : M} {m n : Nat} (h : GS g m) (l : m ≤ n) : GS g n := by
  obtain ⟨a, b, c, e, h1, h2, h3, h4⟩ := h.ex
  exact ⟨a, b, c, e, h1, h2, h3, by omega⟩
noncomputable def BQ : SF := fgtF [3] (seqF (asgF (op2 addD (op2 ixD (nameE 0) (constE (.int 2))) (constE (.int 1))) (stoG 0 (constE (.int 2)))) (asgF (op2 addD (op2 mulD (nameE 2) (constE (.int 2147483587))) (callG [] f__law_hash (consA (op2 ixD (nameE 0) (constE (.int 1))) (consA (op2 ixD (nameE 0) (constE (.int 2))) nilA)))) (nameG 2)))
theorem ix3a (a b c : D) : ixD (.lst [a, b, c]) (.int 0) = some (.imm a) := rfl
theorem ix3b (a b c : D) : ixD (.lst [a, b, c]) (.int 1) = some (.imm b) := rfl
theorem ix3c (a b c : D) : ixD (.lst [a, b, c]) (.int 2) = some (.imm c) := rfl
theorem ixn3a : ixN 3 0 = some 0 := rfl
theorem ixn3c : ixN 3 2 = some 2 := rfl
theorem random_ok {g : M} {m : Nat} (hg : GS g m) {n : Nat} (hn : 0 < n) (hn2 : n < 2 ^ 3000) (hm : m < 2 ^ 900) : ∃ (r : Nat) (g' : M), f__law_random [g, .imm (.int (n : Int))] = some (.imm (.int (r : Int)), [g']) ∧ r < n ∧ GS g' (m + 200) := by
  obtain ⟨a, b, c, rfl, h1, h2, h3, h4⟩ := hg.ex
  have hp : (0 : Int) < (n : Int) := by omega
  by_cases q : 0 < a
  · have s1 : sealB (n.log2 < 9000) = true := sealB_of (by have := (Nat.log2_lt (by omega : n ≠ 0)).mpr hn2; omega)
    refine ⟨(a % n).toNat, .lst [.int (a / n), .int b, .int c], ?_, ?_, ⟨_, b, c, rfl, h1, h2, h3, by omega⟩⟩
    · have e : (((a % n).toNat : Nat) : Int) = a % n := Int.toNat_of_nonneg (Int.emod_nonneg _ (by omega))
      rw [e]
      simp [FD.seqF, FD.asgF, FD.ifF, FD.retF, FD.retNF, FD.nxF, FD.nameE, FD.constE, FD.op2, FD.op1, FD.vw, FD.fz, FD.mv, FD.own, FD.addD, FD.subD, FD.mulD, FD.fdivD, FD.modD, FD.powD, FD.intD, FD.callE, FD.vws, FD.consA, FD.nilA, FD.nameG, FD.fnF, FD.outs, FD.M.toD, FD.M.flat, FD.boolT, FD.fgtF, FD.wipeF, FD.callG, FD.argsG, FD.giveG, FD.cmpI, FD.lstR, FD.backF, FD.exprF, FD.forF, FD.R.flat, FD.rng1I, FD.isL, FD.stoG, FD.bitsD, FD.lstep, f__law_random, F__law_random, ix3a, q, hn, s1, ixn3a]
    · have := Int.emod_lt_of_pos a hp
      have := Int.emod_nonneg a (by omega : (n : Int) ≠ 0)
      omega
  · have hbits : ∃ t : Nat, t ≤ 101 ∧ (1 : Int) + ((Builtin.Int.intBits (n : Int) : Nat) : Int) / 30 = (t : Int) := by
      have hl := (Nat.log2_lt (by omega : n ≠ 0)).mpr hn2
      have e : Builtin.Int.intBits (n : Int) = n.log2 + 1 := by
        unfold Builtin.Int.intBits
        have : ((n : Int) == 0) = false := by simp [FD.seqF, FD.asgF, FD.ifF, FD.retF, FD.retNF, FD.nxF, FD.nameE, FD.constE, FD.op2, FD.op1, FD.vw, FD.fz, FD.mv, FD.own, FD.addD, FD.subD, FD.mulD, FD.fdivD, FD.modD, FD.powD, FD.intD, FD.callE, FD.vws, FD.consA, FD.nilA, FD.nameG, FD.fnF, FD.outs, FD.M.toD, FD.M.flat, FD.boolT, FD.fgtF, FD.wipeF, FD.callG, FD.argsG, FD.giveG, FD.cmpI, FD.lstR, FD.backF, FD.exprF, FD.forF, FD.R.flat, FD.rng1I, FD.isL, FD.stoG, FD.bitsD, FD.lstep]; omega
        rw [this]
        simp [FD.seqF, FD.asgF, FD.ifF, FD.retF, FD.retNF, FD.nxF, FD.nameE, FD.constE, FD.op2, FD.op1, FD.vw, FD.fz, FD.mv, FD.own, FD.addD, FD.subD, FD.mulD, FD.fdivD, FD.modD, FD.powD, FD.intD, FD.callE, FD.vws, FD.consA, FD.nilA, FD.nameG, FD.fnF, FD.outs, FD.M.toD, FD.M.flat, FD.boolT, FD.fgtF, FD.wipeF, FD.callG, FD.argsG, FD.giveG, FD.cmpI, FD.lstR, FD.backF, FD.exprF, FD.forF, FD.R.flat, FD.rng1I, FD.isL, FD.stoG, FD.bitsD, FD.lstep]
      refine ⟨1 + (n.log2 + 1) / 30, by omega, by rw [e]; omega⟩
    obtain ⟨t, ht, et⟩ := hbits
    obtain ⟨ρ', e1, x, e2, hx0, hxl⟩ := loopF_inv (G := nameG 3) (F := BQ)
      (fun i ρ => ∃ x : Int, ρ = [some (.lst [.int a, .int b, .int (c + (i : Nat))]), some (.imm (.int (n : Int))), some (.imm (.int x)), none] ∧ 0 ≤ x ∧ x.natAbs < 2 ^ (40 * i + 1))
      (ds := rngD 0 t) (i := 0) (ρ := [some (.lst [.int a, .int b, .int c]), some (.imm (.int (n : Int))), some (.imm (.int 0)), none]) ⟨0, by simp [FD.seqF, FD.asgF, FD.ifF, FD.retF, FD.retNF, FD.nxF, FD.nameE, FD.constE, FD.op2, FD.op1, FD.vw, FD.fz, FD.mv, FD.own, FD.addD, FD.subD, FD.mulD, FD.fdivD, FD.modD, FD.powD, FD.intD, FD.callE, FD.vws, FD.consA, FD.nilA, FD.nameG, FD.fnF, FD.outs, FD.M.toD, FD.M.flat, FD.boolT, FD.fgtF, FD.wipeF, FD.callG, FD.argsG, FD.giveG, FD.cmpI, FD.lstR, FD.backF, FD.exprF, FD.forF, FD.R.flat, FD.rng1I, FD.isL, FD.stoG, FD.bitsD, FD.lstep], by omega, by simp [FD.seqF, FD.asgF, FD.ifF, FD.retF, FD.retNF, FD.nxF, FD.nameE, FD.constE, FD.op2, FD.op1, FD.vw, FD.fz, FD.mv, FD.own, FD.addD, FD.subD, FD.mulD, FD.fdivD, FD.modD, FD.powD, FD.intD, FD.callE, FD.vws, FD.consA, FD.nilA, FD.nameG, FD.fnF, FD.outs, FD.M.toD, FD.M.flat, FD.boolT, FD.fgtF, FD.wipeF, FD.callG, FD.argsG, FD.giveG, FD.cmpI, FD.lstR, FD.backF, FD.exprF, FD.forF, FD.R.flat, FD.rng1I, FD.isL, FD.stoG, FD.bitsD, FD.lstep]⟩ (fun j d ρ hd hI => by
        obtain ⟨x, rfl, hx0, hxl⟩ := hI
        rw [Nat.zero_add] at hxl ⊢
        have hjt : j < t := by
          have := (List.getElem?_eq_some_iff.mp hd).1
          unfold rngD at this
          rwa [List.length_map, List.length_range] at this
        have hc1 : (c + (j : Nat) + 1).natAbs < 2 ^ 1000 := by
          have h9 : (2 : Nat) ^ 900 + 200 < 2 ^ 1000 := by decide +kernel
          omega
        obtain ⟨hh, e3, h5, h6⟩ := hash_ok (a := b) (b := c + (j : Nat) + 1) (by omega) hc1
        have hmul : bigOk x 2147483587 = true := big_lt hxl (l := 32) (by decide) (by omega)
        refine ⟨[some (.lst [.int a, .int b, .int (c + ((j + 1 : Nat) : Int))]), some (.imm (.int (n : Int))), some (.imm (.int (x * 2147483587 + hh))), none], .inl ?_, _, rfl, by omega, ?_⟩
        · have ec : c + ((j + 1 : Nat) : Int) = c + (j : Nat) + 1 := by omega
          rw [ec]
          simp [FD.seqF, FD.asgF, FD.ifF, FD.retF, FD.retNF, FD.nxF, FD.nameE, FD.constE, FD.op2, FD.op1, FD.vw, FD.fz, FD.mv, FD.own, FD.addD, FD.subD, FD.mulD, FD.fdivD, FD.modD, FD.powD, FD.intD, FD.callE, FD.vws, FD.consA, FD.nilA, FD.nameG, FD.fnF, FD.outs, FD.M.toD, FD.M.flat, FD.boolT, FD.fgtF, FD.wipeF, FD.callG, FD.argsG, FD.giveG, FD.cmpI, FD.lstR, FD.backF, FD.exprF, FD.forF, FD.R.flat, FD.rng1I, FD.isL, FD.stoG, FD.bitsD, FD.lstep, BQ, ix3b, ix3c, ixn3c, e3, hmul]
        · have e5 : 40 * (j + 1) + 1 = (40 * j + 1) + 40 := by omega
          rw [e5, Nat.pow_add]
          have h7 : x.natAbs + 1 ≤ 2 ^ (40 * j + 1) := hxl
          have h8 := Nat.mul_le_mul_right (2 ^ 40) h7
          have h9 : (2 : Nat) ^ 40 = 1099511627776 := by decide
          rw [h9] at h8 ⊢
          omega)
    simp only [BQ] at e1
    subst e2
    have hrn : rngOk (t : Int) = true := rng_of (by omega)
    have hlen : (rngD 0 t).length = t := by unfold rngD; rw [List.length_map, List.length_range]
    have s30 : sealB (Nat.log2 30 < 9000) = true := sealB_of (by decide)
    rw [hlen, Nat.zero_add] at e1
    refine ⟨(x % n).toNat, .lst [.int a, .int b, .int (c + (t : Nat))], ?_, ?_, ⟨a, b, _, rfl, h1, h2, by omega, by omega⟩⟩
    · have e : (((x % n).toNat : Nat) : Int) = x % n := Int.toNat_of_nonneg (Int.emod_nonneg _ (by omega))
      rw [e]
      simp only [f__law_random, F__law_random]
      simp [FD.seqF, FD.asgF, FD.ifF, FD.retF, FD.retNF, FD.nxF, FD.nameE, FD.constE, FD.op2, FD.op1, FD.vw, FD.fz, FD.mv, FD.own, FD.addD, FD.subD, FD.mulD, FD.fdivD, FD.modD, FD.powD, FD.intD, FD.callE, FD.vws, FD.consA, FD.nilA, FD.nameG, FD.fnF, FD.outs, FD.M.toD, FD.M.flat, FD.boolT, FD.fgtF, FD.wipeF, FD.callG, FD.argsG, FD.giveG, FD.cmpI, FD.lstR, FD.backF, FD.exprF, FD.forF, FD.R.flat, FD.rng1I, FD.isL, FD.stoG, FD.bitsD, FD.lstep, ix3a, q, s30, et, hrn, e1, hn]
    · have := Int.emod_lt_of_pos x hp
      have := Int.emod_nonneg x (by omega : (n : Int) ≠ 0)
      omega
end Law
set_option linter.all false
set_option maxRecDepth 100000
set_option maxHeartbeats 4000000
set_option exponentiation.threshold 10000
namespace Law
open PySem PySem.Spec PyProof.Rows L2 FD
noncomputable def BO1 : SF := fgtF [6] (exprF (appE 5 (popAtE 4 (callG [0] f__law_random (consA (nameE 0) (consA (callE lenP (consA (nameE 4) nilA)) nilA))))))
theorem draw_step {g : M} {m : Nat} {left found : List Nat} (hg : GS g m) (hm : m < 2 ^ 900) (hl : 0 < left.length) (hln : left.length ≤ 1000) (hf : found.length ≤ 1000) (r1 r2 r3 : Option M) (d : D) :
    ∃ (r : Nat) (g' : M), lstep (nameG 6) BO1 d [some g, r1, r2, r3, some (.lst (nl left)), some (.lst (nl found)), none, none] = some ([some g', r1, r2, r3, some (.lst (nl (left.eraseIdx r))), some (.lst (nl (found ++ [left.getD r 0]))), none, none], .nx) ∧ r < left.length ∧ GS g' (m + 200) := by
  obtain ⟨r, g', e, hr, hg'⟩ := random_ok hg (n := left.length) hl (Nat.lt_of_le_of_lt hln (by decide +kernel)) hm
  refine ⟨r, g', ?_, hr, hg'⟩
  have h1 : rngOk (r : Int) = true := rng_of (by omega)
  have h2 : seqIndex? (r : Int) left.length = some r := by
    unfold seqIndex?
    simp [FD.seqF, FD.asgF, FD.ifF, FD.retF, FD.retNF, FD.nxF, FD.nameE, FD.constE, FD.op2, FD.op1, FD.vw, FD.fz, FD.mv, FD.own, FD.addD, FD.subD, FD.mulD, FD.fdivD, FD.modD, FD.powD, FD.intD, FD.callE, FD.vws, FD.consA, FD.nilA, FD.nameG, FD.fnF, FD.outs, FD.M.toD, FD.M.flat, FD.boolT, FD.fgtF, FD.wipeF, FD.callG, FD.argsG, FD.giveG, FD.cmpI, FD.lstR, FD.backF, FD.exprF, FD.forF, FD.R.flat, FD.rng1I, FD.rng2I, FD.isL, FD.stoG, FD.bitsD, FD.lstep, FD.appE, FD.popAtE, FD.lenP, FD.nl_len, FD.yesT, FD.cstep, FD.tupG, FD.consG, FD.nilG, FD.partsM, FD.dtupE, FD.mvs, FD.rg1E, FD.revE, FD.lstE]
    omega
  have h3 : (nl left)[r]? = some (nD (left.getD r 0)) := by
    unfold nl
    rw [List.getElem?_map, List.getElem?_eq_getElem hr]
    simp [FD.seqF, FD.asgF, FD.ifF, FD.retF, FD.retNF, FD.nxF, FD.nameE, FD.constE, FD.op2, FD.op1, FD.vw, FD.fz, FD.mv, FD.own, FD.addD, FD.subD, FD.mulD, FD.fdivD, FD.modD, FD.powD, FD.intD, FD.callE, FD.vws, FD.consA, FD.nilA, FD.nameG, FD.fnF, FD.outs, FD.M.toD, FD.M.flat, FD.boolT, FD.fgtF, FD.wipeF, FD.callG, FD.argsG, FD.giveG, FD.cmpI, FD.lstR, FD.backF, FD.exprF, FD.forF, FD.R.flat, FD.rng1I, FD.rng2I, FD.isL, FD.stoG, FD.bitsD, FD.lstep, FD.appE, FD.popAtE, FD.lenP, FD.nl_len, FD.yesT, FD.cstep, FD.tupG, FD.consG, FD.nilG, FD.partsM, FD.dtupE, FD.mvs, FD.rg1E, FD.revE, FD.lstE, List.getD, hr]
  have h4 : (nl left).eraseIdx r = nl (left.eraseIdx r) := by unfold nl; rw [List.eraseIdx_eq_take_drop_succ, List.eraseIdx_eq_take_drop_succ, List.map_append, List.map_take, List.map_drop]
  have h5 : nl found ++ [nD (left.getD r 0)] = nl (found ++ [left.getD r 0]) := nl_append found [_]
  have h6 : smallL found.length = true := small_of (by omega)
  obtain ⟨a, b, c, rfl, _⟩ := hg.ex
  simp only [List.getD_eq_getElem?_getD] at h5
  simp [FD.seqF, FD.asgF, FD.ifF, FD.retF, FD.retNF, FD.nxF, FD.nameE, FD.constE, FD.op2, FD.op1, FD.vw, FD.fz, FD.mv, FD.own, FD.addD, FD.subD, FD.mulD, FD.fdivD, FD.modD, FD.powD, FD.intD, FD.callE, FD.vws, FD.consA, FD.nilA, FD.nameG, FD.fnF, FD.outs, FD.M.toD, FD.M.flat, FD.boolT, FD.fgtF, FD.wipeF, FD.callG, FD.argsG, FD.giveG, FD.cmpI, FD.lstR, FD.backF, FD.exprF, FD.forF, FD.R.flat, FD.rng1I, FD.rng2I, FD.isL, FD.stoG, FD.bitsD, FD.lstep, FD.appE, FD.popAtE, FD.lenP, FD.nl_len, FD.yesT, FD.cstep, FD.tupG, FD.consG, FD.nilG, FD.partsM, FD.dtupE, FD.mvs, FD.rg1E, FD.revE, FD.lstE, BO1, e, h1, h2, h3, h4, h5, h6]
theorem draw_loop (r1 r2 r3 : Option M) : ∀ (ds : List D) (left found : List Nat) (g : M) (m : Nat), GS g m → m + 200 * ds.length < 2 ^ 900 → left.length = ds.length → left.length + found.length ≤ 1000 →
    ∃ (found' : List Nat) (g' : M), loopF (nameG 6) BO1 ds [some g, r1, r2, r3, some (.lst (nl left)), some (.lst (nl found)), none, none] = some ([some g', r1, r2, r3, some (.lst (nl [])), some (.lst (nl found')), none, none], .nx) ∧ found'.Perm (found ++ left) ∧ GS g' (m + 200 * ds.length)
  | [], left, found, g, m, hg, hm, hl, hb => by
    have : left = [] := List.eq_nil_of_length_eq_zero hl
    subst this
    exact ⟨found, g, rfl, by simp [FD.seqF, FD.asgF, FD.ifF, FD.retF, FD.retNF, FD.nxF, FD.nameE, FD.constE, FD.op2, FD.op1, FD.vw, FD.fz, FD.mv, FD.own, FD.addD, FD.subD, FD.mulD, FD.fdivD, FD.modD, FD.powD, FD.intD, FD.callE, FD.vws, FD.consA, FD.nilA, FD.nameG, FD.fnF, FD.outs, FD.M.toD, FD.M.flat, FD.boolT, FD.fgtF, FD.wipeF, FD.callG, FD.argsG, FD.giveG, FD.cmpI, FD.lstR, FD.backF, FD.exprF, FD.forF, FD.R.flat, FD.rng1I, FD.rng2I, FD.isL, FD.stoG, FD.bitsD, FD.lstep, FD.appE, FD.popAtE, FD.lenP, FD.nl_len, FD.yesT, FD.cstep, FD.tupG, FD.consG, FD.nilG, FD.partsM, FD.dtupE, FD.mvs, FD.rg1E, FD.revE, FD.lstE], hg⟩
  | d :: ds, left, found, g, m, hg, hm, hl, hb => by
    rw [List.length_cons] at hm hl
    obtain ⟨r, g1, e1, hr, hg1⟩ := draw_step (left := left) (found := found) hg (by omega) (by omega) (by omega) (by omega) r1 r2 r3 d
    have hle : (left.eraseIdx r).length = left.length - 1 := by rw [List.length_eraseIdx, if_pos hr]
    obtain ⟨f', g2, e2, p, hg2⟩ := draw_loop r1 r2 r3 ds (left.eraseIdx r) (found ++ [left.getD r 0]) g1 (m + 200) hg1 (by omega) (by omega) (by rw [hle, List.length_append, List.length_singleton]; omega)
    refine ⟨f', g2, ?_, p.trans ?_, by rw [List.length_cons]; have : m + 200 * (ds.length + 1) = m + 200 + 200 * ds.length := by omega
                                       rw [this]; exact hg2⟩
    · rw [loopF_cons, e1]
      exact e2
    · rw [List.append_assoc]
      refine List.Perm.append_left _ ?_
      have e : left.getD r 0 = left[r] := by simp [FD.seqF, FD.asgF, FD.ifF, FD.retF, FD.retNF, FD.nxF, FD.nameE, FD.constE, FD.op2, FD.op1, FD.vw, FD.fz, FD.mv, FD.own, FD.addD, FD.subD, FD.mulD, FD.fdivD, FD.modD, FD.powD, FD.intD, FD.callE, FD.vws, FD.consA, FD.nilA, FD.nameG, FD.fnF, FD.outs, FD.M.toD, FD.M.flat, FD.boolT, FD.fgtF, FD.wipeF, FD.callG, FD.argsG, FD.giveG, FD.cmpI, FD.lstR, FD.backF, FD.exprF, FD.forF, FD.R.flat, FD.rng1I, FD.rng2I, FD.isL, FD.stoG, FD.bitsD, FD.lstep, FD.appE, FD.popAtE, FD.lenP, FD.nl_len, FD.yesT, FD.cstep, FD.tupG, FD.consG, FD.nilG, FD.partsM, FD.dtupE, FD.mvs, FD.rg1E, FD.revE, FD.lstE, List.getD, hr]
      rw [e]
      show (left[r] :: left.eraseIdx r).Perm left
      rw [List.eraseIdx_eq_take_drop_succ]
      conv => rhs; rw [← List.take_append_drop r left, List.drop_eq_getElem_cons hr]
      exact List.perm_middle.symm
theorem maxL_mem : ∀ {l : List Int}, l ≠ [] → maxL l ∈ l := by
  intro l
  induction l with
  | nil => intro h; exact absurd rfl h
  | cons a l ih =>
    intro _
    cases l with
    | nil => simp [FD.seqF, FD.asgF, FD.ifF, FD.retF, FD.retNF, FD.nxF, FD.nameE, FD.constE, FD.op2, FD.op1, FD.vw, FD.fz, FD.mv, FD.own, FD.addD, FD.subD, FD.mulD, FD.fdivD, FD.modD, FD.powD, FD.intD, FD.callE, FD.vws, FD.consA, FD.nilA, FD.nameG, FD.fnF, FD.outs, FD.M.toD, FD.M.flat, FD.boolT, FD.fgtF, FD.wipeF, FD.callG, FD.argsG, FD.giveG, FD.cmpI, FD.lstR, FD.backF, FD.exprF, FD.forF, FD.R.flat, FD.rng1I, FD.rng2I, FD.isL, FD.stoG, FD.bitsD, FD.lstep, FD.appE, FD.popAtE, FD.lenP, FD.nl_len, FD.yesT, FD.cstep, FD.tupG, FD.consG, FD.nilG, FD.partsM, FD.dtupE, FD.mvs, FD.rg1E, FD.revE, FD.lstE, maxL]
    | cons b l =>
      show max a (maxL (b :: l)) ∈ a :: b :: l
      have := ih (by simp [FD.seqF, FD.asgF, FD.ifF, FD.retF, FD.retNF, FD.nxF, FD.nameE, FD.constE, FD.op2, FD.op1, FD.vw, FD.fz, FD.mv, FD.own, FD.addD, FD.subD, FD.mulD, FD.fdivD, FD.modD, FD.powD, FD.intD, FD.callE, FD.vws, FD.consA, FD.nilA, FD.nameG, FD.fnF, FD.outs, FD.M.toD, FD.M.flat, FD.boolT, FD.fgtF, FD.wipeF, FD.callG, FD.argsG, FD.giveG, FD.cmpI, FD.lstR, FD.backF, FD.exprF, FD.forF, FD.R.flat, FD.rng1I, FD.rng2I, FD.isL, FD.stoG, FD.bitsD, FD.lstep, FD.appE, FD.popAtE, FD.lenP, FD.nl_len, FD.yesT, FD.cstep, FD.tupG, FD.consG, FD.nilG, FD.partsM, FD.dtupE, FD.mvs, FD.rg1E, FD.revE, FD.lstE])
      rcases Int.le_total a (maxL (b :: l)) with q | q
      · rw [Int.max_eq_right q]; exact List.mem_cons_of_mem _ this
      · rw [Int.max_eq_left q]; exact List.mem_cons_self ..
theorem max_nl {xs : List Nat} (h : xs ≠ []) : ∃ k ∈ xs, maxD [.lst (nl xs)] = some (.imm (nD k)) := by
  cases xs with
  | nil => exact absurd rfl h
  | cons a l =>
    have hm := maxL_mem (l := (a :: l).map fun n : Nat => (n : Int)) (by simp [FD.seqF, FD.asgF, FD.ifF, FD.retF, FD.retNF, FD.nxF, FD.nameE, FD.constE, FD.op2, FD.op1, FD.vw, FD.fz, FD.mv, FD.own, FD.addD, FD.subD, FD.mulD, FD.fdivD, FD.modD, FD.powD, FD.intD, FD.callE, FD.vws, FD.consA, FD.nilA, FD.nameG, FD.fnF, FD.outs, FD.M.toD, FD.M.flat, FD.boolT, FD.fgtF, FD.wipeF, FD.callG, FD.argsG, FD.giveG, FD.cmpI, FD.lstR, FD.backF, FD.exprF, FD.forF, FD.R.flat, FD.rng1I, FD.rng2I, FD.isL, FD.stoG, FD.bitsD, FD.lstep, FD.appE, FD.popAtE, FD.lenP, FD.nl_len, FD.yesT, FD.cstep, FD.tupG, FD.consG, FD.nilG, FD.partsM, FD.dtupE, FD.mvs, FD.rg1E, FD.revE, FD.lstE])
    obtain ⟨k, hk, e⟩ := List.mem_map.mp hm
    refine ⟨k, hk, ?_⟩
    unfold maxD
    simp only [ints_nl]
    show some (M.imm (D.int (maxL ((a :: l).map fun n : Nat => (n : Int))))) = _
    rw [← e]
    rfl
/-- the look whether a row falls apart -/
theorem falls_look {o : List Nat} (ho : o.length ≤ 1000) (g r1 r3 : Option M) : ∃ fs, cloopD [7] (nameG 7) (boolT (op2 ltD (callE maxD (consA (sliceE (nameE 5) noneO (someO (nameE 7))) nilA)) (nameE 7))) (nameE 7) (rngD 1 (o.length - 1)) [g, r1, some (.imm (.int (o.length : Nat))), r3, none, some (.lst (nl o)), none, none] = some (fs, [g, r1, some (.imm (.int (o.length : Nat))), r3, none, some (.lst (nl o)), none, none]) ∧ fs.length ≤ 1000 ∧ fs.all (D.ok 11) = true ∧ (fs = [] → TL.Irr o) := by
  refine ⟨(rngD 1 (o.length - 1)).filterMap (fun d => match d with | .int i => if maxL ((o.take i.toNat).map fun n : Nat => (n : Int)) < i then some d else none | _ => none), ?_, ?_, ?_, ?_⟩
  · refine cloopD_fm _ fun d hd => ?_
    unfold rngD at hd
    obtain ⟨i, hi, rfl⟩ := List.mem_map.mp hd
    rw [List.mem_range] at hi
    have hne : o.take (1 + i) ≠ [] := by
      intro z
      have := congrArg List.length z
      rw [List.length_take, List.length_nil] at this
      omega
    obtain ⟨k, hk, e⟩ := max_nl hne
    have hc : cutD (nl o) none (some (1 + (i : Int))) = nl (o.take (1 + i)) := by
      have := cut_to (xs := nl o) (k := 1 + i)
      rw [nl_take] at this
      exact this
    have e2 : maxL ((o.take (1 + i)).map fun n : Nat => (n : Int)) = (k : Int) := by
      unfold maxD at e
      simp only [ints_nl] at e
      revert e
      cases hq : o.take (1 + i) with
      | nil => exact absurd hq hne
      | cons a l =>
        intro e
        simp only [List.map_cons, nD] at e
        injection e with e
        injection e with e
        injection e with e
    have e3 : (1 + (i : Int)).toNat = 1 + i := by omega
    simp only [e3, e2]
    by_cases q : (k : Int) < 1 + (i : Int)
    · simp [FD.seqF, FD.asgF, FD.ifF, FD.retF, FD.retNF, FD.nxF, FD.nameE, FD.constE, FD.op2, FD.op1, FD.vw, FD.fz, FD.mv, FD.own, FD.addD, FD.subD, FD.mulD, FD.fdivD, FD.modD, FD.powD, FD.intD, FD.callE, FD.vws, FD.consA, FD.nilA, FD.nameG, FD.fnF, FD.outs, FD.M.toD, FD.M.flat, FD.boolT, FD.fgtF, FD.wipeF, FD.callG, FD.argsG, FD.giveG, FD.cmpI, FD.lstR, FD.backF, FD.exprF, FD.forF, FD.R.flat, FD.rng1I, FD.rng2I, FD.isL, FD.stoG, FD.bitsD, FD.lstep, FD.appE, FD.popAtE, FD.lenP, FD.nl_len, FD.yesT, FD.cstep, FD.tupG, FD.consG, FD.nilG, FD.partsM, FD.dtupE, FD.mvs, FD.rg1E, FD.revE, FD.lstE, sliceE, someO, noneO, hc, e, nD, q]
    · simp [FD.seqF, FD.asgF, FD.ifF, FD.retF, FD.retNF, FD.nxF, FD.nameE, FD.constE, FD.op2, FD.op1, FD.vw, FD.fz, FD.mv, FD.own, FD.addD, FD.subD, FD.mulD, FD.fdivD, FD.modD, FD.powD, FD.intD, FD.callE, FD.vws, FD.consA, FD.nilA, FD.nameG, FD.fnF, FD.outs, FD.M.toD, FD.M.flat, FD.boolT, FD.fgtF, FD.wipeF, FD.callG, FD.argsG, FD.giveG, FD.cmpI, FD.lstR, FD.backF, FD.exprF, FD.forF, FD.R.flat, FD.rng1I, FD.rng2I, FD.isL, FD.stoG, FD.bitsD, FD.lstep, FD.appE, FD.popAtE, FD.lenP, FD.nl_len, FD.yesT, FD.cstep, FD.tupG, FD.consG, FD.nilG, FD.partsM, FD.dtupE, FD.mvs, FD.rg1E, FD.revE, FD.lstE, sliceE, someO, noneO, hc, e, nD, q]
  · refine Nat.le_trans (List.length_filterMap_le ..) ?_
    unfold rngD
    rw [List.length_map, List.length_range]
    omega
  · refine List.all_eq_true.mpr fun d hd => ?_
    obtain ⟨e, he, h2⟩ := List.mem_filterMap.mp hd
    unfold rngD at he
    obtain ⟨i, _, rfl⟩ := List.mem_map.mp he
    simp only at h2
    split at h2
    · cases h2; rfl
    · cases h2
  · intro hz c h0 hc
    have hm : D.int (1 + ((c - 1 : Nat) : Int)) ∈ rngD 1 (o.length - 1) := List.mem_map.mpr ⟨c - 1, List.mem_range.mpr (by omega), rfl⟩
    have hf := List.filterMap_eq_nil_iff.mp hz _ hm
    have e3 : (1 + ((c - 1 : Nat) : Int)).toNat = c := by omega
    simp only [e3] at hf
    have hne : (o.take c).map (fun n : Nat => (n : Int)) ≠ [] := by
      intro z
      have := congrArg List.length z
      rw [List.length_map, List.length_take, List.length_nil] at this
      omega
    have hq : ¬ maxL ((o.take c).map fun n : Nat => (n : Int)) < 1 + ((c - 1 : Nat) : Int) := by
      intro z
      rw [if_pos z] at hf
      cases hf
    obtain ⟨x, hx, e⟩ := List.mem_map.mp (maxL_mem hne)
    refine ⟨x, hx, ?_⟩
    rw [← e] at hq
    omega
theorem back_ord {n : Nat} (h : 2 ≤ n) : TL.Ord (List.range n).reverse := by
  refine ⟨⟨(List.reverse_perm _).nodup_iff.mpr List.nodup_range, fun x hx => ?_⟩, by rw [List.length_reverse, List.length_range]; exact h, fun c h0 hc => ?_⟩
  · rw [List.length_reverse, List.length_range]
    exact List.mem_range.mp (List.mem_reverse.mp hx)
  · rw [List.length_reverse, List.length_range] at hc
    refine ⟨n - 1, ?_, by omega⟩
    have e : (List.range n).reverse = (n - 1) :: (List.range (n - 1)).reverse := by
      have : n = (n - 1) + 1 := by omega
      conv => lhs; rw [this, List.range_succ, List.reverse_append]
      rfl
    rw [e]
    cases c with
    | zero => omega
    | succ c => simp [FD.seqF, FD.asgF, FD.ifF, FD.retF, FD.retNF, FD.nxF, FD.nameE, FD.constE, FD.op2, FD.op1, FD.vw, FD.fz, FD.mv, FD.own, FD.addD, FD.subD, FD.mulD, FD.fdivD, FD.modD, FD.powD, FD.intD, FD.callE, FD.vws, FD.consA, FD.nilA, FD.nameG, FD.fnF, FD.outs, FD.M.toD, FD.M.flat, FD.boolT, FD.fgtF, FD.wipeF, FD.callG, FD.argsG, FD.giveG, FD.cmpI, FD.lstR, FD.backF, FD.exprF, FD.forF, FD.R.flat, FD.rng1I, FD.rng2I, FD.isL, FD.stoG, FD.bitsD, FD.lstep, FD.appE, FD.popAtE, FD.lenP, FD.nl_len, FD.yesT, FD.cstep, FD.tupG, FD.consG, FD.nilG, FD.partsM, FD.dtupE, FD.mvs, FD.rg1E, FD.revE, FD.lstE]
end Law
set_option linter.all false
set_option maxRecDepth 100000
set_option maxHeartbeats 4000000
set_option exponentiation.threshold 10000
namespace Law
open PySem PySem.Spec PyProof.Rows L2 FD
noncomputable def BO2 : SF := fgtF [3, 4, 5, 6] (seqF (asgF (dtupE (consA (rg1E (nameE 2)) (consA (lstE nilA) nilA))) (tupG 2 (consG (nameG 4) (consG (nameG 5) nilG)))) (seqF (fgtF [4, 6] (forF (rng1I (consA (nameE 2) nilA)) (nameG 6) BO1 [6])) (fgtF [5] (ifF (boolT (op2 eqD (compD [7] (rng2I (consA (constE (.int 1)) (consA (nameE 2) nilA))) (nameG 7) (boolT (op2 ltD (callE maxD (consA (sliceE (nameE 5) noneO (someO (nameE 7))) nilA)) (nameE 7))) (nameE 7)) (lstE nilA))) (retF (nameE 5)) nxF))))
theorem order_turn {g : M} {m n : Nat} (hg : GS g m) (h2 : 2 ≤ n) (hn : n ≤ 100) (hm : m + 200 * n < 2 ^ 900) (r1 : Option M) (d : D) :
    (∃ g', lstep (nameG 3) BO2 d [some g, r1, some (.imm (.int (n : Nat))), none, none, none, none, none] = some ([some g', r1, some (.imm (.int (n : Nat))), none, none, none, none, none], .nx) ∧ GS g' (m + 200 * n)) ∨
    ∃ (o : List Nat) (g' : M) (ρ' : FD.Env), lstep (nameG 3) BO2 d [some g, r1, some (.imm (.int (n : Nat))), none, none, none, none, none] = some (some g' :: ρ', .ret (.lst (nl o))) ∧ TL.Ord o ∧ o.length = n ∧ GS g' (m + 200 * n) := by
  obtain ⟨o, g', e1, hp, hg'⟩ := draw_loop r1 (some (.imm (.int (n : Nat)))) (some (.imm d)) (rngD 0 n) (List.range n) [] g m hg (by rw [show (rngD 0 n).length = n by unfold rngD; simp]; exact hm) (by rw [show (rngD 0 n).length = n by unfold rngD; simp [FD.seqF, FD.asgF, FD.ifF, FD.retF, FD.retNF, FD.nxF, FD.nameE, FD.constE, FD.op2, FD.op1, FD.vw, FD.fz, FD.mv, FD.own, FD.addD, FD.subD, FD.mulD, FD.fdivD, FD.modD, FD.powD, FD.intD, FD.callE, FD.vws, FD.consA, FD.nilA, FD.nameG, FD.fnF, FD.outs, FD.M.toD, FD.M.flat, FD.boolT, FD.fgtF, FD.wipeF, FD.callG, FD.argsG, FD.giveG, FD.cmpI, FD.lstR, FD.backF, FD.exprF, FD.forF, FD.R.flat, FD.rng1I, FD.rng2I, FD.isL, FD.stoG, FD.bitsD, FD.lstep, FD.appE, FD.popAtE, FD.lenP, FD.nl_len, FD.yesT, FD.cstep, FD.tupG, FD.consG, FD.nilG, FD.partsM, FD.dtupE, FD.mvs, FD.rg1E, FD.revE, FD.lstE, FD.fzs, FD.compD], List.length_range]) (by simp [FD.seqF, FD.asgF, FD.ifF, FD.retF, FD.retNF, FD.nxF, FD.nameE, FD.constE, FD.op2, FD.op1, FD.vw, FD.fz, FD.mv, FD.own, FD.addD, FD.subD, FD.mulD, FD.fdivD, FD.modD, FD.powD, FD.intD, FD.callE, FD.vws, FD.consA, FD.nilA, FD.nameG, FD.fnF, FD.outs, FD.M.toD, FD.M.flat, FD.boolT, FD.fgtF, FD.wipeF, FD.callG, FD.argsG, FD.giveG, FD.cmpI, FD.lstR, FD.backF, FD.exprF, FD.forF, FD.R.flat, FD.rng1I, FD.rng2I, FD.isL, FD.stoG, FD.bitsD, FD.lstep, FD.appE, FD.popAtE, FD.lenP, FD.nl_len, FD.yesT, FD.cstep, FD.tupG, FD.consG, FD.nilG, FD.partsM, FD.dtupE, FD.mvs, FD.rg1E, FD.revE, FD.lstE, FD.fzs, FD.compD]; omega)
  rw [show (rngD 0 n).length = n by unfold rngD; simp] at hg'
  rw [List.nil_append] at hp
  have hol : o.length = n := by rw [hp.length_eq, List.length_range]
  obtain ⟨fs, e2, hf1, hf2, hf3⟩ := falls_look (o := o) (by omega) (some g') r1 (some (.imm d))
  rw [hol] at e2
  have hr : rgOk 0 (n : Int) = true := rgOk_nat (by omega)
  have hr2 : rngOk (n : Int) = true := rng_of (by omega)
  have hr1 : rngOk 1 = true := rng_of (by omega)
  have z0 : smallL 0 = true := small_of (by omega)
  have z2 : smallL 2 = true := small_of (by omega)
  have zr : smallL (rngD 1 (n - 1)).length = true := small_of (by unfold rngD; rw [List.length_map, List.length_range]; omega)
  have zf : smallL fs.length = true := small_of (by omega)
  have he : eqD (.lst fs) (.lst []) = some (.imm (.bl (decide (fs = [])))) := by
    unfold eqD
    have : okE (.lst fs) = true := hf2
    rw [this]
    cases fs with
    | nil => rfl
    | cons a l => rfl
  have hrg := rgD_nat n
  simp only [nl, List.map_nil] at e1
  simp only [nl] at hrg
  by_cases q : fs = []
  · right
    have hO : TL.Ord o := ⟨⟨hp.nodup_iff.mpr List.nodup_range, fun x hx => by rw [hol]; exact List.mem_range.mp (hp.mem_iff.mp hx)⟩, by omega, hf3 q⟩
    subst q
    refine ⟨o, g', [r1, some (.imm (.int (n : Nat))), none, none, none, none, none], ?_, hO, hol, hg'⟩
    simp only [nl] at e2 ⊢
    simp [FD.seqF, FD.asgF, FD.ifF, FD.retF, FD.retNF, FD.nxF, FD.nameE, FD.constE, FD.op2, FD.op1, FD.vw, FD.fz, FD.mv, FD.own, FD.addD, FD.subD, FD.mulD, FD.fdivD, FD.modD, FD.powD, FD.intD, FD.callE, FD.vws, FD.consA, FD.nilA, FD.nameG, FD.fnF, FD.outs, FD.M.toD, FD.M.flat, FD.boolT, FD.fgtF, FD.wipeF, FD.callG, FD.argsG, FD.giveG, FD.cmpI, FD.lstR, FD.backF, FD.exprF, FD.forF, FD.R.flat, FD.rng1I, FD.rng2I, FD.isL, FD.stoG, FD.bitsD, FD.lstep, FD.appE, FD.popAtE, FD.lenP, FD.nl_len, FD.yesT, FD.cstep, FD.tupG, FD.consG, FD.nilG, FD.partsM, FD.dtupE, FD.mvs, FD.rg1E, FD.revE, FD.lstE, FD.fzs, FD.compD, BO2, hr, hr2, hr1, z0, z2, hrg, e1, e2, he, zr]
  · left
    refine ⟨g', ?_, hg'⟩
    simp only [nl] at e2
    simp [FD.seqF, FD.asgF, FD.ifF, FD.retF, FD.retNF, FD.nxF, FD.nameE, FD.constE, FD.op2, FD.op1, FD.vw, FD.fz, FD.mv, FD.own, FD.addD, FD.subD, FD.mulD, FD.fdivD, FD.modD, FD.powD, FD.intD, FD.callE, FD.vws, FD.consA, FD.nilA, FD.nameG, FD.fnF, FD.outs, FD.M.toD, FD.M.flat, FD.boolT, FD.fgtF, FD.wipeF, FD.callG, FD.argsG, FD.giveG, FD.cmpI, FD.lstR, FD.backF, FD.exprF, FD.forF, FD.R.flat, FD.rng1I, FD.rng2I, FD.isL, FD.stoG, FD.bitsD, FD.lstep, FD.appE, FD.popAtE, FD.lenP, FD.nl_len, FD.yesT, FD.cstep, FD.tupG, FD.consG, FD.nilG, FD.partsM, FD.dtupE, FD.mvs, FD.rg1E, FD.revE, FD.lstE, FD.fzs, FD.compD, BO2, hr, hr2, hr1, z0, z2, hrg, e1, e2, he, q, zf, zr]
theorem order_ok {g : M} {m : Nat} (hg : GS g m) (hm : m < 2 ^ 800) {most : Nat} (h3 : 2 ≤ most) (hmost : most ≤ 100) : ∃ (o : List Nat) (g' : M), f__law_order [g, .imm (.int (most : Nat))] = some (.lst (nl o), [g']) ∧ TL.Ord o ∧ o.length ≤ most ∧ GS g' (m + 300000) := by
  have hpw : (2 : Nat) ^ 800 + 300000 < 2 ^ 900 := by decide +kernel
  obtain ⟨r, g1, e1, hr, hg1⟩ := random_ok hg (n := most - 1) (by omega) (Nat.lt_of_le_of_lt (Nat.le_trans (Nat.sub_le _ _) hmost) (by decide +kernel)) (by omega)
  have ec : ((most : Nat) : Int) - 1 = ((most - 1 : Nat) : Int) := by omega
  have hz : (rngD 0 12).length = 12 := by unfold rngD; simp [FD.seqF, FD.asgF, FD.ifF, FD.retF, FD.retNF, FD.nxF, FD.nameE, FD.constE, FD.op2, FD.op1, FD.vw, FD.fz, FD.mv, FD.own, FD.addD, FD.subD, FD.mulD, FD.fdivD, FD.modD, FD.powD, FD.intD, FD.callE, FD.vws, FD.consA, FD.nilA, FD.nameG, FD.fnF, FD.outs, FD.M.toD, FD.M.flat, FD.boolT, FD.fgtF, FD.wipeF, FD.callG, FD.argsG, FD.giveG, FD.cmpI, FD.lstR, FD.backF, FD.exprF, FD.forF, FD.R.flat, FD.rng1I, FD.rng2I, FD.isL, FD.stoG, FD.bitsD, FD.lstep, FD.appE, FD.popAtE, FD.lenP, FD.nl_len, FD.yesT, FD.cstep, FD.tupG, FD.consG, FD.nilG, FD.partsM, FD.dtupE, FD.mvs, FD.rg1E, FD.revE, FD.lstE, FD.fzs, FD.compD]
  have r12 : rngOk 12 = true := rng_of (by omega)
  obtain ⟨s, hs⟩ : ∃ s, s = 2 + r := ⟨_, rfl⟩
  have en : (2 : Int) + (r : Int) = (s : Int) := by omega
  have L := loopF_ret (G := nameG 3) (F := BO2) (fun i ρ => ∃ g', ρ = [some g', some (.imm (.int (most : Nat))), some (.imm (.int (s : Int))), none, none, none, none, none] ∧ GS g' (m + 200 + 200 * s * i))
    (fun mm ρ => ∃ (o : List Nat) (g' : M) (ρ' : FD.Env), ρ = some g' :: ρ' ∧ mm = .lst (nl o) ∧ TL.Ord o ∧ o.length = s ∧ GS g' (m + 300000)) (fun _ => False) (ds := rngD 0 12) (i := 0)
    (ρ := [some g1, some (.imm (.int (most : Nat))), some (.imm (.int (s : Int))), none, none, none, none, none]) ⟨g1, rfl, hg1⟩ (fun j d ρ hd hI => by
      obtain ⟨g', rfl, hg'⟩ := hI
      rw [Nat.zero_add] at hg' ⊢
      have hj : j < 12 := by
        have := (List.getElem?_eq_some_iff.mp hd).1
        omega
      have hb : 200 * s * j ≤ 200 * 101 * 11 := Nat.mul_le_mul (Nat.mul_le_mul_left _ (by omega)) (by omega)
      rcases order_turn hg' (n := s) (by omega) (by omega) (by omega) (some (.imm (.int (most : Nat)))) d with ⟨g2, e2, hg2⟩ | ⟨o, g2, ρ2, e2, ho, hol, hg2⟩
      · refine .inl ⟨_, .inl e2, g2, rfl, ?_⟩
        have e : 200 * s * (j + 1) = 200 * s * j + 200 * s := by rw [Nat.mul_succ]
        rw [e, ← Nat.add_assoc]
        exact hg2
      · exact .inr (.inr ⟨_, _, e2, o, g2, ρ2, rfl, rfl, ho, hol, hg2.mono (by omega)⟩))
  simp only [BO2, BO1] at L
  have hrg : rgOk 0 (s : Int) = true := rgOk_nat (by omega)
  obtain ⟨a, b, c, rfl, _⟩ := hg.ex
  rcases L with ⟨ρ', e2, hI⟩ | ⟨mm, ρ', e2, o, g', ρ2, rfl, rfl, ho, hol, hg'⟩
  · rcases hI with ⟨g', rfl, hg'⟩ | hF
    · have hrd := rgD_nat s
      have hsz : 200 * s * (0 + (rngD 0 12).length) ≤ 200 * 101 * 12 := by rw [hz]; exact Nat.mul_le_mul (Nat.mul_le_mul_left _ (by omega)) (by omega)
      refine ⟨(List.range s).reverse, g', ?_, back_ord (by omega), by rw [List.length_reverse, List.length_range]; omega, hg'.mono (by omega)⟩
      rw [← nl_reverse, ← hrd]
      simp only [f__law_order, F__law_order]
      simp [FD.seqF, FD.asgF, FD.ifF, FD.retF, FD.retNF, FD.nxF, FD.nameE, FD.constE, FD.op2, FD.op1, FD.vw, FD.fz, FD.mv, FD.own, FD.addD, FD.subD, FD.mulD, FD.fdivD, FD.modD, FD.powD, FD.intD, FD.callE, FD.vws, FD.consA, FD.nilA, FD.nameG, FD.fnF, FD.outs, FD.M.toD, FD.M.flat, FD.boolT, FD.fgtF, FD.wipeF, FD.callG, FD.argsG, FD.giveG, FD.cmpI, FD.lstR, FD.backF, FD.exprF, FD.forF, FD.R.flat, FD.rng1I, FD.rng2I, FD.isL, FD.stoG, FD.bitsD, FD.lstep, FD.appE, FD.popAtE, FD.lenP, FD.nl_len, FD.yesT, FD.cstep, FD.tupG, FD.consG, FD.nilG, FD.partsM, FD.dtupE, FD.mvs, FD.rg1E, FD.revE, FD.lstE, FD.fzs, FD.compD, ec, e1, r12]
      rw [en, e2]
      simp [FD.seqF, FD.asgF, FD.ifF, FD.retF, FD.retNF, FD.nxF, FD.nameE, FD.constE, FD.op2, FD.op1, FD.vw, FD.fz, FD.mv, FD.own, FD.addD, FD.subD, FD.mulD, FD.fdivD, FD.modD, FD.powD, FD.intD, FD.callE, FD.vws, FD.consA, FD.nilA, FD.nameG, FD.fnF, FD.outs, FD.M.toD, FD.M.flat, FD.boolT, FD.fgtF, FD.wipeF, FD.callG, FD.argsG, FD.giveG, FD.cmpI, FD.lstR, FD.backF, FD.exprF, FD.forF, FD.R.flat, FD.rng1I, FD.rng2I, FD.isL, FD.stoG, FD.bitsD, FD.lstep, FD.appE, FD.popAtE, FD.lenP, FD.nl_len, FD.yesT, FD.cstep, FD.tupG, FD.consG, FD.nilG, FD.partsM, FD.dtupE, FD.mvs, FD.rg1E, FD.revE, FD.lstE, FD.fzs, FD.compD, hrg]
    · exact absurd hF id
  · refine ⟨o, g', ?_, ho, by omega, hg'⟩
    simp only [f__law_order, F__law_order]
    simp [FD.seqF, FD.asgF, FD.ifF, FD.retF, FD.retNF, FD.nxF, FD.nameE, FD.constE, FD.op2, FD.op1, FD.vw, FD.fz, FD.mv, FD.own, FD.addD, FD.subD, FD.mulD, FD.fdivD, FD.modD, FD.powD, FD.intD, FD.callE, FD.vws, FD.consA, FD.nilA, FD.nameG, FD.fnF, FD.outs, FD.M.toD, FD.M.flat, FD.boolT, FD.fgtF, FD.wipeF, FD.callG, FD.argsG, FD.giveG, FD.cmpI, FD.lstR, FD.backF, FD.exprF, FD.forF, FD.R.flat, FD.rng1I, FD.rng2I, FD.isL, FD.stoG, FD.bitsD, FD.lstep, FD.appE, FD.popAtE, FD.lenP, FD.nl_len, FD.yesT, FD.cstep, FD.tupG, FD.consG, FD.nilG, FD.partsM, FD.dtupE, FD.mvs, FD.rg1E, FD.revE, FD.lstE, FD.fzs, FD.compD, ec, e1, r12]
    rw [en, e2]
    simp [FD.seqF, FD.asgF, FD.ifF, FD.retF, FD.retNF, FD.nxF, FD.nameE, FD.constE, FD.op2, FD.op1, FD.vw, FD.fz, FD.mv, FD.own, FD.addD, FD.subD, FD.mulD, FD.fdivD, FD.modD, FD.powD, FD.intD, FD.callE, FD.vws, FD.consA, FD.nilA, FD.nameG, FD.fnF, FD.outs, FD.M.toD, FD.M.flat, FD.boolT, FD.fgtF, FD.wipeF, FD.callG, FD.argsG, FD.giveG, FD.cmpI, FD.lstR, FD.backF, FD.exprF, FD.forF, FD.R.flat, FD.rng1I, FD.rng2I, FD.isL, FD.stoG, FD.bitsD, FD.lstep, FD.appE, FD.popAtE, FD.lenP, FD.nl_len, FD.yesT, FD.cstep, FD.tupG, FD.consG, FD.nilG, FD.partsM, FD.dtupE, FD.mvs, FD.rg1E, FD.revE, FD.lstE, FD.fzs, FD.compD]
theorem lens_loop {most : Nat} (h1 : 0 < most) (hmost : most < 2 ^ 2000) (r1 : Option M) : ∀ (ds : List D) (g : M) (m : Nat), GS g m → m + 200 * ds.length < 2 ^ 900 →
    ∃ (L : List Nat) (g' : M), cloopD [3] (nameG 3) yesT (op2 addD (constE (.int 1)) (callG [0] f__law_random (consA (nameE 0) (consA (nameE 2) nilA)))) ds [some g, r1, some (.imm (.int (most : Nat))), none] = some (nl L, [some g', r1, some (.imm (.int (most : Nat))), none]) ∧ L.length = ds.length ∧ (∀ x ∈ L, 0 < x ∧ x ≤ most) ∧ GS g' (m + 200 * ds.length)
  | [], g, m, hg, _ => ⟨[], g, rfl, rfl, (fun _ h => by cases h), hg⟩
  | d :: ds, g, m, hg, hm => by
    rw [List.length_cons] at hm
    have hpw2 : (2 : Nat) ^ 2000 < 2 ^ 3000 := by decide +kernel
    obtain ⟨r, g1, e1, hr, hg1⟩ := random_ok hg (n := most) h1 (by omega) (by omega)
    obtain ⟨L, g2, e2, hl, hx, hg2⟩ := lens_loop h1 hmost r1 ds g1 (m + 200) hg1 (by omega)
    have e3 : cstep [3] (nameG 3) yesT (op2 addD (constE (.int 1)) (callG [0] f__law_random (consA (nameE 0) (consA (nameE 2) nilA)))) d [some g, r1, some (.imm (.int (most : Nat))), none] = some (some (nD (r + 1)), [some g1, r1, some (.imm (.int (most : Nat))), none]) := by
      obtain ⟨a, b, c, rfl, _⟩ := hg.ex
      have e : (1 : Int) + (r : Int) = ((r + 1 : Nat) : Int) := by omega
      simp [FD.seqF, FD.asgF, FD.ifF, FD.retF, FD.retNF, FD.nxF, FD.nameE, FD.constE, FD.op2, FD.op1, FD.vw, FD.fz, FD.mv, FD.own, FD.addD, FD.subD, FD.mulD, FD.fdivD, FD.modD, FD.powD, FD.intD, FD.callE, FD.vws, FD.consA, FD.nilA, FD.nameG, FD.fnF, FD.outs, FD.M.toD, FD.M.flat, FD.boolT, FD.fgtF, FD.wipeF, FD.callG, FD.argsG, FD.giveG, FD.cmpI, FD.lstR, FD.backF, FD.exprF, FD.forF, FD.R.flat, FD.rng1I, FD.rng2I, FD.isL, FD.stoG, FD.bitsD, FD.lstep, FD.appE, FD.popAtE, FD.lenP, FD.nl_len, FD.yesT, FD.cstep, FD.tupG, FD.consG, FD.nilG, FD.partsM, FD.dtupE, FD.mvs, FD.rg1E, FD.revE, FD.lstE, FD.fzs, FD.compD, e1, nD, e]
    refine ⟨(r + 1) :: L, g2, ?_, by rw [List.length_cons, List.length_cons, hl], fun x h => ?_, by rw [List.length_cons]; have : m + 200 * (ds.length + 1) = m + 200 + 200 * ds.length := by omega
                                                                                                    rw [this]; exact hg2⟩
    · rw [cloopD_cons, e3]
      simp only [e2]
      rfl
    · rcases List.mem_cons.mp h with z | h
      · omega
      · exact hx x h
theorem lengths_ok {g : M} {m : Nat} (hg : GS g m) {n : Nat} (hn : n ≤ 100) (hm : m < 2 ^ 800) {most : Nat} (h1 : 0 < most) (hmost : most < 2 ^ 2000) : ∃ (L : List Nat) (g' : M), f__law_lengths [g, .imm (.int (n : Nat)), .imm (.int (most : Nat))] = some (.lst (nl L), [g']) ∧ L.length = n ∧ (∀ x ∈ L, 0 < x ∧ x ≤ most) ∧ GS g' (m + 30000) := by
  have hpw : (2 : Nat) ^ 800 + 300000 < 2 ^ 900 := by decide +kernel
  have hz : (rngD 0 n).length = n := by unfold rngD; simp [FD.seqF, FD.asgF, FD.ifF, FD.retF, FD.retNF, FD.nxF, FD.nameE, FD.constE, FD.op2, FD.op1, FD.vw, FD.fz, FD.mv, FD.own, FD.addD, FD.subD, FD.mulD, FD.fdivD, FD.modD, FD.powD, FD.intD, FD.callE, FD.vws, FD.consA, FD.nilA, FD.nameG, FD.fnF, FD.outs, FD.M.toD, FD.M.flat, FD.boolT, FD.fgtF, FD.wipeF, FD.callG, FD.argsG, FD.giveG, FD.cmpI, FD.lstR, FD.backF, FD.exprF, FD.forF, FD.R.flat, FD.rng1I, FD.rng2I, FD.isL, FD.stoG, FD.bitsD, FD.lstep, FD.appE, FD.popAtE, FD.lenP, FD.nl_len, FD.yesT, FD.cstep, FD.tupG, FD.consG, FD.nilG, FD.partsM, FD.dtupE, FD.mvs, FD.rg1E, FD.revE, FD.lstE, FD.fzs, FD.compD]
  obtain ⟨L, g', e1, hl, hx, hg'⟩ := lens_loop h1 hmost (some (.imm (.int (n : Nat)))) (rngD 0 n) g m hg (by omega)
  rw [hz] at hl hg'
  have r1 : rngOk (n : Int) = true := rng_of (by omega)
  have sl : smallL L.length = true := small_of (by omega)
  have sr : smallL (rngD 0 n).length = true := small_of (by omega)
  refine ⟨L, g', ?_, hl, hx, hg'.mono (by omega)⟩
  simp only [f__law_lengths, F__law_lengths]
  simp [FD.seqF, FD.asgF, FD.ifF, FD.retF, FD.retNF, FD.nxF, FD.nameE, FD.constE, FD.op2, FD.op1, FD.vw, FD.fz, FD.mv, FD.own, FD.addD, FD.subD, FD.mulD, FD.fdivD, FD.modD, FD.powD, FD.intD, FD.callE, FD.vws, FD.consA, FD.nilA, FD.nameG, FD.fnF, FD.outs, FD.M.toD, FD.M.flat, FD.boolT, FD.fgtF, FD.wipeF, FD.callG, FD.argsG, FD.giveG, FD.cmpI, FD.lstR, FD.backF, FD.exprF, FD.forF, FD.R.flat, FD.rng1I, FD.rng2I, FD.isL, FD.stoG, FD.bitsD, FD.lstep, FD.appE, FD.popAtE, FD.lenP, FD.nl_len, FD.yesT, FD.cstep, FD.tupG, FD.consG, FD.nilG, FD.partsM, FD.dtupE, FD.mvs, FD.rg1E, FD.revE, FD.lstE, FD.fzs, FD.compD, r1, e1, sl, sr]
end Law
set_option linter.all false
set_option maxRecDepth 100000
set_option maxHeartbeats 4000000
set_option exponentiation.threshold 10000
namespace Law
open PySem PySem.Spec PyProof.Rows L2 FD
theorem sh_deed (d : TL.Deed) {n B w : Nat} (hw : 1 ≤ w) : Sh n B w (dDd d) := by
  cases d
  · exact Sh.str (by decide +kernel) hw
  · exact Sh.str (by decide +kernel) hw
theorem sh_nl {xs : List Nat} {n : Nat} (h : ∀ x ∈ xs, x < 10 ^ 12) (hl : xs.length ≤ 40) (hn : 1 ≤ n) : Sh n 13 1640 (.lst (nl xs)) := Sh.nats h hl hn (by omega)
theorem sh_take {d : TL.Deed} {o L : List Nat} (ho : o.length ≤ 40) (hL : L.length ≤ 40) (h1 : ∀ x ∈ o, x < 10 ^ 12) (h2 : ∀ x ∈ L, x < 10 ^ 12) : Sh 2 13 5000 (.tup [dDd d, .lst (nl o), .lst (nl L)]) := by
  have := Sh.tup (n := 1) (B := 13) (w := 1640) (ds := [dDd d, .lst (nl o), .lst (nl L)]) fun e he => by
    rcases List.mem_cons.mp he with z | he
    · rw [z]; exact sh_deed d (by omega)
    rcases List.mem_cons.mp he with z | he
    · rw [z]; exact sh_nl h1 ho (by omega)
    rcases List.mem_cons.mp he with z | he
    · rw [z]; exact sh_nl h2 hL (by omega)
    cases he
  exact this.up (Nat.le_refl _) (by show 3 * 1641 ≤ 5000; omega)
theorem mem_sum {L : List Nat} {x : Nat} : x ∈ L → x ≤ L.sum := by
  induction L with
  | nil => intro h; cases h
  | cons a l ih =>
    intro h
    rw [List.sum_cons]
    rcases List.mem_cons.mp h with z | h
    · omega
    · have := ih h; omega
noncomputable def BL : SF := (fgtF [5, 6, 7] (seqF (parF [6, 7] (consA (callG [] f__law_take (consA (op2 ixD (nameE 3) (constE (.int 0))) (consA (op2 ixD (nameE 3) (constE (.int 1))) nilA))) (consA (callG [] f_taken (consA (op2 ixD (nameE 3) (constE (.int 0))) (consA (op2 ixD (nameE 3) (constE (.int 1))) nilA))) nilA))) (seqF (ifF (obsT (orT (boolT (op2 neD (callE reprD (consA (nameE 7) nilA)) (callE reprD (consA (nameE 6) nilA)))) (boolT (op2 neD (callE reprD (consA (callG [] f_taken (permA [1, 0] (consA (op2 ixD (nameE 3) (constE (.int 1))) (consA (op2 ixD (nameE 3) (constE (.int 0))) nilA)))) nilA)) (callE reprD (consA (nameE 6) nilA)))))) (retF (constE (.bl false))) nxF) (fgtF [6, 7] (ifF (boolT (op2 (isD true) (nameE 6) (constE .non))) (seqF (exprF (app2E 7 1 .non)) (seqF (fgtF [7] (exprF (app2E 7 2 .non))) (seqF (fgtF [3] (ifF (boolT (op2 neD (callG [] f_taken (consA (op2 ixD (nameE 3) (constE (.int 0))) (consA (op2 ixD (nameE 3) (constE (.int 1))) nilA))) (nameE 6))) (retF (constE (.bl false))) nxF)) (fgtF [6] (asgF (tupE (consA (op2 ixD (nameE 6) (constE (.int 1))) (consA (op2 ixD (nameE 6) (constE (.int 2))) nilA))) (nameG 3)))))) nxF)))))
theorem ixt0 (a b : D) : ixD (.tup [a, b]) (.int 0) = some (.imm a) := rfl
theorem ixt1 (a b : D) : ixD (.tup [a, b]) (.int 1) = some (.imm b) := rfl
theorem ixu1 (a b c : D) : ixD (.tup [a, b, c]) (.int 1) = some (.imm b) := rfl
theorem ixu2 (a b c : D) : ixD (.tup [a, b, c]) (.int 2) = some (.imm c) := rfl
/-- small lines, of which all is shown -/
structure Sml (o L : List Nat) : Prop extends TL.Line o L where
  n40 : o.length ≤ 40
  s : L.sum < 10 ^ 6
theorem big8000 : (10 : Nat) ^ 12 < 2 ^ 8000 := by decide +kernel
theorem Sml.fit {o L : List Nat} (h : Sml o L) : Fit o L := ⟨h.toLine, h.n40, Nat.lt_trans h.s (by decide +kernel)⟩
theorem Sml.sh {o L : List Nat} (h : Sml o L) : (∀ x ∈ o, x < 10 ^ 12) ∧ (∀ x ∈ L, x < 10 ^ 12) ∧ L.length ≤ 40 := by
  refine ⟨fun x hx => ?_, fun x hx => ?_, by rw [h.len]; exact h.n40⟩
  · have := h.ord.lt x hx; have := h.n40; omega
  · have := mem_sum hx; have := h.s; omega
theorem Sml.next {o L : List Nat} (h : Sml o L) {d : TL.Deed} {o1 L1 : List Nat} (ht : TL.takeS o L = some (d, o1, L1)) : Sml o1 L1 := by
  obtain ⟨a, b, c⟩ := step_line h.toLine ht
  exact ⟨a, by rw [b]; exact h.n40, by have := h.s; omega⟩
theorem turn_ok {o L : List Nat} (h : Sml o L) (r0 r1 r2 r4 : Option M) (d : D) : ∃ o1 L1, lstep (nameG 5) BL d [r0, r1, r2, some (.imm (.tup [.lst (nl o), .lst (nl L)])), r4, none, none, none, none, none, none, none, none, none] = some ([r0, r1, r2, some (.imm (.tup [.lst (nl o1), .lst (nl L1)])), r4, none, none, none, none, none, none, none, none, none], .nx) ∧ Sml o1 L1 := by
  have lt := law_take_eq h.toLine h.n40
  have tk := taken_eq h.fit fun d => h.fit.ring d
  cases ht : TL.takeS o L with
  | none =>
    rw [ht] at lt tk
    simp only at lt tk
    have hr := repr_ok (Sh.non (n := 0) (B := 8) (w := 0)) (by omega) (by omega) (by omega)
    have hn := neD_str (D.toP .non).shown
    refine ⟨o, L, ?_, h⟩
    simp [FD.seqF, FD.asgF, FD.ifF, FD.retF, FD.retNF, FD.nxF, FD.nameE, FD.constE, FD.op2, FD.op1, FD.vw, FD.fz, FD.mv, FD.own, FD.addD, FD.subD, FD.mulD, FD.fdivD, FD.modD, FD.powD, FD.intD, FD.callE, FD.vws, FD.consA, FD.nilA, FD.nameG, FD.fnF, FD.outs, FD.M.toD, FD.M.flat, FD.boolT, FD.fgtF, FD.wipeF, FD.callG, FD.argsG, FD.giveG, FD.andV, FD.orV, FD.notV, FD.andT, FD.orT, FD.notT, FD.ifV, FD.lstE, FD.fzs, FD.tupE, FD.mvs, FD.cmpI, FD.isD, FD.isiD, FD.Kd.is, FD.lenP, FD.lstR, FD.bmE, FD.takeR, FD.backF, FD.chainE, FD.exprF, FD.offF, FD.compD, FD.listI, FD.forF, FD.tupG, FD.consG, FD.nilG, FD.partsM, FD.enumI, FD.noneO, FD.someO, FD.sliceE, FD.negD, FD.rg1E, FD.rg2E, FD.cstep, FD.lstep, FD.yesT, FD.nl_len, FD.R.flat, FD.revE, FD.dtupE, FD.movA, FD.rng1I, FD.dcE, FD.dixD, FD.parF, FD.owns, FD.bkF, FD.isL, FD.stoG, FD.listD, FD.appE, FD.ixM, FD.sliceM, FD.obsT, FD.obsF, FD.frzS, FD.app2E, FD.permA, FD.isB2, FD.deepE, FD.all2G, FD.M.toDs, BL, lt, tk, ixt0, ixt1, hr, hn]
  | some q =>
    obtain ⟨dd, o1, L1⟩ := q
    rw [ht] at lt tk
    simp only at lt tk
    have h1 := h.next ht
    have s1 := h1.sh
    have hs := sh_take (d := dd) h1.n40 s1.2.2 s1.1 s1.2.1
    have hr := repr_ok hs (by omega) (by omega) (by omega)
    have hn := neD_str (D.toP (.tup [dDd dd, .lst (nl o1), .lst (nl L1)])).shown
    have hn2 := neD_self (shw_ok hs.shw) (by omega)
    have z2 : smallL 2 = true := small40 (by omega)
    have zo : smallL o1.length = true := small40 (by have := h1.n40; omega)
    have zL : smallL L1.length = true := small40 (by have := s1.2.2; omega)
    refine ⟨o1, L1, ?_, h1⟩
    simp [FD.seqF, FD.asgF, FD.ifF, FD.retF, FD.retNF, FD.nxF, FD.nameE, FD.constE, FD.op2, FD.op1, FD.vw, FD.fz, FD.mv, FD.own, FD.addD, FD.subD, FD.mulD, FD.fdivD, FD.modD, FD.powD, FD.intD, FD.callE, FD.vws, FD.consA, FD.nilA, FD.nameG, FD.fnF, FD.outs, FD.M.toD, FD.M.flat, FD.boolT, FD.fgtF, FD.wipeF, FD.callG, FD.argsG, FD.giveG, FD.andV, FD.orV, FD.notV, FD.andT, FD.orT, FD.notT, FD.ifV, FD.lstE, FD.fzs, FD.tupE, FD.mvs, FD.cmpI, FD.isD, FD.isiD, FD.Kd.is, FD.lenP, FD.lstR, FD.bmE, FD.takeR, FD.backF, FD.chainE, FD.exprF, FD.offF, FD.compD, FD.listI, FD.forF, FD.tupG, FD.consG, FD.nilG, FD.partsM, FD.enumI, FD.noneO, FD.someO, FD.sliceE, FD.negD, FD.rg1E, FD.rg2E, FD.cstep, FD.lstep, FD.yesT, FD.nl_len, FD.R.flat, FD.revE, FD.dtupE, FD.movA, FD.rng1I, FD.dcE, FD.dixD, FD.parF, FD.owns, FD.bkF, FD.isL, FD.stoG, FD.listD, FD.appE, FD.ixM, FD.sliceM, FD.obsT, FD.obsF, FD.frzS, FD.app2E, FD.permA, FD.isB2, FD.deepE, FD.all2G, FD.M.toDs, BL, lt, tk, ixt0, ixt1, ixu1, ixu2, hr, hn, hn2, z2, zo, zL]
end Law
set_option linter.all false
set_option maxRecDepth 100000
set_option maxHeartbeats 4000000
set_option exponentiation.threshold 10000
namespace Law
open PySem PySem.Spec PyProof.Rows L2 FD
theorem sum_le {L : List Nat} {k : Nat} (h : ∀ x ∈ L, x ≤ k) : L.sum ≤ L.length * k := by
  induction L with
  | nil => simp [FD.seqF, FD.asgF, FD.ifF, FD.retF, FD.retNF, FD.nxF, FD.nameE, FD.constE, FD.op2, FD.op1, FD.vw, FD.fz, FD.mv, FD.own, FD.addD, FD.subD, FD.mulD, FD.fdivD, FD.modD, FD.powD, FD.intD, FD.callE, FD.vws, FD.consA, FD.nilA, FD.nameG, FD.fnF, FD.outs, FD.M.toD, FD.M.flat, FD.boolT, FD.fgtF, FD.wipeF, FD.callG, FD.argsG, FD.giveG, FD.andV, FD.orV, FD.notV, FD.andT, FD.orT, FD.notT, FD.ifV, FD.lstE, FD.fzs, FD.tupE, FD.mvs, FD.cmpI, FD.isD, FD.isiD, FD.Kd.is, FD.lenP, FD.lstR, FD.bmE, FD.takeR, FD.backF, FD.chainE, FD.exprF, FD.offF, FD.compD, FD.listI, FD.forF, FD.tupG, FD.consG, FD.nilG, FD.partsM, FD.enumI, FD.noneO, FD.someO, FD.sliceE, FD.negD, FD.rg1E, FD.rg2E, FD.cstep, FD.lstep, FD.yesT, FD.nl_len, FD.R.flat, FD.revE, FD.dtupE, FD.movA, FD.rng1I, FD.dcE, FD.dixD, FD.parF, FD.owns, FD.bkF, FD.isL, FD.stoG, FD.listD, FD.appE, FD.ixM, FD.sliceM, FD.obsT, FD.obsF, FD.frzS, FD.app2E, FD.permA, FD.isB2, FD.deepE, FD.all2G, FD.M.toDs]
  | cons a l ih =>
    rw [List.sum_cons, List.length_cons, Nat.succ_mul]
    have := h a (List.mem_cons_self ..)
    have := ih fun x hx => h x (List.mem_cons_of_mem _ hx)
    omega
theorem run_le : ∀ {rs : List (TL.Deed × Nat)} {d : TL.Deed} {T : Nat}, (d, T) ∈ rs → T ≤ (TL.flat rs).length
  | (e, n) :: rs, d, T, h => by
    show T ≤ (List.replicate n e ++ TL.flat rs).length
    rw [List.length_append, List.length_replicate]
    rcases List.mem_cons.mp h with z | h
    · cases z; omega
    · have := run_le h; omega
theorem sh_runs {rs : List (TL.Deed × Nat)} {k : Nat} (hl : rs.length ≤ k) (hk : k ≤ 700) (hn : ∀ d T, (d, T) ∈ rs → T < 10 ^ 12) : Sh 2 13 (700 * 83) (.lst (rs.map runD)) := by
  have := Sh.lst (n := 1) (B := 13) (w := 82) (ds := rs.map runD) fun e he => by
    obtain ⟨⟨d, T⟩, hr, rfl⟩ := List.mem_map.mp he
    have := Sh.tup (n := 0) (B := 13) (w := 40) (ds := [dDd d, nD T]) fun e he => by
      rcases List.mem_cons.mp he with z | he
      · rw [z]; exact sh_deed d (by omega)
      rcases List.mem_cons.mp he with z | he
      · rw [z]; exact Sh.nat (hn d T hr) (by omega)
      cases he
    exact this.up (Nat.le_refl _) (by show 2 * 41 ≤ 82; omega)
  refine this.up (Nat.le_refl _) ?_
  rw [List.length_map]
  exact Nat.mul_le_mul_right _ (by omega)
theorem sh_pair {o L : List Nat} (ho : o.length ≤ 40) (hL : L.length ≤ 40) (h1 : ∀ x ∈ o, x < 10 ^ 12) (h2 : ∀ x ∈ L, x < 10 ^ 12) : Sh 2 13 3300 (.tup [.lst (nl o), .lst (nl L)]) ∧ Sh 2 13 3300 (.lst [.lst (nl o), .lst (nl L)]) := by
  have q : ∀ e ∈ [D.lst (nl o), .lst (nl L)], Sh 1 13 1640 e := fun e he => by
    rcases List.mem_cons.mp he with z | he
    · rw [z]; exact sh_nl h1 ho (by omega)
    rcases List.mem_cons.mp he with z | he
    · rw [z]; exact sh_nl h2 hL (by omega)
    cases he
  exact ⟨(Sh.tup q).up (Nat.le_refl _) (by show 2 * 1641 ≤ 3300; omega), (Sh.lst q).up (Nat.le_refl _) (by show 2 * 1641 ≤ 3300; omega)⟩
theorem turns_ok {o L : List Nat} (r0 r1 r2 r4 : Option M) : ∀ (ds : List D) {o L : List Nat}, Sml o L → ∃ o1 L1, loopF (nameG 5) BL ds [r0, r1, r2, some (.imm (.tup [.lst (nl o), .lst (nl L)])), r4, none, none, none, none, none, none, none, none, none] = some ([r0, r1, r2, some (.imm (.tup [.lst (nl o1), .lst (nl L1)])), r4, none, none, none, none, none, none, none, none, none], .nx)
  | [], o, L, _ => ⟨o, L, rfl⟩
  | d :: ds, o, L, h => by
    obtain ⟨o1, L1, e1, h1⟩ := turn_ok h r0 r1 r2 r4 d
    obtain ⟨o2, L2, e2⟩ := turns_ok (o := o) (L := L) r0 r1 r2 r4 ds h1
    exact ⟨o2, L2, by rw [loopF_cons, e1]; exact e2⟩
theorem ixl0 (a b : D) : ixD (.lst [a, b]) (.int 0) = some (.imm a) := rfl
theorem ixl1 (a b : D) : ixD (.lst [a, b]) (.int 1) = some (.imm b) := rfl
theorem std_sum {o L : List Nat} {w : List TL.Deed} {o2 L2 : List Nat} (h : TL.Std o L w o2 L2) : TL.Line o L → L2.sum ≤ L.sum := by
  induction h with
  | done _ => intro _; exact Nat.le_refl _
  | step e _ ih =>
    intro hl
    obtain ⟨a, _, c⟩ := step_line hl e
    have := ih a
    omega
theorem right_ok {g : M} {m : Nat} (hg : GS g m) (hm : m < 2 ^ 700) : ∃ g', f__law_right [g] = some (.imm (.bl true), [g']) := by
  have hpw : (2 : Nat) ^ 700 + 300000 < 2 ^ 800 := by decide +kernel
  obtain ⟨o, g1, e1, ho, h7, hg1⟩ := order_ok hg (by omega) (most := 7) (by omega) (by omega)
  obtain ⟨L, g2, e2, hLl, hLx, hg2⟩ := lengths_ok hg1 (n := o.length) (by omega) (by omega) (most := 40) (by omega) (by decide +kernel)
  have hline : TL.Line o L := ⟨ho, hLl, fun x hx => (hLx x hx).1⟩
  have hsum : L.sum ≤ 280 := Nat.le_trans (sum_le fun x hx => (hLx x hx).2) (by rw [hLl]; exact Nat.mul_le_mul_right 40 h7)
  have hs : Sml o L := ⟨hline, by omega, by omega⟩
  obtain ⟨rs, o2, L2, hrn⟩ := TL.Rn.ex _ o L hline (Nat.le_refl _)
  obtain ⟨hl2, hn2⟩ := hrn.line hline
  have hstd := hrn.std hline
  have halt := hrn.alt hline
  have hle := runs_le hrn hline
  have hfl := std_len hstd hline
  have st := law_stand_eq hstd hline (by omega) (by omega)
  have ro := runs_of_eq hs.fit hrn (by omega)
  have eo := end_of_eq hs.fit hrn (by omega)
  have to := told_eq halt (by omega)
  have ir := is_runs_eq halt
  have h2s : L2.sum ≤ 280 ∧ o2.length = o.length := by
    have := std_sum hstd hline
    exact ⟨by omega, hfl.2.2.1⟩
  have hs2 : Sml o2 L2 := ⟨hl2, by omega, by omega⟩
  have tk := taken_eq hs2.fit fun d => hs2.fit.ring d
  rw [hfl.2.2.2] at tk
  simp only at tk
  have ro2 := runs_of_eq hs2.fit (TL.Rn.done hn2) (by simp [FD.seqF, FD.asgF, FD.ifF, FD.retF, FD.retNF, FD.nxF, FD.nameE, FD.constE, FD.op2, FD.op1, FD.vw, FD.fz, FD.mv, FD.own, FD.addD, FD.subD, FD.mulD, FD.fdivD, FD.modD, FD.powD, FD.intD, FD.callE, FD.vws, FD.consA, FD.nilA, FD.nameG, FD.fnF, FD.outs, FD.M.toD, FD.M.flat, FD.boolT, FD.fgtF, FD.wipeF, FD.callG, FD.argsG, FD.giveG, FD.andV, FD.orV, FD.notV, FD.andT, FD.orT, FD.notT, FD.ifV, FD.lstE, FD.fzs, FD.tupE, FD.mvs, FD.cmpI, FD.isD, FD.isiD, FD.Kd.is, FD.lenP, FD.lstR, FD.bmE, FD.takeR, FD.backF, FD.chainE, FD.exprF, FD.offF, FD.compD, FD.listI, FD.forF, FD.tupG, FD.consG, FD.nilG, FD.partsM, FD.enumI, FD.noneO, FD.someO, FD.sliceE, FD.negD, FD.rg1E, FD.rg2E, FD.cstep, FD.lstep, FD.yesT, FD.nl_len, FD.R.flat, FD.revE, FD.dtupE, FD.movA, FD.rng1I, FD.dcE, FD.dixD, FD.parF, FD.owns, FD.bkF, FD.isL, FD.stoG, FD.listD, FD.appE, FD.ixM, FD.sliceM, FD.obsT, FD.obsF, FD.frzS, FD.app2E, FD.permA, FD.isB2, FD.deepE, FD.all2G, FD.M.toDs])
  have p1 := sh_pair hs.n40 hs.sh.2.2 hs.sh.1 hs.sh.2.1
  have p2 := sh_pair hs2.n40 hs2.sh.2.2 hs2.sh.1 hs2.sh.2.1
  have pr := sh_runs (rs := rs) (k := 280) (by omega) (by omega) (fun d T h => by have := run_le h; omega)
  have R1 := repr_ok p1.2 (by omega) (by omega) (by omega)
  have R2 := repr_ok p2.1 (by omega) (by omega) (by omega)
  have R3 := repr_ok pr (by omega) (by omega) (by omega)
  have n2 := neD_self (shw_ok p2.1.shw) (by omega)
  have nS := neD_str
  have eS := eqD_str
  have eN : eqD (.lst []) (.lst []) = some (.imm (.bl true)) := rfl
  obtain ⟨o3, L3, e3⟩ := turns_ok (o := o) (L := L) (some g2) (some (.imm (.lst (nl o)))) (some (.imm (.lst (nl L)))) (some (.imm (.str (D.lst [.lst (nl o), .lst (nl L)]).toP.shown))) (rngD 0 30) hs
  simp only [BL] at e3
  have r30 : rngOk 30 = true := rng_of (by omega)
  have z0 : smallL 0 = true := small40 (by omega)
  have z2 : smallL 2 = true := small40 (by omega)
  have z3 : smallL 3 = true := small40 (by omega)
  have zr : smallL rs.length = true := small_of (by omega)
  have zo : smallL o2.length = true := small_of (by omega)
  have zL1 : smallL L.length = true := small_of (by omega)
  simp only [List.map_nil] at ro2
  have zL : smallL L2.length = true := small_of (by have := hl2.len; omega)
  refine ⟨g2, ?_⟩
  obtain ⟨ga, gb, gc, rfl, _⟩ := hg.ex
  obtain ⟨g1a, g1b, g1c, rfl, _⟩ := hg1.ex
  have e1' : f__law_order [.lst [.int ga, .int gb, .int gc], .imm (.int 7)] = _ := e1
  have e2' : f__law_lengths [.lst [.int g1a, .int g1b, .int g1c], .imm (.int o.length), .imm (.int 40)] = _ := e2
  clear e1 e2
  simp only [f__law_right, F__law_right]
  simp [FD.seqF, FD.asgF, FD.ifF, FD.retF, FD.retNF, FD.nxF, FD.nameE, FD.constE, FD.op2, FD.op1, FD.vw, FD.fz, FD.mv, FD.own, FD.addD, FD.subD, FD.mulD, FD.fdivD, FD.modD, FD.powD, FD.intD, FD.callE, FD.vws, FD.consA, FD.nilA, FD.nameG, FD.fnF, FD.outs, FD.M.toD, FD.M.flat, FD.boolT, FD.fgtF, FD.wipeF, FD.callG, FD.argsG, FD.giveG, FD.andV, FD.orV, FD.notV, FD.andT, FD.orT, FD.notT, FD.ifV, FD.lstE, FD.fzs, FD.tupE, FD.mvs, FD.cmpI, FD.isD, FD.isiD, FD.Kd.is, FD.lenP, FD.lstR, FD.bmE, FD.takeR, FD.backF, FD.chainE, FD.exprF, FD.offF, FD.compD, FD.listI, FD.forF, FD.tupG, FD.consG, FD.nilG, FD.partsM, FD.enumI, FD.noneO, FD.someO, FD.sliceE, FD.negD, FD.rg1E, FD.rg2E, FD.cstep, FD.lstep, FD.yesT, FD.nl_len, FD.R.flat, FD.revE, FD.dtupE, FD.movA, FD.rng1I, FD.dcE, FD.dixD, FD.parF, FD.owns, FD.bkF, FD.isL, FD.stoG, FD.listD, FD.appE, FD.ixM, FD.sliceM, FD.obsT, FD.obsF, FD.frzS, FD.app2E, FD.permA, FD.isB2, FD.deepE, FD.all2G, FD.M.toDs, e1', e2', R1, r30, e3, z0, z2, z3, st, ro, eo, to, ir, tk, ro2, R2, R3, n2, nS, eS, eN, zr, zo, zL, ixt0, ixt1, ixl0, ixl1, zL1]
end Law
set_option linter.all false
set_option maxRecDepth 100000
set_option maxHeartbeats 4000000
set_option exponentiation.threshold 10000
namespace Law
open PySem PySem.Spec PyProof.Rows L2 FD
def P18 : Int := 10 ^ 18
def P60 : Int := 10 ^ 60
def P600 : Int := P60 ^ 10
def P29 : Int := 10 ^ 29
theorem pow18 : powD (.int 10) (.int 18) = some (.imm (.int P18)) := by
  show (if sealB (0 ≤ (18 : Int) ∧ (Builtin.Int.intBits 10 : Int) * 18 ≤ 2 ^ 27) = true then some (M.imm (D.int (10 ^ (18 : Int).toNat))) else none) = _
  rw [show sealB (0 ≤ (18 : Int) ∧ (Builtin.Int.intBits 10 : Int) * 18 ≤ 2 ^ 27) = true from sealB_of (by decide +kernel)]
  rfl
theorem pow60 : powD (.int 10) (.int 60) = some (.imm (.int P60)) := by
  show (if sealB (0 ≤ (60 : Int) ∧ (Builtin.Int.intBits 10 : Int) * 60 ≤ 2 ^ 27) = true then some (M.imm (D.int (10 ^ (60 : Int).toNat))) else none) = _
  rw [show sealB (0 ≤ (60 : Int) ∧ (Builtin.Int.intBits 10 : Int) * 60 ≤ 2 ^ 27) = true from sealB_of (by decide +kernel)]
  rfl
theorem pow600 : powD (.int P60) (.int 10) = some (.imm (.int P600)) := by
  show (if sealB (0 ≤ (10 : Int) ∧ (Builtin.Int.intBits P60 : Int) * 10 ≤ 2 ^ 27) = true then some (M.imm (D.int (P60 ^ (10 : Int).toNat))) else none) = _
  rw [show sealB (0 ≤ (10 : Int) ∧ (Builtin.Int.intBits P60 : Int) * 10 ≤ 2 ^ 27) = true from sealB_of (by decide +kernel)]
  rfl
theorem pow29 : powD (.int 10) (.int 29) = some (.imm (.int P29)) := by
  show (if sealB (0 ≤ (29 : Int) ∧ (Builtin.Int.intBits 10 : Int) * 29 ≤ 2 ^ 27) = true then some (M.imm (D.int (10 ^ (29 : Int).toNat))) else none) = _
  rw [show sealB (0 ≤ (29 : Int) ∧ (Builtin.Int.intBits 10 : Int) * 29 ≤ 2 ^ 27) = true from sealB_of (by decide +kernel)]
  rfl
theorem p600 : 0 < P600 := by decide +kernel
theorem cell_ok (K : PySem.W.Frag) (ns : List Int) (i : Nat) (hi : i < 1000) : ∃ c : Int, f__law_cell K [.imm (.scr K ns), .imm (.int (i : Nat))] = some (.imm (.int c), []) := by
  by_cases q : i < ns.length
  · have e : atI ns (i : Nat) = some ns[i] := atI_nat (List.getElem?_eq_getElem q) (decide_eq_true (by omega))
    refine ⟨ns[i], ?_⟩
    simp [FD.seqF, FD.asgF, FD.ifF, FD.retF, FD.retNF, FD.nxF, FD.nameE, FD.constE, FD.op2, FD.op1, FD.vw, FD.fz, FD.mv, FD.own, FD.addD, FD.subD, FD.mulD, FD.fdivD, FD.modD, FD.intD, FD.callE, FD.vws, FD.consA, FD.nilA, FD.nameG, FD.fnF, FD.outs, FD.M.toD, FD.M.flat, FD.boolT, FD.fgtF, FD.wipeF, FD.callG, FD.argsG, FD.giveG, FD.andV, FD.orV, FD.notV, FD.andT, FD.orT, FD.notT, FD.ifV, FD.lstE, FD.fzs, FD.tupE, FD.mvs, FD.cmpI, FD.isD, FD.isiD, FD.Kd.is, FD.lenP, FD.lstR, FD.bmE, FD.takeR, FD.backF, FD.chainE, FD.exprF, FD.offF, FD.compD, FD.listI, FD.forF, FD.tupG, FD.consG, FD.nilG, FD.partsM, FD.enumI, FD.noneO, FD.someO, FD.sliceE, FD.negD, FD.rg1E, FD.rg2E, FD.cstep, FD.lstep, FD.yesT, FD.nl_len, FD.R.flat, FD.revE, FD.dtupE, FD.movA, FD.rng1I, FD.dcE, FD.dixD, FD.parF, FD.owns, FD.bkF, FD.isL, FD.stoG, FD.listD, FD.appE, FD.ixM, FD.sliceM, FD.obsT, FD.obsF, FD.frzS, FD.app2E, FD.permA, FD.isB2, FD.deepE, FD.all2G, FD.M.toDs, f__law_cell, F__law_cell, lenS, q, ixS, e]
  · refine ⟨(ns.take 1).sum % 1000003, ?_⟩
    simp [FD.seqF, FD.asgF, FD.ifF, FD.retF, FD.retNF, FD.nxF, FD.nameE, FD.constE, FD.op2, FD.op1, FD.vw, FD.fz, FD.mv, FD.own, FD.addD, FD.subD, FD.mulD, FD.fdivD, FD.modD, FD.intD, FD.callE, FD.vws, FD.consA, FD.nilA, FD.nameG, FD.fnF, FD.outs, FD.M.toD, FD.M.flat, FD.boolT, FD.fgtF, FD.wipeF, FD.callG, FD.argsG, FD.giveG, FD.andV, FD.orV, FD.notV, FD.andT, FD.orT, FD.notT, FD.ifV, FD.lstE, FD.fzs, FD.tupE, FD.mvs, FD.cmpI, FD.isD, FD.isiD, FD.Kd.is, FD.lenP, FD.lstR, FD.bmE, FD.takeR, FD.backF, FD.chainE, FD.exprF, FD.offF, FD.compD, FD.listI, FD.forF, FD.tupG, FD.consG, FD.nilG, FD.partsM, FD.enumI, FD.noneO, FD.someO, FD.sliceE, FD.negD, FD.rg1E, FD.rg2E, FD.cstep, FD.lstep, FD.yesT, FD.nl_len, FD.R.flat, FD.revE, FD.dtupE, FD.movA, FD.rng1I, FD.dcE, FD.dixD, FD.parF, FD.owns, FD.bkF, FD.isL, FD.stoG, FD.listD, FD.appE, FD.ixM, FD.sliceM, FD.obsT, FD.obsF, FD.frzS, FD.app2E, FD.permA, FD.isB2, FD.deepE, FD.all2G, FD.M.toDs, f__law_cell, F__law_cell, lenS, q, sum1S]
theorem generator_ok (K : PySem.W.Frag) (ns : List Int) (i : Nat) (hi : i < 1000) : ∃ g, f__law_generator K [.imm (.scr K ns), .imm (.int (i : Nat))] = some (g, []) ∧ GS g (1000 * i) := by
  obtain ⟨c, hc⟩ := cell_ok K ns i hi
  have hb : bigOk 1000 (i : Nat) = true := big_lt (k := 10) (l := 10) (by decide) (by omega) (by omega)
  have z3 : smallL 3 = true := small40 (by omega)
  refine ⟨.lst [.int ((if c - P18 < 0 then 0 else c - P18) % P600), .int (c % 2147483647), .int (1000 * (i : Nat))], ?_, ⟨_, _, _, rfl, by omega, by omega, by omega, by omega⟩⟩
  simp only [f__law_generator, F__law_generator]
  simp [FD.seqF, FD.asgF, FD.ifF, FD.retF, FD.retNF, FD.nxF, FD.nameE, FD.constE, FD.op2, FD.op1, FD.vw, FD.fz, FD.mv, FD.own, FD.addD, FD.subD, FD.mulD, FD.fdivD, FD.modD, FD.intD, FD.callE, FD.vws, FD.consA, FD.nilA, FD.nameG, FD.fnF, FD.outs, FD.M.toD, FD.M.flat, FD.boolT, FD.fgtF, FD.wipeF, FD.callG, FD.argsG, FD.giveG, FD.andV, FD.orV, FD.notV, FD.andT, FD.orT, FD.notT, FD.ifV, FD.lstE, FD.fzs, FD.tupE, FD.mvs, FD.cmpI, FD.isD, FD.isiD, FD.Kd.is, FD.lenP, FD.lstR, FD.bmE, FD.takeR, FD.backF, FD.chainE, FD.exprF, FD.offF, FD.compD, FD.listI, FD.forF, FD.tupG, FD.consG, FD.nilG, FD.partsM, FD.enumI, FD.noneO, FD.someO, FD.sliceE, FD.negD, FD.rg1E, FD.rg2E, FD.cstep, FD.lstep, FD.yesT, FD.nl_len, FD.R.flat, FD.revE, FD.dtupE, FD.movA, FD.rng1I, FD.dcE, FD.dixD, FD.parF, FD.owns, FD.bkF, FD.isL, FD.stoG, FD.listD, FD.appE, FD.ixM, FD.sliceM, FD.obsT, FD.obsF, FD.frzS, FD.app2E, FD.permA, FD.isB2, FD.deepE, FD.all2G, FD.M.toDs, hc, pow18, pow60, pow600, p600, max2D, hb, z3]
end Law
set_option linter.all false
set_option maxRecDepth 100000
set_option maxHeartbeats 4000000
set_option exponentiation.threshold 10000
namespace Law
open PySem PySem.Spec PyProof.Rows L2 FD
theorem ordT : TL.Ord [2, 1, 0] := ⟨⟨by decide, by decide⟩, by decide, by
  intro c h1 h2
  have h3 : c < 3 := h2
  match c, h1, h3 with
  | 1, _, _ => exact ⟨2, by decide, by decide⟩
  | 2, _, _ => exact ⟨2, by decide, by decide⟩⟩
theorem ordP : TL.Ord [1, 0] := ⟨⟨by decide, by decide⟩, by decide, by
  intro c h1 h2
  have h3 : c < 2 := h2
  match c, h1, h3 with
  | 1, _, _ => exact ⟨1, by decide, by decide⟩⟩
theorem lineT (a b c : Nat) (ha : 0 < a) (hb : 0 < b) (hc : 0 < c) : TL.Line [2, 1, 0] [a, b, c] := ⟨ordT, rfl, fun x hx => by
  simp [FD.seqF, FD.asgF, FD.ifF, FD.retF, FD.retNF, FD.nxF, FD.nameE, FD.constE, FD.op2, FD.op1, FD.vw, FD.fz, FD.mv, FD.own, FD.addD, FD.subD, FD.mulD, FD.fdivD, FD.modD, FD.intD, FD.callE, FD.vws, FD.consA, FD.nilA, FD.nameG, FD.fnF, FD.outs, FD.M.toD, FD.M.flat, FD.boolT, FD.fgtF, FD.wipeF, FD.callG, FD.argsG, FD.giveG, FD.andV, FD.orV, FD.notV, FD.andT, FD.orT, FD.notT, FD.ifV, FD.lstE, FD.fzs, FD.tupE, FD.mvs, FD.cmpI, FD.isD, FD.isiD, FD.Kd.is, FD.lenP, FD.lstR, FD.bmE, FD.takeR, FD.backF, FD.chainE, FD.exprF, FD.offF, FD.compD, FD.listI, FD.forF, FD.tupG, FD.consG, FD.nilG, FD.partsM, FD.enumI, FD.noneO, FD.someO, FD.sliceE, FD.negD, FD.rg1E, FD.rg2E, FD.cstep, FD.lstep, FD.yesT, FD.nl_len, FD.R.flat, FD.revE, FD.dtupE, FD.movA, FD.rng1I, FD.dcE, FD.dixD, FD.parF, FD.owns, FD.bkF, FD.isL, FD.stoG, FD.listD, FD.appE, FD.ixM, FD.sliceM, FD.obsT, FD.obsF, FD.frzS, FD.app2E, FD.permA, FD.isB2, FD.deepE, FD.all2G, FD.M.toDs] at hx
  omega⟩
theorem lineP (a b : Nat) (ha : 0 < a) (hb : 0 < b) : TL.Line [1, 0] [a, b] := ⟨ordP, rfl, fun x hx => by
  simp [FD.seqF, FD.asgF, FD.ifF, FD.retF, FD.retNF, FD.nxF, FD.nameE, FD.constE, FD.op2, FD.op1, FD.vw, FD.fz, FD.mv, FD.own, FD.addD, FD.subD, FD.mulD, FD.fdivD, FD.modD, FD.intD, FD.callE, FD.vws, FD.consA, FD.nilA, FD.nameG, FD.fnF, FD.outs, FD.M.toD, FD.M.flat, FD.boolT, FD.fgtF, FD.wipeF, FD.callG, FD.argsG, FD.giveG, FD.andV, FD.orV, FD.notV, FD.andT, FD.orT, FD.notT, FD.ifV, FD.lstE, FD.fzs, FD.tupE, FD.mvs, FD.cmpI, FD.isD, FD.isiD, FD.Kd.is, FD.lenP, FD.lstR, FD.bmE, FD.takeR, FD.backF, FD.chainE, FD.exprF, FD.offF, FD.compD, FD.listI, FD.forF, FD.tupG, FD.consG, FD.nilG, FD.partsM, FD.enumI, FD.noneO, FD.someO, FD.sliceE, FD.negD, FD.rg1E, FD.rg2E, FD.cstep, FD.lstep, FD.yesT, FD.nl_len, FD.R.flat, FD.revE, FD.dtupE, FD.movA, FD.rng1I, FD.dcE, FD.dixD, FD.parF, FD.owns, FD.bkF, FD.isL, FD.stoG, FD.listD, FD.appE, FD.ixM, FD.sliceM, FD.obsT, FD.obsF, FD.frzS, FD.app2E, FD.permA, FD.isB2, FD.deepE, FD.all2G, FD.M.toDs] at hx
  omega⟩
theorem fit_of {o L : List Nat} (h : TL.Line o L) (h40 : o.length ≤ 40) (hs : L.sum < 2 ^ 100) : Fit o L := ⟨h, h40, Nat.lt_trans hs (by decide +kernel)⟩
theorem tk1 : f_taken [.imm (.lst [.int 2, .int 1, .int 0]), .imm (.lst [.int 2, .int 1, .int 3])] = some (.dtup [.imm (.str "u"), .lst [.int 2, .int 0, .int 1], .lst [.int 2, .int 1, .int 1]], []) := by
  have h := fit_of (lineT 2 1 3 (by decide) (by decide) (by decide)) (by decide) (by decide)
  have e := taken_eq h fun d => h.ring d
  rw [show TL.takeS [2, 1, 0] [2, 1, 3] = some (.u, [2, 0, 1], [2, 1, 1]) by decide +kernel] at e
  exact e
theorem tk2 : f_taken [.imm (.lst [.int 2, .int 1, .int 0]), .imm (.lst [.int 4, .int 1, .int 3])] = some (.dtup [.imm (.str "l"), .lst [.int 1, .int 2, .int 0], .lst [.int 1, .int 3, .int 1]], []) := by
  have h := fit_of (lineT 4 1 3 (by decide) (by decide) (by decide)) (by decide) (by decide)
  have e := taken_eq h fun d => h.ring d
  rw [show TL.takeS [2, 1, 0] [4, 1, 3] = some (.l, [1, 2, 0], [1, 3, 1]) by decide +kernel] at e
  exact e
theorem tk3 : f_taken [.imm (.lst [.int 2, .int 1, .int 0]), .imm (.lst [.int 3, .int 1, .int 3])] = some (.imm .non, []) := by
  have h := fit_of (lineT 3 1 3 (by decide) (by decide) (by decide)) (by decide) (by decide)
  have e := taken_eq h fun d => h.ring d
  rw [show TL.takeS [2, 1, 0] [3, 1, 3] = none by decide +kernel] at e
  exact e
theorem ro1 : f_runs_of [.imm (.lst [.int 2, .int 1, .int 0]), .imm (.lst [.int 2, .int 1, .int 6])] = some (.lst [.tup [.str "u", .int 3]], []) := by
  have h := fit_of (lineT 2 1 6 (by decide) (by decide) (by decide)) (by decide) (by decide +kernel)
  exact runs_of_eq h (TL.Rn.run (d := .u) (T := 3) (left := 1) (by decide +kernel) (by decide +kernel) (TL.Rn.done (by decide +kernel))) (by decide)
theorem ro2 : f_runs_of [.imm (.lst [.int 1, .int 0]), .imm (.lst [.int 1, .int 1])] = some (.lst [], []) := by
  have h := fit_of (lineP 1 1 (by decide) (by decide)) (by decide) (by decide +kernel)
  exact runs_of_eq h (TL.Rn.done (by decide +kernel)) (by decide)
theorem ro3 : f_runs_of [.imm (.lst [.int 1, .int 0]), .imm (.lst [.int P29, .int 3])] = some (.lst [.tup [.str "l", .int 33333333333333333333333333333], .tup [.str "u", .int 2]], []) := by
  have h := fit_of (lineP (10 ^ 29) 3 (by decide +kernel) (by decide)) (by decide) (by decide +kernel)
  exact runs_of_eq h (TL.Rn.run (d := .l) (T := 33333333333333333333333333333) (left := 1) (by decide +kernel) (by decide +kernel) (TL.Rn.run (d := .u) (T := 2) (left := 1) (by decide +kernel) (by decide +kernel) (TL.Rn.done (by decide +kernel)))) (by decide)
noncomputable def BZ (K : PySem.W.Frag) : SF := (fgtF [1] (fgtF [1] (ifF (notT (boolT (callG [0] f__law_right (consA (callG [] (f__law_generator K) (consA (nameE 0) (consA (nameE 1) nilA))) nilA)))) (retF (constE (.bl false))) nxF)))
theorem law_turn (K : PySem.W.Frag) (ns : List Int) (i : Nat) (hi : i < 2) (r2 : Option M) : lstep (nameG 1) (BZ K) (.int (i : Nat)) [some (.imm (.scr K ns)), none, r2] = some ([some (.imm (.scr K ns)), none, r2], .nx) := by
  obtain ⟨g, e1, hg⟩ := generator_ok K ns i (by omega)
  obtain ⟨g', e2⟩ := right_ok hg (by have : (1000 : Nat) < 2 ^ 700 := by decide +kernel
                                     omega)
  simp [FD.seqF, FD.asgF, FD.ifF, FD.retF, FD.retNF, FD.nxF, FD.nameE, FD.constE, FD.op2, FD.op1, FD.vw, FD.fz, FD.mv, FD.own, FD.addD, FD.subD, FD.mulD, FD.fdivD, FD.modD, FD.intD, FD.callE, FD.vws, FD.consA, FD.nilA, FD.nameG, FD.fnF, FD.outs, FD.M.toD, FD.M.flat, FD.boolT, FD.fgtF, FD.wipeF, FD.callG, FD.argsG, FD.giveG, FD.andV, FD.orV, FD.notV, FD.andT, FD.orT, FD.notT, FD.ifV, FD.lstE, FD.fzs, FD.tupE, FD.mvs, FD.cmpI, FD.isD, FD.isiD, FD.Kd.is, FD.lenP, FD.lstR, FD.bmE, FD.takeR, FD.backF, FD.chainE, FD.exprF, FD.offF, FD.compD, FD.listI, FD.forF, FD.tupG, FD.consG, FD.nilG, FD.partsM, FD.enumI, FD.noneO, FD.someO, FD.sliceE, FD.negD, FD.rg1E, FD.rg2E, FD.cstep, FD.lstep, FD.yesT, FD.nl_len, FD.R.flat, FD.revE, FD.dtupE, FD.movA, FD.rng1I, FD.dcE, FD.dixD, FD.parF, FD.owns, FD.bkF, FD.isL, FD.stoG, FD.listD, FD.appE, FD.ixM, FD.sliceM, FD.obsT, FD.obsF, FD.frzS, FD.app2E, FD.permA, FD.isB2, FD.deepE, FD.all2G, FD.M.toDs, BZ, e1, e2]
theorem loop_law (K : PySem.W.Frag) (ns : List Int) (r2 : Option M) : loopF (nameG 1) (BZ K) (rngD 0 2) [some (.imm (.scr K ns)), none, r2] = some ([some (.imm (.scr K ns)), none, r2], .nx) := by
  have e : rngD 0 2 = [.int ((0 : Nat) : Int), .int ((1 : Nat) : Int)] := rfl
  rw [e, loopF_cons, law_turn K ns 0 (by omega)]
  simp only
  rw [loopF_cons, law_turn K ns 1 (by omega)]
  rfl
theorem main (K : PySem.W.Frag) (ns : List Int) (hn : ns.length ≤ 63) : f_law K [.imm (.scr K ns)] = some (.imm (.bl true), []) := by
  have e1 := loop_law K ns none
  simp only [BZ] at e1
  have r2 : rngOk 2 = true := rng_of (by omega)
  have z0 : smallL 0 = true := small40 (by omega)
  have z1 : smallL 1 = true := small40 (by omega)
  have z2 : smallL 2 = true := small40 (by omega)
  have z3 : smallL 3 = true := small40 (by omega)
  have n1 : neD (.tup [.str "u", .lst [.int 2, .int 0, .int 1], .lst [.int 2, .int 1, .int 1]]) (.tup [.str "u", .lst [.int 2, .int 0, .int 1], .lst [.int 2, .int 1, .int 1]]) = some (.imm (.bl false)) := neD_self (n := 12) rfl (by omega)
  have n2 : neD (.tup [.str "l", .lst [.int 1, .int 2, .int 0], .lst [.int 1, .int 3, .int 1]]) (.tup [.str "l", .lst [.int 1, .int 2, .int 0], .lst [.int 1, .int 3, .int 1]]) = some (.imm (.bl false)) := neD_self (n := 12) rfl (by omega)
  have q1 : eqD (.lst [.tup [.str "u", .int 3]]) (.lst [.tup [.str "u", .int 3]]) = some (.imm (.bl true)) := eqD_self (n := 12) rfl (by omega)
  have q2 : eqD (.lst []) (.lst []) = some (.imm (.bl true)) := rfl
  have q3 : eqD (.lst [.tup [.str "l", .int 33333333333333333333333333333], .tup [.str "u", .int 2]]) (.lst [.tup [.str "l", .int 33333333333333333333333333333], .tup [.str "u", .int 2]]) = some (.imm (.bl true)) := eqD_self (n := 12) rfl (by omega)
  simp only [f_law, F_law]
  simp [FD.seqF, FD.asgF, FD.ifF, FD.retF, FD.retNF, FD.nxF, FD.nameE, FD.constE, FD.op2, FD.op1, FD.vw, FD.fz, FD.mv, FD.own, FD.addD, FD.subD, FD.mulD, FD.fdivD, FD.modD, FD.intD, FD.callE, FD.vws, FD.consA, FD.nilA, FD.nameG, FD.fnF, FD.outs, FD.M.toD, FD.M.flat, FD.boolT, FD.fgtF, FD.wipeF, FD.callG, FD.argsG, FD.giveG, FD.andV, FD.orV, FD.notV, FD.andT, FD.orT, FD.notT, FD.ifV, FD.lstE, FD.fzs, FD.tupE, FD.mvs, FD.cmpI, FD.isD, FD.isiD, FD.Kd.is, FD.lenP, FD.lstR, FD.bmE, FD.takeR, FD.backF, FD.chainE, FD.exprF, FD.offF, FD.compD, FD.listI, FD.forF, FD.tupG, FD.consG, FD.nilG, FD.partsM, FD.enumI, FD.noneO, FD.someO, FD.sliceE, FD.negD, FD.rg1E, FD.rg2E, FD.cstep, FD.lstep, FD.yesT, FD.nl_len, FD.R.flat, FD.revE, FD.dtupE, FD.movA, FD.rng1I, FD.dcE, FD.dixD, FD.parF, FD.owns, FD.bkF, FD.isL, FD.stoG, FD.listD, FD.appE, FD.ixM, FD.sliceM, FD.obsT, FD.obsF, FD.frzS, FD.app2E, FD.permA, FD.isB2, FD.deepE, FD.all2G, FD.M.toDs, e1, r2, z0, z1, z2, z3, n1, n2, q1, q2, q3, tk1, tk2, tk3, ro1, ro2, ro3, pow29]
end Law
theorem PySem.Challenge.cw_turnlines_k48_deeds_that_lengths_take_holds : PySem.Challenge.rw_turnlines_k48_deeds_that_lengths_take.Holds :=
  law_end Law.main
