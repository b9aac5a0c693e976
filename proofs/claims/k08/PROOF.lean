import PyProof.Rows.All
import Wide.All
import OpenK.AllK
import Wide.FinOn
import KE.KStateDown
import HandS.ForMost
import HandS.ForExc
import HandS.Defaults
import HandS.Dict
import HandS.Small
import HandS.Deep
import HandS.IsInst
import HandS.TupAny
import HandS.Conv
import HandS.Text
import HandS.Zip
import HandS.Iter
import HandS.SlotsOwn
import HandS.Property
import HandS.DictComp
import HandS.DictTup
import HandS.ClsMeth
import HandS.WordsExc
import KE.GoesEnum
import KE.GoesMore
import KE.GoesZip
import HandS.MapObj
import KE.KDictZip
import HandS.Head0
import HandS.Head1
import HandS.Head2
import HandS.HeadEnd
import HandS.HeadNt
import HandS.TryMany
import HandS.Strs
import PySem.Challenge.RW_glintkinds_k08_whole_counts_far
set_option Elab.async false
set_option linter.all false
set_option maxRecDepth 100000
set_option maxHeartbeats 2000000
/-! GX1: plain data D, what a value stands for (Rep), the mirror's results (R), slots (Sl), the relation of a frame (Rl). -/
namespace GX
open PySem PySem.Spec PyProof.Rows L2
/-- plain data: what a value is, without the heap -/
inductive D where
  | non | bl (b : Bool) | int (i : Int) | str (s : Str)
  | lst (xs : List D) | tup (xs : List D)
  /-- a tuple of the written part -/
  | ktp (xs : List D)
  | dK (ks : List Key) (xs : List D) | dT (ks : List (List Key)) (xs : List D)
  | ins (C : Addr) (ns : List Str) (xs : List D)
  /-- the script -/
  | scr (ns : List Int)
mutual
def Rep (K : PySem.W.Frag) (H : Hp) : D → V → Prop
  | .non, v => v = .non
  | .bl b, v => v = .bl b
  | .int i, v => v = .int i
  | .str s, v => v = .str s
  | .scr ns, v => ∃ a, v = .ref a ∧ SqL K H a (ns.map V.int)
  | .lst ds, v => ∃ a vs, v = .ref a ∧ H a = some (.lst vs) ∧ Reps K H ds vs
  | .tup ds, v => ∃ a vs, v = .ref a ∧ H a = some (.tup vs) ∧ Reps K H ds vs
  | .ktp ds, v => ∃ a vs, v = .ref a ∧ SqT K H a vs ∧ Reps K H ds vs
  | .dK ks ds, v => ∃ a vs, v = .ref a ∧ H a = some (.dK (ks.zip vs)) ∧ ks.length = ds.length ∧ Reps K H ds vs
  | .dT ks ds, v => ∃ a vs, v = .ref a ∧ H a = some (.dT (ks.zip vs)) ∧ ks.length = ds.length ∧ Reps K H ds vs
  | .ins C ns ds, v => ∃ a dx vs, v = .ref a ∧ H a = some (.ins C dx (ns.zip vs)) ∧ ns.length = ds.length ∧ Reps K H ds vs
def Reps (K : PySem.W.Frag) (H : Hp) : List D → List V → Prop
  | [], vs => vs = []
  | d :: ds, vs => ∃ v r, vs = v :: r ∧ Rep K H d v ∧ Reps K H ds r
end
theorem Same.seqT {K : PySem.W.Frag} {H H' : Hp} {a : Addr} {xs : List V} (e : Same H H') (h : SqT K H a xs) : SqT K H' a xs := by
  rcases h with (h | ⟨o, h⟩) | h
  · exact .inl (.inl (e _ _ h))
  · exact .inl (.inr ⟨o, e _ _ h⟩)
  · exact .inr h
mutual
theorem Rep.mono {K : PySem.W.Frag} {H H' : Hp} (s : Same H H') : ∀ {d : D} {v : V}, Rep K H d v → Rep K H' d v
  | .non, _, h => h
  | .bl _, _, h => h
  | .int _, _, h => h
  | .str _, _, h => h
  | .lst ds, v, h => by
    obtain ⟨a, vs, e, q, r⟩ := (by simpa only [Rep] using h : ∃ a vs, v = .ref a ∧ H a = some (.lst vs) ∧ Reps K H ds vs)
    simp only [Rep]
    exact ⟨a, vs, e, s _ _ q, Reps.mono s r⟩
  | .scr ns, v, h => by
    obtain ⟨a, e, q⟩ := (by simpa only [Rep] using h : ∃ a, v = .ref a ∧ SqL K H a (ns.map V.int))
    simp only [Rep]
    exact ⟨a, e, s.seq q⟩
  | .ktp ds, v, h => by
    obtain ⟨a, vs, e, q, r⟩ := (by simpa only [Rep] using h : ∃ a vs, v = .ref a ∧ SqT K H a vs ∧ Reps K H ds vs)
    simp only [Rep]
    exact ⟨a, vs, e, Same.seqT s q, Reps.mono s r⟩
  | .tup ds, v, h => by
    obtain ⟨a, vs, e, q, r⟩ := (by simpa only [Rep] using h : ∃ a vs, v = .ref a ∧ H a = some (.tup vs) ∧ Reps K H ds vs)
    simp only [Rep]
    exact ⟨a, vs, e, s _ _ q, Reps.mono s r⟩
  | .dK ks ds, v, h => by
    obtain ⟨a, vs, e, q, l, r⟩ := (by simpa only [Rep] using h : ∃ a vs, v = .ref a ∧ H a = some (.dK (ks.zip vs)) ∧ ks.length = ds.length ∧ Reps K H ds vs)
    simp only [Rep]
    exact ⟨a, vs, e, s _ _ q, l, Reps.mono s r⟩
  | .dT ks ds, v, h => by
    obtain ⟨a, vs, e, q, l, r⟩ := (by simpa only [Rep] using h : ∃ a vs, v = .ref a ∧ H a = some (.dT (ks.zip vs)) ∧ ks.length = ds.length ∧ Reps K H ds vs)
    simp only [Rep]
    exact ⟨a, vs, e, s _ _ q, l, Reps.mono s r⟩
  | .ins C ns ds, v, h => by
    obtain ⟨a, dx, vs, e, q, l, r⟩ := (by simpa only [Rep] using h : ∃ a dx vs, v = .ref a ∧ H a = some (.ins C dx (ns.zip vs)) ∧ ns.length = ds.length ∧ Reps K H ds vs)
    simp only [Rep]
    exact ⟨a, dx, vs, e, s _ _ q, l, Reps.mono s r⟩
theorem Reps.mono {K : PySem.W.Frag} {H H' : Hp} (s : Same H H') : ∀ {ds : List D} {vs : List V}, Reps K H ds vs → Reps K H' ds vs
  | [], _, h => h
  | d :: ds, vs, h => by
    obtain ⟨v, r, e, h1, h2⟩ := (by simpa only [Reps] using h : ∃ v r, vs = v :: r ∧ Rep K H d v ∧ Reps K H ds r)
    simp only [Reps]
    exact ⟨v, r, e, Rep.mono s h1, Reps.mono s h2⟩
end
section
variable {K : PySem.W.Frag} {H : Hp}
theorem Rep.int_iff {i : Int} {v : V} : Rep K H (.int i) v ↔ v = .int i := by simp only [Rep]
theorem Rep.lst_iff {ds : List D} {v : V} : Rep K H (.lst ds) v ↔ ∃ a vs, v = .ref a ∧ H a = some (.lst vs) ∧ Reps K H ds vs := by simp only [Rep]
theorem Rep.scr_iff {ns : List Int} {v : V} : Rep K H (.scr ns) v ↔ ∃ a, v = .ref a ∧ SqL K H a (ns.map V.int) := by simp only [Rep]
theorem Rep.tup_iff {ds : List D} {v : V} : Rep K H (.tup ds) v ↔ ∃ a vs, v = .ref a ∧ H a = some (.tup vs) ∧ Reps K H ds vs := by simp only [Rep]
theorem Rep.ktp_iff {ds : List D} {v : V} : Rep K H (.ktp ds) v ↔ ∃ a vs, v = .ref a ∧ SqT K H a vs ∧ Reps K H ds vs := by simp only [Rep]
theorem Rep.dK_iff {ks : List Key} {ds : List D} {v : V} : Rep K H (.dK ks ds) v ↔ ∃ a vs, v = .ref a ∧ H a = some (.dK (ks.zip vs)) ∧ ks.length = ds.length ∧ Reps K H ds vs := by simp only [Rep]
theorem Rep.dT_iff {ks : List (List Key)} {ds : List D} {v : V} : Rep K H (.dT ks ds) v ↔ ∃ a vs, v = .ref a ∧ H a = some (.dT (ks.zip vs)) ∧ ks.length = ds.length ∧ Reps K H ds vs := by simp only [Rep]
theorem Rep.ins_iff {C : Addr} {ns : List Str} {ds : List D} {v : V} : Rep K H (.ins C ns ds) v ↔ ∃ a dx vs, v = .ref a ∧ H a = some (.ins C dx (ns.zip vs)) ∧ ns.length = ds.length ∧ Reps K H ds vs := by simp only [Rep]
theorem Reps.nil_iff {vs : List V} : Reps K H [] vs ↔ vs = [] := by simp only [Reps]
theorem Reps.cons_iff {d : D} {ds : List D} {vs : List V} : Reps K H (d :: ds) vs ↔ ∃ v r, vs = v :: r ∧ Rep K H d v ∧ Reps K H ds r := by simp only [Reps]
theorem Reps.nil : Reps K H [] [] := Reps.nil_iff.mpr rfl
theorem Reps.cons {d : D} {ds : List D} {v : V} {vs : List V} (a : Rep K H d v) (b : Reps K H ds vs) : Reps K H (d :: ds) (v :: vs) := Reps.cons_iff.mpr ⟨v, vs, rfl, a, b⟩
theorem Reps.length : ∀ {ds : List D} {vs : List V}, Reps K H ds vs → ds.length = vs.length
  | [], vs, h => by rw [Reps.nil_iff.mp h]; rfl
  | d :: ds, vs, h => by
    obtain ⟨v, r, rfl, _, h2⟩ := Reps.cons_iff.mp h
    simp [Reps.length h2]
theorem Reps.get : ∀ {ds : List D} {vs : List V} {i : Nat} {d : D}, Reps K H ds vs → ds[i]? = some d → ∃ v, vs[i]? = some v ∧ Rep K H d v
  | [], vs, i, d, h, e => by simp at e
  | d0 :: ds, vs, 0, d, h, e => by
    obtain ⟨v, r, rfl, h1, h2⟩ := Reps.cons_iff.mp h
    have e : d0 = d := Option.some.inj e
    subst e
    exact ⟨v, rfl, h1⟩
  | d0 :: ds, vs, i + 1, d, h, e => by
    obtain ⟨v, r, rfl, h1, h2⟩ := Reps.cons_iff.mp h
    exact Reps.get (i := i) h2 e
theorem Reps.append : ∀ {ds es : List D} {vs us : List V}, Reps K H ds vs → Reps K H es us → Reps K H (ds ++ es) (vs ++ us)
  | [], es, vs, us, h, g => by rw [Reps.nil_iff.mp h]; exact g
  | d :: ds, es, vs, us, h, g => by
    obtain ⟨v, r, rfl, h1, h2⟩ := Reps.cons_iff.mp h
    exact Reps.cons h1 (Reps.append h2 g)
theorem Reps.one {d : D} {v : V} (a : Rep K H d v) : Reps K H [d] [v] := Reps.cons a Reps.nil
theorem Reps.set : ∀ {ds : List D} {vs : List V} (i : Nat) {d : D} {v : V}, Rep K H d v → Reps K H ds vs → Reps K H (ds.set i d) (vs.set i v)
  | [], vs, i, d, v, a, h => by rw [Reps.nil_iff.mp h]; exact Reps.nil
  | e :: ds, vs, 0, d, v, a, h => by
    obtain ⟨u, r, rfl, h1, h2⟩ := Reps.cons_iff.mp h
    exact Reps.cons a h2
  | e :: ds, vs, i + 1, d, v, a, h => by
    obtain ⟨u, r, rfl, h1, h2⟩ := Reps.cons_iff.mp h
    exact Reps.cons h1 (Reps.set i a h2)
theorem Reps.take : ∀ {ds : List D} {vs : List V} (n : Nat), Reps K H ds vs → Reps K H (ds.take n) (vs.take n)
  | _, _, 0, _ => by simp only [List.take_zero]; exact Reps.nil
  | [], vs, n + 1, h => by rw [Reps.nil_iff.mp h]; exact Reps.nil
  | e :: ds, vs, n + 1, h => by
    obtain ⟨u, r, rfl, h1, h2⟩ := Reps.cons_iff.mp h
    exact Reps.cons h1 (Reps.take n h2)
theorem Reps.drop : ∀ {ds : List D} {vs : List V} (n : Nat), Reps K H ds vs → Reps K H (ds.drop n) (vs.drop n)
  | _, _, 0, h => h
  | [], vs, n + 1, h => by rw [Reps.nil_iff.mp h]; exact Reps.nil
  | e :: ds, vs, n + 1, h => by
    obtain ⟨u, r, rfl, h1, h2⟩ := Reps.cons_iff.mp h
    exact Reps.drop n h2
theorem Reps.eraseIdx : ∀ {ds : List D} {vs : List V} (i : Nat), Reps K H ds vs → Reps K H (ds.eraseIdx i) (vs.eraseIdx i)
  | [], vs, i, h => by rw [Reps.nil_iff.mp h]; exact Reps.nil
  | e :: ds, vs, 0, h => by
    obtain ⟨u, r, rfl, h1, h2⟩ := Reps.cons_iff.mp h
    exact h2
  | e :: ds, vs, i + 1, h => by
    obtain ⟨u, r, rfl, h1, h2⟩ := Reps.cons_iff.mp h
    exact Reps.cons h1 (Reps.eraseIdx i h2)
end
/-! ### own trees -/
/-- the shape of a thing of our own -/
inductive Sh where
  | l | i (C : Addr) (ns : List Str) | k (ks : List Key) | t (ks : List (List Key))
/-- data with own things in it -/
inductive Tr where
  | d (d : D) | o (sh : Sh) (ts : List Tr)
def Sh.ho : Sh → List V → HO → Prop
  | .l, vs, h => h = .lst vs
  | .i C ns, vs, h => ∃ dx, h = .ins C dx (ns.zip vs) ∧ ns.length = vs.length
  | .k ks, vs, h => h = .dK (ks.zip vs) ∧ ks.length = vs.length
  | .t ks, vs, h => h = .dT (ks.zip vs) ∧ ks.length = vs.length
def Sh.dat : Sh → List D → D
  | .l, ds => .lst ds
  | .i C ns, ds => .ins C ns ds
  | .k ks, ds => .dK ks ds
  | .t ks, ds => .dT ks ds
mutual
def Tr.dat : Tr → D
  | .d x => x
  | .o sh ts => sh.dat (Tr.dats ts)
def Tr.dats : List Tr → List D
  | [] => []
  | t :: ts => t.dat :: Tr.dats ts
end
mutual
def Ow (K : PySem.W.Frag) (F H : Hp) : Tr → V → List Addr → Prop
  | .d d, v, fp => fp = [] ∧ Rep K F d v
  | .o sh ts, v, fp => ∃ p h vs fq, v = .ref p ∧ fp = p :: fq ∧ H p = some h ∧ sh.ho vs h ∧ Ows K F H ts vs fq
def Ows (K : PySem.W.Frag) (F H : Hp) : List Tr → List V → List Addr → Prop
  | [], vs, fp => vs = [] ∧ fp = []
  | t :: ts, vs, fp => ∃ v r f1 f2, vs = v :: r ∧ fp = f1 ++ f2 ∧ Ow K F H t v f1 ∧ Ows K F H ts r f2
end
section
variable {K : PySem.W.Frag} {F H F' H' : Hp}
theorem Ow.d_iff {d : D} {v : V} {fp : List Addr} : Ow K F H (.d d) v fp ↔ fp = [] ∧ Rep K F d v := by simp only [Ow]
theorem Ow.o_iff {sh : Sh} {ts : List Tr} {v : V} {fp : List Addr} : Ow K F H (.o sh ts) v fp ↔ ∃ p h vs fq, v = .ref p ∧ fp = p :: fq ∧ H p = some h ∧ sh.ho vs h ∧ Ows K F H ts vs fq := by simp only [Ow]
theorem Ows.nil_iff {vs : List V} {fp : List Addr} : Ows K F H [] vs fp ↔ vs = [] ∧ fp = [] := by simp only [Ows]
theorem Ows.cons_iff {t : Tr} {ts : List Tr} {vs : List V} {fp : List Addr} : Ows K F H (t :: ts) vs fp ↔ ∃ v r f1 f2, vs = v :: r ∧ fp = f1 ++ f2 ∧ Ow K F H t v f1 ∧ Ows K F H ts r f2 := by simp only [Ows]
theorem Ow.im {d : D} {v : V} (h : Rep K F d v) : Ow K F H (.d d) v [] := Ow.d_iff.mpr ⟨rfl, h⟩
theorem Ows.nil : Ows K F H [] [] [] := Ows.nil_iff.mpr ⟨rfl, rfl⟩
theorem Ows.cons {t : Tr} {ts : List Tr} {v : V} {vs : List V} {f1 f2 : List Addr} (a : Ow K F H t v f1) (b : Ows K F H ts vs f2) : Ows K F H (t :: ts) (v :: vs) (f1 ++ f2) := Ows.cons_iff.mpr ⟨v, vs, f1, f2, rfl, rfl, a, b⟩
theorem Sh.len {sh : Sh} {vs us : List V} {h : HO} (a : sh.ho vs h) (b : sh.ho us h) : us = vs := by
  cases sh with
  | l => rw [show h = .lst vs from a] at b; exact (HO.lst.inj (show HO.lst vs = .lst us from b)).symm
  | i C ns =>
    obtain ⟨dx, e1, l1⟩ := a
    obtain ⟨dy, e2, l2⟩ := b
    rw [e1] at e2
    obtain ⟨_, _, e3⟩ := HO.ins.inj e2
    have h1 := congrArg (List.map Prod.snd) e3
    rw [List.map_snd_zip (by omega), List.map_snd_zip (by omega)] at h1
    exact h1.symm
  | k ks =>
    obtain ⟨e1, l1⟩ := a
    obtain ⟨e2, l2⟩ := b
    rw [e1] at e2
    have h1 := congrArg (List.map Prod.snd) (HO.dK.inj e2)
    rw [List.map_snd_zip (by omega), List.map_snd_zip (by omega)] at h1
    exact h1.symm
  | t ks =>
    obtain ⟨e1, l1⟩ := a
    obtain ⟨e2, l2⟩ := b
    rw [e1] at e2
    have h1 := congrArg (List.map Prod.snd) (HO.dT.inj e2)
    rw [List.map_snd_zip (by omega), List.map_snd_zip (by omega)] at h1
    exact h1.symm
mutual
theorem Ow.mono (s : Same F F') : ∀ {t : Tr} {v : V} {fp : List Addr}, (∀ a ∈ fp, H' a = H a) → Ow K F H t v fp → Ow K F' H' t v fp
  | .d d, v, fp, _, h => by
    obtain ⟨e, r⟩ := Ow.d_iff.mp h
    exact Ow.d_iff.mpr ⟨e, r.mono s⟩
  | .o sh ts, v, fp, hk, h => by
    obtain ⟨p, h0, vs, fq, rfl, rfl, e, ho, r⟩ := Ow.o_iff.mp h
    exact Ow.o_iff.mpr ⟨p, h0, vs, fq, rfl, rfl, by rw [hk p List.mem_cons_self]; exact e, ho, Ows.mono s (fun a ha => hk a (List.mem_cons_of_mem _ ha)) r⟩
theorem Ows.mono (s : Same F F') : ∀ {ts : List Tr} {vs : List V} {fp : List Addr}, (∀ a ∈ fp, H' a = H a) → Ows K F H ts vs fp → Ows K F' H' ts vs fp
  | [], vs, fp, _, h => Ows.nil_iff.mpr (Ows.nil_iff.mp h)
  | t :: ts, vs, fp, hk, h => by
    obtain ⟨v, r, f1, f2, rfl, rfl, h1, h2⟩ := Ows.cons_iff.mp h
    exact Ows.cons (Ow.mono s (fun a ha => hk a (List.mem_append_left _ ha)) h1) (Ows.mono s (fun a ha => hk a (List.mem_append_right _ ha)) h2)
end
mutual
theorem Ow.there : ∀ {t : Tr} {v : V} {fp : List Addr}, Ow K F H t v fp → ∀ a ∈ fp, H a ≠ none
  | .d d, v, fp, h => by
    obtain ⟨rfl, r⟩ := Ow.d_iff.mp h
    intro a ha; cases ha
  | .o sh ts, v, fp, h => by
    obtain ⟨p, h0, vs, fq, rfl, rfl, e, ho, r⟩ := Ow.o_iff.mp h
    intro a ha
    rcases List.mem_cons.mp ha with rfl | ha
    · rw [e]; simp
    · exact Ows.there r a ha
theorem Ows.there : ∀ {ts : List Tr} {vs : List V} {fp : List Addr}, Ows K F H ts vs fp → ∀ a ∈ fp, H a ≠ none
  | [], vs, fp, h => by
    obtain ⟨_, rfl⟩ := Ows.nil_iff.mp h
    intro a ha; cases ha
  | t :: ts, vs, fp, h => by
    obtain ⟨v, r, f1, f2, rfl, rfl, h1, h2⟩ := Ows.cons_iff.mp h
    intro a ha
    rcases List.mem_append.mp ha with ha | ha
    · exact Ow.there h1 a ha
    · exact Ows.there h2 a ha
end
theorem Ows.length : ∀ {ts : List Tr} {vs : List V} {fp : List Addr}, Ows K F H ts vs fp → ts.length = vs.length
  | [], vs, fp, h => by rw [(Ows.nil_iff.mp h).1]; rfl
  | t :: ts, vs, fp, h => by
    obtain ⟨v, r, f1, f2, rfl, rfl, h1, h2⟩ := Ows.cons_iff.mp h
    exact congrArg Nat.succ (Ows.length h2)
theorem Ows.ims : ∀ {ds : List D} {vs : List V}, Reps K F ds vs → Ows K F H (ds.map .d) vs []
  | [], vs, h => by rw [Reps.nil_iff.mp h]; exact Ows.nil
  | d :: ds, vs, h => by
    obtain ⟨v, r, rfl, h1, h2⟩ := Reps.cons_iff.mp h
    exact Ows.cons (Ow.im h1) (Ows.ims h2)
/-- a part of own things is frozen -/
noncomputable def frz (F H : Hp) (fp : List Addr) : Hp := fun a => open Classical in if a ∈ fp then H a else F a
theorem frz_in {fp : List Addr} {a : Addr} (h : a ∈ fp) : frz F H fp a = H a := by unfold frz; exact if_pos h
theorem frz_out {fp : List Addr} {a : Addr} (h : a ∉ fp) : frz F H fp a = F a := by unfold frz; exact if_neg h
theorem frz_same {fp : List Addr} (h : ∀ a ∈ fp, F a = none) : Same F (frz F H fp) := fun a u e => by
  by_cases q : a ∈ fp
  · rw [h a q] at e; cases e
  · rw [frz_out q]; exact e
theorem frz_sub {fp : List Addr} (s : Same F H) : Same (frz F H fp) H := fun a u e => by
  by_cases q : a ∈ fp
  · rw [frz_in q] at e; exact e
  · rw [frz_out q] at e; exact s a u e
theorem Rep.sh {sh : Sh} {ds : List D} {vs : List V} {p : Addr} {h : HO} (e : F p = some h) (ho : sh.ho vs h) (r : Reps K F ds vs) : Rep K F (sh.dat ds) (.ref p) := by
  have l := r.length
  cases sh with
  | l => exact Rep.lst_iff.mpr ⟨p, vs, rfl, by rw [e, show h = .lst vs from ho], r⟩
  | i C ns =>
    obtain ⟨dx, rfl, q⟩ := ho
    exact Rep.ins_iff.mpr ⟨p, dx, vs, rfl, e, by omega, r⟩
  | k ks =>
    obtain ⟨rfl, q⟩ := ho
    exact Rep.dK_iff.mpr ⟨p, vs, rfl, e, by omega, r⟩
  | t ks =>
    obtain ⟨rfl, q⟩ := ho
    exact Rep.dT_iff.mpr ⟨p, vs, rfl, e, by omega, r⟩
mutual
theorem Ow.rep {f0 : List Addr} (h0 : ∀ a ∈ f0, F a = none) : ∀ {t : Tr} {v : V} {fp : List Addr}, (∀ a ∈ fp, a ∈ f0) → Ow K F H t v fp → Rep K (frz F H f0) t.dat v
  | .d d, v, fp, _, h => by
    obtain ⟨e, r⟩ := Ow.d_iff.mp h
    show Rep K _ (Tr.dat (.d d)) v
    rw [Tr.dat]
    exact r.mono (frz_same h0)
  | .o sh ts, v, fp, hk, h => by
    obtain ⟨p, h1, vs, fq, rfl, rfl, e, ho, r⟩ := Ow.o_iff.mp h
    rw [Tr.dat]
    exact Rep.sh (by rw [frz_in (hk p List.mem_cons_self)]; exact e) ho (Ows.rep h0 (fun a ha => hk a (List.mem_cons_of_mem _ ha)) r)
theorem Ows.rep {f0 : List Addr} (h0 : ∀ a ∈ f0, F a = none) : ∀ {ts : List Tr} {vs : List V} {fp : List Addr}, (∀ a ∈ fp, a ∈ f0) → Ows K F H ts vs fp → Reps K (frz F H f0) (Tr.dats ts) vs
  | [], vs, fp, _, h => by rw [Tr.dats]; exact Reps.nil_iff.mpr (Ows.nil_iff.mp h).1
  | t :: ts, vs, fp, hk, h => by
    obtain ⟨v, r, f1, f2, rfl, rfl, h1, h2⟩ := Ows.cons_iff.mp h
    rw [Tr.dats]
    exact Reps.cons (Ow.rep h0 (fun a ha => hk a (List.mem_append_left _ ha)) h1) (Ows.rep h0 (fun a ha => hk a (List.mem_append_right _ ha)) h2)
end
end
/-! ### the mirror's results -/
/-- an error: its class, its fields -/
structure Er where
  C : Addr
  ns : List Str
  xs : List D
/-- what a slot of the frame holds: unknown, a value that never changes, a thing of our own, a thing that was lent to us -/
inductive Sl where
  | un | im (d : D) | ow (t : Tr) | io (t : Tr)
inductive Rx (ε α : Type) where
  | ok (a : α) | err (e : Er) (δ : ε) | bad
def Rx.bind {ε α β : Type} : Rx ε α → (α → Rx ε β) → Rx ε β
  | .ok a, k => k a
  | .err e δ, _ => .err e δ
  | .bad, _ => .bad
instance {ε : Type} : Monad (Rx ε) where
  pure := Rx.ok
  bind := Rx.bind
abbrev R := Rx (List Sl)
abbrev R.ok {α : Type} (a : α) : R α := Rx.ok a
abbrev R.err {α : Type} (e : Er) (δ : List Sl) : R α := Rx.err e δ
abbrev R.bad {α : Type} : R α := Rx.bad
section
variable {ε α β γ : Type}
@[simp] theorem R.ok_bind (a : α) (k : α → Rx ε β) : ((Rx.ok a : Rx ε α) >>= k) = k a := rfl
@[simp] theorem R.err_bind (e : Er) (δ : ε) (k : α → Rx ε β) : ((Rx.err e δ : Rx ε α) >>= k) = Rx.err e δ := rfl
@[simp] theorem R.bad_bind (k : α → Rx ε β) : ((Rx.bad : Rx ε α) >>= k) = Rx.bad := rfl
@[simp] theorem R.pure_eq (a : α) : (pure a : Rx ε α) = Rx.ok a := rfl
theorem R.bind_assoc (m : Rx ε α) (k : α → Rx ε β) (l : β → Rx ε γ) : ((m >>= k) >>= l) = (m >>= fun a => k a >>= l) := by cases m <;> rfl
def R.ofO : Option α → Rx ε α
  | some a => .ok a
  | none => .bad
@[simp] theorem R.ofO_some (a : α) : (R.ofO (some a) : Rx ε α) = Rx.ok a := rfl
@[simp] theorem R.ofO_none : (R.ofO (none : Option α) : Rx ε α) = Rx.bad := rfl
theorem R.ofO_ok {o : Option α} {a : α} (h : (R.ofO o : Rx ε α) = Rx.ok a) : o = some a := by
  cases o with
  | none => cases h
  | some b => cases h; rfl
end
/-! ### a frame -/
/-- what stood at the def's entry: the frozen part, the heap, what was lent -/
structure Fm where
  F0 : Hp
  H0 : Hp
  io : Nat → Addr → Prop
  M : Addr → Prop
  /-- the values of the slots whose things were lent -/
  rv : Nat → Option V
def SlOk (K : PySem.W.Frag) (Γ : Fm) (F H : Hp) (i : Nat) (ov : Option V) (fp : List Addr) : Sl → Prop
  | .un => fp = []
  | .im d => fp = [] ∧ ∃ v, ov = some v ∧ Rep K F d v
  | .ow t => ∃ v, ov = some v ∧ Ow K F H t v fp ∧ fp.Nodup ∧ ∀ a ∈ fp, F a = none ∧ (Γ.H0 a = none ∨ Γ.M a)
  | .io t => ∃ v, ov = some v ∧ Ow K F H t v fp ∧ fp.Nodup ∧ (∀ a ∈ fp, F a = none ∧ (Γ.H0 a = none ∨ Γ.M a ∨ Γ.io i a)) ∧ Γ.rv i = some v
def Sl.own : Sl → Option Tr
  | .ow t => some t
  | .io t => some t
  | _ => none
def Sl.put : Sl → Tr → Sl
  | .io _, t => .io t
  | _, t => .ow t
structure RlP (K : PySem.W.Frag) (Γ : Fm) (F H : Hp) (σ : L2.St) (δ : List Sl) (φ : Nat → List Addr) : Prop where
  sub : Same F H
  grow : Same Γ.F0 F
  old : ∀ a, Γ.H0 a ≠ none → (∀ i, ¬ Γ.io i a) → ¬ Γ.M a → H a = Γ.H0 a
  mH : ∀ a, Γ.M a → H a ≠ none
  fz : ∀ a, Γ.H0 a ≠ none → ¬ Γ.M a → F a = Γ.F0 a
  ioH : ∀ i p, Γ.io i p → H p ≠ none
  len : σ.length = δ.length
  sl : ∀ (i : Nat) (s : Sl), δ[i]? = some s → ∃ ov, σ[i]? = some ov ∧ SlOk K Γ F H i ov (φ i) s
  nil : ∀ i : Nat, δ[i]? = none → φ i = []
  sep : ∀ (i j : Nat) (a : Addr), a ∈ φ i → a ∈ φ j → i = j
def Rl (K : PySem.W.Frag) (Γ : Fm) (F H : Hp) (σ : L2.St) (δ : List Sl) : Prop := ∃ φ, RlP K Γ F H σ δ φ
/-- the frozen part and the heap have grown by new things alone -/
structure Gr (F H F' H' : Hp) : Prop where
  f : Same F F'
  s : Same F' H'
  h : ∀ a, H a ≠ none → H' a = H a
  z : ∀ a, H a ≠ none → F' a = F a
theorem Gr.refl {F H : Hp} (s : Same F H) : Gr F H F H := ⟨Same.refl _, s, fun _ _ => rfl, fun _ _ => rfl⟩
theorem Gr.trans {F H F1 H1 F2 H2 : Hp} (a : Gr F H F1 H1) (b : Gr F1 H1 F2 H2) : Gr F H F2 H2 :=
  ⟨a.f.trans b.f, b.s, fun x hx => (b.h x (by rw [a.h x hx]; exact hx)).trans (a.h x hx), fun x hx => (b.z x (by rw [a.h x hx]; exact hx)).trans (a.z x hx)⟩
theorem sub_none {F H : Hp} (s : Same F H) {a : Addr} (h : H a = none) : F a = none := s.free h
/-- a new frozen thing -/
theorem Gr.new {F H : Hp} (s : Same F H) {p : Addr} (hp : H p = none) (o : HO) : Gr F H (upd F p o) (upd H p o) := by
  have hf := sub_none s hp
  refine ⟨fun a u e => ?_, fun a u e => ?_, fun a ha => ?_, fun a ha => ?_⟩
  · rw [upd_ne (ne_of_none e hf)]; exact e
  · by_cases h : a = p
    · subst h; rw [upd_same] at e ⊢; exact e
    · rw [upd_ne h] at e ⊢; exact s a u e
  · exact upd_ne (fun z => ha (by rw [z]; exact hp))
  · exact upd_ne (fun z => ha (by rw [z]; exact hp))
theorem SlOk.keep {K : PySem.W.Frag} {Γ : Fm} {F H F' H' : Hp} {i : Nat} {ov : Option V} {fp : List Addr} {s : Sl} (f : Same F F') (k : ∀ a ∈ fp, H' a = H a ∧ F' a = F a) (h : SlOk K Γ F H i ov fp s) : SlOk K Γ F' H' i ov fp s := by
  cases s with
  | un => exact h
  | im d => obtain ⟨e0, v, e, r⟩ := h; exact ⟨e0, v, e, r.mono f⟩
  | ow t =>
    obtain ⟨v, e, o, n, z⟩ := h
    exact ⟨v, e, o.mono f fun a ha => (k a ha).1, n, fun a ha => ⟨(k a ha).2.trans (z a ha).1, (z a ha).2⟩⟩
  | io t =>
    obtain ⟨v, e, o, n, z, zr⟩ := h
    exact ⟨v, e, o.mono f fun a ha => (k a ha).1, n, fun a ha => ⟨(k a ha).2.trans (z a ha).1, (z a ha).2⟩, zr⟩
theorem SlOk.inn {K : PySem.W.Frag} {Γ : Fm} {F H : Hp} {i : Nat} {ov : Option V} {fp : List Addr} {s : Sl} (h : SlOk K Γ F H i ov fp s) : ∀ a ∈ fp, H a ≠ none ∧ F a = none ∧ (Γ.H0 a = none ∨ Γ.M a ∨ Γ.io i a) := by
  cases s with
  | un => rw [show fp = [] from h]; intro a ha; cases ha
  | im d => rw [h.1]; intro a ha; cases ha
  | ow t => obtain ⟨v, e, o, n, z⟩ := h; exact fun a ha => ⟨o.there a ha, (z a ha).1, (z a ha).2.imp id .inl⟩
  | io t => obtain ⟨v, e, o, n, z, _⟩ := h; exact fun a ha => ⟨o.there a ha, (z a ha).1, (z a ha).2⟩
theorem SlOk.no {K : PySem.W.Frag} {Γ : Fm} {F H : Hp} {i : Nat} {ov : Option V} {fp : List Addr} {s : Sl} (h : SlOk K Γ F H i ov fp s) (e : s.own = none) : fp = [] := by
  cases s with
  | un => exact h
  | im d => exact h.1
  | ow t => cases e
  | io t => cases e
section
variable {K : PySem.W.Frag} {Γ : Fm} {F H F' H' : Hp} {σ σ' : L2.St} {δ δ' : List Sl} {φ φ' : Nat → List Addr}
theorem RlP.rl (r : RlP K Γ F H σ δ φ) : Rl K Γ F H σ δ := ⟨φ, r⟩
theorem RlP.inn (r : RlP K Γ F H σ δ φ) {i : Nat} {a : Addr} (h : a ∈ φ i) : H a ≠ none ∧ F a = none ∧ (Γ.H0 a = none ∨ Γ.M a ∨ Γ.io i a) := by
  cases e : δ[i]? with
  | none => rw [r.nil i e] at h; cases h
  | some s =>
    obtain ⟨ov, _, q⟩ := r.sl i s e
    exact q.inn a h
/-- what stood at the entry is still there -/
theorem RlP.there (r : RlP K Γ F H σ δ φ) {a : Addr} (h : Γ.H0 a ≠ none) : H a ≠ none := by
  by_cases q : ∃ i, Γ.io i a
  · obtain ⟨i, q⟩ := q
    exact r.ioH i a q
  · by_cases q2 : Γ.M a
    · exact r.mH a q2
    · rw [r.old a h (fun i z => q ⟨i, z⟩) q2]; exact h
theorem RlP.fresh (r : RlP K Γ F H σ δ φ) {a : Addr} (h : H a = none) : Γ.H0 a = none := by
  cases e : Γ.H0 a with
  | none => rfl
  | some o => exact absurd h (r.there (by rw [e]; simp))
/-- another state of the frame -/
theorem RlP.next (r : RlP K Γ F H σ δ φ) (s : Same F' H') (f : Same F F') (c1 : ∀ a, H a ≠ none → (∀ i, a ∉ φ i) → H' a = H a) (c2 : ∀ a, H a ≠ none → (∀ i t, δ[i]? = some (.ow t) → a ∉ φ i) → F' a = F a) (c3 : ∀ a, H a ≠ none → H' a ≠ none)
    (len : σ'.length = δ'.length) (sl : ∀ (i : Nat) (s : Sl), δ'[i]? = some s → ∃ ov, σ'[i]? = some ov ∧ SlOk K Γ F' H' i ov (φ' i) s) (nil : ∀ i : Nat, δ'[i]? = none → φ' i = [])
    (sep : ∀ (i j : Nat) (a : Addr), a ∈ φ' i → a ∈ φ' j → i = j) : RlP K Γ F' H' σ' δ' φ' where
  sub := s
  grow := r.grow.trans f
  old := fun a h q qm => (c1 a (r.there h) fun i hi => by
    rcases (r.inn hi).2.2 with z | z | z
    · exact h z
    · exact qm z
    · exact q i z).trans (r.old a h q qm)
  mH := fun a h => c3 a (r.mH a h)
  fz := fun a h qm => (c2 a (r.there h) fun i t e hi => by
    obtain ⟨ov, _, v, _, _, _, z⟩ := r.sl i _ e
    rcases (z a hi).2 with z | z
    · exact h z
    · exact qm z).trans (r.fz a h qm)
  ioH := fun i p h => c3 p (r.ioH i p h)
  len := len
  sl := sl
  nil := nil
  sep := sep
theorem RlP.gr (r : RlP K Γ F H σ δ φ) (g : Gr F H F' H') : RlP K Γ F' H' σ δ φ :=
  r.next g.s g.f (fun a h _ => g.h a h) (fun a h _ => g.z a h) (fun a h => by rw [g.h a h]; exact h) r.len (fun i s e => by
    obtain ⟨ov, e1, e2⟩ := r.sl i s e
    exact ⟨ov, e1, e2.keep g.f fun a ha => ⟨g.h a (r.inn ha).1, g.z a (r.inn ha).1⟩⟩) r.nil r.sep
theorem Rl.gr (r : Rl K Γ F H σ δ) (g : Gr F H F' H') : Rl K Γ F' H' σ δ := let ⟨φ, q⟩ := r; ⟨φ, q.gr g⟩
theorem Rl.sub (r : Rl K Γ F H σ δ) : Same F H := let ⟨_, q⟩ := r; q.sub
theorem Rl.fresh (r : Rl K Γ F H σ δ) {a : Addr} (h : H a = none) : Γ.H0 a = none := let ⟨_, q⟩ := r; q.fresh h
theorem Rl.sl' (r : Rl K Γ F H σ δ) {i : Nat} {s : Sl} (e : δ[i]? = some s) : ∃ ov fp, σ[i]? = some ov ∧ SlOk K Γ F H i ov fp s := by
  obtain ⟨φ, q⟩ := r
  obtain ⟨ov, a, b⟩ := q.sl i s e
  exact ⟨ov, _, a, b⟩
theorem Rl.len (r : Rl K Γ F H σ δ) : σ.length = δ.length := let ⟨_, q⟩ := r; q.len
/-- one slot's part is another -/
noncomputable def setφ (φ : Nat → List Addr) (i : Nat) (fp : List Addr) : Nat → List Addr := fun j => if j = i then fp else φ j
theorem setφ_eq {i : Nat} {fp : List Addr} : setφ φ i fp i = fp := if_pos rfl
theorem setφ_ne {i j : Nat} {fp : List Addr} (h : j ≠ i) : setφ φ i fp j = φ j := if_neg h
/-- one slot gets another reading, value, part -/
theorem RlP.set1 (r : RlP K Γ F H σ δ φ) {i : Nat} {s t : Sl} {fp : List Addr} {w : Option V} (hi : δ[i]? = some s) (sb : Same F' H') (f : Same F F') (hw : σ'.length = σ.length) (hw1 : σ'[i]? = some w) (hw2 : ∀ j, j ≠ i → σ'[j]? = σ[j]?)
    (c1 : ∀ a, H a ≠ none → a ∉ φ i → H' a = H a) (c2 : ∀ a, H a ≠ none → (a ∈ φ i → ∀ t, s ≠ .ow t) → F' a = F a) (c3 : ∀ a, H a ≠ none → H' a ≠ none)
    (ht : SlOk K Γ F' H' i w fp t) (hf : ∀ a ∈ fp, a ∈ φ i ∨ ∀ j, j ≠ i → a ∉ φ j) : RlP K Γ F' H' σ' (δ.set i t) (setφ φ i fp) := by
  have hl : i < δ.length := (List.getElem?_eq_some_iff.mp hi).1
  refine r.next sb f (fun a h q => c1 a h (q i)) (fun a h q => c2 a h fun ha t e => q i t (by rw [hi, e]) ha) c3 (by rw [List.length_set, hw]; exact r.len) (fun j u e => ?_) (fun j e => ?_) (fun x y a hx hy => ?_)
  · by_cases h : j = i
    · subst h
      rw [List.getElem?_set_self hl] at e
      cases e
      exact ⟨w, hw1, by rw [setφ_eq]; exact ht⟩
    · rw [List.getElem?_set_ne (Ne.symm h)] at e
      obtain ⟨ov, q1, q2⟩ := r.sl j u e
      refine ⟨ov, by rw [hw2 j h]; exact q1, ?_⟩
      rw [setφ_ne h]
      exact q2.keep f fun a ha => ⟨c1 a (r.inn ha).1 fun z => h (r.sep j i a ha z), c2 a (r.inn ha).1 fun z => absurd (r.sep j i a ha z) h⟩
  · have h : j ≠ i := fun z => by subst z; rw [List.getElem?_set_self hl] at e; cases e
    rw [List.getElem?_set_ne (Ne.symm h)] at e
    rw [setφ_ne h]
    exact r.nil j e
  · by_cases h1 : x = i
    · by_cases h2 : y = i
      · rw [h1, h2]
      · subst h1
        rw [setφ_eq] at hx
        rw [setφ_ne h2] at hy
        rcases hf a hx with z | z
        · exact r.sep _ _ a z hy
        · exact absurd hy (z y h2)
    · rw [setφ_ne h1] at hx
      by_cases h2 : y = i
      · subst h2
        rw [setφ_eq] at hy
        rcases hf a hy with z | z
        · exact r.sep _ _ a hx z
        · exact absurd hx (z x h1)
      · rw [setφ_ne h2] at hy
        exact r.sep x y a hx hy
/-- a slot is forgotten -/
theorem RlP.drop (r : RlP K Γ F H σ δ φ) {i : Nat} {s : Sl} (hi : δ[i]? = some s) : RlP K Γ F H σ (δ.set i .un) (setφ φ i []) := by
  obtain ⟨ov, e1, _⟩ := r.sl i s hi
  exact r.set1 (t := .un) hi r.sub (Same.refl _) rfl e1 (fun _ _ => rfl) (fun _ _ _ => rfl) (fun _ _ _ => rfl) (fun _ h => h) rfl (fun a ha => by cases ha)
end
end GX
/-! GX2: the judgements: an expression's, a test's, arguments' reading follows the mirror; first rules. -/
namespace GX
open PySem PySem.Spec PyProof.Rows L2
/-- an error as it lies in the heap -/
def ErOk (K : PySem.W.Frag) (e : Er) (cls : Value) (o : Option Addr) (F H : Hp) : Prop :=
  cls = .ref e.C ∧ ∃ dd vs, o = some dd ∧ H dd = some (.xd (e.ns.zip vs)) ∧ e.ns.length = e.xs.length ∧ Reps K F e.xs vs
def Gd {α : Type} (K : PySem.W.Frag) (Γ : Fm) (W : WX) (m : R α) (P : α → Prop) : Prop := match m with
  | .ok a => P a
  | .err e δ' => ∀ cls o σ F H, Rl K Γ F H σ δ' → ErOk K e cls o F H → W cls o σ H
  | .bad => False
section
variable {α β : Type} {K : PySem.W.Frag} {Γ : Fm} {W : WX}
theorem Gd.bind {m : R α} {k : α → R β} {P : β → Prop} : Gd K Γ W (m >>= k) P ↔ Gd K Γ W m (fun a => Gd K Γ W (k a) P) := by
  cases m <;> exact Iff.rfl
theorem Gd.mono {m : R α} {P P' : α → Prop} (h : Gd K Γ W m P) (f : ∀ a, P a → P' a) : Gd K Γ W m P' := by
  cases m with
  | ok a => exact f a h
  | err e δ => exact h
  | bad => exact h
theorem Gd.ofO {o : Option α} {P : α → Prop} : Gd K Γ W (R.ofO o) P ↔ ∃ a, o = some a ∧ P a := by
  cases o with
  | none => exact ⟨fun h => h.elim, fun ⟨a, e, _⟩ => nomatch e⟩
  | some a => exact ⟨fun h => ⟨a, rfl, h⟩, fun ⟨b, e, h⟩ => by cases e; exact h⟩
theorem Gd.obind {o : Option α} {k : α → R β} {P : β → Prop} (h : Gd K Γ W (R.ofO o >>= k) P) : ∃ a, o = some a ∧ Gd K Γ W (k a) P := Gd.ofO.mp (Gd.bind.mp h)
end
/-- what an expression's value is: data, or the list that a slot holds -/
inductive Vl where
  | im (d : D) | sl (i : Nat)
def VlOk (K : PySem.W.Frag) (F : Hp) (σ : L2.St) (v : V) : Vl → Prop
  | .im d => Rep K F d v
  | .sl i => σ[i]? = some (some v)
def flats : List Tr → Option (List D)
  | [] => some []
  | .d x :: r => (flats r).map (x :: ·)
  | .o _ _ :: _ => none
/-- a thing of our own with frozen things in it, as data -/
def Tr.flat : Tr → Option D
  | .d x => some x
  | .o sh ts => (flats ts).map sh.dat
def ownAt (δ : List Sl) (i : Nat) : Option Tr := δ[i]?.bind Sl.own
def resO (δ : List Sl) : Vl → Option D
  | .im d => some d
  | .sl i => (ownAt δ i).bind Tr.flat
@[simp] theorem resO_im (δ : List Sl) (d : D) : resO δ (.im d) = some d := rfl
@[simp] theorem flats_ims : ∀ ds : List D, flats (ds.map .d) = some ds
  | [] => rfl
  | d :: ds => by simp [flats, flats_ims ds]
/-- an own list -/
abbrev lsT (ds : List D) : Tr := .o .l (ds.map .d)
/-- v can be read as d -/
def RdV (K : PySem.W.Frag) (F H : Hp) (v : V) (d : D) : Prop := Rep K F d v ∨ ∃ sh p h vs ds, v = .ref p ∧ d = Sh.dat sh ds ∧ H p = some h ∧ sh.ho vs h ∧ Reps K F ds vs
section
variable {K : PySem.W.Frag} {Γ : Fm} {F H F' H' : Hp} {σ : L2.St} {δ : List Sl} {v : V} {x : Vl} {d : D}
theorem VlOk.mono (s : Same F F') (h : VlOk K F σ v x) : VlOk K F' σ v x := by
  cases x with
  | im d => exact Rep.mono s h
  | sl i => exact h
theorem reps_flats : ∀ {ts : List Tr} {vs : List V} {fp : List Addr} {ds : List D}, Ows K F H ts vs fp → flats ts = some ds → Reps K F ds vs
  | [], vs, fp, ds, h, e => by cases e; exact Reps.nil_iff.mpr (Ows.nil_iff.mp h).1
  | .d x :: ts, vs, fp, ds, h, e => by
    obtain ⟨v, r, f1, f2, rfl, rfl, h1, h2⟩ := Ows.cons_iff.mp h
    dsimp only [flats] at e
    cases q : flats ts with
    | none => rw [q] at e; cases e
    | some es =>
      rw [q] at e
      cases e
      exact Reps.cons (Ow.d_iff.mp h1).2 (reps_flats h2 q)
  | .o _ _ :: ts, vs, fp, ds, h, e => by cases e
theorem ownAt_some {i : Nat} {t : Tr} (h : ownAt δ i = some t) : ∃ s, δ[i]? = some s ∧ s.own = some t := by
  unfold ownAt at h
  cases e : δ[i]? with
  | none => rw [e] at h; cases h
  | some s => rw [e] at h; exact ⟨s, rfl, h⟩
theorem SlOk.own {i : Nat} {ov : Option V} {fp : List Addr} {s : Sl} {t : Tr} (h : SlOk K Γ F H i ov fp s) (e : s.own = some t) : ∃ v, ov = some v ∧ Ow K F H t v fp ∧ fp.Nodup ∧ ∀ a ∈ fp, F a = none := by
  cases s with
  | un => cases e
  | im d => cases e
  | ow t' => cases e; obtain ⟨v, a, b, c, z⟩ := h; exact ⟨v, a, b, c, fun a ha => (z a ha).1⟩
  | io t' => cases e; obtain ⟨v, a, b, c, z, _⟩ := h; exact ⟨v, a, b, c, fun a ha => (z a ha).1⟩
theorem RlP.own {φ : Nat → List Addr} (r : RlP K Γ F H σ δ φ) {i : Nat} {t : Tr} (e : ownAt δ i = some t) : ∃ v, σ[i]? = some (some v) ∧ Ow K F H t v (φ i) ∧ (φ i).Nodup ∧ ∀ a ∈ φ i, F a = none := by
  obtain ⟨s, h1, h2⟩ := ownAt_some e
  obtain ⟨ov, e1, e2⟩ := r.sl i s h1
  obtain ⟨v, rfl, h⟩ := e2.own h2
  exact ⟨v, e1, h⟩
theorem rd_flat {t : Tr} {fp : List Addr} (h : Ow K F H t v fp) (e : t.flat = some d) : RdV K F H v d := by
  cases t with
  | d x => cases e; exact .inl (Ow.d_iff.mp h).2
  | o sh ts =>
    obtain ⟨p, h0, vs, fq, rfl, rfl, hp, ho, r⟩ := Ow.o_iff.mp h
    have e : (flats ts).map sh.dat = some d := e
    cases q : flats ts with
    | none => rw [q] at e; cases e
    | some ds =>
      rw [q] at e
      cases e
      exact .inr ⟨sh, p, h0, vs, ds, rfl, rfl, hp, ho, reps_flats r q⟩
theorem rd_of (r : Rl K Γ F H σ δ) (h : VlOk K F σ v x) (e : resO δ x = some d) : RdV K F H v d := by
  cases x with
  | im d' => cases e; exact .inl h
  | sl i =>
    have h1 : σ[i]? = some (some v) := h
    have e : (ownAt δ i).bind Tr.flat = some d := e
    cases q : ownAt δ i with
    | none => rw [q] at e; cases e
    | some t =>
      rw [q] at e
      obtain ⟨φ, r⟩ := r
      obtain ⟨w, e1, o, _⟩ := r.own q
      rw [h1] at e1
      cases e1
      exact rd_flat o e
theorem RdV.int {i : Int} (h : RdV K F H v (.int i)) : v = .int i := by
  rcases h with h | ⟨sh, _, _, _, _, _, e, _⟩
  · exact Rep.int_iff.mp h
  · cases sh <;> cases e
theorem RdV.bl {b : Bool} (h : RdV K F H v (.bl b)) : v = .bl b := by
  rcases h with h | ⟨sh, _, _, _, _, _, e, _⟩
  · simpa only [Rep] using h
  · cases sh <;> cases e
theorem RdV.str {s : Str} (h : RdV K F H v (.str s)) : v = .str s := by
  rcases h with h | ⟨sh, _, _, _, _, _, e, _⟩
  · simpa only [Rep] using h
  · cases sh <;> cases e
theorem RdV.non (h : RdV K F H v .non) : v = .non := by
  rcases h with h | ⟨sh, _, _, _, _, _, e, _⟩
  · simpa only [Rep] using h
  · cases sh <;> cases e
theorem Same.rdL {p : Addr} {vs : List V} (s : Same F H) (h : SqL K F p vs) : SqL K H p vs := s.seq h
theorem RdV.lst {ds : List D} (s : Same F H) (h : RdV K F H v (.lst ds)) : ∃ p vs, v = .ref p ∧ H p = some (.lst vs) ∧ Reps K F ds vs := by
  rcases h with h | ⟨sh, p, h0, vs, es, rfl, e, hp, ho, hr⟩
  · obtain ⟨p, vs, e, q, r⟩ := Rep.lst_iff.mp h
    exact ⟨p, vs, e, s _ _ q, r⟩
  · cases sh <;> cases e
    exact ⟨p, vs, rfl, by rw [hp, show h0 = .lst vs from ho], hr⟩
theorem RdV.scr {ns : List Int} (s : Same F H) (h : RdV K F H v (.scr ns)) : ∃ p, v = .ref p ∧ SqL K H p (ns.map V.int) := by
  rcases h with h | ⟨sh, _, _, _, _, _, e, _⟩
  · obtain ⟨p, e, q⟩ := Rep.scr_iff.mp h
    exact ⟨p, e, s.seq q⟩
  · cases sh <;> cases e
theorem RdV.tup {ds : List D} (s : Same F H) (h : RdV K F H v (.tup ds)) : ∃ p vs, v = .ref p ∧ SqT K H p vs ∧ Reps K F ds vs := by
  rcases h with h | ⟨sh, _, _, _, _, _, e, _⟩
  · obtain ⟨p, vs, e, q, r⟩ := Rep.tup_iff.mp h
    exact ⟨p, vs, e, SqT.of (s _ _ q), r⟩
  · cases sh <;> cases e
theorem RdV.tupD {ds : List D} (s : Same F H) (h : RdV K F H v (.tup ds)) : ∃ p vs, v = .ref p ∧ H p = some (.tup vs) ∧ Reps K F ds vs := by
  rcases h with h | ⟨sh, _, _, _, _, _, e, _⟩
  · obtain ⟨p, vs, e, q, r⟩ := Rep.tup_iff.mp h
    exact ⟨p, vs, e, s _ _ q, r⟩
  · cases sh <;> cases e
theorem RdV.ktp {ds : List D} (s : Same F H) (h : RdV K F H v (.ktp ds)) : ∃ p vs, v = .ref p ∧ SqT K H p vs ∧ Reps K F ds vs := by
  rcases h with h | ⟨sh, _, _, _, _, _, e, _⟩
  · obtain ⟨p, vs, e, q, r⟩ := Rep.ktp_iff.mp h
    exact ⟨p, vs, e, Same.seqT s q, r⟩
  · cases sh <;> cases e
theorem RdV.ins {C : Addr} {ns : List Str} {ds : List D} (s : Same F H) (h : RdV K F H v (.ins C ns ds)) : ∃ a dx vs, v = .ref a ∧ H a = some (.ins C dx (ns.zip vs)) ∧ ns.length = ds.length ∧ Reps K F ds vs := by
  rcases h with h | ⟨sh, p, h0, vs, es, rfl, e, hp, ho, hr⟩
  · obtain ⟨a, dx, vs, e, q, l, r⟩ := Rep.ins_iff.mp h
    exact ⟨a, dx, vs, e, s _ _ q, l, r⟩
  · cases sh <;> cases e
    obtain ⟨dx, rfl, l⟩ := ho
    exact ⟨p, dx, vs, rfl, hp, by rw [hr.length]; exact l, hr⟩
theorem RdV.dK {ks : List Key} {ds : List D} (s : Same F H) (h : RdV K F H v (.dK ks ds)) : ∃ a vs, v = .ref a ∧ H a = some (.dK (ks.zip vs)) ∧ ks.length = ds.length ∧ Reps K F ds vs := by
  rcases h with h | ⟨sh, p, h0, vs, es, rfl, e, hp, ho, hr⟩
  · obtain ⟨a, vs, e, q, l, r⟩ := Rep.dK_iff.mp h
    exact ⟨a, vs, e, s _ _ q, l, r⟩
  · cases sh <;> cases e
    obtain ⟨rfl, l⟩ := ho
    exact ⟨p, vs, rfl, hp, by rw [hr.length]; exact l, hr⟩
theorem RdV.dT {ks : List (List Key)} {ds : List D} (s : Same F H) (h : RdV K F H v (.dT ks ds)) : ∃ a vs, v = .ref a ∧ H a = some (.dT (ks.zip vs)) ∧ ks.length = ds.length ∧ Reps K F ds vs := by
  rcases h with h | ⟨sh, p, h0, vs, es, rfl, e, hp, ho, hr⟩
  · obtain ⟨a, vs, e, q, l, r⟩ := Rep.dT_iff.mp h
    exact ⟨a, vs, e, s _ _ q, l, r⟩
  · cases sh <;> cases e
    obtain ⟨rfl, l⟩ := ho
    exact ⟨p, vs, rfl, hp, by rw [hr.length]; exact l, hr⟩
theorem RdV.mono (g : Gr F H F' H') (h : RdV K F H v d) : RdV K F' H' v d := by
  rcases h with h | ⟨sh, p, h0, vs, ds, rfl, rfl, hp, ho, hr⟩
  · exact .inl (h.mono g.f)
  · exact .inr ⟨sh, p, h0, vs, ds, rfl, rfl, by rw [g.h p (by rw [hp]; simp)]; exact hp, ho, hr.mono g.f⟩
end
/-- Q wants d, of a frozen part that may have grown -/
def Want (K : PySem.W.Frag) (F H : Hp) (d : D) (Q : VK) : Prop := ∀ v F' H', Gr F H F' H' → Rep K F' d v → Q v H'
theorem Want.here {K : PySem.W.Frag} {F H : Hp} {d : D} {Q : VK} (s : Same F H) (w : Want K F H d Q) {v : V} (h : Rep K F d v) : Q v H := w v F H (Gr.refl s) h
/-! ### judgements -/
abbrev ME := List Sl → R (Vl × List Sl)
abbrev MT := List Sl → R (Bool × List Sl)
abbrev MA := List Sl → R (List Vl × List Sl)
/-- an own new list -/
abbrev MO := List Sl → R (Tr × List Sl)
def EvE (K : PySem.W.Frag) (Γ : Fm) (W : WX) (t : TE) (m : ME) : Prop := ∀ (δ : List Sl) (σ : L2.St) (F H : Hp) (Q : VK), Rl K Γ F H σ δ →
  Gd K Γ W (m δ) (fun r => ∀ v F' H', Rl K Γ F' H' σ r.2 → Same F F' → VlOk K F' σ v r.1 → Q v H') → t σ H Q
def EvT (K : PySem.W.Frag) (Γ : Fm) (W : WX) (t : TT) (m : MT) : Prop := ∀ (δ : List Sl) (σ : L2.St) (F H : Hp) (Q : Bool → Hp → Prop), Rl K Γ F H σ δ →
  Gd K Γ W (m δ) (fun r => ∀ F' H', Rl K Γ F' H' σ r.2 → Same F F' → Q r.1 H') → t σ H Q
def VlsOk (K : PySem.W.Frag) (F : Hp) (σ : L2.St) : List V → List Vl → Prop
  | [], [] => True
  | v :: vs, x :: xs => VlOk K F σ v x ∧ VlsOk K F σ vs xs
  | _, _ => False
theorem VlsOk.mono {K : PySem.W.Frag} {F F' : Hp} {σ : L2.St} (s : Same F F') : ∀ {vs : List V} {xs : List Vl}, VlsOk K F σ vs xs → VlsOk K F' σ vs xs
  | [], [], _ => trivial
  | v :: vs, x :: xs, h => ⟨h.1.mono s, VlsOk.mono s h.2⟩
  | [], _ :: _, h => h.elim
  | _ :: _, [], h => h.elim
def EvA (K : PySem.W.Frag) (Γ : Fm) (W : WX) (t : TA) (m : MA) : Prop := ∀ (δ : List Sl) (σ : L2.St) (F H : Hp) (Q : List V → Hp → Prop), Rl K Γ F H σ δ →
  Gd K Γ W (m δ) (fun r => ∀ vs F' H', Rl K Γ F' H' σ r.2 → Same F F' → VlsOk K F' σ vs r.1 → Q vs H') → t σ H Q
/-- new things of our own, not yet in a slot -/
structure OwNs (K : PySem.W.Frag) (Γ : Fm) (F H : Hp) (σ : L2.St) (δ : List Sl) (vs : List V) (ts : List Tr) : Prop where
  ex : ∃ φ fp, RlP K Γ F H σ δ φ ∧ Ows K F H ts vs fp ∧ fp.Nodup ∧ (∀ a ∈ fp, F a = none ∧ (Γ.H0 a = none ∨ Γ.M a)) ∧ ∀ i a, a ∈ φ i → a ∉ fp
structure OwN (K : PySem.W.Frag) (Γ : Fm) (F H : Hp) (σ : L2.St) (δ : List Sl) (v : V) (t : Tr) : Prop where
  ex : ∃ φ fp, RlP K Γ F H σ δ φ ∧ Ow K F H t v fp ∧ fp.Nodup ∧ (∀ a ∈ fp, F a = none ∧ (Γ.H0 a = none ∨ Γ.M a)) ∧ ∀ i a, a ∈ φ i → a ∉ fp
def EvO (K : PySem.W.Frag) (Γ : Fm) (W : WX) (t : TE) (m : MO) : Prop := ∀ (δ : List Sl) (σ : L2.St) (F H : Hp) (Q : VK), Rl K Γ F H σ δ →
  Gd K Γ W (m δ) (fun r => ∀ v F' H', OwN K Γ F' H' σ r.2 v r.1 → Same F F' → Q v H') → t σ H Q
structure JE (X : Cx) (W : WX) (e : Expr) (m : ME) : Prop where
  ex : ∃ t, PE X e t ∧ ∀ Γ, EvE X.K Γ W t m
structure JT (X : Cx) (W : WX) (e : Expr) (m : MT) : Prop where
  ex : ∃ t, PT X e t ∧ ∀ Γ, EvT X.K Γ W t m
/-- a test within and, or -/
structure JW (X : Cx) (W : WX) (e : Expr) (m : MT) : Prop where
  ex : ∃ t, PW X e t ∧ ∀ Γ, EvT X.K Γ W t m
structure JA (X : Cx) (W : WX) (es : List Expr) (m : MA) : Prop where
  ex : ∃ t, PA X es t ∧ ∀ Γ, EvA X.K Γ W t m
structure JO (X : Cx) (W : WX) (e : Expr) (m : MO) : Prop where
  ex : ∃ t, PE X e t ∧ ∀ Γ, EvO X.K Γ W t m
/-! ### names, constants -/
section
variable {X : Cx} {W : WX} {K : PySem.W.Frag} {Γ : Fm} {F H : Hp} {σ : L2.St} {δ : List Sl}
def mC (d : D) : ME := fun δ => .ok (.im d, δ)
theorem evC {d : D} {v : V} (h : ∀ F, Rep K F d v) : EvE K Γ W (tC v) (mC d) := fun δ σ F H Q r g => g v F H r (Same.refl _) (h F)
theorem je_int {i : Int} {j pos} : JE X W (.Constant (.int i) j pos) (mC (.int i)) := ⟨_, pe_int, fun Γ => evC fun F => by simp only [Rep]⟩
theorem je_bl {b : Bool} {j pos} : JE X W (.Constant (.bool b) j pos) (mC (.bl b)) := ⟨_, pe_bl, fun Γ => evC fun F => by simp only [Rep]⟩
theorem je_non {j pos} : JE X W (.Constant .none j pos) (mC .non) := ⟨_, pe_non, fun Γ => evC fun F => by simp only [Rep]⟩
theorem je_str {x : Str} {j pos} : JE X W (.Constant (.str x) j pos) (mC (.str x)) := ⟨_, pe_str, fun Γ => evC fun F => by simp only [Rep]⟩
/-- a constant of the module: d its data -/
theorem je_glob {x : Str} {v : V} {u : Value} {d : D} {pos : Pos} (hg : Gl X x) (hm : X.mg x = some u) (r : RelV v u) (h : ∀ F, Rep X.K F d v) (hd : (x == ("__debug__" : Str)) = false := by decide) : JE X W (.Name x pos) (mC d) :=
  ⟨_, pe_glob hg hm r hd, fun Γ => evC h⟩
def mV (i : Nat) : ME := fun δ => match δ[i]? with
  | some (.im d) => .ok (.im d, δ)
  | some (.ow _) => .ok (.sl i, δ)
  | some (.io _) => .ok (.sl i, δ)
  | _ => .bad
theorem evV (i : Nat) : EvE K Γ W (tVar i) (mV i) := fun δ σ F H Q r g => by
  unfold mV at g
  cases hs : δ[i]? with
  | none => rw [hs] at g; exact g.elim
  | some s =>
    rw [hs] at g
    obtain ⟨ov, fp, e1, e2⟩ := r.sl' hs
    cases s with
    | un => exact g.elim
    | im d =>
      obtain ⟨_, v, rfl, h⟩ := e2
      exact ⟨v, e1, g v F H r (Same.refl _) h⟩
    | ow ds =>
      obtain ⟨v, rfl, _⟩ := e2
      exact ⟨_, e1, g _ F H r (Same.refl _) e1⟩
    | io ds =>
      obtain ⟨v, rfl, _⟩ := e2
      exact ⟨_, e1, g _ F H r (Same.refl _) e1⟩
theorem je_var (i : Nat) {x : Str} {pos : Pos} (hN : X.N[i]? = some x := by rfl) (hv : Vis X.env.scope x := by first | exact Or.inl rfl | exact Or.inr (Or.inl rfl) | exact Or.inr (Or.inr rfl)) (hd : (x == ("__debug__" : Str)) = false := by decide)
    (hcd : (x == ("__classdict__" : Str)) = false := by decide) : JE X W (.Name x pos) (mV i) := ⟨_, pe_var hN hv hd hcd, fun Γ => evV i⟩
/-- an own thing is frozen -/
theorem Rl.freeze {i : Nat} {t : Tr} (r : Rl K Γ F H σ δ) (hi : δ[i]? = some (.ow t)) :
    ∃ v F', σ[i]? = some (some v) ∧ Rl K Γ F' H σ (δ.set i (.im t.dat)) ∧ Same F F' ∧ Rep K F' t.dat v := by
  obtain ⟨φ, r⟩ := r
  obtain ⟨ov, e1, v, rfl, o, n, z⟩ := r.sl i _ hi
  have h0 : ∀ a ∈ φ i, F a = none := fun a ha => (z a ha).1
  have rp := o.rep h0 fun a ha => ha
  exact ⟨v, frz F H (φ i), e1, ⟨_, r.set1 (fp := []) (w := some v) (t := .im t.dat) hi (frz_sub r.sub) (frz_same h0) rfl e1 (fun _ _ => rfl) (fun _ _ _ => rfl) (fun a ha q => frz_out fun z => q z t rfl) (fun _ h => h) ⟨rfl, v, rfl, rp⟩ (fun a ha => by cases ha)⟩, frz_same h0, rp⟩
/-- a name whose own thing is handed on for good -/
def mM (i : Nat) : ME := fun δ => match δ[i]? with
  | some (.im d) => .ok (.im d, δ)
  | some (.ow t) => .ok (.im t.dat, δ.set i (.im t.dat))
  | _ => .bad
theorem evM (i : Nat) : EvE K Γ W (tVar i) (mM i) := fun δ σ F H Q r g => by
  unfold mM at g
  cases hs : δ[i]? with
  | none => rw [hs] at g; exact g.elim
  | some s =>
    rw [hs] at g
    cases s with
    | un => exact g.elim
    | io ds => exact g.elim
    | im d =>
      obtain ⟨ov, fp, e1, _, v, rfl, h⟩ := r.sl' hs
      exact ⟨v, e1, g v F H r (Same.refl _) h⟩
    | ow t =>
      obtain ⟨v, F', e1, r', s1, rp⟩ := r.freeze hs
      exact ⟨_, e1, g _ _ H r' s1 rp⟩
theorem je_mv (i : Nat) {x : Str} {pos : Pos} (hN : X.N[i]? = some x := by rfl) (hv : Vis X.env.scope x := by first | exact Or.inl rfl | exact Or.inr (Or.inl rfl) | exact Or.inr (Or.inr rfl)) (hd : (x == ("__debug__" : Str)) = false := by decide)
    (hcd : (x == ("__classdict__" : Str)) = false := by decide) : JE X W (.Name x pos) (mM i) := ⟨_, pe_var hN hv hd hcd, fun Γ => evM i⟩
/-! ### own new things -/
theorem OwN.rl {v : V} {t : Tr} (o : OwN K Γ F H σ δ v t) : Rl K Γ F H σ δ := let ⟨φ, _, r, _⟩ := o.ex; ⟨φ, r⟩
theorem OwNs.rl {v : List V} {t : List Tr} (o : OwNs K Γ F H σ δ v t) : Rl K Γ F H σ δ := let ⟨φ, _, r, _⟩ := o.ex; ⟨φ, r⟩
theorem Rl.ims {ds : List D} {vs : List V} (r : Rl K Γ F H σ δ) (h : Reps K F ds vs) : OwNs K Γ F H σ δ vs (ds.map .d) := by
  obtain ⟨φ, r⟩ := r
  exact ⟨φ, [], r, Ows.ims h, List.nodup_nil, (fun a ha => by cases ha), (fun i a _ h => by cases h)⟩
theorem Rl.im {d : D} {v : V} (r : Rl K Γ F H σ δ) (h : Rep K F d v) : OwN K Γ F H σ δ v (.d d) := by
  obtain ⟨φ, r⟩ := r
  exact ⟨φ, [], r, Ow.im h, List.nodup_nil, (fun a ha => by cases ha), (fun i a _ h => by cases h)⟩
theorem OwN.one {v : V} {t : Tr} (o : OwN K Γ F H σ δ v t) : OwNs K Γ F H σ δ [v] [t] := by
  obtain ⟨φ, fp, a, b, c⟩ := o.ex
  refine ⟨φ, fp, a, ?_, c⟩
  have := Ows.cons b (Ows.nil (K := K) (F := F) (H := H))
  rwa [List.append_nil] at this
theorem OwN.gr {v : V} {t : Tr} {F' H' : Hp} (o : OwN K Γ F H σ δ v t) (g : Gr F H F' H') : OwN K Γ F' H' σ δ v t := by
  obtain ⟨φ, fp, a, b, c, d, e⟩ := o.ex
  exact ⟨φ, fp, a.gr g, b.mono g.f fun x hx => g.h x (b.there x hx), c, fun x hx => ⟨(g.z x (b.there x hx)).trans (d x hx).1, (d x hx).2⟩, e⟩
theorem Gr.own {H : Hp} {p : Addr} {h : HO} (s : Same F H) (hp : H p = none) : Gr F H F (upd H p h) :=
  ⟨Same.refl _, fun a u e => by rw [upd_ne (ne_of_none e (sub_none s hp))]; exact s a u e, fun a ha => upd_ne (fun z => ha (by rw [z]; exact hp)), fun _ _ => rfl⟩
/-- a new thing of our own of new parts -/
theorem OwNs.mk' {p : Addr} {sh : Sh} {h : HO} {ts : List Tr} {vs : List V} (o : OwNs K Γ F H σ δ vs ts) (hp : H p = none) (ho : sh.ho vs h) : OwN K Γ F (upd H p h) σ δ (.ref p) (.o sh ts) := by
  obtain ⟨φ, fp, r, a, b, c, d⟩ := o.ex
  have g : Gr F H F (upd H p h) := Gr.own r.sub hp
  have np : p ∉ fp := fun z => a.there p z hp
  refine ⟨φ, p :: fp, r.gr g, Ow.o_iff.mpr ⟨p, h, vs, fp, rfl, rfl, upd_same, ho, a.mono (Same.refl _) fun x hx => upd_ne fun z => np (by rw [← z]; exact hx)⟩, List.nodup_cons.mpr ⟨np, b⟩, fun x hx => ?_, fun i x hx hm => ?_⟩
  · rcases List.mem_cons.mp hx with rfl | hx
    · exact ⟨sub_none r.sub hp, .inl (r.fresh hp)⟩
    · exact c x hx
  · rcases List.mem_cons.mp hm with rfl | hm
    · exact (r.inn hx).1 hp
    · exact d i x hx hm
theorem Rl.newL {p : Addr} {ds : List D} {vs : List V} (r : Rl K Γ F H σ δ) (hp : H p = none) (hr : Reps K F ds vs) : OwN K Γ F (upd H p (.lst vs)) σ δ (.ref p) (lsT ds) := (r.ims hr).mk' hp rfl
theorem OwN.freeze {v : V} {t : Tr} (o : OwN K Γ F H σ δ v t) : ∃ F', Rl K Γ F' H σ δ ∧ Same F F' ∧ Rep K F' t.dat v := by
  obtain ⟨φ, fp, r, a, b, c, d⟩ := o.ex
  have h0 : ∀ x ∈ fp, F x = none := fun x hx => (c x hx).1
  have rp := a.rep h0 fun x hx => hx
  have f := frz_same (H := H) h0
  refine ⟨frz F H fp, ⟨φ, frz_sub r.sub, r.grow.trans f, r.old, r.mH, fun x hx hm => ?_, r.ioH, r.len, fun i s e => ?_, r.nil, r.sep⟩, f, rp⟩
  · rw [frz_out]
    · exact r.fz x hx hm
    · intro z
      rcases (c x z).2 with q | q
      · exact hx q
      · exact hm q
  · obtain ⟨ov, e1, e2⟩ := r.sl i s e
    exact ⟨ov, e1, e2.keep f fun x hx => ⟨rfl, frz_out (d i x hx)⟩⟩
def mFz (m : MO) : ME := fun δ => m δ >>= fun r => .ok (.im r.1.dat, r.2)
theorem EvO.fz {t : TE} {m : MO} (h : EvO K Γ W t m) : EvE K Γ W t (mFz m) := fun δ σ F H Q r g => by
  refine h δ σ F H Q r ((Gd.bind.mp g).mono fun a ha v F1 H1 o s1 => ?_)
  obtain ⟨F2, r2, s2, rp⟩ := o.freeze
  exact ha _ _ H1 r2 (s1.trans s2) rp
theorem JO.fz {e : Expr} {m : MO} (h : JO X W e m) : JE X W e (mFz m) := by
  obtain ⟨t, h1, h2⟩ := h.ex
  exact ⟨t, h1, fun Γ => (h2 Γ).fz⟩
/-- data as a thing of our own -/
def mIm (m : ME) : MO := fun δ => m δ >>= fun r => match r.1 with
  | .im d => .ok (.d d, r.2)
  | .sl _ => .bad
theorem EvE.o {t : TE} {m : ME} (h : EvE K Γ W t m) : EvO K Γ W t (mIm m) := fun δ σ F H Q r g => by
  refine h δ σ F H Q r ((Gd.bind.mp g).mono fun a ha v F1 H1 r1 s1 hv => ?_)
  obtain ⟨x, δ1⟩ := a
  cases x with
  | sl i => exact ha.elim
  | im d => exact ha v F1 H1 (r1.im hv) s1
theorem JE.o {e : Expr} {m : ME} (h : JE X W e m) : JO X W e (mIm m) := by
  obtain ⟨t, h1, h2⟩ := h.ex
  exact ⟨t, h1, fun Γ => (h2 Γ).o⟩
/-! ### two-place operations -/
def BinD (K : PySem.W.Frag) (r : R2) (op : D → D → Option D) : Prop := ∀ (F H : Hp) (x y : V) (dx dy d : D) (Q : VK), Same F H → RdV K F H x dx → RdV K F H y dy → op dx dy = some d → Want K F H d Q → r x y H Q
def mBin (op : D → D → Option D) (ma mb : ME) : ME := fun δ => ma δ >>= fun p => mb p.2 >>= fun q => R.ofO (resO q.2 p.1) >>= fun a => R.ofO (resO q.2 q.1) >>= fun b => R.ofO (op a b) >>= fun d => .ok (.im d, q.2)
theorem evBin {r : R2} {op : D → D → Option D} {ta tb : TE} {ma mb : ME} (ho : BinD K r op) (ha : EvE K Γ W ta ma) (hb : EvE K Γ W tb mb) : EvE K Γ W (tOp r ta tb) (mBin op ma mb) := fun δ σ F H Q hR g => by
  refine ha δ σ F H _ hR ((Gd.bind.mp g).mono fun p gp x F1 H1 R1 s1 vx => ?_)
  refine hb p.2 σ F1 H1 _ R1 ((Gd.bind.mp gp).mono fun q gq y F2 H2 R2 s2 vy => ?_)
  obtain ⟨a, ea, gq⟩ := Gd.obind gq
  obtain ⟨b, eb, gq⟩ := Gd.obind gq
  obtain ⟨d, ed, gq⟩ := Gd.obind gq
  exact ho F2 H2 x y a b d Q R2.sub (rd_of R2 (vx.mono s2) ea) (rd_of R2 vy eb) ed fun v F3 H3 g3 rv => gq v F3 H3 (R2.gr g3) (s1.trans (s2.trans g3.f)) rv
/-- a, b in a row, their value an own new list -/
def BinO (K : PySem.W.Frag) (r : R2) (op : D → D → Option (List D)) : Prop := ∀ (F H : Hp) (x y : V) (dx dy : D) (ds : List D) (Q : VK), Same F H → RdV K F H x dx → RdV K F H y dy → op dx dy = some ds →
  (∀ p vs, H p = none → Reps K F ds vs → Q (.ref p) (upd H p (.lst vs))) → r x y H Q
def mBinO (op : D → D → Option (List D)) (ma mb : ME) : MO := fun δ => ma δ >>= fun p => mb p.2 >>= fun q => R.ofO (resO q.2 p.1) >>= fun a => R.ofO (resO q.2 q.1) >>= fun b => R.ofO (op a b) >>= fun d => .ok (lsT d, q.2)
theorem evBinO {r : R2} {op : D → D → Option (List D)} {ta tb : TE} {ma mb : ME} (ho : BinO K r op) (ha : EvE K Γ W ta ma) (hb : EvE K Γ W tb mb) : EvO K Γ W (tOp r ta tb) (mBinO op ma mb) := fun δ σ F H Q hR g => by
  refine ha δ σ F H _ hR ((Gd.bind.mp g).mono fun p gp x F1 H1 R1 s1 vx => ?_)
  refine hb p.2 σ F1 H1 _ R1 ((Gd.bind.mp gp).mono fun q gq y F2 H2 R2 s2 vy => ?_)
  obtain ⟨a, ea, gq⟩ := Gd.obind gq
  obtain ⟨b, eb, gq⟩ := Gd.obind gq
  obtain ⟨d, ed, gq⟩ := Gd.obind gq
  refine ho F2 H2 x y a b d Q R2.sub (rd_of R2 (vx.mono s2) ea) (rd_of R2 vy eb) ed fun p vs hp hr => ?_
  exact gq _ F2 _ (R2.newL hp hr) (s1.trans s2)
variable {a b c : Expr} {ma mb mc : ME} {pos : Pos}
theorem je_op {op : Operator} {r : R2} {f : D → D → Option D} (ho : OpR X (binaryOp op) r) (hd : BinD X.K r f) (ha : JE X W a ma) (hb : JE X W b mb) : JE X W (.BinOp a op b pos) (mBin f ma mb) := by
  obtain ⟨ta, pa, ea⟩ := ha.ex
  obtain ⟨tb, pb, eb⟩ := hb.ex
  exact ⟨_, pe_op ho pa pb, fun Γ => evBin hd (ea Γ) (eb Γ)⟩
theorem jo_op {op : Operator} {r : R2} {f : D → D → Option (List D)} (ho : OpR X (binaryOp op) r) (hd : BinO X.K r f) (ha : JE X W a ma) (hb : JE X W b mb) : JO X W (.BinOp a op b pos) (mBinO f ma mb) := by
  obtain ⟨ta, pa, ea⟩ := ha.ex
  obtain ⟨tb, pb, eb⟩ := hb.ex
  exact ⟨_, pe_op ho pa pb, fun Γ => evBinO hd (ea Γ) (eb Γ)⟩
theorem je_cmp {op : CmpOp} {r : R2} {f : D → D → Option D} (ho : OpR X (compareOp op) r) (hd : BinD X.K r f) (ha : JE X W a ma) (hb : JE X W b mb) (hm : behindInMarks op b = false := by rfl) : JE X W (.Compare a [op] [b] pos) (mBin f ma mb) := by
  obtain ⟨ta, pa, ea⟩ := ha.ex
  obtain ⟨tb, pb, eb⟩ := hb.ex
  exact ⟨_, pe_cmpR ho pa pb hm, fun Γ => evBin hd (ea Γ) (eb Γ)⟩
theorem je_ix {r : R2} {f : D → D → Option D} (hr : IxR X r) (hd : BinD X.K r f) (ha : JE X W a ma) (hb : JE X W b mb) (hs : PlainIx b := by exact fun _ _ => rfl) : JE X W (.Subscript a b pos) (mBin f ma mb) := by
  obtain ⟨ta, pa, ea⟩ := ha.ex
  obtain ⟨tb, pb, eb⟩ := hb.ex
  exact ⟨_, pe_ix hr pa pb hs, fun Γ => evBin hd (ea Γ) (eb Γ)⟩
/-! ### one-place operations -/
def UnD (K : PySem.W.Frag) (r : V → Hp → VK → Prop) (op : D → Option D) : Prop := ∀ (F H : Hp) (x : V) (dx d : D) (Q : VK), Same F H → RdV K F H x dx → op dx = some d → Want K F H d Q → r x H Q
def mUn (op : D → Option D) (ma : ME) : ME := fun δ => ma δ >>= fun p => R.ofO (resO p.2 p.1) >>= fun a => R.ofO (op a) >>= fun d => .ok (.im d, p.2)
theorem evUn {r : V → Hp → VK → Prop} {op : D → Option D} {ta : TE} {ma : ME} (ho : UnD K r op) (ha : EvE K Γ W ta ma) : EvE K Γ W (tUn r ta) (mUn op ma) := fun δ σ F H Q hR g => by
  refine ha δ σ F H _ hR ((Gd.bind.mp g).mono fun p gp x F1 H1 R1 s1 vx => ?_)
  obtain ⟨a, ea, gq⟩ := Gd.obind gp
  obtain ⟨d, ed, gq⟩ := Gd.obind gq
  exact ho F1 H1 x a d Q R1.sub (rd_of R1 vx ea) ed fun v F3 H3 g3 rv => gq v F3 H3 (R1.gr g3) (s1.trans g3.f) rv
theorem je_un {op : UnaryOp} {r : V → Hp → VK → Prop} {f : D → Option D} (ho : UnR X (unaryOp op) r) (hd : UnD X.K r f) (ha : JE X W a ma) : JE X W (.UnaryOp op a pos) (mUn f ma) := by
  obtain ⟨ta, pa, ea⟩ := ha.ex
  exact ⟨_, pe_un ho pa, fun Γ => evUn hd (ea Γ)⟩
end
end GX
/-! GX3: tests, arguments, calls of builtins and methods, fields. -/
namespace GX
open PySem PySem.Spec PyProof.Rows L2
section
variable {X : Cx} {W : WX} {K : PySem.W.Frag} {Γ : Fm} {F H : Hp} {σ : L2.St} {δ : List Sl}
variable {a b c e : Expr} {ma mb mc m : ME} {pos : Pos} {ta tb te : TE} {es : List Expr}
/-! ### tests -/
def mB (m : ME) : MT := fun δ => m δ >>= fun p => match p.1 with
  | .im (.bl k) => .ok (k, p.2)
  | _ => .bad
theorem evB (h : EvE K Γ W te m) : EvT K Γ W (tB te) (mB m) := fun δ σ F H Q hR g => by
  refine h δ σ F H _ hR ((Gd.bind.mp g).mono fun p gp x F1 H1 R1 s1 vx => ?_)
  obtain ⟨v, δ1⟩ := p
  cases v with
  | sl i => exact gp.elim
  | im d =>
    cases d with
    | bl k => exact ⟨k, (RdV.bl (F := F1) (H := H1) (K := K) (.inl vx)), gp F1 H1 R1 s1⟩
    | _ => exact gp.elim
theorem evTest (h : EvE K Γ W te m) : EvT K Γ W (tTest te) (mB m) := evB h
theorem jt_val (h : JE X W e m) (he : ∀ whole, isTrue e X.env whole = (do let v ← whole; standAt e.pos; holding [v] (truthy v)) := by intro _; rfl) : JT X W e (mB m) := by
  obtain ⟨t, p, q⟩ := h.ex
  exact ⟨_, pt_val p he, fun Γ => evB (q Γ)⟩
theorem jt_cmp {op : CmpOp} {r : R2} {f : D → D → Option D} (ho : OpR X (compareOp op) r) (hd : BinD X.K r f) (ha : JE X W a ma) (hb : JE X W b mb) (hm : behindInMarks op b = false := by rfl) : JT X W (.Compare a [op] [b] pos) (mB (mBin f ma mb)) := by
  obtain ⟨ta, pa, ea⟩ := ha.ex
  obtain ⟨tb, pb, eb⟩ := hb.ex
  exact ⟨_, pt_cmpR ho pa pb hm, fun Γ => evTest (evBin hd (ea Γ) (eb Γ))⟩
/-- a value's truth -/
def truD : D → Option Bool
  | .non => some false
  | .bl b => some b
  | .int i => some (i != 0)
  | .str s => if s.length ≤ sizeLine then some (s.length != 0) else none
  | .lst ds => some (!ds.isEmpty)
  | .tup ds => some (!ds.isEmpty)
  | .ktp ds => some (!ds.isEmpty)
  | _ => none
theorem tru_of {x : V} {d : D} {k : Bool} (s : Same F H) (h : RdV K F H x d) (e : truD d = some k) : TruV K x H k := by
  cases d with
  | non => cases e; rw [h.non]; rfl
  | bl b => cases e; rw [h.bl]; rfl
  | int i => cases e; rw [h.int]; rfl
  | str z =>
    rw [h.str]
    have e : (if z.length ≤ sizeLine then some (z.length != 0) else none) = some k := e
    split at e
    · rename_i hz
      cases e
      refine ⟨hz, ?_⟩
      by_cases h0 : z.length = 0
      · rw [h0]; rfl
      · have h1 : ((z.length : Int) == 0) = false := beq_false_of_ne (by omega)
        have h2 : (z.length == 0) = false := beq_false_of_ne h0
        show (!(z.length == 0)) = (!((z.length : Int) == 0))
        rw [h1, h2]
    · cases e
  | lst ds =>
    cases e
    obtain ⟨p, vs, rfl, q, r⟩ := h.lst s
    refine .inl ⟨vs, SqL.of q, ?_⟩
    have := r.length
    cases ds <;> cases vs <;> simp_all
  | tup ds =>
    cases e
    obtain ⟨p, vs, rfl, q, r⟩ := h.tup s
    refine .inr (.inl ⟨vs, q, ?_⟩)
    have := r.length
    cases ds <;> cases vs <;> simp_all
  | ktp ds =>
    cases e
    obtain ⟨p, vs, rfl, q, r⟩ := h.ktp s
    refine .inr (.inl ⟨vs, q, ?_⟩)
    have := r.length
    cases ds <;> cases vs <;> simp_all
  | dK _ _ => cases e
  | dT _ _ => cases e
  | ins _ _ _ => cases e
  | scr _ => cases e
def mTr (m : ME) : MT := fun δ => m δ >>= fun p => R.ofO (resO p.2 p.1) >>= fun d => R.ofO (truD d) >>= fun k => .ok (k, p.2)
theorem evTr (h : EvE K Γ W te m) : EvT K Γ W (fun σ H Q => te σ H fun x H' => ∃ k, TruV K x H' k ∧ Q k H') (mTr m) := fun δ σ F H Q hR g => by
  refine h δ σ F H _ hR ((Gd.bind.mp g).mono fun p gp x F1 H1 R1 s1 vx => ?_)
  obtain ⟨d, ed, gq⟩ := Gd.obind gp
  obtain ⟨k, ek, gq⟩ := Gd.obind gq
  exact ⟨k, tru_of R1.sub (rd_of R1 vx ed) ek, gq F1 H1 R1 s1⟩
theorem jt_tr (h : JE X W e m) (he : ∀ whole, isTrue e X.env whole = (do let v ← whole; standAt e.pos; holding [v] (truthy v)) := by intro _; rfl) : JT X W e (mTr m) := by
  obtain ⟨t, p, q⟩ := h.ex
  exact ⟨_, pt_truth p he, fun Γ => evTr (q Γ)⟩
def mNot (m : MT) : MT := fun δ => m δ >>= fun p => .ok (!p.1, p.2)
theorem jt_not {m : MT} (h : JT X W a m) : JT X W (.UnaryOp .Not a pos) (mNot m) := by
  obtain ⟨t, p, q⟩ := h.ex
  refine ⟨_, pt_not p, fun Γ δ σ F H Q hR g => ?_⟩
  exact q Γ δ σ F H _ hR ((Gd.bind.mp g).mono fun p gp F1 H1 R1 s1 => gp F1 H1 R1 s1)
def mAnd (m n : MT) : MT := fun δ => m δ >>= fun p => if p.1 = true then n p.2 else .ok (false, p.2)
def mOr (m n : MT) : MT := fun δ => m δ >>= fun p => if p.1 = true then .ok (true, p.2) else n p.2
variable {m1 m2 : MT} {rest : List Expr}
theorem jw_one (h : JT X W a m1) (op : BoolOp) : JW X W (.BoolOp op [a] pos) m1 := by
  obtain ⟨t, p, q⟩ := h.ex
  cases op with
  | And => exact ⟨_, pw_and1 p, q⟩
  | Or => exact ⟨_, pw_or1 p, q⟩
theorem jw_and (h : JT X W a m1) (h2 : JW X W (.BoolOp .And (b :: rest) pos) m2) : JW X W (.BoolOp .And (a :: b :: rest) pos) (mAnd m1 m2) := by
  obtain ⟨t, p, q⟩ := h.ex
  obtain ⟨t2, p2, q2⟩ := h2.ex
  refine ⟨_, pw_and p p2, fun Γ δ σ F H Q hR g => ?_⟩
  refine q Γ δ σ F H _ hR ((Gd.bind.mp g).mono fun p gp F1 H1 R1 s1 => ?_)
  obtain ⟨k, δ1⟩ := p
  cases k with
  | true => exact q2 Γ δ1 σ F1 H1 _ R1 (Gd.mono gp fun r hr F2 H2 R2 s2 => hr F2 H2 R2 (s1.trans s2))
  | false => exact gp F1 H1 R1 s1
theorem jw_or (h : JT X W a m1) (h2 : JW X W (.BoolOp .Or (b :: rest) pos) m2) : JW X W (.BoolOp .Or (a :: b :: rest) pos) (mOr m1 m2) := by
  obtain ⟨t, p, q⟩ := h.ex
  obtain ⟨t2, p2, q2⟩ := h2.ex
  refine ⟨_, pw_or p p2, fun Γ δ σ F H Q hR g => ?_⟩
  refine q Γ δ σ F H _ hR ((Gd.bind.mp g).mono fun p gp F1 H1 R1 s1 => ?_)
  obtain ⟨k, δ1⟩ := p
  cases k with
  | false => exact q2 Γ δ1 σ F1 H1 _ R1 (Gd.mono gp fun r hr F2 H2 R2 s2 => hr F2 H2 R2 (s1.trans s2))
  | true => exact gp F1 H1 R1 s1
theorem JW.t (h : JW X W e m1) : JT X W e m1 := by
  obtain ⟨t, p, q⟩ := h.ex
  exact ⟨_, p.pt, q⟩
/-- and, or, not as values, of bools -/
def mAndV (m n : ME) : ME := fun δ => m δ >>= fun p => match p.1 with
  | .im (.bl true) => n p.2
  | .im (.bl false) => .ok (.im (.bl false), p.2)
  | _ => .bad
def mOrV (m n : ME) : ME := fun δ => m δ >>= fun p => match p.1 with
  | .im (.bl false) => n p.2
  | .im (.bl true) => .ok (.im (.bl true), p.2)
  | _ => .bad
theorem je_one (h : JE X W a m) (op : BoolOp) : JE X W (.BoolOp op [a] pos) m := by
  obtain ⟨t, p, q⟩ := h.ex
  exact ⟨_, pe_one p, q⟩
theorem je_and (h : JE X W a ma) (h2 : JE X W (.BoolOp .And (b :: rest) pos) mb) : JE X W (.BoolOp .And (a :: b :: rest) pos) (mAndV ma mb) := by
  obtain ⟨t, p, q⟩ := h.ex
  obtain ⟨t2, p2, q2⟩ := h2.ex
  refine ⟨_, pe_and p p2, fun Γ δ σ F H Q hR g => ?_⟩
  refine q Γ δ σ F H _ hR ((Gd.bind.mp g).mono fun p gp x F1 H1 R1 s1 vx => ?_)
  obtain ⟨v, δ1⟩ := p
  cases v with
  | sl i => exact gp.elim
  | im d =>
    cases d with
    | bl k =>
      refine ⟨k, RdV.bl (K := X.K) (F := F1) (H := H1) (.inl vx), ?_⟩
      cases k with
      | true => exact q2 Γ δ1 σ F1 H1 _ R1 (Gd.mono gp fun r hr v F2 H2 R2 s2 => hr v F2 H2 R2 (s1.trans s2))
      | false => exact gp _ F1 H1 R1 s1 (by show Rep _ _ _ _; simp only [Rep])
    | _ => exact gp.elim
theorem je_or (h : JE X W a ma) (h2 : JE X W (.BoolOp .Or (b :: rest) pos) mb) : JE X W (.BoolOp .Or (a :: b :: rest) pos) (mOrV ma mb) := by
  obtain ⟨t, p, q⟩ := h.ex
  obtain ⟨t2, p2, q2⟩ := h2.ex
  refine ⟨_, pe_or p p2, fun Γ δ σ F H Q hR g => ?_⟩
  refine q Γ δ σ F H _ hR ((Gd.bind.mp g).mono fun p gp x F1 H1 R1 s1 vx => ?_)
  obtain ⟨v, δ1⟩ := p
  cases v with
  | sl i => exact gp.elim
  | im d =>
    cases d with
    | bl k =>
      refine ⟨k, RdV.bl (K := X.K) (F := F1) (H := H1) (.inl vx), ?_⟩
      cases k with
      | false => exact q2 Γ δ1 σ F1 H1 _ R1 (Gd.mono gp fun r hr v F2 H2 R2 s2 => hr v F2 H2 R2 (s1.trans s2))
      | true => exact gp _ F1 H1 R1 s1 (by show Rep _ _ _ _; simp only [Rep])
    | _ => exact gp.elim
def mNotV (m : ME) : ME := fun δ => m δ >>= fun p => match p.1 with
  | .im (.bl k) => .ok (.im (.bl (!k)), p.2)
  | _ => .bad
theorem je_not (h : JE X W a ma) : JE X W (.UnaryOp .Not a pos) (mNotV ma) := by
  obtain ⟨t, p, q⟩ := h.ex
  refine ⟨_, pe_not p, fun Γ δ σ F H Q hR g => ?_⟩
  refine q Γ δ σ F H _ hR ((Gd.bind.mp g).mono fun p gp x F1 H1 R1 s1 vx => ?_)
  obtain ⟨v, δ1⟩ := p
  cases v with
  | sl i => exact gp.elim
  | im d =>
    cases d with
    | bl k => exact ⟨k, RdV.bl (K := X.K) (F := F1) (H := H1) (.inl vx), gp _ F1 H1 R1 s1 (by show Rep _ _ _ _; simp only [Rep])⟩
    | _ => exact gp.elim
/-- a if t else b -/
def mIf (c : MT) (m n : ME) : ME := fun δ => c δ >>= fun p => if p.1 = true then m p.2 else n p.2
theorem je_if (hc : JT X W c m1) (ha : JE X W a ma) (hb : JE X W b mb) : JE X W (.IfExp c a b pos) (mIf m1 ma mb) := by
  obtain ⟨t, p, q⟩ := hc.ex
  obtain ⟨t1, p1, q1⟩ := ha.ex
  obtain ⟨t2, p2, q2⟩ := hb.ex
  refine ⟨_, pe_ifExp p p1 p2, fun Γ δ σ F H Q hR g => ?_⟩
  refine q Γ δ σ F H _ hR ((Gd.bind.mp g).mono fun p gp F1 H1 R1 s1 => ?_)
  obtain ⟨k, δ1⟩ := p
  cases k with
  | true => exact q1 Γ δ1 σ F1 H1 _ R1 (Gd.mono gp fun r hr v F2 H2 R2 s2 => hr v F2 H2 R2 (s1.trans s2))
  | false => exact q2 Γ δ1 σ F1 H1 _ R1 (Gd.mono gp fun r hr v F2 H2 R2 s2 => hr v F2 H2 R2 (s1.trans s2))
/-- a op1 b op2 c -/
def mChain (f g : D → D → Option D) (ma mb mc : ME) : ME := fun δ => ma δ >>= fun p => mb p.2 >>= fun q => match q.1 with
  | .sl _ => .bad
  | .im y => R.ofO (resO q.2 p.1) >>= fun x => R.ofO (f x y) >>= fun k => match k with
    | .bl true => mc q.2 >>= fun r => R.ofO (resO r.2 r.1) >>= fun z => R.ofO (g y z) >>= fun d => .ok (.im d, r.2)
    | .bl false => .ok (.im (.bl false), q.2)
    | _ => .bad
theorem evChain {r r' : R2} {f g : D → D → Option D} {tc : TE} (h1 : BinD K r f) (h2 : BinD K r' g) (ha : EvE K Γ W ta ma) (hb : EvE K Γ W tb mb) (hc : EvE K Γ W tc mc) : EvE K Γ W (tChain r r' ta tb tc) (mChain f g ma mb mc) := fun δ σ F H Q hR gd => by
  refine ha δ σ F H _ hR ((Gd.bind.mp gd).mono fun p gp x F1 H1 R1 s1 vx => ?_)
  refine hb p.2 σ F1 H1 _ R1 ((Gd.bind.mp gp).mono fun q gq y F2 H2 R2 s2 vy => ?_)
  obtain ⟨w, δ2⟩ := q
  cases w with
  | sl i => exact gq.elim
  | im dy =>
    obtain ⟨dx, ex, gq⟩ := Gd.obind gq
    obtain ⟨dk, ek, gq⟩ := Gd.obind gq
    have ry : Rep K F2 dy y := vy
    refine h1 F2 H2 x y dx dy dk _ R2.sub (rd_of R2 (vx.mono s2) ex) (.inl ry) ek fun z F3 H3 g3 rz => ?_
    cases dk with
    | bl k =>
      refine ⟨k, RdV.bl (K := K) (F := F3) (H := H3) (.inl rz), ?_⟩
      cases k with
      | true =>
        refine hc δ2 σ F3 H3 _ (R2.gr g3) ((Gd.bind.mp gq).mono fun u gu w F4 H4 R4 s4 vw => ?_)
        obtain ⟨dw, ew, gu⟩ := Gd.obind gu
        obtain ⟨d, ed, gu⟩ := Gd.obind gu
        exact h2 F4 H4 y w dy dw d Q R4.sub (.inl (ry.mono (g3.f.trans s4))) (rd_of R4 vw ew) ed fun v F5 H5 g5 rv => gu v F5 H5 (R4.gr g5) (s1.trans (s2.trans (g3.f.trans (s4.trans g5.f)))) rv
      | false => exact gq _ F3 H3 (R2.gr g3) (s1.trans (s2.trans g3.f)) (by show Rep _ _ _ _; simp only [Rep])
    | _ => exact gq.elim
theorem je_chain {op op' : CmpOp} {r r' : R2} {f g : D → D → Option D} (ho : OpR X (compareOp op) r) (ho' : OpR X (compareOp op') r') (hd : BinD X.K r f) (hd' : BinD X.K r' g) (ha : JE X W a ma) (hb : JE X W b mb) (hc : JE X W c mc)
    (hm : lastMarks [op, op'] [b, c] = false := by with_unfolding_all rfl) : JE X W (.Compare a [op, op'] [b, c] pos) (mChain f g ma mb mc) := by
  obtain ⟨ta, pa, ea⟩ := ha.ex
  obtain ⟨tb, pb, eb⟩ := hb.ex
  obtain ⟨tc, pc, ec⟩ := hc.ex
  exact ⟨_, pe_chain ho ho' pa pb pc hm, fun Γ => evChain hd hd' (ea Γ) (eb Γ) (ec Γ)⟩
/-! ### arguments, displays -/
def mNil : MA := fun δ => .ok ([], δ)
def mCons (m : ME) (r : MA) : MA := fun δ => m δ >>= fun p => r p.2 >>= fun q => .ok (p.1 :: q.1, q.2)
theorem ja_nil : JA X W [] mNil := ⟨_, pa_nil, fun Γ δ σ F H Q r g => g [] F H r (Same.refl _) trivial⟩
theorem ja_cons {r : MA} (ha : JE X W e m) (hr : JA X W es r) (hs : starEach (e :: es) X.env = (false, eval e X.env) :: starEach es X.env := by rfl) : JA X W (e :: es) (mCons m r) := by
  obtain ⟨t, p, q⟩ := ha.ex
  obtain ⟨t2, p2, q2⟩ := hr.ex
  refine ⟨_, pa_cons p p2 hs, fun Γ δ σ F H Q hR g => ?_⟩
  refine q Γ δ σ F H _ hR ((Gd.bind.mp g).mono fun u gu x F1 H1 R1 s1 vx => ?_)
  refine q2 Γ u.2 σ F1 H1 _ R1 ((Gd.bind.mp gu).mono fun w gw xs F2 H2 R2 s2 vxs => ?_)
  exact gw _ F2 H2 R2 (s1.trans s2) ⟨vx.mono s2, vxs⟩
/-- all are data -/
def imsO : List Vl → Option (List D)
  | [] => some []
  | .im d :: r => (imsO r).map (d :: ·)
  | .sl _ :: _ => none
theorem reps_of : ∀ {vs : List V} {xs : List Vl} {ds : List D}, VlsOk K F σ vs xs → imsO xs = some ds → Reps K F ds vs
  | [], [], ds, _, e => by cases e; exact Reps.nil
  | v :: vs, .im d :: xs, ds, h, e => by
    dsimp only [imsO] at e
    cases q : imsO xs with
    | none => rw [q] at e; cases e
    | some es =>
      rw [q] at e
      cases e
      exact Reps.cons h.1 (reps_of h.2 q)
  | v :: vs, .sl i :: xs, ds, h, e => by cases e
  | [], _ :: _, ds, h, e => h.elim
  | _ :: _, [], ds, h, e => h.elim
def mTup (m : MA) : ME := fun δ => m δ >>= fun p => R.ofO (imsO p.1) >>= fun ds => if ds.length ≤ 1000 then .ok (.im (.tup ds), p.2) else .bad
theorem small1k {n : Nat} (h : n ≤ 1000) : n ≤ sizeLine := Nat.le_of_lt (small1000 h)
theorem je_tup {r : MA} {x1} (h : JA X W es r) : JE X W (.Tuple es x1 pos) (mTup r) := by
  obtain ⟨t, p, q⟩ := h.ex
  refine ⟨_, pe_tup p, fun Γ δ σ F H Q hR g => ?_⟩
  refine q Γ δ σ F H _ hR ((Gd.bind.mp g).mono fun u gu vs F1 H1 R1 s1 vxs => ?_)
  obtain ⟨ds, ed, gu⟩ := Gd.obind gu
  have hr := reps_of vxs ed
  split at gu
  · rename_i hl
    refine ⟨small1k (by rw [← hr.length]; exact hl), fun p hp => ?_⟩
    have g1 := Gr.new R1.sub hp (.tup vs)
    exact gu _ _ _ (R1.gr g1) (s1.trans g1.f) (Rep.tup_iff.mpr ⟨p, vs, rfl, upd_same, hr.mono g1.f⟩)
  · exact gu.elim
def mLst (m : MA) : MO := fun δ => m δ >>= fun p => R.ofO (imsO p.1) >>= fun ds => if ds.length ≤ 1000 then .ok (lsT ds, p.2) else .bad
theorem jo_lst {r : MA} (h : JA X W es r) : JO X W (.List es pos) (mLst r) := by
  obtain ⟨t, p, q⟩ := h.ex
  refine ⟨_, pe_lst p, fun Γ δ σ F H Q hR g => ?_⟩
  refine q Γ δ σ F H _ hR ((Gd.bind.mp g).mono fun u gu vs F1 H1 R1 s1 vxs => ?_)
  obtain ⟨ds, ed, gu⟩ := Gd.obind gu
  have hr := reps_of vxs ed
  split at gu
  · rename_i hl
    refine ⟨small1k (by rw [← hr.length]; exact hl), fun p hp => ?_⟩
    exact gu _ _ _ (R1.newL hp hr) s1
  · exact gu.elim
/-! ### calls of builtins -/
def RdVs (K : PySem.W.Frag) (F H : Hp) : List V → List D → Prop
  | [], [] => True
  | v :: vs, d :: ds => RdV K F H v d ∧ RdVs K F H vs ds
  | _, _ => False
def resL (δ : List Sl) : List Vl → Option (List D)
  | [] => some []
  | x :: r => match resO δ x with
    | some d => (resL δ r).map (d :: ·)
    | none => none
theorem rds_of (r : Rl K Γ F H σ δ) : ∀ {vs : List V} {xs : List Vl} {ds : List D}, VlsOk K F σ vs xs → resL δ xs = some ds → RdVs K F H vs ds
  | [], [], ds, _, e => by cases e; trivial
  | v :: vs, x :: xs, ds, h, e => by
    dsimp only [resL] at e
    cases q1 : resO δ x with
    | none => rw [q1] at e; cases e
    | some d =>
      rw [q1] at e
      cases q : resL δ xs with
      | none => rw [q] at e; cases e
      | some es =>
        rw [q] at e
        cases e
        exact ⟨rd_of r h.1 q1, rds_of r h.2 q⟩
  | [], _ :: _, ds, h, e => h.elim
  | _ :: _, [], ds, h, e => h.elim
def CallD (K : PySem.W.Frag) (r : List V → Hp → VK → Prop) (f : List D → Option D) : Prop := ∀ (F H : Hp) (xs : List V) (ds : List D) (d : D) (Q : VK), Same F H → RdVs K F H xs ds → f ds = some d → Want K F H d Q → r xs H Q
def CallO (K : PySem.W.Frag) (r : List V → Hp → VK → Prop) (f : List D → Option (List D)) : Prop := ∀ (F H : Hp) (xs : List V) (ds es : List D) (Q : VK), Same F H → RdVs K F H xs ds → f ds = some es →
  (∀ p vs, H p = none → Reps K F es vs → Q (.ref p) (upd H p (.lst vs))) → r xs H Q
def mCB (f : List D → Option D) (m : MA) : ME := fun δ => m δ >>= fun p => R.ofO (resL p.2 p.1) >>= fun ds => R.ofO (f ds) >>= fun d => .ok (.im d, p.2)
def mCO (f : List D → Option (List D)) (m : MA) : MO := fun δ => m δ >>= fun p => R.ofO (resL p.2 p.1) >>= fun ds => R.ofO (f ds) >>= fun d => .ok (lsT d, p.2)
theorem evCB {r : List V → Hp → VK → Prop} {f : List D → Option D} {t : TA} {m : MA} (hd : CallD K r f) (h : EvA K Γ W t m) : EvE K Γ W (tCB r t) (mCB f m) := fun δ σ F H Q hR g => by
  refine h δ σ F H _ hR ((Gd.bind.mp g).mono fun u gu vs F1 H1 R1 s1 vxs => ?_)
  obtain ⟨ds, ed, gu⟩ := Gd.obind gu
  obtain ⟨d, ef, gu⟩ := Gd.obind gu
  exact hd F1 H1 vs ds d Q R1.sub (rds_of R1 vxs ed) ef fun v F2 H2 g2 rv => gu v F2 H2 (R1.gr g2) (s1.trans g2.f) rv
theorem evCO {r : List V → Hp → VK → Prop} {f : List D → Option (List D)} {t : TA} {m : MA} (hd : CallO K r f) (h : EvA K Γ W t m) : EvO K Γ W (tCB r t) (mCO f m) := fun δ σ F H Q hR g => by
  refine h δ σ F H _ hR ((Gd.bind.mp g).mono fun u gu vs F1 H1 R1 s1 vxs => ?_)
  obtain ⟨ds, ed, gu⟩ := Gd.obind gu
  obtain ⟨d, ef, gu⟩ := Gd.obind gu
  refine hd F1 H1 vs ds d Q R1.sub (rds_of R1 vxs ed) ef fun p us hp hr => ?_
  exact gu _ F1 _ (R1.newL hp hr) s1
variable {x : Str} {p' : Pos} {id T : String} {r : List V → Hp → VK → Prop} {f : List D → Option D} {fo : List D → Option (List D)} {mr : MA}
theorem je_callB (hc : CallR X (.builtin id) r) (hd : CallD X.K r f) (hm : X.mg x = none) (hv : bootBuiltins x = some (.builtin id)) (ha : JA X W (e :: es) mr) (hg : Gl X x := by rfl) (hn : x ≠ "__name__" := by decide) (hdb : (x == ("__debug__" : Str)) = false := by decide)
    (he : starEach (e :: es) X.env = (false, eval e X.env) :: starEach es X.env := by rfl) (hpl : (backTo pos (starEach es X.env)).any (·.1) = false := by rfl) : JE X W (.Call (.Name x p') (e :: es) [] pos) (mCB f mr) := by
  obtain ⟨t, p, q⟩ := ha.ex
  exact ⟨_, pe_callB hc hg hm hv p hn hdb he hpl, fun Γ => evCB hd (q Γ)⟩
theorem je_callT (hc : CallR X (.type T) r) (hd : CallD X.K r f) (hm : X.mg x = none) (hv : bootBuiltins x = some (.type T)) (ha : JA X W (e :: es) mr) (hg : Gl X x := by rfl) (hn : x ≠ "__name__" := by decide) (hdb : (x == ("__debug__" : Str)) = false := by decide)
    (he : starEach (e :: es) X.env = (false, eval e X.env) :: starEach es X.env := by rfl) (hpl : (backTo pos (starEach es X.env)).any (·.1) = false := by rfl) : JE X W (.Call (.Name x p') (e :: es) [] pos) (mCB f mr) := by
  obtain ⟨t, p, q⟩ := ha.ex
  exact ⟨_, pe_callTy hc hg hm hv p hn hdb he hpl, fun Γ => evCB hd (q Γ)⟩
theorem jo_callT (hc : CallR X (.type T) r) (hd : CallO X.K r fo) (hm : X.mg x = none) (hv : bootBuiltins x = some (.type T)) (ha : JA X W (e :: es) mr) (hg : Gl X x := by rfl) (hn : x ≠ "__name__" := by decide) (hdb : (x == ("__debug__" : Str)) = false := by decide)
    (he : starEach (e :: es) X.env = (false, eval e X.env) :: starEach es X.env := by rfl) (hpl : (backTo pos (starEach es X.env)).any (·.1) = false := by rfl) : JO X W (.Call (.Name x p') (e :: es) [] pos) (mCO fo mr) := by
  obtain ⟨t, p, q⟩ := ha.ex
  exact ⟨_, pe_callTy hc hg hm hv p hn hdb he hpl, fun Γ => evCO hd (q Γ)⟩
/-! ### methods of builtin types that change nothing -/
def tyD (T : String) : D → Bool
  | .str _ => T == "str"
  | .int _ => T == "int"
  | .lst _ => T == "list"
  | .dK _ _ => T == "dict"
  | .dT _ _ => T == "dict"
  | _ => false
theorem ty_of {v : V} {d : D} (s : Same F H) (h : RdV K F H v d) (e : tyD T d = true) : tyV K T v H := by
  cases d with
  | str z => rw [h.str]; exact eq_of_beq e
  | int z => rw [h.int]; exact eq_of_beq e
  | lst ds =>
    obtain ⟨p, vs, rfl, q, _⟩ := h.lst s
    exact .inl ⟨eq_of_beq e, vs, SqL.of q⟩
  | dK ks ds =>
    obtain ⟨p, vs, rfl, q, _⟩ := h.dK s
    exact .inr (.inr (.inl ⟨eq_of_beq e, .inl ⟨_, q⟩⟩))
  | dT ks ds =>
    obtain ⟨p, vs, rfl, q, _⟩ := h.dT s
    exact .inr (.inr (.inl ⟨eq_of_beq e, .inr ⟨_, q⟩⟩))
  | non => cases e
  | bl b => cases e
  | tup ds => cases e
  | ktp ds => cases e
  | ins _ _ _ => cases e
  | scr _ => cases e
def MtD (K : PySem.W.Frag) (r : V → List V → Hp → VK → Prop) (f : D → List D → Option D) : Prop := ∀ (F H : Hp) (x : V) (xs : List V) (dx : D) (ds : List D) (d : D) (Q : VK), Same F H → RdV K F H x dx → RdVs K F H xs ds → f dx ds = some d → Want K F H d Q → r x xs H Q
def MtO (K : PySem.W.Frag) (r : V → List V → Hp → VK → Prop) (f : D → List D → Option (List D)) : Prop := ∀ (F H : Hp) (x : V) (xs : List V) (dx : D) (ds es : List D) (Q : VK), Same F H → RdV K F H x dx → RdVs K F H xs ds → f dx ds = some es →
  (∀ p vs, H p = none → Reps K F es vs → Q (.ref p) (upd H p (.lst vs))) → r x xs H Q
def mMt (T : String) (f : D → List D → Option D) (mo : ME) (m : MA) : ME := fun δ => mo δ >>= fun p => R.ofO (resO p.2 p.1) >>= fun d0 => if tyD T d0 = true then m p.2 >>= fun q => R.ofO (resO q.2 p.1) >>= fun dx => R.ofO (resL q.2 q.1) >>= fun ds =>
  R.ofO (f dx ds) >>= fun d => .ok (.im d, q.2) else .bad
def mMtO (T : String) (f : D → List D → Option (List D)) (mo : ME) (m : MA) : MO := fun δ => mo δ >>= fun p => R.ofO (resO p.2 p.1) >>= fun d0 => if tyD T d0 = true then m p.2 >>= fun q => R.ofO (resO q.2 p.1) >>= fun dx => R.ofO (resL q.2 q.1) >>= fun ds =>
  R.ofO (f dx ds) >>= fun d => .ok (lsT d, q.2) else .bad
theorem evMt {rm : V → List V → Hp → VK → Prop} {f : D → List D → Option D} {to : TE} {t : TA} {mo : ME} {m : MA} (hd : MtD K rm f) (ho : EvE K Γ W to mo) (h : EvA K Γ W t m) : EvE K Γ W (tBM K T rm to t) (mMt T f mo m) := fun δ σ F H Q hR g => by
  refine ho δ σ F H _ hR ((Gd.bind.mp g).mono fun p gp x F1 H1 R1 s1 vx => ?_)
  obtain ⟨d0, e0, gp⟩ := Gd.obind gp
  split at gp
  · rename_i ht
    refine ⟨ty_of R1.sub (rd_of R1 vx e0) ht, ?_⟩
    refine h p.2 σ F1 H1 _ R1 ((Gd.bind.mp gp).mono fun u gu vs F2 H2 R2 s2 vxs => ?_)
    obtain ⟨dx, ex, gu⟩ := Gd.obind gu
    obtain ⟨ds, ed, gu⟩ := Gd.obind gu
    obtain ⟨d, ef, gu⟩ := Gd.obind gu
    exact hd F2 H2 x vs dx ds d Q R2.sub (rd_of R2 (vx.mono s2) ex) (rds_of R2 vxs ed) ef fun v F3 H3 g3 rv => gu v F3 H3 (R2.gr g3) (s1.trans (s2.trans g3.f)) rv
  · exact gp.elim
theorem evMtO {rm : V → List V → Hp → VK → Prop} {f : D → List D → Option (List D)} {to : TE} {t : TA} {mo : ME} {m : MA} (hd : MtO K rm f) (ho : EvE K Γ W to mo) (h : EvA K Γ W t m) : EvO K Γ W (tBM K T rm to t) (mMtO T f mo m) := fun δ σ F H Q hR g => by
  refine ho δ σ F H _ hR ((Gd.bind.mp g).mono fun p gp x F1 H1 R1 s1 vx => ?_)
  obtain ⟨d0, e0, gp⟩ := Gd.obind gp
  split at gp
  · rename_i ht
    refine ⟨ty_of R1.sub (rd_of R1 vx e0) ht, ?_⟩
    refine h p.2 σ F1 H1 _ R1 ((Gd.bind.mp gp).mono fun u gu vs F2 H2 R2 s2 vxs => ?_)
    obtain ⟨dx, ex, gu⟩ := Gd.obind gu
    obtain ⟨ds, ed, gu⟩ := Gd.obind gu
    obtain ⟨d, ef, gu⟩ := Gd.obind gu
    refine hd F2 H2 x vs dx ds d Q R2.sub (rd_of R2 (vx.mono s2) ex) (rds_of R2 vxs ed) ef fun p us hp hr => ?_
    exact gu _ F2 _ (R2.newL hp hr) (s1.trans s2)
  · exact gp.elim
variable {o : Expr} {name : Str} {apos : Pos} {rm : V → List V → Hp → VK → Prop} {fm : D → List D → Option D} {fmo : D → List D → Option (List D)}
theorem je_bm (pa : PlainAttrs T) (slot : Slot T name id) (hty : typeOf (.builtin id) = pure (.type "method_descriptor")) (hm : MtR X id rm) (hd : MtD X.K rm fm) (ho : JE X W o m) (ha : JA X W (e :: es) mr)
    (hbase : attributeBase o name X.env (eval o X.env) = eval o X.env := by rfl)
    (hfew : ((backTo pos (starEach (e :: es) X.env)).all (fun x => !x.1) && (backToKw pos (keywordEach [] X.env)).all (fun x => x.1.isSome)
      && decide ((e :: es).length + ([] : List Keyword).length + (if ([] : List Keyword).isEmpty then 0 else 1) < 30)) = true := by rfl)
    (hline : (apos.endLine == pos.line) = true := by rfl) (hs : starEach (e :: es) X.env = (false, eval e X.env) :: starEach es X.env := by rfl) (hplain : (backTo pos (starEach es X.env)).any (·.1) = false := by rfl) :
    JE X W (.Call (.Attribute o name apos) (e :: es) [] pos) (mMt T fm m mr) := by
  obtain ⟨t, p, q⟩ := ho.ex
  obtain ⟨t2, p2, q2⟩ := ha.ex
  exact ⟨_, pe_bm pa slot hty hm p p2 hbase hfew hline hs hplain, fun Γ => evMt hd (q Γ) (q2 Γ)⟩
theorem jo_bm (pa : PlainAttrs T) (slot : Slot T name id) (hty : typeOf (.builtin id) = pure (.type "method_descriptor")) (hm : MtR X id rm) (hd : MtO X.K rm fmo) (ho : JE X W o m) (ha : JA X W (e :: es) mr)
    (hbase : attributeBase o name X.env (eval o X.env) = eval o X.env := by rfl)
    (hfew : ((backTo pos (starEach (e :: es) X.env)).all (fun x => !x.1) && (backToKw pos (keywordEach [] X.env)).all (fun x => x.1.isSome)
      && decide ((e :: es).length + ([] : List Keyword).length + (if ([] : List Keyword).isEmpty then 0 else 1) < 30)) = true := by rfl)
    (hline : (apos.endLine == pos.line) = true := by rfl) (hs : starEach (e :: es) X.env = (false, eval e X.env) :: starEach es X.env := by rfl) (hplain : (backTo pos (starEach es X.env)).any (·.1) = false := by rfl) :
    JO X W (.Call (.Attribute o name apos) (e :: es) [] pos) (mMtO T fmo m mr) := by
  obtain ⟨t, p, q⟩ := ho.ex
  obtain ⟨t2, p2, q2⟩ := ha.ex
  exact ⟨_, pe_bm pa slot hty hm p p2 hbase hfew hline hs hplain, fun Γ => evMtO hd (q Γ) (q2 Γ)⟩
/-! ### fields -/
def fldD (C : Addr) (f : Str) : D → Option D
  | .ins C' ns xs => if C' = C then (ns.zip xs).lookup f else none
  | _ => none
theorem lookup_zip {f : Str} : ∀ {ns : List Str} {ds : List D} {vs : List V} {d : D}, Reps K F ds vs → (ns.zip ds).lookup f = some d → ∃ v, (ns.zip vs).lookup f = some v ∧ Rep K F d v
  | [], ds, vs, d, _, e => by simp at e
  | n :: ns, [], vs, d, _, e => by simp at e
  | n :: ns, d0 :: ds, vs, d, h, e => by
    obtain ⟨v, r, rfl, h1, h2⟩ := Reps.cons_iff.mp h
    simp only [List.zip_cons_cons, List.lookup_cons] at e ⊢
    split at e
    · cases e
      exact ⟨v, rfl, h1⟩
    · exact lookup_zip h2 e
def mFld (C : Addr) (f : Str) (m : ME) : ME := fun δ => m δ >>= fun p => R.ofO (resO p.2 p.1) >>= fun d0 => R.ofO (fldD C f d0) >>= fun d => .ok (.im d, p.2)
theorem je_fld {C : Addr} {f : Str} (hC : Cls X.K C) (hn : NoAttr X.K C f) (he : JE X W o m) (hb : attributeBase o f X.env (eval o X.env) = eval o X.env := by rfl) : JE X W (.Attribute o f pos) (mFld C f m) := by
  obtain ⟨t, p, q⟩ := he.ex
  refine ⟨_, pe_fld p hb, fun Γ δ σ F H Q hR g => ?_⟩
  refine q Γ δ σ F H _ hR ((Gd.bind.mp g).mono fun p gp x F1 H1 R1 s1 vx => ?_)
  obtain ⟨d0, e0, gp⟩ := Gd.obind gp
  obtain ⟨d, ed, gq⟩ := Gd.obind gp
  have hx := rd_of R1 vx e0
  cases d0 with
  | ins C' ns xs =>
    dsimp only [fldD] at ed
    split at ed
    · rename_i hc
      subst hc
      obtain ⟨a, dx, vs, rfl, q1, l, hr⟩ := hx.ins R1.sub
      obtain ⟨v, e1, e2⟩ := lookup_zip hr ed
      exact ⟨a, _, dx, _, v, rfl, q1, hC, hn, e1, gq v F1 H1 R1 s1 e2⟩
    · cases ed
  | _ => cases ed
end
end GX
/-! GX4: statements, targets, loops, own lists changed in place. -/
namespace GX
open PySem PySem.Spec PyProof.Rows L2
inductive Out where
  | nx (δ : List Sl) | rt (t : Tr) (δ : List Sl) | bk (δ : List Sl) | ct (δ : List Sl)
abbrev MS := List Sl → R Out
def GdO (K : PySem.W.Frag) (Γ : Fm) (F : Hp) (En : Ends) : Out → Prop
  | .nx δ' => ∀ σ F' H', Rl K Γ F' H' σ δ' → Same F F' → En.nx σ H'
  | .bk δ' => ∀ σ F' H', Rl K Γ F' H' σ δ' → Same F F' → En.bk σ H'
  | .ct δ' => ∀ σ F' H', Rl K Γ F' H' σ δ' → Same F F' → En.ct σ H'
  | .rt t δ' => ∀ v σ F' H', OwN K Γ F' H' σ δ' v t → Same F F' → En.rt v H'
def GdS (K : PySem.W.Frag) (Γ : Fm) (W : WX) (F : Hp) (En : Ends) (m : R Out) : Prop := Gd K Γ W m (GdO K Γ F En)
def EvS (K : PySem.W.Frag) (Γ : Fm) (W : WX) (t : TS) (m : MS) : Prop := ∀ (δ : List Sl) (σ : L2.St) (F H : Hp) (En : Ends), Rl K Γ F H σ δ → GdS K Γ W F En (m δ) → t En σ H
structure JS (X : Cx) (W : WX) (st : Stmt) (m : MS) : Prop where
  ex : ∃ t, PS X st t ∧ ∀ Γ, EvS X.K Γ W t m
structure JSs (X : Cx) (W : WX) (st : List Stmt) (m : MS) : Prop where
  ex : ∃ t, PSs X st t ∧ ∀ Γ, EvS X.K Γ W t m
theorem GdO.from {K : PySem.W.Frag} {Γ : Fm} {F F1 : Hp} {En : Ends} (s : Same F F1) : ∀ {o : Out}, GdO K Γ F En o → GdO K Γ F1 En o
  | .nx _, h => fun σ F' H' r s1 => h σ F' H' r (s.trans s1)
  | .bk _, h => fun σ F' H' r s1 => h σ F' H' r (s.trans s1)
  | .ct _, h => fun σ F' H' r s1 => h σ F' H' r (s.trans s1)
  | .rt _ _, h => fun v σ F' H' r s1 => h v σ F' H' r (s.trans s1)
theorem GdS.from {K : PySem.W.Frag} {Γ : Fm} {W : WX} {F F1 : Hp} {En : Ends} {m : R Out} (h : GdS K Γ W F En m) (s : Same F F1) : GdS K Γ W F1 En m := Gd.mono h fun _ g => g.from s
section
variable {X : Cx} {W : WX} {K : PySem.W.Frag} {Γ : Fm} {F H : Hp} {σ : L2.St} {δ δ' : List Sl} {i : Nat} {v : V} {d : D}
variable {a b c e : Expr} {m ma mb mc : ME} {pos : Pos} {te : TE} {st : Stmt} {rest sa sb : List Stmt} {s1 s2 : MS} {mt : MT} {mo : MO}
def mNx : MS := fun δ => .ok (.nx δ)
def mSeq (m n : MS) : MS := fun δ => m δ >>= fun o => match o with
  | .nx δ' => n δ'
  | o => .ok o
theorem js_nil : JSs X W [] mNx := ⟨_, pss_nil, fun Γ δ σ F H En r g => g σ F H r (Same.refl _)⟩
theorem EvS.seq {t u : TS} (h1 : EvS K Γ W t s1) (h2 : EvS K Γ W u s2) : EvS K Γ W (tSeq t u) (mSeq s1 s2) := fun δ σ F H En r g => by
  refine h1 δ σ F H _ r ((Gd.bind.mp g).mono fun o ho => ?_)
  cases o with
  | nx δ' => exact fun σ F' H' r' s' => h2 δ' σ F' H' En r' (GdS.from ho s')
  | rt d δ' => exact ho
  | bk δ' => exact ho
  | ct δ' => exact ho
theorem js_cons (h1 : JS X W st s1) (h2 : JSs X W rest s2) : JSs X W (st :: rest) (mSeq s1 s2) := by
  obtain ⟨t, p, q⟩ := h1.ex
  obtain ⟨u, p2, q2⟩ := h2.ex
  exact ⟨_, pss_cons p p2, fun Γ => (q Γ).seq (q2 Γ)⟩
theorem js_one (h1 : JS X W st s1) : JSs X W [st] s1 := by
  obtain ⟨t, p, q⟩ := h1.ex
  exact ⟨_, pss_one p, q⟩
theorem js_pass : JS X W (.Pass pos) mNx := ⟨_, ps_pass, fun Γ δ σ F H En r g => g σ F H r (Same.refl _)⟩
theorem js_break : JS X W (.Break pos) (fun δ => .ok (.bk δ)) := ⟨_, ps_break, fun Γ δ σ F H En r g => g σ F H r (Same.refl _)⟩
theorem js_continue : JS X W (.Continue pos) (fun δ => .ok (.ct δ)) := ⟨_, ps_continue, fun Γ δ σ F H En r g => g σ F H r (Same.refl _)⟩
/-- what the proof never comes to -/
def mNever : MS := fun _ => .bad
theorem js_never : JS X W st mNever := ⟨_, ps_never, fun Γ δ σ F H En r g => g⟩
def mDrop (m : ME) : MS := fun δ => m δ >>= fun p => .ok (.nx p.2)
theorem js_expr (h : JE X W e m) (hs : swapsWith e none pos.line X.env = pure false := by rfl) : JS X W (.Expr e pos) (mDrop m) := by
  obtain ⟨t, p, q⟩ := h.ex
  refine ⟨_, ps_expr p hs, fun Γ δ σ F H En r g => ?_⟩
  exact q Γ δ σ F H _ r ((Gd.bind.mp g).mono fun u gu v F1 H1 R1 s1 _ => gu σ F1 H1 R1 s1)
def mRet (m : ME) : MS := fun δ => m δ >>= fun p => match p.1 with
  | .im d => .ok (.rt (.d d) p.2)
  | .sl _ => .bad
theorem js_ret (h : JE X W e m) : JS X W (.Return (some e) pos) (mRet m) := by
  obtain ⟨t, p, q⟩ := h.ex
  refine ⟨_, ps_ret p, fun Γ δ σ F H En r g => ?_⟩
  refine q Γ δ σ F H _ r ((Gd.bind.mp g).mono fun u gu v F1 H1 R1 s1 hv => ?_)
  obtain ⟨x, δ1⟩ := u
  cases x with
  | im d => exact gu v σ F1 H1 (R1.im hv) s1
  | sl i => exact gu.elim
theorem js_retN : JS X W (.Return none pos) (fun δ => .ok (.rt (.d .non) δ)) :=
  ⟨_, ps_retN, fun Γ δ σ F H En r g => g .non σ F H (r.im (by simp only [Rep])) (Same.refl _)⟩
def mRetO (m : MO) : MS := fun δ => m δ >>= fun p => .ok (.rt p.1 p.2)
theorem js_retO (h : JO X W e mo) : JS X W (.Return (some e) pos) (mRetO mo) := by
  obtain ⟨t, p, q⟩ := h.ex
  refine ⟨_, ps_ret p, fun Γ δ σ F H En r g => ?_⟩
  exact q Γ δ σ F H _ r ((Gd.bind.mp g).mono fun u gu p F1 H1 o s1 => gu p σ F1 H1 o s1)
/-- return of a local that holds an own thing -/
def mRetS (i : Nat) : MS := fun δ => match δ[i]? with
  | some (.ow t) => .ok (.rt t (δ.set i .un))
  | _ => .bad
theorem js_retS (i : Nat) {x : Str} {p' : Pos} (hN : X.N[i]? = some x := by rfl) (hv : Vis X.env.scope x := by first | exact Or.inl rfl | exact Or.inr (Or.inl rfl) | exact Or.inr (Or.inr rfl)) (hd : (x == ("__debug__" : Str)) = false := by decide)
    (hcd : (x == ("__classdict__" : Str)) = false := by decide) : JS X W (.Return (some (.Name x p')) pos) (mRetS i) := by
  refine ⟨_, ps_ret (pe_var (i := i) hN hv hd hcd), fun Γ δ σ F H En r g => ?_⟩
  unfold mRetS at g
  cases hs : δ[i]? with
  | none => rw [hs] at g; exact g.elim
  | some s =>
    rw [hs] at g
    cases s with
    | ow t =>
      obtain ⟨φ, r⟩ := r
      obtain ⟨ov, e1, v, rfl, o, n, z⟩ := r.sl i _ hs
      refine ⟨v, e1, g v σ F H ⟨setφ φ i [], φ i, r.drop hs, o, n, z, fun j a hj ha => ?_⟩ (Same.refl _)⟩
      by_cases h : j = i
      · subst h; rw [setφ_eq] at hj; cases hj
      · rw [setφ_ne h] at hj; exact h (r.sep j i a hj ha)
    | _ => exact g.elim
def mIfS (c : MT) (m n : MS) : MS := fun δ => c δ >>= fun p => if p.1 = true then m p.2 else n p.2
theorem js_if (hc : JT X W c mt) (ha : JSs X W sa s1) (hb : JSs X W sb s2) : JS X W (.If c sa sb pos) (mIfS mt s1 s2) := by
  obtain ⟨t, p, q⟩ := hc.ex
  obtain ⟨t1, p1, q1⟩ := ha.ex
  obtain ⟨t2, p2, q2⟩ := hb.ex
  refine ⟨_, ps_if p p1 p2, fun Γ δ σ F H En r g => ?_⟩
  refine q Γ δ σ F H _ r ((Gd.bind.mp g).mono fun u gu F1 H1 R1 s1 => ?_)
  obtain ⟨k, δ1⟩ := u
  cases k with
  | true => exact q1 Γ δ1 σ F1 H1 En R1 (GdS.from gu s1)
  | false => exact q2 Γ δ1 σ F1 H1 En R1 (GdS.from gu s1)
/-! ### stores -/
def stor (i : Nat) (s : Sl) (δ : List Sl) : R (List Sl) := match δ[i]? with
  | none => .bad
  | some (.io _) => .bad
  | some _ => .ok (δ.set i s)
theorem stor_ok {s : Sl} (e : GX.stor i s δ = .ok δ') : ∃ t, δ[i]? = some t ∧ (∀ u, t ≠ .io u) ∧ δ' = δ.set i s := by
  unfold GX.stor at e
  cases q : δ[i]? with
  | none => rw [q] at e; cases e
  | some t => rw [q] at e; cases t <;> cases e <;> exact ⟨_, rfl, (fun u z => by cases z), rfl⟩
theorem RlP.stor {φ : Nat → List Addr} {s : Sl} {fp : List Addr} (r : RlP K Γ F H σ δ φ) (e : GX.stor i s δ = .ok δ') (hs : SlOk K Γ F H i (some v) fp s) (hp : ∀ j a, a ∈ φ j → a ∉ fp) : Rl K Γ F H (σ.set i (some v)) δ' := by
  obtain ⟨t, ht, _, rfl⟩ := stor_ok e
  have hl : i < σ.length := by rw [r.len]; exact (List.getElem?_eq_some_iff.mp ht).1
  exact ⟨_, r.set1 (t := s) (fp := fp) ht r.sub (Same.refl _) (List.length_set ..) (List.getElem?_set_self hl) (fun j hj => List.getElem?_set_ne (Ne.symm hj)) (fun _ _ _ => rfl) (fun _ _ _ => rfl) (fun _ h => h) hs fun a ha => .inr fun j _ hj => hp j a hj ha⟩
theorem Rl.storI (r : Rl K Γ F H σ δ) (e : GX.stor i (.im d) δ = .ok δ') (h : Rep K F d v) : Rl K Γ F H (σ.set i (some v)) δ' := by
  obtain ⟨φ, r⟩ := r
  exact r.stor (fp := []) e ⟨rfl, v, rfl, h⟩ fun j a _ h => by cases h
theorem Rl.storO {t : Tr} (o : OwN K Γ F H σ δ v t) (e : GX.stor i (.ow t) δ = .ok δ') : Rl K Γ F H (σ.set i (some v)) δ' := by
  obtain ⟨φ, fp, r, a, b, c, z⟩ := o.ex
  exact r.stor (fp := fp) e ⟨v, rfl, a, b, c⟩ z
theorem Gd.stor {P : List Sl → Prop} {s : Sl} (h : Gd K Γ W (GX.stor i s δ) P) : ∃ δ', GX.stor i s δ = .ok δ' ∧ P δ' := by
  cases q : GX.stor i s δ with
  | ok a => rw [q] at h; exact ⟨a, rfl, h⟩
  | err e a =>
    unfold GX.stor at q
    split at q <;> cases q
  | bad => rw [q] at h; exact h.elim
def mSet (i : Nat) (m : ME) : MS := fun δ => m δ >>= fun p => match p.1 with
  | .im d => stor i (.im d) p.2 >>= fun δ' => .ok (.nx δ')
  | .sl _ => .bad
def mSetO (i : Nat) (m : MO) : MS := fun δ => m δ >>= fun p => stor i (.ow p.1) p.2 >>= fun δ' => .ok (.nx δ')
theorem evSet {te : TE} (h : EvE K Γ W te m) : EvS K Γ W (tAsg te (gName i)) (mSet i m) := fun δ σ F H En r g => by
  refine h δ σ F H _ r ((Gd.bind.mp g).mono fun u gu v F1 H1 R1 s1 hv => ?_)
  obtain ⟨x, δ1⟩ := u
  cases x with
  | sl i => exact gu.elim
  | im d =>
    obtain ⟨δ2, e2, g2⟩ := Gd.stor (Gd.bind.mp gu)
    exact g2 _ F1 H1 (R1.storI e2 hv) s1
theorem evSetO {te : TE} (h : EvO K Γ W te mo) : EvS K Γ W (tAsg te (gName i)) (mSetO i mo) := fun δ σ F H En r g => by
  refine h δ σ F H _ r ((Gd.bind.mp g).mono fun u gu p F1 H1 o s1 => ?_)
  obtain ⟨δ2, e2, g2⟩ := Gd.stor (Gd.bind.mp gu)
  exact g2 _ F1 H1 (Rl.storO o e2) s1
theorem js_set (i : Nat) {x : Str} {pos' : Pos} (hN : X.N.Nodup) (h : JE X W e m) (hi : X.N[i]? = some x := by rfl) (hx : Loc X.env.scope x := by first | exact Or.inl rfl | exact Or.inr rfl) (hs : swapsWith e (some (.Name x pos')) pos.line X.env = pure false := by rfl)
    (hf : X.fn x = true ∨ X.env.scope.names.lookup x = some .local := by first | exact .inl rfl | exact .inr rfl) : JS X W (.Assign [.Name x pos'] e pos) (mSet i m) := by
  obtain ⟨t, p, q⟩ := h.ex
  exact ⟨_, ps_set hN hi hx p hs hf, fun Γ => evSet (q Γ)⟩
theorem js_setO (i : Nat) {x : Str} {pos' : Pos} (hN : X.N.Nodup) (h : JO X W e mo) (hi : X.N[i]? = some x := by rfl) (hx : Loc X.env.scope x := by first | exact Or.inl rfl | exact Or.inr rfl) (hs : swapsWith e (some (.Name x pos')) pos.line X.env = pure false := by rfl)
    (hf : X.fn x = true ∨ X.env.scope.names.lookup x = some .local := by first | exact .inl rfl | exact .inr rfl) : JS X W (.Assign [.Name x pos'] e pos) (mSetO i mo) := by
  obtain ⟨t, p, q⟩ := h.ex
  exact ⟨_, ps_set hN hi hx p hs hf, fun Γ => evSetO (q Γ)⟩
/-- name op= e -/
def mAug (i : Nat) (f : D → D → Option D) (m : ME) : MS := fun δ => mV i δ >>= fun p => match p.1 with
  | .sl _ => .bad
  | .im a => m p.2 >>= fun q => R.ofO (resO q.2 q.1) >>= fun b => R.ofO (f a b) >>= fun d => stor i (.im d) q.2 >>= fun δ' => .ok (.nx δ')
theorem js_aug (i : Nat) {x : Str} {op : Operator} {r : R2} {f : D → D → Option D} {pos' : Pos} (hN : X.N.Nodup) (ho : OpR X (inplaceOp op) r) (hd : BinD X.K r f) (h : JE X W e m) (hi : X.N[i]? = some x := by rfl) (hx : Loc X.env.scope x := by first | exact Or.inl rfl | exact Or.inr rfl)
    (hf : X.fn x = true ∨ X.env.scope.names.lookup x = some .local := by first | exact .inl rfl | exact .inr rfl) : JS X W (.AugAssign (.Name x pos') op e pos) (mAug i f m) := by
  obtain ⟨t, p, q⟩ := h.ex
  refine ⟨_, ps_aug hN hi hx p (ti := r) (fun pins s σ H x y v u Q I rx ry h => ho pins s σ H x y v u Q I rx ry h) hf, fun Γ δ σ F H En R g => ?_⟩
  have hh := evV (K := X.K) (Γ := Γ) (W := W) i δ σ F H (fun w H1 => H1 = H → t σ H fun y H1 => r w y H1 fun z H2 => En.nx (σ.set i (some z)) H2) R (by
    refine (Gd.bind.mp g).mono fun u gu v F1 H1 R1 s1 hv eH => ?_
    subst eH
    obtain ⟨y, δ1⟩ := u
    cases y with
    | sl j => exact gu.elim
    | im a =>
      refine q Γ δ1 σ F1 H1 _ R1 ((Gd.bind.mp gu).mono fun u2 gu2 v2 F2 H2 R2 s2 hv2 => ?_)
      obtain ⟨b, eb, gu2⟩ := Gd.obind gu2
      obtain ⟨d, ed, gu2⟩ := Gd.obind gu2
      refine hd F2 H2 v v2 a b d _ R2.sub (.inl (Rep.mono s2 hv)) (rd_of R2 hv2 eb) ed fun z F3 H3 g3 rz => ?_
      obtain ⟨δ2, e2, g2⟩ := Gd.stor (Gd.bind.mp gu2)
      exact g2 _ F3 H3 ((R2.gr g3).storI e2 rz) (s1.trans (s2.trans g3.f)))
  obtain ⟨w, e1, hw⟩ := hh
  exact ⟨w, e1, hw rfl⟩
end
end GX
/-! GXP: pure expressions, places within own things. -/
namespace GX
open PySem PySem.Spec PyProof.Rows L2
/-! ### pure expressions -/
abbrev MX := List Sl → Option D
abbrev MXs := List Sl → Option (List D)
def EvX (K : PySem.W.Frag) (t : TE) (m : MX) : Prop := ∀ (Γ : Fm) (δ : List Sl) (σ : L2.St) (F H : Hp) (Q : VK) (d : D), Rl K Γ F H σ δ → m δ = some d → (∀ v F' H', Gr F H F' H' → Rep K F' d v → Q v H') → t σ H Q
def EvR (K : PySem.W.Frag) (t : TE) (m : MX) : Prop := ∀ (Γ : Fm) (δ : List Sl) (σ : L2.St) (F H : Hp) (Q : VK) (d : D), Rl K Γ F H σ δ → m δ = some d → (∀ v F' H', Gr F H F' H' → RdV K F' H' v d → Q v H') → t σ H Q
def EvRs (K : PySem.W.Frag) (t : TA) (m : MXs) : Prop := ∀ (Γ : Fm) (δ : List Sl) (σ : L2.St) (F H : Hp) (Q : List V → Hp → Prop) (ds : List D), Rl K Γ F H σ δ → m δ = some ds → (∀ vs F' H', Gr F H F' H' → RdVs K F' H' vs ds → Q vs H') → t σ H Q
/-- a pure expression: data -/
structure JX (X : Cx) (e : Expr) (m : MX) : Prop where
  ex : ∃ t, PE X e t ∧ EvX X.K t m
/-- a pure expression: what can be read as data -/
structure JR (X : Cx) (e : Expr) (m : MX) : Prop where
  ex : ∃ t, PE X e t ∧ EvR X.K t m
structure JRs (X : Cx) (es : List Expr) (m : MXs) : Prop where
  ex : ∃ t, PA X es t ∧ EvRs X.K t m
section
variable {X : Cx} {W : WX} {K : PySem.W.Frag} {Γ : Fm} {F H : Hp} {σ : L2.St} {δ δ' : List Sl} {i : Nat} {v : V} {d : D}
variable {a b c e o : Expr} {es : List Expr} {m ma mb mc : MX} {ms : MXs} {pos : Pos} {ta tb te : TE}
theorem JX.r (h : JX X e m) : JR X e m := by
  obtain ⟨t, p, q⟩ := h.ex
  exact ⟨t, p, fun Γ δ σ F H Q d r g f => q Γ δ σ F H Q d r g fun v F' H' g' h => f v F' H' g' (.inl h)⟩
def mX (m : MX) : ME := fun δ => R.ofO (m δ) >>= fun d => .ok (.im d, δ)
theorem JX.je (h : JX X e m) : JE X W e (mX m) := by
  obtain ⟨t, p, q⟩ := h.ex
  refine ⟨t, p, fun Γ δ σ F H Q r g => ?_⟩
  obtain ⟨d, e, g⟩ := Gd.obind g
  exact q Γ δ σ F H Q d r e fun v F' H' g' h => g v F' H' (r.gr g') g'.f h
def xV (i : Nat) : MX := fun δ => match δ[i]? with
  | some (.im d) => some d
  | _ => none
def xR (i : Nat) : MX := fun δ => match δ[i]? with
  | some (.im d) => some d
  | some (.ow t) => t.flat
  | some (.io t) => t.flat
  | _ => none
theorem jx_var (i : Nat) {x : Str} {pos : Pos} (hN : X.N[i]? = some x := by rfl) (hv : Vis X.env.scope x := by first | exact Or.inl rfl | exact Or.inr (Or.inl rfl) | exact Or.inr (Or.inr rfl)) (hd : (x == ("__debug__" : Str)) = false := by decide)
    (hcd : (x == ("__classdict__" : Str)) = false := by decide) : JX X (.Name x pos) (xV i) := by
  refine ⟨_, pe_var (i := i) hN hv hd hcd, fun Γ δ σ F H Q d r g f => ?_⟩
  unfold xV at g
  cases hs : δ[i]? with
  | none => rw [hs] at g; cases g
  | some s =>
    rw [hs] at g
    obtain ⟨ov, fp, e1, e2⟩ := r.sl' hs
    cases s with
    | im d' =>
      cases g
      obtain ⟨_, v, rfl, h⟩ := e2
      exact ⟨v, e1, f v F H (Gr.refl r.sub) h⟩
    | _ => cases g
theorem jr_var (i : Nat) {x : Str} {pos : Pos} (hN : X.N[i]? = some x := by rfl) (hv : Vis X.env.scope x := by first | exact Or.inl rfl | exact Or.inr (Or.inl rfl) | exact Or.inr (Or.inr rfl)) (hd : (x == ("__debug__" : Str)) = false := by decide)
    (hcd : (x == ("__classdict__" : Str)) = false := by decide) : JR X (.Name x pos) (xR i) := by
  refine ⟨_, pe_var (i := i) hN hv hd hcd, fun Γ δ σ F H Q d r g f => ?_⟩
  unfold xR at g
  cases hs : δ[i]? with
  | none => rw [hs] at g; cases g
  | some s =>
    rw [hs] at g
    obtain ⟨ov, fp, e1, e2⟩ := r.sl' hs
    cases s with
    | un => cases g
    | im d' =>
      cases g
      obtain ⟨_, v, rfl, h⟩ := e2
      exact ⟨v, e1, f v F H (Gr.refl r.sub) (.inl h)⟩
    | ow t =>
      obtain ⟨v, rfl, o, _⟩ := e2
      exact ⟨v, e1, f v F H (Gr.refl r.sub) (rd_flat o g)⟩
    | io t =>
      obtain ⟨v, rfl, o, _⟩ := e2
      exact ⟨v, e1, f v F H (Gr.refl r.sub) (rd_flat o g)⟩
def xC (d : D) : MX := fun _ => some d
theorem evXC {d : D} {v : V} (h : ∀ F, Rep K F d v) : EvX K (tC v) (xC d) := fun Γ δ σ F H Q d' r g f => by cases g; exact f v F H (Gr.refl r.sub) (h F)
theorem jx_int {i : Int} {j pos} : JX X (.Constant (.int i) j pos) (xC (.int i)) := ⟨_, pe_int, evXC fun F => by simp only [Rep]⟩
theorem jx_bl {b : Bool} {j pos} : JX X (.Constant (.bool b) j pos) (xC (.bl b)) := ⟨_, pe_bl, evXC fun F => by simp only [Rep]⟩
theorem jx_non {j pos} : JX X (.Constant .none j pos) (xC .non) := ⟨_, pe_non, evXC fun F => by simp only [Rep]⟩
theorem jx_str {x : Str} {j pos} : JX X (.Constant (.str x) j pos) (xC (.str x)) := ⟨_, pe_str, evXC fun F => by simp only [Rep]⟩
theorem jx_glob {x : Str} {v : V} {u : Value} {d : D} {pos : Pos} (hg : Gl X x) (hm : X.mg x = some u) (r : RelV v u) (h : ∀ F, Rep X.K F d v) (hd : (x == ("__debug__" : Str)) = false := by decide) : JX X (.Name x pos) (xC d) :=
  ⟨_, pe_glob hg hm r hd, evXC h⟩
def xBin (op : D → D → Option D) (ma mb : MX) : MX := fun δ => (ma δ).bind fun x => (mb δ).bind fun y => op x y
theorem obind {α β : Type} {o : Option α} {k : α → Option β} {b : β} (h : o.bind k = some b) : ∃ a, o = some a ∧ k a = some b := by
  cases o with
  | none => cases h
  | some a => exact ⟨a, rfl, h⟩
theorem evXBin {r : R2} {op : D → D → Option D} (ho : BinD K r op) (ha : EvR K ta ma) (hb : EvR K tb mb) : EvX K (tOp r ta tb) (xBin op ma mb) := fun Γ δ σ F H Q d hR g f => by
  obtain ⟨x, ex, g⟩ := obind g
  obtain ⟨y, ey, g⟩ := obind g
  refine ha Γ δ σ F H _ x hR ex fun v F1 H1 g1 rv => hb Γ δ σ F1 H1 _ y (hR.gr g1) ey fun w F2 H2 g2 rw' => ?_
  exact ho F2 H2 v w x y d Q g2.s (rv.mono g2) rw' g fun u F3 H3 g3 ru => f u F3 H3 (g1.trans (g2.trans g3)) ru
theorem jx_op {op : Operator} {r : R2} {f : D → D → Option D} (ho : OpR X (binaryOp op) r) (hd : BinD X.K r f) (ha : JR X a ma) (hb : JR X b mb) : JX X (.BinOp a op b pos) (xBin f ma mb) := by
  obtain ⟨ta, pa, ea⟩ := ha.ex
  obtain ⟨tb, pb, eb⟩ := hb.ex
  exact ⟨_, pe_op ho pa pb, evXBin hd ea eb⟩
theorem jx_cmp {op : CmpOp} {r : R2} {f : D → D → Option D} (ho : OpR X (compareOp op) r) (hd : BinD X.K r f) (ha : JR X a ma) (hb : JR X b mb) (hm : behindInMarks op b = false := by rfl) : JX X (.Compare a [op] [b] pos) (xBin f ma mb) := by
  obtain ⟨ta, pa, ea⟩ := ha.ex
  obtain ⟨tb, pb, eb⟩ := hb.ex
  exact ⟨_, pe_cmpR ho pa pb hm, evXBin hd ea eb⟩
theorem jx_ix {r : R2} {f : D → D → Option D} (hr : IxR X r) (hd : BinD X.K r f) (ha : JR X a ma) (hb : JR X b mb) (hs : PlainIx b := by exact fun _ _ => rfl) : JX X (.Subscript a b pos) (xBin f ma mb) := by
  obtain ⟨ta, pa, ea⟩ := ha.ex
  obtain ⟨tb, pb, eb⟩ := hb.ex
  exact ⟨_, pe_ix hr pa pb hs, evXBin hd ea eb⟩
def xUn (op : D → Option D) (m : MX) : MX := fun δ => (m δ).bind op
theorem jx_un {op : UnaryOp} {r : V → Hp → VK → Prop} {f : D → Option D} (ho : UnR X (unaryOp op) r) (hd : UnD X.K r f) (ha : JR X a m) : JX X (.UnaryOp op a pos) (xUn f m) := by
  obtain ⟨ta, pa, ea⟩ := ha.ex
  refine ⟨_, pe_un ho pa, fun Γ δ σ F H Q d hR g k => ?_⟩
  obtain ⟨x, ex, g⟩ := obind g
  exact ea Γ δ σ F H _ x hR ex fun v F1 H1 g1 rv => hd F1 H1 v x d Q g1.s rv g fun u F2 H2 g2 ru => k u F2 H2 (g1.trans g2) ru
def xFld (C : Addr) (f : Str) (m : MX) : MX := fun δ => (m δ).bind (fldD C f)
theorem fld_of {x : V} {C : Addr} {f : Str} {d0 d : D} (s : Same F H) (h : RdV K F H x d0) (e : fldD C f d0 = some d) : ∃ a dx fs v, x = .ref a ∧ H a = some (.ins C dx fs) ∧ fs.lookup f = some v ∧ Rep K F d v := by
  cases d0 with
  | ins C' ns xs =>
    dsimp only [fldD] at e
    split at e
    · rename_i hc
      subst hc
      obtain ⟨a, dx, vs, rfl, q1, l, hr⟩ := h.ins s
      obtain ⟨v, e1, e2⟩ := lookup_zip hr e
      exact ⟨a, dx, _, v, rfl, q1, e1, e2⟩
    · cases e
  | _ => cases e
theorem jx_fld {C : Addr} {f : Str} (hC : Cls X.K C) (hn : NoAttr X.K C f) (he : JR X o m) (hb : attributeBase o f X.env (eval o X.env) = eval o X.env := by rfl) : JX X (.Attribute o f pos) (xFld C f m) := by
  obtain ⟨t, p, q⟩ := he.ex
  refine ⟨_, pe_fld p hb, fun Γ δ σ F H Q d hR g k => ?_⟩
  obtain ⟨x, ex, g⟩ := obind g
  refine q Γ δ σ F H _ x hR ex fun v F1 H1 g1 rv => ?_
  obtain ⟨a, dx, fs, w, rfl, e1, e2, e3⟩ := fld_of g1.s rv g
  exact ⟨a, _, dx, fs, w, rfl, e1, hC, hn, e2, k w F1 H1 g1 e3⟩
/-! #### arguments -/
def xsN : MXs := fun _ => some []
def xsC (m : MX) (r : MXs) : MXs := fun δ => (m δ).bind fun x => (r δ).bind fun xs => some (x :: xs)
theorem jrs_nil : JRs X [] xsN := ⟨_, pa_nil, fun Γ δ σ F H Q ds hR g f => by cases g; exact f [] F H (Gr.refl hR.sub) trivial⟩
theorem RdVs.mono {F' H' : Hp} (g : Gr F H F' H') : ∀ {vs : List V} {ds : List D}, RdVs K F H vs ds → RdVs K F' H' vs ds
  | [], [], _ => trivial
  | v :: vs, d :: ds, h => ⟨h.1.mono g, RdVs.mono g h.2⟩
  | [], _ :: _, h => h.elim
  | _ :: _, [], h => h.elim
theorem jrs_cons (ha : JR X e m) (hr : JRs X es ms) (hs : starEach (e :: es) X.env = (false, eval e X.env) :: starEach es X.env := by rfl) : JRs X (e :: es) (xsC m ms) := by
  obtain ⟨t, p, q⟩ := ha.ex
  obtain ⟨t2, p2, q2⟩ := hr.ex
  refine ⟨_, pa_cons p p2 hs, fun Γ δ σ F H Q ds hR g k => ?_⟩
  obtain ⟨x, ex, g⟩ := obind g
  obtain ⟨xs, exs, g⟩ := obind g
  cases g
  exact q Γ δ σ F H _ x hR ex fun v F1 H1 g1 rv => q2 Γ δ σ F1 H1 _ xs (hR.gr g1) exs fun vs F2 H2 g2 rvs => k _ F2 H2 (g1.trans g2) ⟨rv.mono g2, rvs⟩
variable {x : Str} {p' apos : Pos} {id T : String} {name : Str} {r : List V → Hp → VK → Prop} {f : List D → Option D} {fo : List D → Option (List D)} {rm : V → List V → Hp → VK → Prop} {fm : D → List D → Option D} {fmo : D → List D → Option (List D)}
def xCB (f : List D → Option D) (m : MXs) : MX := fun δ => (m δ).bind f
theorem evXCB {t : TA} (hd : CallD K r f) (h : EvRs K t ms) : EvX K (tCB r t) (xCB f ms) := fun Γ δ σ F H Q d hR g k => by
  obtain ⟨xs, ex, g⟩ := obind g
  exact h Γ δ σ F H _ xs hR ex fun vs F1 H1 g1 rv => hd F1 H1 vs xs d Q g1.s rv g fun u F2 H2 g2 ru => k u F2 H2 (g1.trans g2) ru
theorem jx_callB (hc : CallR X (.builtin id) r) (hd : CallD X.K r f) (hm : X.mg x = none) (hv : bootBuiltins x = some (.builtin id)) (ha : JRs X (e :: es) ms) (hg : Gl X x := by rfl) (hn : x ≠ "__name__" := by decide) (hdb : (x == ("__debug__" : Str)) = false := by decide)
    (he : starEach (e :: es) X.env = (false, eval e X.env) :: starEach es X.env := by rfl) (hpl : (backTo pos (starEach es X.env)).any (·.1) = false := by rfl) : JX X (.Call (.Name x p') (e :: es) [] pos) (xCB f ms) := by
  obtain ⟨t, p, q⟩ := ha.ex
  exact ⟨_, pe_callB hc hg hm hv p hn hdb he hpl, evXCB hd q⟩
theorem jx_callT (hc : CallR X (.type T) r) (hd : CallD X.K r f) (hm : X.mg x = none) (hv : bootBuiltins x = some (.type T)) (ha : JRs X (e :: es) ms) (hg : Gl X x := by rfl) (hn : x ≠ "__name__" := by decide) (hdb : (x == ("__debug__" : Str)) = false := by decide)
    (he : starEach (e :: es) X.env = (false, eval e X.env) :: starEach es X.env := by rfl) (hpl : (backTo pos (starEach es X.env)).any (·.1) = false := by rfl) : JX X (.Call (.Name x p') (e :: es) [] pos) (xCB f ms) := by
  obtain ⟨t, p, q⟩ := ha.ex
  exact ⟨_, pe_callTy hc hg hm hv p hn hdb he hpl, evXCB hd q⟩
def oCB (f : List D → Option (List D)) (m : MXs) : MO := fun δ => R.ofO ((m δ).bind f) >>= fun d => .ok (lsT d, δ)
theorem evOCB {t : TA} (hd : CallO K r fo) (h : EvRs K t ms) : EvO K Γ W (tCB r t) (oCB fo ms) := fun δ σ F H Q hR g => by
  obtain ⟨d, ed, g⟩ := Gd.obind g
  obtain ⟨xs, ex, ed⟩ := obind ed
  refine h Γ δ σ F H _ xs hR ex fun vs F1 H1 g1 rv => hd F1 H1 vs xs d Q g1.s rv ed fun p us hp hr => ?_
  exact g _ F1 _ ((hR.gr g1).newL hp hr) g1.f
theorem jo_callTR (hc : CallR X (.type T) r) (hd : CallO X.K r fo) (hm : X.mg x = none) (hv : bootBuiltins x = some (.type T)) (ha : JRs X (e :: es) ms) (hg : Gl X x := by rfl) (hn : x ≠ "__name__" := by decide) (hdb : (x == ("__debug__" : Str)) = false := by decide)
    (he : starEach (e :: es) X.env = (false, eval e X.env) :: starEach es X.env := by rfl) (hpl : (backTo pos (starEach es X.env)).any (·.1) = false := by rfl) : JO X W (.Call (.Name x p') (e :: es) [] pos) (oCB fo ms) := by
  obtain ⟨t, p, q⟩ := ha.ex
  exact ⟨_, pe_callTy hc hg hm hv p hn hdb he hpl, fun Γ => evOCB hd q⟩
def oBin (op : D → D → Option (List D)) (ma mb : MX) : MO := fun δ => R.ofO (xBin (fun x y => (op x y).map .lst) ma mb δ) >>= fun d => match d with
  | .lst ds => .ok (lsT ds, δ)
  | _ => .bad
theorem jo_opR {op : Operator} {r : R2} {f : D → D → Option (List D)} (ho : OpR X (binaryOp op) r) (hd : BinO X.K r f) (ha : JR X a ma) (hb : JR X b mb) : JO X W (.BinOp a op b pos) (oBin f ma mb) := by
  obtain ⟨ta, pa, ea⟩ := ha.ex
  obtain ⟨tb, pb, eb⟩ := hb.ex
  refine ⟨_, pe_op ho pa pb, fun Γ δ σ F H Q hR g => ?_⟩
  obtain ⟨d, ed, g⟩ := Gd.obind g
  obtain ⟨x, ex, ed⟩ := obind ed
  obtain ⟨y, ey, ed⟩ := obind ed
  dsimp only at ed
  cases q : f x y with
  | none => rw [q] at ed; cases ed
  | some ds =>
    rw [q] at ed
    cases ed
    refine ea Γ δ σ F H _ x hR ex fun v F1 H1 g1 rv => eb Γ δ σ F1 H1 _ y (hR.gr g1) ey fun w F2 H2 g2 rw' => ?_
    refine hd F2 H2 v w x y ds Q g2.s (rv.mono g2) rw' q fun p us hp hr => ?_
    exact g _ F2 _ ((hR.gr (g1.trans g2)).newL hp hr) (g1.trans g2).f
/-- a list's slice and the like, as a subscript -/
theorem jo_ixR {r : R2} {f : D → D → Option (List D)} (hr : IxR X r) (hd : BinO X.K r f) (ha : JR X a ma) (hb : JR X b mb) (hs : PlainIx b := by exact fun _ _ => rfl) : JO X W (.Subscript a b pos) (oBin f ma mb) := by
  obtain ⟨ta, pa, ea⟩ := ha.ex
  obtain ⟨tb, pb, eb⟩ := hb.ex
  refine ⟨_, pe_ix hr pa pb hs, fun Γ δ σ F H Q hR g => ?_⟩
  obtain ⟨d, ed, g⟩ := Gd.obind g
  obtain ⟨x, ex, ed⟩ := obind ed
  obtain ⟨y, ey, ed⟩ := obind ed
  dsimp only at ed
  cases q : f x y with
  | none => rw [q] at ed; cases ed
  | some ds =>
    rw [q] at ed
    cases ed
    refine ea Γ δ σ F H _ x hR ex fun v F1 H1 g1 rv => eb Γ δ σ F1 H1 _ y (hR.gr g1) ey fun w F2 H2 g2 rw' => ?_
    refine hd F2 H2 v w x y ds Q g2.s (rv.mono g2) rw' q fun p us hp hr => ?_
    exact g _ F2 _ ((hR.gr (g1.trans g2)).newL hp hr) (g1.trans g2).f
/-! #### methods of builtin types -/
def xMt (T : String) (f : D → List D → Option D) (m : MX) (ms : MXs) : MX := fun δ => (m δ).bind fun x => if tyD T x = true then (ms δ).bind fun xs => f x xs else none
theorem evXMt {to : TE} {t : TA} (hd : MtD K rm fm) (ho : EvR K to m) (h : EvRs K t ms) : EvX K (tBM K T rm to t) (xMt T fm m ms) := fun Γ δ σ F H Q d hR g k => by
  obtain ⟨x, ex, g⟩ := obind g
  split at g
  · rename_i ht
    obtain ⟨xs, exs, g⟩ := obind g
    refine ho Γ δ σ F H _ x hR ex fun v F1 H1 g1 rv => ⟨ty_of g1.s rv ht, h Γ δ σ F1 H1 _ xs (hR.gr g1) exs fun vs F2 H2 g2 rvs => ?_⟩
    exact hd F2 H2 v vs x xs d Q g2.s (rv.mono g2) rvs g fun u F3 H3 g3 ru => k u F3 H3 (g1.trans (g2.trans g3)) ru
  · cases g
theorem jx_bm (pa : PlainAttrs T) (slot : Slot T name id) (hty : typeOf (.builtin id) = pure (.type "method_descriptor")) (hm : MtR X id rm) (hd : MtD X.K rm fm) (ho : JR X o m) (ha : JRs X (e :: es) ms)
    (hbase : attributeBase o name X.env (eval o X.env) = eval o X.env := by rfl)
    (hfew : ((backTo pos (starEach (e :: es) X.env)).all (fun x => !x.1) && (backToKw pos (keywordEach [] X.env)).all (fun x => x.1.isSome)
      && decide ((e :: es).length + ([] : List Keyword).length + (if ([] : List Keyword).isEmpty then 0 else 1) < 30)) = true := by rfl)
    (hline : (apos.endLine == pos.line) = true := by rfl) (hs : starEach (e :: es) X.env = (false, eval e X.env) :: starEach es X.env := by rfl) (hplain : (backTo pos (starEach es X.env)).any (·.1) = false := by rfl) :
    JX X (.Call (.Attribute o name apos) (e :: es) [] pos) (xMt T fm m ms) := by
  obtain ⟨t, p, q⟩ := ho.ex
  obtain ⟨t2, p2, q2⟩ := ha.ex
  exact ⟨_, pe_bm pa slot hty hm p p2 hbase hfew hline hs hplain, evXMt hd q q2⟩
def oMt (T : String) (f : D → List D → Option (List D)) (m : MX) (ms : MXs) : MO := fun δ => R.ofO (m δ) >>= fun x => if tyD T x = true then R.ofO ((ms δ).bind fun xs => f x xs) >>= fun ds => .ok (lsT ds, δ) else .bad
theorem evOMt {to : TE} {t : TA} (hd : MtO K rm fmo) (ho : EvR K to m) (h : EvRs K t ms) : EvO K Γ W (tBM K T rm to t) (oMt T fmo m ms) := fun δ σ F H Q hR g => by
  obtain ⟨x, ex, g⟩ := Gd.obind g
  split at g
  · rename_i ht
    obtain ⟨ds, ed, g⟩ := Gd.obind g
    obtain ⟨xs, exs, ed⟩ := obind ed
    refine ho Γ δ σ F H _ x hR ex fun v F1 H1 g1 rv => ⟨ty_of g1.s rv ht, h Γ δ σ F1 H1 _ xs (hR.gr g1) exs fun vs F2 H2 g2 rvs => ?_⟩
    refine hd F2 H2 v vs x xs ds Q g2.s (rv.mono g2) rvs ed fun p us hp hr => ?_
    exact g _ F2 _ ((hR.gr (g1.trans g2)).newL hp hr) (g1.trans g2).f
  · exact g.elim
theorem jo_bmR (pa : PlainAttrs T) (slot : Slot T name id) (hty : typeOf (.builtin id) = pure (.type "method_descriptor")) (hm : MtR X id rm) (hd : MtO X.K rm fmo) (ho : JR X o m) (ha : JRs X (e :: es) ms)
    (hbase : attributeBase o name X.env (eval o X.env) = eval o X.env := by rfl)
    (hfew : ((backTo pos (starEach (e :: es) X.env)).all (fun x => !x.1) && (backToKw pos (keywordEach [] X.env)).all (fun x => x.1.isSome)
      && decide ((e :: es).length + ([] : List Keyword).length + (if ([] : List Keyword).isEmpty then 0 else 1) < 30)) = true := by rfl)
    (hline : (apos.endLine == pos.line) = true := by rfl) (hs : starEach (e :: es) X.env = (false, eval e X.env) :: starEach es X.env := by rfl) (hplain : (backTo pos (starEach es X.env)).any (·.1) = false := by rfl) :
    JO X W (.Call (.Attribute o name apos) (e :: es) [] pos) (oMt T fmo m ms) := by
  obtain ⟨t, p, q⟩ := ho.ex
  obtain ⟨t2, p2, q2⟩ := ha.ex
  exact ⟨_, pe_bm pa slot hty hm p p2 hbase hfew hline hs hplain, fun Γ => evOMt hd q q2⟩
/-! #### tuples of data -/
def xTup (m : MXs) : MX := fun δ => (m δ).bind fun ds => if ds.length ≤ 1000 then some (.tup ds) else none
/-- pure arguments, all of them data -/
structure JXs (X : Cx) (es : List Expr) (m : MXs) : Prop where
  ex : ∃ t, PA X es t ∧ ∀ (Γ : Fm) (δ : List Sl) (σ : L2.St) (F H : Hp) (Q : List V → Hp → Prop) (ds : List D), Rl X.K Γ F H σ δ → m δ = some ds → (∀ vs F' H', Gr F H F' H' → Reps X.K F' ds vs → Q vs H') → t σ H Q
theorem jxs_nil : JXs X [] xsN := ⟨_, pa_nil, fun Γ δ σ F H Q ds hR g f => by cases g; exact f [] F H (Gr.refl hR.sub) Reps.nil⟩
theorem jxs_cons (ha : JX X e m) (hr : JXs X es ms) (hs : starEach (e :: es) X.env = (false, eval e X.env) :: starEach es X.env := by rfl) : JXs X (e :: es) (xsC m ms) := by
  obtain ⟨t, p, q⟩ := ha.ex
  obtain ⟨t2, p2, q2⟩ := hr.ex
  refine ⟨_, pa_cons p p2 hs, fun Γ δ σ F H Q ds hR g k => ?_⟩
  obtain ⟨x, ex, g⟩ := obind g
  obtain ⟨xs, exs, g⟩ := obind g
  cases g
  exact q Γ δ σ F H _ x hR ex fun v F1 H1 g1 rv => q2 Γ δ σ F1 H1 _ xs (hR.gr g1) exs fun vs F2 H2 g2 rvs => k _ F2 H2 (g1.trans g2) (Reps.cons (rv.mono g2.f) rvs)
theorem jx_tup {x1} (h : JXs X es ms) : JX X (.Tuple es x1 pos) (xTup ms) := by
  obtain ⟨t, p, q⟩ := h.ex
  refine ⟨_, pe_tup p, fun Γ δ σ F H Q d hR g k => ?_⟩
  obtain ⟨ds, ed, g⟩ := obind g
  split at g
  · rename_i hl
    cases g
    refine q Γ δ σ F H _ ds hR ed fun vs F1 H1 g1 hr => ⟨small1k (by rw [← hr.length]; exact hl), fun p hp => ?_⟩
    have g2 := Gr.new g1.s hp (.tup vs)
    exact k _ _ _ (g1.trans g2) (Rep.tup_iff.mpr ⟨p, vs, rfl, upd_same, hr.mono g2.f⟩)
  · cases g
def oLst (m : MXs) : MO := fun δ => R.ofO (m δ) >>= fun ds => if ds.length ≤ 1000 then .ok (lsT ds, δ) else .bad
theorem jo_lstX (h : JXs X es ms) : JO X W (.List es pos) (oLst ms) := by
  obtain ⟨t, p, q⟩ := h.ex
  refine ⟨_, pe_lst p, fun Γ δ σ F H Q hR g => ?_⟩
  obtain ⟨ds, ed, g⟩ := Gd.obind g
  split at g
  · rename_i hl
    refine q Γ δ σ F H _ ds hR ed fun vs F1 H1 g1 hr => ⟨small1k (by rw [← hr.length]; exact hl), fun p hp => ?_⟩
    exact g _ F1 _ ((hR.gr g1).newL hp hr) g1.f
  · exact g.elim
/-- [own thing] -/
def mLst1 (m : MO) : MO := fun δ => m δ >>= fun p => .ok (.o .l [p.1], p.2)
theorem jo_lst1 {mo : MO} (h : JO X W e mo) (hs : starEach [e] X.env = [(false, eval e X.env)] := by rfl) : JO X W (.List [e] pos) (mLst1 mo) := by
  obtain ⟨t, p, q⟩ := h.ex
  refine ⟨_, pe_lst (pa_cons p pa_nil hs), fun Γ δ σ F H Q r g => ?_⟩
  refine q Γ δ σ F H _ r ((Gd.bind.mp g).mono fun u gu v F1 H1 o s1 => ?_)
  exact ⟨small1k (by simp), fun p hp => gu _ F1 _ (o.one.mk' (sh := .l) hp rfl) s1⟩
end
end GX
/-! GXM: places within own things, own things changed in place. -/
namespace GX
open PySem PySem.Spec PyProof.Rows L2
def kAt {κ : Type} [DecidableEq κ] (k : κ) : List κ → Option Nat
  | [] => none
  | n :: ns => if n = k then some 0 else (kAt k ns).map (· + 1)
def Tr.kid : Tr → Nat → Option Tr
  | .o _ ts, j => ts[j]?
  | .d _, _ => none
def Tr.get : Tr → List Nat → Option Tr
  | t, [] => some t
  | t, j :: π => (t.kid j).bind fun u => u.get π
def Tr.put : Tr → List Nat → Tr → Tr
  | _, [], u => u
  | .o sh ts, j :: π, u => match ts[j]? with
    | some t => .o sh (ts.set j (t.put π u))
    | none => .o sh ts
  | .d x, _ :: _, _ => .d x
def Nav (H : Hp) : Tr → V → List Nat → V → Prop
  | _, v, [], w => w = v
  | t, v, j :: π, w => ∃ sh ts p h vs x u, t = .o sh ts ∧ v = .ref p ∧ H p = some h ∧ Sh.ho sh vs h ∧ vs[j]? = some x ∧ ts[j]? = some u ∧ Nav H u x π w
section
variable {K : PySem.W.Frag} {F H F' H' : Hp}
theorem Tr.get_snoc : ∀ {π : List Nat} {t : Tr} {j : Nat}, t.get (π ++ [j]) = (t.get π).bind fun u => u.kid j
  | [], t, j => by
    show ((t.kid j).bind fun u => some u) = t.kid j
    cases t.kid j <;> rfl
  | i :: π, t, j => by
    show ((t.kid i).bind fun u => u.get (π ++ [j])) = ((t.kid i).bind fun u => u.get π).bind fun u => u.kid j
    cases t.kid i with
    | none => rfl
    | some u => exact Tr.get_snoc (π := π)
theorem Nav.snoc {sh : Sh} {ts : List Tr} {p : Addr} {h : HO} {vs : List V} {x : V} {u : Tr} {j : Nat} (hp : H p = some h) (ho : sh.ho vs h) (hx : vs[j]? = some x) (hu : ts[j]? = some u) :
    ∀ {π : List Nat} {t : Tr} {v : V}, Nav H t v π (.ref p) → t.get π = some (.o sh ts) → Nav H t v (π ++ [j]) x
  | [], t, v, n, g => by
    have n : V.ref p = v := n
    subst n
    have g : t = .o sh ts := Option.some.inj g
    exact ⟨sh, ts, p, h, vs, x, u, g, rfl, hp, ho, hx, hu, rfl⟩
  | i :: π, t, v, n, g => by
    obtain ⟨sh', ts', p', h', vs', x', u', rfl, rfl, a, b, c, d, n⟩ := n
    have g : (ts'[i]?).bind (fun u => u.get π) = some (.o sh ts) := g
    rw [d] at g
    exact ⟨sh', ts', p', h', vs', x', u', rfl, rfl, a, b, c, d, Nav.snoc hp ho hx hu n g⟩
theorem Nav.gr (g : ∀ a, H a ≠ none → H' a = H a) : ∀ {π : List Nat} {t : Tr} {v w : V}, Nav H t v π w → Nav H' t v π w
  | [], t, v, w, n => n
  | i :: π, t, v, w, n => by
    obtain ⟨sh', ts', p', h', vs', x', u', e1, e2, a, b, c, d, n⟩ := n
    exact ⟨sh', ts', p', h', vs', x', u', e1, e2, by rw [g p' (by rw [a]; simp)]; exact a, b, c, d, Nav.gr g n⟩
theorem Ows.at : ∀ {ts : List Tr} {vs : List V} {fp : List Addr} {j : Nat} {t : Tr}, Ows K F H ts vs fp → ts[j]? = some t → ∃ x pre f post, vs[j]? = some x ∧ fp = pre ++ f ++ post ∧ Ow K F H t x f ∧
    ∀ F' H' t' x' f', Same F F' → (∀ a ∈ pre ++ post, H' a = H a) → Ow K F' H' t' x' f' → Ows K F' H' (ts.set j t') (vs.set j x') (pre ++ f' ++ post)
  | [], vs, fp, j, t, h, e => by simp at e
  | t0 :: ts, vs, fp, 0, t, h, e => by
    obtain ⟨v, r, f1, f2, rfl, rfl, h1, h2⟩ := Ows.cons_iff.mp h
    have e : t0 = t := Option.some.inj e
    subst e
    exact ⟨v, [], f1, f2, rfl, rfl, h1, fun F' H' t' x' f' s k o => Ows.cons o (h2.mono s fun a ha => k a ha)⟩
  | t0 :: ts, vs, fp, j + 1, t, h, e => by
    obtain ⟨v, r, f1, f2, rfl, rfl, h1, h2⟩ := Ows.cons_iff.mp h
    obtain ⟨x, pre, f, post, e1, rfl, o, k⟩ := Ows.at (j := j) h2 e
    refine ⟨x, f1 ++ pre, f, post, e1, by simp only [List.append_assoc], o, fun F' H' t' x' f' s q o' => ?_⟩
    have := Ows.cons (h1.mono s fun a ha => q a (by simp [ha])) (k F' H' t' x' f' s (fun a ha => q a (by
      rcases List.mem_append.mp ha with z | z <;> simp [z])) o')
    show Ows K F' H' (t0 :: ts.set j t') (v :: r.set j x') _
    simpa only [List.append_assoc] using this
theorem Ow.at : ∀ {π : List Nat} {t u : Tr} {v w : V} {fp : List Addr}, Ow K F H t v fp → Nav H t v π w → t.get π = some u → ∃ pre f post, fp = pre ++ f ++ post ∧ Ow K F H u w f ∧
    ∀ F' H' u' f', Same F F' → (∀ a ∈ pre ++ post, H' a = H a) → Ow K F' H' u' w f' → Ow K F' H' (t.put π u') v (pre ++ f' ++ post)
  | [], t, u, v, w, fp, h, n, g => by
    have n : w = v := n
    subst n
    have g : t = u := Option.some.inj g
    subst g
    exact ⟨[], fp, [], by simp, h, fun F' H' u' f' s k o => by
      show Ow K F' H' u' w _
      rw [List.nil_append, List.append_nil]
      exact o⟩
  | j :: π, t, u, v, w, fp, h, n, g => by
    obtain ⟨sh, ts, p, h0, vs, x, t1, rfl, rfl, a, b, c, d, n⟩ := n
    have g : (ts[j]?).bind (fun u => u.get π) = some u := g
    rw [d] at g
    obtain ⟨p', h1, vs', fq, e0, rfl, e1, ho, r⟩ := Ow.o_iff.mp h
    cases e0
    rw [a] at e1
    cases e1
    have := Sh.len b ho
    subst this
    obtain ⟨x', pre, f, post, e2, rfl, o, k⟩ := Ows.at r d
    rw [c] at e2
    cases e2
    obtain ⟨pre2, f2, post2, rfl, o2, k2⟩ := Ow.at o n g
    refine ⟨p :: (pre ++ pre2), f2, post2 ++ post, by simp only [List.append_assoc, List.cons_append], o2, fun F' H' u' f' s q o' => ?_⟩
    have q1 := k2 F' H' u' f' s (fun a ha => q a (by
      rcases List.mem_append.mp ha with z | z <;> simp [z])) o'
    have q2 := k F' H' _ x _ s (fun a ha => q a (by
      rcases List.mem_append.mp ha with z | z <;> simp [z])) q1
    have hx : vs'.set j x = vs' := by
      obtain ⟨hl, hg⟩ := List.getElem?_eq_some_iff.mp c
      rw [← hg]
      exact List.set_getElem_self hl
    rw [hx] at q2
    show Ow K F' H' (match ts[j]? with
      | some t => .o sh (ts.set j (t.put π u'))
      | none => .o sh ts) _ _
    rw [d]
    refine Ow.o_iff.mpr ⟨p, h0, vs', pre ++ (pre2 ++ f' ++ post2) ++ post, rfl, by simp only [List.append_assoc, List.cons_append], by rw [q p (by simp)]; exact a, ho, q2⟩
end
def putAt (δ : List Sl) (i : Nat) (t : Tr) : List Sl := match δ[i]? with
  | some s => δ.set i (s.put t)
  | none => δ
/-- the place π in slot i holds u, at v -/
def At (H : Hp) (σ : L2.St) (δ : List Sl) (i : Nat) (π : List Nat) (u : Tr) (v : V) : Prop := ∃ root t, σ[i]? = some (some root) ∧ ownAt δ i = some t ∧ t.get π = some u ∧ Nav H t root π v
def putP (δ : List Sl) (i : Nat) (π : List Nat) (u : Tr) : List Sl := match ownAt δ i with
  | some t => putAt δ i (t.put π u)
  | none => δ
section
variable {X : Cx} {W : WX} {K : PySem.W.Frag} {Γ : Fm} {F H F' H' : Hp} {σ : L2.St} {δ δ' : List Sl} {i : Nat} {π : List Nat} {u : Tr} {v : V} {d : D} {φ : Nat → List Addr}
theorem At.gr (a : At H σ δ i π u v) (g : ∀ a, H a ≠ none → H' a = H a) : At H' σ δ i π u v := by
  obtain ⟨root, t, e1, e2, e3, n⟩ := a
  exact ⟨root, t, e1, e2, e3, n.gr g⟩
theorem At.ow (r : RlP K Γ F H σ δ φ) (a : At H σ δ i π u v) : ∃ f, Ow K F H u v f ∧ ∀ x ∈ f, x ∈ φ i := by
  obtain ⟨root, t, e1, e2, e3, n⟩ := a
  obtain ⟨w, q1, o, _, _⟩ := r.own e2
  rw [e1] at q1
  cases q1
  obtain ⟨pre, f, post, e, o2, _⟩ := o.at n e3
  exact ⟨f, o2, fun x hx => by rw [e]; simp [hx]⟩
theorem RlP.mutate {p : Addr} {sh : Sh} {ts : List Tr} {fpn : List Addr} (r : RlP K Γ F H σ δ φ) (a : At H σ δ i π (.o sh ts) (.ref p)) (hfn : ∀ a ∈ fpn, H a ≠ none ∧ F a = none ∧ (Γ.H0 a = none ∨ Γ.M a)) (hsep : ∀ j a, a ∈ φ j → a ∉ fpn) :
    ∃ h vs fq, H p = some h ∧ sh.ho vs h ∧ Ows K F H ts vs fq ∧ fq.Nodup ∧ (∀ a ∈ fq, a ∈ φ i) ∧ ∀ sh' ts' vs' h' fq', Sh.ho sh' vs' h' → Ows K F H ts' vs' fq' → fq'.Nodup → (∀ a ∈ fq', a ∈ fq ∨ a ∈ fpn) →
      Rl K Γ F (upd H p h') σ (putP δ i π (.o sh' ts')) := by
  obtain ⟨root, t, e1, e2, e3, n⟩ := a
  obtain ⟨s, q1, q2⟩ := ownAt_some e2
  obtain ⟨ov, w1, w2⟩ := r.sl i s q1
  obtain ⟨w, rfl, o, nd, z⟩ := w2.own q2
  rw [e1] at w1
  cases w1
  obtain ⟨pre, f, post, e, o2, k⟩ := o.at n e3
  obtain ⟨p', h, vs, fq, e0, rfl, hp, ho, rs⟩ := Ow.o_iff.mp o2
  cases e0
  rw [e] at nd
  have nd1 : (pre ++ (p :: fq)).Nodup := (List.nodup_append.mp nd).1
  have nd2 : (p :: fq).Nodup := (List.nodup_append.mp nd1).2.1
  have pin : p ∈ φ i := by rw [e]; simp
  have sub : ∀ a ∈ fq, a ∈ φ i := fun a ha => by rw [e]; simp [ha]
  refine ⟨h, vs, fq, hp, ho, rs, (List.nodup_cons.mp nd2).2, sub, fun sh' ts' vs' h' fq' ho' rs' nd' mem => ?_⟩
  have memi : ∀ a ∈ fq', a ∈ φ i ∨ a ∈ fpn := fun a ha => (mem a ha).imp (sub a) id
  have pnf : p ∉ fq' := fun ha => by
    rcases mem p ha with q | q
    · exact (List.nodup_cons.mp nd2).1 q
    · exact hsep i p pin q
  have npn : ∀ a ∈ pre ++ post, a ≠ p := fun a ha z => by
    subst z
    rw [show pre ++ a :: fq ++ post = pre ++ (a :: (fq ++ post)) by simp] at nd
    have n3 := List.nodup_append.mp nd
    rcases List.mem_append.mp ha with q | q
    · exact n3.2.2 a q a List.mem_cons_self rfl
    · exact (List.nodup_cons.mp n3.2.1).1 (List.mem_append_right _ q)
  have os := k F (upd H p h') (.o sh' ts') (p :: fq') (Same.refl _) (fun a ha => upd_ne (npn a ha))
    (Ow.o_iff.mpr ⟨p, h', vs', fq', rfl, rfl, upd_same, ho', rs'.mono (Same.refl _) fun a ha => upd_ne fun z => pnf (by rw [← z]; exact ha)⟩)
  have ndf : (pre ++ (p :: fq') ++ post).Nodup := by
    have n3 := List.nodup_append.mp nd
    have n4 := List.nodup_append.mp n3.1
    have inb : ∀ x ∈ pre ++ post, x ∈ φ i := fun x hx => by
      rw [e]; rcases List.mem_append.mp hx with q | q <;> simp [q]
    have dis : ∀ x ∈ p :: fq', x ∈ (p :: fq) ∨ x ∈ fpn := fun x hx => by
      rcases List.mem_cons.mp hx with rfl | hx
      · exact .inl List.mem_cons_self
      · exact (mem x hx).imp (List.mem_cons_of_mem _) id
    refine List.nodup_append.mpr ⟨List.nodup_append.mpr ⟨n4.1, List.nodup_cons.mpr ⟨pnf, nd'⟩, fun x hx y hy hxy => ?_⟩, n3.2.1, fun x hx y hy hxy => ?_⟩
    · subst hxy
      rcases dis x hy with q | q
      · exact n4.2.2 x hx x q rfl
      · exact hsep i x (inb x (List.mem_append_left _ hx)) q
    · subst hxy
      rcases List.mem_append.mp hx with q | q
      · exact n3.2.2 x (List.mem_append_left _ q) x hy rfl
      · rcases dis x q with q | q
        · exact n3.2.2 x (List.mem_append_right _ q) x hy rfl
        · exact hsep i x (inb x (List.mem_append_right _ hy)) q
  have all : ∀ a ∈ pre ++ (p :: fq') ++ post, a ∈ φ i ∨ a ∈ fpn := fun a ha => by
    rcases List.mem_append.mp ha with q | q
    · rcases List.mem_append.mp q with q | q
      · exact .inl (by rw [e]; simp [q])
      · rcases List.mem_cons.mp q with rfl | q
        · exact .inl pin
        · exact memi a q
    · exact .inl (by rw [e]; simp [q])
  have pf : F p = none := (r.inn pin).2.1
  have st : putP δ i π (.o sh' ts') = δ.set i (s.put (t.put π (.o sh' ts'))) := by
    unfold putP putAt
    rw [e2, q1]
  rw [st]
  refine ⟨_, r.set1 (fp := pre ++ (p :: fq') ++ post) (w := some root) q1 (fun a x ea => ?_) (Same.refl _) rfl e1 (fun _ _ => rfl) (fun a ha hn => upd_ne fun z => hn (by rw [z]; exact pin)) (fun _ _ _ => rfl) (fun a ha => ?_) ?_ (fun a ha => (all a ha).imp id fun q j _ hj => hsep j a hj q)⟩
  · rw [upd_ne (fun q => by rw [q, pf] at ea; cases ea)]; exact r.sub a x ea
  · by_cases q : a = p
    · rw [q, upd_same]; simp
    · rw [upd_ne q]; exact ha
  · have fr : ∀ a ∈ pre ++ (p :: fq') ++ post, F a = none := fun a ha => by
      rcases all a ha with q | q
      · exact (r.inn q).2.1
      · exact (hfn a q).2.1
    cases s with
    | un => cases q2
    | im d => cases q2
    | ow t' =>
      obtain ⟨_, _, _, _, zz⟩ := w2
      exact ⟨root, rfl, os, ndf, fun a ha => ⟨fr a ha, by
        rcases all a ha with q | q
        · exact (zz a q).2
        · exact (hfn a q).2.2⟩⟩
    | io t' =>
      obtain ⟨_, er, _, _, zz, zr⟩ := w2
      cases er
      exact ⟨root, rfl, os, ndf, fun a ha => ⟨fr a ha, by
        rcases all a ha with q | q
        · exact (zz a q).2
        · exact (hfn a q).2.2.imp id .inl⟩, zr⟩
/-! ### places as expressions -/
abbrev MP := List Sl → Option (Nat × List Nat × Tr)
structure JP (X : Cx) (e : Expr) (m : MP) : Prop where
  ex : ∃ t, PE X e t ∧ ∀ (Γ : Fm) (δ : List Sl) (σ : L2.St) (F H : Hp) (Q : VK) (i : Nat) (π : List Nat) (u : Tr), Rl X.K Γ F H σ δ → m δ = some (i, π, u) → (∀ v F' H', Gr F H F' H' → At H' σ δ i π u v → Q v H') → t σ H Q
variable {a b c e o : Expr} {es : List Expr} {m mk : MX} {mp : MP} {mo : MO} {me : ME} {pos : Pos}
def pV (i : Nat) : MP := fun δ => (ownAt δ i).map fun t => (i, [], t)
theorem jp_var (i : Nat) {x : Str} {pos : Pos} (hN : X.N[i]? = some x := by rfl) (hv : Vis X.env.scope x := by first | exact Or.inl rfl | exact Or.inr (Or.inl rfl) | exact Or.inr (Or.inr rfl)) (hd : (x == ("__debug__" : Str)) = false := by decide)
    (hcd : (x == ("__classdict__" : Str)) = false := by decide) : JP X (.Name x pos) (pV i) := by
  refine ⟨_, pe_var (i := i) hN hv hd hcd, fun Γ δ σ F H Q j π u r g f => ?_⟩
  unfold pV at g
  cases q : ownAt δ i with
  | none => rw [q] at g; cases g
  | some t =>
    rw [q] at g
    cases g
    obtain ⟨φ, r⟩ := r
    obtain ⟨v, e1, _⟩ := r.own q
    exact ⟨v, e1, f v F H (Gr.refl r.sub) ⟨v, _, e1, q, rfl, rfl⟩⟩
theorem lookup_kAt {f : Str} : ∀ {ns : List Str} {vs : List V} {j : Nat} {v : V}, kAt f ns = some j → vs[j]? = some v → (ns.zip vs).lookup f = some v
  | [], vs, j, v, e, h => by cases e
  | n :: ns, [], j, v, e, h => by simp at h
  | n :: ns, v0 :: vs, j, v, e, h => by
    unfold kAt at e
    simp only [List.zip_cons_cons, List.lookup_cons]
    by_cases q : n = f
    · rw [if_pos q] at e
      cases e
      have : (f == n) = true := beq_iff_eq.mpr q.symm
      rw [this]
      exact h
    · rw [if_neg q] at e
      have : (f == n) = false := beq_eq_false_iff_ne.mpr (fun z => q z.symm)
      rw [this]
      cases q2 : kAt f ns with
      | none => rw [q2] at e; cases e
      | some k =>
        rw [q2] at e
        cases e
        exact lookup_kAt (j := k) q2 h
def pFld (C : Addr) (f : Str) (mp : MP) : MP := fun δ => (mp δ).bind fun r => match r.2.2 with
  | .o (.i C' ns) ts => if C' = C then (kAt f ns).bind fun j => (ts[j]?).map fun u => (r.1, r.2.1 ++ [j], u) else none
  | _ => none
theorem At.node {p : Addr} {sh : Sh} {ts : List Tr} (r : RlP K Γ F H σ δ φ) (a : At H σ δ i π (.o sh ts) v) : ∃ p h vs f, v = .ref p ∧ H p = some h ∧ sh.ho vs h ∧ Ows K F H ts vs f := by
  obtain ⟨f, o, _⟩ := a.ow r
  obtain ⟨p, h, vs, fq, e, _, hp, ho, rs⟩ := Ow.o_iff.mp o
  exact ⟨p, h, vs, fq, e, hp, ho, rs⟩
theorem At.snoc {p : Addr} {sh : Sh} {ts : List Tr} {h : HO} {vs : List V} {x : V} {j : Nat} (a : At H σ δ i π (.o sh ts) (.ref p)) (hp : H p = some h) (ho : sh.ho vs h) (hx : vs[j]? = some x) (hu : ts[j]? = some u) : At H σ δ i (π ++ [j]) u x := by
  obtain ⟨root, t, e1, e2, e3, n⟩ := a
  refine ⟨root, t, e1, e2, ?_, n.snoc hp ho hx hu e3⟩
  rw [Tr.get_snoc, e3]
  exact hu
theorem jp_fld {C : Addr} {f : Str} (hC : Cls X.K C) (hn : NoAttr X.K C f) (he : JP X o mp) (hb : attributeBase o f X.env (eval o X.env) = eval o X.env := by rfl) : JP X (.Attribute o f pos) (pFld C f mp) := by
  obtain ⟨t, p, q⟩ := he.ex
  refine ⟨_, pe_fld p hb, fun Γ δ σ F H Q i π u r g k => ?_⟩
  obtain ⟨⟨i', π', u'⟩, e0, g⟩ := obind g
  refine q Γ δ σ F H _ i' π' u' r e0 fun v F1 H1 g1 a1 => ?_
  cases u' with
  | d _ => cases g
  | o sh ts =>
    cases sh with
    | i C' ns =>
      have g' : (if C' = C then (kAt f ns).bind fun j => (ts[j]?).map fun u => (i', π' ++ [j], u) else none) = some (i, π, u) := g
      clear g
      split at g'
      · rename_i hc
        subst hc
        obtain ⟨j, ej, g'⟩ := obind g'
        cases et : ts[j]? with
        | none => rw [et] at g'; cases g'
        | some t' =>
          rw [et] at g'
          cases g'
          obtain ⟨φ, r1⟩ := r.gr g1
          obtain ⟨p', h, vs, f', rfl, hp, ⟨dx, rfl, hl⟩, rs⟩ := a1.node (p := 0) r1
          obtain ⟨x, _, _, _, ex, _, _, _⟩ := rs.at et
          exact ⟨p', _, dx, _, x, rfl, hp, hC, hn, lookup_kAt ej ex, k x F1 H1 g1 (a1.snoc hp ⟨dx, rfl, hl⟩ ex et)⟩
      · cases g'
    | l => cases g
    | k _ => cases g
    | t _ => cases g
def pIx (mp : MP) (mk : MX) : MP := fun δ => (mp δ).bind fun r => (mk δ).bind fun k => match r.2.2, k with
  | .o .l ts, .int k => (ixN ts.length k).bind fun j => (ts[j]?).map fun u => (r.1, r.2.1 ++ [j], u)
  | _, _ => none
theorem jp_ix (ho : JP X o mp) (hk : JR X b mk) (hs : PlainIx b := by exact fun _ _ => rfl) : JP X (.Subscript o b pos) (pIx mp mk) := by
  obtain ⟨t, p, q⟩ := ho.ex
  obtain ⟨t2, p2, q2⟩ := hk.ex
  refine ⟨_, pe_ix ix_list p p2 hs, fun Γ δ σ F H Q i π u r g k => ?_⟩
  obtain ⟨⟨i', π', u'⟩, e0, g⟩ := obind g
  obtain ⟨dk, ek, g⟩ := obind g
  refine q Γ δ σ F H _ i' π' u' r e0 fun v F1 H1 g1 a1 => q2 Γ δ σ F1 H1 _ dk (r.gr g1) ek fun w F2 H2 g2 rk => ?_
  cases u' with
  | d _ => cases g
  | o sh ts =>
    cases sh with
    | l =>
      cases dk with
      | int z =>
        have g : ((ixN ts.length z).bind fun j => (ts[j]?).map fun u => (i', π' ++ [j], u)) = some (i, π, u) := g
        obtain ⟨j, ej, g⟩ := obind g
        cases et : ts[j]? with
        | none => rw [et] at g; cases g
        | some t' =>
          rw [et] at g
          cases g
          have a2 := a1.gr g2.h
          obtain ⟨φ, r2⟩ := r.gr (g1.trans g2)
          obtain ⟨p', h, vs, f', rfl, hp, ho, rs⟩ := a2.node (p := 0) r2
          have ho : h = .lst vs := ho
          subst ho
          obtain ⟨x, _, _, _, ex, _, _, _⟩ := rs.at et
          refine ⟨p', vs, z, x, rfl, rk.int, SqL.of hp, ?_, k x F2 H2 (g1.trans g2) (a2.snoc hp rfl ex et)⟩
          unfold atI
          rw [← rs.length, ej]
          exact ex
      | _ => cases g
    | i _ _ => cases g
    | k _ => cases g
    | t _ => cases g
def xP (mp : MP) : MX := fun δ => (mp δ).bind fun r => match r.2.2 with
  | .d x => some x
  | _ => none
theorem JP.jx (h : JP X e mp) : JX X e (xP mp) := by
  obtain ⟨t, p, q⟩ := h.ex
  refine ⟨t, p, fun Γ δ σ F H Q d r g k => ?_⟩
  obtain ⟨⟨i', π', u'⟩, e0, g⟩ := obind g
  refine q Γ δ σ F H _ i' π' u' r e0 fun v F1 H1 g1 a1 => ?_
  cases u' with
  | o _ _ => cases g
  | d x =>
    cases g
    obtain ⟨φ, r1⟩ := r.gr g1
    obtain ⟨f, o, _⟩ := a1.ow r1
    exact k v F1 H1 g1 (Ow.d_iff.mp o).2
def xPR (mp : MP) : MX := fun δ => (mp δ).bind fun r => r.2.2.flat
theorem JP.jr (h : JP X e mp) : JR X e (xPR mp) := by
  obtain ⟨t, p, q⟩ := h.ex
  refine ⟨t, p, fun Γ δ σ F H Q d r g k => ?_⟩
  obtain ⟨⟨i', π', u'⟩, e0, g⟩ := obind g
  refine q Γ δ σ F H _ i' π' u' r e0 fun v F1 H1 g1 a1 => ?_
  obtain ⟨φ, r1⟩ := r.gr g1
  obtain ⟨f, o, _⟩ := a1.ow r1
  exact k v F1 H1 g1 (rd_flat o g)
/-! ### changes -/
theorem Rl.mutate {p : Addr} {sh : Sh} {ts : List Tr} (r : Rl K Γ F H σ δ) (a : At H σ δ i π (.o sh ts) (.ref p)) :
    ∃ h vs fq, H p = some h ∧ sh.ho vs h ∧ Ows K F H ts vs fq ∧ fq.Nodup ∧ ∀ sh' ts' vs' h' fq', Sh.ho sh' vs' h' → Ows K F H ts' vs' fq' → fq'.Nodup → (∀ a ∈ fq', a ∈ fq) → Rl K Γ F (upd H p h') σ (putP δ i π (.o sh' ts')) := by
  obtain ⟨φ, r⟩ := r
  obtain ⟨h, vs, fq, a1, a2, a3, a4, _, k⟩ := r.mutate (fpn := []) a (fun a ha => by cases ha) (fun j a _ h => by cases h)
  exact ⟨h, vs, fq, a1, a2, a3, a4, fun sh' ts' vs' h' fq' b1 b2 b3 b4 => k sh' ts' vs' h' fq' b1 b2 b3 fun a ha => .inl (b4 a ha)⟩
theorem Ows.append : ∀ {ts us : List Tr} {vs ws : List V} {f1 f2 : List Addr}, Ows K F H ts vs f1 → Ows K F H us ws f2 → Ows K F H (ts ++ us) (vs ++ ws) (f1 ++ f2)
  | [], us, vs, ws, f1, f2, h1, h2 => by
    obtain ⟨rfl, rfl⟩ := Ows.nil_iff.mp h1
    exact h2
  | t :: ts, us, vs, ws, f1, f2, h1, h2 => by
    obtain ⟨v, r, g1, g2, rfl, rfl, a, b⟩ := Ows.cons_iff.mp h1
    have := Ows.cons a (Ows.append b h2)
    rw [List.append_assoc]
    exact this
/-- a new thing goes into a node -/
theorem OwN.into {p : Addr} {sh : Sh} {ts : List Tr} {t : Tr} {w : V} (o : OwN K Γ F H σ δ w t) (a : At H σ δ i π (.o sh ts) (.ref p)) :
    ∃ h vs, H p = some h ∧ sh.ho vs h ∧ vs.length = ts.length ∧ (∀ sh' h', Sh.ho sh' (vs ++ [w]) h' → Rl K Γ F (upd H p h') σ (putP δ i π (.o sh' (ts ++ [t])))) ∧
      (∀ j h', j < ts.length → Sh.ho sh (vs.set j w) h' → Rl K Γ F (upd H p h') σ (putP δ i π (.o sh (ts.set j t)))) := by
  obtain ⟨φ, fp, r, b1, b2, b3, b4⟩ := o.ex
  obtain ⟨h, vs, fq, a1, a2, a3, a4, a5, k⟩ := r.mutate (fpn := fp) a (fun x hx => ⟨b1.there x hx, b3 x hx⟩) b4
  refine ⟨h, vs, a1, a2, a3.length.symm, fun sh' h' ho' => ?_, fun j h' hj ho' => ?_⟩
  · have o1 := Ows.cons b1 (Ows.nil (K := K) (F := F) (H := H))
    rw [List.append_nil] at o1
    refine k sh' _ _ h' _ ho' (a3.append o1) (List.nodup_append.mpr ⟨a4, b2, fun x hx y hy hxy => ?_⟩) fun x hx => (List.mem_append.mp hx)
    subst hxy
    exact b4 i x (a5 x hx) hy
  · obtain ⟨x, pre, f, post, e1, rfl, o1, k2⟩ := a3.at (List.getElem?_eq_getElem hj)
    have o2 := k2 F H t w fp (Same.refl _) (fun _ _ => rfl) b1
    refine k sh _ _ h' _ ho' o2 ?_ fun x hx => ?_
    · have n1 := List.nodup_append.mp a4
      have n2 := List.nodup_append.mp n1.1
      refine List.nodup_append.mpr ⟨List.nodup_append.mpr ⟨n2.1, b2, fun x hx y hy hxy => ?_⟩, n1.2.1, fun x hx y hy hxy => ?_⟩
      · subst hxy
        exact b4 i x (a5 x (by simp [hx])) hy
      · subst hxy
        rcases List.mem_append.mp hx with q | q
        · exact n1.2.2 x (List.mem_append_left _ q) x hy rfl
        · exact b4 i x (a5 x (by simp [hy])) q
    · rcases List.mem_append.mp hx with q | q
      · rcases List.mem_append.mp q with q | q
        · exact .inl (by simp [q])
        · exact .inr q
      · exact .inl (by simp [q])
/-- xs.append(e), xs in slot i -/
def mApp (i : Nat) (m : MO) : ME := fun δ => match ownAt δ i with
  | some (.o .l _) => m δ >>= fun p => (match ownAt p.2 i with
    | some (.o .l ts) => if ts.length < sizeLine then .ok (.im .non, putP p.2 i [] (.o .l (ts ++ [p.1]))) else .bad
    | _ => .bad)
  | _ => .bad
theorem je_app (i : Nat) {x : Str} {p' apos : Pos} (hN : X.N[i]? = some x := by rfl) (hv : Vis X.env.scope x := by first | exact Or.inl rfl | exact Or.inr (Or.inl rfl) | exact Or.inr (Or.inr rfl)) (h : JO X W e mo)
    (hbase : attributeBase (.Name x p') "append" X.env (eval (.Name x p') X.env) = eval (.Name x p') X.env := by rfl)
    (hfew : ((backTo pos (starEach (e :: []) X.env)).all (fun x => !x.1) && (backToKw pos (keywordEach [] X.env)).all (fun x => x.1.isSome)
      && decide ((e :: []).length + ([] : List Keyword).length + (if ([] : List Keyword).isEmpty then 0 else 1) < 30)) = true := by rfl)
    (hline : (apos.endLine == pos.line) = true := by rfl) (hs : starEach (e :: []) X.env = (false, eval e X.env) :: starEach [] X.env := by rfl) (hplain : (backTo pos (starEach [] X.env)).any (·.1) = false := by rfl)
    (hd : (x == ("__debug__" : Str)) = false := by decide) (hcd : (x == ("__classdict__" : Str)) = false := by decide) : JE X W (.Call (.Attribute (.Name x p') "append" apos) (e :: []) [] pos) (mApp i mo) := by
  obtain ⟨t, p, q⟩ := h.ex
  refine ⟨_, pe_bm PySem.F.plainAttrs_list PySem.F.slot_list_append PySem.F.type_list_append mt_append (pe_var (i := i) hN hv hd hcd) (pa_cons p pa_nil hs) hbase hfew hline hs hplain, fun Γ δ σ F H Q r g => ?_⟩
  unfold mApp at g
  cases e0 : ownAt δ i with
  | none => rw [e0] at g; exact g.elim
  | some t0 =>
    rw [e0] at g
    cases t0 with
    | d _ => exact g.elim
    | o sh ts0 =>
      cases sh with
      | i _ _ => exact g.elim
      | k _ => exact g.elim
      | t _ => exact g.elim
      | l =>
        obtain ⟨φ, r0⟩ := r
        obtain ⟨v0, z0, o0, _⟩ := r0.own e0
        obtain ⟨p0, h0, vs0, fq, rfl, _, y0, ho0, _⟩ := Ow.o_iff.mp o0
        have ho0 : h0 = .lst vs0 := ho0
        subst ho0
        refine ⟨_, z0, .inl ⟨rfl, vs0, SqL.of y0⟩, ?_⟩
        refine q Γ δ σ F H _ ⟨φ, r0⟩ ((Gd.bind.mp g).mono fun u gu v F1 H1 o1 s1 => ?_)
        obtain ⟨t1, δ1⟩ := u
        dsimp only at gu
        cases e1 : ownAt δ1 i with
        | none => rw [e1] at gu; exact gu.elim
        | some t2 =>
          rw [e1] at gu
          cases t2 with
          | d _ => exact gu.elim
          | o sh2 ts =>
            cases sh2 with
            | i _ _ => exact gu.elim
            | k _ => exact gu.elim
            | t _ => exact gu.elim
            | l =>
              have gu : Gd X.K Γ W (if ts.length < sizeLine then R.ok (Vl.im D.non, putP δ1 i [] (.o .l (ts ++ [t1]))) else R.bad) _ := gu
              split at gu
              · rename_i hl
                obtain ⟨h1, vs, y1, ho1, l1, k1, _⟩ := o1.into (i := i) (π := []) (p := p0) ⟨_, _, z0, e1, rfl, rfl⟩
                have ho1 : h1 = .lst vs := ho1
                subst ho1
                refine ⟨p0, vs, v, rfl, rfl, y1, by rw [l1]; exact hl, ?_⟩
                exact gu _ F1 _ (k1 .l _ rfl) s1 (by show Rep _ _ _ _; simp only [Rep])
              · exact gu.elim
/-- place.append(e), e pure -/
def mAppP (mp : MP) (m : MX) : ME := fun δ => R.ofO (mp δ) >>= fun r => R.ofO (m δ) >>= fun d => match r.2.2 with
  | .o .l ts => if ts.length < sizeLine then .ok (.im .non, putP δ r.1 r.2.1 (.o .l (ts ++ [.d d]))) else .bad
  | _ => .bad
theorem je_appP {apos : Pos} (ho : JP X o mp) (h : JX X e m) (hbase : attributeBase o "append" X.env (eval o X.env) = eval o X.env := by rfl)
    (hfew : ((backTo pos (starEach (e :: []) X.env)).all (fun x => !x.1) && (backToKw pos (keywordEach [] X.env)).all (fun x => x.1.isSome)
      && decide ((e :: []).length + ([] : List Keyword).length + (if ([] : List Keyword).isEmpty then 0 else 1) < 30)) = true := by rfl)
    (hline : (apos.endLine == pos.line) = true := by rfl) (hs : starEach (e :: []) X.env = (false, eval e X.env) :: starEach [] X.env := by rfl) (hplain : (backTo pos (starEach [] X.env)).any (·.1) = false := by rfl) : JE X W (.Call (.Attribute o "append" apos) (e :: []) [] pos) (mAppP mp m) := by
  obtain ⟨t, p, q⟩ := h.ex
  obtain ⟨t2, p2, q2⟩ := ho.ex
  refine ⟨_, pe_bm PySem.F.plainAttrs_list PySem.F.slot_list_append PySem.F.type_list_append mt_append p2 (pa_cons p pa_nil hs) hbase hfew hline hs hplain, fun Γ δ σ F H Q r g => ?_⟩
  obtain ⟨⟨i, π, u⟩, e0, g⟩ := Gd.obind g
  obtain ⟨d, ed, g⟩ := Gd.obind g
  cases u with
  | d _ => exact g.elim
  | o sh ts =>
    cases sh with
    | i _ _ => exact g.elim
    | k _ => exact g.elim
    | t _ => exact g.elim
    | l =>
      have g : Gd X.K Γ W (if ts.length < sizeLine then R.ok (Vl.im D.non, putP δ i π (.o .l (ts ++ [.d d]))) else R.bad) _ := g
      split at g
      · rename_i hl
        refine q2 Γ δ σ F H _ i π _ r e0 fun v F1 H1 g1 a1 => ?_
        obtain ⟨φ, r1⟩ := r.gr g1
        obtain ⟨p', h0, vs0, f0, rfl, hp0, ho0, _⟩ := a1.node (p := 0) r1
        have ho0 : h0 = .lst vs0 := ho0
        subst ho0
        refine ⟨.inl ⟨rfl, vs0, SqL.of hp0⟩, q Γ δ σ F1 H1 _ d ⟨φ, r1⟩ ed fun w F2 H2 g2 rw' => ?_⟩
        have o2 : OwN X.K Γ F2 H2 σ δ w (.d d) := (r.gr (g1.trans g2)).im rw'
        obtain ⟨h1, vs, y1, ho1, l1, k1, _⟩ := o2.into (a1.gr g2.h)
        have ho1 : h1 = .lst vs := ho1
        subst ho1
        refine ⟨p', vs, w, rfl, rfl, y1, by rw [l1]; exact hl, ?_⟩
        exact g _ F2 _ (k1 .l _ rfl) (g1.trans g2).f (by show Rep _ _ _ _; simp only [Rep])
      · exact g.elim
/-- xs.pop(e), xs in slot i, its parts data -/
def mPop (i : Nat) (m : ME) : ME := fun δ => match ownAt δ i with
  | some (.o .l _) => m δ >>= fun p => (match ownAt p.2 i, p.1 with
    | some (.o .l ts), .im (.int k) => if -(2 ^ 63) ≤ k ∧ k.toNat < 2 ^ 63 then R.ofO (ixN ts.length k) >>= fun j => (match ts[j]? with
      | some (.d d) => .ok (.im d, putP p.2 i [] (.o .l (ts.eraseIdx j)))
      | _ => .bad) else .bad
    | _, _ => .bad)
  | _ => .bad
theorem Ows.erase : ∀ {ts : List Tr} {vs : List V} {fp : List Addr} (j : Nat), Ows K F H ts vs fp → ∃ f, Ows K F H (ts.eraseIdx j) (vs.eraseIdx j) f ∧ f.Sublist fp
  | [], vs, fp, j, h => by
    obtain ⟨rfl, rfl⟩ := Ows.nil_iff.mp h
    exact ⟨[], Ows.nil, List.Sublist.refl _⟩
  | t :: ts, vs, fp, 0, h => by
    obtain ⟨v, r, g1, g2, rfl, rfl, a, b⟩ := Ows.cons_iff.mp h
    exact ⟨g2, b, List.sublist_append_right _ _⟩
  | t :: ts, vs, fp, j + 1, h => by
    obtain ⟨v, r, g1, g2, rfl, rfl, a, b⟩ := Ows.cons_iff.mp h
    obtain ⟨f, c, d⟩ := Ows.erase j b
    exact ⟨g1 ++ f, Ows.cons a c, List.Sublist.append (List.Sublist.refl _) d⟩
theorem je_pop (i : Nat) {x : Str} {p' apos : Pos} (hN : X.N[i]? = some x := by rfl) (hv : Vis X.env.scope x := by first | exact Or.inl rfl | exact Or.inr (Or.inl rfl) | exact Or.inr (Or.inr rfl)) (h : JE X W e me)
    (hbase : attributeBase (.Name x p') "pop" X.env (eval (.Name x p') X.env) = eval (.Name x p') X.env := by rfl)
    (hfew : ((backTo pos (starEach (e :: []) X.env)).all (fun x => !x.1) && (backToKw pos (keywordEach [] X.env)).all (fun x => x.1.isSome)
      && decide ((e :: []).length + ([] : List Keyword).length + (if ([] : List Keyword).isEmpty then 0 else 1) < 30)) = true := by rfl)
    (hline : (apos.endLine == pos.line) = true := by rfl) (hs : starEach (e :: []) X.env = (false, eval e X.env) :: starEach [] X.env := by rfl) (hplain : (backTo pos (starEach [] X.env)).any (·.1) = false := by rfl)
    (hd : (x == ("__debug__" : Str)) = false := by decide) (hcd : (x == ("__classdict__" : Str)) = false := by decide) : JE X W (.Call (.Attribute (.Name x p') "pop" apos) (e :: []) [] pos) (mPop i me) := by
  obtain ⟨t, p, q⟩ := h.ex
  refine ⟨_, pe_bm PySem.F.plainAttrs_list PySem.F.slot_list_pop PySem.F.type_list_pop mt_popAt (pe_var (i := i) hN hv hd hcd) (pa_cons p pa_nil hs) hbase hfew hline hs hplain, fun Γ δ σ F H Q r g => ?_⟩
  unfold mPop at g
  cases e0 : ownAt δ i with
  | none => rw [e0] at g; exact g.elim
  | some t0 =>
    rw [e0] at g
    cases t0 with
    | d _ => exact g.elim
    | o sh ts0 =>
      cases sh with
      | i _ _ => exact g.elim
      | k _ => exact g.elim
      | t _ => exact g.elim
      | l =>
        obtain ⟨φ, r0⟩ := r
        obtain ⟨v0, z0, o0, _⟩ := r0.own e0
        obtain ⟨p0, h0, vs0, fq, rfl, _, y0, ho0, _⟩ := Ow.o_iff.mp o0
        have ho0 : h0 = .lst vs0 := ho0
        subst ho0
        refine ⟨_, z0, .inl ⟨rfl, vs0, SqL.of y0⟩, ?_⟩
        refine q Γ δ σ F H _ ⟨φ, r0⟩ ((Gd.bind.mp g).mono fun u gu v F1 H1 R1 s1 hv => ?_)
        obtain ⟨x1, δ1⟩ := u
        dsimp only at gu
        cases e1 : ownAt δ1 i with
        | none => rw [e1] at gu; exact gu.elim
        | some t2 =>
          rw [e1] at gu
          cases t2 with
          | d _ => exact gu.elim
          | o sh2 ts =>
            cases sh2 with
            | i _ _ => exact gu.elim
            | k _ => exact gu.elim
            | t _ => exact gu.elim
            | l =>
              cases x1 with
              | sl _ => exact gu.elim
              | im dk =>
                cases dk with
                | int k =>
                  have ev : v = .int k := (Rep.int_iff (K := X.K) (H := F1)).mp hv
                  subst ev
                  dsimp only at gu
                  split at gu
                  · rename_i hk
                    obtain ⟨j, ej, gu⟩ := Gd.obind gu
                    cases et : ts[j]? with
                    | none => rw [et] at gu; exact gu.elim
                    | some tj =>
                      rw [et] at gu
                      cases tj with
                      | o _ _ => exact gu.elim
                      | d d =>
                        obtain ⟨h1, vs, fq1, y1, ho1, rs, nd, k1⟩ := R1.mutate (i := i) (π := []) (p := p0) ⟨_, _, z0, e1, rfl, rfl⟩
                        have ho1 : h1 = .lst vs := ho1
                        subst ho1
                        obtain ⟨w, _, _, _, ew, _, ow, _⟩ := rs.at et
                        obtain ⟨f2, o2, sb⟩ := rs.erase j
                        rw [rs.length] at ej
                        refine ⟨p0, vs, k, j, w, rfl, rfl, y1, hk.1, by omega, (ixN_seq ej).1, ew, ?_⟩
                        exact gu _ F1 _ (k1 .l _ _ _ _ rfl o2 (sb.nodup nd) fun a ha => sb.subset ha) s1 (Ow.d_iff.mp ow).2
                  · exact gu.elim
                | _ => exact gu.elim
/-- place[k] = e, of a list -/
def mSetI (mp : MP) (mk : MX) (mo : MO) : MS := fun δ => mo δ >>= fun p => R.ofO (mp p.2) >>= fun r => R.ofO (mk p.2) >>= fun k => match r.2.2, k with
  | .o .l ts, .int k => R.ofO (ixN ts.length k) >>= fun j => .ok (.nx (putP p.2 r.1 r.2.1 (.o .l (ts.set j p.1))))
  | _, _ => .bad
theorem js_setI {k : Expr} {tpos : Pos} (he : JO X W e mo) (ho : JP X o mp) (hk : JR X k mk)
    (ha : ∀ v, assign (.Subscript o k tpos) X.env v = (do
      let ov ← holding [v] (eval o X.env)
      let iv ← holding [v, ov] (eval k X.env)
      standAt tpos
      holding [v, ov, iv] (setItem ov iv v)
      release [v, ov, iv] []) := by intro _; rfl)
    (hs : swapsWithSole [.Subscript o k tpos] e pos.line X.env = pure false := by rfl) (hw : swappedStores [.Subscript o k tpos] e X.env = pure none := by rfl)
    (h1 : (assignEach [.Subscript o k tpos] X.env).map (·.2) = [assign (.Subscript o k tpos) X.env] := by rfl) : JS X W (.Assign [.Subscript o k tpos] e pos) (mSetI mp mk mo) := by
  obtain ⟨te, pe, qe⟩ := he.ex
  obtain ⟨to, po, qo⟩ := ho.ex
  obtain ⟨tk, pk, qk⟩ := hk.ex
  refine ⟨_, ps_asg pe (pg_sub po pk set_list ha) hs hw h1, fun Γ δ σ F H En r g => ?_⟩
  refine qe Γ δ σ F H _ r ((Gd.bind.mp g).mono fun u gu v F1 H1 o1 s1 => ?_)
  obtain ⟨t1, δ1⟩ := u
  obtain ⟨⟨i, π, u⟩, e0, gu⟩ := Gd.obind gu
  obtain ⟨dk, ek, gu⟩ := Gd.obind gu
  refine qo Γ δ1 σ F1 H1 _ i π u o1.rl e0 fun w F2 H2 g2 a2 => qk Γ δ1 σ F2 H2 _ dk (o1.rl.gr g2) ek fun kv F3 H3 g3 rk => ?_
  cases u with
  | d _ => exact gu.elim
  | o sh ts =>
    cases sh with
    | i _ _ => exact gu.elim
    | k _ => exact gu.elim
    | t _ => exact gu.elim
    | l =>
      cases dk with
      | int z =>
        obtain ⟨j, ej, gu⟩ := Gd.obind gu
        have o3 := o1.gr (g2.trans g3)
        have a3 := a2.gr g3.h
        obtain ⟨φ, r3⟩ := o3.rl
        obtain ⟨p', _, _, _, rfl, _⟩ := a3.node (p := 0) r3
        obtain ⟨h1, vs, y1, ho1, l1, _, k2⟩ := o3.into a3
        have ho1 : h1 = .lst vs := ho1
        subst ho1
        refine ⟨p', vs, z, j, rfl, rk.int, y1, by rw [l1]; exact ej, ?_⟩
        exact gu σ F3 _ (k2 j _ (ixN_seq ej).2.1 rfl) (s1.trans (g2.trans g3).f)
      | _ => exact gu.elim
end
end GX
/-! GXN: items of dicts, fields, augmented items. -/
namespace GX
open PySem PySem.Spec PyProof.Rows L2
section
variable {X : Cx} {W : WX} {K : PySem.W.Frag} {Γ : Fm} {F H F' H' : Hp} {σ : L2.St} {δ δ' : List Sl} {i : Nat} {π : List Nat} {u : Tr} {v : V} {d : D}
variable {a b c e o : Expr} {es : List Expr} {m mk : MX} {mp : MP} {mo : MO} {me : ME} {pos : Pos}
def keyD : D → Option Key
  | .int i => some (.inl i)
  | .str s => some (.inr s)
  | _ => none
theorem keyD_v {d : D} {k : Key} (h : RdV K F H v d) (e : keyD d = some k) : v = kV k := by
  cases d with
  | int i => cases e; exact h.int
  | str s => cases e; exact h.str
  | _ => cases e
theorem kAt_not {κ : Type} [DecidableEq κ] {k : κ} : ∀ {ks : List κ}, kAt k ks = none → k ∉ ks
  | [], _ => by simp
  | n :: ns, e => by
    unfold kAt at e
    by_cases q : n = k
    · rw [if_pos q] at e; cases e
    · rw [if_neg q] at e
      cases q2 : kAt k ns with
      | none =>
        have := kAt_not q2
        intro z
        rcases List.mem_cons.mp z with z | z
        · exact q z.symm
        · exact this z
      | some j => rw [q2] at e; cases e
theorem kAt_some {κ : Type} [DecidableEq κ] {k : κ} : ∀ {ks : List κ} {j : Nat}, kAt k ks = some j → ks[j]? = some k ∧ j < ks.length
  | [], j, e => by cases e
  | n :: ns, j, e => by
    unfold kAt at e
    by_cases q : n = k
    · rw [if_pos q] at e; cases e
      exact ⟨congrArg some q, by simp⟩
    · rw [if_neg q] at e
      cases q2 : kAt k ns with
      | none => rw [q2] at e; cases e
      | some j' =>
        rw [q2] at e; cases e
        obtain ⟨h1, h2⟩ := kAt_some q2
        exact ⟨h1, by simp; omega⟩
theorem putK_new {κ : Type} [DecidableEq κ] {k : κ} {v : V} {ks : List κ} {vs : List V} (h : k ∉ ks) (hl : ks.length = vs.length) : putK (ks.zip vs) k v = (ks ++ [k]).zip (vs ++ [v]) := by
  unfold putK
  rw [if_neg, List.zip_append hl]
  · rfl
  · intro z
    obtain ⟨kv, h1, h2⟩ := List.any_eq_true.mp z
    have : kv.1 ∈ ks := (List.of_mem_zip (show (kv.1, kv.2) ∈ ks.zip vs from h1)).1
    exact h (by rw [← of_decide_eq_true h2]; exact this)
theorem valV_at {κ : Type} [DecidableEq κ] {k : κ} : ∀ {ks : List κ} {vs : List V} {j : Nat} {v : V}, kAt k ks = some j → vs[j]? = some v → valV (ks.zip vs) k = some v
  | [], vs, j, v, e, h => by cases e
  | n :: ns, [], j, v, e, h => by simp at h
  | n :: ns, v0 :: vs, j, v, e, h => by
    unfold kAt at e
    by_cases q : n = k
    · rw [if_pos q] at e
      cases e
      rw [List.zip_cons_cons, valV_pos (p := (n, v0)) q]
      exact h
    · rw [if_neg q] at e
      cases q2 : kAt k ns with
      | none => rw [q2] at e; cases e
      | some k' =>
        rw [q2] at e
        cases e
        rw [List.zip_cons_cons, valV_neg (p := (n, v0)) q]
        exact valV_at q2 h
theorem valV_no {κ : Type} [DecidableEq κ] {k : κ} : ∀ {ks : List κ} {vs : List V}, kAt k ks = none → valV (ks.zip vs) k = none
  | [], vs, e => by simp [valV]
  | n :: ns, [], e => by simp [valV]
  | n :: ns, v0 :: vs, e => by
    unfold kAt at e
    by_cases q : n = k
    · rw [if_pos q] at e; cases e
    · rw [if_neg q] at e
      cases q2 : kAt k ns with
      | some k' => rw [q2] at e; cases e
      | none => rw [List.zip_cons_cons, valV_neg (p := (n, v0)) q]; exact valV_no q2
theorem putK_map {κ : Type} [DecidableEq κ] {k : κ} {v : V} : ∀ {ks : List κ} {vs : List V} {j : Nat}, ks.Nodup → kAt k ks = some j → ks.length = vs.length → (ks.zip vs).map (fun kv => if kv.1 = k then (kv.1, v) else kv) = ks.zip (vs.set j v)
  | [], vs, j, _, e, hl => by cases e
  | n :: ns, [], j, _, e, hl => by simp at hl
  | n :: ns, v0 :: vs, j, nd, e, hl => by
    unfold kAt at e
    by_cases q : n = k
    · rw [if_pos q] at e
      cases e
      subst q
      simp only [List.zip_cons_cons, List.map_cons, List.set_cons_zero, if_pos]
      congr 1
      refine (List.map_congr_left fun kv hkv => ?_).trans (List.map_id _)
      have : kv.1 ∈ ns := (List.of_mem_zip (show (kv.1, kv.2) ∈ ns.zip vs from hkv)).1
      rw [if_neg (fun z => (List.nodup_cons.mp nd).1 (by rw [← z]; exact this))]
      rfl
    · rw [if_neg q] at e
      cases q2 : kAt k ns with
      | none => rw [q2] at e; cases e
      | some j' =>
        rw [q2] at e
        cases e
        show _ = (n :: ns).zip (v0 :: vs.set j' v)
        simp only [List.zip_cons_cons, List.map_cons, if_neg q]
        rw [putK_map (List.nodup_cons.mp nd).2 q2 (by simpa using hl)]
theorem putK_old {κ : Type} [DecidableEq κ] {k : κ} {v : V} {ks : List κ} {vs : List V} {j : Nat} (nd : ks.Nodup) (e : kAt k ks = some j) (hl : ks.length = vs.length) : putK (ks.zip vs) k v = ks.zip (vs.set j v) := by
  unfold putK
  rw [if_pos, putK_map nd e hl]
  obtain ⟨h1, h2⟩ := kAt_some e
  have h3 : j < (ks.zip vs).length := by rw [List.length_zip]; omega
  refine List.any_eq_true.mpr ⟨(ks.zip vs)[j], List.getElem_mem h3, ?_⟩
  have : ks[j] = k := by
    have := List.getElem?_eq_getElem h2
    rw [h1] at this
    exact (Option.some.inj this).symm
  rw [List.getElem_zip]
  exact decide_eq_true this
theorem putF_at {f : Str} {v : V} : ∀ {ns : List Str} {vs : List V}, ns.length = vs.length → putF f v (ns.zip vs) = match kAt f ns with
    | some j => ns.zip (vs.set j v)
    | none => (ns ++ [f]).zip (vs ++ [v])
  | [], [], _ => rfl
  | [], _ :: _, h => by simp at h
  | _ :: _, [], h => by simp at h
  | n :: ns, v0 :: vs, h => by
    have ih := putF_at (f := f) (v := v) (ns := ns) (vs := vs) (by simpa using h)
    rw [List.zip_cons_cons, show putF f v ((n, v0) :: ns.zip vs) = (if n = f then (n, v) :: ns.zip vs else (n, v0) :: putF f v (ns.zip vs)) from rfl]
    unfold kAt
    by_cases q : n = f
    · rw [if_pos q, if_pos q]; rfl
    · rw [if_neg q, if_neg q, ih]
      cases kAt f ns <;> rfl
/-- d[k] = e of an own dict with ints and texts as keys -/
def mSetK (mp : MP) (mk : MX) (mo : MO) : MS := fun δ => mo δ >>= fun p => R.ofO (mp p.2) >>= fun r => R.ofO (mk p.2) >>= fun k => match r.2.2 with
  | .o (.k ks) ts => R.ofO (keyD k) >>= fun k => if ks.length < sizeLine then (match kAt k ks with
    | none => .ok (.nx (putP p.2 r.1 r.2.1 (.o (.k (ks ++ [k])) (ts ++ [p.1]))))
    | some j => if ks.Nodup then .ok (.nx (putP p.2 r.1 r.2.1 (.o (.k ks) (ts.set j p.1)))) else .bad) else .bad
  | _ => .bad
theorem js_setK {k : Expr} {tpos : Pos} (hu : X.A.units + 1 < cLine) (he : JO X W e mo) (ho : JP X o mp) (hk : JR X k mk)
    (ha : ∀ v, assign (.Subscript o k tpos) X.env v = (do
      let ov ← holding [v] (eval o X.env)
      let iv ← holding [v, ov] (eval k X.env)
      standAt tpos
      holding [v, ov, iv] (setItem ov iv v)
      release [v, ov, iv] []) := by intro _; rfl)
    (hs : swapsWithSole [.Subscript o k tpos] e pos.line X.env = pure false := by rfl) (hw : swappedStores [.Subscript o k tpos] e X.env = pure none := by rfl)
    (h1 : (assignEach [.Subscript o k tpos] X.env).map (·.2) = [assign (.Subscript o k tpos) X.env] := by rfl) : JS X W (.Assign [.Subscript o k tpos] e pos) (mSetK mp mk mo) := by
  obtain ⟨te, pe, qe⟩ := he.ex
  obtain ⟨to, po, qo⟩ := ho.ex
  obtain ⟨tk, pk, qk⟩ := hk.ex
  refine ⟨_, ps_asg pe (pg_sub po pk (set_dict hu) ha) hs hw h1, fun Γ δ σ F H En r g => ?_⟩
  refine qe Γ δ σ F H _ r ((Gd.bind.mp g).mono fun u gu v F1 H1 o1 s1 => ?_)
  obtain ⟨t1, δ1⟩ := u
  obtain ⟨⟨i, π, u⟩, e0, gu⟩ := Gd.obind gu
  obtain ⟨dk, ek, gu⟩ := Gd.obind gu
  refine qo Γ δ1 σ F1 H1 _ i π u o1.rl e0 fun w F2 H2 g2 a2 => qk Γ δ1 σ F2 H2 _ dk (o1.rl.gr g2) ek fun kv F3 H3 g3 rk => ?_
  cases u with
  | d _ => exact gu.elim
  | o sh ts =>
    cases sh with
    | i _ _ => exact gu.elim
    | l => exact gu.elim
    | t _ => exact gu.elim
    | k ks =>
      obtain ⟨k, ek, gu⟩ := Gd.obind gu
      have o3 := o1.gr (g2.trans g3)
      have a3 := a2.gr g3.h
      obtain ⟨φ, r3⟩ := o3.rl
      obtain ⟨p', _, _, _, rfl, _⟩ := a3.node (p := 0) r3
      obtain ⟨h1, vs, y1, ho1, l1, k1, k2⟩ := o3.into a3
      obtain ⟨rfl, hl⟩ := ho1
      have gu : Gd X.K Γ W (if ks.length < sizeLine then (match kAt k ks with
        | none => R.ok (Out.nx (putP δ1 i π (.o (.k (ks ++ [k])) (ts ++ [t1]))))
        | some j => if ks.Nodup then R.ok (Out.nx (putP δ1 i π (.o (.k ks) (ts.set j t1)))) else R.bad) else R.bad) _ := gu
      split at gu
      · rename_i hlt
        refine ⟨p', _, rfl, .inl ⟨_, k, y1, keyD_v rk ek, by rw [List.length_zip]; omega, rfl⟩, ?_⟩
        cases q : kAt k ks with
        | none =>
          rw [q] at gu
          rw [putK_new (kAt_not q) hl]
          exact gu σ F3 _ (k1 (.k (ks ++ [k])) _ ⟨rfl, by simp [hl]⟩) (s1.trans (g2.trans g3).f)
        | some j =>
          rw [q] at gu
          have gu : Gd X.K Γ W (if ks.Nodup then R.ok (Out.nx (putP δ1 i π (.o (.k ks) (ts.set j t1)))) else R.bad) _ := gu
          split at gu
          · rename_i nd
            rw [putK_old nd q hl]
            exact gu σ F3 _ (k2 j _ (by rw [← l1, ← hl]; exact (kAt_some q).2) ⟨rfl, by rw [List.length_set]; exact hl⟩) (s1.trans (g2.trans g3).f)
          · exact gu.elim
      · exact gu.elim
/-- o.f = e, o an own instance -/
def mSetF (C : Addr) (f : Str) (mp : MP) (mo : MO) : MS := fun δ => mo δ >>= fun p => R.ofO (mp p.2) >>= fun r => match r.2.2 with
  | .o (.i C' ns) ts => if C' = C ∧ ns.length < 1000 then (match kAt f ns with
    | none => .ok (.nx (putP p.2 r.1 r.2.1 (.o (.i C (ns ++ [f])) (ts ++ [p.1]))))
    | some j => .ok (.nx (putP p.2 r.1 r.2.1 (.o (.i C ns) (ts.set j p.1))))) else .bad
  | _ => .bad
theorem js_setF {C : Addr} {f : Str} {tpos : Pos} (hC : Cls X.K C) (hn : NoAttr X.K C f) (he : JO X W e mo) (ho : JP X o mp) (hs : swapsWith e (some (.Attribute o f tpos)) pos.line X.env = pure false := by rfl) :
    JS X W (.Assign [.Attribute o f tpos] e pos) (mSetF C f mp mo) := by
  obtain ⟨te, pe, qe⟩ := he.ex
  obtain ⟨to, po, qo⟩ := ho.ex
  refine ⟨_, ps_fld po pe hs, fun Γ δ σ F H En r g => ?_⟩
  refine qe Γ δ σ F H _ r ((Gd.bind.mp g).mono fun u gu v F1 H1 o1 s1 => ?_)
  obtain ⟨t1, δ1⟩ := u
  obtain ⟨⟨i, π, u⟩, e0, gu⟩ := Gd.obind gu
  refine qo Γ δ1 σ F1 H1 _ i π u o1.rl e0 fun w F2 H2 g2 a2 => ?_
  cases u with
  | d _ => exact gu.elim
  | o sh ts =>
    cases sh with
    | k _ => exact gu.elim
    | l => exact gu.elim
    | t _ => exact gu.elim
    | i C' ns =>
      have gu : Gd X.K Γ W (if C' = C ∧ ns.length < 1000 then (match kAt f ns with
        | none => R.ok (Out.nx (putP δ1 i π (.o (.i C (ns ++ [f])) (ts ++ [t1]))))
        | some j => R.ok (Out.nx (putP δ1 i π (.o (.i C ns) (ts.set j t1))))) else R.bad) _ := gu
      split at gu
      · rename_i hc
        obtain ⟨hc, hlt⟩ := hc
        subst hc
        have o2 := o1.gr g2
        obtain ⟨φ, r2⟩ := o2.rl
        obtain ⟨p', _, _, _, rfl, _⟩ := a2.node (p := 0) r2
        obtain ⟨h1, vs, y1, ho1, l1, k1, k2⟩ := o2.into a2
        obtain ⟨dx, rfl, hl⟩ := ho1
        refine ⟨p', _, dx, _, rfl, y1, hC, hn, by rw [List.length_zip]; omega, ?_⟩
        rw [putF_at hl]
        cases q : kAt f ns with
        | none =>
          rw [q] at gu
          exact gu σ F2 _ (k1 (.i _ (ns ++ [f])) _ ⟨dx, rfl, by simp [hl]⟩) (s1.trans g2.f)
        | some j =>
          rw [q] at gu
          exact gu σ F2 _ (k2 j _ (by rw [← l1, ← hl]; exact (kAt_some q).2) ⟨dx, rfl, by rw [List.length_set]; exact hl⟩) (s1.trans g2.f)
      · exact gu.elim
/-! ### xs[k] op= e -/
theorem get_list : PGet X (rIxL X.K) := by
  intro pins s σ H x y v u Q I rx ry h
  obtain ⟨p, xs, i, z, rfl, rfl, hq, he, q⟩ := h
  cases rx
  obtain ⟨t, rfl⟩ := ry
  obtain ⟨its, r, pl, hz⟩ := I.list hq
  obtain ⟨j, h1, h2, h3, h4, h5⟩ := atI_get he
  obtain ⟨w, ew, rw'⟩ := r.get h2
  have hl := r.length
  have hn := line63
  by_cases h0 : 0 ≤ i
  · have hj : i.toNat = j := by
      rw [seqIndex_of h0 h5] at h1
      exact Option.some.inj h1
    exact wpAny_getItem_list pl.isList h0 (by omega) (by rw [hj]; simpa using ew) ⟨z, H, I, rw', q⟩
  · have hj : (i + (its.toArray.size : Int)).toNat = j := by
      rw [seqIndex_neg (by omega) h4] at h1
      rw [List.size_toArray, ← hl]
      exact Option.some.inj h1
    exact wpAny_getItem_list_neg pl.isList (by omega) (by rw [List.size_toArray] <;> omega) (by omega) (by rw [hj]; simpa using ew) ⟨z, H, I, rw', q⟩
/-- place[k] op= e, e pure -/
def mAugI (f : D → D → Option D) (mp : MP) (mk m : MX) : MS := fun δ => R.ofO (mp δ) >>= fun r => R.ofO (mk δ) >>= fun k => R.ofO (m δ) >>= fun y => match r.2.2, k with
  | .o .l ts, .int k => R.ofO (ixN ts.length k) >>= fun j => (match ts[j]? with
    | some (.d x) => R.ofO (f x y) >>= fun z => .ok (.nx (putP δ r.1 r.2.1 (.o .l (ts.set j (.d z)))))
    | _ => .bad)
  | _, _ => .bad
theorem js_augI {op : Operator} {r2 : R2} {f : D → D → Option D} {k : Expr} {tpos : Pos} (hp : PIp X op r2) (hd : BinD X.K r2 f) (ho : JP X o mp) (hk : JR X k mk) (he : JR X e m)
    (ha : ∀ ov iv new, augStore k ov iv new = (do holding [new, ov, iv] (setItem ov iv new); release [new, ov, iv] []; pure .next) := by intros; rfl) : JS X W (.AugAssign (.Subscript o k tpos) op e pos) (mAugI f mp mk m) := by
  obtain ⟨te, pe, qe⟩ := he.ex
  obtain ⟨to, po, qo⟩ := ho.ex
  obtain ⟨tk, pk, qk⟩ := hk.ex
  refine ⟨_, ps_augS po pk get_list pe hp set_list ha, fun Γ δ σ F H En r g => ?_⟩
  obtain ⟨⟨i, π, u⟩, e0, g⟩ := Gd.obind g
  obtain ⟨dk, ek, g⟩ := Gd.obind g
  obtain ⟨dy, ey, g⟩ := Gd.obind g
  refine qo Γ δ σ F H _ i π u r e0 fun w F2 H2 g2 a2 => qk Γ δ σ F2 H2 _ dk (r.gr g2) ek fun kv F3 H3 g3 rk => ?_
  cases u with
  | d _ => exact g.elim
  | o sh ts =>
    cases sh with
    | i _ _ => exact g.elim
    | k _ => exact g.elim
    | t _ => exact g.elim
    | l =>
      cases dk with
      | int z =>
        obtain ⟨j, ej, g⟩ := Gd.obind g
        have a3 := a2.gr g3.h
        have r3 := r.gr (g2.trans g3)
        obtain ⟨φ, r3'⟩ := r3
        obtain ⟨p', h1, vs, ff, rfl, hp1, ho1, rs⟩ := a3.node (p := 0) r3'
        have ho1 : h1 = .lst vs := ho1
        subst ho1
        cases et : ts[j]? with
        | none => rw [et] at g; exact g.elim
        | some tj =>
          rw [et] at g
          cases tj with
          | o _ _ => exact g.elim
          | d dx =>
            obtain ⟨dz, ez, g⟩ := Gd.obind g
            obtain ⟨x, _, _, _, ex, _, ox, _⟩ := rs.at et
            refine ⟨p', vs, z, x, rfl, rk.int, SqL.of hp1, by unfold atI; rw [← rs.length, ej]; exact ex, ?_⟩
            have rx := (Ow.d_iff.mp ox).2
            refine qe Γ δ σ F3 H3 _ dy ⟨φ, r3'⟩ ey fun y F4 H4 g4 ry => hd F4 H4 x y dx dy dz _ g4.s (.inl (rx.mono g4.f)) ry ez fun zv F5 H5 g5 rz => ?_
            have a5 := (a3.gr g4.h).gr g5.h
            have r5 := r.gr (g2.trans (g3.trans (g4.trans g5)))
            obtain ⟨h2, vs2, y2, ho2, l2, _, k2⟩ := (r5.im rz).into a5
            have ho2 : h2 = .lst vs2 := ho2
            subst ho2
            refine ⟨p', vs2, z, j, rfl, rk.int, y2, by rw [l2]; exact ej, ?_⟩
            exact g σ F5 _ (k2 j _ (ixN_seq ej).2.1 rfl) (g2.trans (g3.trans (g4.trans g5))).f
      | _ => exact g.elim
/-- {} as an own dict -/
def mDnew : MO := fun δ => .ok (.o (.k []) [], δ)
theorem jo_dnew : JO X W (.Dict [] [] pos) mDnew := ⟨_, pe_dnewK, fun Γ δ σ F H Q r g p hp => g _ F _ ((r.ims (ds := []) Reps.nil).mk' (sh := .k []) hp ⟨rfl, rfl⟩) (Same.refl _)⟩
def mDnewT : MO := fun δ => .ok (.o (.t []) [], δ)
theorem jo_dnewT : JO X W (.Dict [] [] pos) mDnewT := ⟨_, pe_dnewT, fun Γ δ σ F H Q r g p hp => g _ F _ ((r.ims (ds := []) Reps.nil).mk' (sh := .t []) hp ⟨rfl, rfl⟩) (Same.refl _)⟩
end
end GX
/-! GX5: what is walked, targets, for, while, list comprehensions. -/
namespace GX
open PySem PySem.Spec PyProof.Rows L2
/-- J walks over ds, whatever else happens -/
structure Wk (K : PySem.W.Frag) (J : It) (ds : List D) (F1 : Hp) : Prop where
  go : ∀ (i : Nat) (F H : Hp), Same F1 F → Same F H → i < ds.length → J.go i H
  yl : ∀ (i : Nat) (d : D) (F H : Hp) (x : V) (H' : Hp), Same F1 F → Same F H → ds[i]? = some d → J.yld i H x H' → ∃ F', Gr F H F' H' ∧ Rep K F' d x
  st : ∀ (i : Nat) (F H : Hp), Same F1 F → Same F H → ds.length ≤ i → J.stop i H
abbrev MI := List Sl → R (List D × List Sl)
def EvI (K : PySem.W.Frag) (Γ : Fm) (W : WX) (w : TI) (m : MI) : Prop := ∀ (δ : List Sl) (σ : L2.St) (F H : Hp) (Q : It → Hp → Prop), Rl K Γ F H σ δ →
  Gd K Γ W (m δ) (fun r => ∀ J F' H', Rl K Γ F' H' σ r.2 → Same F F' → Wk K J r.1 F' → Q J H') → w σ H Q
structure JI (X : Cx) (W : WX) (tg e : Expr) (m : MI) : Prop where
  ex : ∃ w, PI X tg e w ∧ ∀ Γ, EvI X.K Γ W w m
/-- slots out of tv are as they were -/
def Keeps (tv : List Nat) (σ σ' : L2.St) : Prop := σ'.length = σ.length ∧ ∀ j, j ∉ tv → σ'[j]? = σ[j]?
/-- a target -/
abbrev MG := D → List Sl → R (List Sl)
def EvG (K : PySem.W.Frag) (Γ : Fm) (W : WX) (g : TG) (m : MG) (tv : List Nat) : Prop := ∀ (v : V) (d : D) (δ : List Sl) (σ : L2.St) (F H : Hp) (Q : L2.St → Hp → Prop), Rl K Γ F H σ δ → Rep K F d v →
  Gd K Γ W (m d δ) (fun δ' => ∀ σ', Rl K Γ F H σ' δ' → Keeps tv σ σ' → Q σ' H) → g v σ H Q
structure JG (X : Cx) (W : WX) (tg : Expr) (m : MG) (tv : List Nat) : Prop where
  ex : ∃ g, PG X tg g ∧ ∀ Γ, EvG X.K Γ W g m tv
abbrev MGs := List D → List Sl → R (List Sl)
def EvGs (K : PySem.W.Frag) (Γ : Fm) (W : WX) (g : TGs) (m : MGs) (tv : List Nat) : Prop := ∀ (vs : List V) (ds : List D) (δ : List Sl) (σ : L2.St) (F H : Hp) (Q : L2.St → Hp → Prop), Rl K Γ F H σ δ → Reps K F ds vs →
  Gd K Γ W (m ds δ) (fun δ' => ∀ σ', Rl K Γ F H σ' δ' → Keeps tv σ σ' → Q σ' H) → g vs σ H Q
structure JGs (X : Cx) (W : WX) (tg : List Expr) (m : MGs) (tv : List Nat) : Prop where
  ex : ∃ g, PGs X tg g ∧ ∀ Γ, EvGs X.K Γ W g m tv
section
variable {X : Cx} {W : WX} {K : PySem.W.Frag} {Γ : Fm} {F H : Hp} {σ : L2.St} {δ δ' : List Sl} {i : Nat} {v : V} {d : D}
variable {a b c e tg : Expr} {m ma mb mc : ME} {pos : Pos} {te : TE} {st : Stmt} {rest sa sb body : List Stmt} {s1 s2 : MS} {mt : MT} {mo : MO} {mi : MI} {mg : MG} {mr : MA}
/-! ### targets -/
def gN (i : Nat) : MG := fun d δ => stor i (.im d) δ
theorem jg_name (i : Nat) {x : Str} (hN : X.N.Nodup) (hi : X.N[i]? = some x := by rfl) (hx : Loc X.env.scope x := by first | exact Or.inl rfl | exact Or.inr rfl) (hf : X.fn x = true ∨ X.env.scope.names.lookup x = some .local := by first | exact .inl rfl | exact .inr rfl) : JG X W (.Name x pos) (gN i) [i] := by
  refine ⟨_, pg_name hN hi hx hf, fun Γ v d δ σ F H Q r h g => ?_⟩
  obtain ⟨δ2, e2, g2⟩ := Gd.stor g
  exact g2 _ (r.storI e2 h) ⟨List.length_set .., fun j hj => List.getElem?_set_ne (fun z => hj (by rw [z]; exact List.mem_cons_self))⟩
def gsN : MGs := fun ds δ => match ds with
  | [] => .ok δ
  | _ => .bad
def gsC (m : MG) (n : MGs) : MGs := fun ds δ => match ds with
  | d :: r => m d δ >>= fun δ1 => n r δ1
  | [] => .bad
theorem jgs_nil : JGs X W [] gsN [] := by
  refine ⟨_, pgs_nil, fun Γ vs ds δ σ F H Q r h g => ?_⟩
  cases ds with
  | nil => exact ⟨Reps.nil_iff.mp h, g σ r ⟨rfl, fun _ _ => rfl⟩⟩
  | cons => exact g.elim
theorem jgs_cons {es : List Expr} {ms : MGs} {t1 t2 : List Nat} (h1 : JG X W e mg t1) (h2 : JGs X W es ms t2) (hs : (assignEach (e :: es) X.env).map (·.2) = assign e X.env :: (assignEach es X.env).map (·.2) := by rfl) : JGs X W (e :: es) (gsC mg ms) (t1 ++ t2) := by
  obtain ⟨t, p, q⟩ := h1.ex
  obtain ⟨t2, p2, q2⟩ := h2.ex
  refine ⟨_, pgs_cons p p2 hs, fun Γ vs ds δ σ F H Q r h g => ?_⟩
  cases ds with
  | nil => exact g.elim
  | cons d ds =>
    obtain ⟨v, r', rfl, h1, h2⟩ := Reps.cons_iff.mp h
    refine ⟨v, r', rfl, q Γ v d δ σ F H _ r h1 ((Gd.bind.mp g).mono fun δ1 g1 σ1 R1 k1 => ?_)⟩
    exact q2 Γ r' ds δ1 σ1 F H Q R1 h2 (Gd.mono g1 fun δ2 f σ2 R2 k2 => f σ2 R2 ⟨k2.1.trans k1.1, fun j hj => (k2.2 j fun z => hj (List.mem_append_right _ z)).trans (k1.2 j fun z => hj (List.mem_append_left _ z))⟩)
def gT (n : Nat) (m : MGs) : MG := fun d δ => match d with
  | .tup ds => if ds.length = n then m ds δ else .bad
  | _ => .bad
theorem jg_tup {es : List Expr} {k n : Nat} {ms : MGs} {tv : List Nat} (hc : X.calm = true) (h : JGs X W es ms tv) (hn : (assignEach es X.env).length = n := by rfl) (hst : (assignEach es X.env).findIdx? (·.1) = none := by rfl) : JG X W (.Tuple es k pos) (gT n ms) tv := by
  obtain ⟨t, p, q⟩ := h.ex
  refine ⟨_, pg_tup hc p hn hst, fun Γ v d δ σ F H Q r h g => ?_⟩
  cases d with
  | tup ds =>
    dsimp only [gT] at g
    split at g
    · rename_i hl
      obtain ⟨a, vs, rfl, hs, hr⟩ := Rep.tup_iff.mp h
      exact ⟨a, vs, rfl, SqT.of (r.sub _ _ hs), by rw [← hr.length]; exact hl, q Γ vs ds δ σ F H Q r hr g⟩
    · exact g.elim
  | _ => exact g.elim
/-- target = e -/
def mAsg (g : MG) (m : ME) : MS := fun δ => m δ >>= fun p => match p.1 with
  | .im d => g d p.2 >>= fun δ' => .ok (.nx δ')
  | .sl _ => .bad
theorem js_asg {tv : List Nat} (he : JE X W e m) (hg : JG X W tg mg tv) (hs : swapsWithSole [tg] e pos.line X.env = pure false := by rfl) (hw : swappedStores [tg] e X.env = pure none := by rfl)
    (h1 : (assignEach [tg] X.env).map (·.2) = [assign tg X.env] := by rfl) : JS X W (.Assign [tg] e pos) (mAsg mg m) := by
  obtain ⟨t, p, q⟩ := he.ex
  obtain ⟨t2, p2, q2⟩ := hg.ex
  refine ⟨_, ps_asg p p2 hs hw h1, fun Γ δ σ F H En r g => ?_⟩
  refine q Γ δ σ F H _ r ((Gd.bind.mp g).mono fun u gu v F1 H1 R1 s1 hv => ?_)
  obtain ⟨x, δ1⟩ := u
  cases x with
  | sl j => exact gu.elim
  | im d => exact q2 Γ v d δ1 σ F1 H1 _ R1 hv ((Gd.bind.mp gu).mono fun δ2 g2 σ2 R2 _ => g2 σ2 F1 H1 R2 s1)
/-- a, b = x, y -/
def mPar (i j : Nat) (m : MA) : MS := fun δ => m δ >>= fun p => match p.1 with
  | [.im x, .im y] => stor i (.im x) p.2 >>= fun δ1 => stor j (.im y) δ1 >>= fun δ2 => .ok (.nx δ2)
  | _ => .bad
theorem js_par (i j : Nat) {x y : Str} {px py pt : Pos} {kt k2 pt2} (hc : X.calm = true) (hN : X.N.Nodup) (ha : JA X W [a, b] mr) (hij : i ≠ j := by decide) (hi : X.N[i]? = some x := by rfl) (hj : X.N[j]? = some y := by rfl)
    (hx : X.env.scope.names.lookup x = some .local := by rfl) (hy : X.env.scope.names.lookup y = some .local := by rfl)
    (hw : swappedStores [.Tuple [.Name x px, .Name y py] kt pt] (.Tuple [a, b] k2 pt2) X.env = pure (some [x, y]) := by rfl)
    (hs : swapsWithSole [.Tuple [.Name x px, .Name y py] kt pt] (.Tuple [a, b] k2 pt2) pos.line X.env = pure false := by rfl) :
    JS X W (.Assign [.Tuple [.Name x px, .Name y py] kt pt] (.Tuple [a, b] k2 pt2) pos) (mPar i j mr) := by
  obtain ⟨t, p, q⟩ := ha.ex
  refine ⟨_, ps_par hc hN hi hj hij hx hy p hw hs, fun Γ δ σ F H En r g => ?_⟩
  refine q Γ δ σ F H _ r ((Gd.bind.mp g).mono fun u gu vs F1 H1 R1 s1 hv => ?_)
  obtain ⟨xs, δ1⟩ := u
  match xs, vs, hv, gu with
  | [.im dx, .im dy], [v, w], hv, gu =>
    obtain ⟨δ2, e2, g2⟩ := Gd.stor (Gd.bind.mp gu)
    obtain ⟨δ3, e3, g3⟩ := Gd.stor (Gd.bind.mp g2)
    exact ⟨v, w, rfl, g3 _ F1 H1 ((R1.storI e2 hv.1).storI e3 hv.2.1) s1⟩
/-! ### what is walked -/
def mIL (m : ME) : MI := fun δ => m δ >>= fun p => match p.1 with
  | .im (.lst ds) => .ok (ds, p.2)
  | _ => .bad
theorem ji_lst (h : JE X W e m) : JI X W tg e (mIL m) := by
  obtain ⟨t, p, q⟩ := h.ex
  refine ⟨_, pi_list p, fun Γ δ σ F H Q r g => ?_⟩
  refine q Γ δ σ F H _ r ((Gd.bind.mp g).mono fun u gu v F1 H1 R1 s1 hv => ?_)
  obtain ⟨x, δ1⟩ := u
  cases x with
  | sl j => exact gu.elim
  | im d =>
    cases d with
    | lst ds =>
      obtain ⟨p, vs, rfl, hs, hr⟩ := Rep.lst_iff.mp hv
      refine ⟨p, rfl, ⟨vs, SqL.of (R1.sub _ _ hs)⟩, gu _ F1 H1 R1 s1 ⟨fun i F2 H2 s2 s3 hi => ?_, fun i d F2 H2 x H3 s2 s3 hd hy => ?_, fun i F2 H2 s2 s3 hi => ⟨vs, SqL.of (s3 _ _ (s2 _ _ hs)), by rw [← hr.length]; exact hi⟩⟩⟩
      · have : i < vs.length := by rw [← hr.length]; exact hi
        exact ⟨vs, vs[i], SqL.of (s3 _ _ (s2 _ _ hs)), List.getElem?_eq_getElem this⟩
      · obtain ⟨rfl, hy⟩ := hy
        obtain ⟨w, e1, rw1⟩ := hr.get hd
        have e2 := hy vs (SqL.of (s3 _ _ (s2 _ _ hs)))
        rw [e1] at e2
        cases e2
        exact ⟨F2, Gr.refl s3, rw1.mono s2⟩
    | _ => exact gu.elim
def mIT (m : ME) : MI := fun δ => m δ >>= fun p => match p.1 with
  | .im (.tup ds) => .ok (ds, p.2)
  | _ => .bad
theorem ji_tup (h : JE X W e m) : JI X W tg e (mIT m) := by
  obtain ⟨t, p, q⟩ := h.ex
  refine ⟨_, pi_tup p, fun Γ δ σ F H Q r g => ?_⟩
  refine q Γ δ σ F H _ r ((Gd.bind.mp g).mono fun u gu v F1 H1 R1 s1 hv => ?_)
  obtain ⟨x, δ1⟩ := u
  cases x with
  | sl j => exact gu.elim
  | im d =>
    cases d with
    | tup ds =>
      obtain ⟨p, vs, rfl, hs, hr⟩ := Rep.tup_iff.mp hv
      have sq : ∀ {F2 H2 : Hp}, Same F1 F2 → Same F2 H2 → SqT X.K H2 p vs := fun s2 s3 => SqT.of (s3 _ _ (s2 _ _ hs))
      refine ⟨p, rfl, ⟨vs, SqT.of (R1.sub _ _ hs)⟩, gu _ F1 H1 R1 s1 ⟨fun i F2 H2 s2 s3 hi => ?_, fun i d F2 H2 x H3 s2 s3 hd hy => ?_, fun i F2 H2 s2 s3 hi => ⟨vs, sq s2 s3, by rw [← hr.length]; exact hi⟩⟩⟩
      · have : i < vs.length := by rw [← hr.length]; exact hi
        exact ⟨vs, vs[i], sq s2 s3, List.getElem?_eq_getElem this⟩
      · obtain ⟨rfl, hy⟩ := hy
        obtain ⟨w, e1, rw1⟩ := hr.get hd
        have e2 := hy vs (sq s2 s3)
        rw [e1] at e2
        cases e2
        exact ⟨F2, Gr.refl s3, rw1.mono s2⟩
    | _ => exact gu.elim
def rngD (lo : Int) (n : Nat) : List D := (List.range n).map fun (k : Nat) => D.int (lo + (k : Int))
theorem rngD_get {lo : Int} {n i : Nat} {d : D} (h : (rngD lo n)[i]? = some d) : i < n ∧ d = .int (lo + i) := by
  unfold rngD at h
  rw [List.getElem?_map] at h
  cases q : (List.range n)[i]? with
  | none => rw [q] at h; cases h
  | some k =>
    rw [q] at h
    obtain ⟨h1, h2⟩ := List.getElem?_eq_some_iff.mp q
    rw [List.getElem_range] at h2
    subst h2
    simp only [Option.map_some, Option.some.injEq] at h
    exact ⟨by simpa using h1, h.symm⟩
theorem wk_rng {lo : Int} {n : Nat} {F1 : Hp} : Wk K (Itr lo n) (rngD lo n) F1 := by
  refine ⟨fun i F H _ _ hi => ?_, fun i d F H x H' _ s hd hy => ?_, fun i F H _ _ hi => ?_⟩
  · show i < n
    simpa [rngD] using hi
  · obtain ⟨rfl, rfl⟩ := hy
    obtain ⟨h1, rfl⟩ := rngD_get hd
    exact ⟨F, Gr.refl s, by simp only [Rep]⟩
  · show n ≤ i
    simpa [rngD] using hi
def mIR1 (m : MA) : MI := fun δ => m δ >>= fun p => match p.1 with
  | [.im (.int j)] => if -(2 ^ 62) ≤ j ∧ j.toNat < 2 ^ 62 then .ok (rngD 0 j.toNat, p.2) else .bad
  | _ => .bad
theorem ji_rng1 {p' : Pos} (hm : X.mg "range" = none) (ha : JA X W [a] mr) (hg : Gl X "range" := by rfl) (hs : starEach [a] X.env = [(false, eval a X.env)] := by rfl) : JI X W tg (.Call (.Name "range" p') [a] [] pos) (mIR1 mr) := by
  obtain ⟨t, p, q⟩ := ha.ex
  refine ⟨_, pi_range1 hg hm p hs, fun Γ δ σ F H Q r g => ?_⟩
  refine q Γ δ σ F H _ r ((Gd.bind.mp g).mono fun u gu vs F1 H1 R1 s1 hv => ?_)
  obtain ⟨xs, δ1⟩ := u
  match xs, vs, hv, gu with
  | [.im (.int j)], [v], hv, gu =>
    have ev : v = .int j := (Rep.int_iff (K := X.K) (H := F1)).mp hv.1
    subst ev
    have gu : Gd X.K Γ W (if -(2 ^ 62) ≤ j ∧ j.toNat < 2 ^ 62 then R.ok (rngD 0 j.toNat, δ1) else R.bad) _ := gu
    split at gu
    · rename_i hj
      exact ⟨j, rfl, hj.1, by omega, gu _ F1 H1 R1 s1 wk_rng⟩
    · exact gu.elim
def mIR2 (m : MA) : MI := fun δ => m δ >>= fun p => match p.1 with
  | [.im (.int i), .im (.int j)] => if -(2 ^ 62) ≤ i ∧ i.toNat < 2 ^ 62 ∧ -(2 ^ 62) ≤ j ∧ j.toNat < 2 ^ 62 then .ok (rngD i (j - i).toNat, p.2) else .bad
  | _ => .bad
theorem ji_rng2 {p' : Pos} (hm : X.mg "range" = none) (ha : JA X W [a, b] mr) (hg : Gl X "range" := by rfl) (hs : starEach [a, b] X.env = [(false, eval a X.env), (false, eval b X.env)] := by rfl) (hs2 : starEach [b] X.env = [(false, eval b X.env)] := by rfl) :
    JI X W tg (.Call (.Name "range" p') [a, b] [] pos) (mIR2 mr) := by
  obtain ⟨t, p, q⟩ := ha.ex
  refine ⟨_, pi_range2 hg hm p hs hs2, fun Γ δ σ F H Q r g => ?_⟩
  refine q Γ δ σ F H _ r ((Gd.bind.mp g).mono fun u gu vs F1 H1 R1 s1 hv => ?_)
  obtain ⟨xs, δ1⟩ := u
  match xs, vs, hv, gu with
  | [.im (.int i), .im (.int j)], [v, w], hv, gu =>
    have ev : v = .int i := (Rep.int_iff (K := X.K) (H := F1)).mp hv.1
    have ew : w = .int j := (Rep.int_iff (K := X.K) (H := F1)).mp hv.2.1
    subst ev ew
    have gu : Gd X.K Γ W (if -(2 ^ 62) ≤ i ∧ i.toNat < 2 ^ 62 ∧ -(2 ^ 62) ≤ j ∧ j.toNat < 2 ^ 62 then R.ok (rngD i (j - i).toNat, δ1) else R.bad) _ := gu
    split at gu
    · rename_i hj
      exact ⟨i, j, rfl, by omega, gu _ F1 H1 R1 s1 wk_rng⟩
    · exact gu.elim
def sgnD (x : Str) : List D := x.cps.toList.map fun c => D.str ⟨#[c]⟩
def mIS (m : ME) : MI := fun δ => m δ >>= fun p => match p.1 with
  | .im (.str x) => .ok (sgnD x, p.2)
  | _ => .bad
theorem ji_str (h : JE X W e m) : JI X W tg e (mIS m) := by
  obtain ⟨t, p, q⟩ := h.ex
  refine ⟨_, pi_str p, fun Γ δ σ F H Q r g => ?_⟩
  refine q Γ δ σ F H _ r ((Gd.bind.mp g).mono fun u gu v F1 H1 R1 s1 hv => ?_)
  obtain ⟨x, δ1⟩ := u
  cases x with
  | sl j => exact gu.elim
  | im d =>
    cases d with
    | str z =>
      have ev : v = .str z := RdV.str (K := X.K) (F := F1) (H := H1) (.inl hv)
      refine ⟨z, ev, gu _ F1 H1 R1 s1 ⟨fun i F H _ _ hi => ?_, fun i d F H x H' _ s hd hy => ?_, fun i F H _ _ hi => ?_⟩⟩
      · show i < z.cps.size
        simpa [sgnD] using hi
      · obtain ⟨rfl, c, hc, rfl⟩ := hy
        unfold sgnD at hd
        rw [List.getElem?_map, Array.getElem?_toList, hc] at hd
        cases hd
        exact ⟨F, Gr.refl s, by simp only [Rep]⟩
      · show z.cps.size ≤ i
        simpa [sgnD] using hi
    | _ => exact gu.elim
/-! ### for -/
def forD (g : MG) (b : MS) : List D → List Sl → R Out
  | [], δ => .ok (.nx δ)
  | d :: ds, δ => g d δ >>= fun δ1 => b δ1 >>= fun o => match o with
    | .nx δ2 => forD g b ds δ2
    | .ct δ2 => forD g b ds δ2
    | .bk δ2 => .ok (.nx δ2)
    | o => .ok o
def mFor (mi : MI) (g : MG) (b : MS) : MS := fun δ => mi δ >>= fun p => forD g b p.1 p.2
theorem evFor {wi : TI} {g : TG} {tb : TS} {tv : List Nat} (hi : EvI K Γ W wi mi) (hg : EvG K Γ W g mg tv) (hb : EvS K Γ W tb s1) : EvS K Γ W (tFor wi g tb) (mFor mi mg s1) := fun δ σ F H En r gd => by
  refine hi δ σ F H _ r ((Gd.bind.mp gd).mono fun u gu J F1 H1 R1 sF wk => ?_)
  obtain ⟨ds, δ1⟩ := u
  refine ⟨fun i m σ H => m = ds.length - i ∧ ∃ δ F2, Rl K Γ F2 H σ δ ∧ Same F1 F2 ∧ GdS K Γ W F2 En (forD mg s1 (ds.drop i) δ), ⟨_, rfl, δ1, F1, R1, Same.refl _, GdS.from gu sF⟩, ?_⟩
  rintro i m σ2 H2 ⟨rfl, δ2, F2, R2, s2, g2⟩
  by_cases h : i < ds.length
  · right
    refine ⟨wk.go i F2 H2 s2 R2.sub h, fun σ' H' => ∃ δ F3, Rl K Γ F3 H' σ' δ ∧ Same F1 F3 ∧ GdS K Γ W F3 En (forD mg s1 (ds.drop (i + 1)) δ), fun σ' H' ⟨δ3, F3, a, b, c⟩ => ⟨ds.length - (i + 1), by omega, rfl, δ3, F3, a, b, c⟩, fun x H' hy => ?_⟩
    have hd : ds[i]? = some ds[i] := List.getElem?_eq_getElem h
    obtain ⟨F3, g3, rx⟩ := wk.yl i ds[i] F2 H2 x H' s2 R2.sub hd hy
    rw [List.drop_eq_getElem_cons h] at g2
    refine hg x ds[i] δ2 σ2 F3 H' _ (R2.gr g3) rx ((Gd.bind.mp g2).mono fun δ3 gd3 σ3 R3 _ => ?_)
    refine hb δ3 σ3 F3 H' _ R3 ((Gd.bind.mp gd3).mono fun o ho => ?_)
    cases o with
    | nx δ4 => exact fun σ4 F4 H4 R4 s4 => ⟨δ4, F4, R4, s2.trans (g3.f.trans s4), GdS.from ho (g3.f.trans s4)⟩
    | ct δ4 => exact fun σ4 F4 H4 R4 s4 => ⟨δ4, F4, R4, s2.trans (g3.f.trans s4), GdS.from ho (g3.f.trans s4)⟩
    | bk δ4 => exact fun σ4 F4 H4 R4 s4 => ho σ4 F4 H4 R4 (g3.f.trans s4)
    | rt d δ4 => exact fun v σ4 F4 H4 R4 s4 => ho v σ4 F4 H4 R4 (g3.f.trans s4)
  · left
    have e : ds.drop i = [] := List.drop_eq_nil_of_le (Nat.le_of_not_lt h)
    rw [e] at g2
    exact ⟨wk.st i F2 H2 s2 R2.sub (Nat.le_of_not_lt h), g2 σ2 F2 H2 R2 (Same.refl _)⟩
theorem js_for {tv : List Nat} (hp : PassesOwn (model X.prog X.w) X.A X.env X.xe) (hc : X.calm = true) (hi : JI X W tg e mi) (hg : JG X W tg mg tv) (hb : JSs X W body s1) (hs : ∀ x, foldedSetIterable e X.env x = pure x := by intro _; rfl) : JS X W (.For tg e body [] pos) (mFor mi mg s1) := by
  obtain ⟨t, p, q⟩ := hi.ex
  obtain ⟨t2, p2, q2⟩ := hg.ex
  obtain ⟨t3, p3, q3⟩ := hb.ex
  exact ⟨_, ps_for hp hc p p2 p3 hs, fun Γ => evFor (q Γ) (q2 Γ) (q3 Γ)⟩
/-! ### while, with fuel -/
def whileD (c : MT) (b : MS) : Nat → List Sl → R Out
  | 0, _ => .bad
  | n + 1, δ => c δ >>= fun p => if p.1 = true then b p.2 >>= fun o => match o with
      | .nx δ2 => whileD c b n δ2
      | .ct δ2 => whileD c b n δ2
      | .bk δ2 => .ok (.nx δ2)
      | o => .ok o
    else .ok (.nx p.2)
def mWhile (fu : List Sl → Nat) (c : MT) (b : MS) : MS := fun δ => whileD c b (fu δ) δ
theorem evWhile {c : TT} {tb : TS} {fu : List Sl → Nat} (hc : EvT K Γ W c mt) (hb : EvS K Γ W tb s1) : EvS K Γ W (tWhile c tb) (mWhile fu mt s1) := fun δ σ F H En r gd => by
  refine ⟨fun m σ H => ∃ δ F2, Rl K Γ F2 H σ δ ∧ Same F F2 ∧ GdS K Γ W F2 En (whileD mt s1 m δ), ⟨fu δ, δ, F, r, Same.refl _, gd⟩, ?_⟩
  rintro m σ2 H2 ⟨δ2, F2, R2, s2, g2⟩
  cases m with
  | zero => exact g2.elim
  | succ n =>
    refine hc δ2 σ2 F2 H2 _ R2 ((Gd.bind.mp g2).mono fun u gu F3 H3 R3 s3 => ?_)
    obtain ⟨k, δ3⟩ := u
    cases k with
    | false => exact gu σ2 F3 H3 R3 s3
    | true =>
      refine ⟨fun σ' H' => ∃ δ F2, Rl K Γ F2 H' σ' δ ∧ Same F F2 ∧ GdS K Γ W F2 En (whileD mt s1 n δ), fun σ' H' h => ⟨n, Nat.lt_succ_self n, h⟩, ?_⟩
      refine hb δ3 σ2 F3 H3 _ R3 ((Gd.bind.mp gu).mono fun o ho => ?_)
      cases o with
      | nx δ4 => exact fun σ4 F4 H4 R4 s4 => ⟨δ4, F4, R4, s2.trans (s3.trans s4), GdS.from ho (s3.trans s4)⟩
      | ct δ4 => exact fun σ4 F4 H4 R4 s4 => ⟨δ4, F4, R4, s2.trans (s3.trans s4), GdS.from ho (s3.trans s4)⟩
      | bk δ4 => exact fun σ4 F4 H4 R4 s4 => ho σ4 F4 H4 R4 (s3.trans s4)
      | rt d δ4 => exact fun v σ4 F4 H4 R4 s4 => ho v σ4 F4 H4 R4 (s3.trans s4)
theorem js_while (fu : List Sl → Nat) (hp : PassesOwn (model X.prog X.w) X.A X.env X.xe) (hc : JT X W c mt) (hb : JSs X W body s1) : JS X W (.While c body [] pos) (mWhile fu mt s1) := by
  obtain ⟨t, p, q⟩ := hc.ex
  obtain ⟨t3, p3, q3⟩ := hb.ex
  exact ⟨_, ps_while hp p p3, fun Γ => evWhile (q Γ) (q3 Γ)⟩
end
end GX
/-! GX6: list comprehensions. -/
namespace GX
open PySem PySem.Spec PyProof.Rows L2
abbrev WF : WX := fun _ _ _ _ => False
/-! ### the reading that the mirror gives -/
def rdO (K : PySem.W.Frag) (W : WX) (m : MO) : TE := fun σ H Q => ∃ Γ δ F, Rl K Γ F H σ δ ∧ Gd K Γ W (m δ) (fun r => ∀ v F' H', OwN K Γ F' H' σ r.2 v r.1 → Same F F' → Q v H')
def rdE (K : PySem.W.Frag) (W : WX) (m : ME) : TE := fun σ H Q => ∃ Γ δ F, Rl K Γ F H σ δ ∧ Gd K Γ W (m δ) (fun r => ∀ v F' H', Rl K Γ F' H' σ r.2 → Same F F' → VlOk K F' σ v r.1 → Q v H')
def rdT (K : PySem.W.Frag) (W : WX) (m : MT) : TT := fun σ H Q => ∃ Γ δ F, Rl K Γ F H σ δ ∧ Gd K Γ W (m δ) (fun r => ∀ F' H', Rl K Γ F' H' σ r.2 → Same F F' → Q r.1 H')
def rdG (K : PySem.W.Frag) (W : WX) (m : MG) (tv : List Nat) : TG := fun v σ H Q => ∃ Γ d δ F, Rl K Γ F H σ δ ∧ Rep K F d v ∧ Gd K Γ W (m d δ) (fun δ' => ∀ σ', Rl K Γ F H σ' δ' → Keeps tv σ σ' → Q σ' H)
def rdI (K : PySem.W.Frag) (W : WX) (m : MI) : TI := fun σ H Q => ∃ Γ δ F, Rl K Γ F H σ δ ∧ Gd K Γ W (m δ) (fun r => ∀ J F' H', Rl K Γ F' H' σ r.2 → Same F F' → Wk K J r.1 F' → Q J H')
section
variable {X : Cx} {W : WX} {K : PySem.W.Frag} {Γ : Fm} {F H : Hp} {σ : L2.St} {δ δ' : List Sl}
variable {e tg : Expr} {m me : ME} {mt : MT} {mg : MG} {mi : MI}
theorem JE.rd (h : JE X W e m) : PE X e (rdE X.K W m) := by
  obtain ⟨t, p, q⟩ := h.ex
  exact ⟨fun pins s σ H Q I ⟨Γ, δ, F, r, g⟩ => p.run pins s σ H Q I (q Γ δ σ F H Q r g)⟩
theorem JG.rd {tv : List Nat} (h : JG X W tg mg tv) : PG X tg (rdG X.K W mg tv) := by
  obtain ⟨t, p, q⟩ := h.ex
  exact ⟨fun pins s σ H v u Q I rv ⟨Γ, d, δ, F, r, rd, g⟩ => p.run pins s σ H v u Q I rv (q Γ v d δ σ F H Q r rd g)⟩
theorem JI.rd (h : JI X W tg e mi) : PI X tg e (rdI X.K W mi) := by
  obtain ⟨t, p, q⟩ := h.ex
  exact ⟨fun pins s σ H Q I ⟨Γ, δ, F, r, g⟩ => p.run pins s σ H Q I (q Γ δ σ F H Q r g)⟩
theorem JO.rd {mo : MO} (h : JO X W e mo) : PE X e (rdO X.K W mo) := by
  obtain ⟨t, p, q⟩ := h.ex
  exact ⟨fun pins s σ H Q I ⟨Γ, δ, F, r, g⟩ => p.run pins s σ H Q I (q Γ δ σ F H Q r g)⟩
theorem evRdO {mo : MO} : EvO K Γ W (rdO K W mo) mo := fun δ σ F H Q r g => ⟨Γ, δ, F, r, g⟩
theorem evRdE : EvE K Γ W (rdE K W m) m := fun δ σ F H Q r g => ⟨Γ, δ, F, r, g⟩
theorem evRdT : EvT K Γ W (rdT K W mt) mt := fun δ σ F H Q r g => ⟨Γ, δ, F, r, g⟩
theorem evRdG {tv : List Nat} : EvG K Γ W (rdG K W mg tv) mg tv := fun v d δ σ F H Q r h g => ⟨Γ, d, δ, F, r, h, g⟩
theorem evRdI : EvI K Γ W (rdI K W mi) mi := fun δ σ F H Q r g => ⟨Γ, δ, F, r, g⟩
/-- a clause's tests -/
structure JTs (X : Cx) (W : WX) (es : List Expr) (m : MT) : Prop where
  ex : ∃ t, PTs X es t ∧ ∀ Γ, EvT X.K Γ W t m
def mYes : MT := fun δ => .ok (true, δ)
theorem jts_nil : JTs X W [] mYes := ⟨_, pts_nil, fun Γ δ σ F H Q r g => g F H r (Same.refl _)⟩
theorem jts_one {c : Expr} (h : JT X W c mt) : JTs X W [c] mt := by
  obtain ⟨t, p, q⟩ := h.ex
  exact ⟨_, pts_one p, q⟩
theorem JTs.rd {es : List Expr} (h : JTs X W es mt) : PTs X es (rdT X.K W mt) := by
  obtain ⟨t, p, q⟩ := h.ex
  exact ⟨fun pins s σ H Q I ⟨Γ, δ, F, r, g⟩ => p.run pins s σ H Q I (q Γ δ σ F H Q r g)⟩
end
/-! ### a turn of a comprehension is a frame of its own -/
def wipeS (δ : List Sl) : List Nat → List Sl
  | [] => δ
  | v :: vs => (wipeS δ vs).set v .un
theorem wipeS_len (δ : List Sl) : ∀ vs, (wipeS δ vs).length = δ.length
  | [] => rfl
  | v :: vs => by show ((wipeS δ vs).set v .un).length = _; rw [List.length_set, wipeS_len δ vs]
theorem wipeS_in {δ : List Sl} {i : Nat} {s : Sl} : ∀ {vs : List Nat}, (wipeS δ vs)[i]? = some s → (i ∈ vs ∧ s = .un) ∨ (i ∉ vs ∧ δ[i]? = some s)
  | [], h => .inr ⟨by simp, h⟩
  | v :: vs, h => by
    have h : ((wipeS δ vs).set v .un)[i]? = some s := h
    by_cases e : v = i
    · subst e
      have hl : v < (wipeS δ vs).length := by
        have := (List.getElem?_eq_some_iff.mp h).1
        rwa [List.length_set] at this
      rw [List.getElem?_set_self hl] at h
      cases h
      exact .inl ⟨List.mem_cons_self, rfl⟩
    · rw [List.getElem?_set_ne e] at h
      rcases wipeS_in h with ⟨a, b⟩ | ⟨a, b⟩
      · exact .inl ⟨List.mem_cons_of_mem _ a, b⟩
      · exact .inr ⟨fun z => (List.mem_cons.mp z).elim (fun q => e q.symm) a, b⟩
def inner (rv : Nat → Option V) (F H : Hp) (δ : List Sl) (φ : Nat → List Addr) : Fm := ⟨F, H, fun i p => ∃ t, δ[i]? = some (Sl.io t) ∧ p ∈ φ i, fun p => ∃ i t, δ[i]? = some (Sl.ow t) ∧ p ∈ φ i, rv⟩
noncomputable def wipeφ (φ : Nat → List Addr) (vs : List Nat) : Nat → List Addr := fun i => if i ∈ vs then [] else φ i
section
variable {X : Cx} {W : WX} {K : PySem.W.Frag} {Γ : Fm} {F H F' H' : Hp} {σ σ' : L2.St} {δ δ' : List Sl} {vs : List Nat} {φ φ' : Nat → List Addr}
theorem wipeφ_in {i : Nat} {a : Addr} (h : a ∈ wipeφ φ vs i) : a ∈ φ i := by
  unfold wipeφ at h
  by_cases q : i ∈ vs
  · rw [if_pos q] at h; cases h
  · rw [if_neg q] at h; exact h
theorem RlP.wiped (r : RlP K Γ F H σ δ φ) (hw : wipe σ' vs = wipe σ vs) : RlP K Γ F H σ' (wipeS δ vs) (wipeφ φ vs) := by
  have hlen : σ'.length = σ.length := by rw [← wipe_length σ' vs, hw, wipe_length]
  have same : ∀ i, i ∉ vs → σ'[i]? = σ[i]? := fun i hi => by rw [← wipe_out (σ := σ') hi, hw, wipe_out hi]
  refine r.next r.sub (Same.refl _) (fun _ _ _ => rfl) (fun _ _ _ => rfl) (fun _ h => h) (by rw [wipeS_len, hlen]; exact r.len) (fun i s e => ?_) (fun i e => ?_) (fun i j a hi hj => r.sep i j a (wipeφ_in hi) (wipeφ_in hj))
  · rcases wipeS_in e with ⟨hi, rfl⟩ | ⟨hi, e⟩
    · have hl : i < σ'.length := by
        have := (List.getElem?_eq_some_iff.mp e).1
        rw [wipeS_len, ← r.len] at this
        rw [hlen]; exact this
      exact ⟨_, List.getElem?_eq_getElem hl, if_pos hi⟩
    · obtain ⟨ov, q1, q2⟩ := r.sl i s e
      refine ⟨ov, by rw [same i hi]; exact q1, ?_⟩
      unfold wipeφ
      rw [if_neg hi]
      exact q2
  · have e' : δ[i]? = none := by
      rw [List.getElem?_eq_none_iff] at e ⊢
      rwa [wipeS_len] at e
    unfold wipeφ
    by_cases q : i ∈ vs
    · exact if_pos q
    · rw [if_neg q]; exact r.nil i e'
theorem Rl.wiped (r : Rl K Γ F H σ δ) (hw : wipe σ' vs = wipe σ vs) : Rl K Γ F H σ' (wipeS δ vs) := let ⟨_, q⟩ := r; ⟨_, q.wiped hw⟩
theorem OwN.wiped {v : V} {t : Tr} (o : OwN K Γ F H σ δ v t) (hw : wipe σ' vs = wipe σ vs) : OwN K Γ F H σ' (wipeS δ vs) v t := by
  obtain ⟨φ, fp, r, a, b, c, d⟩ := o.ex
  exact ⟨_, fp, r.wiped hw, a, b, c, fun i x hx => d i x (wipeφ_in hx)⟩
theorem RlP.enter (r : RlP K Γ F H σ δ φ) : RlP K (inner Γ.rv F H δ φ) F H σ δ φ := by
  refine ⟨r.sub, Same.refl _, fun _ _ _ _ => rfl, fun p ⟨i, t, _, h⟩ => (r.inn h).1, fun _ _ _ => rfl, fun i p ⟨t, _, h⟩ => (r.inn h).1, r.len, fun i s e => ?_, r.nil, r.sep⟩
  obtain ⟨ov, q1, q2⟩ := r.sl i s e
  refine ⟨ov, q1, ?_⟩
  cases s with
  | un => exact q2
  | im d => exact q2
  | ow t => obtain ⟨v, a, b, c, z⟩ := q2; exact ⟨v, a, b, c, fun p hp => ⟨(z p hp).1, .inr ⟨i, t, e, hp⟩⟩⟩
  | io t => obtain ⟨v, a, b, c, z, zr⟩ := q2; exact ⟨v, a, b, c, fun p hp => ⟨(z p hp).1, .inr (.inr ⟨t, e, hp⟩)⟩, zr⟩
theorem inner_M (r : RlP K Γ F H σ δ φ) {a : Addr} (h : (inner Γ.rv F H δ φ).M a) : Γ.H0 a = none ∨ Γ.M a := by
  obtain ⟨i, t, e, h⟩ := h
  obtain ⟨ov, _, v, _, _, _, z⟩ := r.sl i _ e
  exact (z a h).2
theorem inner_io (r : RlP K Γ F H σ δ φ) {i : Nat} {a : Addr} (h : (inner Γ.rv F H δ φ).io i a) : Γ.H0 a = none ∨ Γ.M a ∨ Γ.io i a := by
  obtain ⟨t, e, h⟩ := h
  obtain ⟨ov, _, v, _, _, _, z, _⟩ := r.sl i _ e
  exact (z a h).2
theorem RlP.leave (r : RlP K Γ F H σ δ φ) (r' : RlP K (inner Γ.rv F H δ φ) F' H' σ' δ' φ') : RlP K Γ F' H' σ' δ' φ' := by
  refine ⟨r'.sub, r.grow.trans r'.grow, fun a h0 hio hm => (r'.old a (r.there h0) (fun i q => ?_) (fun q => ?_)).trans (r.old a h0 hio hm), fun a h => r'.there (show H a ≠ none from r.mH a h), fun a h0 hm => (r'.fz a (r.there h0) (fun q => ?_)).trans (r.fz a h0 hm), fun i p h => r'.there (show H p ≠ none from r.ioH i p h), r'.len, fun i s e => ?_, r'.nil, r'.sep⟩
  · rcases inner_io r q with z | z | z
    · exact h0 z
    · exact hm z
    · exact hio i z
  · rcases inner_M r q with z | z
    · exact h0 z
    · exact hm z
  · rcases inner_M r q with z | z
    · exact h0 z
    · exact hm z
  · obtain ⟨ov, q1, q2⟩ := r'.sl i s e
    refine ⟨ov, q1, ?_⟩
    cases s with
    | un => exact q2
    | im d => exact q2
    | ow t =>
      obtain ⟨v, a, b, c, z⟩ := q2
      refine ⟨v, a, b, c, fun p hp => ⟨(z p hp).1, ?_⟩⟩
      rcases (z p hp).2 with q | q
      · exact .inl (r.fresh q)
      · exact inner_M r q
    | io t =>
      obtain ⟨v, a, b, c, z, zr⟩ := q2
      refine ⟨v, a, b, c, fun p hp => ⟨(z p hp).1, ?_⟩, zr⟩
      rcases (z p hp).2 with q | q | q
      · exact .inl (r.fresh q)
      · exact (inner_M r q).imp id .inl
      · exact inner_io r q
/-- behind a turn: what waits outside stands -/
theorem turn_end {F3 F5 H3 H5 : Hp} {fp : List Addr} {σ3 : L2.St} {δ2 δ5 : List Sl} {φ5 : Nat → List Addr} (R3 : RlP K Γ F3 H3 (wipe σ vs) δ2 φ) (there : ∀ a ∈ fp, H3 a ≠ none) (sep : ∀ i a, a ∈ φ i → a ∉ fp)
    (R6 : RlP K (inner Γ.rv F3 H3 δ2 φ) F5 H5 σ3 δ5 φ5) (hw : wipe σ3 vs = wipe σ vs) (hww : wipe (wipe σ vs) vs = wipe σ vs) :
    RlP K Γ F5 H5 (wipe σ vs) (wipeS δ5 vs) (wipeφ φ5 vs) ∧ (∀ a ∈ fp, H5 a = H3 a ∧ F5 a = F3 a) ∧ ∀ i a, a ∈ φ5 i → a ∉ fp := by
  have nM : ∀ a ∈ fp, ¬ (inner Γ.rv F3 H3 δ2 φ).M a := fun a ha ⟨i, t, _, h⟩ => sep i a h ha
  have nio : ∀ a ∈ fp, ∀ i, ¬ (inner Γ.rv F3 H3 δ2 φ).io i a := fun a ha i ⟨t, _, h⟩ => sep i a h ha
  refine ⟨(R3.leave R6).wiped (by rw [hww, hw]), fun a ha => ⟨R6.old a (there a ha) (nio a ha) (nM a ha), R6.fz a (there a ha) (nM a ha)⟩, fun i a hi ha => ?_⟩
  rcases (R6.inn hi).2.2 with q | q | q
  · exact there a ha q
  · exact nM a ha q
  · exact nio a ha i q
end
/-! ### the mirror -/
def Rx.ne {ε α : Type} : Rx ε α → Rx ε α
  | .ok a => .ok a
  | _ => .bad
@[simp] theorem R.ne_ok {ε α : Type} (a : α) : (Rx.ok a : Rx ε α).ne = Rx.ok a := rfl
def lcD (vs : List Nat) (g : MG) (t : MT) (m : MO) : List D → List Tr → List Sl → R (Tr × List Sl)
  | [], acc, δ => .ok (.o .l acc, δ)
  | d :: ds, acc, δ => (g d δ).ne >>= fun δ1 => (t δ1).ne >>= fun p => if p.1 = true then (m p.2).ne >>= fun q => if acc.length < sizeLine then lcD vs g t m ds (acc ++ [q.1]) (wipeS q.2 vs) else .bad
    else lcD vs g t m ds acc (wipeS p.2 vs)
def mLc (vs : List Nat) (mi : MI) (g : MG) (t : MT) (m : MO) : MO := fun δ => mi δ >>= fun p => lcD vs g t m p.1 [] (wipeS p.2 vs)
theorem Gd.ne {α β : Type} {K : PySem.W.Frag} {Γ Γ' : Fm} {W W' : WX} {m : R α} {k : α → R β} {P : β → Prop} (h : Gd K Γ W (m.ne >>= k) P) : Gd K Γ' W' m (fun a => Gd K Γ W (k a) P) := by
  cases m with
  | ok a => exact h
  | err e δ => exact h.elim
  | bad => exact h.elim
section
variable {X : Cx} {W : WX} {K : PySem.W.Frag} {Γ : Fm} {F H : Hp} {σ : L2.St} {δ : List Sl}
theorem wipe_get {σ : L2.St} {i : Nat} : ∀ {vs : List Nat}, (wipe σ vs)[i]? = if i ∈ vs then (if i < σ.length then some none else none) else σ[i]?
  | [] => by simp [wipe]
  | v :: vs => by
    show ((wipe σ vs).set v none)[i]? = _
    by_cases e : v = i
    · subst e
      rw [if_pos List.mem_cons_self]
      by_cases hl : v < σ.length
      · rw [List.getElem?_set_self (by rw [wipe_length]; exact hl), if_pos hl]
      · rw [List.getElem?_eq_none (by rw [List.length_set, wipe_length]; omega), if_neg hl]
    · rw [List.getElem?_set_ne e, wipe_get]
      have : (i ∈ v :: vs) ↔ i ∈ vs := ⟨fun z => (List.mem_cons.mp z).resolve_left fun q => e q.symm, fun z => List.mem_cons_of_mem _ z⟩
      by_cases h : i ∈ vs
      · rw [if_pos h, if_pos (this.mpr h)]
      · rw [if_neg h, if_neg (fun z => h (this.mp z))]
theorem wipe_wipe {σ : L2.St} {vs : List Nat} : wipe (wipe σ vs) vs = wipe σ vs := by
  apply List.ext_getElem?
  intro i
  rw [wipe_get, wipe_get, wipe_length]
  by_cases h : i ∈ vs
  · simp only [if_pos h]
  · simp only [if_neg h]
theorem wipe_same {σ σ' : L2.St} {vs tv : List Nat} (hl : σ'.length = σ.length) (h : ∀ j, j ∉ tv → σ'[j]? = σ[j]?) (hs : ∀ j ∈ tv, j ∈ vs) : wipe σ' vs = wipe σ vs := by
  apply List.ext_getElem?
  intro i
  rw [wipe_get, wipe_get, hl]
  by_cases q : i ∈ vs
  · simp only [if_pos q]
  · simp only [if_neg q]
    exact h i fun z => q (hs i z)
theorem wipeS_un {δ : List Sl} {vs : List Nat} (h : ∀ s ∈ vs, ∀ t, δ[s]? = some t → t = .un) : wipeS δ vs = δ := by
  apply List.ext_getElem?
  intro i
  cases q : (wipeS δ vs)[i]? with
  | none =>
    have := List.getElem?_eq_none_iff.mp q
    rw [wipeS_len] at this
    exact (List.getElem?_eq_none this).symm
  | some s =>
    have hl := (List.getElem?_eq_some_iff.mp q).1
    rw [wipeS_len] at hl
    rcases wipeS_in q with ⟨a, rfl⟩ | ⟨a, b⟩
    · have e := List.getElem?_eq_getElem hl
      rw [e, h i a _ e]
    · exact b.symm
theorem wipeS_is {δ : List Sl} {vs : List Nat} : ∀ s ∈ vs, ∀ t, (wipeS δ vs)[s]? = some t → t = .un := fun s hs t et => by
  rcases wipeS_in et with ⟨_, h⟩ | ⟨h, _⟩
  · exact h
  · exact absurd hs h
/-- the accumulated list gets another part -/
theorem acc_put {Dl : Addr} {acc : List Tr} {t : Tr} {v : V} {fp fn : List Addr} {φ : Nat → List Addr} (r : RlP K Γ F H σ δ φ) (o : Ow K F H (.o .l acc) (.ref Dl) fp) (nd : fp.Nodup) (fr : ∀ a ∈ fp, F a = none ∧ (Γ.H0 a = none ∨ Γ.M a)) (sep : ∀ i a, a ∈ φ i → a ∉ fp)
    (on : Ow K F H t v fn) (ndn : fn.Nodup) (frn : ∀ a ∈ fn, F a = none ∧ (Γ.H0 a = none ∨ Γ.M a)) (sepn : ∀ i a, a ∈ φ i → a ∉ fn) (sepf : ∀ a ∈ fp, a ∉ fn) :
    ∃ us, H Dl = some (.lst us) ∧ us.length = acc.length ∧ OwN K Γ F (upd H Dl (.lst (us ++ [v]))) σ δ (.ref Dl) (.o .l (acc ++ [t])) := by
  obtain ⟨p, h, us, fq, e0, rfl, hp, ho, rs⟩ := Ow.o_iff.mp o
  cases e0
  have ho : h = .lst us := ho
  subst ho
  obtain ⟨n1, n2⟩ := List.nodup_cons.mp nd
  have k : ∀ a, a ≠ Dl → upd H Dl (.lst (us ++ [v])) a = H a := fun a h => upd_ne h
  have nDn : Dl ∉ fn := sepf Dl List.mem_cons_self
  have o1 := Ows.cons on (Ows.nil (K := K) (F := F) (H := H))
  rw [List.append_nil] at o1
  have os := rs.append o1
  refine ⟨us, hp, rs.length.symm, φ, Dl :: (fq ++ fn), ?_, ?_, ?_, ?_, ?_⟩
  · have nD : ∀ a, Γ.H0 a ≠ none → ¬ Γ.M a → a ≠ Dl := fun a h0 hm z => by
      subst z
      rcases (fr a List.mem_cons_self).2 with q | q
      · exact h0 q
      · exact hm q
    refine ⟨fun a u e => ?_, r.grow, fun a h0 hio hm => (k a (nD a h0 hm)).trans (r.old a h0 hio hm), fun a h => ?_, r.fz, fun i a h => ?_, r.len, fun i s e => ?_, r.nil, r.sep⟩
    · rw [k a (fun z => by rw [z, (fr Dl List.mem_cons_self).1] at e; cases e)]; exact r.sub a u e
    · by_cases z : a = Dl
      · rw [z, upd_same]; simp
      · rw [k a z]; exact r.mH a h
    · by_cases z : a = Dl
      · rw [z, upd_same]; simp
      · rw [k a z]; exact r.ioH i a h
    · obtain ⟨ov, e1, e2⟩ := r.sl i s e
      exact ⟨ov, e1, e2.keep (Same.refl _) fun a ha => ⟨k a fun z => sep i a ha (by rw [z]; exact List.mem_cons_self), rfl⟩⟩
  · refine Ow.o_iff.mpr ⟨Dl, _, us ++ [v], fq ++ fn, rfl, rfl, upd_same, rfl, os.mono (Same.refl _) fun a ha => k a fun z => ?_⟩
    subst z
    rcases List.mem_append.mp ha with q | q
    · exact n1 q
    · exact nDn q
  · refine List.nodup_cons.mpr ⟨fun h => ?_, List.nodup_append.mpr ⟨n2, ndn, fun x hx y hy hxy => ?_⟩⟩
    · rcases List.mem_append.mp h with q | q
      · exact n1 q
      · exact nDn q
    · subst hxy
      exact sepf x (List.mem_cons_of_mem _ hx) hy
  · intro a ha
    rcases List.mem_cons.mp ha with rfl | ha
    · exact fr _ List.mem_cons_self
    · rcases List.mem_append.mp ha with q | q
      · exact fr a (List.mem_cons_of_mem _ q)
      · exact frn a q
  · intro i a hi ha
    rcases List.mem_cons.mp ha with rfl | ha
    · exact sep i _ hi List.mem_cons_self
    · rcases List.mem_append.mp ha with q | q
      · exact sep i a hi (List.mem_cons_of_mem _ q)
      · exact sepn i a hi q
/-- J walks over ds in the frame -/
structure WkF (K : PySem.W.Frag) (Γ : Fm) (J : It) (ds : List D) (F1 : Hp) : Prop where
  go : ∀ (i : Nat) (F H : Hp) (σ : L2.St) (δ : List Sl), Same F1 F → Rl K Γ F H σ δ → i < ds.length → J.go i H
  yl : ∀ (i : Nat) (d : D) (F H : Hp) (σ : L2.St) (δ : List Sl) (x : V) (H' : Hp), Same F1 F → Rl K Γ F H σ δ → ds[i]? = some d → J.yld i H x H' → ∃ F', Gr F H F' H' ∧ Rep K F' d x
  st : ∀ (i : Nat) (F H : Hp) (σ : L2.St) (δ : List Sl), Same F1 F → Rl K Γ F H σ δ → ds.length ≤ i → J.stop i H
theorem Wk.f {J : It} {ds : List D} {F1 : Hp} (w : Wk K J ds F1) : WkF K Γ J ds F1 := ⟨fun i F H σ δ s r h => w.go i F H s r.sub h, fun i d F H σ δ x H' s r e y => w.yl i d F H x H' s r.sub e y, fun i F H σ δ s r h => w.st i F H s r.sub h⟩
theorem lc_loop {vs tv : List Nat} {g : TG} {tt : TT} {te : TE} {mg : MG} {mt : MT} {me : MO} {J : It} {ds : List D} {F1 H1 : Hp} {δ1 : List Sl} {Q : VK} {Dl : Addr} (hg : ∀ Γ, EvG K Γ WF g mg tv) (ht : ∀ Γ, EvT K Γ WF tt mt) (he : ∀ Γ, EvO K Γ WF te me)
    (hv : ∀ j ∈ tv, j ∈ vs) (R1 : Rl K Γ F1 H1 σ δ1) (wk : WkF K Γ J ds F1) (gu : Gd K Γ W (lcD vs mg mt me ds [] (wipeS δ1 vs)) (fun r => ∀ v F' H', OwN K Γ F' H' σ r.2 v r.1 → Same F1 F' → Q v H')) (hD : H1 Dl = none) :
    ∃ W : Nat → Nat → Hp → Prop, (∃ m, W 0 m (upd H1 Dl (.lst []))) ∧ ∀ i m H, W i m H →
      (J.stop i H ∧ Q (.ref Dl) H) ∨ (J.go i H ∧ ∃ Nx : Hp → Prop, (∀ H', Nx H' → ∃ m', m' < m ∧ W (i + 1) m' H') ∧ ∀ x H', J.yld i H x H' → g x (wipe σ vs) H' fun σ2 H2 => wipe σ2 vs = wipe σ vs ∧ tt σ2 H2 fun b H3 =>
        if b = true then te σ2 H3 fun y H4 => ∃ acc, H4 Dl = some (.lst acc) ∧ acc.length < sizeLine ∧ Nx (upd H4 Dl (.lst (acc ++ [y]))) else Nx H3) := by
  have Rw : Rl K Γ F1 H1 (wipe σ vs) (wipeS δ1 vs) := R1.wiped wipe_wipe
  have o2 := Rw.newL (ds := []) hD Reps.nil
  refine ⟨fun i m H => m = ds.length - i ∧ ∃ δ F2 acc, OwN K Γ F2 H (wipe σ vs) δ (.ref Dl) (.o .l acc) ∧ Same F1 F2 ∧ Gd K Γ W (lcD vs mg mt me (ds.drop i) acc δ) (fun r => ∀ v F' H', OwN K Γ F' H' σ r.2 v r.1 → Same F1 F' → Q v H') ∧ ∀ s ∈ vs, ∀ t, δ[s]? = some t → t = .un,
    ⟨_, rfl, _, F1, [], o2, Same.refl _, gu, wipeS_is⟩, ?_⟩
  rintro i m H2 ⟨rfl, δ2, F2, acc, o2, s2, g2, hun⟩
  by_cases h : i < ds.length
  · right
    refine ⟨wk.go i F2 H2 _ _ s2 o2.rl h, fun H' => ∃ δ F2 acc, OwN K Γ F2 H' (wipe σ vs) δ (.ref Dl) (.o .l acc) ∧ Same F1 F2 ∧ Gd K Γ W (lcD vs mg mt me (ds.drop (i + 1)) acc δ) (fun r => ∀ v F' H', OwN K Γ F' H' σ r.2 v r.1 → Same F1 F' → Q v H') ∧ ∀ s ∈ vs, ∀ t, δ[s]? = some t → t = .un,
      fun H' h' => ⟨ds.length - (i + 1), by omega, rfl, h'⟩, fun x H' hy => ?_⟩
    have hd : ds[i]? = some ds[i] := List.getElem?_eq_getElem h
    obtain ⟨F3, g3, rx⟩ := wk.yl i ds[i] F2 H2 _ _ x H' s2 o2.rl hd hy
    rw [List.drop_eq_getElem_cons h] at g2
    obtain ⟨φ, fp, R3, b1, b2, b3, b4⟩ := (o2.gr g3).ex
    have Ri := R3.enter
    have g2 : Gd K Γ W ((mg ds[i] δ2).ne >>= fun δ1 => (mt δ1).ne >>= fun p => if p.1 = true then (me p.2).ne >>= fun q => if acc.length < sizeLine then lcD vs mg mt me (ds.drop (i + 1)) (acc ++ [q.1]) (wipeS q.2 vs) else R.bad
    else lcD vs mg mt me (ds.drop (i + 1)) acc (wipeS p.2 vs)) _ := g2
    refine hg _ x ds[i] δ2 (wipe σ vs) F3 H' _ ⟨φ, Ri⟩ rx (Gd.mono (Gd.ne g2) fun δ3 gd3 σ3 R4 k4 => ?_)
    have hw : wipe σ3 vs = wipe σ vs := by
      rw [← wipe_wipe (σ := σ)]
      exact wipe_same k4.1 k4.2 hv
    refine ⟨hw, ht _ δ3 σ3 F3 H' _ R4 (Gd.mono (Gd.ne gd3) fun u gu F4 H4 R5 s4 => ?_)⟩
    obtain ⟨k, δ4⟩ := u
    cases k with
    | false =>
      obtain ⟨φ5, R5⟩ := R5
      obtain ⟨R8, kp, sp⟩ := turn_end R3 (fun a ha => b1.there a ha) b4 R5 hw wipe_wipe
      exact ⟨_, F4, acc, ⟨_, fp, R8, b1.mono s4 (fun a ha => (kp a ha).1), b2, fun a ha => ⟨(kp a ha).2.trans (b3 a ha).1, (b3 a ha).2⟩, fun i a hi => sp i a (wipeφ_in hi)⟩, s2.trans (g3.f.trans s4), gu, wipeS_is⟩
    | true =>
      refine he _ δ4 σ3 F4 H4 _ R5 (Gd.mono (Gd.ne gu) fun w gw v F5 H5 o5 s5 => ?_)
      obtain ⟨y, δ5⟩ := w
      have gw : Gd K Γ W (if acc.length < sizeLine then lcD vs mg mt me (ds.drop (i + 1)) (acc ++ [y]) (wipeS δ5 vs) else R.bad) _ := gw
      split at gw
      · rename_i hl
        obtain ⟨φ5, fn, R6, c1, c2, c3, c4⟩ := o5.ex
        obtain ⟨R8, kp, sp⟩ := turn_end R3 (fun a ha => b1.there a ha) b4 R6 hw wipe_wipe
        have fnew : ∀ a ∈ fn, (inner Γ.rv F3 H' δ2 φ).H0 a = none ∨ (inner Γ.rv F3 H' δ2 φ).M a := fun a ha => (c3 a ha).2
        obtain ⟨us, hp, lu, o9⟩ := acc_put R8 (b1.mono (s4.trans s5) (fun a ha => (kp a ha).1)) b2 (fun a ha => ⟨(kp a ha).2.trans (b3 a ha).1, (b3 a ha).2⟩) (fun i a hi => sp i a (wipeφ_in hi)) c1 c2
          (fun a ha => ⟨(c3 a ha).1, by
            rcases fnew a ha with q | q
            · exact .inl (R3.fresh q)
            · exact inner_M R3 q⟩) (fun i a hi => c4 i a (wipeφ_in hi)) (fun a ha hn => by
              rcases fnew a hn with q | q
              · exact b1.there a ha q
              · obtain ⟨j, t, _, q⟩ := q
                exact b4 j a q ha)
        refine ⟨us, hp, by rw [lu]; exact hl, ?_⟩
        exact ⟨_, F5, _, o9, s2.trans (g3.f.trans (s4.trans s5)), gw, wipeS_is⟩
      · exact gw.elim
  · left
    have e : ds.drop i = [] := List.drop_eq_nil_of_le (Nat.le_of_not_lt h)
    rw [e] at g2
    have o9 : OwN K Γ F2 H2 σ δ2 (.ref Dl) (.o .l acc) := by
      have := o2.wiped (σ' := σ) (vs := vs) (by rw [wipe_wipe])
      rwa [wipeS_un hun] at this
    exact ⟨wk.st i F2 H2 _ _ s2 o2.rl (Nat.le_of_not_lt h), g2 _ F2 H2 o9 s2⟩
theorem evLc {vs tv : List Nat} {wi : TI} {g : TG} {tt : TT} {te : TE} {mi : MI} {mg : MG} {mt : MT} {me : MO} (hi : EvI K Γ W wi mi) (hg : ∀ Γ, EvG K Γ WF g mg tv) (ht : ∀ Γ, EvT K Γ WF tt mt) (he : ∀ Γ, EvO K Γ WF te me)
    (hv : ∀ j ∈ tv, j ∈ vs) : EvO K Γ W (tLc wi g tt te vs) (mLc vs mi mg mt me) := fun δ σ F H Q r gd => by
  refine hi δ σ F H _ r ((Gd.bind.mp gd).mono fun u gu J F1 H1 R1 sF wk => fun Dl hD => ?_)
  exact lc_loop hg ht he hv R1 wk.f (gu.mono fun r hr v F' H' o s => hr v F' H' o (sF.trans s)) hD
/-- [elt for tg in iter if ..] -/
theorem jo_lc {elt tg iter : Expr} {ifs : List Expr} {scope : Scope} {own : List (Str × Nat)} {pos : Pos} {tv : List Nat} {mi : MI} {mg : MG} {mt : MT} {me : MO} (hc : X.calm = true) (hN : X.N.Nodup) (hi : JI X W tg iter mi) (ok : BlkOk X.N X.env.scope scope own)
    (hg : ∀ (s : Shared) (H : Hp) (C : Addr) (cl : List (Str × Addr)) (fp : List Addr), JG (X.blk s H scope (compEnvC scope cl C X.env) fp) WF tg mg tv) (ht : ∀ (s : Shared) (H : Hp) (C : Addr) (cl : List (Str × Addr)) (fp : List Addr), JTs (X.blk s H scope (compEnvC scope cl C X.env) fp) WF ifs mt)
    (he : ∀ (s : Shared) (H : Hp) (C : Addr) (cl : List (Str × Addr)) (fp : List Addr), JO (X.blk s H scope (compEnvC scope cl C X.env) fp) WF elt me) (hv : ∀ j ∈ tv, j ∈ own.map (·.2) := by decide) (hs : ∀ x, foldedSetIterable iter X.env x = pure x := by intro _; rfl) :
    JO X W (.ListComp elt [⟨tg, iter, ifs, 0⟩] scope pos) (mLc (own.map (·.2)) mi mg mt me) := by
  obtain ⟨t, p, q⟩ := hi.ex
  exact ⟨_, pe_lc hc hN p ok (fun s H C cl fp => (hg s H C cl fp).rd) (fun s H C cl fp => (ht s H C cl fp).rd) (fun s H C cl fp => (he s H C cl fp).rd) hs, fun Γ => evLc (q Γ) (fun Γ => evRdG) (fun Γ => evRdT) (fun Γ => evRdO) hv⟩
/-- name = [..] -/
theorem js_setLc (i : Nat) {y : Str} {py : Pos} {elt tg iter : Expr} {ifs : List Expr} {scope : Scope} {own : List (Str × Nat)} {pos spos : Pos} {tv : List Nat} {mi : MI} {mg : MG} {mt : MT} {me : MO} (hc : X.calm = true) (hN : X.N.Nodup) (hi : JI X W tg iter mi) (ok : BlkOk X.N X.env.scope scope own)
    (hg : ∀ (s : Shared) (H : Hp) (C : Addr) (cl : List (Str × Addr)) (fp : List Addr), JG (X.blk s H scope (compEnvC scope cl C X.env) fp) WF tg mg tv) (ht : ∀ (s : Shared) (H : Hp) (C : Addr) (cl : List (Str × Addr)) (fp : List Addr), JTs (X.blk s H scope (compEnvC scope cl C X.env) fp) WF ifs mt)
    (he : ∀ (s : Shared) (H : Hp) (C : Addr) (cl : List (Str × Addr)) (fp : List Addr), JO (X.blk s H scope (compEnvC scope cl C X.env) fp) WF elt me)
    (hsw : swapsWith (.ListComp elt [⟨tg, iter, ifs, 0⟩] scope pos) (some (.Name y py)) spos.line X.env = pure true) (hv : ∀ j ∈ tv, j ∈ own.map (·.2) := by decide) (hy : X.N[i]? = some y := by rfl) (hyl : X.env.scope.names.lookup y = some .local := by rfl) (hs : ∀ x, foldedSetIterable iter X.env x = pure x := by intro _; rfl) :
    JS X W (.Assign [.Name y py] (.ListComp elt [⟨tg, iter, ifs, 0⟩] scope pos) spos) (mSetO i (mLc (own.map (·.2)) mi mg mt me)) := by
  obtain ⟨t, p, q⟩ := hi.ex
  exact ⟨_, ps_setLc hc hN hy hyl hsw p ok (fun s H C cl fp => (hg s H C cl fp).rd) (fun s H C cl fp => (ht s H C cl fp).rd) (fun s H C cl fp => (he s H C cl fp).rd) hs, fun Γ => evSetO (evLc (q Γ) (fun Γ => evRdG) (fun Γ => evRdT) (fun Γ => evRdO) hv)⟩
end
end GX
/-! GX7: defs: what a def's mirror promises, how a body keeps it, calls. -/
namespace GX
open PySem PySem.Spec PyProof.Rows L2
/-- arguments by their data; φ: the own part of each -/
structure ArgsOk (K : PySem.W.Frag) (F H : Hp) (ts : List Tr) (vs : List V) (φ : Nat → List Addr) : Prop where
  len : ts.length = vs.length
  at_ : ∀ (i : Nat) (t : Tr), ts[i]? = some t → ∃ v, vs[i]? = some v ∧ Ow K F H t v (φ i) ∧ (φ i).Nodup ∧ ∀ a ∈ φ i, F a = none
  nil : ∀ i : Nat, ts[i]? = none → φ i = []
  sep : ∀ (i j : Nat) (a : Addr), a ∈ φ i → a ∈ φ j → i = j
structure After (F H : Hp) (φ : Nat → List Addr) (F' H' : Hp) : Prop where
  f : Same F F'
  s : Same F' H'
  h : ∀ a, H a ≠ none → (∀ i, a ∉ φ i) → H' a = H a
  z : ∀ a, H a ≠ none → F' a = F a
  t : ∀ a, H a ≠ none → H' a ≠ none
/-- what was lent comes back -/
structure Back (K : PySem.W.Frag) (H : Hp) (φ : Nat → List Addr) (F' H' : Hp) (os : List Tr) (vs : List V) (φ' : Nat → List Addr) : Prop where
  o : ArgsOk K F' H' os vs φ'
  w : ∀ i, ∀ a ∈ φ' i, H a = none ∨ a ∈ φ i
abbrev FR := Rx (List Tr) (Tr × List Tr)
abbrev Fn := List Tr → FR
/-- a def's promise by its mirror f -/
def spF (K : PySem.W.Frag) (f : Fn) : Sp := fun vs H Q E => ∃ F ts φ, Same F H ∧ ArgsOk K F H ts vs φ ∧ match f ts with
  | .ok r => ∀ v fr F' H' φ', After F H φ F' H' → Back K H φ F' H' r.2 vs φ' → Ow K F' H' r.1 v fr → fr.Nodup → (∀ a ∈ fr, F' a = none ∧ H a = none ∧ ∀ i, a ∉ φ' i) → Q v H'
  | .err e os => ∀ cls o F' H' φ', After F H φ F' H' → Back K H φ F' H' os vs φ' → ErOk K e cls o F' H' → E cls o H'
  | .bad => False
/-! ### a def's body -/
def argS : List Tr → List Sl
  | [] => []
  | .d x :: ts => .im x :: argS ts
  | .o sh us :: ts => .io (.o sh us) :: argS ts
def outs : List Tr → List Sl → Option (List Tr)
  | [], _ => some []
  | .d x :: ts, _ :: δ => (outs ts δ).map (.d x :: ·)
  | .o _ _ :: ts, .io t :: δ => (outs ts δ).map (t :: ·)
  | _, _ => none
def runF (n : Nat) (m : MS) : Fn := fun ts => match m (argS ts ++ List.replicate (n - ts.length) .un) with
  | .ok (.nx δ) => R.ofO (outs ts δ) >>= fun os => .ok (.d .non, os)
  | .ok (.rt t δ) => R.ofO (outs ts δ) >>= fun os => .ok (t, os)
  | .err e δ => R.ofO (outs ts δ) >>= fun os => .err e os
  | _ => .bad
section
variable {K : PySem.W.Frag} {Γ : Fm} {F H : Hp} {σ : L2.St} {δ : List Sl} {φ : Nat → List Addr}
theorem argS_len : ∀ ts : List Tr, (argS ts).length = ts.length
  | [] => rfl
  | .d x :: ts => congrArg Nat.succ (argS_len ts)
  | .o sh us :: ts => congrArg Nat.succ (argS_len ts)
theorem argS_at : ∀ {ts : List Tr} {i : Nat} {s : Sl}, (argS ts)[i]? = some s → ∃ t, ts[i]? = some t ∧ ((∃ x, t = .d x ∧ s = .im x) ∨ ((∃ sh us, t = .o sh us) ∧ s = .io t))
  | [], i, s, e => by simp [argS] at e
  | .d x :: ts, 0, s, e => ⟨_, rfl, .inl ⟨x, rfl, (Option.some.inj e).symm⟩⟩
  | .o sh us :: ts, 0, s, e => ⟨_, rfl, .inr ⟨⟨sh, us, rfl⟩, (Option.some.inj e).symm⟩⟩
  | .d x :: ts, i + 1, s, e => argS_at (ts := ts) (i := i) e
  | .o sh us :: ts, i + 1, s, e => argS_at (ts := ts) (i := i) e
abbrev fm0 (F H : Hp) (vs : List V) (φ : Nat → List Addr) : Fm := ⟨F, H, fun i a => a ∈ φ i, fun _ => False, fun i => vs[i]?⟩
theorem Rl.begin {ts : List Tr} {vs : List V} {n : Nat} (s : Same F H) (o : ArgsOk K F H ts vs φ) :
    Rl K (fm0 F H vs φ) F H (vs.map some ++ List.replicate (n - vs.length) none) (argS ts ++ List.replicate (n - ts.length) .un) := by
  have l1 := o.len
  have l3 := argS_len ts
  have there : ∀ i, ∀ a ∈ φ i, H a ≠ none := fun i a h => by
    cases e : ts[i]? with
    | none => rw [o.nil i e] at h; cases h
    | some t =>
      obtain ⟨v, _, ow, _⟩ := o.at_ i t e
      exact ow.there a h
  refine ⟨φ, s, Same.refl _, fun _ _ _ _ => rfl, fun _ z => z.elim, fun _ _ _ => rfl, there, by simp [l1, l3], fun i t e => ?_, fun i e => ?_, o.sep⟩
  · by_cases h : i < ts.length
    · rw [List.getElem?_append_left (by rw [l3]; exact h)] at e
      obtain ⟨t', et, q⟩ := argS_at e
      obtain ⟨v, ev, ow, nd, hf⟩ := o.at_ i t' et
      refine ⟨some v, ?_, ?_⟩
      · rw [List.getElem?_append_left (by rw [List.length_map, ← l1]; exact h), List.getElem?_map, ev]
        rfl
      · rcases q with ⟨x, rfl, rfl⟩ | ⟨⟨sh, us, rfl⟩, rfl⟩
        · obtain ⟨z, r⟩ := Ow.d_iff.mp ow
          exact ⟨z, v, rfl, r⟩
        · exact ⟨v, rfl, ow, nd, fun a ha => ⟨hf a ha, .inr (.inr ha)⟩, ev⟩
    · have hn := o.nil i (List.getElem?_eq_none (by omega))
      rw [List.getElem?_append_right (by rw [l3]; omega)] at e
      have ht : t = .un := by
        rw [List.getElem?_replicate] at e
        split at e
        · cases e; rfl
        · cases e
      subst ht
      have hl' := (List.getElem?_eq_some_iff.mp e).1
      rw [List.length_replicate, l3] at hl'
      refine ⟨none, ?_, hn⟩
      rw [List.getElem?_append_right (by rw [List.length_map, ← l1]; omega), List.length_map, ← l1, List.getElem?_replicate, if_pos (by omega)]
  · have := List.getElem?_eq_none_iff.mp e
    rw [List.length_append, l3] at this
    exact o.nil i (List.getElem?_eq_none (by omega))
theorem outs_at : ∀ {ts os : List Tr} {δ : List Sl}, outs ts δ = some os → os.length = ts.length ∧ ∀ (i : Nat) (o : Tr), os[i]? = some o → ∃ t, ts[i]? = some t ∧ ((∃ x, t = .d x ∧ o = .d x) ∨ ((∃ sh us, t = .o sh us) ∧ δ[i]? = some (.io o)))
  | [], os, δ, e => by cases e; exact ⟨rfl, fun i o h => by simp at h⟩
  | .d x :: ts, os, [], e => by cases e
  | .o _ _ :: ts, os, [], e => by cases e
  | .d x :: ts, os, s :: δ, e => by
    have e : (outs ts δ).map (.d x :: ·) = some os := e
    cases q : outs ts δ with
    | none => rw [q] at e; cases e
    | some os' =>
      rw [q] at e
      cases e
      obtain ⟨a, b⟩ := outs_at q
      refine ⟨congrArg Nat.succ a, fun i o h => ?_⟩
      cases i with
      | zero =>
        have h : Tr.d x = o := Option.some.inj h
        subst h
        exact ⟨_, rfl, .inl ⟨x, rfl, rfl⟩⟩
      | succ i => exact b i o h
  | .o sh us :: ts, os, .un :: δ, e => by cases e
  | .o sh us :: ts, os, .im _ :: δ, e => by cases e
  | .o sh us :: ts, os, .ow _ :: δ, e => by cases e
  | .o sh us :: ts, os, .io t :: δ, e => by
    have e : (outs ts δ).map (t :: ·) = some os := e
    cases q : outs ts δ with
    | none => rw [q] at e; cases e
    | some os' =>
      rw [q] at e
      cases e
      obtain ⟨a, b⟩ := outs_at q
      refine ⟨congrArg Nat.succ a, fun i o h => ?_⟩
      cases i with
      | zero =>
        have h : t = o := Option.some.inj h
        subst h
        exact ⟨_, rfl, .inr ⟨⟨sh, us, rfl⟩, rfl⟩⟩
      | succ i => exact b i o h
/-- what was lent, at the end -/
theorem outs_ok {F' H' : Hp} {φ' : Nat → List Addr} {ts os : List Tr} {vs : List V} (o : ArgsOk K F H ts vs φ) (r : RlP K (fm0 F H vs φ) F' H' σ δ φ') (e : outs ts δ = some os) : ∃ ψ, Back K H φ F' H' os vs ψ ∧ ∀ i, ∀ a ∈ ψ i, a ∈ φ' i := by
  obtain ⟨hl, k⟩ := outs_at e
  refine ⟨fun i => match os[i]? with
    | some (.o _ _) => φ' i
    | some (.d _) => (match ts[i]? with
      | some (.o _ _) => φ' i
      | _ => [])
    | none => [], ⟨⟨by rw [hl]; exact o.len, fun i t et => ?_, fun i en => by simp only [en], fun i j a hi hj => ?_⟩, fun i a ha => ?_⟩, fun i a ha => ?_⟩
  · obtain ⟨t0, e0, q⟩ := k i t et
    obtain ⟨v, ev, ow, _⟩ := o.at_ i t0 e0
    refine ⟨v, ev, ?_⟩
    simp only [et, e0]
    rcases q with ⟨x, rfl, rfl⟩ | ⟨⟨sh, us, rfl⟩, q⟩
    · exact ⟨Ow.im ((Ow.d_iff.mp ow).2.mono r.grow), List.nodup_nil, fun a h => by cases h⟩
    · obtain ⟨ov, w1, w, rfl, ow', nd, z, zr⟩ := r.sl i _ q
      have zr : vs[i]? = some w := zr
      rw [ev] at zr
      cases zr
      cases t with
      | d x => exact ⟨ow', nd, fun a ha => (z a ha).1⟩
      | o _ _ => exact ⟨ow', nd, fun a ha => (z a ha).1⟩
  · refine r.sep i j a ?_ ?_
    · revert hi
      split
      · exact id
      · split
        · exact id
        · intro h; cases h
      · intro h; cases h
    · revert hj
      split
      · exact id
      · split
        · exact id
        · intro h; cases h
      · intro h; cases h
  · have m : a ∈ φ' i := by
      revert ha
      split
      · exact id
      · split
        · exact id
        · intro h; cases h
      · intro h; cases h
    have key : ∀ t, δ[i]? = some (.io t) → H a = none ∨ a ∈ φ i := fun t q => by
      obtain ⟨ov, w1, w, _, _, _, z, _⟩ := r.sl i _ q
      rcases (z a m).2 with z | z | z
      · exact .inl z
      · exact z.elim
      · exact .inr z
    cases et : os[i]? with
    | none => simp only [et] at ha; cases ha
    | some t =>
      obtain ⟨t0, e0, q⟩ := k i t et
      rcases q with ⟨x, rfl, rfl⟩ | ⟨_, q⟩
      · simp only [et, e0] at ha; cases ha
      · exact key t q
  · dsimp only at ha
    revert ha
    split
    · exact id
    · split
      · exact id
      · intro h; cases h
    · intro h; cases h
end
/-- a def by its body -/
theorem fnF {P : Program} {w : World} {K : PySem.W.Frag} {mg : Str → Option Value} {base : Heap} {x qual : Str} {params : Arguments} {body : List Stmt} {scope : Scope} {dvs : List V} {kws : List (Str × V)} {f : Addr} {fd : FuncData} {N ps : List Str} {k : Nat} {m : MS}
    (F : FunD K x qual params body scope dvs kws f fd) (S : FnScope N ps scope)
    (hb : ∀ (cdv : Value) (A : Around) (outer : List Env) (s : Shared) (H : Hp) (E : XK), Room k (A.deeper (envOfC qual scope s.heap.objs.size f cdv)) →
      JSs (cxOf (L2.CX P w) P w K mg base N qual scope f cdv A outer s H E) (fun cls d _ H => E cls d H) body m) : FnOk P w K mg base (L2.CX P w) (k + 1) f fd ps (spF K fun ts => if ts.length = ps.length then runF N.length m ts else .bad) := by
  refine F.ok S (fun vs H Q E h => ?_) (fun cdv A outer s H vs Q E hr hsp => ?_)
  · obtain ⟨F, ts, φ, _, o, h⟩ := h
    rw [← o.len]
    by_cases q : ts.length = ps.length
    · exact q
    · simp only [if_neg q] at h
  · obtain ⟨F, ts, φ, sub, o, hm⟩ := hsp
    by_cases hlen : ts.length = ps.length
    · simp only [if_pos hlen] at hm
      obtain ⟨t, p, q⟩ := (hb cdv A outer s H E hr).ex
      refine ⟨t, p, ?_⟩
      have R0 := Rl.begin (n := N.length) sub o
      refine q (fm0 F H vs φ) _ _ F H _ R0 ?_
      have after : ∀ {σ' : L2.St} {F' H' : Hp} {δ' : List Sl} {φ' : Nat → List Addr}, RlP K (fm0 F H vs φ) F' H' σ' δ' φ' → After F H φ F' H' := fun r => ⟨r.grow, r.sub, fun a h0 hio => r.old a h0 hio fun z => z, fun a h0 => r.fz a h0 fun z => z, fun a h0 => r.there h0⟩
      unfold runF at hm
      show GdS K _ _ F _ (m (argS ts ++ List.replicate (N.length - ts.length) .un))
      cases e : m (argS ts ++ List.replicate (N.length - ts.length) .un) with
      | bad => rw [e] at hm; exact hm.elim
      | err er δ' =>
        rw [e] at hm
        dsimp only at hm
        intro cls oo σ' F' H' r eo
        cases ec : outs ts δ' with
        | none => rw [ec] at hm; exact hm.elim
        | some os =>
          rw [ec] at hm
          obtain ⟨φ', r⟩ := r
          obtain ⟨ψ, b, _⟩ := outs_ok o r ec
          exact hm cls oo F' H' ψ (after r) b eo
      | ok oo =>
        rw [e] at hm
        cases oo with
        | bk _ => exact hm.elim
        | ct _ => exact hm.elim
        | nx δ' =>
          dsimp only at hm
          intro σ' F' H' r s'
          cases ec : outs ts δ' with
          | none => rw [ec] at hm; exact hm.elim
          | some os =>
            rw [ec] at hm
            obtain ⟨φ', r⟩ := r
            obtain ⟨ψ, b, _⟩ := outs_ok o r ec
            exact hm .non [] F' H' ψ (after r) b (Ow.im (by simp only [Rep])) List.nodup_nil (fun a h => by cases h)
        | rt t δ' =>
          dsimp only at hm
          intro v σ' F' H' oo s'
          cases ec : outs ts δ' with
          | none => rw [ec] at hm; exact hm.elim
          | some os =>
            rw [ec] at hm
            obtain ⟨φ', fr, r, a1, a2, a3, a4⟩ := oo.ex
            obtain ⟨ψ, b, c⟩ := outs_ok o r ec
            refine hm v fr F' H' ψ (after r) b a1 a2 fun a ha => ⟨(a3 a ha).1, ?_, fun i z => a4 i a (c i a z) ha⟩
            rcases (a3 a ha).2 with z | z
            · exact z
            · exact z.elim
    · simp only [if_neg hlen] at hm
/-! ### calls -/
/-- the def that the module's name x is keeps the promise, and there is room for its call -/
def Cal (P : Program) (w : World) (K : PySem.W.Frag) (mg : Str → Option Value) (base : Heap) (A : Around) (x : Str) (ps : List Str) (sp : Sp) : Prop :=
  ∃ k f fd, FnOk P w K mg base (L2.CX P w) k f fd ps sp ∧ Room k A ∧ mg x = some (.ref f) ∧ PySem.W.keepIn K (.ref f) = true ∧ Binds K fd ps []
/-- which slots are lent -/
def lents : List Vl → List Nat
  | [] => []
  | .im _ :: xs => lents xs
  | .sl i :: xs => i :: lents xs
def callT (δ : List Sl) : List Vl → Option (List Tr)
  | [] => some []
  | .im d :: xs => (callT δ xs).map (.d d :: ·)
  | .sl i :: xs => match ownAt δ i with
    | some t => (callT δ xs).map (t :: ·)
    | none => none
def callIn (δ : List Sl) (xs : List Vl) : Option (List Tr) := if (lents xs).Nodup then callT δ xs else none
def outS (δ : List Sl) : List Vl → List Tr → List Sl
  | .sl i :: xs, t :: ts => putAt (outS δ xs ts) i t
  | .im _ :: xs, _ :: ts => outS δ xs ts
  | _, _ => δ
def retE (δ : List Sl) (xs : List Vl) (r : FR) : R (Vl × List Sl) := match r with
  | .ok r => (match r.1 with
    | .d x => .ok (.im x, outS δ xs r.2)
    | _ => .bad)
  | .err e os => .err e (outS δ xs os)
  | .bad => .bad
def retO (δ : List Sl) (xs : List Vl) (r : FR) : R (Tr × List Sl) := match r with
  | .ok r => .ok (r.1, outS δ xs r.2)
  | .err e os => .err e (outS δ xs os)
  | .bad => .bad
def mCall (f : Fn) (m : MA) : ME := fun δ => m δ >>= fun p => R.ofO (callIn p.2 p.1) >>= fun ts => retE p.2 p.1 (f ts)
def mCallO (f : Fn) (m : MA) : MO := fun δ => m δ >>= fun p => R.ofO (callIn p.2 p.1) >>= fun ts => retO p.2 p.1 (f ts)
section
variable {X : Cx} {W : WX} {K : PySem.W.Frag} {Γ : Fm} {F H F' H' : Hp} {σ : L2.St} {δ : List Sl} {φ : Nat → List Addr}
theorem lents_in : ∀ {xs : List Vl} {j i : Nat}, xs[j]? = some (.sl i) → i ∈ lents xs
  | [], j, i, h => by simp at h
  | y :: ys, 0, i, h => by
    have h : y = .sl i := Option.some.inj h
    subst h
    exact List.mem_cons_self
  | y :: ys, j + 1, i, h => by
    have := lents_in (xs := ys) (j := j) h
    cases y with
    | im _ => exact this
    | sl _ => exact List.mem_cons_of_mem _ this
theorem lents_one : ∀ {xs : List Vl} {j k i : Nat}, (lents xs).Nodup → xs[j]? = some (.sl i) → xs[k]? = some (.sl i) → j = k
  | [], j, k, i, _, h, _ => by simp at h
  | y :: ys, 0, 0, i, _, h, h2 => rfl
  | y :: ys, 0, k + 1, i, n, h, h2 => by
    have h : y = .sl i := Option.some.inj h
    subst h
    exact absurd (lents_in (xs := ys) (j := k) h2) (List.nodup_cons.mp n).1
  | y :: ys, j + 1, 0, i, n, h, h2 => by
    have h2 : y = .sl i := Option.some.inj h2
    subst h2
    exact absurd (lents_in (xs := ys) (j := j) h) (List.nodup_cons.mp n).1
  | y :: ys, j + 1, k + 1, i, n, h, h2 => by
    refine congrArg Nat.succ (lents_one (xs := ys) (i := i) ?_ h h2)
    cases y with
    | im _ => exact n
    | sl _ => exact (List.nodup_cons.mp n).2
theorem callT_at : ∀ {xs : List Vl} {ts : List Tr}, callT δ xs = some ts → ts.length = xs.length ∧ ∀ (j : Nat) (t : Tr), ts[j]? = some t → (∃ d, xs[j]? = some (.im d) ∧ t = .d d) ∨ ∃ i, xs[j]? = some (.sl i) ∧ ownAt δ i = some t
  | [], ts, e => by cases e; exact ⟨rfl, fun j t h => by simp at h⟩
  | .im d :: xs, ts, e => by
    have e : (callT δ xs).map (.d d :: ·) = some ts := e
    cases q : callT δ xs with
    | none => rw [q] at e; cases e
    | some ts' =>
      rw [q] at e
      cases e
      obtain ⟨a, b⟩ := callT_at q
      refine ⟨congrArg Nat.succ a, fun j t h => ?_⟩
      cases j with
      | zero => exact .inl ⟨d, rfl, (Option.some.inj h).symm⟩
      | succ j => exact b j t h
  | .sl i :: xs, ts, e => by
    dsimp only [callT] at e
    cases q0 : ownAt δ i with
    | none => rw [q0] at e; cases e
    | some t0 =>
      rw [q0] at e
      cases q : callT δ xs with
      | none => rw [q] at e; cases e
      | some ts' =>
        rw [q] at e
        cases e
        obtain ⟨a, b⟩ := callT_at q
        refine ⟨congrArg Nat.succ a, fun j t h => ?_⟩
        cases j with
        | zero => exact .inr ⟨i, rfl, by rw [q0]; exact h⟩
        | succ j => exact b j t h
theorem vls_at : ∀ {vs : List V} {xs : List Vl} {k : Nat} {x : Vl}, VlsOk K F σ vs xs → xs[k]? = some x → ∃ v, vs[k]? = some v ∧ VlOk K F σ v x
  | [], [], k, x, _, e => by simp at e
  | w :: vs, x :: xs, 0, y, h, e => by
    have e : x = y := Option.some.inj e
    subst e
    exact ⟨w, rfl, h.1⟩
  | w :: vs, x :: xs, k + 1, y, h, e => vls_at (k := k) h.2 e
  | [], _ :: _, _, _, h, _ => h.elim
  | _ :: _, [], _, _, h, _ => h.elim
theorem vls_len : ∀ {vs : List V} {xs : List Vl}, VlsOk K F σ vs xs → xs.length = vs.length
  | [], [], _ => rfl
  | v :: vs, x :: xs, h => congrArg Nat.succ (vls_len h.2)
  | [], _ :: _, h => h.elim
  | _ :: _, [], h => h.elim
/-- the own part of each argument -/
def argφ (φ : Nat → List Addr) (xs : List Vl) : Nat → List Addr := fun j => match xs[j]? with
  | some (.sl i) => φ i
  | _ => []
theorem argφ_in {xs : List Vl} {j : Nat} {a : Addr} (h : a ∈ argφ φ xs j) : ∃ i, xs[j]? = some (.sl i) ∧ a ∈ φ i := by
  unfold argφ at h
  split at h
  · rename_i i e
    exact ⟨i, e, h⟩
  · cases h
theorem args_of (r : RlP K Γ F H σ δ φ) {xs : List Vl} {vs : List V} {ts : List Tr} (h : VlsOk K F σ vs xs) (n : (lents xs).Nodup) (e : callT δ xs = some ts) : ArgsOk K F H ts vs (argφ φ xs) := by
  obtain ⟨hl, k⟩ := callT_at e
  refine ⟨hl.trans (vls_len h), fun j t ht => ?_, fun j hn => ?_, fun j k a hj hk => ?_⟩
  · rcases k j t ht with ⟨d, ex, rfl⟩ | ⟨i, ex, eo⟩
    · obtain ⟨v, ev, hv⟩ := vls_at h ex
      refine ⟨v, ev, ?_⟩
      unfold argφ
      rw [ex]
      exact ⟨Ow.im hv, List.nodup_nil, fun a h => by cases h⟩
    · obtain ⟨v, ev, hv⟩ := vls_at h ex
      refine ⟨v, ev, ?_⟩
      unfold argφ
      rw [ex]
      obtain ⟨w, e1, o, nd, z⟩ := r.own eo
      have hv : σ[i]? = some (some v) := hv
      rw [hv] at e1
      cases e1
      exact ⟨o, nd, z⟩
  · unfold argφ
    have : xs[j]? = none := by
      rw [List.getElem?_eq_none_iff] at hn ⊢
      omega
    rw [this]
  · obtain ⟨i, e1, m1⟩ := argφ_in hj
    obtain ⟨i', e2, m2⟩ := argφ_in hk
    have := r.sep i i' a m1 m2
    subst this
    exact lents_one n e1 e2
theorem putAt_len {i : Nat} {t : Tr} : (putAt δ i t).length = δ.length := by
  unfold putAt
  split
  · exact List.length_set ..
  · rfl
theorem outS_len : ∀ {xs : List Vl} {ts : List Tr}, (outS δ xs ts).length = δ.length
  | .sl i :: xs, t :: ts => by show (putAt (outS δ xs ts) i t).length = _; rw [putAt_len, outS_len]
  | .im _ :: xs, _ :: ts => outS_len (xs := xs) (ts := ts)
  | [], ts => by cases ts <;> rfl
  | .sl _ :: _, [] => rfl
  | .im _ :: _, [] => rfl
/-- the slots behind a call -/
theorem outS_at : ∀ {xs : List Vl} {os : List Tr}, os.length = xs.length → (lents xs).Nodup → ∀ (j : Nat) (s : Sl), (outS δ xs os)[j]? = some s →
    (j ∉ lents xs ∧ δ[j]? = some s) ∨ ∃ (k : Nat) (o : Tr) (s0 : Sl), xs[k]? = some (.sl j) ∧ os[k]? = some o ∧ δ[j]? = some s0 ∧ s = s0.put o
  | [], os, hl, n, j, s, e => .inl ⟨by simp [lents], by cases os <;> exact e⟩
  | _ :: xs, [], hl, n, j, s, e => by simp at hl
  | .im d :: xs, o :: os, hl, n, j, s, e => by
    rcases outS_at (xs := xs) (os := os) (by simpa using hl) n j s e with q | ⟨k, o', s0, e1, e2, q⟩
    · exact .inl q
    · exact .inr ⟨k + 1, o', s0, e1, e2, q⟩
  | .sl i :: xs, o :: os, hl, n, j, s, e => by
    obtain ⟨n1, n2⟩ := List.nodup_cons.mp (show (i :: lents xs).Nodup from n)
    have ih := outS_at (xs := xs) (os := os) (by simpa using hl) n2
    have e : (putAt (outS δ xs os) i o)[j]? = some s := e
    unfold putAt at e
    cases es : (outS δ xs os)[i]? with
    | none =>
      rw [es] at e
      have e : (outS δ xs os)[j]? = some s := e
      have q : j ≠ i := fun z => by rw [z, es] at e; cases e
      rcases ih j s e with ⟨q1, q2⟩ | ⟨k, o', s0, e1, e2, e3⟩
      · exact .inl ⟨fun z => (List.mem_cons.mp (show j ∈ i :: lents xs from z)).elim q q1, q2⟩
      · exact .inr ⟨k + 1, o', s0, e1, e2, e3⟩
    | some si =>
      rw [es] at e
      have e : ((outS δ xs os).set i (si.put o))[j]? = some s := e
      by_cases q : j = i
      · subst q
        rw [List.getElem?_set_self (List.getElem?_eq_some_iff.mp es).1] at e
        cases e
        right
        rcases ih j si es with ⟨q1, q2⟩ | ⟨k, o', s0, e1, _⟩
        · exact ⟨0, o, si, rfl, rfl, q2, rfl⟩
        · exact absurd (lents_in e1) n1
      · rw [List.getElem?_set_ne (Ne.symm q)] at e
        rcases ih j s e with ⟨q1, q2⟩ | ⟨k, o', s0, e1, e2, e3⟩
        · exact .inl ⟨fun z => (List.mem_cons.mp (show j ∈ i :: lents xs from z)).elim q q1, q2⟩
        · exact .inr ⟨k + 1, o', s0, e1, e2, e3⟩
theorem lents_ex : ∀ {xs : List Vl} {i : Nat}, i ∈ lents xs → ∃ j : Nat, xs[j]? = some (Vl.sl i)
  | [], i, h => by cases h
  | .im d :: xs, i, h => by
    obtain ⟨j, e⟩ := lents_ex (xs := xs) h
    exact ⟨j + 1, e⟩
  | .sl k :: xs, i, h => by
    rcases List.mem_cons.mp (show i ∈ k :: lents xs from h) with rfl | h
    · exact ⟨0, rfl⟩
    · obtain ⟨j, e⟩ := lents_ex h
      exact ⟨j + 1, e⟩
/-- behind a call -/
theorem RlP.called (r : RlP K Γ F H σ δ φ) {xs : List Vl} {vs : List V} {ts os : List Tr} {ψ : Nat → List Addr} (h : VlsOk K F σ vs xs) (n : (lents xs).Nodup) (ec : callT δ xs = some ts)
    (a : After F H (argφ φ xs) F' H') (b : Back K H (argφ φ xs) F' H' os vs ψ) : ∃ φ', RlP K Γ F' H' σ (outS δ xs os) φ' ∧ ∀ i x, x ∈ φ' i → x ∈ φ i ∨ ∃ j, x ∈ ψ j := by
  have hlen : os.length = xs.length := b.o.len.trans (vls_len h).symm
  have pick : ∃ χ : Nat → List Addr, (∀ i, i ∉ lents xs → χ i = φ i) ∧ ∀ i j : Nat, xs[j]? = some (Vl.sl i) → χ i = ψ j := by
    classical
    refine ⟨fun i => if q : ∃ j : Nat, xs[j]? = some (Vl.sl i) then ψ q.choose else φ i, fun i hi => ?_, fun i j e => ?_⟩
    · exact dif_neg fun ⟨j, e⟩ => hi (lents_in e)
    · have q : ∃ j : Nat, xs[j]? = some (Vl.sl i) := ⟨j, e⟩
      show (dite _ _ _) = _
      rw [dif_pos q, lents_one n q.choose_spec e]
  obtain ⟨χ, c1, c2⟩ := pick
  have nfp : ∀ i, i ∉ lents xs → ∀ x ∈ φ i, ∀ j, x ∉ argφ φ xs j := fun i hi x hx j hj => by
    obtain ⟨i', e, m⟩ := argφ_in hj
    have := r.sep i i' x hx m
    subst this
    exact hi (lents_in e)
  refine ⟨χ, r.next a.s a.f (fun x hx hn => a.h x hx fun j z => ?_) (fun x hx _ => a.z x hx) a.t (by rw [outS_len]; exact r.len) (fun i s e => ?_) (fun i e => ?_) (fun i j x hi hj => ?_), fun i x hx => ?_⟩
  · obtain ⟨i, _, m⟩ := argφ_in z
    exact hn i m
  · rcases outS_at hlen n i s e with ⟨q1, q2⟩ | ⟨k, o, s0, e1, e2, e3, rfl⟩
    · obtain ⟨ov, w1, w2⟩ := r.sl i s q2
      refine ⟨ov, w1, ?_⟩
      rw [c1 i q1]
      exact w2.keep a.f fun x hx => ⟨a.h x (r.inn hx).1 (nfp i q1 x hx), a.z x (r.inn hx).1⟩
    · obtain ⟨v, ev, hv⟩ := vls_at h e1
      have hv : σ[i]? = some (some v) := hv
      obtain ⟨v', ev', ow, nd, zf⟩ := b.o.at_ k o e2
      rw [ev] at ev'
      cases ev'
      obtain ⟨ov, w1, w2⟩ := r.sl i s0 e3
      rw [hv] at w1
      cases w1
      refine ⟨_, hv, ?_⟩
      rw [c2 i k e1]
      have mem : ∀ x ∈ ψ k, Γ.H0 x = none ∨ x ∈ φ i := fun x hx => by
        rcases b.w k x hx with z | z
        · exact .inl (r.fresh z)
        · obtain ⟨i', e, m⟩ := argφ_in z
          rw [e1] at e
          cases e
          exact .inr m
      obtain ⟨tk, ht⟩ : ∃ tk, ts[k]? = some tk := by
        have hl := (callT_at ec).1
        have := (List.getElem?_eq_some_iff.mp e1).1
        exact ⟨ts[k], List.getElem?_eq_getElem (by omega)⟩
      have own0 : s0.own = some tk := by
        rcases (callT_at ec).2 k tk ht with ⟨d, e, _⟩ | ⟨i', e, eo⟩
        · rw [e1] at e; cases e
        · rw [e1] at e
          cases e
          obtain ⟨s', e', eo'⟩ := ownAt_some eo
          rw [e3] at e'
          cases e'
          exact eo'
      cases s0 with
      | un => cases own0
      | im d => cases own0
      | ow t =>
        obtain ⟨_, _, _, _, z⟩ := w2
        exact ⟨v, rfl, ow, nd, fun x hx => ⟨zf x hx, (mem x hx).elim .inl fun m => (z x m).2⟩⟩
      | io t =>
        obtain ⟨_, er, _, _, z, zr⟩ := w2
        cases er
        exact ⟨v, rfl, ow, nd, fun x hx => ⟨zf x hx, (mem x hx).elim .inl fun m => (z x m).2⟩, zr⟩
  · have e' : δ[i]? = none := by
      rw [List.getElem?_eq_none_iff] at e ⊢
      rwa [outS_len] at e
    have hi : i ∉ lents xs := fun z => by
      obtain ⟨j, ej⟩ := lents_ex z
      obtain ⟨v, _, hv⟩ := vls_at h ej
      have hv : σ[i]? = some (some v) := hv
      have h1 := (List.getElem?_eq_some_iff.mp hv).1
      rw [r.len] at h1
      rw [List.getElem?_eq_none_iff] at e'
      omega
    rw [c1 i hi]
    exact r.nil i e'
  · by_cases hi' : i ∈ lents xs
    · obtain ⟨k, ek⟩ := lents_ex hi'
      rw [c2 i k ek] at hi
      by_cases hj' : j ∈ lents xs
      · obtain ⟨l, el⟩ := lents_ex hj'
        rw [c2 j l el] at hj
        have := b.o.sep k l x hi hj
        subst this
        rw [ek] at el
        cases el
        rfl
      · rw [c1 j hj'] at hj
        rcases b.w k x hi with z | z
        · exact absurd z (r.inn hj).1
        · exact absurd z (nfp j hj' x hj k)
    · rw [c1 i hi'] at hi
      by_cases hj' : j ∈ lents xs
      · obtain ⟨l, el⟩ := lents_ex hj'
        rw [c2 j l el] at hj
        rcases b.w l x hj with z | z
        · exact absurd z (r.inn hi).1
        · exact absurd z (nfp i hi' x hi l)
      · rw [c1 j hj'] at hj
        exact r.sep i j x hi hj
  · by_cases hi' : i ∈ lents xs
    · obtain ⟨k, ek⟩ := lents_ex hi'
      rw [c2 i k ek] at hx
      exact .inr ⟨k, hx⟩
    · rw [c1 i hi'] at hx
      exact .inl hx
theorem callIn_some {xs : List Vl} {ts : List Tr} (e : callIn δ xs = some ts) : (lents xs).Nodup ∧ callT δ xs = some ts := by
  unfold callIn at e
  split at e
  · rename_i n
    exact ⟨n, e⟩
  · cases e
/-- what the caller wants, by the callee's promise -/
theorem call_sp {xs : List Vl} {vs : List V} {ts : List Tr} {f : Fn} {Q : VK} {E : XK} (r : Rl K Γ F H σ δ) (h : VlsOk K F σ vs xs) (e : callIn δ xs = some ts)
    (k : match f ts with
      | .ok p => ∀ v F' H', OwN K Γ F' H' σ (outS δ xs p.2) v p.1 → Same F F' → Q v H'
      | .err er os => ∀ cls o F' H', Rl K Γ F' H' σ (outS δ xs os) → ErOk K er cls o F' H' → E cls o H'
      | .bad => False) : spF K f vs H Q E := by
  obtain ⟨φ, r⟩ := r
  obtain ⟨n, ec⟩ := callIn_some e
  refine ⟨F, ts, argφ φ xs, r.sub, args_of r h n ec, ?_⟩
  cases ef : f ts with
  | bad => rw [ef] at k; exact k
  | err er os =>
    rw [ef] at k
    intro cls o F' H' ψ a b eo
    obtain ⟨φ', r', _⟩ := r.called h n ec a b
    exact k cls o F' H' ⟨φ', r'⟩ eo
  | ok p =>
    rw [ef] at k
    intro v fr F' H' ψ a b ow nd z
    obtain ⟨φ', r', w⟩ := r.called h n ec a b
    refine k v F' H' ⟨φ', fr, r', ow, nd, fun x hx => ⟨(z x hx).1, .inl (r.fresh (z x hx).2.1)⟩, fun i x hi hx => ?_⟩ a.f
    rcases w i x hi with m | ⟨j, m⟩
    · exact (r.inn m).1 (z x hx).2.1
    · exact (z x hx).2.2 j m
theorem OwN.dRep {v : V} {d : D} (o : OwN K Γ F H σ δ v (.d d)) : Rep K F d v := by
  obtain ⟨_, _, _, a, _⟩ := o.ex
  exact (Ow.d_iff.mp a).2
theorem retE_sp {xs : List Vl} {vs : List V} {ts : List Tr} {f : Fn} {Q : VK} (r : Rl K Γ F H σ δ) (h : VlsOk K F σ vs xs) (e : callIn δ xs = some ts)
    (g : Gd K Γ W (retE δ xs (f ts)) (fun p => ∀ v F' H', Rl K Γ F' H' σ p.2 → Same F F' → VlOk K F' σ v p.1 → Q v H')) : spF K f vs H Q (WE W σ) := by
  refine call_sp r h e ?_
  unfold retE at g
  cases ef : f ts with
  | bad => rw [ef] at g; exact g
  | err er os =>
    rw [ef] at g
    exact fun cls o F' H' r' eo => g cls o σ F' H' r' eo
  | ok p =>
    rw [ef] at g
    obtain ⟨t, os⟩ := p
    cases t with
    | d x => exact fun v F' H' o s => g v F' H' o.rl s o.dRep
    | o _ _ => exact g.elim
theorem retO_sp {xs : List Vl} {vs : List V} {ts : List Tr} {f : Fn} {Q : VK} (r : Rl K Γ F H σ δ) (h : VlsOk K F σ vs xs) (e : callIn δ xs = some ts)
    (g : Gd K Γ W (retO δ xs (f ts)) (fun p => ∀ v F' H', OwN K Γ F' H' σ p.2 v p.1 → Same F F' → Q v H')) : spF K f vs H Q (WE W σ) := by
  refine call_sp r h e ?_
  unfold retO at g
  cases ef : f ts with
  | bad => rw [ef] at g; exact g
  | err er os =>
    rw [ef] at g
    exact fun cls o F' H' r' eo => g cls o σ F' H' r' eo
  | ok p =>
    rw [ef] at g
    exact g
variable {e : Expr} {es : List Expr} {mr : MA} {pos p' : Pos} {x : Str} {ps : List Str} {f : Fn}
theorem je_call (tk : Takes X W) (C : Cal X.prog X.w X.K X.mg X.base X.A x ps (spF X.K f)) (ha : JA X W (e :: es) mr) (hg : Gl X x := by rfl) (hdb : (x == ("__debug__" : Str)) = false := by decide)
    (he : starEach (e :: es) X.env = (false, eval e X.env) :: starEach es X.env := by rfl) (hpl : (backTo pos (starEach es X.env)).any (·.1) = false := by rfl) : JE X W (.Call (.Name x p') (e :: es) [] pos) (mCall f mr) := by
  obtain ⟨k, fa, fd, G, hr, hm, hk, hb⟩ := C
  obtain ⟨t, p, q⟩ := ha.ex
  refine ⟨_, pe_callS G hr hg hm hk hb (fun σ => passAt tk σ) p hdb he hpl, fun Γ δ σ F H Q r g => ?_⟩
  refine q Γ δ σ F H _ r ((Gd.bind.mp g).mono fun u gu vs F1 H1 R1 s1 hv => ?_)
  obtain ⟨ts, ed, gu⟩ := Gd.obind gu
  exact retE_sp R1 hv ed (gu.mono fun p hp v F' H' r' s' hv' => hp v F' H' r' (s1.trans s') hv')
theorem jo_call (tk : Takes X W) (C : Cal X.prog X.w X.K X.mg X.base X.A x ps (spF X.K f)) (ha : JA X W (e :: es) mr) (hg : Gl X x := by rfl) (hdb : (x == ("__debug__" : Str)) = false := by decide)
    (he : starEach (e :: es) X.env = (false, eval e X.env) :: starEach es X.env := by rfl) (hpl : (backTo pos (starEach es X.env)).any (·.1) = false := by rfl) : JO X W (.Call (.Name x p') (e :: es) [] pos) (mCallO f mr) := by
  obtain ⟨k, fa, fd, G, hr, hm, hk, hb⟩ := C
  obtain ⟨t, p, q⟩ := ha.ex
  refine ⟨_, pe_callS G hr hg hm hk hb (fun σ => passAt tk σ) p hdb he hpl, fun Γ δ σ F H Q r g => ?_⟩
  refine q Γ δ σ F H _ r ((Gd.bind.mp g).mono fun u gu vs F1 H1 R1 s1 hv => ?_)
  obtain ⟨ts, ed, gu⟩ := Gd.obind gu
  exact retO_sp R1 hv ed (gu.mono fun p hp v F' H' r' s' => hp v F' H' r' (s1.trans s'))
end
end GX
/-! GX8: the operations on data. -/
namespace GX
open PySem PySem.Spec PyProof.Rows L2
section
variable {K : PySem.W.Frag} {F H : Hp} {v : V}
theorem rInt {i : Int} : Rep K F (.int i) (.int i) := by simp only [Rep]
theorem rStr {s : Str} : Rep K F (.str s) (.str s) := by simp only [Rep]
theorem rBl {b : Bool} : Rep K F (.bl b) (.bl b) := by simp only [Rep]
theorem rNon : Rep K F .non .non := by simp only [Rep]
/-! ### arithmetic -/
def addI : D → D → Option D
  | .int a, .int b => some (.int (a + b))
  | _, _ => none
def subI : D → D → Option D
  | .int a, .int b => some (.int (a - b))
  | _, _ => none
def mulI : D → D → Option D
  | .int a, .int b => if (-(2 ^ 64) < a ∧ a.toNat < 2 ^ 64) ∨ (-(2 ^ 64) < b ∧ b.toNat < 2 ^ 64) then some (.int (a * b)) else none
  | _, _ => none
def divI : D → D → Option D
  | .int a, .int b => if 0 < b ∧ b.toNat < 1073741824 then some (.int (a / b)) else none
  | _, _ => none
def modI : D → D → Option D
  | .int a, .int b => if 0 < b then some (.int (a % b)) else none
  | _, _ => none
def powI : D → D → Option D
  | .int a, .int b => if 0 ≤ b ∧ b.toNat ≤ 1000000 ∧ a.natAbs < 2 ^ 64 then some (.int (a ^ b.toNat)) else none
  | _, _ => none
def addS : D → D → Option D
  | .str a, .str b => if a.length + b.length ≤ sizeLine then some (.str (a ++ b)) else none
  | _, _ => none
theorem bi_add : BinD K (rI0 fun i j => .int (i + j)) addI := by
  intro F H x y dx dy d Q s rx ry e w
  cases dx <;> try (cases e; done)
  cases dy <;> try (cases e; done)
  cases e
  exact ⟨_, _, rx.int, ry.int, w.here s rInt⟩
theorem bi_sub : BinD K (rI0 fun i j => .int (i - j)) subI := by
  intro F H x y dx dy d Q s rx ry e w
  cases dx <;> try (cases e; done)
  cases dy <;> try (cases e; done)
  cases e
  exact ⟨_, _, rx.int, ry.int, w.here s rInt⟩
theorem bi_mul : BinD K (rI CMul fun i j => .int (i * j)) mulI := by
  intro F H x y dx dy d Q s rx ry e w
  cases dx <;> try (cases e; done)
  cases dy <;> try (cases e; done)
  dsimp only [mulI] at e
  split at e
  · rename_i h
    cases e
    exact ⟨_, _, rx.int, ry.int, by (try show _ ∨ _); (try show _ ∧ _); omega, w.here s rInt⟩
  · cases e
theorem bi_div : BinD K (rI CDiv fun i j => .int (i / j)) divI := by
  intro F H x y dx dy d Q s rx ry e w
  cases dx <;> try (cases e; done)
  cases dy <;> try (cases e; done)
  dsimp only [divI] at e
  split at e
  · rename_i h
    cases e
    exact ⟨_, _, rx.int, ry.int, by (try show _ ∨ _); (try show _ ∧ _); omega, w.here s rInt⟩
  · cases e
theorem bi_mod : BinD K (rI (fun _ j => 0 < j) fun i j => .int (i % j)) modI := by
  intro F H x y dx dy d Q s rx ry e w
  cases dx <;> try (cases e; done)
  cases dy <;> try (cases e; done)
  dsimp only [modI] at e
  split at e
  · rename_i h
    cases e
    exact ⟨_, _, rx.int, ry.int, h, w.here s rInt⟩
  · cases e
theorem bi_pow : BinD K (rI CPow fun i j => .int (i ^ j.toNat)) powI := by
  intro F H x y dx dy d Q s rx ry e w
  cases dx <;> try (cases e; done)
  cases dy <;> try (cases e; done)
  dsimp only [powI] at e
  split at e
  · rename_i h
    cases e
    exact ⟨_, _, rx.int, ry.int, ⟨h.1, by omega, h.2.2⟩, w.here s rInt⟩
  · cases e
theorem bi_addS : BinD K (fun x y H Q => ∃ i j, x = .str i ∧ y = .str j ∧ i.length + j.length ≤ sizeLine ∧ Q (.str (i ++ j)) H) addS := by
  intro F H x y dx dy d Q s rx ry e w
  cases dx <;> try (cases e; done)
  cases dy <;> try (cases e; done)
  dsimp only [addS] at e
  split at e
  · rename_i h
    cases e
    exact ⟨_, _, rx.str, ry.str, h, w.here s rStr⟩
  · cases e
def negI : D → Option D
  | .int a => some (.int (-a))
  | _ => none
theorem un_negD : UnD K (rU fun i => .int (-i)) negI := by
  intro F H x dx d Q s rx e w
  cases dx <;> try (cases e; done)
  cases e
  exact ⟨_, rx.int, w.here s rInt⟩
/-! ### comparisons -/
def cmpI (p : Int → Int → Bool) : D → D → Option D
  | .int a, .int b => some (.bl (p a b))
  | _, _ => none
theorem bi_cmp {p : Int → Int → Bool} : BinD K (rI0 fun i j => .bl (p i j)) (cmpI p) := by
  intro F H x y dx dy d Q s rx ry e w
  cases dx <;> try (cases e; done)
  cases dy <;> try (cases e; done)
  cases e
  exact ⟨_, _, rx.int, ry.int, w.here s rBl⟩
abbrev ltI := cmpI fun i j => decide (i < j)
abbrev leI := cmpI fun i j => decide (i ≤ j)
abbrev gtI := cmpI fun i j => decide (j < i)
abbrev geI := cmpI fun i j => decide (j ≤ i)
/-- == of scalars of one kind -/
def eqS : D → D → Option Bool
  | .int a, .int b => some (decide (a = b))
  | .str a, .str b => some (decide (a = b))
  | .bl a, .bl b => some (decide (a = b))
  | .non, .non => some true
  | _, _ => none
theorem eqS_v {x y : V} {dx dy : D} {b : Bool} (rx : RdV K F H x dx) (ry : RdV K F H y dy) (e : eqS dx dy = some b) : scal x y = true ∧ decide (x = y) = b := by
  cases dx <;> try (cases e; done)
  · cases dy <;> try (cases e; done)
    cases e; rw [rx.non, ry.non]; exact ⟨rfl, by simp⟩
  · cases dy <;> try (cases e; done)
    cases e; rw [rx.bl, ry.bl]; exact ⟨rfl, by simp⟩
  · cases dy <;> try (cases e; done)
    cases e; rw [rx.int, ry.int]; exact ⟨rfl, by simp⟩
  · cases dy <;> try (cases e; done)
    cases e; rw [rx.str, ry.str]; exact ⟨rfl, by simp⟩
def eqD (a b : D) : Option D := (eqS a b).map .bl
def neD (a b : D) : Option D := (eqS a b).map fun k => .bl (!k)
theorem bi_eq : BinD K rEq eqD := by
  intro F H x y dx dy d Q s rx ry e w
  unfold eqD at e
  cases q : eqS dx dy with
  | none => rw [q] at e; cases e
  | some b =>
    rw [q] at e; cases e
    obtain ⟨h1, h2⟩ := eqS_v rx ry q
    exact ⟨h1, by rw [h2]; exact w.here s rBl⟩
theorem bi_ne : BinD K rNe neD := by
  intro F H x y dx dy d Q s rx ry e w
  unfold neD at e
  cases q : eqS dx dy with
  | none => rw [q] at e; cases e
  | some b =>
    rw [q] at e; cases e
    obtain ⟨h1, h2⟩ := eqS_v rx ry q
    exact ⟨h1, by rw [h2]; exact w.here s rBl⟩
/-- is None, is not None -/
def isN : D → D → Option D
  | .non, .non => some (.bl true)
  | .int _, .non => some (.bl false)
  | .str _, .non => some (.bl false)
  | .bl _, .non => some (.bl false)
  | .lst _, .non => some (.bl false)
  | .tup _, .non => some (.bl false)
  | _, _ => none
def notN (a b : D) : Option D := (isN a b).bind fun d => match d with
  | .bl k => some (.bl (!k))
  | _ => none
theorem isN_v {x y : V} {dx dy d : D} (s : Same F H) (rx : RdV K F H x dx) (ry : RdV K F H y dy) (e : isN dx dy = some d) : y = .non ∧ d = .bl (decide (x = .non)) := by
  cases dy <;> try (cases dx <;> cases e; done)
  refine ⟨ry.non, ?_⟩
  cases dx <;> try (cases e; done)
  · cases e; rw [rx.non]; simp
  · cases e; rw [rx.bl]; simp
  · cases e; rw [rx.int]; simp
  · cases e; rw [rx.str]; simp
  · cases e; obtain ⟨p, vs, rfl, _⟩ := rx.lst s; simp
  · cases e; obtain ⟨p, vs, rfl, _⟩ := rx.tup s; simp
theorem bi_isN : BinD K (fun x y H Q => y = .non ∧ Q (.bl (decide (x = .non))) H) isN := by
  intro F H x y dx dy d Q s rx ry e w
  obtain ⟨h1, h2⟩ := isN_v s rx ry e
  subst h2
  exact ⟨h1, w.here s rBl⟩
theorem bi_notN : BinD K (fun x y H Q => y = .non ∧ Q (.bl (!decide (x = .non))) H) notN := by
  intro F H x y dx dy d Q s rx ry e w
  unfold notN at e
  cases q : isN dx dy with
  | none => rw [q] at e; cases e
  | some d' =>
    obtain ⟨h1, h2⟩ := isN_v s rx ry q
    subst h2
    rw [q] at e
    cases e
    exact ⟨h1, w.here s rBl⟩
/-! ### == of lists of texts -/
def strsD : List D → Option (List Str)
  | [] => some []
  | .str s :: r => (strsD r).map (s :: ·)
  | _ :: _ => none
theorem strsD_v : ∀ {ds : List D} {ss : List Str} {vs : List V}, strsD ds = some ss → Reps K F ds vs → vs = ss.map V.str
  | [], ss, vs, e, h => by cases e; rw [Reps.nil_iff.mp h]; rfl
  | d :: ds, ss, vs, e, h => by
    obtain ⟨v, r, rfl, h1, h2⟩ := Reps.cons_iff.mp h
    cases d <;> try (cases e; done)
    rename_i z
    dsimp only [strsD] at e
    cases q : strsD ds with
    | none => rw [q] at e; cases e
    | some ss' =>
      rw [q] at e
      cases e
      rw [strsD_v q h2]
      have : v = .str z := by simpa only [Rep] using h1
      rw [this]
      rfl
def okStr (s : Str) : Bool := SeqAt.shaped (.str s)
def eqL : D → D → Option D
  | .lst a, .lst b => match strsD a, strsD b with
    | some x, some y => if SeqAt.shaped (.list (x.map PyData.str)) = true ∧ SeqAt.shaped (.list (y.map PyData.str)) = true then some (.bl (decide (x = y))) else none
    | _, _ => none
  | _, _ => none
theorem dpStrs {H : Hp} : ∀ ss : List Str, DpAll K H (ss.map V.str) (ss.map PyData.str)
  | [] => .nil
  | s :: r => .cons (.str s) (dpStrs r)
theorem eqvStrs : ∀ a b : List Str, PyData.eqvAll (a.map PyData.str) (b.map PyData.str) = decide (a = b) := by
  intro a
  induction a with
  | nil =>
    intro b
    cases b with
    | nil => rfl
    | cons y b => simp [PyData.eqvAll]
  | cons x a ih =>
    intro b
    cases b with
    | nil => simp [PyData.eqvAll]
    | cons y b =>
      show (PyData.eqv (.str x) (.str y) && PyData.eqvAll (a.map PyData.str) (b.map PyData.str)) = _
      rw [ih b]
      by_cases h1 : x = y
      · subst h1; by_cases h2 : a = b <;> simp [PyData.eqv, h2]
      · simp [PyData.eqv, h1]
theorem bi_eqL : BinD K (rEqD K) eqL := by
  intro F H x y dx dy d Q s rx ry e w
  cases dx <;> try (cases e; done)
  rename_i da
  cases dy <;> try (cases e; done)
  rename_i db
  dsimp only [eqL] at e
  cases qa : strsD da with
  | none => rw [qa] at e; cases e
  | some xa =>
    cases qb : strsD db with
    | none => rw [qa, qb] at e; cases e
    | some xb =>
      rw [qa, qb] at e
      dsimp only at e
      split at e
      · rename_i hs
        cases e
        obtain ⟨p, vs, rfl, hp, hr⟩ := rx.lst s
        obtain ⟨q, us, rfl, hq, hr2⟩ := ry.lst s
        have := strsD_v qa hr
        subst this
        have := strsD_v qb hr2
        subst this
        refine ⟨_, _, .lst (SqL.of hp) (dpStrs xa), .lst (SqL.of hq) (dpStrs xb), hs.1, hs.2, ?_⟩
        have : PyData.eqv (.list (xa.map PyData.str)) (.list (xb.map PyData.str)) = decide (xa = xb) := by
          rw [PyData.eqv]
          exact eqvStrs xa xb
        rw [this]
        exact w.here s rBl
      · cases e
/-! ### subscripts -/
def ixD : D → D → Option D
  | .lst ds, .int k => (ixN ds.length k).bind fun j => ds[j]?
  | .tup ds, .int k => (ixN ds.length k).bind fun j => ds[j]?
  | .ktp ds, .int k => (ixN ds.length k).bind fun j => ds[j]?
  | .scr ns, .int k => (ixN ns.length k).bind fun j => (ns[j]?).map .int
  | .str z, .int k => if z.length ≤ sizeLine then (ixN z.length k).bind fun j => (z.cps.toList[j]?).map fun c => .str ⟨#[c]⟩ else none
  | _, _ => none
theorem bi_ix : BinD K (rIx K) ixD := by
  intro F H x y dx dy d Q s rx ry e w
  cases dy <;> try (cases dx <;> cases e; done)
  rename_i k
  have hy := ry.int
  cases dx <;> try (cases e; done)
  · rename_i z
    dsimp only [ixD] at e
    split at e
    · rename_i hz
      obtain ⟨j, ej, e⟩ := obind e
      cases ec : z.cps.toList[j]? with
      | none => rw [ec] at e; cases e
      | some c =>
        rw [ec] at e
        cases e
        have hl : z.cps.toList.length = z.length := by simp [Str.length]
        exact .inr (.inr ⟨z, k, c, rx.str, hy, hz, by unfold atI; rw [hl, ej]; exact ec, w.here s rStr⟩)
    · cases e
  · rename_i ds
    obtain ⟨j, ej, e⟩ := obind e
    obtain ⟨p, vs, rfl, hp, hr⟩ := rx.lst s
    obtain ⟨v, ev, rv⟩ := hr.get e
    exact .inl ⟨p, vs, k, v, rfl, hy, SqL.of hp, by unfold atI; rw [← hr.length, ej]; exact ev, w.here s rv⟩
  · rename_i ds
    obtain ⟨j, ej, e⟩ := obind e
    obtain ⟨p, vs, rfl, hp, hr⟩ := rx.tup s
    obtain ⟨v, ev, rv⟩ := hr.get e
    exact .inr (.inl ⟨p, vs, k, v, rfl, hy, hp, by unfold atI; rw [← hr.length, ej]; exact ev, w.here s rv⟩)
  · rename_i ds
    obtain ⟨j, ej, e⟩ := obind e
    obtain ⟨p, vs, rfl, hp, hr⟩ := rx.ktp s
    obtain ⟨v, ev, rv⟩ := hr.get e
    exact .inr (.inl ⟨p, vs, k, v, rfl, hy, hp, by unfold atI; rw [← hr.length, ej]; exact ev, w.here s rv⟩)
  · rename_i ns
    obtain ⟨j, ej, e⟩ := obind e
    obtain ⟨p, rfl, hp⟩ := rx.scr s
    cases ec : ns[j]? with
    | none => rw [ec] at e; cases e
    | some c =>
      rw [ec] at e
      cases e
      exact .inl ⟨p, _, k, .int c, rfl, hy, hp, by unfold atI; rw [List.length_map, ej]; show (ns.map V.int)[j]? = _; rw [List.getElem?_map, ec]; rfl, w.here s rInt⟩
/-! ### in -/
def toV : D → V
  | .non => .non
  | .bl b => .bl b
  | .int i => .int i
  | .str s => .str s
  | _ => .ref 0
def flatD : D → Bool
  | .non => true
  | .bl _ => true
  | .int _ => true
  | .str _ => true
  | _ => false
theorem flat_v {x : V} {d : D} (h : RdV K F H x d) (e : flatD d = true) : x = toV d ∧ flatV x = true := by
  cases d with
  | non => rw [h.non]; exact ⟨rfl, rfl⟩
  | bl b => rw [h.bl]; exact ⟨rfl, rfl⟩
  | int b => rw [h.int]; exact ⟨rfl, rfl⟩
  | str b => rw [h.str]; exact ⟨rfl, rfl⟩
  | _ => cases e
theorem flats_v : ∀ {ds : List D} {vs : List V}, Reps K F ds vs → ds.all flatD = true → vs = ds.map toV ∧ vs.all flatV = true
  | [], vs, h, _ => by rw [Reps.nil_iff.mp h]; exact ⟨rfl, rfl⟩
  | d :: ds, vs, h, e => by
    obtain ⟨v, r, rfl, h1, h2⟩ := Reps.cons_iff.mp h
    rw [List.all_cons, Bool.and_eq_true] at e
    obtain ⟨a, b⟩ := flat_v (H := F) (.inl h1) e.1
    obtain ⟨c, d'⟩ := flats_v h2 e.2
    exact ⟨by rw [List.map_cons, ← a, ← c], by rw [List.all_cons, b, d']; rfl⟩
def inSeq (neg : Bool) : D → D → Option D
  | x, .lst ds => if flatD x = true ∧ ds.all flatD = true then some (.bl (neg ^^ inV (toV x) (ds.map toV))) else none
  | x, .tup ds => if flatD x = true ∧ ds.all flatD = true then some (.bl (neg ^^ inV (toV x) (ds.map toV))) else none
  | x, .ktp ds => if flatD x = true ∧ ds.all flatD = true then some (.bl (neg ^^ inV (toV x) (ds.map toV))) else none
  | _, _ => none
theorem xorb (neg b : Bool) : (if neg then !b else b) = (neg ^^ b) := by cases neg <;> cases b <;> rfl
theorem bi_in {neg : Bool} : BinD K (rIn K neg) (inSeq neg) := by
  intro F H x y dx dy d Q s rx ry e w
  cases dy <;> try (cases e; done)
  · rename_i ds
    dsimp only [inSeq] at e
    split at e
    · rename_i h
      cases e
      obtain ⟨a, b⟩ := flat_v rx h.1
      obtain ⟨p, vs, rfl, hp, hr⟩ := ry.lst s
      obtain ⟨c, c2⟩ := flats_v hr h.2
      refine ⟨p, vs, rfl, .inl (SqL.of hp), b, c2, ?_⟩
      rw [xorb, a, c]
      exact w.here s rBl
    · cases e
  · rename_i ds
    dsimp only [inSeq] at e
    split at e
    · rename_i h
      cases e
      obtain ⟨a, b⟩ := flat_v rx h.1
      obtain ⟨p, vs, rfl, hp, hr⟩ := ry.tup s
      obtain ⟨c, c2⟩ := flats_v hr h.2
      refine ⟨p, vs, rfl, .inr hp, b, c2, ?_⟩
      rw [xorb, a, c]
      exact w.here s rBl
    · cases e
  · rename_i ds
    dsimp only [inSeq] at e
    split at e
    · rename_i h
      cases e
      obtain ⟨a, b⟩ := flat_v rx h.1
      obtain ⟨p, vs, rfl, hp, hr⟩ := ry.ktp s
      obtain ⟨c, c2⟩ := flats_v hr h.2
      refine ⟨p, vs, rfl, .inr hp, b, c2, ?_⟩
      rw [xorb, a, c]
      exact w.here s rBl
    · cases e
def inC (neg : Bool) : D → D → Option D
  | .str x, .str z => match x.cps.toList with
    | [c] => some (.bl (neg ^^ decide (c ∈ z.cps.toList)))
    | _ => none
  | _, _ => none
theorem inC_v {x z : Str} {neg : Bool} {d : D} (e : inC neg (.str x) (.str z) = some d) : ∃ c, x = ⟨#[c]⟩ ∧ d = .bl (neg ^^ decide (c ∈ z.cps.toList)) := by
  dsimp only [inC] at e
  split at e
  · rename_i c q
    cases e
    refine ⟨c, ?_, rfl⟩
    obtain ⟨a⟩ := x
    congr
    apply Array.ext'
    exact q
  · cases e
theorem bi_inC : BinD K (fun x y H Q => ∃ (c : Nat) (z : Str), x = .str ⟨#[c]⟩ ∧ y = .str z ∧ Q (.bl (decide (c ∈ z.cps.toList))) H) (inC false) := by
  intro F H x y dx dy d Q s rx ry e w
  cases dx <;> try (cases e; done)
  cases dy <;> try (cases e; done)
  obtain ⟨c, rfl, rfl⟩ := inC_v e
  exact ⟨c, _, rx.str, ry.str, by rw [Bool.false_xor] at w; exact w.here s rBl⟩
theorem bi_notInC : BinD K (fun x y H Q => ∃ (c : Nat) (z : Str), x = .str ⟨#[c]⟩ ∧ y = .str z ∧ Q (.bl (!decide (c ∈ z.cps.toList))) H) (inC true) := by
  intro F H x y dx dy d Q s rx ry e w
  cases dx <;> try (cases e; done)
  cases dy <;> try (cases e; done)
  obtain ⟨c, rfl, rfl⟩ := inC_v e
  exact ⟨c, _, rx.str, ry.str, by rw [Bool.true_xor] at w; exact w.here s rBl⟩
/-! ### lists -/
def catL : D → D → Option (List D)
  | .lst a, .lst b => if a.length + b.length ≤ sizeLine then some (a ++ b) else none
  | _, _ => none
theorem bo_cat : BinO K rCat catL := by
  intro F H x y dx dy ds Q s rx ry e w
  cases dx <;> try (cases e; done)
  cases dy <;> try (cases e; done)
  dsimp only [catL] at e
  split at e
  · rename_i hl
    cases e
    obtain ⟨p, vs, rfl, hp, hr⟩ := rx.lst s
    obtain ⟨q, us, rfl, hq, hr2⟩ := ry.lst s
    exact ⟨p, q, vs, us, rfl, rfl, hp, hq, by rw [← hr.length, ← hr2.length]; exact hl, fun r h => w r _ h (hr.append hr2)⟩
  · cases e
def repL : D → D → Option (List D)
  | .lst a, .int k => if -(2 ^ 63) ≤ k ∧ k.toNat < 2 ^ 63 ∧ a.length * k.toNat ≤ sizeLine then some (List.replicate k.toNat a).flatten else none
  | _, _ => none
theorem reps_flat {ds : List D} {vs : List V} (h : Reps K F ds vs) : ∀ n : Nat, Reps K F (List.replicate n ds).flatten (List.replicate n vs).flatten
  | 0 => Reps.nil
  | n + 1 => by
    rw [List.replicate_succ, List.replicate_succ, List.flatten_cons, List.flatten_cons]
    exact h.append (reps_flat h n)
theorem bo_rep : BinO K rRep repL := by
  intro F H x y dx dy ds Q s rx ry e w
  cases dx <;> try (cases e; done)
  cases dy <;> try (cases e; done)
  dsimp only [repL] at e
  split at e
  · rename_i hl
    cases e
    obtain ⟨p, vs, rfl, hp, hr⟩ := rx.lst s
    exact ⟨p, _, vs, rfl, ry.int, hp, hl.1, by omega, by rw [← hr.length]; exact hl.2.2, fun r h => w r _ h (reps_flat hr _)⟩
  · cases e
/-! ### builtins -/
def lenD : List D → Option D
  | [.lst ds] => some (.int ds.length)
  | [.tup ds] => some (.int ds.length)
  | [.ktp ds] => some (.int ds.length)
  | [.scr ns] => some (.int ns.length)
  | [.str z] => if z.length ≤ sizeLine then some (.int z.length) else none
  | _ => none
theorem one_rd {xs : List V} {d : D} (h : RdVs K F H xs [d]) : ∃ x, xs = [x] ∧ RdV K F H x d := by
  match xs, h with
  | [x], h => exact ⟨x, rfl, h.1⟩
theorem two_rd {xs : List V} {d e : D} (h : RdVs K F H xs [d, e]) : ∃ x y, xs = [x, y] ∧ RdV K F H x d ∧ RdV K F H y e := by
  match xs, h with
  | [x, y], h => exact ⟨x, y, rfl, h.1, h.2.1⟩
abbrev rLn (K : PySem.W.Frag) : List V → Hp → VK → Prop := fun xs H Q => ∃ x n, xs = [x] ∧ LenV K x H n ∧ Q (.int n) H
theorem cd_len : CallD K (rLn K) lenD := by
  intro F H xs ds d Q s h e w
  match ds, e with
  | [.lst es], e =>
    cases e
    obtain ⟨x, rfl, r⟩ := one_rd h
    obtain ⟨p, vs, rfl, hp, hr⟩ := r.lst s
    exact ⟨_, es.length, rfl, .inl ⟨vs, SqL.of hp, hr.length⟩, w.here s rInt⟩
  | [.tup es], e =>
    cases e
    obtain ⟨x, rfl, r⟩ := one_rd h
    obtain ⟨p, vs, rfl, hp, hr⟩ := r.tup s
    exact ⟨_, es.length, rfl, .inr ⟨vs, hp, hr.length⟩, w.here s rInt⟩
  | [.ktp es], e =>
    cases e
    obtain ⟨x, rfl, r⟩ := one_rd h
    obtain ⟨p, vs, rfl, hp, hr⟩ := r.ktp s
    exact ⟨_, es.length, rfl, .inr ⟨vs, hp, hr.length⟩, w.here s rInt⟩
  | [.scr ns], e =>
    cases e
    obtain ⟨x, rfl, r⟩ := one_rd h
    obtain ⟨p, rfl, hp⟩ := r.scr s
    exact ⟨_, ns.length, rfl, .inl ⟨_, hp, by rw [List.length_map]⟩, w.here s rInt⟩
  | [.str z], e =>
    obtain ⟨x, rfl, r⟩ := one_rd h
    dsimp only [lenD] at e
    split at e
    · rename_i hz
      cases e
      exact ⟨x, z.length, rfl, by rw [r.str]; exact ⟨hz, rfl⟩, w.here s rInt⟩
    · cases e
def lenK : List D → Option D
  | [.dK ks _] => some (.int ks.length)
  | _ => none
theorem cd_lenK : CallD K (fun xs H Q => ∃ a kvs, xs = [V.ref a] ∧ H a = some (.dK kvs) ∧ Q (.int kvs.length) H) lenK := by
  intro F H xs ds d Q s h e w
  match ds, e with
  | [.dK ks es], e =>
    cases e
    obtain ⟨x, rfl, r⟩ := one_rd h
    obtain ⟨p, vs, rfl, hp, l, hr⟩ := r.dK s
    refine ⟨p, _, rfl, hp, ?_⟩
    have : (ks.zip vs).length = ks.length := by rw [List.length_zip, ← hr.length]; omega
    rw [this]
    exact w.here s rInt
def intD : List D → Option D
  | [.int i] => some (.int i)
  | [.bl b] => some (.int (if b then 1 else 0))
  | _ => none
theorem cd_int : CallD K (fun xs H Q => (∃ i, xs = [.int i] ∧ Q (.int i) H) ∨ ∃ k, xs = [.bl k] ∧ Q (.int (if k then 1 else 0)) H) intD := by
  intro F H xs ds d Q s h e w
  match ds, e with
  | [.int i], e =>
    cases e
    obtain ⟨x, rfl, r⟩ := one_rd h
    exact .inl ⟨i, by rw [r.int], w.here s rInt⟩
  | [.bl b], e =>
    cases e
    obtain ⟨x, rfl, r⟩ := one_rd h
    exact .inr ⟨b, by rw [r.bl], w.here s rInt⟩
def intS : List D → Option D
  | [.str a] => if a.length ≤ 640 then (PySem.intText? a).map .int else none
  | _ => none
theorem cd_intS : CallD K (fun xs H Q => ∃ a n, xs = [.str a] ∧ PySem.intText? a = some n ∧ a.length ≤ 640 ∧ Q (.int n) H) intS := by
  intro F H xs ds d Q s h e w
  match ds, e with
  | [.str a], e =>
    dsimp only [intS] at e
    split at e
    · rename_i hl
      obtain ⟨x, rfl, r⟩ := one_rd h
      cases q : PySem.intText? a with
      | none => rw [q] at e; cases e
      | some n =>
        rw [q] at e
        cases e
        exact ⟨a, n, by rw [r.str], q, hl, w.here s rInt⟩
    · cases e
def strI : List D → Option D
  | [.int i] => if i.natAbs.log2 < 1920 then some (.str (toString i : String)) else none
  | _ => none
theorem cd_strI : CallD K (fun xs H Q => ∃ i, xs = [.int i] ∧ i.natAbs.log2 < 1920 ∧ Q (.str (toString i)) H) strI := by
  intro F H xs ds d Q s h e w
  match ds, e with
  | [.int i], e =>
    dsimp only [strI] at e
    split at e
    · rename_i hl
      cases e
      obtain ⟨x, rfl, r⟩ := one_rd h
      exact ⟨i, by rw [r.int], hl, w.here s rStr⟩
    · cases e
def listD : List D → Option (List D)
  | [.lst ds] => some ds
  | [.tup ds] => some ds
  | [.scr ns] => some (ns.map .int)
  | _ => none
theorem reps_int {ns : List Int} : Reps K F (ns.map D.int) (ns.map V.int) := by
  induction ns with
  | nil => exact Reps.nil
  | cons n ns ih => exact Reps.cons rInt ih
theorem co_list : CallO K (fun xs H Q => ∃ p ys, xs = [.ref p] ∧ (SqL K H p ys ∨ SqT K H p ys) ∧ ∀ l, H l = none → Q (.ref l) (upd H l (.lst ys))) listD := by
  intro F H xs ds es Q s h e w
  match ds, e with
  | [.lst ds], e =>
    cases e
    obtain ⟨x, rfl, r⟩ := one_rd h
    obtain ⟨p, vs, rfl, hp, hr⟩ := r.lst s
    exact ⟨p, vs, rfl, .inl (SqL.of hp), fun l hl => w l _ hl hr⟩
  | [.tup ds], e =>
    cases e
    obtain ⟨x, rfl, r⟩ := one_rd h
    obtain ⟨p, vs, rfl, hp, hr⟩ := r.tup s
    exact ⟨p, vs, rfl, .inr hp, fun l hl => w l _ hl hr⟩
  | [.scr ns], e =>
    cases e
    obtain ⟨x, rfl, r⟩ := one_rd h
    obtain ⟨p, rfl, hp⟩ := r.scr s
    exact ⟨p, _, rfl, .inl hp, fun l hl => w l _ hl reps_int⟩
def tupD : List D → Option D
  | [.lst ds] => some (.tup ds)
  | [.tup ds] => some (.tup ds)
  | _ => none
theorem cd_tup : CallD K (fun xs H Q => ∃ p ys, xs = [.ref p] ∧ ((SqL K H p ys ∧ ∀ l, H l = none → Q (.ref l) (upd H l (.tup ys))) ∨ (SqT K H p ys ∧ Q (.ref p) H))) tupD := by
  intro F H xs ds d Q s h e w
  match ds, e with
  | [.lst ds], e =>
    cases e
    obtain ⟨x, rfl, r⟩ := one_rd h
    obtain ⟨p, vs, rfl, hp, hr⟩ := r.lst s
    refine ⟨p, vs, rfl, .inl ⟨SqL.of hp, fun l hl => ?_⟩⟩
    have g := Gr.new s hl (.tup vs)
    exact w _ _ _ g (Rep.tup_iff.mpr ⟨l, vs, rfl, upd_same, hr.mono g.f⟩)
  | [.tup ds], e =>
    cases e
    obtain ⟨x, rfl, r⟩ := one_rd h
    rcases r with r | ⟨sh, _, _, _, _, _, e, _⟩
    · obtain ⟨p, vs, rfl, hp, hr⟩ := Rep.tup_iff.mp r
      exact ⟨p, vs, rfl, .inr ⟨SqT.of (s _ _ hp), w.here s r⟩⟩
    · cases sh <;> cases e
/-- a list of ints -/
def intsD : List D → Option (List Int)
  | [] => some []
  | .int i :: r => (intsD r).map (i :: ·)
  | _ :: _ => none
theorem intsD_v : ∀ {ds : List D} {ss : List Int} {vs : List V}, intsD ds = some ss → Reps K F ds vs → vs = ss.map V.int
  | [], ss, vs, e, h => by cases e; rw [Reps.nil_iff.mp h]; rfl
  | d :: ds, ss, vs, e, h => by
    obtain ⟨v, r, rfl, h1, h2⟩ := Reps.cons_iff.mp h
    cases d <;> try (cases e; done)
    rename_i z
    dsimp only [intsD] at e
    cases q : intsD ds with
    | none => rw [q] at e; cases e
    | some ss' =>
      rw [q] at e
      cases e
      rw [intsD_v q h2, Rep.int_iff.mp h1]
      rfl
def blsD : List D → Option (List Bool)
  | [] => some []
  | .bl i :: r => (blsD r).map (i :: ·)
  | _ :: _ => none
theorem blsD_v : ∀ {ds : List D} {ss : List Bool} {vs : List V}, blsD ds = some ss → Reps K F ds vs → vs = ss.map V.bl
  | [], ss, vs, e, h => by cases e; rw [Reps.nil_iff.mp h]; rfl
  | d :: ds, ss, vs, e, h => by
    obtain ⟨v, r, rfl, h1, h2⟩ := Reps.cons_iff.mp h
    cases d <;> try (cases e; done)
    rename_i z
    dsimp only [blsD] at e
    cases q : blsD ds with
    | none => rw [q] at e; cases e
    | some ss' =>
      rw [q] at e
      cases e
      rw [blsD_v q h2, RdV.bl (K := K) (F := F) (H := F) (.inl h1)]
      rfl
def sumD : List D → Option D
  | [.lst ds] => (intsD ds).map fun ns => .int ns.sum
  | _ => none
theorem cd_sum : CallD K (rSum K) sumD := by
  intro F H xs ds d Q s h e w
  match ds, e with
  | [.lst es], e =>
    obtain ⟨x, rfl, r⟩ := one_rd h
    obtain ⟨p, vs, rfl, hp, hr⟩ := r.lst s
    dsimp only [sumD] at e
    cases q : intsD es with
    | none => rw [q] at e; cases e
    | some ns =>
      rw [q] at e
      cases e
      exact ⟨p, ns, rfl, SqL.of (by rw [← intsD_v q hr]; exact hp), w.here s rInt⟩
def allD : List D → Option D
  | [.lst ds] => (blsD ds).map fun ns => .bl (ns.all id)
  | _ => none
def anyD : List D → Option D
  | [.lst ds] => (blsD ds).map fun ns => .bl (ns.any id)
  | _ => none
theorem cd_all : CallD K (rAll K) allD := by
  intro F H xs ds d Q s h e w
  match ds, e with
  | [.lst es], e =>
    obtain ⟨x, rfl, r⟩ := one_rd h
    obtain ⟨p, vs, rfl, hp, hr⟩ := r.lst s
    dsimp only [allD] at e
    cases q : blsD es with
    | none => rw [q] at e; cases e
    | some ns =>
      rw [q] at e
      cases e
      exact ⟨p, ns, rfl, SqL.of (by rw [← blsD_v q hr]; exact hp), w.here s rBl⟩
theorem cd_any : CallD K (rAny K) anyD := by
  intro F H xs ds d Q s h e w
  match ds, e with
  | [.lst es], e =>
    obtain ⟨x, rfl, r⟩ := one_rd h
    obtain ⟨p, vs, rfl, hp, hr⟩ := r.lst s
    dsimp only [anyD] at e
    cases q : blsD es with
    | none => rw [q] at e; cases e
    | some ns =>
      rw [q] at e
      cases e
      exact ⟨p, ns, rfl, SqL.of (by rw [← blsD_v q hr]; exact hp), w.here s rBl⟩
/-! ### methods of texts -/
def startsD : D → List D → Option D
  | .str a, [.str b] => some (.bl (Txt.startswith a b))
  | _, _ => none
theorem md_starts : MtD K (fun x xs H Q => ∃ a b, x = .str a ∧ xs = [.str b] ∧ Q (.bl (Txt.startswith a b)) H) startsD := by
  intro F H x xs dx ds d Q s rx h e w
  match dx, ds, e with
  | .str a, [.str b], e =>
    cases e
    obtain ⟨y, rfl, r⟩ := one_rd h
    exact ⟨a, b, rx.str, by rw [r.str], w.here s rBl⟩
def splitD : D → List D → Option (List D)
  | .str a, [.str b] => if (b.length == 0) = false ∧ a.length + 2 ≤ sizeLine then some ((Txt.split a b).map .str) else none
  | _, _ => none
theorem reps_str {ns : List Str} : Reps K F (ns.map D.str) (ns.map V.str) := by
  induction ns with
  | nil => exact Reps.nil
  | cons n ns ih => exact Reps.cons rStr ih
theorem mo_split : MtO K (fun x xs H Q => ∃ a b, x = .str a ∧ xs = [.str b] ∧ (b.length == 0) = false ∧ a.length + 2 ≤ sizeLine ∧ rNewStrs (Txt.split a b) H Q) splitD := by
  intro F H x xs dx ds es Q s rx h e w
  match dx, ds, e with
  | .str a, [.str b], e =>
    dsimp only [splitD] at e
    split at e
    · rename_i hb
      cases e
      obtain ⟨y, rfl, r⟩ := one_rd h
      exact ⟨a, b, rx.str, by rw [r.str], hb.1, hb.2, fun p hp => w p _ hp reps_str⟩
    · cases e
def joinD : D → List D → Option D
  | .str a, [.lst ds] => (strsD ds).bind fun ys => if (ys.map (·.length)).sum + ys.length * a.length ≤ 16777216 then some (.str (Txt.join a ys)) else none
  | .str a, [.tup ds] => (strsD ds).bind fun ys => if (ys.map (·.length)).sum + ys.length * a.length ≤ 16777216 then some (.str (Txt.join a ys)) else none
  | _, _ => none
theorem md_join : MtD K (fun x xs H Q => ∃ a p, ∃ ys : List Str, x = .str a ∧ xs = [.ref p] ∧ (SqL K H p (ys.map V.str) ∨ SqT K H p (ys.map V.str)) ∧
    (ys.map (·.length)).sum + ys.length * a.length ≤ 16777216 ∧ Q (.str (Txt.join a ys)) H) joinD := by
  intro F H x xs dx ds d Q s rx h e w
  match dx, ds, e with
  | .str a, [.lst ds], e =>
    obtain ⟨ys, ey, e⟩ := obind e
    split at e
    · rename_i hl
      cases e
      obtain ⟨y, rfl, r⟩ := one_rd h
      obtain ⟨p, vs, rfl, hp, hr⟩ := r.lst s
      exact ⟨a, p, ys, rx.str, rfl, .inl (SqL.of (by rw [← strsD_v ey hr]; exact hp)), hl, w.here s rStr⟩
    · cases e
  | .str a, [.tup ds], e =>
    obtain ⟨ys, ey, e⟩ := obind e
    split at e
    · rename_i hl
      cases e
      obtain ⟨y, rfl, r⟩ := one_rd h
      obtain ⟨p, vs, rfl, hp, hr⟩ := r.tup s
      exact ⟨a, p, ys, rx.str, rfl, .inr (by rw [← strsD_v ey hr]; exact hp), hl, w.here s rStr⟩
    · cases e
end
end GX
/-! GX9: slices, isinstance, dicts read, ranges, what is walked in pairs. -/
namespace GX
open PySem PySem.Spec PyProof.Rows L2
section
variable {X : Cx} {W : WX} {K : PySem.W.Frag} {Γ : Fm} {F H F' H' : Hp} {σ : L2.St} {δ δ' : List Sl} {i : Nat} {v : V} {d : D}
variable {a b c e o tg : Expr} {es : List Expr} {m ma mb mc mk : MX} {ms : MXs} {mr : MA} {pos p2 p' : Pos} {lo hi : Option Expr}
/-! ### slices -/
abbrev MPt := List Sl → Option (Option Int)
structure JPart (X : Cx) (e : Option Expr) (m : MPt) : Prop where
  ex : ∃ t, PO X e t ∧ ∀ (Γ : Fm) (δ : List Sl) (σ : L2.St) (F H : Hp) (Q : Option Int → Hp → Prop) (o : Option Int), Rl X.K Γ F H σ δ → m δ = some o → (∀ F' H', Gr F H F' H' → Q o H') → t σ H Q
def pt0 : MPt := fun _ => some none
def ptI (m : MX) : MPt := fun δ => (m δ).bind fun d => match d with
  | .int k => some (some k)
  | _ => none
theorem jpt_none : JPart X none pt0 := ⟨_, po_none, fun Γ δ σ F H Q o r g f => by cases g; exact f F H (Gr.refl r.sub)⟩
theorem jpt_some (h : JR X e m) : JPart X (some e) (ptI m) := by
  obtain ⟨t, p, q⟩ := h.ex
  refine ⟨_, po_some p, fun Γ δ σ F H Q o r g f => ?_⟩
  obtain ⟨x, ex, g⟩ := obind g
  refine q Γ δ σ F H _ x r ex fun v F1 H1 g1 rv => ?_
  cases x with
  | int k => cases g; exact ⟨k, rv.int, f F1 H1 g1⟩
  | _ => cases g
def cutD (ds : List D) (lo hi : Option Int) : List D := (ds.drop (HT.sIx ds.length 0 lo)).take (HT.sIx ds.length ds.length hi - HT.sIx ds.length 0 lo)
theorem reps_cut {ds : List D} {vs : List V} (h : Reps K F ds vs) {lo hi : Option Int} : Reps K F (cutD ds lo hi) (cutV vs lo hi) := by
  unfold cutD cutV
  rw [h.length]
  exact (h.drop _).take _
def slS : D → Option Int → Option Int → Option D
  | .str z, lo, hi => if z.length ≤ sizeLine then some (.str (cutS z lo hi)) else none
  | .tup ds, lo, hi => some (.tup (cutD ds lo hi))
  | _, _, _ => none
def xSl (f : D → Option Int → Option Int → Option D) (m : MX) (l h : MPt) : MX := fun δ => (m δ).bind fun x => (l δ).bind fun lo => (h δ).bind fun hi => f x lo hi
variable {ml mh : MPt}
theorem sl_ev {r : V → Option Int → Option Int → Hp → VK → Prop} {te : TE} {tl th : TO} {Q : VK} {x : D} {l h : Option Int} (r0 : Rl X.K Γ F H σ δ) (he : EvR X.K te m)
    (hl : ∀ (Γ : Fm) (δ : List Sl) (σ : L2.St) (F H : Hp) (Q : Option Int → Hp → Prop) (o : Option Int), Rl X.K Γ F H σ δ → ml δ = some o → (∀ F' H', Gr F H F' H' → Q o H') → tl σ H Q)
    (hh : ∀ (Γ : Fm) (δ : List Sl) (σ : L2.St) (F H : Hp) (Q : Option Int → Hp → Prop) (o : Option Int), Rl X.K Γ F H σ δ → mh δ = some o → (∀ F' H', Gr F H F' H' → Q o H') → th σ H Q)
    (ex : m δ = some x) (el : ml δ = some l) (eh : mh δ = some h) (k : ∀ v F' H', Gr F H F' H' → RdV X.K F' H' v x → r v l h H' Q) : tSl r te tl th σ H Q := by
  refine he Γ δ σ F H _ x r0 ex fun v F1 H1 g1 rv => hl Γ δ σ F1 H1 _ l (r0.gr g1) el fun F2 H2 g2 => hh Γ δ σ F2 H2 _ h (r0.gr (g1.trans g2)) eh fun F3 H3 g3 => ?_
  exact k v F3 H3 (g1.trans (g2.trans g3)) (rv.mono (g2.trans g3))
theorem jx_sl (he : JR X e m) (hl : JPart X lo ml) (hh : JPart X hi mh) : JX X (.Subscript e (.Slice lo hi none p2) pos) (xSl slS m ml mh) := by
  obtain ⟨te, pe, qe⟩ := he.ex
  obtain ⟨tl, pl, ql⟩ := hl.ex
  obtain ⟨th, ph, qh⟩ := hh.ex
  refine ⟨_, pe_slice (SlR.or sl_str sl_tupA) pe pl ph, fun Γ δ σ F H Q d r g k => ?_⟩
  obtain ⟨x, ex, g⟩ := obind g
  obtain ⟨l, el, g⟩ := obind g
  obtain ⟨h, eh, g⟩ := obind g
  refine sl_ev r qe ql qh ex el eh fun v F1 H1 g1 rv => ?_
  cases x with
  | str z =>
    dsimp only [slS] at g
    split at g
    · rename_i hz
      cases g
      exact .inl ⟨z, rv.str, hz, k _ F1 H1 g1 rStr⟩
    · cases g
  | tup ds =>
    cases g
    obtain ⟨p, vs, rfl, hp, hr⟩ := rv.tup g1.s
    refine .inr ⟨p, vs, rfl, hp, fun hw => ?_, fun hw q hq => ?_⟩
    · have : cutD ds l h = ds := by
        unfold cutD
        rw [← hr.length] at hw
        rw [hw.1, hw.2]
        simp
      rw [this] at k
      rcases rv with rv | ⟨sh, _, _, _, _, _, e, _⟩
      · exact k _ F1 H1 g1 rv
      · cases sh <;> cases e
    · have g2 := Gr.new g1.s hq (.tup (cutV vs l h))
      exact k _ _ _ (g1.trans g2) (Rep.tup_iff.mpr ⟨q, _, rfl, upd_same, (reps_cut hr).mono g2.f⟩)
  | _ => cases g
def slL : D → Option Int → Option Int → Option (List D)
  | .lst ds, lo, hi => some (cutD ds lo hi)
  | .scr ns, lo, hi => some (cutD (ns.map .int) lo hi)
  | _, _, _ => none
def oSl (m : MX) (l h : MPt) : MO := fun δ => R.ofO ((m δ).bind fun x => (l δ).bind fun lo => (h δ).bind fun hi => slL x lo hi) >>= fun ds => .ok (lsT ds, δ)
theorem jo_sl (he : JR X e m) (hl : JPart X lo ml) (hh : JPart X hi mh) : JO X W (.Subscript e (.Slice lo hi none p2) pos) (oSl m ml mh) := by
  obtain ⟨te, pe, qe⟩ := he.ex
  obtain ⟨tl, pl, ql⟩ := hl.ex
  obtain ⟨th, ph, qh⟩ := hh.ex
  refine ⟨_, pe_slice sl_list pe pl ph, fun Γ δ σ F H Q r g => ?_⟩
  obtain ⟨ds, ed, g⟩ := Gd.obind g
  obtain ⟨x, ex, ed⟩ := obind ed
  obtain ⟨l, el, ed⟩ := obind ed
  obtain ⟨h, eh, ed⟩ := obind ed
  refine sl_ev r qe ql qh ex el eh fun v F1 H1 g1 rv => ?_
  cases x with
  | lst es =>
    cases ed
    obtain ⟨p, vs, rfl, hp, hr⟩ := rv.lst g1.s
    exact ⟨p, vs, rfl, SqL.of hp, fun q hq => g _ F1 _ ((r.gr g1).newL hq (reps_cut hr)) g1.f⟩
  | scr ns =>
    cases ed
    obtain ⟨p, rfl, hp⟩ := rv.scr g1.s
    exact ⟨p, _, rfl, hp, fun q hq => g _ F1 _ ((r.gr g1).newL hq (reps_cut reps_int)) g1.f⟩
  | _ => cases ed
/-! ### isinstance of built-in types -/
def tyn : D → Option String
  | .non => some "NoneType"
  | .bl _ => some "bool"
  | .int _ => some "int"
  | .str _ => some "str"
  | .lst _ => some "list"
  | .scr _ => some "list"
  | .tup _ => some "tuple"
  | .ktp _ => some "tuple"
  | .dK _ _ => some "dict"
  | .dT _ _ => some "dict"
  | .ins _ _ _ => none
theorem tyn_of {x : V} {n : String} (s : Same F H) (h : RdV K F H x d) (e : tyn d = some n) : TyX K H x (.type n) := by
  cases d with
  | non => cases e; rw [h.non]; exact .base .non
  | bl b => cases e; rw [h.bl]; exact .base (.bl b)
  | int b => cases e; rw [h.int]; exact .base (.int b)
  | str b => cases e; rw [h.str]; exact .base (.str b)
  | lst ds => cases e; obtain ⟨p, vs, rfl, hp, _⟩ := h.lst s; exact .base (.lst hp)
  | scr ds =>
    cases e
    obtain ⟨p, rfl, hp⟩ := h.scr s
    rcases hp with (hp | ⟨o, hp⟩) | ⟨o, its, n, hp, hc, _⟩
    · exact .base (.lst hp)
    · exact .base (.frz hp)
    · exact .kList hp hc
  | tup ds =>
    cases e
    obtain ⟨p, vs, rfl, hp, _⟩ := h.tup s
    rcases hp with (hp | ⟨o, hp⟩) | ⟨o, its, n, hp, hc, _⟩
    · exact .base (.tup hp)
    · exact .fTuple hp
    · exact .kTuple hp hc
  | ktp ds =>
    cases e
    obtain ⟨p, vs, rfl, hp, _⟩ := h.ktp s
    rcases hp with (hp | ⟨o, hp⟩) | ⟨o, its, n, hp, hc, _⟩
    · exact .base (.tup hp)
    · exact .fTuple hp
    · exact .kTuple hp hc
  | dK ks ds => cases e; obtain ⟨p, vs, rfl, hp, _⟩ := h.dK s; exact .base (.dK hp)
  | dT ks ds => cases e; obtain ⟨p, vs, rfl, hp, _⟩ := h.dT s; exact .base (.dT hp)
  | ins _ _ _ => cases e
def isT (n T : String) : Bool := n == T || (n == "bool" && T == "int")
theorem kit_all : ∀ n ∈ ["NoneType", "bool", "int", "str", "list", "tuple", "dict"], ∀ T ∈ ["bool", "int", "str", "list", "tuple", "dict"], kitB n T = some (isT n T) := by decide +kernel
theorem tyn_in {n : String} (e : tyn d = some n) : n ∈ ["NoneType", "bool", "int", "str", "list", "tuple", "dict"] := by
  cases d <;> first | (cases e; done) | (cases e; simp)
def isD (T : String) : D → Option D := fun d => (tyn d).map fun n => .bl (isT n T)
theorem jx_isi {x : Str} {px : Pos} (T : String) (hT : T ∈ ["bool", "int", "str", "list", "tuple", "dict"]) (hm : X.mg "isinstance" = none) (hx : X.mg x = none) (hv : bootBuiltins x = some (.type T)) (he : JR X e m) (hg : Gl X "isinstance" := by rfl) (hgx : Gl X x := by rfl) (hn : x ≠ "__name__" := by decide) (hdb : (x == ("__debug__" : Str)) = false := by decide)
    (h1 : starEach [e, .Name x px] X.env = (false, eval e X.env) :: starEach [.Name x px] X.env := by rfl) (h2 : starEach [.Name x px] X.env = (false, eval (.Name x px) X.env) :: starEach [] X.env := by rfl) (hpl : (backTo pos (starEach [.Name x px] X.env)).any (·.1) = false := by rfl) :
    JX X (.Call (.Name "isinstance" p') [e, .Name x px] [] pos) (xUn (isD T) m) := by
  obtain ⟨t, p, q⟩ := he.ex
  refine ⟨_, pe_callB call_isi hg hm (by rfl) (pa_cons p (pa_cons (pe_bltn hgx hx hv (v := .ty T) rfl hn hdb) pa_nil h2) h1) (by decide) (by decide) h1 hpl, fun Γ δ σ F H Q d r g k => ?_⟩
  obtain ⟨y, ey, g⟩ := obind g
  refine q Γ δ σ F H _ y r ey fun v F1 H1 g1 rv => ?_
  unfold isD at g
  cases en : tyn y with
  | none => rw [en] at g; cases g
  | some n =>
    rw [en] at g
    cases g
    exact ⟨v, .ty T, .type n, .type T, isT n T, rfl, .ty T, tyn_of g1.s rv en, kit_ty (kit_all n (tyn_in en) T hT), k _ F1 H1 g1 rBl⟩
def isD2 (T U : String) : D → Option D := fun d => (tyn d).map fun n => .bl (isT n T || isT n U)
theorem jx_isi2 {x y : Str} {px py pt : Pos} {kk : Nat} (T U : String) (hT : T ∈ ["bool", "int", "str", "list", "tuple", "dict"]) (hU : U ∈ ["bool", "int", "str", "list", "tuple", "dict"]) (hm : X.mg "isinstance" = none) (hx : X.mg x = none) (hy : X.mg y = none) (hv : bootBuiltins x = some (.type T)) (hw : bootBuiltins y = some (.type U)) (he : JR X e m)
    (hg : Gl X "isinstance" := by rfl) (hgx : Gl X x := by rfl) (hgy : Gl X y := by rfl) (hn : x ≠ "__name__" := by decide) (hdb : (x == ("__debug__" : Str)) = false := by decide) (hn2 : y ≠ "__name__" := by decide) (hdb2 : (y == ("__debug__" : Str)) = false := by decide)
    (h1 : starEach [e, .Tuple [.Name x px, .Name y py] kk pt] X.env = (false, eval e X.env) :: starEach [.Tuple [.Name x px, .Name y py] kk pt] X.env := by rfl)
    (h2 : starEach [.Tuple [.Name x px, .Name y py] kk pt] X.env = (false, eval (.Tuple [.Name x px, .Name y py] kk pt) X.env) :: starEach [] X.env := by rfl) (hpl : (backTo pos (starEach [.Tuple [.Name x px, .Name y py] kk pt] X.env)).any (·.1) = false := by rfl)
    (h3 : starEach [.Name x px, .Name y py] X.env = (false, eval (.Name x px) X.env) :: starEach [.Name y py] X.env := by rfl) (h4 : starEach [.Name y py] X.env = (false, eval (.Name y py) X.env) :: starEach [] X.env := by rfl) :
    JX X (.Call (.Name "isinstance" p') [e, .Tuple [.Name x px, .Name y py] kk pt] [] pos) (xUn (isD2 T U) m) := by
  obtain ⟨t, p, q⟩ := he.ex
  refine ⟨_, pe_callB call_isiT hg hm (by rfl) (pa_cons p (pa_cons (pe_tup (pa_cons (pe_bltn hgx hx hv (v := .ty T) rfl hn hdb) (pa_cons (pe_bltn hgy hy hw (v := .ty U) rfl hn2 hdb2) pa_nil h4) h3)) pa_nil h2) h1) (by decide) (by decide) h1 hpl, fun Γ δ σ F H Q d r g k => ?_⟩
  obtain ⟨z, ey, g⟩ := obind g
  refine q Γ δ σ F H _ z r ey fun v F1 H1 g1 rv => ?_
  unfold isD2 at g
  cases en : tyn z with
  | none => rw [en] at g; cases g
  | some n =>
    rw [en] at g
    cases g
    refine ⟨small1k (by simp), fun tp hp => ?_⟩
    have g2 := Gr.new g1.s hp (.tup [.ty T, .ty U])
    refine ⟨v, tp, [.ty T, .ty U], .type n, [.type T, .type U], isT n T || isT n U, rfl, upd_same, .cons (.ty T) (.cons (.ty U) .nil), tyn_of g2.s (rv.mono g2) en, ?_, k _ _ _ (g1.trans g2) rBl⟩
    refine kitAny_cons (kit_ty (kit_all n (tyn_in en) T hT)) (fun hf => ?_) (fun hf => by rw [hf]; rfl)
    refine kitAny_cons (kit_ty (kit_all n (tyn_in en) U hU)) (fun hf2 => by rw [hf, hf2]; exact kitAny_nil) (fun hf2 => by rw [hf2]; simp)
/-! ### dicts -/
def dInD (neg : Bool) : D → D → Option D
  | k, .dK ks _ => (keyD k).map fun k => .bl (neg ^^ (kAt k ks).isSome)
  | _, _ => none
theorem dget_of {x y : V} {ks : List Key} {ds : List D} {k : D} {k' : Key} (s : Same F H) (rk : RdV K F H y k) (rd : RdV K F H x (.dK ks ds)) (ek : keyD k = some k') :
    ∃ a o, x = .ref a ∧ DGet H a y o ∧ (o.isSome = (kAt k' ks).isSome) ∧ ∀ d j, kAt k' ks = some j → ds[j]? = some d → ∃ v, o = some v ∧ Rep K F d v := by
  obtain ⟨p, vs, rfl, hp, hl, hr⟩ := rd.dK s
  have ey := keyD_v rk ek
  subst ey
  refine ⟨p, _, rfl, DGet.k hp, ?_, fun d j ej ed => ?_⟩
  · cases q : kAt k' ks with
    | none => rw [valV_no q]; rfl
    | some j =>
      have hj := (kAt_some q).2
      have : j < vs.length := by rw [← hr.length, ← hl]; exact hj
      rw [valV_at q (List.getElem?_eq_getElem this)]
      rfl
  · obtain ⟨v, ev, rv⟩ := hr.get ed
    exact ⟨v, valV_at ej ev, rv⟩
theorem jx_din (hu : X.A.units + 1 < cLine) (ha : JR X a ma) (hb : JR X b mb) (hm : behindInMarks .In b = false := by rfl) : JX X (.Compare a [.In] [b] pos) (xBin (dInD false) ma mb) := by
  obtain ⟨ta, pa, qa⟩ := ha.ex
  obtain ⟨tb, pb, qb⟩ := hb.ex
  refine ⟨_, pe_cmp (pc_din hu pa pb) hm, fun Γ δ σ F H Q d r g k => ?_⟩
  obtain ⟨x, ex, g⟩ := obind g
  obtain ⟨y, ey, g⟩ := obind g
  refine qa Γ δ σ F H _ x r ex fun v F1 H1 g1 rv => qb Γ δ σ F1 H1 _ y (r.gr g1) ey fun w F2 H2 g2 rw' => ?_
  cases y with
  | dK ks ds =>
    unfold dInD at g
    dsimp only at g
    cases ek : keyD x with
    | none => rw [ek] at g; cases g
    | some k' =>
      rw [ek] at g
      cases g
      obtain ⟨p, o, rfl, hd, hs, _⟩ := dget_of g2.s (rv.mono g2) rw' ek
      dsimp only at k
      rw [← hs, Bool.false_xor] at k
      exact ⟨p, o, rfl, hd, k _ F2 H2 (g1.trans g2) rBl⟩
  | _ => cases g
theorem jx_dnotin (hu : X.A.units + 1 < cLine) (ha : JR X a ma) (hb : JR X b mb) (hm : behindInMarks .NotIn b = false := by rfl) : JX X (.Compare a [.NotIn] [b] pos) (xBin (dInD true) ma mb) := by
  obtain ⟨ta, pa, qa⟩ := ha.ex
  obtain ⟨tb, pb, qb⟩ := hb.ex
  refine ⟨_, pe_cmp (pc_dnotin hu pa pb) hm, fun Γ δ σ F H Q d r g k => ?_⟩
  obtain ⟨x, ex, g⟩ := obind g
  obtain ⟨y, ey, g⟩ := obind g
  refine qa Γ δ σ F H _ x r ex fun v F1 H1 g1 rv => qb Γ δ σ F1 H1 _ y (r.gr g1) ey fun w F2 H2 g2 rw' => ?_
  cases y with
  | dK ks ds =>
    unfold dInD at g
    dsimp only at g
    cases ek : keyD x with
    | none => rw [ek] at g; cases g
    | some k' =>
      rw [ek] at g
      cases g
      obtain ⟨p, o, rfl, hd, hs, _⟩ := dget_of g2.s (rv.mono g2) rw' ek
      dsimp only at k
      rw [← hs, Bool.true_xor] at k
      exact ⟨p, o, rfl, hd, k _ F2 H2 (g1.trans g2) rBl⟩
  | _ => cases g
def dGetD : D → D → Option D
  | .dK ks ds, k => (keyD k).bind fun k => (kAt k ks).bind fun j => ds[j]?
  | _, _ => none
theorem jx_dget (hu : X.A.units + 1 < cLine) (ha : JR X a ma) (hb : JR X b mb) (hs : NoSl b := by exact fun _ _ => rfl) : JX X (.Subscript a b pos) (xBin dGetD ma mb) := by
  obtain ⟨ta, pa, qa⟩ := ha.ex
  obtain ⟨tb, pb, qb⟩ := hb.ex
  refine ⟨_, pe_dget hu pa pb hs, fun Γ δ σ F H Q d r g k => ?_⟩
  obtain ⟨x, ex, g⟩ := obind g
  obtain ⟨y, ey, g⟩ := obind g
  refine qa Γ δ σ F H _ x r ex fun v F1 H1 g1 rv => qb Γ δ σ F1 H1 _ y (r.gr g1) ey fun w F2 H2 g2 rw' => ?_
  cases x with
  | dK ks ds =>
    obtain ⟨k', ek, g⟩ := obind g
    obtain ⟨j, ej, g⟩ := obind g
    obtain ⟨p, o, rfl, hd, _, hv⟩ := dget_of g2.s rw' (rv.mono g2) ek
    obtain ⟨z, rfl, rz⟩ := hv d j ej g
    exact ⟨p, z, rfl, hd, k _ F2 H2 (g1.trans g2) rz⟩
  | _ => cases g
/-! ### list(range(n)) -/
def oRg1 (m : MX) : MO := fun δ => R.ofO (m δ) >>= fun d => match d with
  | .int n => if -(2 ^ 62) ≤ n ∧ n.toNat ≤ 2 ^ 24 then .ok (lsT (rngD 0 n.toNat), δ) else .bad
  | _ => .bad
theorem reps_rg {n : Int} : Reps K F (rngD 0 n.toNat) (rgV 0 n) := by
  unfold rngD rgV
  rw [Int.sub_zero]
  generalize n.toNat = k
  have : ∀ l : List Nat, Reps K F (l.map fun (k : Nat) => D.int (0 + (k : Int))) (l.map fun (i : Nat) => V.int (0 + (i : Nat))) := by
    intro l
    induction l with
    | nil => exact Reps.nil
    | cons x l ih => exact Reps.cons rInt ih
  exact this _
theorem jo_lrg1 {pr ps : Pos} (hc : X.calm = true) (hm : X.mg "list" = none) (hm2 : X.mg "range" = none) (he : JR X e m) (hg : Gl X "list" := by rfl) (hg2 : Gl X "range" := by rfl)
    (na : starEach [.Call (.Name "range" pr) [e] [] ps] X.env = (false, eval (.Call (.Name "range" pr) [e] [] ps) X.env) :: starEach [] X.env := by rfl) (nb : starEach [e] X.env = (false, eval e X.env) :: starEach [] X.env := by rfl) :
    JO X W (.Call (.Name "list" p') [.Call (.Name "range" pr) [e] [] ps] [] pos) (oRg1 m) := by
  obtain ⟨t, p, q⟩ := he.ex
  refine ⟨_, pe_listRg hc hg hm (prg_1 hg2 hm2 p nb) na, fun Γ δ σ F H Q r g => ?_⟩
  obtain ⟨d, ed, g⟩ := Gd.obind g
  refine q Γ δ σ F H _ d r ed fun v F1 H1 g1 rv => ?_
  cases d with
  | int n =>
    have g : Gd X.K Γ W (if -(2 ^ 62) ≤ n ∧ n.toNat ≤ 2 ^ 24 then R.ok (lsT (rngD 0 n.toNat), δ) else R.bad) _ := g
    split at g
    · rename_i hn
      refine ⟨n, rv.int, ⟨by decide, by decide, hn.1, by omega, by omega⟩, fun p hp => ?_⟩
      exact g _ F1 _ ((r.gr g1).newL hp reps_rg) g1.f
    · exact g.elim
  | _ => exact g.elim
/-! ### what is walked -/
theorem range_pos {i j c : Int} (h : c ≠ 0) : 0 ≤ Builtin.Range.rangeSize i j c := by
  unfold Builtin.Range.rangeSize
  split
  · split
    · have := Int.ediv_nonneg (a := j - i - 1) (b := c) (by omega) (by omega)
      omega
    · omega
  · split
    · have := Int.ediv_nonneg (a := i - j - 1) (b := -c) (by omega) (by omega)
      omega
    · omega
theorem range_le {i j c : Int} (h : c ≠ 0) (hi : i.natAbs < 1073741824) (hj : j.natAbs < 1073741824) : Builtin.Range.rangeSize i j c ≤ 3000000000 := by
  unfold Builtin.Range.rangeSize
  split
  · split
    · have := Int.ediv_le_self (a := j - i - 1) c (by omega)
      omega
    · omega
  · split
    · have := Int.ediv_le_self (a := i - j - 1) (-c) (by omega)
      omega
    · omega
theorem range_small {i j c : Int} (h : c ≠ 0) (hc : c.natAbs < 1073741824) (hi : i.natAbs < 1073741824) (hj : j.natAbs < 1073741824) : Builtin.Range.small i j c = true := by
  have h1 := range_pos (i := i) (j := j) h
  have h2 := range_le h hi hj
  unfold Builtin.Range.small Builtin.Range.rangeFitsLong
  generalize Builtin.Range.rangeSize i j c = r at h1 h2
  have e : ∀ x : Int, x.natAbs < 5000000000 → (decide (-(2 ^ 63) ≤ x) && decide (x < 2 ^ 63)) = true := fun x hx => by simp; omega
  rw [e i (by omega), e j (by omega), e c (by omega), e r (by omega)]
  split
  · rw [e _ (by omega)]; simp
  · rw [e _ (by omega)]; simp
def mIR3 (m : MA) : MI := fun δ => m δ >>= fun p => match p.1 with
  | [.im (.int i), .im (.int j), .im (.int c)] => if c ≠ 0 ∧ c.natAbs < 1073741824 ∧ i.natAbs < 1073741824 ∧ j.natAbs < 1073741824 then .ok ((List.range (Builtin.Range.rangeSize i j c).toNat).map fun (k : Nat) => D.int (i + (k : Int) * c), p.2) else .bad
  | _ => .bad
theorem ji_rng3 (hm : X.mg "range" = none) (ha : JA X W [a, b, c] mr) (hg : Gl X "range" := by rfl) (hs : starEach [a, b, c] X.env = (false, eval a X.env) :: starEach [b, c] X.env := by rfl) (hpl : (backTo pos (starEach [b, c] X.env)).any (·.1) = false := by rfl) : JI X W tg (.Call (.Name "range" p') [a, b, c] [] pos) (mIR3 mr) := by
  obtain ⟨t, p, q⟩ := ha.ex
  refine ⟨_, pi_range3 hg hm p hs hpl, fun Γ δ σ F H Q r g => ?_⟩
  refine q Γ δ σ F H _ r ((Gd.bind.mp g).mono fun u gu vs F1 H1 R1 s1 hv => ?_)
  obtain ⟨xs, δ1⟩ := u
  match xs, vs, hv, gu with
  | [.im (.int i), .im (.int j), .im (.int k)], [v, w, z], hv, gu =>
    have ev : v = .int i := (Rep.int_iff (K := X.K) (H := F1)).mp hv.1
    have ew : w = .int j := (Rep.int_iff (K := X.K) (H := F1)).mp hv.2.1
    have ez : z = .int k := (Rep.int_iff (K := X.K) (H := F1)).mp hv.2.2.1
    subst ev ew ez
    have gu : Gd X.K Γ W (if k ≠ 0 ∧ k.natAbs < 1073741824 ∧ i.natAbs < 1073741824 ∧ j.natAbs < 1073741824 then R.ok ((List.range (Builtin.Range.rangeSize i j k).toNat).map (fun (n : Nat) => D.int (i + (n : Int) * k)), δ1) else R.bad) _ := gu
    split at gu
    · rename_i hj
      refine ⟨i, j, k, (Builtin.Range.rangeSize i j k).toNat, rfl, ⟨hj.1, hj.2.1, range_small hj.1 hj.2.1 hj.2.2.1 hj.2.2.2, (Int.toNat_of_nonneg (range_pos hj.1)).symm⟩, gu _ F1 H1 R1 s1 ⟨fun n F H _ _ hi => ?_, fun n d F H x H' _ s hd hy => ?_, fun n F H _ _ hi => ?_⟩⟩
      · show n < _
        simpa using hi
      · obtain ⟨rfl, rfl⟩ := hy
        rw [List.getElem?_map] at hd
        cases q : (List.range (Builtin.Range.rangeSize i j k).toNat)[n]? with
        | none => rw [q] at hd; cases hd
        | some y =>
          rw [q] at hd
          obtain ⟨h1, h2⟩ := List.getElem?_eq_some_iff.mp q
          rw [List.getElem_range] at h2
          subst h2
          cases hd
          exact ⟨F, Gr.refl s, rInt⟩
      · show _ ≤ n
        simpa using hi
    · exact gu.elim
/-- two rows in pairs -/
def zipDs (xs ys : List D) : List D := (xs.zip ys).map fun p => .tup [p.1, p.2]
theorem zipDs_len {xs ys : List D} : (zipDs xs ys).length = min xs.length ys.length := by simp [zipDs]
theorem zipDs_get {xs ys : List D} {n : Nat} {d : D} (h : (zipDs xs ys)[n]? = some d) : ∃ x y, xs[n]? = some x ∧ ys[n]? = some y ∧ d = .tup [x, y] := by
  unfold zipDs at h
  rw [List.getElem?_map] at h
  cases q : (xs.zip ys)[n]? with
  | none => rw [q] at h; cases h
  | some p =>
    rw [q] at h
    cases h
    obtain ⟨h1, h2⟩ := List.getElem?_zip_eq_some.mp q
    exact ⟨p.1, p.2, h1, h2, rfl⟩
/-- a list (true) or a tuple by its items -/
def asL : D → Option (Bool × List D)
  | .lst ds => some (true, ds)
  | .tup ds => some (false, ds)
  | _ => none
def one1 : List Vl → Option D
  | [.im x] => some x
  | _ => none
def two2 : List Vl → Option (D × D)
  | [.im x, .im y] => some (x, y)
  | _ => none
theorem two2_v {xs : List Vl} {vs : List V} {p : D × D} (h : VlsOk K F σ vs xs) (e : two2 xs = some p) : ∃ v w, vs = [v, w] ∧ Rep K F p.1 v ∧ Rep K F p.2 w := by
  unfold two2 at e
  split at e
  · cases e
    match vs, h with
    | [v, w], h => exact ⟨v, w, rfl, h.1, h.2.1⟩
  · cases e
theorem one1_v {xs : List Vl} {vs : List V} {x : D} (h : VlsOk K F σ vs xs) (e : one1 xs = some x) : ∃ v, vs = [v] ∧ Rep K F x v := by
  unfold one1 at e
  split at e
  · cases e
    match vs, h with
    | [v], h => exact ⟨v, rfl, h.1⟩
  · cases e
/-- the items of a list or a tuple -/
def SqB (K : PySem.W.Frag) : Bool → Hp → Addr → List V → Prop
  | true, H, a, xs => SqL K H a xs
  | false, H, a, xs => SqT K H a xs
theorem asL_v {d : D} {v : V} {b : Bool} {ds : List D} (h : Rep K F d v) (e : asL d = some (b, ds)) : ∃ p us, v = .ref p ∧ Reps K F ds us ∧ ∀ {F2 H2 : Hp}, Same F F2 → Same F2 H2 → SqB K b H2 p us := by
  cases d with
  | lst ds' =>
    cases e
    obtain ⟨p, us, rfl, hp, hr⟩ := Rep.lst_iff.mp h
    exact ⟨p, us, rfl, hr, fun a b => SqL.of (b _ _ (a _ _ hp))⟩
  | tup ds' =>
    cases e
    obtain ⟨p, us, rfl, hp, hr⟩ := Rep.tup_iff.mp h
    exact ⟨p, us, rfl, hr, fun a b => SqT.of (b _ _ (a _ _ hp))⟩
  | _ => cases e
def mIZ (m : MA) : MI := fun δ => m δ >>= fun p => R.ofO (two2 p.1) >>= fun q => R.ofO (asL q.1) >>= fun x => R.ofO (asL q.2) >>= fun y => if x.1 = y.1 then .ok (zipDs x.2 y.2, p.2) else .bad
theorem pair_new {T : Addr} {x y : D} {v w : V} (s : Same F H) (hT : H T = none) (hx : Rep K F x v) (hy : Rep K F y w) : ∃ F', Gr F H F' (upd H T (.tup [v, w])) ∧ Rep K F' (.tup [x, y]) (.ref T) := by
  have g := Gr.new s hT (.tup [v, w])
  exact ⟨_, g, Rep.tup_iff.mpr ⟨T, _, rfl, upd_same, Reps.cons (hx.mono g.f) (Reps.one (hy.mono g.f))⟩⟩
theorem ji_zip {elts : List Expr} {kk : Nat} {tpos : Pos} (hm : X.mg "zip" = none) (ha : JA X W [a, b] mr) (hg : Gl X "zip" := by rfl) (hs : starEach [a, b] X.env = (false, eval a X.env) :: starEach [b] X.env := by rfl) (hpl : (backTo pos (starEach [b] X.env)).any (·.1) = false := by rfl) :
    JI X W (.Tuple elts kk tpos) (.Call (.Name "zip" p') [a, b] [] pos) (mIZ mr) := by
  obtain ⟨t, p, q⟩ := ha.ex
  refine ⟨_, RZ.pi_zipA hg hm p hs hpl, fun Γ δ σ F H Q r g => ?_⟩
  refine q Γ δ σ F H _ r ((Gd.bind.mp g).mono fun u gu vs F1 H1 R1 s1 hv => ?_)
  obtain ⟨⟨dx, dy⟩, e2, gu⟩ := Gd.obind gu
  obtain ⟨⟨bx, xs⟩, ex, gu⟩ := Gd.obind gu
  obtain ⟨⟨by', ys⟩, ey, gu⟩ := Gd.obind gu
  have gu : Gd X.K Γ W (if bx = by' then R.ok (zipDs xs ys, u.2) else R.bad) _ := gu
  split at gu
  · rename_i hb
    subst hb
    obtain ⟨v, w, rfl, rv, rw'⟩ := two2_v hv e2
    obtain ⟨p1, us, rfl, hr, sx⟩ := asL_v rv ex
    obtain ⟨p2, ws, rfl, hr2, sy⟩ := asL_v rw' ey
    cases bx with
    | true =>
      refine ⟨p1, p2, us, ws, rfl, .inl ⟨sx (Same.refl _) R1.sub, sy (Same.refl _) R1.sub, gu _ F1 H1 R1 s1 ⟨fun n F2 H2 s2 s3 hi => ?_, fun n d F2 H2 x H3 s2 s3 hd hy => ?_, fun n F2 H2 s2 s3 hi => ?_⟩⟩⟩
      · have hi : n < (zipDs xs ys).length := hi
        rw [zipDs_len, hr.length, hr2.length] at hi
        exact ⟨us, ws, us[n]'(by omega), ws[n]'(by omega), sx s2 s3, sy s2 s3, List.getElem?_eq_getElem _, List.getElem?_eq_getElem _⟩
      · obtain ⟨T, x', y', rfl, hT, rfl, f1, f2⟩ := hy
        obtain ⟨dx, dy, e1, e2, rfl⟩ := zipDs_get hd
        obtain ⟨v1, ev1, rv1⟩ := hr.get e1
        obtain ⟨v2, ev2, rv2⟩ := hr2.get e2
        have h1 := f1 us (sx s2 s3)
        have h2 := f2 ws (sy s2 s3)
        rw [ev1] at h1
        rw [ev2] at h2
        cases h1
        cases h2
        exact pair_new s3 hT (rv1.mono s2) (rv2.mono s2)
      · have hi : (zipDs xs ys).length ≤ n := hi
        rw [zipDs_len, hr.length, hr2.length] at hi
        exact ⟨us, ws, sx s2 s3, sy s2 s3, by omega⟩
    | false =>
      refine ⟨p1, p2, us, ws, rfl, .inr ⟨sx (Same.refl _) R1.sub, sy (Same.refl _) R1.sub, gu _ F1 H1 R1 s1 ⟨fun n F2 H2 s2 s3 hi => ?_, fun n d F2 H2 x H3 s2 s3 hd hy => ?_, fun n F2 H2 s2 s3 hi => ?_⟩⟩⟩
      · have hi : n < (zipDs xs ys).length := hi
        rw [zipDs_len, hr.length, hr2.length] at hi
        exact ⟨us, ws, us[n]'(by omega), ws[n]'(by omega), sx s2 s3, sy s2 s3, List.getElem?_eq_getElem _, List.getElem?_eq_getElem _⟩
      · obtain ⟨T, x', y', rfl, hT, rfl, f1, f2⟩ := hy
        obtain ⟨dx, dy, e1, e2, rfl⟩ := zipDs_get hd
        obtain ⟨v1, ev1, rv1⟩ := hr.get e1
        obtain ⟨v2, ev2, rv2⟩ := hr2.get e2
        have h1 := f1 us (sx s2 s3)
        have h2 := f2 ws (sy s2 s3)
        rw [ev1] at h1
        rw [ev2] at h2
        cases h1
        cases h2
        exact pair_new s3 hT (rv1.mono s2) (rv2.mono s2)
      · have hi : (zipDs xs ys).length ≤ n := hi
        rw [zipDs_len, hr.length, hr2.length] at hi
        exact ⟨us, ws, sx s2 s3, sy s2 s3, by omega⟩
  · exact gu.elim
def enumDs (xs : List D) : List D := (xs.zipIdx).map fun p => .tup [.int (p.2 : Nat), p.1]
theorem enumDs_len {xs : List D} : (enumDs xs).length = xs.length := by simp [enumDs]
theorem enumDs_get {xs : List D} {n : Nat} {d : D} (h : (enumDs xs)[n]? = some d) : ∃ x, xs[n]? = some x ∧ d = .tup [.int (n : Nat), x] := by
  unfold enumDs at h
  rw [List.getElem?_map, List.getElem?_zipIdx] at h
  cases q : xs[n]? with
  | none => rw [q] at h; cases h
  | some x => rw [q] at h; cases h; exact ⟨x, rfl, by simp⟩
def mIEn (m : MA) : MI := fun δ => m δ >>= fun p => R.ofO (one1 p.1) >>= fun d => match d with
  | .lst xs => .ok (enumDs xs, p.2)
  | _ => .bad
theorem ji_enum {elts : List Expr} {kk : Nat} {tpos : Pos} (hm : X.mg "enumerate" = none) (ha : JA X W [a] mr) (hg : Gl X "enumerate" := by rfl) (hs : starEach [a] X.env = [(false, eval a X.env)] := by rfl) : JI X W (.Tuple elts kk tpos) (.Call (.Name "enumerate" p') [a] [] pos) (mIEn mr) := by
  obtain ⟨t, p, q⟩ := ha.ex
  refine ⟨_, pi_enum hg hm p hs, fun Γ δ σ F H Q r g => ?_⟩
  refine q Γ δ σ F H _ r ((Gd.bind.mp g).mono fun u gu vs F1 H1 R1 s1 hv => ?_)
  obtain ⟨d, e1, gu⟩ := Gd.obind gu
  obtain ⟨v, rfl, rv⟩ := one1_v hv e1
  cases d with
  | lst xs =>
    obtain ⟨p1, us, rfl, hp, hr⟩ := Rep.lst_iff.mp rv
    have sx : ∀ {F2 H2 : Hp}, Same F1 F2 → Same F2 H2 → SqL X.K H2 p1 us := fun a b => SqL.of (b _ _ (a _ _ hp))
    refine ⟨p1, us, rfl, SqL.of (R1.sub _ _ hp), gu _ F1 H1 R1 s1 ⟨fun n F2 H2 s2 s3 hi => ?_, fun n d F2 H2 x H3 s2 s3 hd hy => ?_, fun n F2 H2 s2 s3 hi => ?_⟩⟩
    · have hi : n < (enumDs xs).length := hi
      rw [enumDs_len, hr.length] at hi
      exact ⟨us, us[n], sx s2 s3, List.getElem?_eq_getElem _⟩
    · obtain ⟨T, x', rfl, hT, rfl, f1⟩ := hy
      obtain ⟨dx, e1, rfl⟩ := enumDs_get hd
      obtain ⟨v1, ev1, rv1⟩ := hr.get e1
      have h1 := f1 us (sx s2 s3)
      rw [ev1] at h1
      cases h1
      exact pair_new s3 hT rInt (rv1.mono s2)
    · have hi : (enumDs xs).length ≤ n := hi
      rw [enumDs_len, hr.length] at hi
      exact ⟨us, sx s2 s3, hi⟩
  | _ => exact gu.elim
end
end GX
/-! GXC: calls without arguments, methods, new instances, properties, len of an own class, keywords. -/
namespace GX
open PySem PySem.Spec PyProof.Rows L2
section
variable {X : Cx} {CX : CXT} {k : Nat} {f C : Addr} {fd : FuncData} {ps : List Str} {sp : Sp} {E : L2.St → XK} {x m : Str} {p pos apos : Pos} {e o : Expr} {es : List Expr} {ta : TE} {t : TA}
/-! ### readings whose wish of an exception sees the slots -/
theorem pe_call0S (F : FnOk X.prog X.w X.K X.mg X.base CX k f fd ps sp) (hr : Room k X.A) (hg : Gl X x) (hm : X.mg x = some (.ref f)) (hk : PySem.W.keepIn X.K (.ref f) = true) (hb : Binds X.K fd ps []) (hx : ∀ σ, PassesAt CX X σ (E σ))
    (hdb : (x == ("__debug__" : Str)) = false := by decide) : PE X (.Call (.Name x p) [] [] pos) (tCallS sp E tNil) := by
  refine ⟨fun pins s σ H Q I h => ?_⟩
  refine wpAny_Call_Name_kw (ld_glob I hg hm ?_ hdb)
  exact PySem.W.callWith_K0 I.kIn hk (run_fnS (us := []) F hr hb (hx σ) I .nil h)
def tMeS (C : Addr) (m : Str) (sp : Sp) (E : L2.St → XK) (ta : TE) (t : TA) : TE := fun σ H Q => ta σ H fun x H1 => ∃ a dx fs, x = .ref a ∧ H1 a = some (.ins C dx fs) ∧ fs.lookup m = none ∧ t σ H1 fun vs H2 => sp (x :: vs) H2 Q (E σ)
theorem pe_meS {pl : Sem Bool} (he : PE X o ta) (c : Cls X.K C) (hm : Meth X.K C m f) (F : FnOk X.prog X.w X.K X.mg X.base CX k f fd ps sp) (hr : Room k X.A) (hb : Binds X.K fd ps []) (hx : ∀ σ, PassesAt CX X σ (E σ)) (ha : PA X (e :: es) t)
    (hst : starEach (e :: es) X.env = (false, eval e X.env) :: starEach es X.env := by rfl) (hpl : (backTo pos (starEach es X.env)).any (·.1) = false := by rfl)
    (ht : eval (.Call (.Attribute o m apos) (e :: es) [] pos) X.env = (do
      let ov ← eval o X.env
      standAt apos.atName
      let (f, first) ← holding [ov] (getMethod ov m pl)
      callWith pos f first (backTo pos (starEach (e :: es) X.env)) (backToKw pos (keywordEach [] X.env))) := by rfl) :
    PE X (.Call (.Attribute o m apos) (e :: es) [] pos) (tMeS C m sp E ta t) := by
  refine ⟨fun pins s σ H Q I h => ?_⟩
  refine PySem.W.methodCall_KW (pl := pl) (thn (he.run pins s σ H _ I h) fun u s1 ⟨x, H1, I1, rx, a, dx, fs, ex, ea, l, q⟩ => ?_) ht
  subst ex
  obtain rfl : u = Value.ref a := rx
  refine getmeth_ok I1 ea c hm l ?_
  refine PySem.W.callWith_K (first := [.ref a]) (h₀ := X.base) I.ok.mod.kin hm.kp (thn (ha.run pos pins s1 σ H1 _ I1 q) fun us s2 ⟨vs, H2, I2, r, q2⟩ => ⟨I2.kIn, ?_⟩) hst hpl
  exact run_fnS (us := .ref a :: us) (vs := .ref a :: vs) F hr hb (hx σ) I2 (.cons rfl r) q2
theorem pe_me0S {pl : Sem Bool} (he : PE X o ta) (c : Cls X.K C) (hm : Meth X.K C m f) (F : FnOk X.prog X.w X.K X.mg X.base CX k f fd ps sp) (hr : Room k X.A) (hb : Binds X.K fd ps []) (hx : ∀ σ, PassesAt CX X σ (E σ))
    (ht : eval (.Call (.Attribute o m apos) [] [] pos) X.env = (do
      let ov ← eval o X.env
      standAt apos.atName
      let (f, first) ← holding [ov] (getMethod ov m pl)
      callWith pos f first (backTo pos (starEach [] X.env)) (backToKw pos (keywordEach [] X.env))) := by rfl) :
    PE X (.Call (.Attribute o m apos) [] [] pos) (tMeS C m sp E ta tNil) := by
  refine ⟨fun pins s σ H Q I h => ?_⟩
  refine PySem.W.methodCall_KW (pl := pl) (thn (he.run pins s σ H _ I h) fun u s1 ⟨x, H1, I1, rx, a, dx, fs, ex, ea, l, q⟩ => ?_) ht
  subst ex
  obtain rfl : u = Value.ref a := rx
  refine getmeth_ok I1 ea c hm l ?_
  exact PySem.W.callWith_K0 (first := [.ref a]) I1.kIn hm.kp (run_fnS (us := [.ref a]) (vs := [.ref a]) F hr hb (hx σ) I1 (.cons rfl .nil) q)
def tMkS (C : Addr) (sp : Sp) (E : L2.St → XK) (t : TA) : TE := fun σ H Q => t σ H fun vs H1 => ∀ x dx, H1 x = none → H1 dx = none → dx ≠ x →
  sp (.ref x :: vs) (upd (upd H1 dx (.own x)) x (.ins C dx [])) (fun v H2 => v = .non ∧ Q (.ref x) H2) (E σ)
theorem run_mkS {pins : List (Addr × Obj)} {σ : L2.St} {H : Hp} {s : Shared} {Q : VK} {us : List Value} {vs : List V} (M : Mk X.K C f) (F : FnOk X.prog X.w X.K X.mg X.base CX k f fd ps sp) (hr : Room (k + 1) X.A) (hb : Binds X.K fd ps [])
    (hx : ∀ σ, PassesAt CX X σ (E σ)) (I : Inv X pins σ H s) (r : Vals vs us)
    (h : ∀ x dx, H x = none → H dx = none → dx ≠ x → sp (.ref x :: vs) (upd (upd H dx (.own x)) x (.ins C dx [])) (fun v H2 => v = .non ∧ Q (.ref x) H2) (E σ)) :
    wpAny (model X.prog X.w) X.A (call (.ref C) us) (EP X pins σ Q) X.xe s := by
  have hq := h (s.heap.objs.size + 1) s.heap.objs.size (I.hok.fresh (Nat.le_succ _)) (I.hok.fresh (Nat.le_refl _)) (Nat.ne_of_lt (Nat.lt_succ_self _))
  have I2 := Inv.made (C := C) I
  have r2 : Vals (V.ref (s.heap.objs.size + 1) :: vs) (Value.ref (s.heap.objs.size + 1) :: us) := .cons rfl r
  have hl : (Value.ref (s.heap.objs.size + 1) :: us).length = ps.length := by
    have e := r2.length
    rw [F.len _ _ _ _ hq] at e
    exact e.symm
  have b := hb _ (Value.ref (s.heap.objs.size + 1) :: us) I2.kIn (by rw [List.append_nil]; exact hl)
  rw [List.append_nil] at b
  refine wpAny_call (make_map (f := f) I.kIn M.makes M.init (beq_iff_eq.mp M.fn) (codeAny_mono (F.run _ X.stack _ _ ⟨Value.ref (s.heap.objs.size + 1) :: us, []⟩ (Value.ref (s.heap.objs.size + 1) :: us) _ _ (E σ) (hr.make C us [])
    (I2.env0.make C us []) b r2 hq) fun r s' hq' => ?_))
  cases r with
  | error e => exact hx σ pins _ _ e s' I2 hq'
  | ok fl =>
    cases fl with
    | ret u =>
      obtain ⟨v, H', I3, rv, ev, q3⟩ := I2.after hq'
      subst ev
      exact ⟨rv, ⟨V.ref (s.heap.objs.size + 1), H', I3, rfl, q3⟩⟩
    | next => exact False.elim hq'
    | brk => exact False.elim hq'
    | cont => exact False.elim hq'
theorem pe_mkS (M : Mk X.K C f) (F : FnOk X.prog X.w X.K X.mg X.base CX k f fd ps sp) (hr : Room (k + 1) X.A) (hg : Gl X x) (hm : X.mg x = some (.ref C)) (hb : Binds X.K fd ps []) (hx : ∀ σ, PassesAt CX X σ (E σ))
    (ha : PA X (e :: es) t) (hdb : (x == ("__debug__" : Str)) = false := by decide) (he : starEach (e :: es) X.env = (false, eval e X.env) :: starEach es X.env := by rfl) (hpl : (backTo pos (starEach es X.env)).any (·.1) = false := by rfl) :
    PE X (.Call (.Name x p) (e :: es) [] pos) (tMkS C sp E t) := by
  refine ⟨fun pins s σ H Q I h => ?_⟩
  refine wpAny_Call_Name_kw (ld_glob I hg hm ?_ hdb)
  refine PySem.W.callWith_K (h₀ := X.base) I.ok.mod.kin M.kp (thn (ha.run pos pins s σ H _ I h) fun us s1 ⟨vs, H1, I1, r, q⟩ => ⟨I1.kIn, ?_⟩) he hpl
  exact run_mkS M F hr hb hx I1 r q
theorem pe_mk0S (M : Mk X.K C f) (F : FnOk X.prog X.w X.K X.mg X.base CX k f fd ps sp) (hr : Room (k + 1) X.A) (hg : Gl X x) (hm : X.mg x = some (.ref C)) (hb : Binds X.K fd ps []) (hx : ∀ σ, PassesAt CX X σ (E σ))
    (hdb : (x == ("__debug__" : Str)) = false := by decide) : PE X (.Call (.Name x p) [] [] pos) (tMkS C sp E tNil) := by
  refine ⟨fun pins s σ H Q I h => ?_⟩
  refine wpAny_Call_Name_kw (ld_glob I hg hm ?_ hdb)
  exact PySem.W.callWith_K0 I.kIn M.kp (run_mkS (us := []) M F hr hb hx I .nil h)
/-- f(k = v, ..) -/
def tCaKS (sp : Sp) (gV : List V → List V → List V) (E : L2.St → XK) (tk : TA) : TE := fun σ H Q => tk σ H fun zs H2 => sp (gV [] zs) H2 Q (E σ)
theorem pe_callK0S {ks : List Str} {g : List Value → List Value → List Value} {gV : List V → List V → List V} {kws : List Keyword} {tk : TA} (F : FnOk X.prog X.w X.K X.mg X.base CX k f fd ps sp) (hr : Room k X.A) (hg : Gl X x) (hm : X.mg x = some (.ref f)) (hk : PySem.W.keepIn X.K (.ref f) = true) (hb : KBinds X.K fd ps ks g gV) (hx : ∀ σ, PassesAt CX X σ (E σ))
    (hkw : PK X kws tk) (hall : (backToKw pos (keywordEach kws X.env)).all (·.1.isSome) = true := by rfl) (hks : (backToKw pos (keywordEach kws X.env)).filterMap (·.1) = ks := by rfl)
    (hdb : (x == ("__debug__" : Str)) = false := by decide) (hpl : ((backTo pos (starEach [] X.env)).any (·.1) || (backToKw pos (keywordEach kws X.env)).any (·.1.isNone)) = false := by rfl) :
    PE X (.Call (.Name x p) [] kws pos) (tCaKS sp gV E tk) := by
  refine ⟨fun pins s σ H Q I h => ?_⟩
  refine wpAny_Call_Name_kw (ld_glob I hg hm ?_ hdb)
  refine PySem.W.callWith_KW0 (h₀ := X.base) I.ok.mod.kin hk hall ?_ hpl
  refine thn (hkw.run pos pins s σ H _ I h) fun ws s2 ⟨zs, H2, I2, rz, q2⟩ => ⟨I2.kIn, ?_⟩
  rw [hks]
  have r2 := hb.rel (vs := []) (us := []) .nil rz
  have hl : (g [] ws).length = ps.length := by rw [← r2.length]; exact F.len _ _ _ _ q2
  refine wpAny_call (codeAny_mono (F.run X.A X.stack s2 H2 ⟨[], ks.zip ws⟩ (g [] ws) (gV [] zs) Q (E σ) hr I2.env0 (hb.to s2 [] ws I2.kIn hl) r2 q2) fun r s' hq => ?_)
  cases r with
  | error e => exact hx σ pins H2 s2 e s' I2 hq
  | ok fl =>
    cases fl with
    | ret u => exact I2.after hq
    | next => exact False.elim hq
    | brk => exact False.elim hq
    | cont => exact False.elim hq
end
section
variable {X : Cx} {W : WX} {K : PySem.W.Frag} {Γ : Fm} {F H F' H' : Hp} {σ : L2.St} {δ : List Sl} {φ : Nat → List Addr}
variable {e o : Expr} {es : List Expr} {mr : MA} {me : ME} {mx : MX} {pos p' apos : Pos} {x m : Str} {ps : List Str} {f : Fn} {C : Addr}
/-! ### f() -/
theorem evNil : EvA K Γ W tNil mNil := fun δ σ F H Q r g => g [] F H r (Same.refl _) trivial
theorem je_call0 (tk : Takes X W) (C : Cal X.prog X.w X.K X.mg X.base X.A x ps (spF X.K f)) (hg : Gl X x := by rfl) (hdb : (x == ("__debug__" : Str)) = false := by decide) : JE X W (.Call (.Name x p') [] [] pos) (mCall f mNil) := by
  obtain ⟨k, fa, fd, G, hr, hm, hk, hb⟩ := C
  refine ⟨_, pe_call0S G hr hg hm hk hb (fun σ => passAt tk σ) hdb, fun Γ δ σ F H Q r g => ?_⟩
  obtain ⟨ts, ed, gu⟩ := Gd.obind (show Gd X.K Γ W (R.ofO (callIn δ []) >>= fun ts => retE δ [] (f ts)) _ from g)
  exact retE_sp (vs := []) (xs := []) r trivial ed gu
theorem jo_call0 (tk : Takes X W) (C : Cal X.prog X.w X.K X.mg X.base X.A x ps (spF X.K f)) (hg : Gl X x := by rfl) (hdb : (x == ("__debug__" : Str)) = false := by decide) : JO X W (.Call (.Name x p') [] [] pos) (mCallO f mNil) := by
  obtain ⟨k, fa, fd, G, hr, hm, hk, hb⟩ := C
  refine ⟨_, pe_call0S G hr hg hm hk hb (fun σ => passAt tk σ) hdb, fun Γ δ σ F H Q r g => ?_⟩
  obtain ⟨ts, ed, gu⟩ := Gd.obind (show Gd X.K Γ W (R.ofO (callIn δ []) >>= fun ts => retO δ [] (f ts)) _ from g)
  exact retO_sp (vs := []) (xs := []) r trivial ed gu
/-! ### methods -/
/-- the class C has the method m, that keeps the promise -/
def CalM (P : Program) (w : World) (K : PySem.W.Frag) (mg : Str → Option Value) (base : Heap) (A : Around) (C : Addr) (m : Str) (ps : List Str) (sp : Sp) : Prop :=
  ∃ k f fd, FnOk P w K mg base (L2.CX P w) k f fd ps sp ∧ Room k A ∧ Meth K C m f ∧ Binds K fd ps [] ∧ Cls K C
/-- an instance of C without a field m -/
def insOk (C : Addr) (m : Str) (δ : List Sl) : Vl → Bool
  | .im (.ins C' ns ds) => decide (C' = C) && (kAt m ns).isNone
  | .sl i => match ownAt δ i with
    | some (.o (.i C' ns) ts) => decide (C' = C) && (kAt m ns).isNone
    | _ => false
  | _ => false
theorem lookup_no {f : Str} : ∀ {ns : List Str} {vs : List V}, kAt f ns = none → (ns.zip vs).lookup f = none
  | [], vs, e => by simp
  | n :: ns, [], e => by simp
  | n :: ns, v0 :: vs, e => by
    unfold kAt at e
    by_cases q : n = f
    · rw [if_pos q] at e; cases e
    · rw [if_neg q] at e
      have : (f == n) = false := beq_eq_false_iff_ne.mpr (fun z => q z.symm)
      simp only [List.zip_cons_cons, List.lookup_cons, this]
      cases q2 : kAt f ns with
      | some j => rw [q2] at e; cases e
      | none => exact lookup_no q2
theorem insOk_v {v : V} {y : Vl} (r : Rl K Γ F H σ δ) (h : VlOk K F σ v y) (e : insOk C m δ y = true) : ∃ a dx fs, v = .ref a ∧ H a = some (.ins C dx fs) ∧ fs.lookup m = none := by
  cases y with
  | im d =>
    cases d with
    | ins C' ns ds =>
      obtain ⟨h1, h2⟩ := (Bool.and_eq_true _ _).mp e
      have hc := of_decide_eq_true h1
      subst hc
      obtain ⟨a, dx, vs, rfl, q, _, _⟩ := Rep.ins_iff.mp h
      exact ⟨a, dx, _, rfl, r.sub _ _ q, lookup_no (Option.isNone_iff_eq_none.mp h2)⟩
    | _ => cases e
  | sl i =>
    unfold insOk at e
    dsimp only at e
    cases q : ownAt δ i with
    | none => rw [q] at e; cases e
    | some t =>
      rw [q] at e
      cases t with
      | d _ => cases e
      | o sh ts =>
        cases sh with
        | i C' ns =>
          obtain ⟨h1, h2⟩ := (Bool.and_eq_true _ _).mp e
          have hc := of_decide_eq_true h1
          subst hc
          obtain ⟨φ, r⟩ := r
          obtain ⟨w, e1, o, _⟩ := r.own q
          have h : σ[i]? = some (some v) := h
          rw [h] at e1
          cases e1
          obtain ⟨p, h0, vs, fq, rfl, _, hp, ⟨dx, rfl, _⟩, _⟩ := Ow.o_iff.mp o
          exact ⟨p, dx, _, rfl, hp, lookup_no (Option.isNone_iff_eq_none.mp h2)⟩
        | _ => cases e
def mMeth (C : Addr) (m : Str) (f : Fn) (mo : ME) (ma : MA) : ME := fun δ => mo δ >>= fun p => if insOk C m p.2 p.1 = true then ma p.2 >>= fun q => R.ofO (callIn q.2 (p.1 :: q.1)) >>= fun ts => retE q.2 (p.1 :: q.1) (f ts) else .bad
def mMethO (C : Addr) (m : Str) (f : Fn) (mo : ME) (ma : MA) : MO := fun δ => mo δ >>= fun p => if insOk C m p.2 p.1 = true then ma p.2 >>= fun q => R.ofO (callIn q.2 (p.1 :: q.1)) >>= fun ts => retO q.2 (p.1 :: q.1) (f ts) else .bad
theorem evMeth {to : TE} {t : TA} {mo : ME} {ma : MA} (ho : EvE K Γ W to mo) (ha : EvA K Γ W t ma) : EvE K Γ W (tMeS C m (spF K f) (WE W) to t) (mMeth C m f mo ma) := fun δ σ F H Q r g => by
  refine ho δ σ F H _ r ((Gd.bind.mp g).mono fun p gp v F1 H1 R1 s1 hv => ?_)
  split at gp
  · rename_i hi
    obtain ⟨a, dx, fs, ev, ea, el⟩ := insOk_v R1 hv hi
    refine ⟨a, dx, fs, ev, ea, el, ha p.2 σ F1 H1 _ R1 ((Gd.bind.mp gp).mono fun q gq vs F2 H2 R2 s2 hvs => ?_)⟩
    obtain ⟨ts, et, gq⟩ := Gd.obind gq
    exact retE_sp R2 (show VlsOk K F2 σ (v :: vs) (p.1 :: q.1) from ⟨hv.mono s2, hvs⟩) et (gq.mono fun z hz w F' H' r' s' hw => hz w F' H' r' (s1.trans (s2.trans s')) hw)
  · exact gp.elim
theorem evMethO {to : TE} {t : TA} {mo : ME} {ma : MA} (ho : EvE K Γ W to mo) (ha : EvA K Γ W t ma) : EvO K Γ W (tMeS C m (spF K f) (WE W) to t) (mMethO C m f mo ma) := fun δ σ F H Q r g => by
  refine ho δ σ F H _ r ((Gd.bind.mp g).mono fun p gp v F1 H1 R1 s1 hv => ?_)
  split at gp
  · rename_i hi
    obtain ⟨a, dx, fs, ev, ea, el⟩ := insOk_v R1 hv hi
    refine ⟨a, dx, fs, ev, ea, el, ha p.2 σ F1 H1 _ R1 ((Gd.bind.mp gp).mono fun q gq vs F2 H2 R2 s2 hvs => ?_)⟩
    obtain ⟨ts, et, gq⟩ := Gd.obind gq
    exact retO_sp R2 (show VlsOk K F2 σ (v :: vs) (p.1 :: q.1) from ⟨hv.mono s2, hvs⟩) et (gq.mono fun z hz w F' H' r' s' => hz w F' H' r' (s1.trans (s2.trans s')))
  · exact gp.elim
theorem je_meth {pl : Sem Bool} (tk : Takes X W) (M : CalM X.prog X.w X.K X.mg X.base X.A C m ps (spF X.K f)) (ho : JE X W o me) (ha : JA X W (e :: es) mr)
    (hst : starEach (e :: es) X.env = (false, eval e X.env) :: starEach es X.env := by rfl) (hpl : (backTo pos (starEach es X.env)).any (·.1) = false := by rfl)
    (ht : eval (.Call (.Attribute o m apos) (e :: es) [] pos) X.env = (do
      let ov ← eval o X.env
      standAt apos.atName
      let (f, first) ← holding [ov] (getMethod ov m pl)
      callWith pos f first (backTo pos (starEach (e :: es) X.env)) (backToKw pos (keywordEach [] X.env))) := by rfl) :
    JE X W (.Call (.Attribute o m apos) (e :: es) [] pos) (mMeth C m f me mr) := by
  obtain ⟨k, fa, fd, G, hr, hm, hb, hc⟩ := M
  obtain ⟨to, po, qo⟩ := ho.ex
  obtain ⟨t, p, q⟩ := ha.ex
  exact ⟨_, pe_meS (pl := pl) po hc hm G hr hb (fun σ => passAt tk σ) p hst hpl ht, fun Γ => evMeth (qo Γ) (q Γ)⟩
theorem jo_meth {pl : Sem Bool} (tk : Takes X W) (M : CalM X.prog X.w X.K X.mg X.base X.A C m ps (spF X.K f)) (ho : JE X W o me) (ha : JA X W (e :: es) mr)
    (hst : starEach (e :: es) X.env = (false, eval e X.env) :: starEach es X.env := by rfl) (hpl : (backTo pos (starEach es X.env)).any (·.1) = false := by rfl)
    (ht : eval (.Call (.Attribute o m apos) (e :: es) [] pos) X.env = (do
      let ov ← eval o X.env
      standAt apos.atName
      let (f, first) ← holding [ov] (getMethod ov m pl)
      callWith pos f first (backTo pos (starEach (e :: es) X.env)) (backToKw pos (keywordEach [] X.env))) := by rfl) :
    JO X W (.Call (.Attribute o m apos) (e :: es) [] pos) (mMethO C m f me mr) := by
  obtain ⟨k, fa, fd, G, hr, hm, hb, hc⟩ := M
  obtain ⟨to, po, qo⟩ := ho.ex
  obtain ⟨t, p, q⟩ := ha.ex
  exact ⟨_, pe_meS (pl := pl) po hc hm G hr hb (fun σ => passAt tk σ) p hst hpl ht, fun Γ => evMethO (qo Γ) (q Γ)⟩
theorem je_meth0 {pl : Sem Bool} (tk : Takes X W) (M : CalM X.prog X.w X.K X.mg X.base X.A C m ps (spF X.K f)) (ho : JE X W o me)
    (ht : eval (.Call (.Attribute o m apos) [] [] pos) X.env = (do
      let ov ← eval o X.env
      standAt apos.atName
      let (f, first) ← holding [ov] (getMethod ov m pl)
      callWith pos f first (backTo pos (starEach [] X.env)) (backToKw pos (keywordEach [] X.env))) := by rfl) :
    JE X W (.Call (.Attribute o m apos) [] [] pos) (mMeth C m f me mNil) := by
  obtain ⟨k, fa, fd, G, hr, hm, hb, hc⟩ := M
  obtain ⟨to, po, qo⟩ := ho.ex
  exact ⟨_, pe_me0S (pl := pl) po hc hm G hr hb (fun σ => passAt tk σ) ht, fun Γ => evMeth (qo Γ) evNil⟩
/-! ### new instances -/
def CalN (P : Program) (w : World) (K : PySem.W.Frag) (mg : Str → Option Value) (base : Heap) (A : Around) (x : Str) (C : Addr) (ps : List Str) (sp : Sp) : Prop :=
  ∃ k f fd, FnOk P w K mg base (L2.CX P w) k f fd ps sp ∧ Room (k + 1) A ∧ mg x = some (.ref C) ∧ Mk K C f ∧ Binds K fd ps []
def mkR (δ : List Sl) (xs : List Vl) (r : FR) : R (Tr × List Sl) := match r with
  | .ok (.d .non, t :: os) => .ok (t, outS δ xs os)
  | .err e (_ :: os) => .err e (outS δ xs os)
  | _ => .bad
def mMk (C : Addr) (f : Fn) (m : MA) : MO := fun δ => m δ >>= fun q => R.ofO (callIn q.2 q.1) >>= fun ts => mkR q.2 q.1 (f (.o (.i C []) [] :: ts))
theorem mk_sp {xs : List Vl} {vs : List V} {ts : List Tr} {Q : VK} (r : Rl K Γ F H σ δ) (h : VlsOk K F σ vs xs) (e : callIn δ xs = some ts)
    (g : Gd K Γ W (mkR δ xs (f (.o (.i C []) [] :: ts))) (fun p => ∀ v F' H', OwN K Γ F' H' σ p.2 v p.1 → Same F F' → Q v H')) (x dx : Addr) (hx : H x = none) (hdx : H dx = none) (hne : dx ≠ x) :
    spF K f (.ref x :: vs) (upd (upd H dx (.own x)) x (.ins C dx [])) (fun v H2 => v = .non ∧ Q (.ref x) H2) (WE W σ) := by
  obtain ⟨φ, r⟩ := r
  obtain ⟨n, ec⟩ := callIn_some e
  have o := args_of r h n ec
  have keep : ∀ a, H a ≠ none → (upd (upd H dx (.own x)) x (.ins C dx [])) a = H a := fun a ha => by
    rw [upd_ne (fun z => ha (by rw [z]; exact hx)), upd_ne (fun z => ha (by rw [z]; exact hdx))]
  have some' : ∀ a, (upd (upd H dx (.own x)) x (.ins C dx [])) a = none → H a = none := fun a ha => by
    by_cases q : H a = none
    · exact q
    · rw [keep a q] at ha; exact ha
  have sub : Same F (upd (upd H dx (.own x)) x (.ins C dx [])) := fun a u ea => by rw [keep a (by rw [r.sub a u ea]; simp)]; exact r.sub a u ea
  have there : ∀ i, ∀ a ∈ argφ φ xs i, H a ≠ none := fun i a ha => by
    obtain ⟨j, _, m⟩ := argφ_in ha
    exact (r.inn m).1
  have nx : ∀ i, x ∉ argφ φ xs i := fun i ha => there i x ha hx
  let ψ0 : Nat → List Addr := fun i => match i with
    | 0 => [x]
    | i + 1 => argφ φ xs i
  refine ⟨F, .o (.i C []) [] :: ts, ψ0, sub, ⟨by rw [List.length_cons, List.length_cons, o.len], fun i t et => ?_, fun i en => ?_, fun i j a hi hj => ?_⟩, ?_⟩
  · cases i with
    | zero =>
      cases et
      exact ⟨.ref x, rfl, Ow.o_iff.mpr ⟨x, _, [], [], rfl, rfl, upd_same, ⟨dx, rfl, rfl⟩, Ows.nil⟩, by show [x].Nodup; simp, fun a ha => by
        have : a = x := by simpa [ψ0] using ha
        rw [this]; exact sub_none r.sub hx⟩
    | succ i =>
      obtain ⟨v, ev, ow, nd, z⟩ := o.at_ i t et
      exact ⟨v, ev, ow.mono (Same.refl _) fun a ha => keep a (there i a ha), nd, z⟩
  · cases i with
    | zero => cases en
    | succ i => exact o.nil i en
  · cases i with
    | zero =>
      cases j with
      | zero => rfl
      | succ j =>
        have : a = x := by simpa [ψ0] using hi
        subst this
        exact absurd hj (nx j)
    | succ i =>
      cases j with
      | zero =>
        have : a = x := by simpa [ψ0] using hj
        subst this
        exact absurd hi (nx i)
      | succ j => exact congrArg Nat.succ (o.sep i j a hi hj)
  · have down : ∀ {F' H' : Hp}, After F (upd (upd H dx (.own x)) x (.ins C dx [])) ψ0 F' H' → After F H (argφ φ xs) F' H' := fun a => by
      refine ⟨a.f, a.s, fun y hy hn => ?_, fun y hy => a.z y (by rw [keep y hy]; exact hy), fun y hy => a.t y (by rw [keep y hy]; exact hy)⟩
      rw [a.h y (by rw [keep y hy]; exact hy) fun i => ?_, keep y hy]
      cases i with
      | zero => intro z; exact hy (by have : y = x := by simpa [ψ0] using z
                                      rw [this]; exact hx)
      | succ i => exact hn i
    have back : ∀ {F' H' : Hp} {t : Tr} {os : List Tr} {ψ : Nat → List Addr}, Back K (upd (upd H dx (.own x)) x (.ins C dx [])) ψ0 F' H' (t :: os) (.ref x :: vs) ψ → Back K H (argφ φ xs) F' H' os vs (fun i => ψ (i + 1)) := fun b => by
      refine ⟨⟨by have := b.o.len; simpa using this, fun i t' et => b.o.at_ (i + 1) t' et, fun i en => b.o.nil (i + 1) en, fun i j a hi hj => Nat.succ.inj (b.o.sep (i + 1) (j + 1) a hi hj)⟩, fun i a ha => ?_⟩
      rcases b.w (i + 1) a ha with z | z
      · exact .inl (some' a z)
      · exact .inr z
    cases ef : f (.o (.i C []) [] :: ts) with
    | bad => rw [ef] at g; exact g.elim
    | err er os =>
      rw [ef] at g
      cases os with
      | nil => exact g.elim
      | cons t os =>
        intro cls oo F' H' ψ a b eo
        obtain ⟨φ', r', _⟩ := r.called h n ec (down a) (back b)
        exact g cls oo σ F' H' ⟨φ', r'⟩ eo
    | ok pr =>
      obtain ⟨rt, os⟩ := pr
      rw [ef] at g
      cases rt with
      | o _ _ => exact g.elim
      | d rd =>
        cases rd with
        | non =>
          cases os with
          | nil => exact g.elim
          | cons t os =>
            intro v fr F' H' ψ a b ow nd z
            have ev : v = .non := by
              have := (Ow.d_iff.mp ow).2
              simpa only [Rep] using this
            refine ⟨ev, ?_⟩
            obtain ⟨φ', r', w⟩ := r.called h n ec (down a) (back b)
            obtain ⟨v0, ev0, ow0, nd0, z0⟩ := b.o.at_ 0 t rfl
            have ev0 : V.ref x = v0 := Option.some.inj ev0
            subst ev0
            refine g (.ref x) F' H' ⟨φ', ψ 0, r', ow0, nd0, fun y hy => ⟨z0 y hy, .inl ?_⟩, fun i y hi hy => ?_⟩ a.f
            · rcases b.w 0 y hy with q | q
              · exact r.fresh (some' y q)
              · have : y = x := by simpa [ψ0] using q
                rw [this]; exact r.fresh hx
            · rcases w i y hi with m | ⟨j, m⟩
              · rcases b.w 0 y hy with q | q
                · exact (r.inn m).1 (some' y q)
                · have : y = x := by simpa [ψ0] using q
                  rw [this] at m
                  exact (r.inn m).1 hx
              · exact absurd (b.o.sep 0 (j + 1) y hy m) (by simp)
        | _ => exact g.elim
theorem jo_mk (tk : Takes X W) (N : CalN X.prog X.w X.K X.mg X.base X.A x C ps (spF X.K f)) (ha : JA X W (e :: es) mr) (hg : Gl X x := by rfl) (hdb : (x == ("__debug__" : Str)) = false := by decide)
    (he : starEach (e :: es) X.env = (false, eval e X.env) :: starEach es X.env := by rfl) (hpl : (backTo pos (starEach es X.env)).any (·.1) = false := by rfl) : JO X W (.Call (.Name x p') (e :: es) [] pos) (mMk C f mr) := by
  obtain ⟨k, fa, fd, G, hr, hm, M, hb⟩ := N
  obtain ⟨t, p, q⟩ := ha.ex
  refine ⟨_, pe_mkS M G hr hg hm hb (fun σ => passAt tk σ) p hdb he hpl, fun Γ δ σ F H Q r g => ?_⟩
  refine q Γ δ σ F H _ r ((Gd.bind.mp g).mono fun u gu vs F1 H1 R1 s1 hv x dx hx hdx hne => ?_)
  obtain ⟨ts, ed, gu⟩ := Gd.obind gu
  exact mk_sp R1 hv ed (gu.mono fun p hp v F' H' r' s' => hp v F' H' r' (s1.trans s')) x dx hx hdx hne
theorem jo_mk0 (tk : Takes X W) (N : CalN X.prog X.w X.K X.mg X.base X.A x C ps (spF X.K f)) (hg : Gl X x := by rfl) (hdb : (x == ("__debug__" : Str)) = false := by decide) : JO X W (.Call (.Name x p') [] [] pos) (mMk C f mNil) := by
  obtain ⟨k, fa, fd, G, hr, hm, M, hb⟩ := N
  refine ⟨_, pe_mk0S M G hr hg hm hb (fun σ => passAt tk σ) hdb, fun Γ δ σ F H Q r g x dx hx hdx hne => ?_⟩
  obtain ⟨ts, ed, gu⟩ := Gd.obind (show Gd X.K Γ W (R.ofO (callIn δ []) >>= fun ts => mkR δ [] (f (.o (.i C []) [] :: ts))) _ from g)
  exact mk_sp (vs := []) (xs := []) r trivial ed gu x dx hx hdx hne
end
end GX
/-! GXD: comprehensions of dicts with tuples as keys. -/
namespace GX
open PySem PySem.Spec PyProof.Rows L2
section
variable {X : Cx}
/-- the store of one pair: a tuple of ints and texts as the key -/
theorem dictSetT {pins : List (Addr × Obj)} {σ : L2.St} {H : Hp} {s : Shared} {E : Value → Shared → Prop} {D b : Addr} {kvs : List (List Key × V)} {k : List Key} {v : V} {u r : Value} {Q : Unit → Shared → Prop} (hu : X.A.units + 64 < cLine) (I : Inv X pins σ H s) (hD : H D = some (.dT kvs)) (hz : kvs.length < sizeLine)
    (eb : H b = some (.tup (k.map kV))) (ry : RelV (.ref b) u) (rv : RelV v r) (h : ∀ s', Inv X pins σ (upd H D (.dT (putK kvs k v))) s' → Q () s') : wpAny (model X.prog X.w) X.A (dictSet D u r) Q E s := by
  cases (show u = Value.ref b from ry)
  obtain ⟨z, hd, xs, rel, dd⟩ := dt_of I.hok hD
  have hzx : xs.length ≤ sizeLine := by rw [← Paired.length rel]; exact z
  have hl : (putK kvs k v).length ≤ sizeLine := by have := length_putK kvs k v; omega
  refine wpAny_dictSet_heap (hsz := hzx) (show X.A.units < cLine by omega) (key_of I.hok eb) dd fun h' dd' hs => h _ ?_
  obtain ⟨q, es, ep, hq, h2, h3, h4, _, h5⟩ := dd'
  refine d_write I (by rw [hD]; exact True.intro) hs ⟨q, hq⟩ ⟨hl, hd, _, (rel.put k eb rv).keeps fun c ys ec => ?_, q, es, ep, hq, h2, h3, h4, h5⟩
  rw [upd_ne (ne_of ec hD (fun z => nomatch z))]
  exact ec
/-- {k: v for target in iter if ..}, keys tuples: D the new dict -/
def tDcT (wi : TI) (g : TG) (tt : TT) (tk tv : TE) (vs : List Nat) : TE := fun σ H Q => wi σ H fun J H1 => ∀ D, H1 D = none → ∃ W : Nat → Nat → Hp → Prop, (∃ m, W 0 m (upd H1 D (.dT []))) ∧ ∀ i m H, W i m H →
  (J.stop i H ∧ Q (.ref D) H) ∨ (J.go i H ∧ ∃ Nx : Hp → Prop, (∀ H', Nx H' → ∃ m', m' < m ∧ W (i + 1) m' H') ∧ ∀ x H', J.yld i H x H' → g x (wipe σ vs) H' fun σ2 H2 => wipe σ2 vs = wipe σ vs ∧ tt σ2 H2 fun b H3 =>
    if b = true then tk σ2 H3 fun y H4 => tv σ2 H4 fun z H5 => ∃ kvs k a, y = .ref a ∧ H5 a = some (.tup (k.map kV)) ∧ H5 D = some (.dT kvs) ∧ kvs.length < sizeLine ∧ Nx (upd H5 D (.dT (putK kvs k z))) else Nx H3)
theorem pe_dcT {kx vx tg iter : Expr} {ifs : List Expr} {scope : Scope} {own : List (Str × Nat)} {pos : Pos} {wi : TI} {g : TG} {tt : TT} {tk tv : TE} (hu : X.A.units + 64 < cLine) (hc : X.calm = true) (hN : X.N.Nodup) (hi : PI X tg iter wi) (ok : BlkOk X.N X.env.scope scope own)
    (hg : ∀ (s : Shared) (H : Hp) (C : Addr) (cl : List (Str × Addr)) (fp : List Addr), PG (X.blk s H scope (compEnvC scope cl C X.env) fp) tg g) (ht : ∀ (s : Shared) (H : Hp) (C : Addr) (cl : List (Str × Addr)) (fp : List Addr), PTs (X.blk s H scope (compEnvC scope cl C X.env) fp) ifs tt)
    (hk : ∀ (s : Shared) (H : Hp) (C : Addr) (cl : List (Str × Addr)) (fp : List Addr), PE (X.blk s H scope (compEnvC scope cl C X.env) fp) kx tk)
    (he : ∀ (s : Shared) (H : Hp) (C : Addr) (cl : List (Str × Addr)) (fp : List Addr), PE (X.blk s H scope (compEnvC scope cl C X.env) fp) vx tv) (hs : ∀ x, foldedSetIterable iter X.env x = pure x := by intro _; rfl) :
    PE X (.DictComp kx vx [⟨tg, iter, ifs, 0⟩] scope pos) (tDcT wi g tt tk tv (own.map (·.2))) := by
  refine ⟨fun pins s σ H Q I h => ?_⟩
  rw [arm_eval_DictComp]
  have hfree : ∀ y ∈ scope.names, y.2 = .free → ∃ c, X.env.cells.lookup y.1 = some c := fun y hy e => by
    rcases ok.free y hy e with k | k
    · exact I.ok.has _ (.inl k)
    · exact I.ok.has _ (.inr k)
  refine wpAny_comprehension_free (use := none) rfl hs (closure_ok hfree) ok.kind (fun y hy e => by rw [ok.uniq y hy, e])
    (thn (hi.run pins s σ H _ I h) fun xv s1 hx => thn hx fun itv s2 h2 => ?_)
  obtain ⟨it, fp, tn, J, H2, e, I2, T, st2, f2, q⟩ := h2
  subst e
  refine wpAny_newObj_type (newEnv_comp ?_)
  have hDn : H2 s2.heap.objs.size = none := I2.hok.fresh (Nat.le_refl _)
  obtain ⟨W, ⟨m0, w0⟩, turn⟩ := q s2.heap.objs.size hDn
  generalize hD : s2.heap.objs.size = D at hDn w0 turn ⊢
  generalize hs3 : ({ s2 with heap := s2.heap.push { cls := .type "dict", data := .dict #[] } } : Shared) = s3
  have I3 : Inv X pins σ (upd H2 D (.dT [])) s3 := by
    rw [← hs3, ← hD]
    exact I2.laid (t' := s2.toks) (fun b o e => Heap.get?_push_of_some _ e) (Nat.le_refl _) (dt_empty s2.heap I2.big)
  have h3 : s3.heap = s2.heap.push { cls := .type "dict", data := .dict #[] } := by rw [← hs3]
  have f3 : ∀ b ∈ fp, FpOk X pins (upd H2 D (.dT [])) b ∧ b < s3.heap.objs.size := fun b hb => by
    obtain ⟨o, e, _⟩ := T.obj _ _ st2 b hb
    have hlt := Heap.lt_size e
    refine ⟨⟨?_, (f2 b hb).2⟩, by rw [h3, Heap.size_push]; exact Nat.lt_succ_of_lt hlt⟩
    rw [upd_ne (by rw [← hD]; exact Nat.ne_of_lt hlt)]
    exact (f2 b hb).1
  have st3 : tn 0 s3.heap := T.keep _ _ _ st2 fun b _ o e => by rw [h3]; exact Heap.get?_push_of_some _ e
  have I4 := block_start I3 ok hN f3
  have pg := hg s3 (upd H2 D (.dT [])) s3.heap.objs.size (cellsFrom (s3.heap.objs.size + 1) scope.names (cloFrom X.env.cells scope.names [])) fp
  have pt := ht s3 (upd H2 D (.dT [])) s3.heap.objs.size (cellsFrom (s3.heap.objs.size + 1) scope.names (cloFrom X.env.cells scope.names [])) fp
  have pk := hk s3 (upd H2 D (.dT [])) s3.heap.objs.size (cellsFrom (s3.heap.objs.size + 1) scope.names (cloFrom X.env.cells scope.names [])) fp
  have pe := he s3 (upd H2 D (.dT [])) s3.heap.objs.size (cellsFrom (s3.heap.objs.size + 1) scope.names (cloFrom X.env.cells scope.names [])) fp
  show codeAny _ _ (.compStart (.DictComp kx vx [⟨tg, iter, ifs, 0⟩] scope pos) 0 (.ref it) (.ref D) (compEnvC scope (cellsFrom (s3.heap.objs.size + 1) scope.names (cloFrom X.env.cells scope.names [])) s3.heap.objs.size X.env)) (compPost (model X.prog X.w) X.A X.xe none (EP X pins σ Q) (.ref D) s3.heap.objs.size) { s3 with heap := pushCells (s3.heap.push { cls := .type "dict", data := .dict #[] }) scope.names }
  have nfp : ∀ b ∈ fp, (upd H2 D (.dT [])) b = none := fun b hb => (f3 b hb).1.1
  generalize hce : compEnvC scope (cellsFrom (s3.heap.objs.size + 1) scope.names (cloFrom X.env.cells scope.names [])) s3.heap.objs.size X.env = ce at I4 pg pt pk pe ⊢
  have cL : ce.locals = s3.heap.objs.size := by subst hce; rfl
  generalize hH3 : upd H2 D (.dT []) = H3 at I3 I4 pg pt pk pe w0 nfp f3
  generalize hs4 : ({ s3 with heap := pushCells (s3.heap.push { cls := .type "dict", data := .dict #[] }) scope.names } : Shared) = s4 at I4 ⊢
  have st4 : tn 0 s4.heap := T.keep _ _ _ st3 fun b _ o e => by rw [← hs4]; exact pushCells_keeps _ _ _ _ (Heap.get?_push_of_some _ e)
  have stat : ∀ {σ' : L2.St} {H' : Hp} {s' : Shared}, Inv (X.blk s3 H3 scope ce fp) [] σ' H' s' → (∀ b ∈ fp, H' b = none) → ∀ b ∈ fp, FpOk (X.blk s3 H3 scope ce fp) [] H' b := fun {σ' H' s'} I' hn b hb =>
    ⟨hn b hb, (I'.ok.exf b hb).1, I'.ok.exfs b hb, .inl hb, fun x c e => (I'.ok.exf b hb).2 x c e, fun p hp => absurd (show p ∈ ([] : List (Addr × Obj)) ++ [] from hp) (by simp)⟩
  have loop : codeAny (model X.prog X.w) X.A (.compLoop (.DictComp kx vx [⟨tg, iter, ifs, 0⟩] scope pos) 0 (.ref it) (.ref D) ce) (compPost (model X.prog X.w) X.A X.xe none (EP X pins σ Q) (.ref D) s3.heap.objs.size) s4 := by
    refine compLoop_anyD (fun n s' => ∃ i H', Inv (X.blk s3 H3 scope ce fp) [] (wipe σ (own.map (·.2))) H' s' ∧ tn i s'.heap ∧ (∀ b ∈ fp, H' b = none) ∧ W i n H') ?_ m0 ⟨0, H3, I4, st4, nfp, w0⟩
    rintro n s5 ⟨i, H5, I5, st5, n5, w5⟩
    rcases turn i n H5 w5 with ⟨stop, qq⟩ | ⟨go, Nx, hNx, step⟩
    · refine thnF (T.done (X.blk s3 H3 scope ce fp) rfl rfl rfl hc i [] s5 _ H5 (fun _ _ => False) I5 (stat I5 n5) st5 stop) fun r s6 ⟨hr, I6⟩ => ?_
      subst hr
      have I7 : Inv X pins σ H5 s6 := I3.call' (ch := fp) I6.os I6.base I6.hok I6.bare fun b hb => ⟨(f3 b hb).1.2.2.2.1, (f3 b hb).1.2.1, (f3 b hb).1.2.2.2.2.1, (f3 b hb).1.2.2.2.2.2⟩
      have nC : H5 s3.heap.objs.size = none := by
        have z : H5 ce.locals = none := I6.free
        rw [cL] at z
        exact z
      obtain ⟨m, hn, _⟩ := I6.loc
      have hn : s6.heap.Ns ce.locals m := hn
      rw [cL] at hn
      refine ⟨m, hn, fun h'' sb => ?_⟩
      obtain ⟨f0, f1, f2, f3, f4, f5⟩ := I3.fpOk (Nat.le_refl _) nC
      exact ⟨.ref D, H5, I7.turned (t' := s6.toks) (fun b o hb e => (sb.2 b hb).trans e) f0 f1 f3 f4 f5, rfl, qq⟩
    · refine thnF (T.item (X.blk s3 H3 scope ce fp) rfl rfl rfl hc i [] s5 _ H5 (fun _ _ => False) I5 (stat I5 n5) st5 go) fun r s6 ⟨u, hr, h6⟩ => ?_
      subst hr
      refine thnF h6 fun _ s7 ⟨x, H7, I7, r7, y7, st7, n7⟩ => ?_
      have I7' := I7.pinned (stat I7 n7) (T.obj _ _ st7)
      refine thnF (pg.run _ s7 _ H7 x u _ I7' r7 (step x H7 y7)) fun _ s8 ⟨σ8, H8, I8, hw8, q8⟩ => ?_
      refine thnF (pt.run _ s8 σ8 H8 _ I8 q8) fun b s9 ⟨H9, I9, q9⟩ => ?_
      have fin : ∀ {s' : Shared} {H' : Hp}, Inv (X.blk s3 H3 scope ce fp) ([] ++ pinsAt fp s7.heap) σ8 H' s' → Nx H' → ∃ m, m < n ∧ ∃ i H', Inv (X.blk s3 H3 scope ce fp) [] (wipe σ (own.map (·.2))) H' s' ∧ tn i s'.heap ∧ (∀ b ∈ fp, H' b = none) ∧ W i m H' := fun {s' H'} I' nx => by
        obtain ⟨m', hm, w'⟩ := hNx H' nx
        have pin' : ∀ b ∈ fp, ∀ o, s7.heap.get? b = some o → s'.heap.get? b = some o ∧ H' b = none := fun b hb o e =>
          let z := I'.pin (b, o) (List.mem_append_right _ (List.mem_append_right _ (mem_pinsAt hb e)))
          ⟨z.1, z.2.1⟩
        refine ⟨m', hm, i + 1, H', (I'.unpinned (pins := [])).weak (by rw [← hw8, wipe_length]) (fun j v e => ?_), T.keep _ _ _ st7 fun b hb o e => (pin' b hb o e).1, fun b hb => ?_, w'⟩
        · rw [← hw8] at e
          exact (wipe_some e).1
        · obtain ⟨o, e, _⟩ := T.obj _ _ st7 b hb
          exact (pin' b hb o e).2
      cases b with
      | false =>
        simp only [Bool.false_eq_true, if_false] at q9 ⊢
        exact fin I9 q9
      | true =>
        simp only [if_true] at q9 ⊢
        refine thnF (pk.run _ s9 σ8 H9 _ I9 q9) fun z s10 ⟨yk, H10, I10, r10, q10⟩ => ?_
        refine thnF (pe.run _ s10 σ8 H10 _ I10 q10) fun z2 s11 ⟨yv, H11, I11, r11, kvs, k, ka, ek, eka, hD11, hz11, nx⟩ => ?_
        subst ek
        exact dictSetT (X := X.blk s3 H3 scope ce fp) hu I11 hD11 hz11 eka r10 r11 fun s12 I12 => fin I12 nx
  exact codeAny_compStart_dict loop (T.self X.A 0 _ _ _ st4 loop)
end
/-! ### the mirror of a dict comprehension -/
/-- one more pair -/
def putKD (ks : List Key) (ts : List Tr) (k : Key) (t : Tr) : Option (List Key × List Tr) := match kAt k ks with
  | none => some (ks ++ [k], ts ++ [t])
  | some _ => none
def putTD (ks : List (List Key)) (ts : List Tr) (k : List Key) (t : Tr) : Option (List (List Key) × List Tr) := match kAt k ks with
  | none => some (ks ++ [k], ts ++ [t])
  | some _ => none
def keysD : D → Option (List Key)
  | .tup ds => ds.mapM keyD
  | _ => none
def dcD (vs : List Nat) (g : MG) (t : MT) (mk mv : ME) : List D → List Key → List Tr → List Sl → R (Tr × List Sl)
  | [], ks, ts, δ => .ok (.o (.k ks) ts, δ)
  | d :: ds, ks, ts, δ => (g d δ).ne >>= fun δ1 => (t δ1).ne >>= fun p => if p.1 = true then (mk p.2).ne >>= fun q => (mv q.2).ne >>= fun r => (match q.1, r.1 with
      | .im k, .im v => R.ofO (keyD k) >>= fun k => if ks.length < sizeLine then R.ofO (putKD ks ts k (.d v)) >>= fun n => dcD vs g t mk mv ds n.1 n.2 (wipeS r.2 vs) else .bad
      | _, _ => .bad)
    else dcD vs g t mk mv ds ks ts (wipeS p.2 vs)
def mDc (vs : List Nat) (mi : MI) (g : MG) (t : MT) (mk mv : ME) : MO := fun δ => mi δ >>= fun p => dcD vs g t mk mv p.1 [] [] (wipeS p.2 vs)
def dcTD (vs : List Nat) (g : MG) (t : MT) (mk mv : ME) : List D → List (List Key) → List Tr → List Sl → R (Tr × List Sl)
  | [], ks, ts, δ => .ok (.o (.t ks) ts, δ)
  | d :: ds, ks, ts, δ => (g d δ).ne >>= fun δ1 => (t δ1).ne >>= fun p => if p.1 = true then (mk p.2).ne >>= fun q => (mv q.2).ne >>= fun r => (match q.1, r.1 with
      | .im k, .im v => R.ofO (keysD k) >>= fun k => if ks.length < sizeLine then R.ofO (putTD ks ts k (.d v)) >>= fun n => dcTD vs g t mk mv ds n.1 n.2 (wipeS r.2 vs) else .bad
      | _, _ => .bad)
    else dcTD vs g t mk mv ds ks ts (wipeS p.2 vs)
def mDcT (vs : List Nat) (mi : MI) (g : MG) (t : MT) (mk mv : ME) : MO := fun δ => mi δ >>= fun p => dcTD vs g t mk mv p.1 [] [] (wipeS p.2 vs)
section
variable {X : Cx} {W : WX} {K : PySem.W.Frag} {Γ : Fm} {F H : Hp} {σ : L2.St} {δ : List Sl}
/-- the accumulated thing gets one more part, which is data -/
theorem acc_into {Dl : Addr} {sh : Sh} {ts : List Tr} {d : D} {v : V} {fp : List Addr} {φ : Nat → List Addr} (r : RlP K Γ F H σ δ φ) (o : Ow K F H (.o sh ts) (.ref Dl) fp) (nd : fp.Nodup) (fr : ∀ a ∈ fp, F a = none ∧ (Γ.H0 a = none ∨ Γ.M a)) (sep : ∀ i a, a ∈ φ i → a ∉ fp) (hv : Rep K F d v) :
    ∃ h us, H Dl = some h ∧ sh.ho us h ∧ us.length = ts.length ∧ ∀ sh' h', Sh.ho sh' (us ++ [v]) h' → OwN K Γ F (upd H Dl h') σ δ (.ref Dl) (.o sh' (ts ++ [.d d])) := by
  obtain ⟨p, h, us, fq, e0, rfl, hp, ho, rs⟩ := Ow.o_iff.mp o
  cases e0
  obtain ⟨n1, n2⟩ := List.nodup_cons.mp nd
  refine ⟨h, us, hp, ho, rs.length.symm, fun sh' h' ho' => ?_⟩
  have k : ∀ a, a ≠ Dl → upd H Dl h' a = H a := fun a h => upd_ne h
  have o1 := Ows.cons (Ow.im (H := H) hv) (Ows.nil (K := K) (F := F) (H := H))
  rw [List.append_nil] at o1
  have os := rs.append o1
  rw [List.append_nil] at os
  have nD : ∀ a, Γ.H0 a ≠ none → ¬ Γ.M a → a ≠ Dl := fun a h0 hm z => by
    subst z
    rcases (fr a List.mem_cons_self).2 with q | q
    · exact h0 q
    · exact hm q
  refine ⟨φ, Dl :: fq, ⟨fun a u e => ?_, r.grow, fun a h0 hio hm => (k a (nD a h0 hm)).trans (r.old a h0 hio hm), fun a h => ?_, r.fz, fun i a h => ?_, r.len, fun i s e => ?_, r.nil, r.sep⟩, Ow.o_iff.mpr ⟨Dl, _, us ++ [v], fq, rfl, rfl, upd_same, ho', os.mono (Same.refl _) fun a ha => k a fun z => n1 (by rw [← z]; exact ha)⟩, nd, fr, sep⟩
  · rw [k a (fun z => by rw [z, (fr Dl List.mem_cons_self).1] at e; cases e)]; exact r.sub a u e
  · by_cases z : a = Dl
    · rw [z, upd_same]; simp
    · rw [k a z]; exact r.mH a h
  · by_cases z : a = Dl
    · rw [z, upd_same]; simp
    · rw [k a z]; exact r.ioH i a h
  · obtain ⟨ov, e1, e2⟩ := r.sl i s e
    exact ⟨ov, e1, e2.keep (Same.refl _) fun a ha => ⟨k a fun z => sep i a ha (by rw [z]; exact List.mem_cons_self), rfl⟩⟩
theorem keys_v : ∀ {ds : List D} {vs : List V} {ks : List Key}, Reps K F ds vs → ds.mapM keyD = some ks → vs = ks.map kV
  | [], vs, ks, h, e => by
    have e : some [] = some ks := e
    cases e
    exact Reps.nil_iff.mp h
  | d :: ds, vs, ks, h, e => by
    obtain ⟨v, r, rfl, h1, h2⟩ := Reps.cons_iff.mp h
    rw [List.mapM_cons] at e
    obtain ⟨k, ek, e⟩ := obind (show (keyD d).bind _ = _ from e)
    obtain ⟨ks', eks, e⟩ := obind (show (ds.mapM keyD).bind _ = _ from e)
    have e : some (k :: ks') = some ks := e
    cases e
    rw [keys_v h2 eks, keyD_v (H := F) (.inl h1) ek]
    rfl
theorem evDcT {vs tv : List Nat} {wi : TI} {g : TG} {tt : TT} {tk te : TE} {mi : MI} {mg : MG} {mt : MT} {mk me : ME} (hi : EvI K Γ W wi mi) (hg : ∀ Γ, EvG K Γ WF g mg tv) (ht : ∀ Γ, EvT K Γ WF tt mt) (hk : ∀ Γ, EvE K Γ WF tk mk) (he : ∀ Γ, EvE K Γ WF te me)
    (hv : ∀ j ∈ tv, j ∈ vs) : EvO K Γ W (tDcT wi g tt tk te vs) (mDcT vs mi mg mt mk me) := fun δ σ F H Q r gd => by
  refine hi δ σ F H _ r ((Gd.bind.mp gd).mono fun u gu J F1 H1 R1 sF wk => ?_)
  obtain ⟨ds, δ1⟩ := u
  intro Dl hD
  have Rw : Rl K Γ F1 H1 (wipe σ vs) (wipeS δ1 vs) := R1.wiped wipe_wipe
  have o2 : OwN K Γ F1 (upd H1 Dl (.dT [])) (wipe σ vs) (wipeS δ1 vs) (.ref Dl) (.o (.t []) []) := (Rw.ims (ds := []) Reps.nil).mk' (sh := .t []) hD ⟨rfl, rfl⟩
  refine ⟨fun i m H => m = ds.length - i ∧ ∃ δ F2 ks ts, OwN K Γ F2 H (wipe σ vs) δ (.ref Dl) (.o (.t ks) ts) ∧ Same F1 F2 ∧ Gd K Γ W (dcTD vs mg mt mk me (ds.drop i) ks ts δ) (fun r => ∀ v F' H', OwN K Γ F' H' σ r.2 v r.1 → Same F F' → Q v H') ∧ ∀ s ∈ vs, ∀ t, δ[s]? = some t → t = .un,
    ⟨_, rfl, _, F1, [], [], o2, Same.refl _, gu, wipeS_is⟩, ?_⟩
  rintro i m H2 ⟨rfl, δ2, F2, ks, ts, o2, s2, g2, hun⟩
  by_cases h : i < ds.length
  · right
    refine ⟨wk.go i F2 H2 s2 o2.rl.sub h, fun H' => ∃ δ F2 ks ts, OwN K Γ F2 H' (wipe σ vs) δ (.ref Dl) (.o (.t ks) ts) ∧ Same F1 F2 ∧ Gd K Γ W (dcTD vs mg mt mk me (ds.drop (i + 1)) ks ts δ) (fun r => ∀ v F' H', OwN K Γ F' H' σ r.2 v r.1 → Same F F' → Q v H') ∧ ∀ s ∈ vs, ∀ t, δ[s]? = some t → t = .un,
      fun H' h' => ⟨ds.length - (i + 1), by omega, rfl, h'⟩, fun x H' hy => ?_⟩
    have hd : ds[i]? = some ds[i] := List.getElem?_eq_getElem h
    obtain ⟨F3, g3, rx⟩ := wk.yl i ds[i] F2 H2 x H' s2 o2.rl.sub hd hy
    rw [List.drop_eq_getElem_cons h] at g2
    obtain ⟨φ, fp, R3, b1, b2, b3, b4⟩ := (o2.gr g3).ex
    have Ri := R3.enter
    unfold dcTD at g2
    refine hg _ x ds[i] δ2 (wipe σ vs) F3 H' _ ⟨φ, Ri⟩ rx (Gd.mono (Gd.ne g2) fun δ3 gd3 σ3 R4 k4 => ?_)
    have hw : wipe σ3 vs = wipe σ vs := by
      rw [← wipe_wipe (σ := σ)]
      exact wipe_same k4.1 k4.2 hv
    refine ⟨hw, ht _ δ3 σ3 F3 H' _ R4 (Gd.mono (Gd.ne gd3) fun u gu F4 H4 R5 s4 => ?_)⟩
    obtain ⟨k, δ4⟩ := u
    cases k with
    | false =>
      obtain ⟨φ5, R5⟩ := R5
      obtain ⟨R8, kp, sp⟩ := turn_end R3 (fun a ha => b1.there a ha) b4 R5 hw wipe_wipe
      exact ⟨_, F4, ks, ts, ⟨_, fp, R8, b1.mono s4 (fun a ha => (kp a ha).1), b2, fun a ha => ⟨(kp a ha).2.trans (b3 a ha).1, (b3 a ha).2⟩, fun i a hi => sp i a (wipeφ_in hi)⟩, s2.trans (g3.f.trans s4), gu, wipeS_is⟩
    | true =>
      refine hk _ δ4 σ3 F4 H4 _ R5 (Gd.mono (Gd.ne gu) fun w gw y F5 H5 R6 s5 hy5 => ?_)
      refine he _ w.2 σ3 F5 H5 _ R6 (Gd.mono (Gd.ne gw) fun w2 gw2 z F6 H6 R7 s6 hz6 => ?_)
      obtain ⟨wy, δ5⟩ := w
      obtain ⟨wz, δ6⟩ := w2
      cases wy with
      | sl j => exact gw2.elim
      | im dk =>
        cases wz with
        | sl j => exact gw2.elim
        | im dv =>
          obtain ⟨kk, ekk, gw2⟩ := Gd.obind gw2
          split at gw2
          · rename_i hl
            obtain ⟨nn, en, gw2⟩ := Gd.obind gw2
            obtain ⟨φ7, R7⟩ := R7
            obtain ⟨R8, kp, sp⟩ := turn_end R3 (fun a ha => b1.there a ha) b4 R7 hw wipe_wipe
            have ss : Same F3 F6 := s4.trans (s5.trans s6)
            obtain ⟨h0, us, hp, ho, lu, mk'⟩ := acc_into R8 (b1.mono ss (fun a ha => (kp a ha).1)) b2 (fun a ha => ⟨(kp a ha).2.trans (b3 a ha).1, (b3 a ha).2⟩) (fun i a hi => sp i a (wipeφ_in hi)) (show Rep K F6 dv z from hz6)
            obtain ⟨rfl, hlk⟩ := ho
            have hy6 : Rep K F6 dk y := Rep.mono s6 hy5
            cases dk with
            | tup dks =>
              obtain ⟨p, vks, rfl, hpk, hrk⟩ := Rep.tup_iff.mp hy6
              have ev := keys_v hrk ekk
              subst ev
              refine ⟨_, kk, p, rfl, R8.sub _ _ hpk, hp, by rw [List.length_zip]; omega, ?_⟩
              unfold putTD at en
              cases q : kAt kk ks with
              | some j => rw [q] at en; cases en
              | none =>
                rw [q] at en
                cases en
                rw [putK_new (kAt_not q) hlk]
                exact ⟨_, F6, _, _, mk' (.t (ks ++ [kk])) _ ⟨rfl, by simp [hlk]⟩, s2.trans (g3.f.trans ss), gw2, wipeS_is⟩
            | _ => cases ekk
          · exact gw2.elim
  · left
    have e : ds.drop i = [] := List.drop_eq_nil_of_le (Nat.le_of_not_lt h)
    rw [e] at g2
    have o9 : OwN K Γ F2 H2 σ δ2 (.ref Dl) (.o (.t ks) ts) := by
      have := o2.wiped (σ' := σ) (vs := vs) (by rw [wipe_wipe])
      rwa [wipeS_un hun] at this
    exact ⟨wk.st i F2 H2 s2 o2.rl.sub (Nat.le_of_not_lt h), g2 _ F2 H2 o9 (sF.trans s2)⟩
theorem evDc {vs tv : List Nat} {wi : TI} {g : TG} {tt : TT} {tk te : TE} {mi : MI} {mg : MG} {mt : MT} {mk me : ME} (hi : EvI K Γ W wi mi) (hg : ∀ Γ, EvG K Γ WF g mg tv) (ht : ∀ Γ, EvT K Γ WF tt mt) (hk : ∀ Γ, EvE K Γ WF tk mk) (he : ∀ Γ, EvE K Γ WF te me)
    (hv : ∀ j ∈ tv, j ∈ vs) : EvO K Γ W (tDc wi g tt tk te vs) (mDc vs mi mg mt mk me) := fun δ σ F H Q r gd => by
  refine hi δ σ F H _ r ((Gd.bind.mp gd).mono fun u gu J F1 H1 R1 sF wk => ?_)
  obtain ⟨ds, δ1⟩ := u
  intro Dl hD
  have Rw : Rl K Γ F1 H1 (wipe σ vs) (wipeS δ1 vs) := R1.wiped wipe_wipe
  have o2 : OwN K Γ F1 (upd H1 Dl (.dK [])) (wipe σ vs) (wipeS δ1 vs) (.ref Dl) (.o (.k []) []) := (Rw.ims (ds := []) Reps.nil).mk' (sh := .k []) hD ⟨rfl, rfl⟩
  refine ⟨fun i m H => m = ds.length - i ∧ ∃ δ F2 ks ts, OwN K Γ F2 H (wipe σ vs) δ (.ref Dl) (.o (.k ks) ts) ∧ Same F1 F2 ∧ Gd K Γ W (dcD vs mg mt mk me (ds.drop i) ks ts δ) (fun r => ∀ v F' H', OwN K Γ F' H' σ r.2 v r.1 → Same F F' → Q v H') ∧ ∀ s ∈ vs, ∀ t, δ[s]? = some t → t = .un,
    ⟨_, rfl, _, F1, [], [], o2, Same.refl _, gu, wipeS_is⟩, ?_⟩
  rintro i m H2 ⟨rfl, δ2, F2, ks, ts, o2, s2, g2, hun⟩
  by_cases h : i < ds.length
  · right
    refine ⟨wk.go i F2 H2 s2 o2.rl.sub h, fun H' => ∃ δ F2 ks ts, OwN K Γ F2 H' (wipe σ vs) δ (.ref Dl) (.o (.k ks) ts) ∧ Same F1 F2 ∧ Gd K Γ W (dcD vs mg mt mk me (ds.drop (i + 1)) ks ts δ) (fun r => ∀ v F' H', OwN K Γ F' H' σ r.2 v r.1 → Same F F' → Q v H') ∧ ∀ s ∈ vs, ∀ t, δ[s]? = some t → t = .un,
      fun H' h' => ⟨ds.length - (i + 1), by omega, rfl, h'⟩, fun x H' hy => ?_⟩
    have hd : ds[i]? = some ds[i] := List.getElem?_eq_getElem h
    obtain ⟨F3, g3, rx⟩ := wk.yl i ds[i] F2 H2 x H' s2 o2.rl.sub hd hy
    rw [List.drop_eq_getElem_cons h] at g2
    obtain ⟨φ, fp, R3, b1, b2, b3, b4⟩ := (o2.gr g3).ex
    have Ri := R3.enter
    unfold dcD at g2
    refine hg _ x ds[i] δ2 (wipe σ vs) F3 H' _ ⟨φ, Ri⟩ rx (Gd.mono (Gd.ne g2) fun δ3 gd3 σ3 R4 k4 => ?_)
    have hw : wipe σ3 vs = wipe σ vs := by
      rw [← wipe_wipe (σ := σ)]
      exact wipe_same k4.1 k4.2 hv
    refine ⟨hw, ht _ δ3 σ3 F3 H' _ R4 (Gd.mono (Gd.ne gd3) fun u gu F4 H4 R5 s4 => ?_)⟩
    obtain ⟨k, δ4⟩ := u
    cases k with
    | false =>
      obtain ⟨φ5, R5⟩ := R5
      obtain ⟨R8, kp, sp⟩ := turn_end R3 (fun a ha => b1.there a ha) b4 R5 hw wipe_wipe
      exact ⟨_, F4, ks, ts, ⟨_, fp, R8, b1.mono s4 (fun a ha => (kp a ha).1), b2, fun a ha => ⟨(kp a ha).2.trans (b3 a ha).1, (b3 a ha).2⟩, fun i a hi => sp i a (wipeφ_in hi)⟩, s2.trans (g3.f.trans s4), gu, wipeS_is⟩
    | true =>
      refine hk _ δ4 σ3 F4 H4 _ R5 (Gd.mono (Gd.ne gu) fun w gw y F5 H5 R6 s5 hy5 => ?_)
      refine he _ w.2 σ3 F5 H5 _ R6 (Gd.mono (Gd.ne gw) fun w2 gw2 z F6 H6 R7 s6 hz6 => ?_)
      obtain ⟨wy, δ5⟩ := w
      obtain ⟨wz, δ6⟩ := w2
      cases wy with
      | sl j => exact gw2.elim
      | im dk =>
        cases wz with
        | sl j => exact gw2.elim
        | im dv =>
          obtain ⟨kk, ekk, gw2⟩ := Gd.obind gw2
          split at gw2
          · rename_i hl
            obtain ⟨nn, en, gw2⟩ := Gd.obind gw2
            obtain ⟨φ7, R7⟩ := R7
            obtain ⟨R8, kp, sp⟩ := turn_end R3 (fun a ha => b1.there a ha) b4 R7 hw wipe_wipe
            have ss : Same F3 F6 := s4.trans (s5.trans s6)
            obtain ⟨h0, us, hp, ho, lu, mk'⟩ := acc_into R8 (b1.mono ss (fun a ha => (kp a ha).1)) b2 (fun a ha => ⟨(kp a ha).2.trans (b3 a ha).1, (b3 a ha).2⟩) (fun i a hi => sp i a (wipeφ_in hi)) (show Rep K F6 dv z from hz6)
            obtain ⟨rfl, hlk⟩ := ho
            have hy6 : Rep K F6 dk y := Rep.mono s6 hy5
            refine ⟨_, kk, keyD_v (H := F6) (.inl hy6) ekk, hp, by rw [List.length_zip]; omega, ?_⟩
            unfold putKD at en
            cases q : kAt kk ks with
            | some j => rw [q] at en; cases en
            | none =>
              rw [q] at en
              cases en
              rw [putK_new (kAt_not q) hlk]
              exact ⟨_, F6, _, _, mk' (.k (ks ++ [kk])) _ ⟨rfl, by simp [hlk]⟩, s2.trans (g3.f.trans ss), gw2, wipeS_is⟩
          · exact gw2.elim
  · left
    have e : ds.drop i = [] := List.drop_eq_nil_of_le (Nat.le_of_not_lt h)
    rw [e] at g2
    have o9 : OwN K Γ F2 H2 σ δ2 (.ref Dl) (.o (.k ks) ts) := by
      have := o2.wiped (σ' := σ) (vs := vs) (by rw [wipe_wipe])
      rwa [wipeS_un hun] at this
    exact ⟨wk.st i F2 H2 s2 o2.rl.sub (Nat.le_of_not_lt h), g2 _ F2 H2 o9 (sF.trans s2)⟩
variable {kx vx tg iter : Expr} {ifs : List Expr} {scope : Scope} {own : List (Str × Nat)} {pos : Pos} {tv : List Nat} {mi : MI} {mg : MG} {mt : MT} {mk me : ME}
theorem jo_dc (hc : X.calm = true) (hN : X.N.Nodup) (hi : JI X W tg iter mi) (ok : BlkOk X.N X.env.scope scope own)
    (hg : ∀ (s : Shared) (H : Hp) (C : Addr) (cl : List (Str × Addr)) (fp : List Addr), JG (X.blk s H scope (compEnvC scope cl C X.env) fp) WF tg mg tv) (ht : ∀ (s : Shared) (H : Hp) (C : Addr) (cl : List (Str × Addr)) (fp : List Addr), JTs (X.blk s H scope (compEnvC scope cl C X.env) fp) WF ifs mt)
    (hk : ∀ (s : Shared) (H : Hp) (C : Addr) (cl : List (Str × Addr)) (fp : List Addr), JE (X.blk s H scope (compEnvC scope cl C X.env) fp) WF kx mk)
    (he : ∀ (s : Shared) (H : Hp) (C : Addr) (cl : List (Str × Addr)) (fp : List Addr), JE (X.blk s H scope (compEnvC scope cl C X.env) fp) WF vx me) (hv : ∀ j ∈ tv, j ∈ own.map (·.2) := by decide) (hs : ∀ x, foldedSetIterable iter X.env x = pure x := by intro _; rfl) :
    JO X W (.DictComp kx vx [⟨tg, iter, ifs, 0⟩] scope pos) (mDc (own.map (·.2)) mi mg mt mk me) := by
  obtain ⟨t, p, q⟩ := hi.ex
  exact ⟨_, pe_dc hc hN p ok (fun s H C cl fp => (hg s H C cl fp).rd) (fun s H C cl fp => (ht s H C cl fp).rd) (fun s H C cl fp => (hk s H C cl fp).rd) (fun s H C cl fp => (he s H C cl fp).rd) hs, fun Γ => evDc (q Γ) (fun Γ => evRdG) (fun Γ => evRdT) (fun Γ => evRdE) (fun Γ => evRdE) hv⟩
theorem jo_dcT (hu : X.A.units + 64 < cLine) (hc : X.calm = true) (hN : X.N.Nodup) (hi : JI X W tg iter mi) (ok : BlkOk X.N X.env.scope scope own)
    (hg : ∀ (s : Shared) (H : Hp) (C : Addr) (cl : List (Str × Addr)) (fp : List Addr), JG (X.blk s H scope (compEnvC scope cl C X.env) fp) WF tg mg tv) (ht : ∀ (s : Shared) (H : Hp) (C : Addr) (cl : List (Str × Addr)) (fp : List Addr), JTs (X.blk s H scope (compEnvC scope cl C X.env) fp) WF ifs mt)
    (hk : ∀ (s : Shared) (H : Hp) (C : Addr) (cl : List (Str × Addr)) (fp : List Addr), JE (X.blk s H scope (compEnvC scope cl C X.env) fp) WF kx mk)
    (he : ∀ (s : Shared) (H : Hp) (C : Addr) (cl : List (Str × Addr)) (fp : List Addr), JE (X.blk s H scope (compEnvC scope cl C X.env) fp) WF vx me) (hv : ∀ j ∈ tv, j ∈ own.map (·.2) := by decide) (hs : ∀ x, foldedSetIterable iter X.env x = pure x := by intro _; rfl) :
    JO X W (.DictComp kx vx [⟨tg, iter, ifs, 0⟩] scope pos) (mDcT (own.map (·.2)) mi mg mt mk me) := by
  obtain ⟨t, p, q⟩ := hi.ex
  exact ⟨_, pe_dcT hu hc hN p ok (fun s H C cl fp => (hg s H C cl fp).rd) (fun s H C cl fp => (ht s H C cl fp).rd) (fun s H C cl fp => (hk s H C cl fp).rd) (fun s H C cl fp => (he s H C cl fp).rd) hs, fun Γ => evDcT (q Γ) (fun Γ => evRdG) (fun Γ => evRdT) (fun Γ => evRdE) (fun Γ => evRdE) hv⟩
end
end GX
/-! GXL: comprehensions with two clauses. -/
namespace GX
open PySem PySem.Spec PyProof.Rows L2
def lc2In (vs1 : List Nat) (g : MG) (t : MT) (m : MO) : List D → List Tr → List Sl → R (List Tr × List Sl)
  | [], acc, δ => .ok (acc, δ)
  | d :: ds, acc, δ => (g d δ).ne >>= fun δ1 => (t δ1).ne >>= fun p => if p.1 = true then (m p.2).ne >>= fun q => if acc.length < sizeLine then lc2In vs1 g t m ds (acc ++ [q.1]) (wipeS q.2 vs1) else .bad
    else lc2In vs1 g t m ds acc (wipeS p.2 vs1)
def lc2D (vs vs1 : List Nat) (g : MG) (t : MT) (mi1 : MI) (g1 : MG) (t1 : MT) (m : MO) : List D → List Tr → List Sl → R (Tr × List Sl)
  | [], acc, δ => .ok (.o .l acc, δ)
  | d :: ds, acc, δ => (g d δ).ne >>= fun δ1 => (t δ1).ne >>= fun p => if p.1 = true then (mi1 p.2).ne >>= fun q => lc2In vs1 g1 t1 m q.1 acc (wipeS q.2 vs1) >>= fun r => lc2D vs vs1 g t mi1 g1 t1 m ds r.1 (wipeS r.2 vs)
    else lc2D vs vs1 g t mi1 g1 t1 m ds acc (wipeS p.2 vs)
def mLc2 (vs vs1 : List Nat) (mi : MI) (g : MG) (t : MT) (mi1 : MI) (g1 : MG) (t1 : MT) (m : MO) : MO := fun δ => mi δ >>= fun p => lc2D vs vs1 g t mi1 g1 t1 m p.1 [] (wipeS p.2 vs)
section
variable {X : Cx} {W : WX} {K : PySem.W.Frag} {Γ : Fm} {F H F' H' : Hp} {σ : L2.St} {δ : List Sl} {φ : Nat → List Addr}
/-- behind what a turn did: what waits outside stands -/
theorem turn_out {F3 F5 H3 H5 : Hp} {fp : List Addr} {σ2 σ3 : L2.St} {δ2 δ5 : List Sl} {φ5 : Nat → List Addr} (R3 : RlP K Γ F3 H3 σ2 δ2 φ) (there : ∀ a ∈ fp, H3 a ≠ none) (sep : ∀ i a, a ∈ φ i → a ∉ fp)
    (R6 : RlP K (inner Γ.rv F3 H3 δ2 φ) F5 H5 σ3 δ5 φ5) : RlP K Γ F5 H5 σ3 δ5 φ5 ∧ (∀ a ∈ fp, H5 a = H3 a ∧ F5 a = F3 a) ∧ ∀ i a, a ∈ φ5 i → a ∉ fp := by
  have nM : ∀ a ∈ fp, ¬ (inner Γ.rv F3 H3 δ2 φ).M a := fun a ha ⟨i, t, _, h⟩ => sep i a h ha
  have nio : ∀ a ∈ fp, ∀ i, ¬ (inner Γ.rv F3 H3 δ2 φ).io i a := fun a ha i ⟨t, _, h⟩ => sep i a h ha
  refine ⟨R3.leave R6, fun a ha => ⟨R6.old a (there a ha) (nio a ha) (nM a ha), R6.fz a (there a ha) (nM a ha)⟩, fun i a hi ha => ?_⟩
  rcases (R6.inn hi).2.2 with q | q | q
  · exact there a ha q
  · exact nM a ha q
  · exact nio a ha i q
/-- an own new thing waits while a turn runs in a frame of its own -/
theorem OwN.out {F3 H3 F5 H5 : Hp} {σ2 σ3 : L2.St} {δ2 δ5 : List Sl} {v : V} {t : Tr} {fp : List Addr} (R3 : RlP K Γ F3 H3 σ2 δ2 φ) (o : Ow K F3 H3 t v fp) (nd : fp.Nodup) (fr : ∀ a ∈ fp, F3 a = none ∧ (Γ.H0 a = none ∨ Γ.M a)) (sep : ∀ i a, a ∈ φ i → a ∉ fp)
    (R6 : Rl K (inner Γ.rv F3 H3 δ2 φ) F5 H5 σ3 δ5) (s : Same F3 F5) : OwN K Γ F5 H5 σ3 δ5 v t := by
  obtain ⟨φ5, R6⟩ := R6
  obtain ⟨R8, kp, sp⟩ := turn_out R3 (fun a ha => o.there a ha) sep R6
  exact ⟨φ5, fp, R8, o.mono s (fun a ha => (kp a ha).1), nd, fun a ha => ⟨(kp a ha).2.trans (fr a ha).1, (fr a ha).2⟩, sp⟩
/-- the accumulated list gets what a turn made -/
theorem OwN.grow {F3 H3 F5 H5 : Hp} {σ2 σ3 : L2.St} {δ2 δ5 : List Sl} {v : V} {t : Tr} {Dl : Addr} {acc : List Tr} {fp : List Addr} (R3 : RlP K Γ F3 H3 σ2 δ2 φ) (o : Ow K F3 H3 (.o .l acc) (.ref Dl) fp) (nd : fp.Nodup) (fr : ∀ a ∈ fp, F3 a = none ∧ (Γ.H0 a = none ∨ Γ.M a)) (sep : ∀ i a, a ∈ φ i → a ∉ fp)
    (o5 : OwN K (inner Γ.rv F3 H3 δ2 φ) F5 H5 σ3 δ5 v t) (s : Same F3 F5) : ∃ us, H5 Dl = some (.lst us) ∧ us.length = acc.length ∧ OwN K Γ F5 (upd H5 Dl (.lst (us ++ [v]))) σ3 δ5 (.ref Dl) (.o .l (acc ++ [t])) := by
  obtain ⟨φ5, fn, R6, c1, c2, c3, c4⟩ := o5.ex
  obtain ⟨R8, kp, sp⟩ := turn_out R3 (fun a ha => o.there a ha) sep R6
  exact acc_put R8 (o.mono s (fun a ha => (kp a ha).1)) nd (fun a ha => ⟨(kp a ha).2.trans (fr a ha).1, (fr a ha).2⟩) sp c1 c2
    (fun a ha => ⟨(c3 a ha).1, by
      rcases (c3 a ha).2 with q | q
      · exact .inl (R3.fresh q)
      · exact inner_M R3 q⟩) c4 (fun a ha hn => by
        rcases (c3 a hn).2 with q | q
        · exact o.there a ha q
        · obtain ⟨j, t, _, q⟩ := q
          exact sep j a q ha)
theorem wipe_sub {vs vs1 : List Nat} {σ : L2.St} (h : ∀ i ∈ vs1, i ∈ vs) : wipe (wipe σ vs1) vs = wipe σ vs := by
  apply List.ext_getElem?
  intro i
  rw [wipe_get (vs := vs), wipe_get (vs := vs), wipe_length]
  by_cases q : i ∈ vs
  · simp only [if_pos q]
  · simp only [if_neg q]
    exact wipe_out fun z => q (h i z)
theorem evLc2 {vs vs1 tv tv1 : List Nat} {wi wi1 : TI} {g g1 : TG} {tt tt1 : TT} {te : TE} {mi mi1 : MI} {mg mg1 : MG} {mt mt1 : MT} {me : MO} (hi : EvI K Γ W wi mi) (hg : ∀ Γ, EvG K Γ WF g mg tv) (ht : ∀ Γ, EvT K Γ WF tt mt) (hi1 : ∀ Γ, EvI K Γ WF wi1 mi1) (hg1 : ∀ Γ, EvG K Γ WF g1 mg1 tv1) (ht1 : ∀ Γ, EvT K Γ WF tt1 mt1) (he : ∀ Γ, EvO K Γ WF te me)
    (hv : ∀ j ∈ tv, j ∈ vs) (hv1 : ∀ j ∈ tv1, j ∈ vs1) (hvv : ∀ j ∈ vs1, j ∈ vs) : EvO K Γ W (tLc2 wi g tt wi1 g1 tt1 te vs vs1) (mLc2 vs vs1 mi mg mt mi1 mg1 mt1 me) := fun δ σ F H Q r gd => by
  refine hi δ σ F H _ r ((Gd.bind.mp gd).mono fun u gu J F1 H1 R1 sF wk => ?_)
  obtain ⟨ds, δ1⟩ := u
  intro Dl hD
  have Rw : Rl K Γ F1 H1 (wipe σ vs) (wipeS δ1 vs) := R1.wiped wipe_wipe
  have o2 := Rw.newL (ds := []) hD Reps.nil
  refine ⟨fun i m H => m = ds.length - i ∧ ∃ δ F2 acc, OwN K Γ F2 H (wipe σ vs) δ (.ref Dl) (.o .l acc) ∧ Same F1 F2 ∧ Gd K Γ W (lc2D vs vs1 mg mt mi1 mg1 mt1 me (ds.drop i) acc δ) (fun r => ∀ v F' H', OwN K Γ F' H' σ r.2 v r.1 → Same F F' → Q v H') ∧ ∀ s ∈ vs, ∀ t, δ[s]? = some t → t = .un,
    ⟨_, rfl, _, F1, [], o2, Same.refl _, gu, wipeS_is⟩, ?_⟩
  rintro i m H2 ⟨rfl, δ2, F2, acc, o2, s2, g2, hun⟩
  by_cases h : i < ds.length
  · right
    refine ⟨wk.go i F2 H2 s2 o2.rl.sub h, fun H' => ∃ δ F2 acc, OwN K Γ F2 H' (wipe σ vs) δ (.ref Dl) (.o .l acc) ∧ Same F1 F2 ∧ Gd K Γ W (lc2D vs vs1 mg mt mi1 mg1 mt1 me (ds.drop (i + 1)) acc δ) (fun r => ∀ v F' H', OwN K Γ F' H' σ r.2 v r.1 → Same F F' → Q v H') ∧ ∀ s ∈ vs, ∀ t, δ[s]? = some t → t = .un,
      fun H' h' => ⟨ds.length - (i + 1), by omega, rfl, h'⟩, fun x H' hy => ?_⟩
    have hd : ds[i]? = some ds[i] := List.getElem?_eq_getElem h
    obtain ⟨F3, g3, rx⟩ := wk.yl i ds[i] F2 H2 x H' s2 o2.rl.sub hd hy
    rw [List.drop_eq_getElem_cons h] at g2
    obtain ⟨φ, fp, R3, b1, b2, b3, b4⟩ := (o2.gr g3).ex
    have Ri := R3.enter
    unfold lc2D at g2
    refine hg _ x ds[i] δ2 (wipe σ vs) F3 H' _ ⟨φ, Ri⟩ rx (Gd.mono (Gd.ne g2) fun δ3 gd3 σ3 R4 k4 => ?_)
    have hw : wipe σ3 vs = wipe σ vs := by
      rw [← wipe_wipe (σ := σ)]
      exact wipe_same k4.1 k4.2 hv
    refine ⟨hw, ht _ δ3 σ3 F3 H' _ R4 (Gd.mono (Gd.ne gd3) fun u gu F4 H4 R5 s4 => ?_)⟩
    obtain ⟨k, δ4⟩ := u
    cases k with
    | false =>
      have o5 := (OwN.out R3 b1 b2 b3 b4 R5 s4).wiped (σ' := wipe σ vs) (vs := vs) (by rw [wipe_wipe, hw])
      exact ⟨_, F4, acc, o5, s2.trans (g3.f.trans s4), gu, wipeS_is⟩
    | true =>
      refine hi1 _ δ4 σ3 F4 H4 _ R5 (Gd.mono (Gd.ne gu) fun w gw J1 F5 H5 R6 s5 wk1 => ?_)
      obtain ⟨ds1, δ5⟩ := w
      have o6 := (OwN.out R3 b1 b2 b3 b4 R6 (s4.trans s5)).wiped (σ' := wipe σ3 vs1) (vs := vs1) wipe_wipe
      have ss : Same F1 F5 := s2.trans (g3.f.trans (s4.trans s5))
      refine ⟨fun j k H => k = ds1.length - j ∧ ∃ δ F2 acc, OwN K Γ F2 H (wipe σ3 vs1) δ (.ref Dl) (.o .l acc) ∧ Same F5 F2 ∧ Gd K Γ W (lc2In vs1 mg1 mt1 me (ds1.drop j) acc δ >>= fun r => lc2D vs vs1 mg mt mi1 mg1 mt1 me (ds.drop (i + 1)) r.1 (wipeS r.2 vs)) (fun r => ∀ v F' H', OwN K Γ F' H' σ r.2 v r.1 → Same F F' → Q v H'),
        ⟨_, rfl, _, F5, acc, o6, Same.refl _, gw⟩, ?_⟩
      rintro j k H6 ⟨rfl, δ6, F6, acc6, o6, s6, g6⟩
      by_cases hj : j < ds1.length
      · right
        refine ⟨wk1.go j F6 H6 s6 o6.rl.sub hj, fun H' => ∃ δ F2 acc, OwN K Γ F2 H' (wipe σ3 vs1) δ (.ref Dl) (.o .l acc) ∧ Same F5 F2 ∧ Gd K Γ W (lc2In vs1 mg1 mt1 me (ds1.drop (j + 1)) acc δ >>= fun r => lc2D vs vs1 mg mt mi1 mg1 mt1 me (ds.drop (i + 1)) r.1 (wipeS r.2 vs)) (fun r => ∀ v F' H', OwN K Γ F' H' σ r.2 v r.1 → Same F F' → Q v H'),
          fun H' h' => ⟨ds1.length - (j + 1), by omega, rfl, h'⟩, fun x1 H7 hy1 => ?_⟩
        have hd1 : ds1[j]? = some ds1[j] := List.getElem?_eq_getElem hj
        obtain ⟨F7, g7, rx1⟩ := wk1.yl j ds1[j] F6 H6 x1 H7 s6 o6.rl.sub hd1 hy1
        rw [List.drop_eq_getElem_cons hj] at g6
        obtain ⟨φ7, fp7, R7, e1, e2, e3, e4⟩ := (o6.gr g7).ex
        have Ri7 := R7.enter
        unfold lc2In at g6
        rw [R.bind_assoc] at g6
        refine hg1 _ x1 ds1[j] δ6 (wipe σ3 vs1) F7 H7 _ ⟨φ7, Ri7⟩ rx1 (Gd.mono (Gd.ne g6) fun δ8 gd8 σ8 R8 k8 => ?_)
        have hw8 : wipe σ8 vs1 = wipe σ3 vs1 := by
          rw [← wipe_wipe (σ := σ3)]
          exact wipe_same k8.1 k8.2 hv1
        rw [R.bind_assoc] at gd8
        refine ⟨hw8, ht1 _ δ8 σ8 F7 H7 _ R8 (Gd.mono (Gd.ne gd8) fun u8 gu8 F9 H9 R9 s9 => ?_)⟩
        obtain ⟨k9, δ9⟩ := u8
        cases k9 with
        | false =>
          have o9 := (OwN.out R7 e1 e2 e3 e4 R9 s9).wiped (σ' := wipe σ3 vs1) (vs := vs1) (by rw [wipe_wipe, hw8])
          exact ⟨_, F9, acc6, o9, s6.trans (g7.f.trans s9), gu8⟩
        | true =>
          have gu8 : Gd K Γ W (((me δ9).ne >>= fun q => if acc6.length < sizeLine then lc2In vs1 mg1 mt1 me (ds1.drop (j + 1)) (acc6 ++ [q.1]) (wipeS q.2 vs1) else R.bad) >>= fun r => lc2D vs vs1 mg mt mi1 mg1 mt1 me (ds.drop (i + 1)) r.1 (wipeS r.2 vs)) _ := gu8
          rw [R.bind_assoc] at gu8
          refine he _ δ9 σ8 F9 H9 _ R9 (Gd.mono (Gd.ne gu8) fun w9 gw9 v F10 H10 o10 s10 => ?_)
          obtain ⟨y, δ10⟩ := w9
          have gw9 : Gd K Γ W ((if acc6.length < sizeLine then lc2In vs1 mg1 mt1 me (ds1.drop (j + 1)) (acc6 ++ [y]) (wipeS δ10 vs1) else R.bad) >>= fun r => lc2D vs vs1 mg mt mi1 mg1 mt1 me (ds.drop (i + 1)) r.1 (wipeS r.2 vs)) _ := gw9
          split at gw9
          · rename_i hl
            obtain ⟨us, hp, lu, o11⟩ := OwN.grow R7 e1 e2 e3 e4 o10 (s9.trans s10)
            refine ⟨us, hp, by rw [lu]; exact hl, ?_⟩
            exact ⟨_, F10, _, o11.wiped (σ' := wipe σ3 vs1) (vs := vs1) (by rw [wipe_wipe, hw8]), s6.trans (g7.f.trans (s9.trans s10)), gw9⟩
          · exact gw9.elim
      · left
        have e : ds1.drop j = [] := List.drop_eq_nil_of_le (Nat.le_of_not_lt hj)
        rw [e] at g6
        have o7 := o6.wiped (σ' := wipe σ vs) (vs := vs) (by rw [wipe_wipe, wipe_sub hvv, hw])
        exact ⟨wk1.st j F6 H6 s6 o6.rl.sub (Nat.le_of_not_lt hj), _, F6, acc6, o7, ss.trans s6, g6, wipeS_is⟩
  · left
    have e : ds.drop i = [] := List.drop_eq_nil_of_le (Nat.le_of_not_lt h)
    rw [e] at g2
    have o9 : OwN K Γ F2 H2 σ δ2 (.ref Dl) (.o .l acc) := by
      have := o2.wiped (σ' := σ) (vs := vs) (by rw [wipe_wipe])
      rwa [wipeS_un hun] at this
    exact ⟨wk.st i F2 H2 s2 o2.rl.sub (Nat.le_of_not_lt h), g2 _ F2 H2 o9 (sF.trans s2)⟩
variable {elt tg iter tg1 iter1 : Expr} {ifs ifs1 : List Expr} {scope : Scope} {own : List (Str × Nat)} {pos : Pos} {tv tv1 : List Nat} {mi mi1 : MI} {mg mg1 : MG} {mt mt1 : MT} {me : MO}
theorem JI.rdF {e : Expr} (h : JI X WF tg e mi) : PI X tg e (rdI X.K WF mi) := h.rd
theorem jo_lc2 (vs1 : List Nat) (hc : X.calm = true) (hN : X.N.Nodup) (hi : JI X W tg iter mi) (ok : BlkOk X.N X.env.scope scope own)
    (hg : ∀ (s : Shared) (H : Hp) (C : Addr) (cl : List (Str × Addr)) (fp : List Addr), JG (X.blk s H scope (compEnvC scope cl C X.env) fp) WF tg mg tv) (ht : ∀ (s : Shared) (H : Hp) (C : Addr) (cl : List (Str × Addr)) (fp : List Addr), JTs (X.blk s H scope (compEnvC scope cl C X.env) fp) WF ifs mt)
    (hi1 : ∀ (s : Shared) (H : Hp) (C : Addr) (cl : List (Str × Addr)) (fp : List Addr), JI (X.blk s H scope (compEnvC scope cl C X.env) fp) WF tg1 iter1 mi1)
    (hg1 : ∀ (s : Shared) (H : Hp) (C : Addr) (cl : List (Str × Addr)) (fp : List Addr), JG (X.blk s H scope (compEnvC scope cl C X.env) fp) WF tg1 mg1 tv1) (ht1 : ∀ (s : Shared) (H : Hp) (C : Addr) (cl : List (Str × Addr)) (fp : List Addr), JTs (X.blk s H scope (compEnvC scope cl C X.env) fp) WF ifs1 mt1)
    (he : ∀ (s : Shared) (H : Hp) (C : Addr) (cl : List (Str × Addr)) (fp : List Addr), JO (X.blk s H scope (compEnvC scope cl C X.env) fp) WF elt me) (hv : ∀ j ∈ tv, j ∈ own.map (·.2) := by decide) (hv1 : ∀ j ∈ tv1, j ∈ vs1 := by decide) (hvv : ∀ j ∈ vs1, j ∈ own.map (·.2) := by decide)
    (hs : ∀ x, foldedSetIterable iter X.env x = pure x := by intro _; rfl) (hs1 : ∀ env x, foldedSetIterable iter1 env x = pure x := by intro _ _; rfl) :
    JO X W (.ListComp elt [⟨tg, iter, ifs, 0⟩, ⟨tg1, iter1, ifs1, 0⟩] scope pos) (mLc2 (own.map (·.2)) vs1 mi mg mt mi1 mg1 mt1 me) := by
  obtain ⟨t, p, q⟩ := hi.ex
  exact ⟨_, pe_lc2 hc hN p ok hvv (fun s H C cl fp => (hg s H C cl fp).rd) (fun s H C cl fp => (ht s H C cl fp).rd) (fun s H C cl fp => (hi1 s H C cl fp).rd) (fun s H C cl fp => (hg1 s H C cl fp).rd) (fun s H C cl fp => (ht1 s H C cl fp).rd) (fun s H C cl fp => (he s H C cl fp).rd) hs hs1,
    fun Γ => evLc2 (q Γ) (fun Γ => evRdG) (fun Γ => evRdT) (fun Γ => evRdI) (fun Γ => evRdG) (fun Γ => evRdT) (fun Γ => evRdO) hv hv1 hvv⟩
end
end GX
/-! GXS: len of an own class, properties, static methods, keywords, comprehensions over an own list. -/
namespace GX
open PySem PySem.Spec PyProof.Rows L2
section
variable {prog : Program} {w : World} {A : Around} {E : Value → Shared → Prop} {s : Shared} {K : PySem.W.Frag} {x C f : Addr} {ox : Obj} {od : Option Obj}
theorem len_ofOwn {Q : Value → Shared → Prop} (X : K.In s.heap) (I : PySem.W.InstAt s.heap x ox C od) (hs : PySem.W.findIn K (.ref C) "__len__" = some (some (.ref f))) (hf : PySem.W.typeIn K (.ref f) = some (.type "function"))
    (hcall : wpAny (model prog w) A.in1 (call (.ref f) [.ref x]) (fun r s' => ∃ n u, r = .int n u ∧ 0 ≤ n ∧ n < 2 ^ 63 ∧ Q (.int n s'.toks) { s' with toks := s'.toks + 1 }) E s) : wpAny (model prog w) A (call (.builtin "len") [.ref x]) Q E s := by
  refine Calls.call_function_entry kind_len plain_len entry_len (args_len1 _) ?_
  unfold Builtin.«len»
  refine wpAny_bind (m := oneArg "len" _) (wpAny_pure ?_)
  refine wpAny_bind (m := callSpecial? (.ref x) (Str.ofString "__len__")) (PySem.W.special_fn X I hs hf (wpAny_mono hcall (fun r s' hr => ?_) fun _ _ y => y))
  obtain ⟨n, u, rfl, h0, h1, hq⟩ := hr
  refine wpAny_bind (wpAny_holding (wpAny_pure ?_))
  refine wpAny_bind (wpAny_letGo ?_)
  show wpAny _ _ (if n < 0 then _ else _) _ _ _
  rw [if_neg (by omega)]
  show wpAny _ _ (if n ≥ 2 ^ 63 then _ else _) _ _ _
  rw [if_neg (by omega)]
  exact wpAny_bind (wpAny_mkInt (wpAny_pure ⟨_, rfl, hq⟩))
end
section
variable {X : Cx} {k : Nat} {g C : Addr} {fd : FuncData} {ps : List Str} {sp : Sp}
def rLenOwn (C : Addr) (sp : Sp) : List V → Hp → VK → Prop := fun xs H Q => ∃ a dx fs, xs = [V.ref a] ∧ H a = some (.ins C dx fs) ∧ sp [.ref a] H (fun z H' => ∃ n : Int, z = .int n ∧ 0 ≤ n ∧ n < 2 ^ 63 ∧ Q z H') E0
theorem call_lenOwn (hs : PySem.W.findIn X.K (.ref C) "__len__" = some (some (.ref g))) (hf : PySem.W.isFn X.K (.ref g) = true) (F : FnOk X.prog X.w X.K X.mg X.base (L2.CX X.prog X.w) k g fd ps sp) (hr : Room (k + 1) X.A) (hb : Binds X.K fd ps []) : CallR X (.builtin "len") (rLenOwn C sp) := by
  intro pins s σ H xs us Q I r h
  obtain ⟨a, dx, fs, rfl, ea, q⟩ := h
  obtain ⟨u, rfl, ru⟩ := r.one
  cases (show u = Value.ref a from ru)
  obtain ⟨mA, O, _, _, _, _⟩ := ins_get I.hok ea
  obtain ⟨od, J, _⟩ := O.look
  have hl : [Value.ref a].length = ps.length := by
    rw [← F.len _ _ _ _ q] <;> rfl
  have b := hb s [.ref a] I.kIn (by rw [List.append_nil]; exact hl)
  rw [List.append_nil] at b
  refine len_ofOwn I.kIn J hs (beq_iff_eq.mp hf) (wpAny_call ?_)
  refine codeAny_mono (F.run X.A.in1 X.stack s H ⟨[.ref a], []⟩ [.ref a] [.ref a] _ E0 hr.in1 I.env0.in1 b (.cons rfl .nil) q) fun r s' hq => ?_
  cases r with
  | error er => exact (passL (X := X) pins σ H s er s' I hq)
  | ok fl =>
    cases fl with
    | ret u =>
      obtain ⟨v, H', I3, rv, n, ev, h0, h1, q3⟩ := I.after hq
      subst ev
      obtain ⟨t, rfl⟩ := (show ∃ t, u = Value.int n t from rv)
      exact ⟨n, t, rfl, h0, h1, .int n, H', I3.tok _, ⟨_, rfl⟩, q3⟩
    | next => exact False.elim hq
    | brk => exact False.elim hq
    | cont => exact False.elim hq
/-- C.m(..), m a static method -/
structure SMet (K : PySem.W.Frag) (C : Addr) (m : Str) (p g : Addr) : Prop where
  rd : ClX.CRead K C (.type "type")
  at_ : PySem.W.findCls K (.ref C) (.type "type") m = some (.get (.builtin "staticmethod.__get__") (.ref p) .none (.ref C))
  rc : ∃ rest, PySem.W.recIn K p "staticmethod" = some (.ref g :: rest)
  kp : PySem.W.keepIn K (.ref g) = true
def tStS (C : Addr) (sp : Sp) (E : L2.St → XK) (ta : TE) (t : TA) : TE := fun σ H Q => ta σ H fun x H1 => x = .ref C ∧ t σ H1 fun vs H2 => sp vs H2 Q (E σ)
theorem pe_stS {o e : Expr} {es : List Expr} {m : Str} {pos apos : Pos} {p : Addr} {ta : TE} {t : TA} {E : L2.St → XK} {CX : CXT} {pl : Sem Bool} (he : PE X o ta) (c : SMet X.K C m p g) (F : FnOk X.prog X.w X.K X.mg X.base CX k g fd ps sp) (hr : Room k X.A) (hb : Binds X.K fd ps []) (hx : ∀ σ, PassesAt CX X σ (E σ)) (ha : PA X (e :: es) t)
    (hst : starEach (e :: es) X.env = (false, eval e X.env) :: starEach es X.env := by rfl) (hpl : (backTo pos (starEach es X.env)).any (·.1) = false := by rfl)
    (ht : eval (.Call (.Attribute o m apos) (e :: es) [] pos) X.env = (do
      let ov ← eval o X.env
      standAt apos.atName
      let (f, first) ← holding [ov] (getMethod ov m pl)
      callWith pos f first (backTo pos (starEach (e :: es) X.env)) (backToKw pos (keywordEach [] X.env))) := by rfl) :
    PE X (.Call (.Attribute o m apos) (e :: es) [] pos) (tStS C sp E ta t) := by
  refine ⟨fun pins s σ H Q I h => ?_⟩
  refine PySem.W.methodCall_KW (pl := pl) (thn (he.run pins s σ H _ I h) fun u s1 ⟨x, H1, I1, rx, ex, q⟩ => ?_) ht
  subst ex
  obtain rfl : u = Value.ref C := rx
  obtain ⟨rest, hp⟩ := c.rc
  refine PySem.W.method_cls I1.kIn c.rd.ga (PySem.W.cls_bind I1.kIn c.rd.rd c.at_ (wpAny_call (PySem.W.sm_get (s := { s1 with toks := s1.toks + 1 }) I1.kIn hp (PySem.W.handed_on rfl ?_))))
  have I2 := I1.tok (s1.toks + 1)
  refine PySem.W.callWith_K (first := []) (h₀ := X.base) I2.ok.mod.kin c.kp (thn (ha.run pos pins _ σ H1 _ I2 q) fun us s2 ⟨vs, H2, I3, r, q2⟩ => ⟨I3.kIn, ?_⟩) hst hpl
  exact run_fnS (us := us) (vs := vs) F hr hb (hx σ) I3 r q2
end
section
variable {X : Cx} {W : WX} {K : PySem.W.Frag} {Γ : Fm} {F H F' H' : Hp} {σ : L2.St} {δ : List Sl} {φ : Nat → List Addr}
variable {e o : Expr} {es : List Expr} {mr : MA} {me : ME} {mx : MX} {pos p' apos : Pos} {x m : Str} {ps : List Str} {f : Fn} {C : Addr}
/-- a call on one value, that lets out no exception -/
def ret0 (δ : List Sl) (x : Vl) (r : FR) : R (Vl × List Sl) := match r with
  | .ok r => (match r.1 with
    | .d d => .ok (.im d, outS δ [x] r.2)
    | _ => .bad)
  | _ => .bad
def CalL (P : Program) (w : World) (K : PySem.W.Frag) (mg : Str → Option Value) (base : Heap) (A : Around) (C : Addr) (ps : List Str) (sp : Sp) : Prop :=
  ∃ k g fd, FnOk P w K mg base (L2.CX P w) k g fd ps sp ∧ Room (k + 1) A ∧ PySem.W.findIn K (.ref C) "__len__" = some (some (.ref g)) ∧ PySem.W.isFn K (.ref g) = true ∧ Binds K fd ps []
/-- an instance of C -/
def insIs (C : Addr) (δ : List Sl) : Vl → Bool
  | .im (.ins C' ns ds) => decide (C' = C)
  | .sl i => match ownAt δ i with
    | some (.o (.i C' ns) ts) => decide (C' = C)
    | _ => false
  | _ => false
theorem insIs_v {v : V} {y : Vl} (r : Rl K Γ F H σ δ) (h : VlOk K F σ v y) (e : insIs C δ y = true) : ∃ a dx fs, v = .ref a ∧ H a = some (.ins C dx fs) := by
  cases y with
  | im d =>
    cases d with
    | ins C' ns ds =>
      have hc := of_decide_eq_true e
      subst hc
      obtain ⟨a, dx, vs, rfl, q, _, _⟩ := Rep.ins_iff.mp h
      exact ⟨a, dx, _, rfl, r.sub _ _ q⟩
    | _ => cases e
  | sl i =>
    unfold insIs at e
    dsimp only at e
    cases q : ownAt δ i with
    | none => rw [q] at e; cases e
    | some t =>
      rw [q] at e
      cases t with
      | d _ => cases e
      | o sh ts =>
        cases sh with
        | i C' ns =>
          have hc := of_decide_eq_true e
          subst hc
          obtain ⟨φ, r⟩ := r
          obtain ⟨w, e1, o, _⟩ := r.own q
          have h : σ[i]? = some (some v) := h
          rw [h] at e1
          cases e1
          obtain ⟨p, h0, vs, fq, rfl, _, hp, ⟨dx, rfl, _⟩, _⟩ := Ow.o_iff.mp o
          exact ⟨p, dx, _, rfl, hp⟩
        | _ => cases e
def mLenO (C : Addr) (f : Fn) (mo : ME) : ME := fun δ => mo δ >>= fun p => if insIs C p.2 p.1 = true then R.ofO (callIn p.2 [p.1]) >>= fun ts => ret0 p.2 p.1 (f ts) >>= fun r => (match r.1 with
  | .im (.int n) => if 0 ≤ n ∧ n.toNat < 2 ^ 63 then .ok r else .bad
  | _ => .bad) else .bad
theorem je_lenOwn (L : CalL X.prog X.w X.K X.mg X.base X.A C ps (spF X.K f)) (ho : JE X W e me) (hm : X.mg "len" = none) (hg : Gl X "len" := by rfl) (he : starEach [e] X.env = (false, eval e X.env) :: starEach [] X.env := by rfl) (hpl : (backTo pos (starEach [] X.env)).any (·.1) = false := by rfl) :
    JE X W (.Call (.Name "len" p') [e] [] pos) (mLenO C f me) := by
  obtain ⟨k, g, fd, G, hr, hs, hf, hb⟩ := L
  obtain ⟨t, p, q⟩ := ho.ex
  refine ⟨_, pe_callB (call_lenOwn hs hf G hr hb) hg hm boot_len (pa_cons p pa_nil he) (by decide) (by decide) he hpl, fun Γ δ σ F H Q r g => ?_⟩
  refine q Γ δ σ F H _ r ((Gd.bind.mp g).mono fun u gu v F1 H1 R1 s1 hv => ?_)
  split at gu
  · rename_i hi
    obtain ⟨a, dx, fs, rfl, ea⟩ := insIs_v R1 hv hi
    obtain ⟨ts, et, gu⟩ := Gd.obind gu
    refine ⟨a, dx, fs, rfl, ea, call_sp R1 (show VlsOk X.K F1 σ [.ref a] [u.1] from ⟨hv, trivial⟩) et ?_⟩
    unfold ret0 at gu
    cases ef : f ts with
    | bad => rw [ef] at gu; exact gu.elim
    | err er os => rw [ef] at gu; exact gu.elim
    | ok pr =>
      obtain ⟨rt, os⟩ := pr
      rw [ef] at gu
      cases rt with
      | o _ _ => exact gu.elim
      | d rd =>
        cases rd with
        | int n =>
          have gu : Gd X.K Γ W (if 0 ≤ n ∧ n.toNat < 2 ^ 63 then R.ok (Vl.im (.int n), outS u.2 [u.1] os) else R.bad) _ := gu
          split at gu
          · rename_i hn
            intro w F' H' o s'
            have ew : w = .int n := Rep.int_iff.mp o.dRep
            subst ew
            exact ⟨n, rfl, hn.1, by omega, gu _ F' H' o.rl (s1.trans s') o.dRep⟩
          · exact gu.elim
        | _ => exact gu.elim
  · exact gu.elim
/-! ### properties -/
def CalP (P : Program) (w : World) (K : PySem.W.Frag) (mg : Str → Option Value) (base : Heap) (A : Around) (C : Addr) (m : Str) (ps : List Str) (sp : Sp) : Prop :=
  ∃ k p g fd, FnOk P w K mg base (L2.CX P w) k g fd ps sp ∧ Room (k + 1) A ∧ PropOf K C m p g ∧ Binds K fd ps [] ∧ Cls K C
def mProp (C : Addr) (f : Fn) (mo : ME) : ME := fun δ => mo δ >>= fun p => if insIs C p.2 p.1 = true then R.ofO (callIn p.2 [p.1]) >>= fun ts => ret0 p.2 p.1 (f ts) else .bad
theorem je_prop (L : CalP X.prog X.w X.K X.mg X.base X.A C m ps (spF X.K f)) (ho : JE X W e me) (hab : attributeBase e m X.env (eval e X.env) = eval e X.env := by rfl) : JE X W (.Attribute e m pos) (mProp C f me) := by
  obtain ⟨k, p0, g, fd, G, hr, hp, hb, hc⟩ := L
  obtain ⟨t, p, q⟩ := ho.ex
  refine ⟨_, pe_prop (dvs := []) (ds := []) p hc hp G hr hb .nil (passL (X := X.nox)) hab, fun Γ δ σ F H Q r g => ?_⟩
  refine q Γ δ σ F H _ r ((Gd.bind.mp g).mono fun u gu v F1 H1 R1 s1 hv => ?_)
  split at gu
  · rename_i hi
    obtain ⟨a, dx, fs, rfl, ea⟩ := insIs_v R1 hv hi
    obtain ⟨ts, et, gu⟩ := Gd.obind gu
    refine ⟨a, dx, fs, rfl, ea, call_sp R1 (show VlsOk X.K F1 σ [.ref a] [u.1] from ⟨hv, trivial⟩) et ?_⟩
    unfold ret0 at gu
    cases ef : f ts with
    | bad => rw [ef] at gu; exact gu.elim
    | err er os => rw [ef] at gu; exact gu.elim
    | ok pr =>
      obtain ⟨rt, os⟩ := pr
      rw [ef] at gu
      cases rt with
      | o _ _ => exact gu.elim
      | d rd => exact fun w F' H' o s' => gu w F' H' o.rl (s1.trans s') o.dRep
  · exact gu.elim
/-! ### static methods -/
def CalS (P : Program) (w : World) (K : PySem.W.Frag) (mg : Str → Option Value) (base : Heap) (A : Around) (x : Str) (C : Addr) (m : Str) (ps : List Str) (sp : Sp) : Prop :=
  ∃ k p g fd, FnOk P w K mg base (L2.CX P w) k g fd ps sp ∧ Room k A ∧ SMet K C m p g ∧ Binds K fd ps [] ∧ mg x = some (.ref C)
theorem jo_stat {px : Pos} {pl : Sem Bool} (tk : Takes X W) (S : CalS X.prog X.w X.K X.mg X.base X.A x C m ps (spF X.K f)) (ha : JA X W (e :: es) mr) (hg : Gl X x := by rfl) (hdb : (x == ("__debug__" : Str)) = false := by decide)
    (hst : starEach (e :: es) X.env = (false, eval e X.env) :: starEach es X.env := by rfl) (hpl : (backTo pos (starEach es X.env)).any (·.1) = false := by rfl)
    (ht : eval (.Call (.Attribute (.Name x px) m apos) (e :: es) [] pos) X.env = (do
      let ov ← eval (.Name x px) X.env
      standAt apos.atName
      let (f, first) ← holding [ov] (getMethod ov m pl)
      callWith pos f first (backTo pos (starEach (e :: es) X.env)) (backToKw pos (keywordEach [] X.env))) := by rfl) :
    JO X W (.Call (.Attribute (.Name x px) m apos) (e :: es) [] pos) (mCallO f mr) := by
  obtain ⟨k, p0, g, fd, G, hr, c, hb, hm⟩ := S
  obtain ⟨t, p, q⟩ := ha.ex
  refine ⟨_, pe_stS (pl := pl) (pe_glob hg hm (v := .ref C) rfl hdb) c G hr hb (fun σ => passAt tk σ) p hst hpl ht, fun Γ δ σ F H Q r g => ⟨rfl, ?_⟩⟩
  refine q Γ δ σ F H _ r ((Gd.bind.mp g).mono fun u gu vs F1 H1 R1 s1 hv => ?_)
  obtain ⟨ts, ed, gu⟩ := Gd.obind gu
  exact retO_sp R1 hv ed (gu.mono fun p hp v F' H' r' s' => hp v F' H' r' (s1.trans s'))
/-! ### keywords -/
structure JK (X : Cx) (W : WX) (kws : List Keyword) (m : MA) : Prop where
  ex : ∃ t, PK X kws t ∧ ∀ Γ, EvA X.K Γ W t m
theorem jk_nil : JK X W [] mNil := ⟨_, pk_nil, fun Γ => evNil⟩
theorem jk_cons {nm : Option Str} {kpos : Pos} {kws : List Keyword} (ha : JE X W e me) (hr : JK X W kws mr) : JK X W (⟨nm, e, kpos⟩ :: kws) (mCons me mr) := by
  obtain ⟨t, p, q⟩ := ha.ex
  obtain ⟨t2, p2, q2⟩ := hr.ex
  refine ⟨_, pk_cons p p2, fun Γ δ σ F H Q hR g => ?_⟩
  refine q Γ δ σ F H _ hR ((Gd.bind.mp g).mono fun u gu x F1 H1 R1 s1 vx => ?_)
  refine q2 Γ u.2 σ F1 H1 _ R1 ((Gd.bind.mp gu).mono fun w gw xs F2 H2 R2 s2 vxs => ?_)
  exact gw _ F2 H2 R2 (s1.trans s2) ⟨vx.mono s2, vxs⟩
def CalK (P : Program) (w : World) (K : PySem.W.Frag) (mg : Str → Option Value) (base : Heap) (A : Around) (x : Str) (ps ks : List Str) (gV : List V → List V → List V) (sp : Sp) : Prop :=
  ∃ k f fd, ∃ g, FnOk P w K mg base (L2.CX P w) k f fd ps sp ∧ Room k A ∧ mg x = some (.ref f) ∧ PySem.W.keepIn K (.ref f) = true ∧ KBinds K fd ps ks g gV
/-- the keywords' values in the parameters' order -/
def mPerm (gX : List Vl → List Vl) (m : MA) : MA := fun δ => m δ >>= fun p => .ok (gX p.1, p.2)
theorem jo_callK {ks : List Str} {gV : List V → List V → List V} (gX : List Vl → List Vl) {kws : List Keyword} (tk : Takes X W) (C : CalK X.prog X.w X.K X.mg X.base X.A x ps ks gV (spF X.K f)) (ha : JK X W kws mr) (hG : ∀ (K : PySem.W.Frag) (F : Hp) (σ : L2.St) (zs : List V) (xs : List Vl), VlsOk K F σ zs xs → VlsOk K F σ (gV [] zs) (gX xs))
    (hg : Gl X x := by rfl) (hall : (backToKw pos (keywordEach kws X.env)).all (·.1.isSome) = true := by rfl) (hks : (backToKw pos (keywordEach kws X.env)).filterMap (·.1) = ks := by rfl)
    (hdb : (x == ("__debug__" : Str)) = false := by decide) (hpl : ((backTo pos (starEach [] X.env)).any (·.1) || (backToKw pos (keywordEach kws X.env)).any (·.1.isNone)) = false := by rfl) : JO X W (.Call (.Name x p') [] kws pos) (mCallO f (mPerm gX mr)) := by
  obtain ⟨k, fa, fd, g, G, hr, hm, hk, hb⟩ := C
  obtain ⟨t, p, q⟩ := ha.ex
  refine ⟨_, pe_callK0S G hr hg hm hk hb (fun σ => passAt tk σ) p hall hks hdb hpl, fun Γ δ σ F H Q r g => ?_⟩
  have g := Gd.bind.mp (Gd.bind.mp g)
  refine q Γ δ σ F H _ r (g.mono fun u gu vs F1 H1 R1 s1 hv => ?_)
  obtain ⟨ts, ed, gu⟩ := Gd.obind gu
  exact retO_sp R1 (hG _ _ _ _ _ hv) ed (gu.mono fun p hp v F' H' r' s' => hp v F' H' r' (s1.trans s'))
end
end GX
/-! GXI: a list comprehension over a list of our own that stays. -/
namespace GX
open PySem PySem.Spec PyProof.Rows L2
def mLcOwn (i : Nat) (vs : List Nat) (g : MG) (t : MT) (m : MO) : MO := fun δ => match δ[i]? with
  | some s => (match s.own with
    | some (.o .l ts) => R.ofO (flats ts) >>= fun ds => (lcD vs g t m ds [] (wipeS (δ.set i .un) vs)).ne >>= fun r => (match r.2[i]? with
      | some .un => .ok (r.1, r.2.set i s)
      | _ => .bad)
    | _ => .bad)
  | none => .bad
section
variable {X : Cx} {W : WX} {K : PySem.W.Frag} {Γ : Fm} {F H F' H' : Hp} {σ σ' : L2.St} {δ δ' : List Sl} {φ φ' : Nat → List Addr}
/-- a slot's thing was hidden while a frame of its own ran -/
theorem OwN.unhide {i : Nat} {s : Sl} {t0 t : Tr} {v : V} (r : RlP K Γ F H σ δ φ) (hs : δ[i]? = some s) (ho : s.own = some t0) (o : OwN K (inner Γ.rv F H (δ.set i .un) (setφ φ i [])) F' H' σ δ' v t) (hu : δ'[i]? = some .un) (hss : Same F F') : OwN K Γ F' H' σ (δ'.set i s) v t := by
  obtain ⟨ov, e1, e2⟩ := r.sl i s hs
  have r1 := r.drop hs
  obtain ⟨φ', fp, R6, b1, b2, b3, b4⟩ := o.ex
  have R7 := r1.leave R6
  have there : ∀ a ∈ φ i, H a ≠ none := fun a ha => (r.inn ha).1
  have hid : ∀ k a, a ∈ setφ φ i [] k → a ∉ φ i := fun k a hk ha => by
    by_cases q : k = i
    · rw [q, setφ_eq] at hk; cases hk
    · rw [setφ_ne q] at hk; exact q (r.sep k i a hk ha)
  have nM : ∀ a ∈ φ i, ¬ (inner Γ.rv F H (δ.set i .un) (setφ φ i [])).M a := fun a ha ⟨k, t, _, h⟩ => hid k a h ha
  have nio : ∀ a ∈ φ i, ∀ k, ¬ (inner Γ.rv F H (δ.set i .un) (setφ φ i [])).io k a := fun a ha k ⟨t, _, h⟩ => hid k a h ha
  have kp : ∀ a ∈ φ i, H' a = H a ∧ F' a = F a := fun a ha => ⟨R6.old a (there a ha) (nio a ha) (nM a ha), R6.fz a (there a ha) (nM a ha)⟩
  have out : ∀ a, ((inner Γ.rv F H (δ.set i .un) (setφ φ i [])).H0 a = none ∨ (inner Γ.rv F H (δ.set i .un) (setφ φ i [])).M a) → a ∉ φ i := fun a h ha => by
    rcases h with q | q
    · exact there a ha q
    · exact nM a ha q
  have sp : ∀ j a, a ∈ φ i → a ∉ φ' j := fun j a ha hj => by
    rcases (R6.inn hj).2.2 with q | q | q
    · exact there a ha q
    · exact nM a ha q
    · exact nio a ha j q
  have hli : i < σ.length := by rw [r.len]; exact (List.getElem?_eq_some_iff.mp hs).1
  have R8 := R7.set1 (t := s) (fp := φ i) (w := ov) hu R7.sub (Same.refl _) rfl e1 (fun _ _ => rfl) (fun _ _ _ => rfl) (fun _ _ _ => rfl) (fun _ h => h) (e2.keep hss kp) (fun a ha => .inr fun j _ hj => sp j a ha hj)
  refine ⟨_, fp, R8, b1, b2, fun a ha => ⟨(b3 a ha).1, ?_⟩, fun j a hj ha => ?_⟩
  · rcases (b3 a ha).2 with q | q
    · exact .inl (r.fresh q)
    · exact inner_M r1 q
  · by_cases q : j = i
    · rw [q, setφ_eq] at hj
      exact out a (b3 a ha).2 hj
    · rw [setφ_ne q] at hj
      exact b4 j a hj ha
theorem evLcOwn (i : Nat) {vs tv : List Nat} {g : TG} {tt : TT} {te : TE} {mg : MG} {mt : MT} {me : MO} (hg : ∀ Γ, EvG K Γ WF g mg tv) (ht : ∀ Γ, EvT K Γ WF tt mt) (he : ∀ Γ, EvO K Γ WF te me) (hv : ∀ j ∈ tv, j ∈ vs) : EvO K Γ W (tLc (iList K (tVar i)) g tt te vs) (mLcOwn i vs mg mt me) := fun δ σ F H Q r gd => by
  unfold mLcOwn at gd
  cases hs : δ[i]? with
  | none => rw [hs] at gd; exact gd.elim
  | some s =>
    rw [hs] at gd
    dsimp only at gd
    cases ho : s.own with
    | none => rw [ho] at gd; exact gd.elim
    | some t0 =>
      rw [ho] at gd
      cases t0 with
      | d _ => exact gd.elim
      | o sh ts =>
        cases sh with
        | i _ _ => exact gd.elim
        | k _ => exact gd.elim
        | t _ => exact gd.elim
        | l =>
          obtain ⟨ds, ed, gd⟩ := Gd.obind gd
          obtain ⟨φ, r⟩ := r
          obtain ⟨ov, e1, e2⟩ := r.sl i s hs
          obtain ⟨v, rfl, ow, nd, hf⟩ := e2.own ho
          obtain ⟨p, h, us, fq, rfl, hφ, hp, hh, rs⟩ := Ow.o_iff.mp ow
          have hh : h = .lst us := hh
          subst hh
          have hr := reps_flats rs ed
          have pin : p ∈ φ i := by rw [hφ]; exact List.mem_cons_self
          have R1 := (r.drop hs).enter
          have hid : ∀ k, p ∉ setφ φ i [] k := fun k hk => by
            by_cases q : k = i
            · rw [q, setφ_eq] at hk; cases hk
            · rw [setφ_ne q] at hk; exact q (r.sep k i p hk pin)
          have hpn : H p ≠ none := by rw [hp]; simp
          have at_ : ∀ {F2 H2 : Hp} {σ2 : L2.St} {δ2 : List Sl}, Rl K (inner Γ.rv F H (δ.set i .un) (setφ φ i [])) F2 H2 σ2 δ2 → H2 p = some (.lst us) := fun R => by
            obtain ⟨φ2, R⟩ := R
            rw [R.old p hpn (fun k ⟨t, _, h⟩ => hid k h) (fun ⟨k, t, _, h⟩ => hid k h)]
            exact hp
          refine ⟨_, e1, p, rfl, ⟨us, SqL.of hp⟩, fun Dl hD => ?_⟩
          refine lc_loop (Γ := inner Γ.rv F H (δ.set i .un) (setφ φ i [])) (W := WF) (J := Itl K p) hg ht he hv ⟨_, R1⟩ ⟨fun n F2 H2 σ2 δ2 s2 R hn => ?_, fun n d F2 H2 σ2 δ2 x H3 s2 R hd hy => ?_, fun n F2 H2 σ2 δ2 s2 R hn => ⟨us, SqL.of (at_ R), by rw [← hr.length]; exact hn⟩⟩ ((Gd.ne gd).mono fun q hq v F' H' o s' => ?_) hD
          · have : n < us.length := by rw [← hr.length]; exact hn
            exact ⟨us, us[n], SqL.of (at_ R), List.getElem?_eq_getElem this⟩
          · obtain ⟨rfl, hy⟩ := hy
            obtain ⟨w, ew, rw1⟩ := hr.get hd
            have e3 := hy us (SqL.of (at_ R))
            rw [ew] at e3
            cases e3
            exact ⟨F2, Gr.refl R.sub, rw1.mono s2⟩
          · cases hu : q.2[i]? with
            | none => rw [hu] at hq; exact hq.elim
            | some su =>
              rw [hu] at hq
              cases su with
              | un => exact hq v F' H' (OwN.unhide r hs ho o hu s') s'
              | im _ => exact hq.elim
              | ow _ => exact hq.elim
              | io _ => exact hq.elim
theorem jo_lcOwn (i : Nat) {elt tg : Expr} {x : Str} {px : Pos} {ifs : List Expr} {scope : Scope} {own : List (Str × Nat)} {pos : Pos} {tv : List Nat} {mg : MG} {mt : MT} {me : MO} (hc : X.calm = true) (hN : X.N.Nodup) (ok : BlkOk X.N X.env.scope scope own)
    (hg : ∀ (s : Shared) (H : Hp) (C : Addr) (cl : List (Str × Addr)) (fp : List Addr), JG (X.blk s H scope (compEnvC scope cl C X.env) fp) WF tg mg tv) (ht : ∀ (s : Shared) (H : Hp) (C : Addr) (cl : List (Str × Addr)) (fp : List Addr), JTs (X.blk s H scope (compEnvC scope cl C X.env) fp) WF ifs mt)
    (he : ∀ (s : Shared) (H : Hp) (C : Addr) (cl : List (Str × Addr)) (fp : List Addr), JO (X.blk s H scope (compEnvC scope cl C X.env) fp) WF elt me) (hi : X.N[i]? = some x := by rfl) (hx : Vis X.env.scope x := by first | exact Or.inl rfl | exact Or.inr (Or.inl rfl) | exact Or.inr (Or.inr rfl)) (hd : (x == ("__debug__" : Str)) = false := by decide) (hcd : (x == ("__classdict__" : Str)) = false := by decide)
    (hv : ∀ j ∈ tv, j ∈ own.map (·.2) := by decide) (hs : ∀ y, foldedSetIterable (.Name x px) X.env y = pure y := by intro _; rfl) :
    JO X W (.ListComp elt [⟨tg, .Name x px, ifs, 0⟩] scope pos) (mLcOwn i (own.map (·.2)) mg mt me) :=
  ⟨_, pe_lc hc hN (pi_list (pe_var (i := i) hi hx hd hcd)) ok (fun s H C cl fp => (hg s H C cl fp).rd) (fun s H C cl fp => (ht s H C cl fp).rd) (fun s H C cl fp => (he s H C cl fp).rd) hs, fun Γ => evLcOwn i (fun Γ => evRdG) (fun Γ => evRdT) (fun Γ => evRdO) hv⟩
end
end GX
set_option maxHeartbeats 4000000
/-! GXE: enumerate of a tuple. -/
namespace GX
open PySem PySem.Spec PyProof.Rows L2
theorem meets_enum1 {v : Value} {o : Obj} {H : Heap → Prop} (B : Begins v o H) :
    Meets (Builtin.«enumerate.__new__» ⟨[.type "enumerate", v], []⟩) (fun _ R s => H s.heap ∧
      R (.ok (.ret (.ref (s.heap.push o).objs.size))) { s with heap := (s.heap.push o).push { cls := .type "enumerate", data := .fields #[.none, .bool false, .ref s.heap.objs.size, rawInt 0, .none, .none] } }) :=
  .of_wp fun prog w A R s h => by
    obtain ⟨hp, g, d, tk, os⟩ := s; obtain ⟨h1, h⟩ := h
    have hsub := sub_enumerate
    have q1 : ∀ {A' : Around} {E : Value → Shared → Prop} {Q : Value → Shared → Prop}, Q (.ref hp.objs.size) ⟨hp.push o, g, d, tk, os⟩ → wpAny (model prog w) A' (pyIter v) Q E ⟨hp, g, d, tk, os⟩ :=
      fun q => B.iter prog w _ _ ⟨hp, g, d, tk, os⟩ _ h1 q
    wp_walk using q1
    refine wpAny_stack_any fun st => wpAny_pure ?_
    split
    · rename_i c _ _ _ _ _
      cases (c == Value.type "enumerate")
      · wp_walk using q1
        exact ⟨_, rfl, h⟩
      · wp_walk using q1
        exact ⟨_, rfl, h⟩
    · wp_walk using q1
      exact ⟨_, rfl, h⟩
section
variable {prog : Program} {w : World} {A : Around} {E : Value → Shared → Prop} {s : Shared}
theorem call_enum1 {v : Value} {o : Obj} {H : Heap → Prop} {Q : Value → Shared → Prop} (B : Begins v o H) (h1 : H s.heap)
    (h : ∀ h', IsEnum h' (s.heap.objs.size + 1) s.heap.objs.size 0 .none → h'.get? s.heap.objs.size = some o → h'.objs.size = s.heap.objs.size + 2 →
      (∀ b o, s.heap.get? b = some o → h'.get? b = some o) → Q (.ref (s.heap.objs.size + 1)) { s with heap := h' }) :
    wpAny (model prog w) A (call (.type "enumerate") [v]) Q E s := by
  refine callType_new F.called_enumerate (by decide) (F.typeCall_enumerate_1 _) (F.newCall_enumerate_1 _) (fun obj => F.args_object_init_2 obj _) F.entry_enumerate_new
    (meets_enum1 B) ⟨h1, ?_⟩
  have hz : (s.heap.push o).objs.size = s.heap.objs.size + 1 := Heap.size_push ..
  show _ ∧ _
  rw [hz]
  have he : IsEnum ((s.heap.push o).push { cls := .type "enumerate", data := .fields #[.none, .bool false, .ref s.heap.objs.size, rawInt 0, .none, .none] }) (s.heap.objs.size + 1) s.heap.objs.size 0 .none := by
    have := Heap.get?_push_size (s.heap.push o) (o := { cls := .type "enumerate", data := .fields #[.none, .bool false, .ref s.heap.objs.size, rawInt 0, .none, .none] }) rfl
    rw [hz] at this; exact this
  refine ⟨⟨_, he, rfl⟩, h _ he (Heap.get?_push_of_some _ (Heap.get?_push_size _ B.free)) (by rw [Heap.size_push, hz]) fun b o x => Heap.get?_push_of_some _ (Heap.get?_push_of_some _ x)⟩
end
/-- the tuple at a, each item in a new pair -/
def IteT (K : PySem.W.Frag) (a : Addr) : It :=
  ⟨fun i H => ∃ (xs : List V) (x : V), SqT K H a xs ∧ xs[i]? = some x, fun i H v H' => ∃ T x, v = .ref T ∧ H T = none ∧ H' = upd H T (.tup [.int (i : Nat), x]) ∧ ∀ xs, SqT K H a xs → xs[i]? = some x, fun i H => ∃ xs : List V, SqT K H a xs ∧ xs.length ≤ i⟩
theorem turn_enumT {P : Program} {w : World} {K : PySem.W.Frag} {elts : List Expr} {kk : Nat} {tpos : Pos} (a e it : Addr) :
    Turn P w K (.Tuple elts kk tpos) (IteT K a) [e, it] e (fun i h => (∃ old, IsEnum h e it ((i : Nat) : Int) old) ∧ h.IsTupleIter it a i ∧ e ≠ it ∧ a ≠ it ∧ e ≠ a) where
  mem := by simp
  obj := fun i h st b hb => by
    obtain ⟨⟨old, he⟩, ⟨o, ho, hc, hd⟩, _⟩ := st
    have e' : b = e ∨ b = it := by simpa using hb
    rcases e' with z | z
    · rw [z]; exact ⟨_, he, fun v q => nomatch q⟩
    · rw [z]; exact ⟨o, ho, fun v q => by rw [hd] at q; cases q⟩
  keep := fun i h h' st k => let ⟨⟨old, he⟩, hi, hne⟩ := st; ⟨⟨old, k e (by simp) _ he⟩, hi.at fun o q => k it (by simp) o q, hne⟩
  item := by
    intro X hP hw hK hc i pins s σ H E I hf st hg
    subst hP hw hK
    obtain ⟨⟨old, he⟩, hit, hne, hai, hea⟩ := st
    obtain ⟨xs, x, hq, hx⟩ := hg
    obtain ⟨its, rv, p, hz⟩ := I.tuple hq
    obtain ⟨u, hu, ru⟩ := rv.get hx
    have hel : e < s.heap.objs.size := Heap.lt_size he
    have hil : it < s.heap.objs.size := by obtain ⟨_, q, _⟩ := hit; exact Heap.lt_size q
    have hlt : i < its.toArray.size := by
      rw [List.size_toArray]
      exact (List.getElem?_eq_some_iff.mp hu).1
    refine wpAny_pyNext_enum_itemD (Draws.tuple (prog := X.prog) (w := X.w) (A := X.A.in1) (show X.A.in1.handled = none from I.ok.hd hc) it a hai its.toArray) he ⟨hit, p⟩ hlt hne (by simp [hne, hea]) fun y h' tk hy ho hs' hT hsz hk => ?_
    have ey : y = u := by
      have : its.toArray[i]? = some u := by simpa using hu
      rw [this] at hy
      exact (Option.some.inj hy).symm
    subst ey
    refine ⟨_, rfl, wpAny_letOwnedTupleGo_enum (s := { s with heap := h', toks := tk + 1 }) ho fun h'' he' sb => ?_⟩
    have hT2 : h''.get? s.heap.objs.size = some { cls := .type "tuple", data := .seq #[.int i tk, y] } := (sb.2 _ (Nat.ne_of_gt hel)).trans hT
    have new : ObjOk X.prog X.w (upd H s.heap.objs.size (.tup [.int (i : Nat), x])) h'' s.heap.objs.size (.tup [.int (i : Nat), x]) :=
      ⟨by show 2 ≤ sizeLine; decide, [.int i tk, y], .cons ⟨_, rfl⟩ (.cons ru .nil), ⟨_, hT2, rfl, _, rfl⟩⟩
    have I1 : Inv X pins σ (upd H s.heap.objs.size (.tup [.int (i : Nat), x])) { s with heap := h'', toks := tk + 1 } :=
      I.turnedNew (ch := [e, it]) (fun b ob hb q => (sb.2 b (fun z => hb (by simp [z]))).trans (hk b ob (fun z => hb (by simp [z])) (fun z => hb (by simp [z])) q)) hf (Nat.le_refl _) new
    refine ⟨.ref s.heap.objs.size, _, I1, rfl, ⟨_, x, rfl, I.hok.fresh (Nat.le_refl _), rfl, fun ys hy => by rw [I.tuple_inj hy hq]; exact hx⟩, ⟨⟨y, ?_⟩, hs'.1.at fun o q => (sb.2 it (Ne.symm hne)).trans q, hne, hai, hea⟩, fun b hb => ?_⟩
    · have e1 : ((i + 1 : Nat) : Int) = (i : Int) + 1 := by omega
      rw [e1]; exact he'
    · have hb' : b < s.heap.objs.size := by
        have e' : b = e ∨ b = it := by simpa using hb
        rcases e' with z | z
        · rw [z]; exact hel
        · rw [z]; exact hil
      rw [upd_ne (Nat.ne_of_lt hb')]
      exact (hf b hb).1
  done := by
    intro X hP hw hK hc i pins s σ H E I hf st hg
    subst hP hw hK
    obtain ⟨⟨old, he⟩, hit, hne, hai, hea⟩ := st
    obtain ⟨xs, hq, hx⟩ := hg
    obtain ⟨its, rv, p, hz⟩ := I.tuple hq
    obtain ⟨f0, f1, f2, f3, f4, f5⟩ := hf it (by simp)
    have hl := rv.length
    have D : Draws X.prog X.w X.A.in1 it [it, a] i (fun (_ : Nat) (_ : Value) => True) (fun j h => j = i ∧ (h.IsTupleIter it a i ∧ h.IsTuple a its.toArray)) := by
      have D0 := Draws.tuple (prog := X.prog) (w := X.w) (A := X.A.in1) (show X.A.in1.handled = none from I.ok.hd hc) it a hai its.toArray
      exact ⟨fun j h st => D0.live i h st.2, fun j h h' st k => ⟨st.1, D0.frame i h h' st.2 k⟩, fun j s' Q E hj st hQ => absurd st.1 (by omega), fun s' Q E st hE => wpAny_nextOf_tuple_end (show X.A.in1.handled = none from I.ok.hd hc) st.2.1 st.2.2 (by simp; omega) hE⟩
    exact wpAny_pyNext_enum_endD D he ⟨rfl, hit, p⟩ fun h' eb => ⟨rfl, I.turned (t' := s.toks) (fun b o hb q => eb b o hb q) f0 f1 f3 f4 f5⟩
  self := fun A i s Q E st h => let ⟨⟨_, he⟩, _⟩ := st; wpAny_pyIter_enum he h
section
variable {X : Cx} {W : WX} {K : PySem.W.Frag} {Γ : Fm} {F H : Hp} {σ : L2.St} {δ : List Sl}
def iEnumT (K : PySem.W.Frag) (ta : TA) : TI := fun σ H R => ta σ H fun vs H1 => ∃ a xs, vs = [.ref a] ∧ SqT K H1 a xs ∧ R (IteT K a) H1
theorem pi_enumT {e : Expr} {ta : TA} {p pos tpos : Pos} {elts : List Expr} {kk : Nat} (hg : Gl X "enumerate") (hm : X.mg "enumerate" = none) (ha : PA X [e] ta) (hs : starEach [e] X.env = [(false, eval e X.env)] := by rfl) :
    PI X (.Tuple elts kk tpos) (.Call (.Name "enumerate" p) [e] [] pos) (iEnumT X.K ta) := by
  refine ⟨fun pins s σ H R I h => ?_⟩
  refine Call_ (ld_blt I hg hm boot_enumerate (PyProof.Rows.callWith_type1 (thn (ha.run pos pins s σ H _ I h) fun us s1 ⟨vs, H1, I1, r1, q1⟩ => ?_) hs rfl))
  obtain ⟨a, xs, ex, hq, q⟩ := q1
  subst ex
  cases r1 with
  | cons r rr =>
    cases rr
    cases r
    obtain ⟨its, rv, p', hz⟩ := I1.tuple hq
    have al : a < s1.heap.objs.size := by obtain ⟨o, ho, _⟩ := id p'; exact Heap.lt_size ho
    refine call_enum1 (begins_tuple a its.toArray) (show s1.heap.IsTuple a its.toArray from p') fun h' he hit hsz hk => wpAny_pyIter_enum he ?_
    have I2 : Inv X pins σ H1 { s1 with heap := h' } := I1.kept (t' := s1.toks) hk
    refine ⟨s1.heap.objs.size + 1, [s1.heap.objs.size + 1, s1.heap.objs.size], _, _, H1, rfl, I2, turn_enumT a (s1.heap.objs.size + 1) s1.heap.objs.size, ⟨⟨.none, he⟩, ⟨_, hit, rfl, rfl⟩, Nat.succ_ne_self _, Nat.ne_of_lt al, Nat.ne_of_gt (Nat.lt_succ_of_lt al)⟩, fun b hb => ?_, q⟩
    have e' : b = s1.heap.objs.size + 1 ∨ b = s1.heap.objs.size := by simpa using hb
    have hle : s1.heap.objs.size ≤ b := by
      rcases e' with z | z
      · rw [z]; exact Nat.le_add_right _ _
      · rw [z]; exact Nat.le_refl _
    exact I1.fpOk hle (I1.hok.fresh hle)
def mIEnT (m : MA) : MI := fun δ => m δ >>= fun p => R.ofO (one1 p.1) >>= fun d => match d with
  | .tup xs => .ok (enumDs xs, p.2)
  | _ => .bad
theorem ji_enumT {a : Expr} {mr : MA} {p' pos : Pos} {elts : List Expr} {kk : Nat} {tpos : Pos} (hm : X.mg "enumerate" = none) (ha : JA X W [a] mr) (hg : Gl X "enumerate" := by rfl) (hs : starEach [a] X.env = [(false, eval a X.env)] := by rfl) : JI X W (.Tuple elts kk tpos) (.Call (.Name "enumerate" p') [a] [] pos) (mIEnT mr) := by
  obtain ⟨t, p, q⟩ := ha.ex
  refine ⟨_, pi_enumT hg hm p hs, fun Γ δ σ F H Q r g => ?_⟩
  refine q Γ δ σ F H _ r ((Gd.bind.mp g).mono fun u gu vs F1 H1 R1 s1 hv => ?_)
  obtain ⟨d, e1, gu⟩ := Gd.obind gu
  obtain ⟨v, rfl, rv⟩ := one1_v hv e1
  cases d with
  | tup xs =>
    obtain ⟨p1, us, rfl, hp, hr⟩ := Rep.tup_iff.mp rv
    have sx : ∀ {F2 H2 : Hp}, Same F1 F2 → Same F2 H2 → SqT X.K H2 p1 us := fun a b => SqT.of (b _ _ (a _ _ hp))
    refine ⟨p1, us, rfl, SqT.of (R1.sub _ _ hp), gu _ F1 H1 R1 s1 ⟨fun n F2 H2 s2 s3 hi => ?_, fun n d F2 H2 x H3 s2 s3 hd hy => ?_, fun n F2 H2 s2 s3 hi => ?_⟩⟩
    · have hi : n < (enumDs xs).length := hi
      rw [enumDs_len, hr.length] at hi
      exact ⟨us, us[n], sx s2 s3, List.getElem?_eq_getElem _⟩
    · obtain ⟨T, x', rfl, hT, rfl, f1⟩ := hy
      obtain ⟨dx, e1, rfl⟩ := enumDs_get hd
      obtain ⟨v1, ev1, rv1⟩ := hr.get e1
      have h1 := f1 us (sx s2 s3)
      rw [ev1] at h1
      cases h1
      exact pair_new s3 hT rInt (rv1.mono s2)
    · have hi : (enumDs xs).length ≤ n := hi
      rw [enumDs_len, hr.length] at hi
      exact ⟨us, sx s2 s3, hi⟩
  | _ => exact gu.elim
end
end GX
/-! GXZ: list(zip(a, b)). -/
namespace GX
open PySem PySem.Spec PyProof.Rows L2
section
variable {prog : Program} {w : World} {A : Around} {E : Value → Shared → Prop} {s : Shared} {z TI TO T i1 i2 : Addr} {fp1 fp2 : List Addr} {n1 n2 i : Nat} {P1 P2 : Nat → Value → Prop} {St1 St2 : Nat → Heap → Prop} {f : Bool} {oT : Obj}
theorem zipH_item {Q : Value → Shared → Prop} (S : ZipSep2 z TI TO i1 i2 fp1 fp2) (D1 : Draws prog w A i1 fp1 n1 P1 St1) (D2 : Draws prog w A i2 fp2 n2 P2 St2)
    (hz : IsZipHeld s.heap z TI TO T f) (hT : s.heap.get? T = some oT) (hTI : IsTupOf2 s.heap TI (.ref i1) (.ref i2)) (st1 : St1 i s.heap) (st2 : St2 i s.heap) (hlt1 : i < n1) (hlt2 : i < n2)
    (hQ : ∀ x1 x2 h' tk, P1 i x1 → P2 i x2 → IsZipHeld h' z TI TO T true → St1 (i + 1) h' → St2 (i + 1) h' → IsTupOf2 h' s.heap.objs.size x1 x2 → h'.objs.size = s.heap.objs.size + 1 →
      (∀ c o, c ≠ z → c ≠ i1 → c ≠ i2 → s.heap.get? c = some o → h'.get? c = some o) → Q (.ref s.heap.objs.size) { s with heap := h', toks := tk }) :
    wpAny (model prog w) A (Builtin.«zip.__next__» ⟨[.ref z], []⟩) (fun fin s' => ∃ v, fin = .done (.ret v) ∧ Q v s') E s := by
  obtain ⟨hp, g, d, tk0, os⟩ := s
  show wpAny _ _ (field (.ref z) 2 >>= _) _ _ _
  refine wpAny_bind (wpAny_field hz rfl (x := .bool false) rfl ?_)
  show wpAny _ _ (field (.ref z) 3 >>= _) _ _ _
  refine wpAny_bind (wpAny_field hz rfl (x := .ref TI) rfl ?_)
  refine wpAny_bind (wpAny_seqItems hTI rfl ?_)
  show wpAny _ _ (Builtin.SmallTypes.ownedTupleIsFree (.ref z) >>= _) _ _ _
  refine wpAny_bind (wpAny_tupleHeld_zip hz hT fun g0 hz0 hs0 => ?_)
  replace hs0 : Heap.SameBut z hp g0 := hs0
  simp only [Bool.false_eq_true, if_false]
  refine wpAny_bind ?_
  rw [← Array.forIn_toList]
  simp only [List.forIn_cons, List.forIn_nil]
  refine wpAny_bind (wpAny_bind (wpAny_holding ?_))
  show wpAny _ _ (Builtin.SmallTypes.nextOf (.ref i1) >>= _) _ _ _
  refine wpAny_bind (D1.item i ⟨g0, g, d, tk0, os⟩ _ _ hlt1 (D1.over st1 hs0 S.zf1) fun x1 p1 tk1 hx1 sn1 hp1 => wpAny_pure ?_)
  replace hp1 : Heap.SameBut i1 g0 p1 := hp1
  refine wpAny_pure ?_
  refine wpAny_bind (wpAny_bind (wpAny_holding ?_))
  show wpAny _ _ (Builtin.SmallTypes.nextOf (.ref i2) >>= _) _ _ _
  refine wpAny_bind (D2.item i ⟨p1, g, d, tk1, os⟩ _ _ hlt2 (D2.over (D2.over st2 hs0 S.zf2) hp1 S.sep1_2) fun x2 p2 tk2 hx2 sn2 hp2 => wpAny_pure ?_)
  replace hp2 : Heap.SameBut i2 p1 p2 := hp2
  refine wpAny_pure (wpAny_pure ?_)
  show wpAny _ _ (newTuple [x1, x2] >>= _) _ _ _
  refine wpAny_bind (wpAny_newTuple ?_)
  have hsz : p2.objs.size = hp.objs.size := by rw [hp2.1, hp1.1, hs0.1]
  have hz₃ : IsZipHeld p2 z TI TO T true := hp2.extBut _ _ S.zi2 (hp1.extBut _ _ S.zi1 hz0)
  have hk : ∀ c o, c ≠ z → c ≠ i1 → c ≠ i2 → hp.get? c = some o → p2.get? c = some o := fun c o c1 c2 c3 e => hp2.extBut _ _ c3 (hp1.extBut _ _ c2 (hs0.extBut _ _ c1 e))
  have h1₃ : St1 (i + 1) p2 := D1.over sn1 hp2 S.sep2_1
  refine wpAny_pure ⟨_, rfl, ?_⟩
  show Q (.ref p2.objs.size) _
  have hp' : IsTupOf2 (p2.push { cls := .type "tuple", data := .seq #[x1, x2] }) p2.objs.size x1 x2 := Heap.get?_push_size _ rfl
  have hz4 : (p2.push { cls := .type "tuple", data := .seq #[x1, x2] }).objs.size = p2.objs.size + 1 := Heap.size_push ..
  rw [hsz] at hp' hz4 ⊢
  exact hQ x1 x2 _ tk2 hx1 hx2 (Heap.get?_push_of_some _ hz₃) (D1.frame _ _ _ h1₃ fun b _ o e => Heap.get?_push_of_some _ e) (D2.frame _ _ _ sn2 fun b _ o e => Heap.get?_push_of_some _ e) hp' hz4 fun c o c1 c2 c3 e => Heap.get?_push_of_some _ (hk c o c1 c2 c3 e)
theorem zipH_end {Q : Fin → Shared → Prop} (S : ZipSep2 z TI TO i1 i2 fp1 fp2) (D1 : Draws prog w A i1 fp1 n1 P1 St1) (D2 : Draws prog w A i2 fp2 n2 P2 St2)
    (hz : IsZipHeld s.heap z TI TO T f) (hT : s.heap.get? T = some oT) (hTI : IsTupOf2 s.heap TI (.ref i1) (.ref i2)) (st1 : St1 i s.heap) (st2 : St2 i s.heap) (hle1 : i ≤ n1) (hle2 : i ≤ n2) (hend : i = n1 ∨ i = n2)
    (hE : ∀ h' tk e, (∀ c o, c ≠ z → c ≠ i1 → c ≠ i2 → s.heap.get? c = some o → h'.get? c = some o) → (∃ o, h'.get? e = some o ∧ o.cls = .type "StopIteration") → E (.ref e) { s with heap := h', toks := tk }) :
    wpAny (model prog w) A (Builtin.«zip.__next__» ⟨[.ref z], []⟩) Q E s := by
  obtain ⟨hp, g, d, tk0, os⟩ := s
  show wpAny _ _ (field (.ref z) 2 >>= _) _ _ _
  refine wpAny_bind (wpAny_field hz rfl (x := .bool false) rfl ?_)
  show wpAny _ _ (field (.ref z) 3 >>= _) _ _ _
  refine wpAny_bind (wpAny_field hz rfl (x := .ref TI) rfl ?_)
  refine wpAny_bind (wpAny_seqItems hTI rfl ?_)
  show wpAny _ _ (Builtin.SmallTypes.ownedTupleIsFree (.ref z) >>= _) _ _ _
  refine wpAny_bind (wpAny_tupleHeld_zip hz hT fun g0 hz0 hs0 => ?_)
  replace hs0 : Heap.SameBut z hp g0 := hs0
  simp only [Bool.false_eq_true, if_false]
  refine wpAny_bind ?_
  rw [← Array.forIn_toList]
  simp only [List.forIn_cons, List.forIn_nil]
  refine wpAny_bind (wpAny_bind (wpAny_holding ?_))
  show wpAny _ _ (Builtin.SmallTypes.nextOf (.ref i1) >>= _) _ _ _
  by_cases hlt1 : i < n1
  · refine wpAny_bind (D1.item i ⟨g0, g, d, tk0, os⟩ _ _ hlt1 (D1.over st1 hs0 S.zf1) fun x1 p1 tk1 hx1 sn1 hp1 => wpAny_pure ?_)
    replace hp1 : Heap.SameBut i1 g0 p1 := hp1
    refine wpAny_pure ?_
    refine wpAny_bind (wpAny_bind (wpAny_holding ?_))
    show wpAny _ _ (Builtin.SmallTypes.nextOf (.ref i2) >>= _) _ _ _
    have hi2 : i = n2 := by omega
    refine wpAny_bind (D2.done ⟨p1, g, d, tk1, os⟩ _ _ (by rw [← hi2]; exact D2.over (D2.over st2 hs0 S.zf2) hp1 S.sep1_2) fun q e hq he => ?_)
    exact hE q tk1 e (fun c o c1 c2 c3 x => hq _ _ c3 (hp1.extBut _ _ c2 (hs0.extBut _ _ c1 x))) he
  · have hi1 : i = n1 := by omega
    refine wpAny_bind (D1.done ⟨g0, g, d, tk0, os⟩ _ _ (by rw [← hi1]; exact D1.over st1 hs0 S.zf1) fun q e hq he => ?_)
    exact hE q tk0 e (fun c o c1 c2 c3 x => hq _ _ c2 (hs0.extBut _ _ c1 x)) he
end
/-! ### list.extend over any iterator, by an invariant -/
section
variable {prog : Program} {w : World} {A : Around} {E : Value → Shared → Prop} {s : Shared} {R : Result → Shared → Prop} {S I : Addr} {n : Nat} {J : Nat → Shared → Prop} {res : Value}
abbrev isL (h : Heap) (S : Addr) (acc : Array Value) (c : Nat) : Prop := h.get? S = some { cls := .type "list", dict := none, data := .seq acc c, slots := #[] }
theorem ext_loop (hn : n ≤ sizeLine) (item : ∀ i s, i < n → J i s → wpAny (model prog w) A.in1 (pyNext (.ref I)) (fun r s' => ∃ v acc c, r = some v ∧ isL s'.heap S acc c ∧ acc.size = i ∧ J (i + 1) { s' with heap := s'.heap.update S (Obj.mapSeq (·.push v)) }) (fun e s' => R (.error e) s') s)
    (done : ∀ s, J n s → wpAny (model prog w) A.in1 (pyNext (.ref I)) (fun r s' => r = none ∧ R (.ok (.ret res)) s') (fun e s' => R (.error e) s') s) :
    ∀ (k i : Nat) (s : Shared), n - i = k → i ≤ n → J i s → codeAny (model prog w) A (.builtin "list.extend.loop" ⟨[.ref S, .ref I, res], []⟩) R s := by
  intro k
  induction k with
  | zero =>
    intro i s hk hi hJ
    have hin : i = n := by omega
    subst hin
    refine codeAny_builtin F.entry_extend_loop ?_
    rw [Around.under_plainId F.plain_extend_loop _]
    show wpAny _ A.in1 (pyNext (.ref I) >>= _) _ _ s
    refine wpAny_bind (wpAny_mono (done s hJ) (fun r s' hr => ?_) fun _ _ y => y)
    obtain ⟨rfl, hr⟩ := hr
    exact wpAny_pure hr
  | succ k ih =>
    intro i s hk hi hJ
    have hlt : i < n := by omega
    refine codeAny_builtin F.entry_extend_loop ?_
    rw [Around.under_plainId F.plain_extend_loop _]
    show wpAny _ A.in1 (pyNext (.ref I) >>= _) _ _ s
    refine wpAny_bind (wpAny_mono (item i s hlt hJ) (fun r s' hr => ?_) fun _ _ y => y)
    obtain ⟨v, acc, c, rfl, hS, hz, hJ'⟩ := hr
    show wpAny _ A.in1 (updateSeq S (·.push v) >>= _) _ _ _
    refine wpAny_bind ?_
    exact wpAny_updateSeq hS rfl (wpAny_pure ⟨plainId_quiet F.plain_extend_loop _, ih (i + 1) _ (by omega) hlt hJ'⟩) (by rw [hz]; omega) (by show (acc.push v).size ≤ sizeLine + 1; rw [Array.size_push, hz]; omega)
/-- the loop's start: what the list goes through -/
theorem ext_with {T : String} (hl : typeLookup (.type T) "__len__" = pure none) (hn0 : typeLookup (.type T) "__length_hint__" = pure none) (h2 : (Value.type T == Value.type "list") = false) (h3 : (Value.type T == Value.type "tuple") = false) (hT : s.TypeIs (.ref I) T) (hSI : S ≠ I) {c₀ : Nat}
    (hself : ∀ (Q : Value → Shared → Prop), Q (.ref I) s → wpAny (model prog w) A.in1 (pyIter (.ref I)) Q (fun e s' => R (.error e) s') s) (hS : isL s.heap S #[] c₀)
    (h : ∀ h' c, isL h' S #[] c → Heap.SameBut S s.heap h' → codeAny (model prog w) A (.builtin "list.extend.loop" ⟨[.ref S, .ref I, res], []⟩) R { s with heap := h' }) :
    wpAny (model prog w) A.in1 (Builtin.List.listExtendWith (.ref S) (.ref I) res)
      (fun fin s' => match fin with | .done f => R (.ok f) s' | .again c' => c'.quiet = true ∧ codeAny (model prog w) A c' R s') (fun e s' => R (.error e) s') s := by
  unfold Builtin.List.listExtendWith
  refine wpAny_bind (wpAny_typeOf hT ?_)
  have h1 : Builtin.List.listSameRef (.ref S) (.ref I) = false := by simp [Builtin.List.listSameRef, hSI]
  simp only [h1, h2, h3, Bool.or_false, Bool.false_eq_true, if_false]
  refine wpAny_bind (hself _ ?_)
  refine wpAny_bind (wpAny_holding ?_)
  unfold Builtin.List.listLengthHint
  refine wpAny_bind (wpAny_specialOf hT hl ?_)
  show wpAny _ A.in1 (specialOf (Value.ref I) (Str.ofString "__length_hint__") >>= _) _ _ _
  refine wpAny_bind (wpAny_specialOf hT hn0 ?_)
  refine wpAny_pure ?_
  show wpAny _ A.in1 (rule "list.extend.makes-room" >>= fun _ => Builtin.List.listTouch (.ref S) >>= fun _ =>
    again (.builtin "list.extend.loop" ⟨[.ref S, .ref I, res], []⟩)) _ _ _
  refine wpAny_bind (wpAny_rule ?_)
  refine wpAny_bind ?_
  show wpAny _ A.in1 (updateSeq S (·.push .none) >>= fun _ => updateSeq S (·.pop)) _ _ _
  refine wpAny_bind (wpAny_updateSeq hS rfl ?_)
  have hS₂ := Heap.get?_update_self (Obj.mapSeq (·.push Value.none)) hS rfl
  refine wpAny_updateSeq (hz := by seq_fits) hS₂ rfl ?_
  have hS₃ := Heap.get?_update_self (Obj.mapSeq (·.pop)) hS₂ rfl
  refine wpAny_pure ⟨plainId_quiet F.plain_extend_loop _, h _ _ hS₃ ?_⟩
  exact (Heap.SameBut.update ..).trans (Heap.SameBut.update ..)
/-- list(it) -/
theorem call_list_it {T : String} {Q : Value → Shared → Prop} (hl : typeLookup (.type T) "__len__" = pure none) (hn0 : typeLookup (.type T) "__length_hint__" = pure none) (h2 : (Value.type T == Value.type "list") = false) (h3 : (Value.type T == Value.type "tuple") = false) (hT : s.TypeIs (.ref I) T) (hI : I < s.heap.objs.size)
    (hself : ∀ (A' : Around) (E' : Value → Shared → Prop) (s' : Shared) (Q : Value → Shared → Prop), (∀ b o, s.heap.get? b = some o → s'.heap.get? b = some o) → Q (.ref I) s' → wpAny (model prog w) A' (pyIter (.ref I)) Q E' s')
    (h : ∀ h' c, isL h' s.heap.objs.size #[] c → h'.objs.size = s.heap.objs.size + 1 → (∀ b o, s.heap.get? b = some o → h'.get? b = some o) →
      codeAny (model prog w) A.in1 (.builtin "list.extend.loop" ⟨[.ref s.heap.objs.size, .ref I, .none], []⟩) (fun r s' => match r with | .ok (.ret v) => v = .none ∧ Q (.ref s.heap.objs.size) s' | .ok _ => False | .error e => E e s') { s with heap := h' }) :
    wpAny (model prog w) A (call (.type "list") [.ref I]) Q E s := by
  have hSI : s.heap.objs.size ≠ I := Nat.ne_of_gt hI
  refine callType_codes (Q₁ := fun obj s₁ => obj = .ref s.heap.objs.size ∧ s₁ = { s with heap := s.heap.push { cls := .type "list", data := .seq #[] } }) F.called_list (F.typeCall_list_1 _) F.entry_list_init
    (code_list_new _ ⟨rfl, rfl⟩) fun obj s₁ h₁ => ?_
  obtain ⟨rfl, rfl⟩ := h₁
  have hS : (s.heap.push { cls := .type "list", data := .seq #[] }).get? s.heap.objs.size = some { cls := .type "list", data := .seq #[] } := Heap.get?_push_size _ rfl
  refine ⟨⟨_, hS, rfl⟩, F.args_list_init_2 _ _, ?_⟩
  show wpAny _ _ (do let old ← Builtin.List.listItems (.ref s.heap.objs.size); Builtin.List.listUpdate (.ref s.heap.objs.size) (fun _ => #[]); letGo old.toList.reverse; Builtin.List.listExtendWith (.ref s.heap.objs.size) (.ref I) .none) _ _ _
  refine wpAny_bind ?_
  unfold Builtin.List.listItems
  refine wpAny_bind (wpAny_seqItems hS rfl (wpAny_pure ?_))
  show wpAny _ _ (updateSeq s.heap.objs.size (fun _ => #[]) >>= fun _ => letGo (#[] : Array Value).toList.reverse >>= fun _ => Builtin.List.listExtendWith (.ref s.heap.objs.size) (.ref I) .none) _ _ _
  refine wpAny_bind (wpAny_updateSeq hS rfl ?_)
  have hS₂ := Heap.get?_update_self (Obj.mapSeq (fun _ => (#[] : Array Value))) hS rfl
  have oth : ∀ b o, s.heap.get? b = some o → ((s.heap.push { cls := .type "list", data := .seq #[] }).update s.heap.objs.size (Obj.mapSeq (fun _ => (#[] : Array Value)))).get? b = some o :=
    fun b o e => (Heap.get?_update_other _ _ (Nat.ne_of_gt (Heap.lt_size e))).trans (Heap.get?_push_of_some _ e)
  refine wpAny_bind (wpAny_letGo ?_)
  refine ext_with hl hn0 h2 h3 ?_ hSI (fun Q q => hself _ _ _ Q oth q) hS₂ fun h' c hc sb => ?_
  · obtain ⟨o, ho, hc⟩ := hT
    exact ⟨o, oth _ _ ho, hc⟩
  · refine codeAny_mono (h h' c hc ?_ fun b o e => (sb.2 b (Nat.ne_of_lt (Heap.lt_size e))).trans (oth b o e)) fun r s' hr => ?_
    · rw [sb.1, Heap.size_update, Heap.size_push]
    · cases r with
      | error e => exact hr
      | ok fl =>
        cases fl with
        | ret v => obtain ⟨rfl, hr⟩ := hr; exact ⟨rfl, hr⟩
        | next => exact hr.elim
        | brk => exact hr.elim
        | cont => exact hr.elim
end
end GX
/-! GXY: list(zip(a, b)), the rule. -/
namespace GX
open PySem PySem.Spec PyProof.Rows L2
theorem nolen_zip : typeLookup (.type "zip") "__len__" = pure none := by rw [typeLookup_type, builtinLookup_eq_fast]; kernel_rfl
theorem nohint_zip : typeLookup (.type "zip") "__length_hint__" = pure none := by rw [typeLookup_type, builtinLookup_eq_fast]; kernel_rfl
section
variable {X : Cx} {pins : List (Addr × Obj)} {σ : L2.St} {H : Hp} {s : Shared}
/-- a list or a tuple that is drawn from -/
theorem src_of {b : Bool} {a : Addr} {xs : List V} (I : Inv X pins σ H s) (h : SqB X.K b H a xs) : ∃ (its : Array Value) (o : Obj) (Hh : Heap → Prop), Vals xs its.toList ∧ Begins (.ref a) o Hh ∧ Hh s.heap ∧ a < s.heap.objs.size ∧ its.size ≤ sizeLine ∧
    ∀ (it : Addr), a ≠ it → ∃ St : Nat → Heap → Prop, (∀ A : Around, A.handled = none → Draws X.prog X.w A it [it, a] its.size (fun i v => its[i]? = some v) St) ∧ ∀ h, h.get? it = some o → Hh h → St 0 h := by
  cases b with
  | true =>
    obtain ⟨its, rv, p, hz⟩ := I.list h
    obtain ⟨o, ho, _⟩ := id p.isList
    refine ⟨its.toArray, _, _, by simpa using rv, begins_list a its.toArray, p.isList, Heap.lt_size ho, by rw [List.size_toArray, ← rv.length]; exact hz, fun it hne => ⟨_, fun A hh => Draws.list hh it a hne its.toArray, fun h e hl => ⟨⟨_, e, rfl, rfl⟩, hl⟩⟩⟩
  | false =>
    obtain ⟨its, rv, p, hz⟩ := I.tuple h
    obtain ⟨o, ho, _⟩ := id p
    refine ⟨its.toArray, _, _, by simpa using rv, begins_tuple a its.toArray, p, Heap.lt_size ho, by rw [List.size_toArray, ← rv.length]; exact hz, fun it hne => ⟨_, fun A hh => Draws.tuple hh it a hne its.toArray, fun h e hl => ⟨⟨_, e, rfl, rfl⟩, hl⟩⟩⟩
/-- the heap with a new list of new pairs -/
structure ZipH (H : Hp) (S : Addr) (Ts : List Addr) (xs ys : List V) (H' : Hp) : Prop where
  nd : (S :: Ts).Nodup
  out : ∀ a, a ∉ S :: Ts → H' a = H a
  new : ∀ a ∈ S :: Ts, H a = none
  lst : H' S = some (.lst (Ts.map V.ref))
  tup : ∀ (i : Nat) (T : Addr), Ts[i]? = some T → ∃ x y, xs[i]? = some x ∧ ys[i]? = some y ∧ H' T = some (.tup [x, y])
def tListZip (K : PySem.W.Frag) (t : TA) : TE := fun σ H Q => t σ H fun vs H1 => ∃ a b xs ys ba bb, vs = [.ref a, .ref b] ∧ SqB K ba H1 a xs ∧ SqB K bb H1 b ys ∧ xs.length = ys.length ∧
  ∀ S Ts H', Ts.length = xs.length → ZipH H1 S Ts xs ys H' → Q (.ref S) H'
theorem list_zip {a b : Addr} {ba bb : Bool} {xs ys : List V} {Q : VK} (hc : X.calm = true) (I : Inv X pins σ H s) (hx : SqB X.K ba H a xs) (hy : SqB X.K bb H b ys) (hl : xs.length = ys.length) (h : ∀ S Ts H', Ts.length = xs.length → ZipH H S Ts xs ys H' → Q (.ref S) H') :
    wpAny (model X.prog X.w) X.A (call (.type "zip") [.ref a, .ref b]) (fun v s1 => wpAny (model X.prog X.w) X.A (call (.type "list") [v]) (EP X pins σ Q) X.xe s1) X.xe s := by
  have hh : X.A.handled = none := I.ok.hd hc
  obtain ⟨its1, o1, H1, rv1, B1, h1, la, z1, D1⟩ := src_of I hx
  obtain ⟨its2, o2, H2, rv2, B2, h2, lb, z2, D2⟩ := src_of I hy
  have n1 : its1.size = xs.length := by rw [rv1.length, Array.length_toList]
  have n2 : its2.size = xs.length := by rw [hl, rv2.length, Array.length_toList]
  obtain ⟨St1, D1, st1⟩ := D1 s.heap.objs.size (Nat.ne_of_lt la)
  obtain ⟨St2, D2, st2⟩ := D2 (s.heap.objs.size + 1) (Nat.ne_of_lt (Nat.lt_succ_of_lt lb))
  have hS2 : ZipSep2 (s.heap.objs.size + 4) (s.heap.objs.size + 2) (s.heap.objs.size + 3) s.heap.objs.size (s.heap.objs.size + 1) [s.heap.objs.size, a] [s.heap.objs.size + 1, b] :=
    zip_sep2 (fp1 := [a]) (fp2 := [b]) (fun c hc => by rw [List.mem_singleton.mp hc]; exact la) (fun c hc => by rw [List.mem_singleton.mp hc]; exact lb)
  refine zip_begins2 B1 B2 h1 h2 fun hp hZ hTI hTO e1 e2 hsz hk => ?_
  have hszh : hp.objs.size = s.heap.objs.size + 5 := hsz
  generalize hN : s.heap.objs.size = N at *
  have la' : a < N := by first | exact la | (rw [← hN]; exact la)
  have lb' : b < N := by first | exact lb | (rw [← hN]; exact lb)
  have hszN : hp.objs.size = N + 5 := hszh
  have hm1 : ∀ i : Nat, i < xs.length → i < its1.size := fun i h => by rw [n1]; exact h
  have hm2 : ∀ i : Nat, i < xs.length → i < its2.size := fun i h => by rw [n2]; exact h
  have a5 : a ≠ N + 5 := Nat.ne_of_lt (Nat.lt_of_lt_of_le la' (Nat.le_add_right _ _))
  have b5 : b ≠ N + 5 := Nat.ne_of_lt (Nat.lt_of_lt_of_le lb' (Nat.le_add_right _ _))
  have I2 : Inv X pins σ H { s with heap := hp } := I.kept (t' := s.toks) hk
  have fpk : ∀ c ∈ [N + 4, N + 3, N, N + 1], FpOk X pins H c := fun c hcm => by
    have hle : s.heap.objs.size ≤ c := by
      rw [hN]
      simp only [List.mem_cons, List.not_mem_nil, or_false] at hcm
      omega
    exact I.fpOk hle (I.hok.fresh hle)
  refine call_list_it (T := "zip") nolen_zip nohint_zip (by decide) (by decide) ⟨_, hZ, rfl⟩ (show N + 4 < hp.objs.size by omega) (fun A' E' s' Q' k q => wpAny_pyIter_zip (k _ _ hZ) q) fun h0 c0 hL hsz0 hk0 => ?_
  have hL : isL h0 (N + 5) #[] c0 := by rw [← hsz]; exact hL
  have hsz0 : h0.objs.size = N + 6 := by rw [hsz0]; show hp.objs.size + 1 = N + 6; rw [hszN]
  show codeAny _ _ (.builtin "list.extend.loop" ⟨[.ref hp.objs.size, .ref (N + 4), .none], []⟩) (fun r s' => match r with | .ok (.ret v) => v = .none ∧ EP X pins σ Q (.ref hp.objs.size) s' | .ok _ => False | .error e => X.xe e s') _
  rw [hsz]
  have hSn : H (N + 5) = none := I.hok.fresh (by rw [hN]; omega)
  have I3 : Inv X pins σ (upd H (N + 5) (.lst [])) { s with heap := h0 } :=
    I2.laid (t' := s.toks) (a := N + 5) (o := .lst []) hk0 (show hp.objs.size ≤ N + 5 by omega) ⟨Nat.zero_le _, [], c0, .nil, hL⟩
  let J : Nat → Shared → Prop := fun i s' => ∃ Ts H', Ts.length = i ∧ ZipH H (N + 5) Ts xs ys H' ∧ Inv X pins σ H' s' ∧ (∀ c ∈ [N + 4, N + 3, N, N + 1], H' c = none ∧ c < s'.heap.objs.size) ∧ ((i = 0 ∧ IsZip s'.heap (N + 4) (N + 2) (N + 3) .none ∧ IsTupOf2 s'.heap (N + 3) .none .none) ∨ ∃ T f oT, IsZipHeld s'.heap (N + 4) (N + 2) (N + 3) T f ∧ s'.heap.get? T = some oT ∧ T ≠ N + 5) ∧
    IsTupOf2 s'.heap (N + 2) (.ref N) (.ref (N + 1)) ∧ St1 i s'.heap ∧ St2 i s'.heap
  have fp' : ∀ {H' : Hp} {s' : Shared}, (∀ c ∈ [N + 4, N + 3, N, N + 1], H' c = none ∧ c < s'.heap.objs.size) → ∀ c ∈ [N + 4, N + 3, N, N + 1], FpOk X pins H' c := fun k c hcm => ⟨(k c hcm).1, (fpk c hcm).2⟩
  have hnl : xs.length ≤ sizeLine := by rw [← n1]; exact z1
  have hha : X.A.in1.in1.handled = none := hh
  have ne5 : ∀ c ∈ [N + 4, N + 3, N, N + 1], c ≠ N + 5 := fun c hcm => by
    simp only [List.mem_cons, List.not_mem_nil, or_false] at hcm
    omega
  -- what a turn does to the tracked heap
  have step : ∀ (i : Nat) (s' : Shared) (Ts : List Addr) (H' : Hp) (x y : Value) (h' : Heap) (tk : Nat), i < xs.length → Ts.length = i → ZipH H (N + 5) Ts xs ys H' → Inv X pins σ H' s' → (∀ c ∈ [N + 4, N + 3, N, N + 1], H' c = none ∧ c < s'.heap.objs.size) →
      its1[i]? = some x → its2[i]? = some y → IsTupOf2 h' s'.heap.objs.size x y → h'.objs.size = s'.heap.objs.size + 1 → (∀ c o, c ∉ [N + 4, N + 3, N, N + 1] → s'.heap.get? c = some o → h'.get? c = some o) →
      ∃ acc c, isL h' (N + 5) acc c ∧ acc.size = i ∧ ∃ H'', ZipH H (N + 5) (Ts ++ [s'.heap.objs.size]) xs ys H'' ∧ Inv X pins σ H'' { s' with heap := h'.update (N + 5) (Obj.mapSeq (·.push (.ref s'.heap.objs.size))), toks := tk } ∧ (∀ c ∈ [N + 4, N + 3, N, N + 1], H'' c = none ∧ c < (h'.update (N + 5) (Obj.mapSeq (·.push (.ref s'.heap.objs.size)))).objs.size) := by
    intro i s' Ts H' x y h' tk hi hTs Z I' hcs ex ey hT hsz' hkk
    obtain ⟨vx, evx, rx⟩ : ∃ v, xs[i]? = some v ∧ RelV v x := by
      obtain ⟨u, e, r⟩ := Vals.get rv1 (List.getElem?_eq_getElem hi)
      rw [Array.getElem?_toList, ex] at e
      cases e
      exact ⟨_, List.getElem?_eq_getElem hi, r⟩
    obtain ⟨vy, evy, ry⟩ : ∃ v, ys[i]? = some v ∧ RelV v y := by
      obtain ⟨u, e, r⟩ := Vals.get rv2 (List.getElem?_eq_getElem (show i < ys.length by omega))
      rw [Array.getElem?_toList, ey] at e
      cases e
      exact ⟨_, List.getElem?_eq_getElem _, r⟩
    have hTn : H' s'.heap.objs.size = none := I'.hok.fresh (Nat.le_refl _)
    have I4 : Inv X pins σ (upd H' s'.heap.objs.size (.tup [vx, vy])) { s' with heap := h', toks := tk } :=
      I'.turnedNew (ch := [N + 4, N + 3, N, N + 1]) hkk (fp' hcs) (Nat.le_refl _) ⟨by show 2 ≤ sizeLine; decide, [x, y], .cons rx (.cons ry .nil), ⟨_, hT, rfl, _, rfl⟩⟩
    have neS : N + 5 ≠ s'.heap.objs.size := fun z => by rw [← z, Z.lst] at hTn; cases hTn
    have hL4 : (upd H' s'.heap.objs.size (.tup [vx, vy])) (N + 5) = some (.lst (Ts.map V.ref)) := by rw [upd_ne neS]; exact Z.lst
    obtain ⟨its, c, r, ho, hz⟩ := I4.lst hL4
    have lits : its.length = i := by rw [← r.length, List.length_map]; exact hTs
    have I5 := I4.lstUpd (f := Obj.mapSeq (·.push (.ref s'.heap.objs.size))) (its' := its ++ [.ref s'.heap.objs.size]) (n' := c + 1) (ys := Ts.map V.ref ++ [V.ref s'.heap.objs.size]) hL4 ho (by simp [Obj.mapSeq]) (r.append (.cons (show RelV (V.ref _) (Value.ref _) from rfl) .nil)) (by rw [List.length_append, List.length_map, hTs]; simp; omega) tk
    have nT : s'.heap.objs.size ∉ Ts := fun hm => by
      obtain ⟨j, ej⟩ := List.getElem?_of_mem hm
      obtain ⟨_, _, _, _, e⟩ := Z.tup j _ ej
      rw [hTn] at e; cases e
    refine ⟨its.toArray, c, ho, by rw [List.size_toArray]; exact lits, _, ⟨?_, fun q hq => ?_, fun q hq => ?_, ?_, fun j T ej => ?_⟩, I5, fun q hq => ⟨?_, ?_⟩⟩
    · obtain ⟨n3, n4⟩ := List.nodup_cons.mp Z.nd
      refine List.nodup_cons.mpr ⟨fun hm => ?_, List.nodup_append.mpr ⟨n4, by simp, fun u hu v hv huv => ?_⟩⟩
      · rcases List.mem_append.mp hm with hm | hm
        · exact n3 hm
        · exact neS (List.mem_singleton.mp hm)
      · subst huv
        exact nT (by rw [← List.mem_singleton.mp hv]; exact hu)
    · have q1 : q ≠ N + 5 := fun z => hq (by rw [z]; exact List.mem_cons_self)
      have q2 : q ≠ s'.heap.objs.size := fun z => hq (by rw [z]; simp)
      rw [upd_ne q1, upd_ne q2]
      exact Z.out q fun z => hq (by
        rcases List.mem_cons.mp z with z | z
        · rw [z]; exact List.mem_cons_self
        · exact List.mem_cons_of_mem _ (List.mem_append_left _ z))
    · rcases List.mem_cons.mp hq with rfl | hq
      · exact Z.new _ List.mem_cons_self
      · rcases List.mem_append.mp hq with hq | hq
        · exact Z.new q (List.mem_cons_of_mem _ hq)
        · have := List.mem_singleton.mp hq
          subst this
          by_cases hm : s'.heap.objs.size ∈ (N + 5) :: Ts
          · exact Z.new _ hm
          · rw [← Z.out _ hm]; exact hTn
    · rw [upd_same, List.map_append]; rfl
    · by_cases hj : j < Ts.length
      · rw [List.getElem?_append_left hj] at ej
        obtain ⟨v, u, e3, e4, e5⟩ := Z.tup j T ej
        refine ⟨v, u, e3, e4, ?_⟩
        rw [upd_ne (fun z => by rw [z, Z.lst] at e5; cases e5), upd_ne (fun z => by rw [z, hTn] at e5; cases e5)]
        exact e5
      · rw [List.getElem?_append_right (by omega)] at ej
        have : j - Ts.length = 0 := by
          have := (List.getElem?_eq_some_iff.mp ej).1
          simp at this
          omega
        have hjj : j = i := by omega
        rw [this] at ej
        cases ej
        refine ⟨vx, vy, by rw [hjj]; exact evx, by rw [hjj]; exact evy, ?_⟩
        rw [upd_ne (Ne.symm neS), upd_same]
    · rw [upd_ne (ne5 q hq), upd_ne (Nat.ne_of_lt (hcs q hq).2)]
      exact (hcs q hq).1
    · rw [Heap.size_update, hsz']
      exact Nat.lt_succ_of_lt (hcs q hq).2
  have upS : ∀ {h' : Heap} {v : Value} {b : Addr} {o : Obj}, b ≠ N + 5 → h'.get? b = some o → (h'.update (N + 5) (Obj.mapSeq (·.push v))).get? b = some o := fun hb e => (Heap.get?_update_other _ _ (Ne.symm hb)).trans e
  have ab : ∀ c ∈ [N, a], c ≠ N + 5 := fun c hcm => by
    rcases List.mem_cons.mp hcm with rfl | hcm
    · exact ne5 _ (by simp)
    · rw [List.mem_singleton.mp hcm]; exact a5
  have ab2 : ∀ c ∈ [N + 1, b], c ≠ N + 5 := fun c hcm => by
    rcases List.mem_cons.mp hcm with rfl | hcm
    · exact ne5 _ (by simp)
    · rw [List.mem_singleton.mp hcm]; exact b5
  have szS : ∀ {H' : Hp} {s' : Shared} {Ts : List Addr}, ZipH H (N + 5) Ts xs ys H' → Inv X pins σ H' s' → N + 5 < s'.heap.objs.size := fun Z I' => by
    obtain ⟨its, c, r, ho, hz⟩ := I'.lst Z.lst
    exact Heap.lt_size (show Heap.get? _ (N + 5) = some _ from ho)
  have q4 : N + 4 ≠ N + 5 := by simp
  have p0 : N + 2 ≠ N := by simp
  have p1 : N + 2 ≠ N + 1 := by simp
  have p3 : N + 2 ≠ N + 3 := by simp
  have p4 : N + 2 ≠ N + 4 := by simp
  have q2 : N + 2 ≠ N + 5 := by simp
  refine ext_loop (n := xs.length) (J := J) hnl (fun i s' hi hJ => ?_) (fun s' hJ => ?_) xs.length 0 _ (by omega) (Nat.zero_le _) ?_
  · obtain ⟨Ts, H', hTs, Z, I', hcs, hst, hTI', t1, t2⟩ := hJ
    rcases hst with ⟨rfl, hz0, hto⟩ | ⟨T, f, oT, hzh, hTo, hTne⟩
    · refine wpAny_pyNext_zipD2_item hS2 (D1 X.A.in1.in1.in1 hha) (D2 X.A.in1.in1.in1 hha) hz0 hTI' hto t1 t2 (by omega) (by omega) fun x y h' tk ex ey z' to' t1' t2' hT hsz' hkk => ?_
      obtain ⟨acc, c, hL', hac, H'', Z', I'', hcs'⟩ := step 0 s' Ts H' x y h' tk hi hTs Z I' hcs ex ey hT hsz' (fun c o hc e => hkk c o (fun z => hc (by rw [z]; simp)) (fun z => hc (by rw [z]; simp)) (fun z => hc (by rw [z]; simp)) (fun z => hc (by rw [z]; simp)) e)
      have neS : s'.heap.objs.size ≠ N + 5 := Nat.ne_of_gt (szS Z I')
      refine ⟨_, acc, c, rfl, hL', hac, Ts ++ [s'.heap.objs.size], H'', by simp [hTs], Z', I'', hcs', .inr ⟨s'.heap.objs.size, false, _, upS q4 z', upS neS hT, neS⟩, upS q2 (hkk _ _ p4 p3 p0 p1 hTI'), (D1 X.A.in1.in1.in1 hha).frame _ _ _ t1' fun b hb o e => upS (ab b hb) e, (D2 X.A.in1.in1.in1 hha).frame _ _ _ t2' fun b hb o e => upS (ab2 b hb) e⟩
    · have hTy : s'.TypeIs (.ref (N + 4)) "zip" := ⟨_, hzh, rfl⟩
      unfold pyNext
      refine wpAny_bind (wpAny_attempt (wpAny_callSpecial?_slot (name := Str.ofString "__next__") hTy F.slot_zip_next (wpAny_call_entry F.slot_zip_next hTy F.entry_zip_next
        (zipH_item hS2 (D1 X.A.in1.in1.in1 hha) (D2 X.A.in1.in1.in1 hha) hzh hTo hTI' t1 t2 (by omega) (by omega) fun x y h' tk ex ey z' t1' t2' hT hsz' hkk => wpAny_pure ?_) (F.args_zip_next_1 _))))
      obtain ⟨acc, c, hL', hac, H'', Z', I'', hcs'⟩ := step i s' Ts H' x y h' tk hi hTs Z I' hcs ex ey hT hsz' (fun c o hc e => hkk c o (fun z => hc (by rw [z]; simp)) (fun z => hc (by rw [z]; simp)) (fun z => hc (by rw [z]; simp)) e)
      have neS : s'.heap.objs.size ≠ N + 5 := Nat.ne_of_gt (szS Z I')
      have hTz : T ≠ N + 4 ∧ T ≠ N ∧ T ≠ N + 1 ∨ True := .inr trivial
      have hT2 : ∃ oT', h'.get? T = some oT' := by
        by_cases q : T ∈ [N + 4, N, N + 1]
        · simp only [List.mem_cons, List.not_mem_nil, or_false] at q
          rcases q with q | q | q
          · rw [q]; exact ⟨_, z'⟩
          · rw [q]; exact (D1 X.A.in1.in1.in1 hha).live _ _ t1'
          · rw [q]; exact (D2 X.A.in1.in1.in1 hha).live _ _ t2'
        · exact ⟨_, hkk T oT (fun z => q (by rw [z]; simp)) (fun z => q (by rw [z]; simp)) (fun z => q (by rw [z]; simp)) hTo⟩
      obtain ⟨oT', hT2⟩ := hT2
      exact ⟨_, acc, c, rfl, hL', hac, Ts ++ [s'.heap.objs.size], H'', by simp [hTs], Z', I'', hcs', .inr ⟨T, true, oT', upS q4 z', upS hTne hT2, hTne⟩, upS q2 (hkk _ _ p4 p0 p1 hTI'), (D1 X.A.in1.in1.in1 hha).frame _ _ _ t1' fun b hb o e => upS (ab b hb) e, (D2 X.A.in1.in1.in1 hha).frame _ _ _ t2' fun b hb o e => upS (ab2 b hb) e⟩
  · obtain ⟨Ts, H', hTs, Z, I', hcs, hst, hTI', t1, t2⟩ := hJ
    have fin : ∀ (h' : Heap) (tk : Nat), (∀ c o, c ∉ [N + 4, N + 3, N, N + 1] → s'.heap.get? c = some o → h'.get? c = some o) → EP X pins σ Q (.ref (N + 5)) { s' with heap := h', toks := tk } := fun h' tk hkk =>
      ⟨.ref (N + 5), H', I'.turnedL (t' := tk) (ch := [N + 4, N + 3, N, N + 1]) hkk (fp' hcs), rfl, h _ Ts H' hTs Z⟩
    rcases hst with ⟨h00, hz0, hto⟩ | ⟨T, f, oT, hzh, hTo, hTne⟩
    · refine wpAny_pyNext_zipD2_end hS2 (D1 X.A.in1.in1.in1 hha) (D2 X.A.in1.in1.in1 hha) hz0 hTI' hto t1 t2 (by omega) (by omega) (.inl (by omega)) fun h' tk hkk => ⟨rfl, rfl, fin h' tk fun c o hc e => hkk c o (fun z => hc (by rw [z]; simp)) (fun z => hc (by rw [z]; simp)) (fun z => hc (by rw [z]; simp)) (fun z => hc (by rw [z]; simp)) e⟩
    · have hTy : s'.TypeIs (.ref (N + 4)) "zip" := ⟨_, hzh, rfl⟩
      unfold pyNext
      refine wpAny_bind (wpAny_attempt (wpAny_callSpecial?_slot (name := Str.ofString "__next__") hTy F.slot_zip_next (wpAny_call_entry F.slot_zip_next hTy F.entry_zip_next
        (zipH_end hS2 (D1 X.A.in1.in1.in1 hha) (D2 X.A.in1.in1.in1 hha) hzh hTo hTI' t1 t2 (by omega) (by omega) (.inl (by omega)) fun h' tk e hkk he => ?_) (F.args_zip_next_1 _))))
      obtain ⟨o, ho, hc⟩ := he
      refine wpAny_bind (wpAny_isInstance (T := "StopIteration") (b := true) ⟨o, ho, hc⟩ isSubtype_stop ?_)
      exact wpAny_pure ⟨rfl, rfl, fin h' tk fun c o hc e => hkk c o (fun z => hc (by rw [z]; simp)) (fun z => hc (by rw [z]; simp)) (fun z => hc (by rw [z]; simp)) e⟩
  · refine ⟨[], _, rfl, ⟨by simp, fun q hq => upd_ne fun z => hq (by rw [z]; exact List.mem_cons_self), fun q hq => by rw [List.mem_singleton.mp hq]; exact hSn, by rw [upd_same]; rfl, fun i T e => by simp at e⟩, I3, fun c hcm => ⟨by rw [upd_ne (ne5 c hcm)]; exact (fpk c hcm).1, ?_⟩, .inl ⟨rfl, hk0 _ _ hZ, hk0 _ _ hTO⟩, hk0 _ _ hTI, ?_, ?_⟩
    · show c < h0.objs.size
      simp only [List.mem_cons, List.not_mem_nil, or_false] at hcm
      omega
    · exact st1 _ (hk0 _ _ e1) (B1.keeps _ _ (B1.keeps _ _ h1 hk) hk0)
    · exact st2 _ (hk0 _ _ e2) (B2.keeps _ _ (B2.keeps _ _ h2 hk) hk0)
end
end GX
/-! GXT: list(zip(a, b)) as an expression. -/
namespace GX
open PySem PySem.Spec PyProof.Rows L2
section
variable {X : Cx} {W : WX}
theorem pe_listZip {e e2 : Expr} {ta : TA} {p pz pos ps : Pos} (hc : X.calm = true) (hg : Gl X "list") (hm : X.mg "list" = none) (hg2 : Gl X "zip") (hm2 : X.mg "zip" = none) (ha : PA X [e, e2] ta)
    (na : starEach [.Call (.Name "zip" pz) [e, e2] [] ps] X.env = (false, eval (.Call (.Name "zip" pz) [e, e2] [] ps) X.env) :: starEach [] X.env := by rfl)
    (hs : starEach [e, e2] X.env = (false, eval e X.env) :: starEach [e2] X.env := by rfl) (hpl : (backTo ps (starEach [e2] X.env)).any (·.1) = false := by rfl) :
    PE X (.Call (.Name "list" p) [.Call (.Name "zip" pz) [e, e2] [] ps] [] pos) (tListZip X.K ta) := by
  refine ⟨fun pins s σ H Q I h => ?_⟩
  refine Call_ (ld_blt I hg hm boot_list (PyProof.Rows.callWith_type1 (args_cons (thn (Q := fun v s1 => wpAny (model X.prog X.w) X.A (call (.type "list") [v]) (EP X pins σ Q) X.xe s1) (Call_ (ld_blt I hg2 hm2 PyProof.Rows.boot_zip (PyProof.Rows.callWith_type1 (thn (ha.run ps pins s σ H _ I h) fun us s1 ⟨vs, H1, I1, r1, q1⟩ => ?_) hs hpl))) fun x s1 q => args_nil q) na) na))
  obtain ⟨a, b, xs, ys, ba, bb, ex, h1, h2, hl, q⟩ := q1
  subst ex
  cases r1 with
  | cons r rr =>
    cases rr with
    | cons r' rr =>
      cases rr
      cases r
      cases r'
      exact list_zip hc I1 h1 h2 hl q
variable {K : PySem.W.Frag} {F H : Hp}
theorem reps_of_at : ∀ {ds : List D} {vs : List V}, ds.length = vs.length → (∀ (i : Nat) (d : D) (v : V), ds[i]? = some d → vs[i]? = some v → Rep K F d v) → Reps K F ds vs := by
  intro ds
  induction ds with
  | nil => intro vs h _; cases vs with
    | nil => exact Reps.nil
    | cons v vs => cases h
  | cons d ds ih => intro vs h g; cases vs with
    | nil => cases h
    | cons v vs => exact Reps.cons (g 0 d v rfl rfl) (ih (by simpa using h) fun i d v hd hv => g (i + 1) d v hd hv)
theorem ZipH.parts {S : Addr} {Ts : List Addr} {xs ys : List V} {H' : Hp} {dx dy : List D} (Z : ZipH H S Ts xs ys H') (s : Same F H) (hl : Ts.length = xs.length) (hl2 : xs.length = ys.length) (rx : Reps K F dx xs) (ry : Reps K F dy ys) :
    ∃ F1 H1, Gr F H F1 H1 ∧ H1 S = none ∧ H' = upd H1 S (.lst (Ts.map V.ref)) ∧ Reps K F1 (zipDs dx dy) (Ts.map V.ref) := by
  have nS : S ∉ Ts := (List.nodup_cons.mp Z.nd).1
  have g : Gr F H (fun a => if a ∈ Ts then H' a else F a) (fun a => if a = S then H a else H' a) := by
    refine ⟨fun a o e => ?_, fun a o e => ?_, fun a e => ?_, fun a e => ?_⟩
    · have hn : a ∉ Ts := fun hm => by
        have := Z.new a (List.mem_cons_of_mem _ hm)
        rw [s _ _ e] at this; cases this
      show (if a ∈ Ts then H' a else F a) = some o
      rw [if_neg hn]; exact e
    · show (if a = S then H a else H' a) = some o
      have e : (if a ∈ Ts then H' a else F a) = some o := e
      by_cases hm : a ∈ Ts
      · rw [if_pos hm] at e
        rw [if_neg (fun z => nS (by rw [← z]; exact hm))]; exact e
      · rw [if_neg hm] at e
        have e2 := s _ _ e
        by_cases hs : a = S
        · rw [if_pos hs]; exact e2
        · rw [if_neg hs, Z.out a (fun z => by rcases List.mem_cons.mp z with z | z; exact hs z; exact hm z)]; exact e2
    · show (if a = S then H a else H' a) = H a
      by_cases hs : a = S
      · rw [if_pos hs]
      · rw [if_neg hs, Z.out a (fun z => e (Z.new a z))]
    · show (if a ∈ Ts then H' a else F a) = F a
      rw [if_neg (fun hm => e (Z.new a (List.mem_cons_of_mem _ hm)))]
  refine ⟨_, _, g, ?_, ?_, reps_of_at ?_ fun i d v hd hv => ?_⟩
  · show (if S = S then H S else H' S) = none
    rw [if_pos rfl]; exact Z.new S List.mem_cons_self
  · funext a
    by_cases hs : a = S
    · subst hs; rw [upd_same]; exact Z.lst
    · rw [upd_ne hs]; show H' a = if a = S then H a else H' a; rw [if_neg hs]
  · rw [zipDs_len, rx.length, ry.length, List.length_map, hl, ← hl2]; omega
  · obtain ⟨x, y, e1, e2, rfl⟩ := zipDs_get hd
    rw [List.getElem?_map] at hv
    cases hT : Ts[i]? with
    | none => rw [hT] at hv; cases hv
    | some T =>
      rw [hT] at hv
      cases hv
      obtain ⟨v1, v2, f1, f2, f3⟩ := Z.tup i T hT
      obtain ⟨w1, g1, r1⟩ := rx.get e1
      obtain ⟨w2, g2, r2⟩ := ry.get e2
      rw [f1] at g1; cases g1
      rw [f2] at g2; cases g2
      refine Rep.tup_iff.mpr ⟨T, _, rfl, ?_, Reps.cons (r1.mono g.f) (Reps.one (r2.mono g.f))⟩
      show (if T ∈ Ts then H' T else F T) = _
      rw [if_pos (List.mem_of_getElem? hT)]; exact f3
def oLZ (m : MA) : MO := fun δ => m δ >>= fun p => R.ofO (two2 p.1) >>= fun q => R.ofO (asL q.1) >>= fun x => R.ofO (asL q.2) >>= fun y => if x.2.length = y.2.length then .ok (lsT (zipDs x.2 y.2), p.2) else .bad
theorem jo_listZip {a b : Expr} {mr : MA} {p' pz pos ps : Pos} (hc : X.calm = true) (hm : X.mg "list" = none) (hm2 : X.mg "zip" = none) (ha : JA X W [a, b] mr) (hg : Gl X "list" := by rfl) (hg2 : Gl X "zip" := by rfl)
    (na : starEach [.Call (.Name "zip" pz) [a, b] [] ps] X.env = (false, eval (.Call (.Name "zip" pz) [a, b] [] ps) X.env) :: starEach [] X.env := by rfl)
    (hs : starEach [a, b] X.env = (false, eval a X.env) :: starEach [b] X.env := by rfl) (hpl : (backTo ps (starEach [b] X.env)).any (·.1) = false := by rfl) :
    JO X W (.Call (.Name "list" p') [.Call (.Name "zip" pz) [a, b] [] ps] [] pos) (oLZ mr) := by
  obtain ⟨t, p, q⟩ := ha.ex
  refine ⟨_, pe_listZip hc hg hm hg2 hm2 p na hs hpl, fun Γ δ σ F H Q r g => ?_⟩
  refine q Γ δ σ F H _ r ((Gd.bind.mp g).mono fun u gu vs F1 H1 R1 s1 hv => ?_)
  obtain ⟨⟨dx, dy⟩, e2, gu⟩ := Gd.obind gu
  obtain ⟨⟨bx, xs⟩, ex, gu⟩ := Gd.obind gu
  obtain ⟨⟨by', ys⟩, ey, gu⟩ := Gd.obind gu
  have gu : Gd X.K Γ W (if xs.length = ys.length then R.ok (lsT (zipDs xs ys), u.2) else R.bad) _ := gu
  split at gu
  · rename_i hl
    obtain ⟨v, w, rfl, rv, rw'⟩ := two2_v hv e2
    obtain ⟨p1, us, rfl, hr, sx⟩ := asL_v rv ex
    obtain ⟨p2, ws, rfl, hr2, sy⟩ := asL_v rw' ey
    have hlen : us.length = ws.length := by rw [← hr.length, ← hr2.length]; exact hl
    refine ⟨p1, p2, us, ws, bx, by', rfl, sx (Same.refl _) R1.sub, sy (Same.refl _) R1.sub, hlen, fun S Ts H' hT Z => ?_⟩
    obtain ⟨F2, H2, g2, hS, rfl, rr⟩ := Z.parts R1.sub hT hlen hr hr2
    exact gu _ F2 _ ((R1.gr g2).newL hS rr) (s1.trans g2.f)
  · exact gu.elim
end
end GX
/-! GXH: a head of our own: any test of the fragment as a fact; defs at any address. -/
namespace GX
open PySem PySem.Spec PyProof.Rows L2
abbrev Fac : Type := PySem.W.Frag → Bool
def seenX (fa : List Fac) (fn : List He5.DefA) (K : PySem.W.Frag) : He.AlD := (fa.all (fun t => t K) && fn.all (fun d => d.ok K), fn.map fun d => He5.fnA K (d.at_ K))
def dueX (fn : List He5.DefA) : He.AlD := (true, fn.map He5.DefA.val)
def SaysX (fa : List Fac) (fn : List He5.DefA) (K : PySem.W.Frag) : Prop := seenX fa fn K = dueX fn
def obsX (n : Nat) (fa : List Fac) (fn : List He5.DefA) (g : Addr → Option Obj) : He.AlD := seenX fa fn (He.frG g (He5.asA g n))
def hookX (n : Nat) (fa : List Fac) (fn : List He5.DefA) : PySem.W.Hook :=
  { α := He.AlD
    obs := fun s => obsX n fa fn s.heap.get?
    val := fun _ => dueX fn
    says := fun _ h => ∃ K : PySem.W.Frag, K.In h ∧ SaysX fa fn K
    of := fun _ _ e => ⟨_, He.frG_in, e⟩
    keeps := fun _ _ _ ⟨K, hK, c⟩ k => ⟨K, PySem.W.Frag.In.keeps hK k, c⟩ }
theorem obsX_eq {n : Nat} {fa : List Fac} {fn : List He5.DefA} {g : Addr → Option Obj} {s : Shared} (h : ∀ a, g a = s.heap.get? a) : obsX n fa fn g = (hookX n fa fn).obs s := by
  have : g = s.heap.get? := funext h
  subst this
  rfl
theorem SaysX.both {fa : List Fac} {fn : List He5.DefA} {K : PySem.W.Frag} (c : SaysX fa fn K) : (∀ t ∈ fa, t K = true) ∧ ∀ d ∈ fn, d.ok K = true := by
  have h : (fa.all (fun t => t K) && fn.all (fun d => d.ok K)) = true := congrArg Prod.fst c
  obtain ⟨a, b⟩ := Bool.and_eq_true_iff.mp h
  exact ⟨List.all_eq_true.mp a, List.all_eq_true.mp b⟩
theorem SaysX.fact {fa : List Fac} {fn : List He5.DefA} {K : PySem.W.Frag} (c : SaysX fa fn K) (i : Nat) {t : Fac} (h : fa[i]? = some t := by rfl) : t K = true := c.both.1 t (List.mem_of_getElem? h)
theorem SaysX.fun_ {fa : List Fac} {fn : List He5.DefA} {K : PySem.W.Frag} (c : SaysX fa fn K) (i : Nat) {d : He5.DefA} (h : fn[i]? = some d := by rfl) :
    ∃ fd, FunD K d.name d.qual d.params d.body d.scope (d.dvs K) (d.kws K) (d.at_ K) fd := by
  refine He5.DefA.funD ?_ (c.both.2 d (List.mem_of_getElem? h))
  have e : (fn.map fun d => He5.fnA K (d.at_ K)) = fn.map He5.DefA.val := congrArg Prod.snd c
  have e2 := congrArg (fun l => l[i]?) e
  simp only [List.getElem?_map, h, Option.map_some] at e2
  exact Option.some.inj e2
/-! ### the facts -/
def fHe (f : He.Fa) : Fac := fun K => f.ok K
def fTup (x : Str) (vs : List He.Dv) : Fac := fun K => He.tupB K x vs
/-- the getter of a property -/
def pgA (C m : Str) : PySem.W.Frag → Addr := fun K => match PySem.W.recIn K (He.ma K (He.ga K C) m) "property" with
  | some (.ref f :: _) => f
  | _ => 0
def fProp (C m : Str) : Fac := fun K => He.eqO (PySem.W.findIn K (.ref (He.ga K C)) m) (some (some (.ref (He.ma K (He.ga K C) m)))) && (He.eqO (PySem.W.specialIn K (.ref (He.ma K (He.ga K C) m)) "__get__") (some (some (.builtin "property.__get__"))) &&
  (decide (PySem.W.takesIn K (.ref (He.ma K (He.ga K C) m)) = some true) && (match PySem.W.recIn K (He.ma K (He.ga K C) m) "property" with
    | some (.ref _ :: _) => true
    | _ => false)))
theorem prop_ok {K : PySem.W.Frag} {C m : Str} (h : fProp C m K = true) : PropOf K (He.ga K C) m (He.ma K (He.ga K C) m) (pgA C m K) := by
  obtain ⟨a, h⟩ := Bool.and_eq_true_iff.mp h
  obtain ⟨b, h⟩ := Bool.and_eq_true_iff.mp h
  obtain ⟨c, d⟩ := Bool.and_eq_true_iff.mp h
  refine ⟨He.eqO_ok a, He.eqO_ok b, of_decide_eq_true c, ?_⟩
  unfold pgA
  split at d
  · rename_i f r e
    exact ⟨r, by rw [e]⟩
  · cases d
/-- the def of a staticmethod -/
def stA (C m : Str) : PySem.W.Frag → Addr := fun K => He5.wf K (He.ga K C) "staticmethod" m
def fStat (C m : Str) : Fac := fun K => He5.wrapB K (He.ga K C) "staticmethod" "staticmethod.__get__" m && (PySem.W.readsIn K (He.ga K C) (.type "type") && PySem.W.keepIn K (.ref (stA C m K)))
theorem stat_ok {K : PySem.W.Frag} {C m : Str} (h : fStat C m K = true) : SMet K (He.ga K C) m (He.ma K (He.ga K C) m) (stA C m K) := by
  obtain ⟨a, h⟩ := Bool.and_eq_true_iff.mp h
  obtain ⟨b, c⟩ := Bool.and_eq_true_iff.mp h
  obtain ⟨h1, h2⟩ := He5.wrapB_ok a
  refine ⟨⟨b, ?_⟩, h1, h2, c⟩
  unfold PySem.W.readsIn at b
  simp only [Bool.and_eq_true, beq_iff_eq] at b
  obtain ⟨⟨⟨⟨_, u⟩, v⟩, _⟩, _⟩ := b
  unfold PySem.W.specialIn
  rw [u]
  exact v
/-! ### a def that keeps its promise, under its name -/
def Got (P : Program) (w : World) (K : PySem.W.Frag) (mg : Str → Option Value) (base : Heap) (k : Nat) (a : Addr) (ps : List Str) (f : Fn) : Prop :=
  ∃ fd, FnOk P w K mg base (L2.CX P w) k a fd ps (spF K f) ∧ PySem.W.keepIn K (.ref a) = true ∧ Binds K fd ps []
section
variable {P : Program} {w : World} {K : PySem.W.Frag} {mg : Str → Option Value} {base : Heap} {A : Around} {k j : Nat} {x : Str} {ps : List Str} {f : Fn} {a C : Addr} {m : Str}
theorem Got.cal (G : Got P w K mg base k a ps f) (hr : Room j A) (hj : k ≤ j) (hm : mg x = some (.ref a)) : Cal P w K mg base A x ps (spF K f) := by
  obtain ⟨fd, F, kp, b⟩ := G
  exact ⟨k, a, fd, F, hr.mono hj, hm, kp, b⟩
theorem Got.calM (G : Got P w K mg base k a ps f) (hr : Room j A) (hj : k ≤ j) (M : Meth K C m a) (hC : Cls K C) : CalM P w K mg base A C m ps (spF K f) := by
  obtain ⟨fd, F, kp, b⟩ := G
  exact ⟨k, a, fd, F, hr.mono hj, M, b, hC⟩
theorem Got.calN (G : Got P w K mg base k a ps f) (hr : Room j A) (hj : k + 1 ≤ j) (hm : mg x = some (.ref C)) (M : Mk K C a) : CalN P w K mg base A x C ps (spF K f) := by
  obtain ⟨fd, F, kp, b⟩ := G
  exact ⟨k, a, fd, F, hr.mono hj, hm, M, b⟩
theorem Got.calL (G : Got P w K mg base k a ps f) (hr : Room j A) (hj : k + 1 ≤ j) (M : Meth K C "__len__" a) : CalL P w K mg base A C ps (spF K f) := by
  obtain ⟨fd, F, kp, b⟩ := G
  exact ⟨k, a, fd, F, hr.mono hj, M.1, M.2, b⟩
theorem Got.calP {p : Addr} (G : Got P w K mg base k a ps f) (hr : Room j A) (hj : k + 1 ≤ j) (M : PropOf K C m p a) (hC : Cls K C) : CalP P w K mg base A C m ps (spF K f) := by
  obtain ⟨fd, F, kp, b⟩ := G
  exact ⟨k, p, a, fd, F, hr.mono hj, M, b, hC⟩
theorem Got.calS {p : Addr} (G : Got P w K mg base k a ps f) (hr : Room j A) (hj : k ≤ j) (S : SMet K C m p a) (hm : mg x = some (.ref C)) : CalS P w K mg base A x C m ps (spF K f) := by
  obtain ⟨fd, F, kp, b⟩ := G
  exact ⟨k, p, a, fd, F, hr.mono hj, S, b, hm⟩
end
end GX
/-! GXQ: tests of chains and of dict keys, += at an item, a comprehension's list as data in a slot. -/
namespace GX
open PySem PySem.Spec PyProof.Rows L2
section
variable {X : Cx} {W : WX} {K : PySem.W.Frag} {Γ : Fm} {F H : Hp} {σ : L2.St} {δ : List Sl}
variable {a b c e : Expr} {ma mb mc me : ME} {na nb : MX} {pos : Pos}
theorem bi_ipAdd : BinD K (ipI fun i j => i + j) addI := by
  intro F H x y dx dy d Q s rx ry e w
  cases dx <;> try (cases e; done)
  cases dy <;> try (cases e; done)
  cases e
  exact ⟨_, _, rx.int, ry.int, w.here s rInt⟩
theorem jt_chain {op op' : CmpOp} {r r' : R2} {f g : D → D → Option D} (ho : OpR X (compareOp op) r) (ho' : OpR X (compareOp op') r') (hd : BinD X.K r f) (hd' : BinD X.K r' g) (ha : JE X W a ma) (hb : JE X W b mb) (hc : JE X W c mc)
    (hm : lastMarks [op, op'] [b, c] = false := by with_unfolding_all rfl) : JT X W (.Compare a [op, op'] [b, c] pos) (mB (mChain f g ma mb mc)) := by
  obtain ⟨ta, pa, ea⟩ := ha.ex
  obtain ⟨tb, pb, eb⟩ := hb.ex
  obtain ⟨tc, pc, ec⟩ := hc.ex
  exact ⟨_, pt_chain ho ho' pa pb pc hm, fun Γ => evTest (evChain hd hd' (ea Γ) (eb Γ) (ec Γ))⟩
theorem EvX.toE {t : TE} {m : MX} (q : EvX K t m) : EvE K Γ W t (mX m) := fun δ σ F H Q r g => by
  obtain ⟨d, e, g⟩ := Gd.obind g
  exact q Γ δ σ F H Q d r e fun v F' H' g' h => g v F' H' (r.gr g') g'.f h
theorem jt_din (hu : X.A.units + 1 < cLine) (ha : JR X a na) (hb : JR X b nb) (hm : behindInMarks .In b = false := by rfl) : JT X W (.Compare a [.In] [b] pos) (mB (mX (xBin (dInD false) na nb))) := by
  obtain ⟨ta, pa, qa⟩ := ha.ex
  obtain ⟨tb, pb, qb⟩ := hb.ex
  refine ⟨_, pt_cmp (pc_din hu pa pb) hm, fun Γ => evB (EvX.toE fun Γ δ σ F H Q d r g k => ?_)⟩
  obtain ⟨x, ex, g⟩ := obind g
  obtain ⟨y, ey, g⟩ := obind g
  refine qa Γ δ σ F H _ x r ex fun v F1 H1 g1 rv => qb Γ δ σ F1 H1 _ y (r.gr g1) ey fun w F2 H2 g2 rw' => ?_
  cases y with
  | dK ks ds =>
    unfold dInD at g
    dsimp only at g
    cases ek : keyD x with
    | none => rw [ek] at g; cases g
    | some k' =>
      rw [ek] at g
      cases g
      obtain ⟨p, o, rfl, hd, hs, _⟩ := dget_of g2.s (rv.mono g2) rw' ek
      dsimp only at k
      rw [← hs, Bool.false_xor] at k
      exact ⟨p, o, rfl, hd, k _ F2 H2 (g1.trans g2) rBl⟩
  | _ => cases g
theorem jt_dnotin (hu : X.A.units + 1 < cLine) (ha : JR X a na) (hb : JR X b nb) (hm : behindInMarks .NotIn b = false := by rfl) : JT X W (.Compare a [.NotIn] [b] pos) (mB (mX (xBin (dInD true) na nb))) := by
  obtain ⟨ta, pa, qa⟩ := ha.ex
  obtain ⟨tb, pb, qb⟩ := hb.ex
  refine ⟨_, pt_cmp (pc_dnotin hu pa pb) hm, fun Γ => evB (EvX.toE fun Γ δ σ F H Q d r g k => ?_)⟩
  obtain ⟨x, ex, g⟩ := obind g
  obtain ⟨y, ey, g⟩ := obind g
  refine qa Γ δ σ F H _ x r ex fun v F1 H1 g1 rv => qb Γ δ σ F1 H1 _ y (r.gr g1) ey fun w F2 H2 g2 rw' => ?_
  cases y with
  | dK ks ds =>
    unfold dInD at g
    dsimp only at g
    cases ek : keyD x with
    | none => rw [ek] at g; cases g
    | some k' =>
      rw [ek] at g
      cases g
      obtain ⟨p, o, rfl, hd, hs, _⟩ := dget_of g2.s (rv.mono g2) rw' ek
      dsimp only at k
      rw [← hs, Bool.true_xor] at k
      exact ⟨p, o, rfl, hd, k _ F2 H2 (g1.trans g2) rBl⟩
  | _ => cases g
/-- a new own thing in a slot may be frozen at once -/
theorem JS.fz {st : Stmt} {i : Nat} {mo : MO} (h : JS X W st (mSetO i mo)) : JS X W st (mSet i (mFz mo)) := by
  obtain ⟨t, p, q⟩ := h.ex
  refine ⟨t, p, fun Γ δ σ F H En r g => q Γ δ σ F H En r ?_⟩
  unfold mSetO
  unfold mSet mFz at g
  cases e : mo δ with
  | bad => rw [e] at g; exact g.elim
  | err u δ' => rw [e] at g; exact g
  | ok p1 =>
    obtain ⟨tr, δ1⟩ := p1
    rw [e] at g
    show GdS X.K Γ W F En (GX.stor i (.ow tr) δ1 >>= fun δ' => .ok (.nx δ'))
    have g : GdS X.K Γ W F En (GX.stor i (.im tr.dat) δ1 >>= fun δ' => .ok (.nx δ')) := g
    unfold GX.stor at g ⊢
    cases hs : δ1[i]? with
    | none => rw [hs] at g; exact g.elim
    | some s =>
      rw [hs] at g
      have fin : (∀ σ F' H', Rl X.K Γ F' H' σ (δ1.set i (.im tr.dat)) → Same F F' → En.nx σ H') → ∀ σ F' H', Rl X.K Γ F' H' σ (δ1.set i (.ow tr)) → Same F F' → En.nx σ H' := fun k σ F' H' r' s' => by
        have hl : i < δ1.length := (List.getElem?_eq_some_iff.mp hs).1
        obtain ⟨_, F2, _, r2, s2, _⟩ := r'.freeze (i := i) (t := tr) (by rw [List.getElem?_set_self hl])
        rw [List.set_set] at r2
        exact k σ F2 H' r2 (s'.trans s2)
      cases s with
      | io _ => exact g.elim
      | un => exact fin g
      | im _ => exact fin g
      | ow _ => exact fin g
end
end GX
set_option maxHeartbeats 8000000
/-! GXV: len(set(texts)), of any texts. -/
namespace GX
open PySem PySem.Spec PyProof.Rows L2
/-- how many unlike ones, the last one first -/
def unl : List Str → Nat
  | [] => 0
  | x :: l => if l.any (· == x) then unl l else unl l + 1
theorem unl_le : ∀ l : List Str, unl l ≤ l.length
  | [] => Nat.le_refl _
  | x :: l => by
    have := unl_le l
    unfold unl
    split <;> simp <;> omega
/-- the texts so far, as a set's table has them -/
abbrev SetSo (prog : Program) (w : World) (h : Heap) (S : Addr) (ys : List Str) : Prop := h.SetOf (PySem.strKind prog w) S (fun z => ys.any (· == z)) (unl ys.reverse)
section
variable {prog : Program} {w : World} {A : Around} {R : Result → Shared → Prop} {I : Addr} {fp wr : List Addr} {G : Array GenState → Array GenState → Prop} {n : Nat} {P : Nat → Value → Prop} {St : Nat → Shared → Prop}
theorem SetSo.kept {h h' : Heap} {S : Addr} {ys : List Str} (hS : SetSo prog w h S ys) (k : ∀ o, h.get? S = some o → h'.get? S = some o) : SetSo prog w h' S ys := by
  obtain ⟨o, es, ep, t, ho, r⟩ := hS
  exact ⟨o, es, ep, t, k o ho, r⟩
theorem SetSo.snoc {h : Heap} {S : Addr} {ys : List Str} {x : Str} (hS : h.SetOf (PySem.strKind prog w) S (fun z => (ys.any (· == z)) || decide (z = x)) (if (ys.any (· == x)) = true then unl ys.reverse else unl ys.reverse + 1)) : SetSo prog w h S (ys ++ [x]) := by
  refine SetOf_congr hS (fun z => ?_) ?_
  · rw [List.any_append]
    congr 1
    by_cases e : z = x
    · subst e; simp
    · have e2 : (x == z) = false := by simpa [beq_iff_eq] using fun q : x = z => e q.symm
      simp [e, e2]
  · rw [List.reverse_append]
    show _ = unl (x :: ys.reverse)
    rw [unl, List.any_reverse]
theorem set_loop (W : WalksS prog w A.in1 I fp wr G n P St) (S : Addr) (hSf : S ∉ fp) (xs : List Str) (hsz : xs.length = n) (hn : n + 1 < scanBound) (hval : ∀ i v, P i v → ∃ t, v = .str (xs.getD i Str.empty) t) :
    ∀ (d i : Nat) (s : Shared), n - i = d → i ≤ n → St i s → SetSo prog w s.heap S (xs.take i) →
      (∀ s', Moved (S :: wr) G s s' → SetSo prog w s'.heap S xs → R (.ok (.ret .none)) s') → codeAny (model prog w) A (.builtin "set.update.loop" ⟨[.ref S, .ref I], []⟩) R s := by
  have nw : S ∉ wr := fun z => hSf (W.sub _ z)
  have sub : ∀ b ∈ wr, b ∈ S :: wr := fun b z => .tail _ z
  intro d
  induction d with
  | zero =>
    intro i s hd hi st hS k
    have e : i = xs.length := by omega
    refine codeAny_builtin PyProof.Rows.F.entry_set_update_loop ?_
    rw [Around.under_plainId PyProof.Rows.F.plain_set_update_loop _]
    have st : St n s := (show i = n by omega) ▸ st
    refine wpAny_bind (W.done s _ _ st fun s' m => ?_)
    rw [e, List.take_length] at hS
    show wpAny _ A.in1 (ret Value.none) _ _ s'
    refine wpAny_pure (k s' (m.mono sub) (SetSo.kept hS fun o z => m.heap S o nw z))
  | succ d ih =>
    intro i s hd hi st hS k
    have lt : i < n := by omega
    have lx : i < xs.length := by omega
    refine codeAny_builtin PyProof.Rows.F.entry_set_update_loop ?_
    rw [Around.under_plainId PyProof.Rows.F.plain_set_update_loop _]
    refine wpAny_bind (W.item i s _ _ lt st fun v s1 hP st1 m1 => ?_)
    obtain ⟨t, rfl⟩ := hval i v hP
    have ex : xs.getD i Str.empty = xs[i] := by rw [List.getD_eq_getElem?_getD, List.getElem?_eq_getElem lx]; rfl
    rw [ex]
    have hS1 : SetSo prog w s1.heap S (xs.take i) := SetSo.kept hS fun o z => m1.heap S o nw z
    refine wpAny_bind (wpAny_holding ?_)
    unfold setAdd
    refine wpAny_holding (wpAny_bind ((PySem.strKind prog w).pyHash (k := xs[i]) (strKind_is _ _ _ _) ?_))
    refine wpAny_setAddHashed_of (knd := PySem.strKind prog w) (s := { s1 with toks := s1.toks + 1 }) (strKind_is _ _ _ _) rfl hS1 ?_ fun h' same hS2 => ?_
    · have := unl_le (xs.take i).reverse
      rw [List.length_reverse, List.length_take] at this
      omega
    · have hS3 : SetSo prog w h' S (xs.take (i + 1)) := by
        rw [List.take_succ, List.getElem?_eq_getElem lx]
        exact SetSo.snoc hS2
      refine wpAny_pure ⟨plainId_quiet PyProof.Rows.F.plain_set_update_loop _, ih (i + 1) _ (by omega) lt (W.frame _ s1 _ _ st1 (Nat.le_succ _) fun b hb o z => ?_) hS3 fun s2 m2 hf => k s2 (Moved.trans W.gtrans ((m1.mono sub).then_heap (Nat.le_succ _) fun b o hb z => ?_) m2) hf⟩
      · exact (same.2 b fun q => hSf (q ▸ hb)).trans z
      · exact (same.2 b fun q => hb (q ▸ .head _)).trans z
end
section
variable {prog : Program} {w : World} {A : Around} {E : Value → Shared → Prop} {s : Shared}
/-- an empty set that stands -/
abbrev set0 (led : Bool) : Obj := { cls := .type "set", dict := none, data := .set #[] 0 (.fresh 0 0 led) }
set_option maxHeartbeats 8000000 in
theorem call_set_txt {T : String} {l : Addr} {od : Option Addr} {ol : Obj} {items : Array Value} {xs : List Str} {Q : Value → Shared → Prop} (hh : A.handled = none) (hol : s.heap.get? l = some ol) (hcl : ol.cls = .type T)
    (s1 : isSubtype (.type T) (.type "set") = pure false) (s2 : isSubtype (.type T) (.type "frozenset") = pure false) (hne : (Value.type T == Value.type "dict") = false)
    (src : ∀ (A : Around) (h : Heap), A.handled = none → s.heap.objs.size < h.objs.size → h.get? l = some ol → ∃ oi : Obj, oi.isFreed = false ∧ (∀ (B : Around) (g : Array GenState) (d : Drawn) (t : Nat) (os : OsState) (E : Value → Shared → Prop) (Q : Value → Shared → Prop), Q (.ref h.objs.size) ⟨h.push oi, g, d, t, os⟩ → wpAny (model prog w) B (pyIter (.ref l)) Q E ⟨h, g, d, t, os⟩) ∧
      ∃ St, Walks prog w A h.objs.size [h.objs.size, l] [h.objs.size] items.size (fun i v => items[i]? = some v) St ∧ St 0 (h.push oi))
    (hi : StrsAre items.toList xs) (hz : xs.length + 1 < scanBound)
    (k : ∀ (h' : Heap) (tk : Nat), SetSo prog w h' s.heap.objs.size xs → (∀ b o, b < s.heap.objs.size → s.heap.get? b = some o → h'.get? b = some o) → Q (.ref s.heap.objs.size) { s with heap := h', toks := tk }) :
    wpAny (model prog w) A (call (.type "set") [.ref l]) Q E s := by
  obtain ⟨c, tl, hmro⟩ := PySem.F.called_set.mro
  have x1 := PySem.F.called_set.made
  have x2 := PySem.F.called_set.sub
  have x3 := PySem.F.called_set.notType
  have x4 := PySem.F.called_set.canCreate
  have x5 := PySem.F.typeCall_set_1 (.ref l)
  refine wpAny_call (codeAny_of_tree (show wpAny _ _ (callAny (.type "set") _) _ _ _ from ?_))
  refine wpAny_pure ⟨Code.quiet_builtin _ (by decide +kernel), codeAny_builtin PySem.F.entry_type_call ?_⟩
  rw [Around.under_plain (weight_type_call_type "set" [.ref l] []) rfl]
  repeat (any_goals (first | assumption | wp_step))
  refine codeAny_mono (code_set_new_1 (.ref l) (E := E) (Q₁ := fun v u => ∃ led : Bool, v = .ref s.heap.objs.size ∧ u = { s with heap := s.heap.push (set0 led) }) fun led => ⟨led, rfl, rfl⟩) fun r u hr => ?_
  cases r with
  | error e => exact hr
  | ok fl => cases fl with
    | ret obj =>
      obtain ⟨led, rfl, rfl⟩ := hr
      have g0 : (s.heap.push (set0 led)).get? s.heap.objs.size = some (set0 led) := Heap.get?_push_size _ rfl
      have ty : Shared.TypeIs { s with heap := s.heap.push (set0 led) } (.ref s.heap.objs.size) "set" := ⟨_, g0, rfl⟩
      have x6 := PySem.F.called_set.init.lookup
      have x7 := PySem.F.called_set.init.bind (.ref s.heap.objs.size)
      repeat (any_goals (first | assumption | wp_step))
      refine codeAny_mono (codeAny_call_builtin (R := wants (fun r u => r = .none ∧ ∃ h' tk, u = { s with heap := h', toks := tk } ∧ SetSo prog w h' s.heap.objs.size xs ∧ ∀ b o, b < s.heap.objs.size → s.heap.get? b = some o → h'.get? b = some o) E)
        PySem.F.called_set.init.plain PySem.F.entry_set_init (check_set_init_1 ty ?_)) fun r2 u2 hr2 => ?_
      · obtain ⟨oc, od, odt, osl⟩ := ol
        simp only at hcl
        subst hcl
        have gl : (s.heap.push (set0 led)).get? l = some { cls := .type T, dict := od, data := odt, slots := osl } := Heap.get?_push_of_some _ hol
        have hh3 : A.in1.in1.in1.handled = none := by simp [hh]
        have ll : l < s.heap.objs.size := Heap.lt_size hol
        obtain ⟨oi, fr, it, St, W, st0⟩ := src A.in1.in1.in1 (s.heap.push (set0 led)) hh3 (by rw [Heap.size_push]; exact Nat.lt_succ_self _) gl
        unfold Builtin.«set.__init__» noKeywords Builtin.Frozenset.updateFrom
        generalize hPI : pyIter = PI
        wp_walk
        subst hPI
        refine it _ _ _ _ _ _ _ ?_
        refine wpAny_bind (wpAny_runValue ?_)
        have nS : s.heap.objs.size ∉ [(s.heap.push (set0 led)).objs.size, l] := by
          rw [Heap.size_push]
          simp only [List.mem_cons, List.not_mem_nil, or_false, not_or]
          exact ⟨Nat.ne_of_lt (Nat.lt_succ_self _), Nat.ne_of_gt ll⟩
        have sz : xs.length = items.size := by rw [← StrsAre.len_eq hi, Array.length_toList]
        refine set_loop W.toS s.heap.objs.size nS xs sz (by rw [← sz]; exact hz) (fun i v hv => SS.strs_at hi i v (by rw [Array.getElem?_toList]; exact hv)) (items.size - 0) 0 _ (by omega) (Nat.zero_le _) st0 ?_ fun s' m hS => ?_
        · exact SetOf_congr ((setObjOf_fresh (knd := PySem.strKind prog w) led).setOf (Heap.get?_push_of_some _ g0) (by unfold scanBound; omega)) (fun _ => by rw [List.take_zero]; rfl) rfl
        · obtain ⟨h', g', d', tk', os'⟩ := s'
          have e1 : g' = s.gens := m.gens
          have e2 : d' = s.drawn := m.drawn
          have e3 : os' = s.os := m.os
          subst e1 e2 e3
          refine wpAny_pure (show wpAny _ _ (ret Value.none) _ _ _ from wpAny_pure ⟨rfl, h', tk', rfl, hS, fun b o hb z => ?_⟩)
          refine m.heap b o ?_ (Heap.get?_push_of_some _ (Heap.get?_push_of_some _ z))
          rw [Heap.size_push]
          simp only [List.mem_cons, List.not_mem_nil, or_false, not_or]
          exact ⟨Nat.ne_of_lt hb, Nat.ne_of_lt (Nat.lt_succ_of_lt hb)⟩
      · cases r2 with
        | error e => exact hr2
        | ok fl2 => cases fl2 with
          | ret v =>
            obtain ⟨rfl, h', tk, rfl, hS, hk⟩ := hr2
            repeat (any_goals (first | assumption | wp_step))
            exact k _ _ hS hk
          | _ => exact hr2.elim
    | _ => exact hr.elim
end
end GX
/-! GXU: len(set(texts)) as an expression. -/
namespace GX
open PySem PySem.Spec PyProof.Rows L2
def lenSetD : D → Option D
  | .lst ds => (strsD ds).bind fun ys => if ys.length < 1000 then some (.int (unl ys.reverse : Nat)) else none
  | .tup ds => (strsD ds).bind fun ys => if ys.length < 1000 then some (.int (unl ys.reverse : Nat)) else none
  | _ => none
def tLenSetX (K : PySem.W.Frag) (ta : TE) : TE := fun σ H Q => ta σ H fun x H1 => ∃ (l : Addr) (ys : List Str), x = .ref l ∧ (SqL K H1 l (ys.map V.str) ∨ SqT K H1 l (ys.map V.str)) ∧ ys.length < 1000 ∧ Q (.int (unl ys.reverse : Nat)) H1
section
variable {X : Cx} {K : PySem.W.Frag} {F H : Hp}
theorem pe_lenSetX {a : Expr} {ta : TE} {p p2 q pos : Pos} (hc : X.calm = true) (hg : Gl X "len") (hm : X.mg "len" = none) (hg2 : Gl X "set") (hm2 : X.mg "set" = none) (ha : PE X a ta)
    (na : starEach [a] X.env = (false, eval a X.env) :: starEach [] X.env := by rfl) : PE X (.Call (.Name "len" p) [.Call (.Name "set" p2) [a] [] q] [] pos) (tLenSetX X.K ta) := by
  refine ⟨fun pins s σ H Q I h => Call_ (ld_blt I hg hm boot_len (PyProof.Rows.callWith_builtin1 (PyProof.Rows.args_cons ?_ rfl) rfl rfl))⟩
  refine Call_ (ld_blt I hg2 hm2 boot_set (PyProof.Rows.callWith_type1 (PyProof.Rows.args_cons (thn (ha.run pins s σ H _ I h) fun v s1 ⟨x, H1, I1, r1, q1⟩ => PyProof.Rows.args_nil ?_) na) na rfl))
  obtain ⟨l, ys, rfl, hq, hz, q1⟩ := q1
  cases r1
  have big : ys.length + 1 < scanBound := by unfold scanBound; omega
  have fin : ∀ (h' : Heap) (tk : Nat), SetSo X.prog X.w h' s1.heap.objs.size ys → (∀ b o, b < s1.heap.objs.size → s1.heap.get? b = some o → h'.get? b = some o) →
      wpAny (model X.prog X.w) X.A (spliced (backTo pos (starEach [] X.env))) (fun vs u => wpAny (model X.prog X.w) X.A (call (.builtin "len") (Value.ref s1.heap.objs.size :: vs)) (EP X pins σ Q) X.xe u) X.xe { s1 with heap := h', toks := tk } := fun h' tk hS hk => by
    refine PyProof.Rows.args_nil ?_
    obtain ⟨o, es, ep, t, ho, hex, hd, _, _, _, hf, hn⟩ := hS
    have I2 : Inv X pins σ H1 { s1 with heap := h', toks := tk } := I1.kept fun b o e => hk b o (Heap.lt_size e) e
    have le := unl_le ys.reverse
    rw [List.length_reverse] at le
    exact call_len_set ho hex hd hf (by rw [hn]; omega) ⟨.int (unl ys.reverse : Nat), H1, I2.tok _, ⟨_, by rw [hn]⟩, q1⟩
  rcases hq with hq | hq
  · obtain ⟨its, r, pl, _⟩ := I1.list hq
    obtain ⟨ol, hol, hcl, nl, hdl⟩ := id pl.isList
    refine call_set_txt (od := none) (items := its.toArray) (I1.ok.hd hc) hol hcl PySem.F.sub_list_set PySem.F.sub_list_frozenset (by decide) (fun A h hh hs hg => ⟨_, ?_, fun B g d t os E Q q => wpAny_pyIter_list ⟨ol, hg, hcl, nl, hdl⟩ q, _, Walks.list hh h.objs.size l (Nat.ne_of_lt (Nat.lt_trans (Heap.lt_size hol) hs)) its.toArray, ⟨⟨_, Heap.get?_push_size _ rfl, rfl, rfl⟩, Heap.IsList.push ⟨ol, hg, hcl, nl, hdl⟩ _⟩⟩) (by simpa using strsAre_of r) big fin
    rfl
  · obtain ⟨its, r, pl, _⟩ := I1.tuple hq
    obtain ⟨ol, hol, hcl, nl, hdl⟩ := id pl
    refine call_set_txt (od := none) (items := its.toArray) (I1.ok.hd hc) hol hcl PySem.F.sub_tuple_set PySem.F.sub_tuple_frozenset (by decide) (fun A h hh hs hg => ⟨_, ?_, fun B g d t os E Q q => wpAny_pyIter_tuple ⟨ol, hg, hcl, nl, hdl⟩ q, _, Walks.tuple hh h.objs.size l (Nat.ne_of_lt (Nat.lt_trans (Heap.lt_size hol) hs)) its.toArray, ⟨⟨_, Heap.get?_push_size _ rfl, rfl, rfl⟩, Heap.IsTuple.push ⟨ol, hg, hcl, nl, hdl⟩ _⟩⟩) (by simpa using strsAre_of r) big fin
    rfl
theorem jx_lenSet {a : Expr} {m : MX} {p p2 q pos : Pos} (hc : X.calm = true) (hm : X.mg "len" = none) (hm2 : X.mg "set" = none) (ha : JR X a m) (hg : Gl X "len" := by rfl) (hg2 : Gl X "set" := by rfl)
    (na : starEach [a] X.env = (false, eval a X.env) :: starEach [] X.env := by rfl) : JX X (.Call (.Name "len" p) [.Call (.Name "set" p2) [a] [] q] [] pos) (xUn lenSetD m) := by
  obtain ⟨ta, pa, ea⟩ := ha.ex
  refine ⟨_, pe_lenSetX hc hg hm hg2 hm2 pa na, fun Γ δ σ F H Q d hR g k => ?_⟩
  obtain ⟨x, ex, g⟩ := obind g
  refine ea Γ δ σ F H _ x hR ex fun v F1 H1 g1 rv => ?_
  cases x with
  | lst ds =>
    obtain ⟨ys, ey, g⟩ := obind (show (strsD ds).bind _ = _ from g)
    split at g
    · rename_i hl
      cases g
      obtain ⟨p, vs, rfl, hp, hr⟩ := rv.lst g1.s
      exact ⟨p, ys, rfl, .inl (SqL.of (by rw [← strsD_v ey hr]; exact hp)), hl, k _ F1 H1 g1 (by simp only [Rep])⟩
    · cases g
  | tup ds =>
    obtain ⟨ys, ey, g⟩ := obind (show (strsD ds).bind _ = _ from g)
    split at g
    · rename_i hl
      cases g
      obtain ⟨p, vs, rfl, hp, hr⟩ := rv.tup g1.s
      exact ⟨p, ys, rfl, .inr (by rw [← strsD_v ey hr]; exact hp), hl, k _ F1 H1 g1 (by simp only [Rep])⟩
    · cases g
  | _ => cases g
end
end GX
set_option maxHeartbeats 4000000
/-! GXW: a if c else b, of our own; three keywords. -/
namespace GX
open PySem PySem.Spec PyProof.Rows L2
section
variable {X : Cx} {W : WX} {K : PySem.W.Frag}
def mIfO (c : MT) (m n : MO) : MO := fun δ => c δ >>= fun p => if p.1 = true then m p.2 else n p.2
theorem jo_if {a b c : Expr} {pos : Pos} {mt : MT} {ma mb : MO} (hc : JT X W c mt) (ha : JO X W a ma) (hb : JO X W b mb) : JO X W (.IfExp c a b pos) (mIfO mt ma mb) := by
  obtain ⟨t, p, q⟩ := hc.ex
  obtain ⟨t1, p1, q1⟩ := ha.ex
  obtain ⟨t2, p2, q2⟩ := hb.ex
  refine ⟨_, pe_ifExp p p1 p2, fun Γ δ σ F H Q hR g => ?_⟩
  refine q Γ δ σ F H _ hR ((Gd.bind.mp g).mono fun r gr F1 H1 R1 s1 => ?_)
  obtain ⟨k, δ1⟩ := r
  cases k with
  | true => exact q1 Γ δ1 σ F1 H1 _ R1 (Gd.mono gr fun r hr v F2 H2 R2 s2 => hr v F2 H2 R2 (s1.trans s2))
  | false => exact q2 Γ δ1 σ F1 H1 _ R1 (Gd.mono gr fun r hr v F2 H2 R2 s2 => hr v F2 H2 R2 (s1.trans s2))
def GotK (P : Program) (w : World) (K : PySem.W.Frag) (mg : Str → Option Value) (base : Heap) (k : Nat) (a : Addr) (ps ks : List Str) (gV : List V → List V → List V) (f : Fn) : Prop :=
  ∃ fd g, FnOk P w K mg base (L2.CX P w) k a fd ps (spF K f) ∧ PySem.W.keepIn K (.ref a) = true ∧ KBinds K fd ps ks g gV
theorem GotK.cal {P : Program} {w : World} {mg : Str → Option Value} {base : Heap} {A : Around} {k j : Nat} {x : Str} {ps ks : List Str} {gV : List V → List V → List V} {f : Fn} {a : Addr} (G : GotK P w K mg base k a ps ks gV f) (hr : Room j A) (hj : k ≤ j) (hm : mg x = some (.ref a)) : CalK P w K mg base A x ps ks gV (spF K f) := by
  obtain ⟨fd, g, F, kp, b⟩ := G
  exact ⟨k, a, fd, g, F, hr.mono hj, hm, kp, b⟩
/-- no positional values, three keywords: the last one written first -/
def k3 {α : Type} : List α → List α → List α
  | [], [z, x, y] => [x, y, z]
  | _, _ => []
theorem k3_len {α : Type} {us ws : List α} (h : (k3 us ws).length = 3) : us = [] ∧ ∃ z x y, ws = [z, x, y] := by
  match us, ws, h with
  | [], [z, x, y], _ => exact ⟨rfl, z, x, y, rfl⟩
theorem k3_rel : ∀ {vs : List V} {us : List Value} {zs : List V} {ws : List Value}, Vals vs us → Vals zs ws → Vals (k3 vs zs) (k3 us ws)
  | _, _, _, _, .nil, .cons a (.cons b (.cons c .nil)) => .cons b (.cons c (.cons a .nil))
  | _, _, _, _, .nil, .nil => .nil
  | _, _, _, _, .nil, .cons _ .nil => .nil
  | _, _, _, _, .nil, .cons _ (.cons _ .nil) => .nil
  | _, _, _, _, .nil, .cons _ (.cons _ (.cons _ (.cons _ _))) => .nil
  | _, _, _, _, .cons _ _, _ => .nil
theorem k3_vls {F : Hp} {σ : L2.St} {zs : List V} {xs : List Vl} (h : VlsOk K F σ zs xs) : VlsOk K F σ (k3 [] zs) (k3 [] xs) := by
  match zs, xs, h with
  | [], [], _ => exact trivial
  | [_], [_], _ => exact trivial
  | [_, _], [_, _], _ => exact trivial
  | [a, b, c], [_, _, _], h => exact ⟨h.2.1, h.2.2.1, h.1, trivial⟩
  | _ :: _ :: _ :: _ :: _, _ :: _ :: _ :: _ :: _, _ => exact trivial
theorem k3_binds {nm qual : Str} {params : Arguments} {body : List Stmt} {scope : Scope} {kws : List (Str × V)} {f : Addr} {fd : FuncData} {p1 p2 p3 : Str} (F : FunD K nm qual params body scope [] kws f fd)
    (h : ∀ (kV doc pm : Value) (an : Option Addr) (cdv ct : Value) (x y z : Value), bindArgs (PySem.W.fnOf nm qual params body scope .none kV doc pm an cdv ct) ⟨[], [(p3, z), (p1, x), (p2, y)]⟩ = pure [(p1, x), (p2, y), (p3, z)]) : KBinds K fd [p1, p2, p3] [p3, p1, p2] k3 k3 := by
  obtain ⟨oc, od, dV, kV, doc, pm, an, cdv, ct, osl, rfl, lk, hcd, hD, hK⟩ := F.ex
  rcases hD with ⟨_, rfl⟩ | ⟨e, _⟩
  · refine ⟨fun s us ws _ hl => ?_, k3_rel⟩
    obtain ⟨rfl, z, x, y, rfl⟩ := k3_len hl
    exact .of_eq (h kV doc pm an cdv ct x y z)
  · exact absurd rfl e
end
end GX
set_option maxHeartbeats 0
/-! H: the head of this law. -/
namespace H
open PySem PySem.Spec PyProof.Rows L2 GX
def topS (i : Nat) : Stmt := PySem.Challenge.pw_glintkinds_k08_whole_counts_far.main.body.getD i (.Pass ⟨0, 0, 0, 0⟩)
abbrev a_integral : PySem.W.Frag → Addr := fun K => He.ga K "integral"
def s_integral : Stmt := (topS 3)
def d_integral : He5.DefA := ⟨a_integral, "integral", "integral", defArgs s_integral, defBody s_integral, defScope s_integral, [], []⟩
abbrev a_is_digits : PySem.W.Frag → Addr := fun K => He.ga K "is_digits"
def s_is_digits : Stmt := (topS 4)
def d_is_digits : He5.DefA := ⟨a_is_digits, "is_digits", "is_digits", defArgs s_is_digits, defBody s_is_digits, defScope s_is_digits, [], []⟩
abbrev a_integer_of : PySem.W.Frag → Addr := fun K => He.ga K "integer_of"
def s_integer_of : Stmt := (topS 5)
def d_integer_of : He5.DefA := ⟨a_integer_of, "integer_of", "integer_of", defArgs s_integer_of, defBody s_integer_of, defScope s_integer_of, [], []⟩
abbrev a_words_of : PySem.W.Frag → Addr := fun K => He.ga K "words_of"
def s_words_of : Stmt := (topS 17)
def d_words_of : He5.DefA := ⟨a_words_of, "words_of", "words_of", defArgs s_words_of, defBody s_words_of, defScope s_words_of, [], []⟩
abbrev a_lines_of : PySem.W.Frag → Addr := fun K => He.ga K "lines_of"
def s_lines_of : Stmt := (topS 18)
def d_lines_of : He5.DefA := ⟨a_lines_of, "lines_of", "lines_of", defArgs s_lines_of, defBody s_lines_of, defScope s_lines_of, [], []⟩
abbrev a_text_of : PySem.W.Frag → Addr := fun K => He.ga K "text_of"
def s_text_of : Stmt := (topS 19)
def d_text_of : He5.DefA := ⟨a_text_of, "text_of", "text_of", defArgs s_text_of, defBody s_text_of, defScope s_text_of, [], []⟩
abbrev a_is_name : PySem.W.Frag → Addr := fun K => He.ga K "is_name"
def s_is_name : Stmt := (topS 20)
def d_is_name : He5.DefA := ⟨a_is_name, "is_name", "is_name", defArgs s_is_name, defBody s_is_name, defScope s_is_name, [], []⟩
abbrev a_read_integer : PySem.W.Frag → Addr := fun K => He.ga K "read_integer"
def s_read_integer : Stmt := (topS 21)
def d_read_integer : He5.DefA := ⟨a_read_integer, "read_integer", "read_integer", defArgs s_read_integer, defBody s_read_integer, defScope s_read_integer, [], []⟩
abbrev a_need : PySem.W.Frag → Addr := fun K => He.ga K "need"
def s_need : Stmt := (topS 31)
def d_need : He5.DefA := ⟨a_need, "need", "need", defArgs s_need, defBody s_need, defScope s_need, [], []⟩
abbrev a_checked_letters : PySem.W.Frag → Addr := fun K => He.ga K "checked_letters"
def s_checked_letters : Stmt := (topS 32)
def d_checked_letters : He5.DefA := ⟨a_checked_letters, "checked_letters", "checked_letters", defArgs s_checked_letters, defBody s_checked_letters, defScope s_checked_letters, [], []⟩
abbrev a_checked_sides : PySem.W.Frag → Addr := fun K => He.ga K "checked_sides"
def s_checked_sides : Stmt := (topS 33)
def d_checked_sides : He5.DefA := ⟨a_checked_sides, "checked_sides", "checked_sides", defArgs s_checked_sides, defBody s_checked_sides, defScope s_checked_sides, [], []⟩
abbrev a_checked_block : PySem.W.Frag → Addr := fun K => He.ga K "checked_block"
def s_checked_block : Stmt := (topS 34)
def d_checked_block : He5.DefA := ⟨a_checked_block, "checked_block", "checked_block", defArgs s_checked_block, defBody s_checked_block, defScope s_checked_block, [], []⟩
abbrev a_parts_of_line : PySem.W.Frag → Addr := fun K => He.ga K "parts_of_line"
def s_parts_of_line : Stmt := (topS 35)
def d_parts_of_line : He5.DefA := ⟨a_parts_of_line, "parts_of_line", "parts_of_line", defArgs s_parts_of_line, defBody s_parts_of_line, defScope s_parts_of_line, [], []⟩
abbrev a_block_of_line : PySem.W.Frag → Addr := fun K => He.ga K "block_of_line"
def s_block_of_line : Stmt := (topS 36)
def d_block_of_line : He5.DefA := ⟨a_block_of_line, "block_of_line", "block_of_line", defArgs s_block_of_line, defBody s_block_of_line, defScope s_block_of_line, [], []⟩
abbrev a_RuleReader___init__ : PySem.W.Frag → Addr := fun K => He.ma K (He.ga K "RuleReader") "__init__"
def s_RuleReader___init__ : Stmt := (inClass (topS 37) 0)
def d_RuleReader___init__ : He5.DefA := ⟨a_RuleReader___init__, "__init__", "RuleReader.__init__", defArgs s_RuleReader___init__, defBody s_RuleReader___init__, defScope s_RuleReader___init__, [], []⟩
abbrev a_RuleReader_accept : PySem.W.Frag → Addr := fun K => He.ma K (He.ga K "RuleReader") "accept"
def s_RuleReader_accept : Stmt := (inClass (topS 37) 1)
def d_RuleReader_accept : He5.DefA := ⟨a_RuleReader_accept, "accept", "RuleReader.accept", defArgs s_RuleReader_accept, defBody s_RuleReader_accept, defScope s_RuleReader_accept, [], []⟩
abbrev a_RuleReader_accept_block : PySem.W.Frag → Addr := fun K => He.ma K (He.ga K "RuleReader") "accept_block"
def s_RuleReader_accept_block : Stmt := (inClass (topS 37) 2)
def d_RuleReader_accept_block : He5.DefA := ⟨a_RuleReader_accept_block, "accept_block", "RuleReader.accept_block", defArgs s_RuleReader_accept_block, defBody s_RuleReader_accept_block, defScope s_RuleReader_accept_block, [], []⟩
abbrev a_read_rule : PySem.W.Frag → Addr := fun K => He.ga K "read_rule"
def s_read_rule : Stmt := (topS 38)
def d_read_rule : He5.DefA := ⟨a_read_rule, "read_rule", "read_rule", defArgs s_read_rule, defBody s_read_rule, defScope s_read_rule, [], []⟩
abbrev a_checked_rule : PySem.W.Frag → Addr := fun K => He.ga K "checked_rule"
def s_checked_rule : Stmt := (topS 39)
def d_checked_rule : He5.DefA := ⟨a_checked_rule, "checked_rule", "checked_rule", defArgs s_checked_rule, defBody s_checked_rule, defScope s_checked_rule, [], []⟩
abbrev a_rule_text : PySem.W.Frag → Addr := fun K => He.ga K "rule_text"
def s_rule_text : Stmt := (topS 40)
def d_rule_text : He5.DefA := ⟨a_rule_text, "rule_text", "rule_text", defArgs s_rule_text, defBody s_rule_text, defScope s_rule_text, [], []⟩
abbrev a_places_of : PySem.W.Frag → Addr := fun K => He.ga K "places_of"
def s_places_of : Stmt := (topS 42)
def d_places_of : He5.DefA := ⟨a_places_of, "places_of", "places_of", defArgs s_places_of, defBody s_places_of, defScope s_places_of, [], []⟩
abbrev a_Rule___init__ : PySem.W.Frag → Addr := fun K => He.ma K (He.ga K "Rule") "__init__"
def s_Rule___init__ : Stmt := (inClass (topS 43) 0)
def d_Rule___init__ : He5.DefA := ⟨a_Rule___init__, "__init__", "Rule.__init__", defArgs s_Rule___init__, defBody s_Rule___init__, defScope s_Rule___init__, [], []⟩
abbrev a_Rule_text : PySem.W.Frag → Addr := pgA "Rule" "text"
def s_Rule_text : Stmt := (inClass (topS 43) 1)
def d_Rule_text : He5.DefA := ⟨a_Rule_text, "text", "Rule.text", defArgs s_Rule_text, defBody s_Rule_text, defScope s_Rule_text, [], []⟩
abbrev a_Rule_of : PySem.W.Frag → Addr := stA "Rule" "of"
def s_Rule_of : Stmt := (inClass (topS 43) 2)
def d_Rule_of : He5.DefA := ⟨a_Rule_of, "of", "Rule.of", defArgs s_Rule_of, defBody s_Rule_of, defScope s_Rule_of, [], []⟩
abbrev a_Rule_number_of : PySem.W.Frag → Addr := fun K => He.ma K (He.ga K "Rule") "number_of"
def s_Rule_number_of : Stmt := (inClass (topS 43) 3)
def d_Rule_number_of : He5.DefA := ⟨a_Rule_number_of, "number_of", "Rule.number_of", defArgs s_Rule_number_of, defBody s_Rule_number_of, defScope s_Rule_number_of, [], []⟩
abbrev a_Rule_seat_of : PySem.W.Frag → Addr := fun K => He.ma K (He.ga K "Rule") "seat_of"
def s_Rule_seat_of : Stmt := (inClass (topS 43) 4)
def d_Rule_seat_of : He5.DefA := ⟨a_Rule_seat_of, "seat_of", "Rule.seat_of", defArgs s_Rule_seat_of, defBody s_Rule_seat_of, defScope s_Rule_seat_of, [], []⟩
abbrev a_Rule_at : PySem.W.Frag → Addr := fun K => He.ma K (He.ga K "Rule") "at"
def s_Rule_at : Stmt := (inClass (topS 43) 5)
def d_Rule_at : He5.DefA := ⟨a_Rule_at, "at", "Rule.at", defArgs s_Rule_at, defBody s_Rule_at, defScope s_Rule_at, [], []⟩
abbrev a_Rule___getitem__ : PySem.W.Frag → Addr := fun K => He.ma K (He.ga K "Rule") "__getitem__"
def s_Rule___getitem__ : Stmt := (inClass (topS 43) 6)
def d_Rule___getitem__ : He5.DefA := ⟨a_Rule___getitem__, "__getitem__", "Rule.__getitem__", defArgs s_Rule___getitem__, defBody s_Rule___getitem__, defScope s_Rule___getitem__, [], []⟩
abbrev a_Rule___len__ : PySem.W.Frag → Addr := fun K => He.ma K (He.ga K "Rule") "__len__"
def s_Rule___len__ : Stmt := (inClass (topS 43) 7)
def d_Rule___len__ : He5.DefA := ⟨a_Rule___len__, "__len__", "Rule.__len__", defArgs s_Rule___len__, defBody s_Rule___len__, defScope s_Rule___len__, [], []⟩
abbrev a_Rule___contains__ : PySem.W.Frag → Addr := fun K => He.ma K (He.ga K "Rule") "__contains__"
def s_Rule___contains__ : Stmt := (inClass (topS 43) 8)
def d_Rule___contains__ : He5.DefA := ⟨a_Rule___contains__, "__contains__", "Rule.__contains__", defArgs s_Rule___contains__, defBody s_Rule___contains__, defScope s_Rule___contains__, [], []⟩
abbrev a_Rule___iter__ : PySem.W.Frag → Addr := fun K => He.ma K (He.ga K "Rule") "__iter__"
def s_Rule___iter__ : Stmt := (inClass (topS 43) 9)
def d_Rule___iter__ : He5.DefA := ⟨a_Rule___iter__, "__iter__", "Rule.__iter__", defArgs s_Rule___iter__, defBody s_Rule___iter__, defScope s_Rule___iter__, [], []⟩
abbrev a_Rule___eq__ : PySem.W.Frag → Addr := fun K => He.ma K (He.ga K "Rule") "__eq__"
def s_Rule___eq__ : Stmt := (inClass (topS 43) 10)
def d_Rule___eq__ : He5.DefA := ⟨a_Rule___eq__, "__eq__", "Rule.__eq__", defArgs s_Rule___eq__, defBody s_Rule___eq__, defScope s_Rule___eq__, [], []⟩
abbrev a_Rule___repr__ : PySem.W.Frag → Addr := fun K => He.ma K (He.ga K "Rule") "__repr__"
def s_Rule___repr__ : Stmt := (inClass (topS 43) 11)
def d_Rule___repr__ : He5.DefA := ⟨a_Rule___repr__, "__repr__", "Rule.__repr__", defArgs s_Rule___repr__, defBody s_Rule___repr__, defScope s_Rule___repr__, [], []⟩
abbrev a_check_letter : PySem.W.Frag → Addr := fun K => He.ga K "check_letter"
def s_check_letter : Stmt := (topS 46)
def d_check_letter : He5.DefA := ⟨a_check_letter, "check_letter", "check_letter", defArgs s_check_letter, defBody s_check_letter, defScope s_check_letter, [], []⟩
abbrev a_check_level : PySem.W.Frag → Addr := fun K => He.ga K "check_level"
def s_check_level : Stmt := (topS 47)
def d_check_level : He5.DefA := ⟨a_check_level, "check_level", "check_level", defArgs s_check_level, defBody s_check_level, defScope s_check_level, [], []⟩
abbrev a_counted : PySem.W.Frag → Addr := fun K => He.ga K "counted"
def s_counted : Stmt := (topS 49)
def d_counted : He5.DefA := ⟨a_counted, "counted", "counted", defArgs s_counted, defBody s_counted, defScope s_counted, [], []⟩
abbrev a_count : PySem.W.Frag → Addr := fun K => He.ga K "count"
def s_count : Stmt := (topS 50)
def d_count : He5.DefA := ⟨a_count, "count", "count", defArgs s_count, defBody s_count, defScope s_count, [], []⟩
abbrev a__law_bag : PySem.W.Frag → Addr := fun K => He.ga K "_law_bag"
def s__law_bag : Stmt := (topS 52)
def d__law_bag : He5.DefA := ⟨a__law_bag, "_law_bag", "_law_bag", defArgs s__law_bag, defBody s__law_bag, defScope s__law_bag, [], []⟩
abbrev a__law_draw : PySem.W.Frag → Addr := fun K => He.ga K "_law_draw"
def s__law_draw : Stmt := (topS 53)
def d__law_draw : He5.DefA := ⟨a__law_draw, "_law_draw", "_law_draw", defArgs s__law_draw, defBody s__law_draw, defScope s__law_draw, [], []⟩
abbrev a__law_of : PySem.W.Frag → Addr := fun K => He.ga K "_law_of"
def s__law_of : Stmt := (topS 54)
def d__law_of : He5.DefA := ⟨a__law_of, "_law_of", "_law_of", defArgs s__law_of, defBody s__law_of, defScope s__law_of, [], []⟩
abbrev a__law_mixed : PySem.W.Frag → Addr := fun K => He.ga K "_law_mixed"
def s__law_mixed : Stmt := (topS 55)
def d__law_mixed : He5.DefA := ⟨a__law_mixed, "_law_mixed", "_law_mixed", defArgs s__law_mixed, defBody s__law_mixed, defScope s__law_mixed, [], []⟩
abbrev a__law_like : PySem.W.Frag → Addr := fun K => He.ga K "_law_like"
def s__law_like : Stmt := (topS 56)
def d__law_like : He5.DefA := ⟨a__law_like, "_law_like", "_law_like", defArgs s__law_like, defBody s__law_like, defScope s__law_like, [], []⟩
abbrev a__law_word : PySem.W.Frag → Addr := fun K => He.ga K "_law_word"
def s__law_word : Stmt := (topS 57)
def d__law_word : He5.DefA := ⟨a__law_word, "_law_word", "_law_word", defArgs s__law_word, defBody s__law_word, defScope s__law_word, [], []⟩
abbrev a__law_names : PySem.W.Frag → Addr := fun K => He.ga K "_law_names"
def s__law_names : Stmt := (topS 58)
def d__law_names : He5.DefA := ⟨a__law_names, "_law_names", "_law_names", defArgs s__law_names, defBody s__law_names, defScope s__law_names, [], []⟩
abbrev a__law_cells : PySem.W.Frag → Addr := fun K => He.ga K "_law_cells"
def s__law_cells : Stmt := (topS 59)
def d__law_cells : He5.DefA := ⟨a__law_cells, "_law_cells", "_law_cells", defArgs s__law_cells, defBody s__law_cells, defScope s__law_cells, [], []⟩
abbrev a__law_drawn : PySem.W.Frag → Addr := fun K => He.ga K "_law_drawn"
def s__law_drawn : Stmt := (topS 60)
def d__law_drawn : He5.DefA := ⟨a__law_drawn, "_law_drawn", "_law_drawn", defArgs s__law_drawn, defBody s__law_drawn, defScope s__law_drawn, [], []⟩
abbrev a__law_rows : PySem.W.Frag → Addr := fun K => He.ga K "_law_rows"
def s__law_rows : Stmt := (topS 61)
def d__law_rows : He5.DefA := ⟨a__law_rows, "_law_rows", "_law_rows", defArgs s__law_rows, defBody s__law_rows, defScope s__law_rows, [], []⟩
abbrev a__law_floors : PySem.W.Frag → Addr := fun K => He.ga K "_law_floors"
def s__law_floors : Stmt := (topS 62)
def d__law_floors : He5.DefA := ⟨a__law_floors, "_law_floors", "_law_floors", defArgs s__law_floors, defBody s__law_floors, defScope s__law_floors, [], []⟩
abbrev a__law_turned : PySem.W.Frag → Addr := fun K => He.ga K "_law_turned"
def s__law_turned : Stmt := (topS 63)
def d__law_turned : He5.DefA := ⟨a__law_turned, "_law_turned", "_law_turned", defArgs s__law_turned, defBody s__law_turned, defScope s__law_turned, [], []⟩
abbrev a__law_spins : PySem.W.Frag → Addr := fun K => He.ga K "_law_spins"
def s__law_spins : Stmt := (topS 64)
def d__law_spins : He5.DefA := ⟨a__law_spins, "_law_spins", "_law_spins", defArgs s__law_spins, defBody s__law_spins, defScope s__law_spins, [], []⟩
abbrev a__law_any : PySem.W.Frag → Addr := fun K => He.ga K "_law_any"
def s__law_any : Stmt := (topS 65)
def d__law_any : He5.DefA := ⟨a__law_any, "_law_any", "_law_any", defArgs s__law_any, defBody s__law_any, defScope s__law_any, [], []⟩
abbrev a__law_tier : PySem.W.Frag → Addr := fun K => He.ga K "_law_tier"
def s__law_tier : Stmt := (topS 66)
def d__law_tier : He5.DefA := ⟨a__law_tier, "_law_tier", "_law_tier", defArgs s__law_tier, defBody s__law_tier, defScope s__law_tier, [], []⟩
abbrev a__law_tiers : PySem.W.Frag → Addr := fun K => He.ga K "_law_tiers"
def s__law_tiers : Stmt := (topS 67)
def d__law_tiers : He5.DefA := ⟨a__law_tiers, "_law_tiers", "_law_tiers", defArgs s__law_tiers, defBody s__law_tiers, defScope s__law_tiers, [], []⟩
abbrev a__law_page : PySem.W.Frag → Addr := fun K => He.ga K "_law_page"
def s__law_page : Stmt := (topS 68)
def d__law_page : He5.DefA := ⟨a__law_page, "_law_page", "_law_page", defArgs s__law_page, defBody s__law_page, defScope s__law_page, [], []⟩
abbrev a__law_bricks : PySem.W.Frag → Addr := fun K => He.ga K "_law_bricks"
def s__law_bricks : Stmt := (topS 69)
def d__law_bricks : He5.DefA := ⟨a__law_bricks, "_law_bricks", "_law_bricks", defArgs s__law_bricks, defBody s__law_bricks, defScope s__law_bricks, [], []⟩
abbrev a__law_made : PySem.W.Frag → Addr := fun K => He.ga K "_law_made"
def s__law_made : Stmt := (topS 70)
def d__law_made : He5.DefA := ⟨a__law_made, "_law_made", "_law_made", defArgs s__law_made, defBody s__law_made, defScope s__law_made, [], []⟩
abbrev a__law_up : PySem.W.Frag → Addr := fun K => He.ga K "_law_up"
def s__law_up : Stmt := (topS 71)
def d__law_up : He5.DefA := ⟨a__law_up, "_law_up", "_law_up", defArgs s__law_up, defBody s__law_up, defScope s__law_up, [], []⟩
abbrev a__law_counted : PySem.W.Frag → Addr := fun K => He.ga K "_law_counted"
def s__law_counted : Stmt := (topS 72)
def d__law_counted : He5.DefA := ⟨a__law_counted, "_law_counted", "_law_counted", defArgs s__law_counted, defBody s__law_counted, defScope s__law_counted, [], []⟩
abbrev a__law_area : PySem.W.Frag → Addr := fun K => He.ga K "_law_area"
def s__law_area : Stmt := (topS 73)
def d__law_area : He5.DefA := ⟨a__law_area, "_law_area", "_law_area", defArgs s__law_area, defBody s__law_area, defScope s__law_area, [], []⟩
abbrev a__law_shape : PySem.W.Frag → Addr := fun K => He.ga K "_law_shape"
def s__law_shape : Stmt := (topS 74)
def d__law_shape : He5.DefA := ⟨a__law_shape, "_law_shape", "_law_shape", defArgs s__law_shape, defBody s__law_shape, defScope s__law_shape, [], []⟩
abbrev a_law : PySem.W.Frag → Addr := fun K => He.ga K "law"
def s_law : Stmt := (topS 75)
def d_law : He5.DefA := ⟨a_law, "law", "law", defArgs s_law, defBody s_law, defScope s_law, [], []⟩
def fn : List He5.DefA := [d_integral, d_is_digits, d_integer_of, d_words_of, d_lines_of, d_text_of, d_is_name, d_read_integer, d_need, d_checked_letters, d_checked_sides, d_checked_block, d_parts_of_line, d_block_of_line, d_RuleReader___init__, d_RuleReader_accept, d_RuleReader_accept_block, d_read_rule, d_checked_rule, d_rule_text, d_places_of, d_Rule___init__, d_Rule_text, d_Rule_of, d_Rule_number_of, d_Rule_seat_of, d_Rule_at, d_Rule___getitem__, d_Rule___len__, d_Rule___contains__, d_Rule___iter__, d_Rule___eq__, d_Rule___repr__, d_check_letter, d_check_level, d_counted, d_count, d__law_bag, d__law_draw, d__law_of, d__law_mixed, d__law_like, d__law_word, d__law_names, d__law_cells, d__law_drawn, d__law_rows, d__law_floors, d__law_turned, d__law_spins, d__law_any, d__law_tier, d__law_tiers, d__law_page, d__law_bricks, d__law_made, d__law_up, d__law_counted, d__law_area, d__law_shape, d_law]
def fa0 : List Fac := [fHe (.int "MOST_DIGITS" 1000), fHe (.str "DIGITS" "0123456789"), fHe (.glo "integral"), fHe (.glo "is_digits"), fHe (.glo "integer_of"), fHe (.str "LETTERS" "abcdefghijklmnopqrstuvwxyz"), fHe (.str "SIGNS" "abcdefghijklmnopqrstuvwxyz0123456789"), fHe (.int "LONGEST" 6), fHe (.glo "KEPT_WORDS"), fTup "KEPT_WORDS" [.str "rule", .str "letters", .str "sides", .str "done", .str "scatter", .str "looks", .str "look", .str "kinds", .str "at", .str "clock", .str "row", .str "hand", .str "as", .str "none"], fHe (.glo "words_of"), fHe (.glo "lines_of"), fHe (.glo "text_of"), fHe (.glo "is_name"), fHe (.glo "read_integer"), fHe (.int "MOST_LETTERS" 40), fHe (.int "MOST_SIDE" 9), fHe (.int "MOST_PLACES" 16), fHe (.int "AT_RULE" 0), fHe (.int "AT_LETTERS" 1)]
def fa1 : List Fac := [fHe (.int "AT_SIDES" 2), fHe (.int "AT_BLOCKS" 3), fHe (.int "AT_END" 4), fHe (.glo "need"), fHe (.glo "checked_letters"), fHe (.glo "checked_sides"), fHe (.glo "checked_block"), fHe (.glo "parts_of_line"), fHe (.glo "block_of_line"), fHe (.glo "RuleReader"), fHe (.cls "RuleReader"), fHe (.noat "RuleReader" "stage"), fHe (.noat "RuleReader" "letters"), fHe (.noat "RuleReader" "sides"), fHe (.noat "RuleReader" "table"), fHe (.mkr "RuleReader"), fHe (.meth "RuleReader" "accept"), fHe (.meth "RuleReader" "accept_block"), fHe (.glo "read_rule"), fHe (.glo "checked_rule")]
def fa2 : List Fac := [fHe (.glo "rule_text"), fHe (.glo "places_of"), fHe (.glo "Rule"), fHe (.cls "Rule"), fHe (.noat "Rule" "sides"), fHe (.noat "Rule" "letters"), fHe (.noat "Rule" "places"), fHe (.noat "Rule" "written"), fHe (.noat "Rule" "blocks"), fHe (.noat "Rule" "order"), fHe (.noat "Rule" "seats"), fHe (.noat "Rule" "columns"), fHe (.noat "Rule" "memo"), fHe (.mkr "Rule"), fProp "Rule" "text", fStat "Rule" "of", fHe (.meth "Rule" "number_of"), fHe (.meth "Rule" "seat_of"), fHe (.meth "Rule" "at"), fHe (.meth "Rule" "__getitem__")]
def fa3 : List Fac := [fHe (.meth "Rule" "__len__"), fHe (.meth "Rule" "__contains__"), fHe (.meth "Rule" "__iter__"), fHe (.meth "Rule" "__eq__"), fHe (.meth "Rule" "__repr__"), fHe (.int "MOST_LEVEL" 200), fHe (.glo "check_letter"), fHe (.glo "check_level"), fHe (.glo "counted"), fHe (.glo "count"), fHe (.glo "_law_bag"), fHe (.glo "_law_draw"), fHe (.glo "_law_of"), fHe (.glo "_law_mixed"), fHe (.glo "_law_like"), fHe (.glo "_law_word"), fHe (.glo "_law_names"), fHe (.glo "_law_cells"), fHe (.glo "_law_drawn"), fHe (.glo "_law_rows")]
def fa4 : List Fac := [fHe (.glo "_law_floors"), fHe (.glo "_law_turned"), fHe (.glo "_law_spins"), fHe (.glo "_law_any"), fHe (.glo "_law_tier"), fHe (.glo "_law_tiers"), fHe (.glo "_law_page"), fHe (.glo "_law_bricks"), fHe (.glo "_law_made"), fHe (.glo "_law_up"), fHe (.glo "_law_counted"), fHe (.glo "_law_area"), fHe (.glo "_law_shape"), fHe (.glo "law"), fHe (.free "len"), fHe (.free "range"), fHe (.free "all"), fHe (.free "any"), fHe (.free "sum"), fHe (.free "isinstance")]
def fa5 : List Fac := [fHe (.free "int"), fHe (.free "str"), fHe (.free "list"), fHe (.free "tuple"), fHe (.free "set"), fHe (.free "dict"), fHe (.free "enumerate"), fHe (.free "zip"), fHe (.free "bool"), fHe (.free "ord"), fHe (.free "min"), fHe (.free "max"), fHe (.free "sorted"), fHe (.free "iter")]
def fa : List Fac := fa0 ++ fa1 ++ fa2 ++ fa3 ++ fa4 ++ fa5
def nm0 : List PySem.Str := ["MOST_DIGITS", "DIGITS", "integral", "is_digits", "integer_of", "GlintError", "BadRule", "OutOf", "TooMany", "NoSuch", "LETTERS", "SIGNS", "LONGEST", "KEPT_WORDS", "words_of", "lines_of", "text_of", "is_name", "read_integer", "MOST_LETTERS"]
def nm1 : List PySem.Str := ["MOST_SIDE", "MOST_PLACES", "AT_RULE", "AT_LETTERS", "AT_SIDES", "AT_BLOCKS", "AT_END", "need", "checked_letters", "checked_sides", "checked_block", "parts_of_line", "block_of_line", "RuleReader", "read_rule", "checked_rule", "rule_text", "places_of", "Rule", "MOST_LEVEL"]
def nm2 : List PySem.Str := ["check_letter", "check_level", "counted", "count", "_law_bag", "_law_draw", "_law_of", "_law_mixed", "_law_like", "_law_word", "_law_names", "_law_cells", "_law_drawn", "_law_rows", "_law_floors", "_law_turned", "_law_spins", "_law_any", "_law_tier", "_law_tiers"]
def nm3 : List PySem.Str := ["_law_page", "_law_bricks", "_law_made", "_law_up", "_law_counted", "_law_area", "_law_shape"]
def names : List PySem.Str := nm0 ++ nm1 ++ nm2 ++ nm3
abbrev R : PySem.W.OpenRow := PySem.W.OpenLaw.row PySem.Challenge.rw_glintkinds_k08_whole_counts_far
abbrev lawAt : Nat := 75
abbrev hk : PySem.W.Hook := hookX 5 fa fn
def ob (s : PySem.W.SharedT) : He.AlD := obsX 5 fa fn (HandSHeadRun.getT s)
theorem ob_eq (s : PySem.W.SharedT) : ob s = hk.obs s.abs := obsX_eq (HandSHeadRun.getT_eq s)
theorem run (w : World) : HandSHeadRun.RunEq R (PySem.W.view R.prog [75]) hk ob 20000 names w := by
  intro os
  kernel_rfl
structure Env (K : PySem.W.Frag) (mg : Str → Option Value) : Prop where
  ex : ∃ h : Heap, K.In h ∧ h.Ns mainGlobals mg
  c : SaysX fa fn K
section
variable {K : PySem.W.Frag} {mg : Str → Option Value} (T : Env K mg)
include T
theorem Env.v_MOST_DIGITS : ∃ t, mg "MOST_DIGITS" = some (.int 1000 t) := let ⟨h, X, G⟩ := T.ex; He.int_ok X G (T.c.fact 0)
theorem Env.v_DIGITS : ∃ t, mg "DIGITS" = some (.str "0123456789" t) := let ⟨h, X, G⟩ := T.ex; He.str_ok X G (T.c.fact 1)
theorem Env.g_integral : mg "integral" = some (.ref (a_integral K)) := let ⟨h, X, G⟩ := T.ex; He.glo_ok X G (T.c.fact 2)
theorem Env.g_is_digits : mg "is_digits" = some (.ref (a_is_digits K)) := let ⟨h, X, G⟩ := T.ex; He.glo_ok X G (T.c.fact 3)
theorem Env.g_integer_of : mg "integer_of" = some (.ref (a_integer_of K)) := let ⟨h, X, G⟩ := T.ex; He.glo_ok X G (T.c.fact 4)
theorem Env.v_LETTERS : ∃ t, mg "LETTERS" = some (.str "abcdefghijklmnopqrstuvwxyz" t) := let ⟨h, X, G⟩ := T.ex; He.str_ok X G (T.c.fact 5)
theorem Env.v_SIGNS : ∃ t, mg "SIGNS" = some (.str "abcdefghijklmnopqrstuvwxyz0123456789" t) := let ⟨h, X, G⟩ := T.ex; He.str_ok X G (T.c.fact 6)
theorem Env.v_LONGEST : ∃ t, mg "LONGEST" = some (.int 6 t) := let ⟨h, X, G⟩ := T.ex; He.int_ok X G (T.c.fact 7)
theorem Env.g_KEPT_WORDS : mg "KEPT_WORDS" = some (.ref (He.ga K "KEPT_WORDS")) := let ⟨h, X, G⟩ := T.ex; He.glo_ok X G (T.c.fact 8)
theorem Env.v_KEPT_WORDS : ∀ H, SqT K H (He.ga K "KEPT_WORDS") (([.str "rule", .str "letters", .str "sides", .str "done", .str "scatter", .str "looks", .str "look", .str "kinds", .str "at", .str "clock", .str "row", .str "hand", .str "as", .str "none"] : List He.Dv).map (He.Dv.v K)) := He.tupB_ok (T.c.fact 9)
theorem Env.g_words_of : mg "words_of" = some (.ref (a_words_of K)) := let ⟨h, X, G⟩ := T.ex; He.glo_ok X G (T.c.fact 10)
theorem Env.g_lines_of : mg "lines_of" = some (.ref (a_lines_of K)) := let ⟨h, X, G⟩ := T.ex; He.glo_ok X G (T.c.fact 11)
theorem Env.g_text_of : mg "text_of" = some (.ref (a_text_of K)) := let ⟨h, X, G⟩ := T.ex; He.glo_ok X G (T.c.fact 12)
theorem Env.g_is_name : mg "is_name" = some (.ref (a_is_name K)) := let ⟨h, X, G⟩ := T.ex; He.glo_ok X G (T.c.fact 13)
theorem Env.g_read_integer : mg "read_integer" = some (.ref (a_read_integer K)) := let ⟨h, X, G⟩ := T.ex; He.glo_ok X G (T.c.fact 14)
theorem Env.v_MOST_LETTERS : ∃ t, mg "MOST_LETTERS" = some (.int 40 t) := let ⟨h, X, G⟩ := T.ex; He.int_ok X G (T.c.fact 15)
theorem Env.v_MOST_SIDE : ∃ t, mg "MOST_SIDE" = some (.int 9 t) := let ⟨h, X, G⟩ := T.ex; He.int_ok X G (T.c.fact 16)
theorem Env.v_MOST_PLACES : ∃ t, mg "MOST_PLACES" = some (.int 16 t) := let ⟨h, X, G⟩ := T.ex; He.int_ok X G (T.c.fact 17)
theorem Env.v_AT_RULE : ∃ t, mg "AT_RULE" = some (.int 0 t) := let ⟨h, X, G⟩ := T.ex; He.int_ok X G (T.c.fact 18)
theorem Env.v_AT_LETTERS : ∃ t, mg "AT_LETTERS" = some (.int 1 t) := let ⟨h, X, G⟩ := T.ex; He.int_ok X G (T.c.fact 19)
theorem Env.v_AT_SIDES : ∃ t, mg "AT_SIDES" = some (.int 2 t) := let ⟨h, X, G⟩ := T.ex; He.int_ok X G (T.c.fact 20)
theorem Env.v_AT_BLOCKS : ∃ t, mg "AT_BLOCKS" = some (.int 3 t) := let ⟨h, X, G⟩ := T.ex; He.int_ok X G (T.c.fact 21)
theorem Env.v_AT_END : ∃ t, mg "AT_END" = some (.int 4 t) := let ⟨h, X, G⟩ := T.ex; He.int_ok X G (T.c.fact 22)
theorem Env.g_need : mg "need" = some (.ref (a_need K)) := let ⟨h, X, G⟩ := T.ex; He.glo_ok X G (T.c.fact 23)
theorem Env.g_checked_letters : mg "checked_letters" = some (.ref (a_checked_letters K)) := let ⟨h, X, G⟩ := T.ex; He.glo_ok X G (T.c.fact 24)
theorem Env.g_checked_sides : mg "checked_sides" = some (.ref (a_checked_sides K)) := let ⟨h, X, G⟩ := T.ex; He.glo_ok X G (T.c.fact 25)
theorem Env.g_checked_block : mg "checked_block" = some (.ref (a_checked_block K)) := let ⟨h, X, G⟩ := T.ex; He.glo_ok X G (T.c.fact 26)
theorem Env.g_parts_of_line : mg "parts_of_line" = some (.ref (a_parts_of_line K)) := let ⟨h, X, G⟩ := T.ex; He.glo_ok X G (T.c.fact 27)
theorem Env.g_block_of_line : mg "block_of_line" = some (.ref (a_block_of_line K)) := let ⟨h, X, G⟩ := T.ex; He.glo_ok X G (T.c.fact 28)
theorem Env.g_RuleReader : mg "RuleReader" = some (.ref (He.ga K "RuleReader")) := let ⟨h, X, G⟩ := T.ex; He.glo_ok X G (T.c.fact 29)
theorem Env.c_RuleReader : Cls K (He.ga K "RuleReader") := He.cls_ok (T.c.fact 30)
theorem Env.n_RuleReader_stage : NoAttr K (He.ga K "RuleReader") "stage" := He.noat_ok (T.c.fact 31)
theorem Env.n_RuleReader_letters : NoAttr K (He.ga K "RuleReader") "letters" := He.noat_ok (T.c.fact 32)
theorem Env.n_RuleReader_sides : NoAttr K (He.ga K "RuleReader") "sides" := He.noat_ok (T.c.fact 33)
theorem Env.n_RuleReader_table : NoAttr K (He.ga K "RuleReader") "table" := He.noat_ok (T.c.fact 34)
theorem Env.k_RuleReader : Mk K (He.ga K "RuleReader") (a_RuleReader___init__ K) := He.mkr_ok (T.c.fact 35)
theorem Env.m_RuleReader_accept : Meth K (He.ga K "RuleReader") "accept" (a_RuleReader_accept K) := He.meth_ok (T.c.fact 36)
theorem Env.m_RuleReader_accept_block : Meth K (He.ga K "RuleReader") "accept_block" (a_RuleReader_accept_block K) := He.meth_ok (T.c.fact 37)
theorem Env.g_read_rule : mg "read_rule" = some (.ref (a_read_rule K)) := let ⟨h, X, G⟩ := T.ex; He.glo_ok X G (T.c.fact 38)
theorem Env.g_checked_rule : mg "checked_rule" = some (.ref (a_checked_rule K)) := let ⟨h, X, G⟩ := T.ex; He.glo_ok X G (T.c.fact 39)
theorem Env.g_rule_text : mg "rule_text" = some (.ref (a_rule_text K)) := let ⟨h, X, G⟩ := T.ex; He.glo_ok X G (T.c.fact 40)
theorem Env.g_places_of : mg "places_of" = some (.ref (a_places_of K)) := let ⟨h, X, G⟩ := T.ex; He.glo_ok X G (T.c.fact 41)
theorem Env.g_Rule : mg "Rule" = some (.ref (He.ga K "Rule")) := let ⟨h, X, G⟩ := T.ex; He.glo_ok X G (T.c.fact 42)
theorem Env.c_Rule : Cls K (He.ga K "Rule") := He.cls_ok (T.c.fact 43)
theorem Env.n_Rule_sides : NoAttr K (He.ga K "Rule") "sides" := He.noat_ok (T.c.fact 44)
theorem Env.n_Rule_letters : NoAttr K (He.ga K "Rule") "letters" := He.noat_ok (T.c.fact 45)
theorem Env.n_Rule_places : NoAttr K (He.ga K "Rule") "places" := He.noat_ok (T.c.fact 46)
theorem Env.n_Rule_written : NoAttr K (He.ga K "Rule") "written" := He.noat_ok (T.c.fact 47)
theorem Env.n_Rule_blocks : NoAttr K (He.ga K "Rule") "blocks" := He.noat_ok (T.c.fact 48)
theorem Env.n_Rule_order : NoAttr K (He.ga K "Rule") "order" := He.noat_ok (T.c.fact 49)
theorem Env.n_Rule_seats : NoAttr K (He.ga K "Rule") "seats" := He.noat_ok (T.c.fact 50)
theorem Env.n_Rule_columns : NoAttr K (He.ga K "Rule") "columns" := He.noat_ok (T.c.fact 51)
theorem Env.n_Rule_memo : NoAttr K (He.ga K "Rule") "memo" := He.noat_ok (T.c.fact 52)
theorem Env.k_Rule : Mk K (He.ga K "Rule") (a_Rule___init__ K) := He.mkr_ok (T.c.fact 53)
theorem Env.p_Rule_text : PropOf K (He.ga K "Rule") "text" (He.ma K (He.ga K "Rule") "text") (a_Rule_text K) := prop_ok (T.c.fact 54)
theorem Env.t_Rule_of : SMet K (He.ga K "Rule") "of" (He.ma K (He.ga K "Rule") "of") (a_Rule_of K) := stat_ok (T.c.fact 55)
theorem Env.m_Rule_number_of : Meth K (He.ga K "Rule") "number_of" (a_Rule_number_of K) := He.meth_ok (T.c.fact 56)
theorem Env.m_Rule_seat_of : Meth K (He.ga K "Rule") "seat_of" (a_Rule_seat_of K) := He.meth_ok (T.c.fact 57)
theorem Env.m_Rule_at : Meth K (He.ga K "Rule") "at" (a_Rule_at K) := He.meth_ok (T.c.fact 58)
theorem Env.m_Rule___getitem__ : Meth K (He.ga K "Rule") "__getitem__" (a_Rule___getitem__ K) := He.meth_ok (T.c.fact 59)
theorem Env.m_Rule___len__ : Meth K (He.ga K "Rule") "__len__" (a_Rule___len__ K) := He.meth_ok (T.c.fact 60)
theorem Env.m_Rule___contains__ : Meth K (He.ga K "Rule") "__contains__" (a_Rule___contains__ K) := He.meth_ok (T.c.fact 61)
theorem Env.m_Rule___iter__ : Meth K (He.ga K "Rule") "__iter__" (a_Rule___iter__ K) := He.meth_ok (T.c.fact 62)
theorem Env.m_Rule___eq__ : Meth K (He.ga K "Rule") "__eq__" (a_Rule___eq__ K) := He.meth_ok (T.c.fact 63)
theorem Env.m_Rule___repr__ : Meth K (He.ga K "Rule") "__repr__" (a_Rule___repr__ K) := He.meth_ok (T.c.fact 64)
theorem Env.v_MOST_LEVEL : ∃ t, mg "MOST_LEVEL" = some (.int 200 t) := let ⟨h, X, G⟩ := T.ex; He.int_ok X G (T.c.fact 65)
theorem Env.g_check_letter : mg "check_letter" = some (.ref (a_check_letter K)) := let ⟨h, X, G⟩ := T.ex; He.glo_ok X G (T.c.fact 66)
theorem Env.g_check_level : mg "check_level" = some (.ref (a_check_level K)) := let ⟨h, X, G⟩ := T.ex; He.glo_ok X G (T.c.fact 67)
theorem Env.g_counted : mg "counted" = some (.ref (a_counted K)) := let ⟨h, X, G⟩ := T.ex; He.glo_ok X G (T.c.fact 68)
theorem Env.g_count : mg "count" = some (.ref (a_count K)) := let ⟨h, X, G⟩ := T.ex; He.glo_ok X G (T.c.fact 69)
theorem Env.g__law_bag : mg "_law_bag" = some (.ref (a__law_bag K)) := let ⟨h, X, G⟩ := T.ex; He.glo_ok X G (T.c.fact 70)
theorem Env.g__law_draw : mg "_law_draw" = some (.ref (a__law_draw K)) := let ⟨h, X, G⟩ := T.ex; He.glo_ok X G (T.c.fact 71)
theorem Env.g__law_of : mg "_law_of" = some (.ref (a__law_of K)) := let ⟨h, X, G⟩ := T.ex; He.glo_ok X G (T.c.fact 72)
theorem Env.g__law_mixed : mg "_law_mixed" = some (.ref (a__law_mixed K)) := let ⟨h, X, G⟩ := T.ex; He.glo_ok X G (T.c.fact 73)
theorem Env.g__law_like : mg "_law_like" = some (.ref (a__law_like K)) := let ⟨h, X, G⟩ := T.ex; He.glo_ok X G (T.c.fact 74)
theorem Env.g__law_word : mg "_law_word" = some (.ref (a__law_word K)) := let ⟨h, X, G⟩ := T.ex; He.glo_ok X G (T.c.fact 75)
theorem Env.g__law_names : mg "_law_names" = some (.ref (a__law_names K)) := let ⟨h, X, G⟩ := T.ex; He.glo_ok X G (T.c.fact 76)
theorem Env.g__law_cells : mg "_law_cells" = some (.ref (a__law_cells K)) := let ⟨h, X, G⟩ := T.ex; He.glo_ok X G (T.c.fact 77)
theorem Env.g__law_drawn : mg "_law_drawn" = some (.ref (a__law_drawn K)) := let ⟨h, X, G⟩ := T.ex; He.glo_ok X G (T.c.fact 78)
theorem Env.g__law_rows : mg "_law_rows" = some (.ref (a__law_rows K)) := let ⟨h, X, G⟩ := T.ex; He.glo_ok X G (T.c.fact 79)
theorem Env.g__law_floors : mg "_law_floors" = some (.ref (a__law_floors K)) := let ⟨h, X, G⟩ := T.ex; He.glo_ok X G (T.c.fact 80)
theorem Env.g__law_turned : mg "_law_turned" = some (.ref (a__law_turned K)) := let ⟨h, X, G⟩ := T.ex; He.glo_ok X G (T.c.fact 81)
theorem Env.g__law_spins : mg "_law_spins" = some (.ref (a__law_spins K)) := let ⟨h, X, G⟩ := T.ex; He.glo_ok X G (T.c.fact 82)
theorem Env.g__law_any : mg "_law_any" = some (.ref (a__law_any K)) := let ⟨h, X, G⟩ := T.ex; He.glo_ok X G (T.c.fact 83)
theorem Env.g__law_tier : mg "_law_tier" = some (.ref (a__law_tier K)) := let ⟨h, X, G⟩ := T.ex; He.glo_ok X G (T.c.fact 84)
theorem Env.g__law_tiers : mg "_law_tiers" = some (.ref (a__law_tiers K)) := let ⟨h, X, G⟩ := T.ex; He.glo_ok X G (T.c.fact 85)
theorem Env.g__law_page : mg "_law_page" = some (.ref (a__law_page K)) := let ⟨h, X, G⟩ := T.ex; He.glo_ok X G (T.c.fact 86)
theorem Env.g__law_bricks : mg "_law_bricks" = some (.ref (a__law_bricks K)) := let ⟨h, X, G⟩ := T.ex; He.glo_ok X G (T.c.fact 87)
theorem Env.g__law_made : mg "_law_made" = some (.ref (a__law_made K)) := let ⟨h, X, G⟩ := T.ex; He.glo_ok X G (T.c.fact 88)
theorem Env.g__law_up : mg "_law_up" = some (.ref (a__law_up K)) := let ⟨h, X, G⟩ := T.ex; He.glo_ok X G (T.c.fact 89)
theorem Env.g__law_counted : mg "_law_counted" = some (.ref (a__law_counted K)) := let ⟨h, X, G⟩ := T.ex; He.glo_ok X G (T.c.fact 90)
theorem Env.g__law_area : mg "_law_area" = some (.ref (a__law_area K)) := let ⟨h, X, G⟩ := T.ex; He.glo_ok X G (T.c.fact 91)
theorem Env.g__law_shape : mg "_law_shape" = some (.ref (a__law_shape K)) := let ⟨h, X, G⟩ := T.ex; He.glo_ok X G (T.c.fact 92)
theorem Env.g_law : mg "law" = some (.ref (a_law K)) := let ⟨h, X, G⟩ := T.ex; He.glo_ok X G (T.c.fact 93)
theorem Env.f_len : mg "len" = none := let ⟨h, X, G⟩ := T.ex; He.free_ok X G (T.c.fact 94)
theorem Env.f_range : mg "range" = none := let ⟨h, X, G⟩ := T.ex; He.free_ok X G (T.c.fact 95)
theorem Env.f_all : mg "all" = none := let ⟨h, X, G⟩ := T.ex; He.free_ok X G (T.c.fact 96)
theorem Env.f_any : mg "any" = none := let ⟨h, X, G⟩ := T.ex; He.free_ok X G (T.c.fact 97)
theorem Env.f_sum : mg "sum" = none := let ⟨h, X, G⟩ := T.ex; He.free_ok X G (T.c.fact 98)
theorem Env.f_isinstance : mg "isinstance" = none := let ⟨h, X, G⟩ := T.ex; He.free_ok X G (T.c.fact 99)
theorem Env.f_int : mg "int" = none := let ⟨h, X, G⟩ := T.ex; He.free_ok X G (T.c.fact 100)
theorem Env.f_str : mg "str" = none := let ⟨h, X, G⟩ := T.ex; He.free_ok X G (T.c.fact 101)
theorem Env.f_list : mg "list" = none := let ⟨h, X, G⟩ := T.ex; He.free_ok X G (T.c.fact 102)
theorem Env.f_tuple : mg "tuple" = none := let ⟨h, X, G⟩ := T.ex; He.free_ok X G (T.c.fact 103)
theorem Env.f_set : mg "set" = none := let ⟨h, X, G⟩ := T.ex; He.free_ok X G (T.c.fact 104)
theorem Env.f_dict : mg "dict" = none := let ⟨h, X, G⟩ := T.ex; He.free_ok X G (T.c.fact 105)
theorem Env.f_enumerate : mg "enumerate" = none := let ⟨h, X, G⟩ := T.ex; He.free_ok X G (T.c.fact 106)
theorem Env.f_zip : mg "zip" = none := let ⟨h, X, G⟩ := T.ex; He.free_ok X G (T.c.fact 107)
theorem Env.f_bool : mg "bool" = none := let ⟨h, X, G⟩ := T.ex; He.free_ok X G (T.c.fact 108)
theorem Env.f_ord : mg "ord" = none := let ⟨h, X, G⟩ := T.ex; He.free_ok X G (T.c.fact 109)
theorem Env.f_min : mg "min" = none := let ⟨h, X, G⟩ := T.ex; He.free_ok X G (T.c.fact 110)
theorem Env.f_max : mg "max" = none := let ⟨h, X, G⟩ := T.ex; He.free_ok X G (T.c.fact 111)
theorem Env.f_sorted : mg "sorted" = none := let ⟨h, X, G⟩ := T.ex; He.free_ok X G (T.c.fact 112)
theorem Env.f_iter : mg "iter" = none := let ⟨h, X, G⟩ := T.ex; He.free_ok X G (T.c.fact 113)
theorem Env.F_integral : ∃ fd, FunD K "integral" "integral" (defArgs s_integral) (defBody s_integral) (defScope s_integral) [] [] (a_integral K) fd := T.c.fun_ 0
theorem Env.F_is_digits : ∃ fd, FunD K "is_digits" "is_digits" (defArgs s_is_digits) (defBody s_is_digits) (defScope s_is_digits) [] [] (a_is_digits K) fd := T.c.fun_ 1
theorem Env.F_integer_of : ∃ fd, FunD K "integer_of" "integer_of" (defArgs s_integer_of) (defBody s_integer_of) (defScope s_integer_of) [] [] (a_integer_of K) fd := T.c.fun_ 2
theorem Env.F_words_of : ∃ fd, FunD K "words_of" "words_of" (defArgs s_words_of) (defBody s_words_of) (defScope s_words_of) [] [] (a_words_of K) fd := T.c.fun_ 3
theorem Env.F_lines_of : ∃ fd, FunD K "lines_of" "lines_of" (defArgs s_lines_of) (defBody s_lines_of) (defScope s_lines_of) [] [] (a_lines_of K) fd := T.c.fun_ 4
theorem Env.F_text_of : ∃ fd, FunD K "text_of" "text_of" (defArgs s_text_of) (defBody s_text_of) (defScope s_text_of) [] [] (a_text_of K) fd := T.c.fun_ 5
theorem Env.F_is_name : ∃ fd, FunD K "is_name" "is_name" (defArgs s_is_name) (defBody s_is_name) (defScope s_is_name) [] [] (a_is_name K) fd := T.c.fun_ 6
theorem Env.F_read_integer : ∃ fd, FunD K "read_integer" "read_integer" (defArgs s_read_integer) (defBody s_read_integer) (defScope s_read_integer) [] [] (a_read_integer K) fd := T.c.fun_ 7
theorem Env.F_need : ∃ fd, FunD K "need" "need" (defArgs s_need) (defBody s_need) (defScope s_need) [] [] (a_need K) fd := T.c.fun_ 8
theorem Env.F_checked_letters : ∃ fd, FunD K "checked_letters" "checked_letters" (defArgs s_checked_letters) (defBody s_checked_letters) (defScope s_checked_letters) [] [] (a_checked_letters K) fd := T.c.fun_ 9
theorem Env.F_checked_sides : ∃ fd, FunD K "checked_sides" "checked_sides" (defArgs s_checked_sides) (defBody s_checked_sides) (defScope s_checked_sides) [] [] (a_checked_sides K) fd := T.c.fun_ 10
theorem Env.F_checked_block : ∃ fd, FunD K "checked_block" "checked_block" (defArgs s_checked_block) (defBody s_checked_block) (defScope s_checked_block) [] [] (a_checked_block K) fd := T.c.fun_ 11
theorem Env.F_parts_of_line : ∃ fd, FunD K "parts_of_line" "parts_of_line" (defArgs s_parts_of_line) (defBody s_parts_of_line) (defScope s_parts_of_line) [] [] (a_parts_of_line K) fd := T.c.fun_ 12
theorem Env.F_block_of_line : ∃ fd, FunD K "block_of_line" "block_of_line" (defArgs s_block_of_line) (defBody s_block_of_line) (defScope s_block_of_line) [] [] (a_block_of_line K) fd := T.c.fun_ 13
theorem Env.F_RuleReader___init__ : ∃ fd, FunD K "__init__" "RuleReader.__init__" (defArgs s_RuleReader___init__) (defBody s_RuleReader___init__) (defScope s_RuleReader___init__) [] [] (a_RuleReader___init__ K) fd := T.c.fun_ 14
theorem Env.F_RuleReader_accept : ∃ fd, FunD K "accept" "RuleReader.accept" (defArgs s_RuleReader_accept) (defBody s_RuleReader_accept) (defScope s_RuleReader_accept) [] [] (a_RuleReader_accept K) fd := T.c.fun_ 15
theorem Env.F_RuleReader_accept_block : ∃ fd, FunD K "accept_block" "RuleReader.accept_block" (defArgs s_RuleReader_accept_block) (defBody s_RuleReader_accept_block) (defScope s_RuleReader_accept_block) [] [] (a_RuleReader_accept_block K) fd := T.c.fun_ 16
theorem Env.F_read_rule : ∃ fd, FunD K "read_rule" "read_rule" (defArgs s_read_rule) (defBody s_read_rule) (defScope s_read_rule) [] [] (a_read_rule K) fd := T.c.fun_ 17
theorem Env.F_checked_rule : ∃ fd, FunD K "checked_rule" "checked_rule" (defArgs s_checked_rule) (defBody s_checked_rule) (defScope s_checked_rule) [] [] (a_checked_rule K) fd := T.c.fun_ 18
theorem Env.F_rule_text : ∃ fd, FunD K "rule_text" "rule_text" (defArgs s_rule_text) (defBody s_rule_text) (defScope s_rule_text) [] [] (a_rule_text K) fd := T.c.fun_ 19
theorem Env.F_places_of : ∃ fd, FunD K "places_of" "places_of" (defArgs s_places_of) (defBody s_places_of) (defScope s_places_of) [] [] (a_places_of K) fd := T.c.fun_ 20
theorem Env.F_Rule___init__ : ∃ fd, FunD K "__init__" "Rule.__init__" (defArgs s_Rule___init__) (defBody s_Rule___init__) (defScope s_Rule___init__) [] [] (a_Rule___init__ K) fd := T.c.fun_ 21
theorem Env.F_Rule_text : ∃ fd, FunD K "text" "Rule.text" (defArgs s_Rule_text) (defBody s_Rule_text) (defScope s_Rule_text) [] [] (a_Rule_text K) fd := T.c.fun_ 22
theorem Env.F_Rule_of : ∃ fd, FunD K "of" "Rule.of" (defArgs s_Rule_of) (defBody s_Rule_of) (defScope s_Rule_of) [] [] (a_Rule_of K) fd := T.c.fun_ 23
theorem Env.F_Rule_number_of : ∃ fd, FunD K "number_of" "Rule.number_of" (defArgs s_Rule_number_of) (defBody s_Rule_number_of) (defScope s_Rule_number_of) [] [] (a_Rule_number_of K) fd := T.c.fun_ 24
theorem Env.F_Rule_seat_of : ∃ fd, FunD K "seat_of" "Rule.seat_of" (defArgs s_Rule_seat_of) (defBody s_Rule_seat_of) (defScope s_Rule_seat_of) [] [] (a_Rule_seat_of K) fd := T.c.fun_ 25
theorem Env.F_Rule_at : ∃ fd, FunD K "at" "Rule.at" (defArgs s_Rule_at) (defBody s_Rule_at) (defScope s_Rule_at) [] [] (a_Rule_at K) fd := T.c.fun_ 26
theorem Env.F_Rule___getitem__ : ∃ fd, FunD K "__getitem__" "Rule.__getitem__" (defArgs s_Rule___getitem__) (defBody s_Rule___getitem__) (defScope s_Rule___getitem__) [] [] (a_Rule___getitem__ K) fd := T.c.fun_ 27
theorem Env.F_Rule___len__ : ∃ fd, FunD K "__len__" "Rule.__len__" (defArgs s_Rule___len__) (defBody s_Rule___len__) (defScope s_Rule___len__) [] [] (a_Rule___len__ K) fd := T.c.fun_ 28
theorem Env.F_Rule___contains__ : ∃ fd, FunD K "__contains__" "Rule.__contains__" (defArgs s_Rule___contains__) (defBody s_Rule___contains__) (defScope s_Rule___contains__) [] [] (a_Rule___contains__ K) fd := T.c.fun_ 29
theorem Env.F_Rule___iter__ : ∃ fd, FunD K "__iter__" "Rule.__iter__" (defArgs s_Rule___iter__) (defBody s_Rule___iter__) (defScope s_Rule___iter__) [] [] (a_Rule___iter__ K) fd := T.c.fun_ 30
theorem Env.F_Rule___eq__ : ∃ fd, FunD K "__eq__" "Rule.__eq__" (defArgs s_Rule___eq__) (defBody s_Rule___eq__) (defScope s_Rule___eq__) [] [] (a_Rule___eq__ K) fd := T.c.fun_ 31
theorem Env.F_Rule___repr__ : ∃ fd, FunD K "__repr__" "Rule.__repr__" (defArgs s_Rule___repr__) (defBody s_Rule___repr__) (defScope s_Rule___repr__) [] [] (a_Rule___repr__ K) fd := T.c.fun_ 32
theorem Env.F_check_letter : ∃ fd, FunD K "check_letter" "check_letter" (defArgs s_check_letter) (defBody s_check_letter) (defScope s_check_letter) [] [] (a_check_letter K) fd := T.c.fun_ 33
theorem Env.F_check_level : ∃ fd, FunD K "check_level" "check_level" (defArgs s_check_level) (defBody s_check_level) (defScope s_check_level) [] [] (a_check_level K) fd := T.c.fun_ 34
theorem Env.F_counted : ∃ fd, FunD K "counted" "counted" (defArgs s_counted) (defBody s_counted) (defScope s_counted) [] [] (a_counted K) fd := T.c.fun_ 35
theorem Env.F_count : ∃ fd, FunD K "count" "count" (defArgs s_count) (defBody s_count) (defScope s_count) [] [] (a_count K) fd := T.c.fun_ 36
theorem Env.F__law_bag : ∃ fd, FunD K "_law_bag" "_law_bag" (defArgs s__law_bag) (defBody s__law_bag) (defScope s__law_bag) [] [] (a__law_bag K) fd := T.c.fun_ 37
theorem Env.F__law_draw : ∃ fd, FunD K "_law_draw" "_law_draw" (defArgs s__law_draw) (defBody s__law_draw) (defScope s__law_draw) [] [] (a__law_draw K) fd := T.c.fun_ 38
theorem Env.F__law_of : ∃ fd, FunD K "_law_of" "_law_of" (defArgs s__law_of) (defBody s__law_of) (defScope s__law_of) [] [] (a__law_of K) fd := T.c.fun_ 39
theorem Env.F__law_mixed : ∃ fd, FunD K "_law_mixed" "_law_mixed" (defArgs s__law_mixed) (defBody s__law_mixed) (defScope s__law_mixed) [] [] (a__law_mixed K) fd := T.c.fun_ 40
theorem Env.F__law_like : ∃ fd, FunD K "_law_like" "_law_like" (defArgs s__law_like) (defBody s__law_like) (defScope s__law_like) [] [] (a__law_like K) fd := T.c.fun_ 41
theorem Env.F__law_word : ∃ fd, FunD K "_law_word" "_law_word" (defArgs s__law_word) (defBody s__law_word) (defScope s__law_word) [] [] (a__law_word K) fd := T.c.fun_ 42
theorem Env.F__law_names : ∃ fd, FunD K "_law_names" "_law_names" (defArgs s__law_names) (defBody s__law_names) (defScope s__law_names) [] [] (a__law_names K) fd := T.c.fun_ 43
theorem Env.F__law_cells : ∃ fd, FunD K "_law_cells" "_law_cells" (defArgs s__law_cells) (defBody s__law_cells) (defScope s__law_cells) [] [] (a__law_cells K) fd := T.c.fun_ 44
theorem Env.F__law_drawn : ∃ fd, FunD K "_law_drawn" "_law_drawn" (defArgs s__law_drawn) (defBody s__law_drawn) (defScope s__law_drawn) [] [] (a__law_drawn K) fd := T.c.fun_ 45
theorem Env.F__law_rows : ∃ fd, FunD K "_law_rows" "_law_rows" (defArgs s__law_rows) (defBody s__law_rows) (defScope s__law_rows) [] [] (a__law_rows K) fd := T.c.fun_ 46
theorem Env.F__law_floors : ∃ fd, FunD K "_law_floors" "_law_floors" (defArgs s__law_floors) (defBody s__law_floors) (defScope s__law_floors) [] [] (a__law_floors K) fd := T.c.fun_ 47
theorem Env.F__law_turned : ∃ fd, FunD K "_law_turned" "_law_turned" (defArgs s__law_turned) (defBody s__law_turned) (defScope s__law_turned) [] [] (a__law_turned K) fd := T.c.fun_ 48
theorem Env.F__law_spins : ∃ fd, FunD K "_law_spins" "_law_spins" (defArgs s__law_spins) (defBody s__law_spins) (defScope s__law_spins) [] [] (a__law_spins K) fd := T.c.fun_ 49
theorem Env.F__law_any : ∃ fd, FunD K "_law_any" "_law_any" (defArgs s__law_any) (defBody s__law_any) (defScope s__law_any) [] [] (a__law_any K) fd := T.c.fun_ 50
theorem Env.F__law_tier : ∃ fd, FunD K "_law_tier" "_law_tier" (defArgs s__law_tier) (defBody s__law_tier) (defScope s__law_tier) [] [] (a__law_tier K) fd := T.c.fun_ 51
theorem Env.F__law_tiers : ∃ fd, FunD K "_law_tiers" "_law_tiers" (defArgs s__law_tiers) (defBody s__law_tiers) (defScope s__law_tiers) [] [] (a__law_tiers K) fd := T.c.fun_ 52
theorem Env.F__law_page : ∃ fd, FunD K "_law_page" "_law_page" (defArgs s__law_page) (defBody s__law_page) (defScope s__law_page) [] [] (a__law_page K) fd := T.c.fun_ 53
theorem Env.F__law_bricks : ∃ fd, FunD K "_law_bricks" "_law_bricks" (defArgs s__law_bricks) (defBody s__law_bricks) (defScope s__law_bricks) [] [] (a__law_bricks K) fd := T.c.fun_ 54
theorem Env.F__law_made : ∃ fd, FunD K "_law_made" "_law_made" (defArgs s__law_made) (defBody s__law_made) (defScope s__law_made) [] [] (a__law_made K) fd := T.c.fun_ 55
theorem Env.F__law_up : ∃ fd, FunD K "_law_up" "_law_up" (defArgs s__law_up) (defBody s__law_up) (defScope s__law_up) [] [] (a__law_up K) fd := T.c.fun_ 56
theorem Env.F__law_counted : ∃ fd, FunD K "_law_counted" "_law_counted" (defArgs s__law_counted) (defBody s__law_counted) (defScope s__law_counted) [] [] (a__law_counted K) fd := T.c.fun_ 57
theorem Env.F__law_area : ∃ fd, FunD K "_law_area" "_law_area" (defArgs s__law_area) (defBody s__law_area) (defScope s__law_area) [] [] (a__law_area K) fd := T.c.fun_ 58
theorem Env.F__law_shape : ∃ fd, FunD K "_law_shape" "_law_shape" (defArgs s__law_shape) (defBody s__law_shape) (defScope s__law_shape) [] [] (a__law_shape K) fd := T.c.fun_ 59
theorem Env.F_law : ∃ fd, FunD K "law" "law" (defArgs s_law) (defBody s_law) (defScope s_law) [] [] (a_law K) fd := T.c.fun_ 60
end
end H
set_option maxHeartbeats 8000000
/-! M8: the mirrors of law_k08's defs (printed by gen.py). -/
namespace G8
open PySem PySem.Spec PyProof.Rows L2 GX
abbrev N_integral : List Str := ["value"]
def m_integral (K : PySem.W.Frag) : MS := (mRet (mAndV (mX (xUn (isD "int") (xR 0))) (mNotV (mX (xUn (isD "bool") (xR 0))))))
def f_integral (K : PySem.W.Frag) : Fn := fun ts => if ts.length = 1 then runF 1 (m_integral K) ts else .bad
abbrev N_is_digits : List Str := ["word", "sign"]
def m_is_digits (K : PySem.W.Frag) : MS := (mSeq (mIfS (mOr (mNot (mTr (mX (xV 0)))) (mB (mBin (cmpI (fun i j => decide (j < i))) (mX (xCB lenD (xsC (xR 0) xsN))) (mX (xC (.int 1000)))))) (mRet (mX (xC (.bl false)))) mNx) (mSeq (mIfS (mAnd (mB (mBin eqD (mX (xBin ixD (xR 0) (xC (.int 0)))) (mX (xC (.str "0"))))) (mB (mBin (cmpI (fun i j => decide (j < i))) (mX (xCB lenD (xsC (xR 0) xsN))) (mX (xC (.int 1)))))) (mRet (mX (xC (.bl false)))) mNx) (mRet (mCB allD (mCons (mFz (mLc [1] (mIS (mX (xV 0))) (gN 1) mYes (mIm (mX (xBin (inC false) (xR 1) (xC (.str "0123456789"))))))) mNil)))))
def f_is_digits (K : PySem.W.Frag) : Fn := fun ts => if ts.length = 1 then runF 2 (m_is_digits K) ts else .bad
abbrev N_integer_of : List Str := ["word", "negative", "digits"]
def m_integer_of (K : PySem.W.Frag) : MS := (mSeq (mSet 1 (mX (xMt "str" startsD (xR 0) (xsC (xC (.str "-")) xsN)))) (mSeq (mSet 2 (mIf (mB (mX (xV 1))) (mX (xSl slS (xR 0) (ptI (xC (.int 1))) pt0)) (mX (xV 0)))) (mSeq (mIfS (mNot (mB (mFz (mCallO (f_is_digits K) (mCons (mX (xV 2)) mNil))))) (mRet (mX (xC .non))) mNx) (mSeq (mIfS (mNot (mB (mX (xV 1)))) (mRet (mX (xCB intS (xsC (xR 2) xsN)))) mNx) (mRet (mIf (mB (mBin eqD (mX (xV 2)) (mX (xC (.str "0"))))) (mX (xC .non)) (mX (xUn negI (xCB intS (xsC (xR 2) xsN))))))))))
def f_integer_of (K : PySem.W.Frag) : Fn := fun ts => if ts.length = 1 then runF 3 (m_integer_of K) ts else .bad
abbrev N_words_of : List Str := ["line", "word"]
def m_words_of (K : PySem.W.Frag) : MS := (mRet (mFz (mLc [1] (mIL (mFz (oMt "str" splitD (xR 0) (xsC (xC (.str " ")) xsN)))) (gN 1) (mTr (mX (xV 1))) (mIm (mX (xV 1))))))
def f_words_of (K : PySem.W.Frag) : Fn := fun ts => if ts.length = 1 then runF 2 (m_words_of K) ts else .bad
abbrev N_lines_of : List Str := ["text", "pieces", "at", "piece"]
def m_lines_of (K : PySem.W.Frag) : MS := (mSeq (mSet 1 (mFz (oMt "str" splitD (xR 0) (xsC (xC (.str "\n")) xsN)))) (mSeq (mIfS (mB (mBin eqD (mX (xBin ixD (xR 1) (xUn negI (xC (.int 1))))) (mX (xC (.str ""))))) (mSet 1 (mFz (oSl (xR 1) pt0 (ptI (xUn negI (xC (.int 1))))))) mNx) (mRet (mFz (mLc [2, 3] (mIEn (mCons (mX (xV 1)) mNil)) (gT 2 (gsC (gN 2) (gsC (gN 3) gsN))) mYes (mIm (mTup (mCons (mX (xBin addI (xR 2) (xC (.int 1)))) (mCons (mFz (mCallO (f_words_of K) (mCons (mX (xV 3)) mNil))) mNil)))))))))
def f_lines_of (K : PySem.W.Frag) : Fn := fun ts => if ts.length = 1 then runF 4 (m_lines_of K) ts else .bad
abbrev N_text_of : List Str := ["lines", "line"]
def m_text_of (K : PySem.W.Frag) : MS := (mRet (mMt "str" joinD (mX (xC (.str ""))) (mCons (mFz (mLc [1] (mIL (mX (xV 0))) (gN 1) mYes (mIm (mX (xBin addS (xR 1) (xC (.str "\n"))))))) mNil)))
def f_text_of (K : PySem.W.Frag) : Fn := fun ts => if ts.length = 1 then runF 2 (m_text_of K) ts else .bad
abbrev N_is_name : List Str := ["value", "sign"]
def m_is_name (K : PySem.W.Frag) : MS := (mSeq (mIfS (mOr (mNot (mB (mX (xUn (isD "str") (xR 0))))) (mNot (mB (mChain (cmpI (fun i j => decide (i ≤ j))) (cmpI (fun i j => decide (i ≤ j))) (mX (xC (.int 1))) (mX (xCB lenD (xsC (xR 0) xsN))) (mX (xC (.int 6))))))) (mRet (mX (xC (.bl false)))) mNx) (mSeq (mIfS (mOr (mB (mBin (inC true) (mX (xBin ixD (xR 0) (xC (.int 0)))) (mX (xC (.str "abcdefghijklmnopqrstuvwxyz"))))) (mB (mBin (inSeq false) (mX (xV 0)) (mX (xC (.ktp [.str "rule", .str "letters", .str "sides", .str "done", .str "scatter", .str "looks", .str "look", .str "kinds", .str "at", .str "clock", .str "row", .str "hand", .str "as", .str "none"])))))) (mRet (mX (xC (.bl false)))) mNx) (mRet (mCB allD (mCons (mFz (mLc [1] (mIS (mX (xV 0))) (gN 1) mYes (mIm (mX (xBin (inC false) (xR 1) (xC (.str "abcdefghijklmnopqrstuvwxyz0123456789"))))))) mNil)))))
def f_is_name (K : PySem.W.Frag) : Fn := fun ts => if ts.length = 1 then runF 2 (m_is_name K) ts else .bad
abbrev N_read_integer : List Str := ["word"]
def m_read_integer (K : PySem.W.Frag) : MS := (mRet (mFz (mCallO (f_integer_of K) (mCons (mX (xV 0)) mNil))))
def f_read_integer (K : PySem.W.Frag) : Fn := fun ts => if ts.length = 1 then runF 1 (m_read_integer K) ts else .bad
abbrev N_need : List Str := ["condition", "line", "why"]
def m_need (K : PySem.W.Frag) : MS := (mIfS (mNot (mB (mX (xV 0)))) mNever mNx)
def f_need (K : PySem.W.Frag) : Fn := fun ts => if ts.length = 3 then runF 3 (m_need K) ts else .bad
abbrev N_checked_letters : List Str := ["names", "line", "name"]
def m_checked_letters (K : PySem.W.Frag) : MS := (mSeq (mDrop (mFz (mCallO (f_need K) (mCons (mX (xBin (cmpI (fun i j => decide (j < i))) (xCB lenD (xsC (xR 0) xsN)) (xC (.int 0)))) (mCons (mX (xV 1)) (mCons (mX (xC (.str "there is no letter"))) mNil)))))) (mSeq (mDrop (mFz (mCallO (f_need K) (mCons (mCB allD (mCons (mFz (mLc [2] (mIL (mX (xV 0))) (gN 2) mYes (mIm (mFz (mCallO (f_is_name K) (mCons (mX (xV 2)) mNil)))))) mNil)) (mCons (mX (xV 1)) (mCons (mX (xC (.str "a letter is no name"))) mNil)))))) (mSeq (mDrop (mFz (mCallO (f_need K) (mCons (mX (xBin eqD (xUn lenSetD (xR 0)) (xCB lenD (xsC (xR 0) xsN)))) (mCons (mX (xV 1)) (mCons (mX (xC (.str "a letter stands twice"))) mNil)))))) (mSeq (mIfS (mB (mBin (cmpI (fun i j => decide (j < i))) (mX (xCB lenD (xsC (xR 0) xsN))) (mX (xC (.int 40))))) mNever mNx) (mRet (mX (xCB tupD (xsC (xR 0) xsN))))))))
def f_checked_letters (K : PySem.W.Frag) : Fn := fun ts => if ts.length = 2 then runF 3 (m_checked_letters K) ts else .bad
abbrev N_checked_sides : List Str := ["numbers", "line", "many", "number"]
def m_checked_sides (K : PySem.W.Frag) : MS := (mSeq (mDrop (mFz (mCallO (f_need K) (mCons (mChain (cmpI (fun i j => decide (i ≤ j))) (cmpI (fun i j => decide (i ≤ j))) (mX (xC (.int 1))) (mX (xCB lenD (xsC (xR 0) xsN))) (mX (xC (.int 2)))) (mCons (mX (xV 1)) (mCons (mX (xC (.str "there must be one or two sides"))) mNil)))))) (mSeq (mDrop (mFz (mCallO (f_need K) (mCons (mCB allD (mCons (mFz (mLc [3] (mIL (mX (xV 0))) (gN 3) mYes (mIm (mFz (mCallO (f_integral K) (mCons (mX (xV 3)) mNil)))))) mNil)) (mCons (mX (xV 1)) (mCons (mX (xC (.str "a side is no integer"))) mNil)))))) (mSeq (mDrop (mFz (mCallO (f_need K) (mCons (mCB allD (mCons (mFz (mLc [3] (mIL (mX (xV 0))) (gN 3) mYes (mIm (mX (xBin (cmpI (fun i j => decide (j < i))) (xR 3) (xC (.int 1))))))) mNil)) (mCons (mX (xV 1)) (mCons (mX (xC (.str "a side is below 2"))) mNil)))))) (mSeq (mSet 2 (mX (xC (.int 1)))) (mSeq (mFor (mIL (mX (xV 0))) (gN 3) (mSeq (mIfS (mB (mBin (cmpI (fun i j => decide (j < i))) (mX (xV 3)) (mX (xC (.int 9))))) mNever mNx) (mSet 2 (mX (xBin mulI (xR 2) (xR 3)))))) (mSeq (mIfS (mB (mBin (cmpI (fun i j => decide (j < i))) (mX (xV 2)) (mX (xC (.int 16))))) mNever mNx) (mRet (mX (xCB tupD (xsC (xR 0) xsN))))))))))
def f_checked_sides (K : PySem.W.Frag) : Fn := fun ts => if ts.length = 2 then runF 4 (m_checked_sides K) ts else .bad
abbrev N_checked_sides_T : List Str := ["numbers", "line", "many", "number"]
def m_checked_sides_T (K : PySem.W.Frag) : MS := (mSeq (mDrop (mFz (mCallO (f_need K) (mCons (mChain (cmpI (fun i j => decide (i ≤ j))) (cmpI (fun i j => decide (i ≤ j))) (mX (xC (.int 1))) (mX (xCB lenD (xsC (xR 0) xsN))) (mX (xC (.int 2)))) (mCons (mX (xV 1)) (mCons (mX (xC (.str "there must be one or two sides"))) mNil)))))) (mSeq (mDrop (mFz (mCallO (f_need K) (mCons (mCB allD (mCons (mFz (mLc [3] (mIT (mX (xV 0))) (gN 3) mYes (mIm (mFz (mCallO (f_integral K) (mCons (mX (xV 3)) mNil)))))) mNil)) (mCons (mX (xV 1)) (mCons (mX (xC (.str "a side is no integer"))) mNil)))))) (mSeq (mDrop (mFz (mCallO (f_need K) (mCons (mCB allD (mCons (mFz (mLc [3] (mIT (mX (xV 0))) (gN 3) mYes (mIm (mX (xBin (cmpI (fun i j => decide (j < i))) (xR 3) (xC (.int 1))))))) mNil)) (mCons (mX (xV 1)) (mCons (mX (xC (.str "a side is below 2"))) mNil)))))) (mSeq (mSet 2 (mX (xC (.int 1)))) (mSeq (mFor (mIT (mX (xV 0))) (gN 3) (mSeq (mIfS (mB (mBin (cmpI (fun i j => decide (j < i))) (mX (xV 3)) (mX (xC (.int 9))))) mNever mNx) (mSet 2 (mX (xBin mulI (xR 2) (xR 3)))))) (mSeq (mIfS (mB (mBin (cmpI (fun i j => decide (j < i))) (mX (xV 2)) (mX (xC (.int 16))))) mNever mNx) (mRet (mX (xCB tupD (xsC (xR 0) xsN))))))))))
def f_checked_sides_T (K : PySem.W.Frag) : Fn := fun ts => if ts.length = 2 then runF 4 (m_checked_sides_T K) ts else .bad
abbrev N_checked_block : List Str := ["block", "sides", "letters", "line", "many", "side", "letter"]
def m_checked_block (K : PySem.W.Frag) : MS := (mSeq (mSet 4 (mX (xC (.int 1)))) (mSeq (mFor (mIT (mX (xV 1))) (gN 5) (mSet 4 (mX (xBin mulI (xR 4) (xR 5))))) (mSeq (mDrop (mFz (mCallO (f_need K) (mCons (mX (xBin eqD (xCB lenD (xsC (xR 0) xsN)) (xR 4))) (mCons (mX (xV 3)) (mCons (mX (xC (.str "a block has not one letter for each place"))) mNil)))))) (mSeq (mDrop (mFz (mCallO (f_need K) (mCons (mCB allD (mCons (mFz (mLc [6] (mIL (mX (xV 0))) (gN 6) mYes (mIm (mAndV (mFz (mCallO (f_is_name K) (mCons (mX (xV 6)) mNil))) (mX (xBin (inSeq false) (xR 6) (xR 2))))))) mNil)) (mCons (mX (xV 3)) (mCons (mX (xC (.str "a block has what is no letter"))) mNil)))))) (mRet (mX (xCB tupD (xsC (xR 0) xsN))))))))
def f_checked_block (K : PySem.W.Frag) : Fn := fun ts => if ts.length = 4 then runF 7 (m_checked_block K) ts else .bad
abbrev N_parts_of_line : List Str := ["words", "parts", "word"]
def m_parts_of_line (K : PySem.W.Frag) : MS := (mSeq (mSetO 1 (mLst1 (oLst xsN))) (mSeq (mFor (mIL (mX (xV 0))) (gN 2) (mIfS (mB (mBin eqD (mX (xV 2)) (mX (xC (.str "/"))))) (mDrop (mApp 1 (oLst xsN))) (mDrop (mAppP (pIx (pV 1) (xUn negI (xC (.int 1)))) (xV 2))))) (mRetS 1)))
def f_parts_of_line (K : PySem.W.Frag) : Fn := fun ts => if ts.length = 1 then runF 3 (m_parts_of_line K) ts else .bad
abbrev N_block_of_line : List Str := ["words", "sides", "letters", "line", "parts", "high", "part", "letter"]
def m_block_of_line (K : PySem.W.Frag) : MS := (mSeq (mSet 4 (mFz (mCallO (f_parts_of_line K) (mCons (mX (xV 0)) mNil)))) (mSeq (mSet 5 (mIf (mB (mBin eqD (mX (xCB lenD (xsC (xR 1) xsN))) (mX (xC (.int 2))))) (mX (xBin ixD (xR 1) (xC (.int 1)))) (mX (xC (.int 1))))) (mSeq (mDrop (mFz (mCallO (f_need K) (mCons (mX (xBin eqD (xCB lenD (xsC (xR 4) xsN)) (xR 5))) (mCons (mX (xV 3)) (mCons (mX (xC (.str "a block has another number of parts than the rule"))) mNil)))))) (mSeq (mDrop (mFz (mCallO (f_need K) (mCons (mCB allD (mCons (mFz (mLc [6] (mIL (mX (xV 4))) (gN 6) mYes (mIm (mX (xBin eqD (xCB lenD (xsC (xR 6) xsN)) (xBin ixD (xR 1) (xC (.int 0)))))))) mNil)) (mCons (mX (xV 3)) (mCons (mX (xC (.str "a part of a block has another length than the side"))) mNil)))))) (mRet (mFz (mCallO (f_checked_block K) (mCons (mFz (mLc2 [6, 7] [7] (mIL (mX (xV 4))) (gN 6) mYes (mIL (mX (xV 6))) (gN 7) mYes (mIm (mX (xV 7))))) (mCons (mX (xV 1)) (mCons (mX (xV 2)) (mCons (mX (xV 3)) mNil)))))))))))
def f_block_of_line (K : PySem.W.Frag) : Fn := fun ts => if ts.length = 4 then runF 8 (m_block_of_line K) ts else .bad
abbrev N_RuleReader___init__ : List Str := ["self"]
def m_RuleReader___init__ (K : PySem.W.Frag) : MS := (mSeq (mSetF (He.ga K "RuleReader") "stage" (pV 0) (mIm (mX (xC (.int 0))))) (mSeq (mSetF (He.ga K "RuleReader") "letters" (pV 0) (mIm (mX (xTup xsN)))) (mSeq (mSetF (He.ga K "RuleReader") "sides" (pV 0) (mIm (mX (xTup xsN)))) (mSetF (He.ga K "RuleReader") "table" (pV 0) mDnew))))
def f_RuleReader___init__ (K : PySem.W.Frag) : Fn := fun ts => if ts.length = 1 then runF 1 (m_RuleReader___init__ K) ts else .bad
abbrev N_RuleReader_accept_block : List Str := ["self", "line", "words", "letter"]
def m_RuleReader_accept_block (K : PySem.W.Frag) : MS := (mSeq (mSet 3 (mX (xBin ixD (xR 2) (xC (.int 0))))) (mSeq (mDrop (mFz (mCallO (f_need K) (mCons (mX (xBin (inSeq false) (xR 3) (xPR (pFld (He.ga K "RuleReader") "letters" (pV 0))))) (mCons (mX (xV 1)) (mCons (mX (xC (.str "the line begins with no letter of the rule"))) mNil)))))) (mSeq (mDrop (mFz (mCallO (f_need K) (mCons (mX (xBin (dInD true) (xR 3) (xPR (pFld (He.ga K "RuleReader") "table" (pV 0))))) (mCons (mX (xV 1)) (mCons (mX (xC (.str "the letter has a block already"))) mNil)))))) (mSeq (mDrop (mFz (mCallO (f_need K) (mCons (mAndV (mX (xBin (cmpI (fun i j => decide (j < i))) (xCB lenD (xsC (xR 2) xsN)) (xC (.int 1)))) (mX (xBin eqD (xBin ixD (xR 2) (xC (.int 1))) (xC (.str ":"))))) (mCons (mX (xV 1)) (mCons (mX (xC (.str "a colon must stand behind the letter"))) mNil)))))) (mSetK (pFld (He.ga K "RuleReader") "table" (pV 0)) (xR 3) (mIm (mFz (mCallO (f_block_of_line K) (mCons (mFz (oSl (xR 2) (ptI (xC (.int 2))) pt0)) (mCons (mX (xP (pFld (He.ga K "RuleReader") "sides" (pV 0)))) (mCons (mX (xP (pFld (He.ga K "RuleReader") "letters" (pV 0)))) (mCons (mX (xV 1)) mNil))))))))))))
def f_RuleReader_accept_block (K : PySem.W.Frag) : Fn := fun ts => if ts.length = 3 then runF 4 (m_RuleReader_accept_block K) ts else .bad
abbrev N_RuleReader_accept : List Str := ["self", "line", "words", "word"]
def m_RuleReader_accept (K : PySem.W.Frag) : MS := (mIfS (mB (mBin eqD (mX (xP (pFld (He.ga K "RuleReader") "stage" (pV 0)))) (mX (xC (.int 0))))) (mSeq (mDrop (mFz (mCallO (f_need K) (mCons (mBin eqL (mX (xV 2)) (mFz (oLst (xsC (xC (.str "rule")) xsN)))) (mCons (mX (xV 1)) (mCons (mX (xC (.str "the first line must be: rule"))) mNil)))))) (mSetF (He.ga K "RuleReader") "stage" (pV 0) (mIm (mX (xC (.int 1)))))) (mIfS (mB (mBin eqD (mX (xP (pFld (He.ga K "RuleReader") "stage" (pV 0)))) (mX (xC (.int 1))))) (mSeq (mDrop (mFz (mCallO (f_need K) (mCons (mX (xBin eqD (xBin ixD (xR 2) (xC (.int 0))) (xC (.str "letters")))) (mCons (mX (xV 1)) (mCons (mX (xC (.str "the letters must follow"))) mNil)))))) (mSeq (mSetF (He.ga K "RuleReader") "letters" (pV 0) (mIm (mFz (mCallO (f_checked_letters K) (mCons (mFz (oSl (xR 2) (ptI (xC (.int 1))) pt0)) (mCons (mX (xV 1)) mNil)))))) (mSetF (He.ga K "RuleReader") "stage" (pV 0) (mIm (mX (xC (.int 2))))))) (mIfS (mB (mBin eqD (mX (xP (pFld (He.ga K "RuleReader") "stage" (pV 0)))) (mX (xC (.int 2))))) (mSeq (mDrop (mFz (mCallO (f_need K) (mCons (mX (xBin eqD (xBin ixD (xR 2) (xC (.int 0))) (xC (.str "sides")))) (mCons (mX (xV 1)) (mCons (mX (xC (.str "the sides must follow"))) mNil)))))) (mSeq (mSetF (He.ga K "RuleReader") "sides" (pV 0) (mIm (mFz (mCallO (f_checked_sides K) (mCons (mFz (mLc [3] (mIL (mFz (oSl (xR 2) (ptI (xC (.int 1))) pt0))) (gN 3) mYes (mIm (mFz (mCallO (f_read_integer K) (mCons (mX (xV 3)) mNil)))))) (mCons (mX (xV 1)) mNil)))))) (mSetF (He.ga K "RuleReader") "stage" (pV 0) (mIm (mX (xC (.int 3))))))) (mIfS (mB (mBin eqD (mX (xP (pFld (He.ga K "RuleReader") "stage" (pV 0)))) (mX (xC (.int 4))))) mNever (mIfS (mB (mBin eqL (mX (xV 2)) (mFz (oLst (xsC (xC (.str "done")) xsN))))) (mSeq (mDrop (mFz (mCallO (f_need K) (mCons (mX (xBin eqD (xCB lenK (xsC (xPR (pFld (He.ga K "RuleReader") "table" (pV 0))) xsN)) (xCB lenD (xsC (xPR (pFld (He.ga K "RuleReader") "letters" (pV 0))) xsN)))) (mCons (mX (xV 1)) (mCons (mX (xC (.str "a letter has no block yet"))) mNil)))))) (mSetF (He.ga K "RuleReader") "stage" (pV 0) (mIm (mX (xC (.int 4)))))) (mDrop (mFz (mMethO (He.ga K "RuleReader") "accept_block" (f_RuleReader_accept_block K) (mV 0) (mCons (mX (xV 1)) (mCons (mX (xV 2)) mNil))))))))))
def f_RuleReader_accept (K : PySem.W.Frag) : Fn := fun ts => if ts.length = 3 then runF 4 (m_RuleReader_accept K) ts else .bad
abbrev N_read_rule : List Str := ["text", "reader", "lines", "line", "words", "letter"]
def m_read_rule (K : PySem.W.Frag) : MS := (mSeq (mIfS (mNot (mB (mX (xUn (isD "str") (xR 0))))) mNever mNx) (mSeq (mSetO 1 (mMk (He.ga K "RuleReader") (f_RuleReader___init__ K) mNil)) (mSeq (mSet 2 (mFz (mCallO (f_lines_of K) (mCons (mX (xV 0)) mNil)))) (mSeq (mFor (mIL (mX (xV 2))) (gT 2 (gsC (gN 3) (gsC (gN 4) gsN))) (mIfS (mTr (mX (xV 4))) (mDrop (mFz (mMethO (He.ga K "RuleReader") "accept" (f_RuleReader_accept K) (mV 1) (mCons (mX (xV 3)) (mCons (mX (xV 4)) mNil))))) mNx)) (mSeq (mIfS (mB (mBin neD (mX (xP (pFld (He.ga K "RuleReader") "stage" (pV 1)))) (mX (xC (.int 4))))) mNever mNx) (mRet (mTup (mCons (mX (xP (pFld (He.ga K "RuleReader") "sides" (pV 1)))) (mCons (mX (xP (pFld (He.ga K "RuleReader") "letters" (pV 1)))) (mCons (mCB tupD (mCons (mFz (mLc [5] (mIT (mX (xP (pFld (He.ga K "RuleReader") "letters" (pV 1))))) (gN 5) mYes (mIm (mX (xBin dGetD (xPR (pFld (He.ga K "RuleReader") "table" (pV 1))) (xR 5)))))) mNil)) mNil))))))))))
def f_read_rule (K : PySem.W.Frag) : Fn := fun ts => if ts.length = 1 then runF 6 (m_read_rule K) ts else .bad
abbrev N_checked_rule : List Str := ["sides", "letters", "blocks", "names", "numbers", "block"]
def m_checked_rule (K : PySem.W.Frag) : MS := (mSeq (mDrop (mFz (mCallO (f_need K) (mCons (mX (xUn (isD2 "list" "tuple") (xR 1))) (mCons (mX (xC (.int 0))) (mCons (mX (xC (.str "the letters are no list"))) mNil)))))) (mSeq (mSet 3 (mFz (mCallO (f_checked_letters K) (mCons (mX (xV 1)) (mCons (mX (xC (.int 0))) mNil))))) (mSeq (mDrop (mFz (mCallO (f_need K) (mCons (mX (xUn (isD "tuple") (xR 0))) (mCons (mX (xC (.int 0))) (mCons (mX (xC (.str "the sides are no tuple"))) mNil)))))) (mSeq (mSet 4 (mFz (mCallO (f_checked_sides_T K) (mCons (mX (xV 0)) (mCons (mX (xC (.int 0))) mNil))))) (mSeq (mDrop (mFz (mCallO (f_need K) (mCons (mX (xUn (isD2 "list" "tuple") (xR 2))) (mCons (mX (xC (.int 0))) (mCons (mX (xC (.str "the blocks are no list"))) mNil)))))) (mSeq (mDrop (mFz (mCallO (f_need K) (mCons (mX (xBin eqD (xCB lenD (xsC (xR 2) xsN)) (xCB lenD (xsC (xR 3) xsN)))) (mCons (mX (xC (.int 0))) (mCons (mX (xC (.str "there is not one block for each letter"))) mNil)))))) (mSeq (mFor (mIL (mX (xV 2))) (gN 5) (mDrop (mFz (mCallO (f_need K) (mCons (mX (xUn (isD2 "list" "tuple") (xR 5))) (mCons (mX (xC (.int 0))) (mCons (mX (xC (.str "a block is no list"))) mNil))))))) (mRet (mTup (mCons (mX (xV 4)) (mCons (mX (xV 3)) (mCons (mCB tupD (mCons (mFz (mLc [5] (mIL (mX (xV 2))) (gN 5) mYes (mIm (mFz (mCallO (f_checked_block K) (mCons (mX (xV 5)) (mCons (mX (xV 4)) (mCons (mX (xV 3)) (mCons (mX (xC (.int 0))) mNil))))))))) mNil)) mNil))))))))))))
def f_checked_rule (K : PySem.W.Frag) : Fn := fun ts => if ts.length = 3 then runF 6 (m_checked_rule K) ts else .bad
abbrev N_rule_text : List Str := ["sides", "letters", "blocks", "lines", "wide", "letter", "block", "parts", "side", "at"]
def m_rule_text (K : PySem.W.Frag) : MS := (mSeq (mSetO 3 (mLst (mCons (mX (xC (.str "rule"))) (mCons (mX (xBin addS (xC (.str "letters ")) (xMt "str" joinD (xC (.str " ")) (xsC (xR 1) xsN)))) (mCons (mBin addS (mX (xC (.str "sides "))) (mMt "str" joinD (mX (xC (.str " "))) (mCons (mFz (mLc [8] (mIT (mX (xV 0))) (gN 8) mYes (mIm (mX (xCB strI (xsC (xR 8) xsN)))))) mNil))) mNil))))) (mSeq (mSet 4 (mX (xBin ixD (xR 0) (xC (.int 0))))) (mSeq (mFor (mIZ (mCons (mX (xV 1)) (mCons (mX (xV 2)) mNil))) (gT 2 (gsC (gN 5) (gsC (gN 6) gsN))) (mSeq (mSet 7 (mFz (mLc [9] (mIR3 (mCons (mX (xC (.int 0))) (mCons (mX (xCB lenD (xsC (xR 6) xsN))) (mCons (mX (xV 4)) mNil)))) (gN 9) mYes (mIm (mX (xMt "str" joinD (xC (.str " ")) (xsC (xSl slS (xR 6) (ptI (xR 9)) (ptI (xBin addI (xR 9) (xR 4)))) xsN))))))) (mDrop (mApp 3 (mIm (mX (xBin addS (xBin addS (xR 5) (xC (.str " : "))) (xMt "str" joinD (xC (.str " / ")) (xsC (xR 7) xsN))))))))) (mRet (mFz (mCallO (f_text_of K) (mCons (mFz (mBinO catL (mM 3) (mFz (oLst (xsC (xC (.str "done")) xsN))))) mNil)))))))
def f_rule_text (K : PySem.W.Frag) : Fn := fun ts => if ts.length = 3 then runF 10 (m_rule_text K) ts else .bad
abbrev N_places_of : List Str := ["sides", "x", "y"]
def m_places_of (K : PySem.W.Frag) : MS := (mSeq (mIfS (mB (mBin eqD (mX (xCB lenD (xsC (xR 0) xsN))) (mX (xC (.int 1))))) (mRet (mCB tupD (mCons (mFz (mLc [1] (mIR1 (mCons (mX (xBin ixD (xR 0) (xC (.int 0)))) mNil)) (gN 1) mYes (mIm (mX (xTup (xsC (xV 1) xsN)))))) mNil))) mNx) (mRet (mCB tupD (mCons (mFz (mLc2 [2, 1] [1] (mIR1 (mCons (mX (xBin ixD (xR 0) (xC (.int 1)))) mNil)) (gN 2) mYes (mIR1 (mCons (mX (xBin ixD (xR 0) (xC (.int 0)))) mNil)) (gN 1) mYes (mIm (mX (xTup (xsC (xV 1) (xsC (xV 2) xsN))))))) mNil))))
def f_places_of (K : PySem.W.Frag) : Fn := fun ts => if ts.length = 1 then runF 3 (m_places_of K) ts else .bad
abbrev N_Rule___init__ : List Str := ["self", "text", "sides", "letters", "blocks", "columns", "at", "letter", "place", "block"]
def m_Rule___init__ (K : PySem.W.Frag) : MS := (mSeq (mAsg (gT 3 (gsC (gN 2) (gsC (gN 3) (gsC (gN 4) gsN)))) (mFz (mCallO (f_read_rule K) (mCons (mX (xV 1)) mNil)))) (mSeq (mSetF (He.ga K "Rule") "sides" (pV 0) (mIm (mX (xV 2)))) (mSeq (mSetF (He.ga K "Rule") "letters" (pV 0) (mIm (mX (xV 3)))) (mSeq (mSetF (He.ga K "Rule") "places" (pV 0) (mIm (mFz (mCallO (f_places_of K) (mCons (mX (xV 2)) mNil))))) (mSeq (mSetF (He.ga K "Rule") "written" (pV 0) (mIm (mFz (mCallO (f_rule_text K) (mCons (mX (xV 2)) (mCons (mX (xV 3)) (mCons (mX (xV 4)) mNil))))))) (mSeq (mSetF (He.ga K "Rule") "blocks" (pV 0) (mIm (mX (xV 4)))) (mSeq (mSetF (He.ga K "Rule") "order" (pV 0) (mIm (mFz (mDc [6, 7] (mIEnT (mCons (mX (xV 3)) mNil)) (gT 2 (gsC (gN 6) (gsC (gN 7) gsN))) mYes (mX (xV 7)) (mX (xV 6)))))) (mSeq (mSetF (He.ga K "Rule") "seats" (pV 0) (mIm (mFz (mDcT [6, 8] (mIEnT (mCons (mX (xP (pFld (He.ga K "Rule") "places" (pV 0)))) mNil)) (gT 2 (gsC (gN 6) (gsC (gN 8) gsN))) mYes (mX (xV 8)) (mX (xV 6)))))) (mSeq (mSetO 5 (oLst xsN)) (mSeq (mFor (mIR1 (mCons (mX (xCB lenD (xsC (xPR (pFld (He.ga K "Rule") "places" (pV 0))) xsN))) mNil)) (gN 6) (mDrop (mApp 5 (mIm (mCB tupD (mCons (mFz (mLc [9] (mIT (mX (xV 4))) (gN 9) mYes (mIm (mX (xBin dGetD (xPR (pFld (He.ga K "Rule") "order" (pV 0))) (xBin ixD (xR 9) (xR 6))))))) mNil)))))) (mSeq (mSetF (He.ga K "Rule") "columns" (pV 0) (mIm (mX (xCB tupD (xsC (xR 5) xsN))))) (mSetF (He.ga K "Rule") "memo" (pV 0) (mIm (mFz mDnew))))))))))))))
def f_Rule___init__ (K : PySem.W.Frag) : Fn := fun ts => if ts.length = 2 then runF 10 (m_Rule___init__ K) ts else .bad
abbrev N_Rule_text : List Str := ["self"]
def m_Rule_text (K : PySem.W.Frag) : MS := (mRet (mX (xFld (He.ga K "Rule") "written" (xR 0))))
def f_Rule_text (K : PySem.W.Frag) : Fn := fun ts => if ts.length = 1 then runF 1 (m_Rule_text K) ts else .bad
abbrev N_Rule_of : List Str := ["sides", "letters", "blocks", "numbers", "names", "rows"]
def m_Rule_of (K : PySem.W.Frag) : MS := (mSeq (mAsg (gT 3 (gsC (gN 3) (gsC (gN 4) (gsC (gN 5) gsN)))) (mFz (mCallO (f_checked_rule K) (mCons (mX (xV 0)) (mCons (mX (xV 1)) (mCons (mX (xV 2)) mNil)))))) (mRetO (mMk (He.ga K "Rule") (f_Rule___init__ K) (mCons (mFz (mCallO (f_rule_text K) (mCons (mX (xV 3)) (mCons (mX (xV 4)) (mCons (mX (xV 5)) mNil))))) mNil))))
def f_Rule_of (K : PySem.W.Frag) : Fn := fun ts => if ts.length = 3 then runF 6 (m_Rule_of K) ts else .bad
abbrev N_Rule_number_of : List Str := ["self", "letter"]
def m_Rule_number_of (K : PySem.W.Frag) : MS := (mSeq (mIfS (mOr (mNot (mB (mX (xUn (isD "str") (xR 1))))) (mB (mX (xBin (dInD true) (xR 1) (xFld (He.ga K "Rule") "order" (xR 0)))))) mNever mNx) (mRet (mX (xBin dGetD (xFld (He.ga K "Rule") "order" (xR 0)) (xR 1)))))
def f_Rule_number_of (K : PySem.W.Frag) : Fn := fun ts => if ts.length = 2 then runF 2 (m_Rule_number_of K) ts else .bad
abbrev N_Rule___len__ : List Str := ["self"]
def m_Rule___len__ (K : PySem.W.Frag) : MS := (mRet (mX (xCB lenD (xsC (xFld (He.ga K "Rule") "letters" (xR 0)) xsN))))
def f_Rule___len__ (K : PySem.W.Frag) : Fn := fun ts => if ts.length = 1 then runF 1 (m_Rule___len__ K) ts else .bad
abbrev N_check_letter : List Str := ["rule", "value"]
def m_check_letter (K : PySem.W.Frag) : MS := (mRet (mFz (mMethO (He.ga K "Rule") "number_of" (f_Rule_number_of K) (mX (xV 0)) (mCons (mX (xV 1)) mNil))))
def f_check_letter (K : PySem.W.Frag) : Fn := fun ts => if ts.length = 2 then runF 2 (m_check_letter K) ts else .bad
abbrev N_check_level : List Str := ["value"]
def m_check_level (K : PySem.W.Frag) : MS := (mSeq (mIfS (mOr (mNot (mB (mFz (mCallO (f_integral K) (mCons (mX (xV 0)) mNil))))) (mB (mBin (cmpI (fun i j => decide (i < j))) (mX (xV 0)) (mX (xC (.int 0)))))) mNever mNx) (mIfS (mB (mBin (cmpI (fun i j => decide (j < i))) (mX (xV 0)) (mX (xC (.int 200))))) mNever mNx))
def f_check_level (K : PySem.W.Frag) : Fn := fun ts => if ts.length = 1 then runF 1 (m_check_level K) ts else .bad
abbrev N_counted : List Str := ["rule", "many", "result", "column", "one", "two"]
def m_counted (K : PySem.W.Frag) : MS := (mSeq (mSetO 2 (mBinO repL (mFz (oLst (xsC (xC (.int 0)) xsN))) (mX (xCB lenD (xsC (xR 1) xsN))))) (mSeq (mFor (mIT (mX (xFld (He.ga K "Rule") "columns" (xR 0)))) (gN 3) (mFor (mIEnT (mCons (mX (xV 3)) mNil)) (gT 2 (gsC (gN 4) (gsC (gN 5) gsN))) (mAugI addI (pV 2) (xR 5) (xBin ixD (xR 1) (xR 4))))) (mRetS 2)))
def f_counted (K : PySem.W.Frag) : Fn := fun ts => if ts.length = 2 then runF 6 (m_counted K) ts else .bad
abbrev N_count : List Str := ["rule", "letter", "level", "number", "many", "_"]
def m_count (K : PySem.W.Frag) : MS := (mSeq (mSet 3 (mFz (mCallO (f_check_letter K) (mCons (mX (xV 0)) (mCons (mX (xV 1)) mNil))))) (mSeq (mDrop (mFz (mCallO (f_check_level K) (mCons (mX (xV 2)) mNil)))) (mSeq (mSetO 4 (mBinO repL (mFz (oLst (xsC (xC (.int 0)) xsN))) (mLenO (He.ga K "Rule") (f_Rule___len__ K) (mX (xV 0))))) (mSeq (mSetI (pV 4) (xR 3) (mIm (mX (xC (.int 1))))) (mSeq (mFor (mIR1 (mCons (mX (xV 2)) mNil)) (gN 5) (mSetO 4 (mCallO (f_counted K) (mCons (mX (xV 0)) (mCons (mV 4) mNil))))) (mRetO (oLZ (mCons (mX (xFld (He.ga K "Rule") "letters" (xR 0))) (mCons (mM 4) mNil)))))))))
def f_count (K : PySem.W.Frag) : Fn := fun ts => if ts.length = 3 then runF 6 (m_count K) ts else .bad
abbrev N__law_bag : List Str := ["script", "mixed", "item"]
def m__law_bag (K : PySem.W.Frag) : MS := (mSeq (mSet 1 (mX (xC (.int 17786)))) (mSeq (mFor (mIL (mFz (oSl (xR 0) pt0 (ptI (xC (.int 63)))))) (gN 2) (mSet 1 (mX (xBin modI (xCB intD (xsC (xBin addI (xBin addI (xBin mulI (xR 1) (xC (.int 52837))) (xBin modI (xCB intD (xsC (xR 2) xsN)) (xC (.int 2147483399)))) (xC (.int 271))) xsN)) (xC (.int 2147483563)))))) (mRetO (mLst (mCons (mFz (mCO listD (mCons (mFz (oSl (xR 0) pt0 (ptI (xC (.int 63))))) mNil))) (mCons (mX (xC (.int 0))) (mCons (mX (xC (.int 0))) (mCons (mX (xV 1)) (mCons (mX (xC (.int 0))) (mCons (mX (xC (.int 0))) mNil))))))))))
def f__law_bag (K : PySem.W.Frag) : Fn := fun ts => if ts.length = 1 then runF 3 (m__law_bag K) ts else .bad
abbrev N__law_draw : List Str := ["bag", "many", "item", "digit"]
def m__law_draw (K : PySem.W.Frag) : MS := (mSeq (mSetI (pV 0) (xC (.int 4)) (mIm (mX (xBin addI (xPR (pIx (pV 0) (xC (.int 4)))) (xC (.int 1)))))) (mSeq (mIfS (mAnd (mB (mBin eqD (mX (xP (pIx (pV 0) (xC (.int 2))))) (mX (xC (.int 0))))) (mB (mBin (cmpI (fun i j => decide (i < j))) (mX (xP (pIx (pV 0) (xC (.int 1))))) (mX (xCB lenD (xsC (xPR (pIx (pV 0) (xC (.int 0)))) xsN)))))) (mSeq (mSet 2 (mX (xBin ixD (xPR (pIx (pV 0) (xC (.int 0)))) (xPR (pIx (pV 0) (xC (.int 1))))))) (mSeq (mSetI (pV 0) (xC (.int 1)) (mIm (mX (xBin addI (xPR (pIx (pV 0) (xC (.int 1)))) (xC (.int 1)))))) (mIfS (mB (mBin (cmpI (fun i j => decide (j ≤ i))) (mX (xV 2)) (mX (xBin powI (xC (.int 10)) (xC (.int 18)))))) (mSeq (mSetI (pV 0) (xC (.int 2)) (mIm (mX (xV 2)))) (mSetI (pV 0) (xC (.int 5)) (mIm (mX (xC (.int 60)))))) (mSetI (pV 0) (xC (.int 3)) (mIm (mX (xBin modI (xCB intD (xsC (xBin addI (xBin addI (xBin mulI (xPR (pIx (pV 0) (xC (.int 3)))) (xC (.int 69619))) (xBin mulI (xBin modI (xCB intD (xsC (xR 2) xsN)) (xC (.int 2147483543))) (xC (.int 30113)))) (xC (.int 97))) xsN)) (xC (.int 2147483563))))))))) mNx) (mSeq (mIfS (mB (mBin (cmpI (fun i j => decide (j < i))) (mX (xP (pIx (pV 0) (xC (.int 2))))) (mX (xC (.int 0))))) (mSeq (mSet 3 (mX (xBin modI (xCB intD (xsC (xPR (pIx (pV 0) (xC (.int 2)))) xsN)) (xR 1)))) (mSeq (mSetI (pV 0) (xC (.int 5)) (mIm (mX (xBin subI (xPR (pIx (pV 0) (xC (.int 5)))) (xC (.int 1)))))) (mSeq (mSetI (pV 0) (xC (.int 2)) (mIm (mIf (mB (mBin (cmpI (fun i j => decide (j < i))) (mX (xP (pIx (pV 0) (xC (.int 5))))) (mX (xC (.int 0))))) (mX (xBin divI (xPR (pIx (pV 0) (xC (.int 2)))) (xR 1))) (mX (xC (.int 0)))))) (mRet (mX (xV 3)))))) mNx) (mSeq (mSetI (pV 0) (xC (.int 3)) (mIm (mX (xBin modI (xCB intD (xsC (xBin addI (xBin addI (xBin powI (xPR (pIx (pV 0) (xC (.int 3)))) (xC (.int 3))) (xBin mulI (xPR (pIx (pV 0) (xC (.int 4)))) (xC (.int 1299721)))) (xC (.int 70001))) xsN)) (xC (.int 2147483563)))))) (mRet (mX (xBin modI (xCB intD (xsC (xBin addI (xBin divI (xPR (pIx (pV 0) (xC (.int 3)))) (xC (.int 97))) (xBin mulI (xBin modI (xCB intD (xsC (xPR (pIx (pV 0) (xC (.int 3)))) xsN)) (xC (.int 7919))) (xC (.int 61)))) xsN)) (xR 1))))))))
def f__law_draw (K : PySem.W.Frag) : Fn := fun ts => if ts.length = 2 then runF 4 (m__law_draw K) ts else .bad
abbrev N__law_of : List Str := ["bag", "things"]
def m__law_of (K : PySem.W.Frag) : MS := (mRet (mBin ixD (mX (xV 1)) (mFz (mCallO (f__law_draw K) (mCons (mV 0) (mCons (mX (xCB lenD (xsC (xR 1) xsN))) mNil))))))
def f__law_of (K : PySem.W.Frag) : Fn := fun ts => if ts.length = 2 then runF 2 (m__law_of K) ts else .bad
abbrev N__law_mixed : List Str := ["bag", "things", "left", "row", "k"]
def m__law_mixed (K : PySem.W.Frag) : MS := (mSeq (mSetO 2 (oCB listD (xsC (xR 1) xsN))) (mSeq (mSetO 3 (oLst xsN)) (mSeq (mFor (mIR1 (mCons (mX (xCB lenD (xsC (xR 1) xsN))) mNil)) (gN 4) (mDrop (mApp 3 (mIm (mPop 2 (mFz (mCallO (f__law_draw K) (mCons (mV 0) (mCons (mX (xCB lenD (xsC (xR 2) xsN))) mNil))))))))) (mRetS 3))))
def f__law_mixed (K : PySem.W.Frag) : Fn := fun ts => if ts.length = 2 then runF 5 (m__law_mixed K) ts else .bad
abbrev N__law_word : List Str := ["bag", "word", "k"]
def m__law_word (K : PySem.W.Frag) : MS := (mSeq (mSet 1 (mBin ixD (mX (xC (.str "abcdef"))) (mFz (mCallO (f__law_draw K) (mCons (mV 0) (mCons (mX (xC (.int 6))) mNil)))))) (mSeq (mFor (mIR1 (mCons (mFz (mCallO (f__law_of K) (mCons (mV 0) (mCons (mFz (oLst (xsC (xC (.int 0)) (xsC (xC (.int 1)) (xsC (xC (.int 0)) (xsC (xC (.int 2)) (xsC (xC (.int 0)) (xsC (xC (.int 1)) (xsC (xC (.int 5)) xsN))))))))) mNil)))) mNil)) (gN 2) (mSet 1 (mBin addS (mX (xV 1)) (mBin ixD (mX (xC (.str "abcdef012345"))) (mFz (mCallO (f__law_draw K) (mCons (mV 0) (mCons (mX (xC (.int 12))) mNil)))))))) (mRet (mX (xV 1)))))
def f__law_word (K : PySem.W.Frag) : Fn := fun ts => if ts.length = 1 then runF 3 (m__law_word K) ts else .bad
abbrev N__law_names : List Str := ["bag", "many", "known", "turn", "word", "stem", "k"]
def m__law_names (K : PySem.W.Frag) : MS := (mSeq (mSetO 2 (oLst xsN)) (mSeq (mFor (mIR1 (mCons (mX (xV 1)) mNil)) (gN 3) (mSeq (mSet 4 (mFz (mCallO (f__law_word K) (mCons (mV 0) mNil)))) (mSeq (mSet 5 (mX (xSl slS (xR 4) pt0 (ptI (xC (.int 1)))))) (mSeq (mFor (mIR1 (mCons (mX (xC (.int 20))) mNil)) (gN 6) (mSeq (mIfS (mB (mBin (inSeq true) (mX (xV 4)) (mV 2))) (fun δ => .ok (.bk δ)) mNx) (mSet 4 (mX (xBin addS (xR 5) (xCB strI (xsC (xBin addI (xBin mulI (xR 3) (xC (.int 20))) (xR 6)) xsN))))))) (mDrop (mApp 2 (mIm (mX (xV 4))))))))) (mRetS 2)))
def f__law_names (K : PySem.W.Frag) : Fn := fun ts => if ts.length = 2 then runF 7 (m__law_names K) ts else .bad
abbrev N__law_cells : List Str := ["shape", "found", "y", "x"]
def m__law_cells (K : PySem.W.Frag) : MS := (mSeq (mIfS (mB (mBin eqD (mX (xCB lenD (xsC (xR 0) xsN))) (mX (xC (.int 1))))) (mRet (mFz (mLc [3] (mIR1 (mCons (mX (xBin ixD (xR 0) (xC (.int 0)))) mNil)) (gN 3) mYes (mIm (mX (xTup (xsC (xV 3) xsN))))))) mNx) (mSeq (mSetO 1 (oLst xsN)) (mSeq (mFor (mIR1 (mCons (mX (xBin ixD (xR 0) (xC (.int 1)))) mNil)) (gN 2) (mFor (mIR1 (mCons (mX (xBin ixD (xR 0) (xC (.int 0)))) mNil)) (gN 3) (mDrop (mApp 1 (mIm (mX (xTup (xsC (xV 3) (xsC (xV 2) xsN))))))))) (mRetS 1))))
def f__law_cells (K : PySem.W.Frag) : Fn := fun ts => if ts.length = 1 then runF 4 (m__law_cells K) ts else .bad
abbrev N__law_drawn : List Str := ["bag", "shape", "many", "bricks", "cell", "row", "k"]
def m__law_drawn (K : PySem.W.Frag) : MS := (mSeq (mSetO 3 (mLc [6] (mIR1 (mCons (mX (xV 2)) mNil)) (gN 6) mYes (oLst xsN))) (mSeq (mFor (mIL (mFz (mCallO (f__law_cells K) (mCons (mX (xV 1)) mNil)))) (gN 4) (mSeq (mIfS (mB (mBin eqD (mFz (mCallO (f__law_draw K) (mCons (mV 0) (mCons (mX (xC (.int 5))) mNil)))) (mX (xC (.int 4))))) (mSet 5 (mFz (mLc [6] (mIR1 (mCons (mX (xV 2)) mNil)) (gN 6) mYes (mIm (mFz (mCallO (f__law_draw K) (mCons (mV 0) (mCons (mX (xV 2)) mNil)))))))) (mSet 5 (mFz (mCallO (f__law_mixed K) (mCons (mV 0) (mCons (mFz (oRg1 (xR 2))) mNil)))))) (mFor (mIR1 (mCons (mX (xV 2)) mNil)) (gN 6) (mDrop (mAppP (pIx (pV 3) (xR 6)) (xBin ixD (xR 5) (xR 6))))))) (mRet (mTup (mCons (mX (xV 1)) (mCons (mFz (mCallO (f__law_names K) (mCons (mV 0) (mCons (mX (xV 2)) mNil)))) (mCons (mM 3) mNil)))))))
def f__law_drawn (K : PySem.W.Frag) : Fn := fun ts => if ts.length = 3 then runF 7 (m__law_drawn K) ts else .bad
abbrev N__law_rows : List Str := ["bag", "pick"]
def m__law_rows (K : PySem.W.Frag) : MS := (mSeq (mSet 1 (mFz (mCallO (f__law_draw K) (mCons (mV 0) (mCons (mX (xC (.int 7))) mNil))))) (mSeq (mIfS (mB (mBin eqD (mX (xV 1)) (mX (xC (.int 6))))) (mRet (mFz (mCallO (f__law_drawn K) (mCons (mV 0) (mCons (mTup (mCons (mBin addI (mX (xC (.int 4))) (mFz (mCallO (f__law_draw K) (mCons (mV 0) (mCons (mX (xC (.int 2))) mNil))))) mNil)) (mCons (mX (xC (.int 2))) mNil)))))) mNx) (mRet (mFz (mCallO (f__law_drawn K) (mCons (mV 0) (mCons (mTup (mCons (mBin addI (mX (xC (.int 2))) (mFz (mCallO (f__law_draw K) (mCons (mV 0) (mCons (mX (xC (.int 2))) mNil))))) mNil)) (mCons (mBin ixD (mFz (oLst (xsC (xC (.int 2)) (xsC (xC (.int 3)) (xsC (xC (.int 4)) (xsC (xC (.int 3)) (xsC (xC (.int 2)) (xsC (xC (.int 3)) xsN)))))))) (mX (xV 1))) mNil))))))))
def f__law_rows (K : PySem.W.Frag) : Fn := fun ts => if ts.length = 1 then runF 2 (m__law_rows K) ts else .bad
abbrev N__law_floors : List Str := ["bag"]
def m__law_floors (K : PySem.W.Frag) : MS := (mRet (mFz (mCallO (f__law_drawn K) (mCons (mV 0) (mCons (mFz (mCallO (f__law_of K) (mCons (mV 0) (mCons (mFz (oLst (xsC (xTup (xsC (xC (.int 2)) (xsC (xC (.int 2)) xsN))) (xsC (xTup (xsC (xC (.int 2)) (xsC (xC (.int 3)) xsN))) (xsC (xTup (xsC (xC (.int 3)) (xsC (xC (.int 2)) xsN))) xsN))))) mNil)))) (mCons (mBin addI (mX (xC (.int 2))) (mFz (mCallO (f__law_draw K) (mCons (mV 0) (mCons (mX (xC (.int 2))) mNil))))) mNil))))))
def f__law_floors (K : PySem.W.Frag) : Fn := fun ts => if ts.length = 1 then runF 1 (m__law_floors K) ts else .bad
abbrev N__law_turned : List Str := ["bag", "shape", "bricks", "seat", "found", "k", "item"]
def m__law_turned (K : PySem.W.Frag) : MS := (mSeq (mSet 3 (mFz (mCallO (f__law_mixed K) (mCons (mV 0) (mCons (mFz (oRg1 (xCB lenD (xsC (xR 2) xsN)))) mNil))))) (mSeq (mSetO 4 (mLc [5] (mIR1 (mCons (mX (xCB lenD (xsC (xR 2) xsN))) mNil)) (gN 5) mYes (mIm (mFz (oLst xsN))))) (mSeq (mFor (mIR1 (mCons (mX (xCB lenD (xsC (xR 2) xsN))) mNil)) (gN 5) (mSetI (pV 4) (xBin ixD (xR 3) (xR 5)) (mIm (mFz (mLc [6] (mIL (mX (xBin ixD (xR 2) (xR 5)))) (gN 6) mYes (mIm (mX (xBin ixD (xR 3) (xR 6))))))))) (mRet (mTup (mCons (mX (xV 1)) (mCons (mFz (mCallO (f__law_names K) (mCons (mV 0) (mCons (mX (xCB lenD (xsC (xR 2) xsN))) mNil)))) (mCons (mM 4) mNil))))))))
def f__law_turned (K : PySem.W.Frag) : Fn := fun ts => if ts.length = 3 then runF 7 (m__law_turned K) ts else .bad
abbrev N__law_spins : List Str := ["bag", "wide", "shape", "many", "signs", "p", "bricks", "g", "r"]
def m__law_spins (K : PySem.W.Frag) : MS := (mSeq (mSet 2 (mFz (mCallO (f__law_of K) (mCons (mV 0) (mCons (mFz (oLst (xsC (xTup (xsC (xC (.int 2)) xsN)) (xsC (xTup (xsC (xC (.int 2)) xsN)) (xsC (xTup (xsC (xC (.int 3)) xsN)) (xsC (xTup (xsC (xC (.int 2)) xsN)) (xsC (xTup (xsC (xC (.int 2)) xsN)) xsN))))))) mNil))))) (mSeq (mIfS (mAnd (mB (mX (xV 1))) (mB (mBin eqD (mFz (mCallO (f__law_draw K) (mCons (mV 0) (mCons (mX (xC (.int 7))) mNil)))) (mX (xC (.int 3)))))) (mSet 2 (mFz (mCallO (f__law_of K) (mCons (mV 0) (mCons (mFz (oLst (xsC (xTup (xsC (xC (.int 4)) xsN)) (xsC (xTup (xsC (xC (.int 2)) (xsC (xC (.int 2)) xsN))) xsN)))) mNil))))) mNx) (mSeq (mSet 3 (mCB lenD (mCons (mFz (mCallO (f__law_cells K) (mCons (mX (xV 2)) mNil))) mNil))) (mSeq (mSetO 4 (oLst xsN)) (mSeq (mFor (mIR1 (mCons (mX (xV 3)) mNil)) (gN 5) (mDrop (mApp 4 (mIm (mFz (mLc [8] (mIR1 (mCons (mX (xV 3)) mNil)) (gN 8) mYes (mIm (mFz (mCallO (f__law_draw K) (mCons (mV 0) (mCons (mX (xC (.int 2))) mNil))))))))))) (mSeq (mIfS (mAnd (mB (mBin eqD (mX (xV 3)) (mX (xC (.int 2))))) (mB (mBin eqD (mFz (mCallO (f__law_draw K) (mCons (mV 0) (mCons (mX (xC (.int 2))) mNil)))) (mX (xC (.int 0)))))) (mSetO 4 (mCallO (f__law_mixed K) (mCons (mV 0) (mCons (mFz (mLst (mCons (mFz (oLst (xsC (xC (.int 0)) (xsC (xC (.int 0)) xsN)))) (mCons (mFz (oLst (xsC (xC (.int 0)) (xsC (xC (.int 1)) xsN)))) mNil)))) mNil)))) (mIfS (mAnd (mB (mBin eqD (mX (xV 3)) (mX (xC (.int 4))))) (mB (mBin eqD (mFz (mCallO (f__law_draw K) (mCons (mV 0) (mCons (mX (xC (.int 2))) mNil)))) (mX (xC (.int 0)))))) (mSetO 4 (mCallO (f__law_mixed K) (mCons (mV 0) (mCons (mFz (mLst (mCons (mFz (oLst (xsC (xC (.int 0)) (xsC (xC (.int 0)) (xsC (xC (.int 0)) (xsC (xC (.int 0)) xsN)))))) (mCons (mFz (oLst (xsC (xC (.int 0)) (xsC (xC (.int 1)) (xsC (xC (.int 0)) (xsC (xC (.int 1)) xsN)))))) (mCons (mFz (oLst (xsC (xC (.int 0)) (xsC (xC (.int 0)) (xsC (xC (.int 1)) (xsC (xC (.int 1)) xsN)))))) (mCons (mFz (oLst (xsC (xC (.int 0)) (xsC (xC (.int 1)) (xsC (xC (.int 1)) (xsC (xC (.int 0)) xsN)))))) mNil)))))) mNil)))) mNx)) (mSeq (mSetO 6 (oLst xsN)) (mSeq (mFor (mIR1 (mCons (mX (xC (.int 2))) mNil)) (gN 7) (mFor (mIR1 (mCons (mX (xV 3)) mNil)) (gN 5) (mDrop (mApp 6 (mIm (mFz (mLc [8] (mIR1 (mCons (mX (xV 3)) mNil)) (gN 8) mYes (mIm (mX (xBin addI (xBin mulI (xBin modI (xCB intD (xsC (xBin addI (xR 7) (xBin ixD (xPR (pIx (pV 4) (xR 5))) (xR 8))) xsN)) (xC (.int 2))) (xR 3)) (xR 8))))))))))) (mRet (mFz (mCallO (f__law_turned K) (mCons (mV 0) (mCons (mX (xV 2)) (mCons (mV 6) mNil))))))))))))))
def f__law_spins (K : PySem.W.Frag) : Fn := fun ts => if ts.length = 2 then runF 9 (m__law_spins K) ts else .bad
abbrev N__law_any : List Str := ["bag", "pick"]
def m__law_any (K : PySem.W.Frag) : MS := (mSeq (mSet 1 (mFz (mCallO (f__law_draw K) (mCons (mV 0) (mCons (mX (xC (.int 5))) mNil))))) (mSeq (mIfS (mB (mBin (cmpI (fun i j => decide (i < j))) (mX (xV 1)) (mX (xC (.int 2))))) (mRet (mFz (mCallO (f__law_rows K) (mCons (mV 0) mNil)))) mNx) (mSeq (mIfS (mB (mBin (cmpI (fun i j => decide (i < j))) (mX (xV 1)) (mX (xC (.int 4))))) (mRet (mFz (mCallO (f__law_floors K) (mCons (mV 0) mNil)))) mNx) (mRet (mFz (mCallO (f__law_spins K) (mCons (mV 0) (mCons (mX (xC (.bl true))) mNil))))))))
def f__law_any (K : PySem.W.Frag) : Fn := fun ts => if ts.length = 1 then runF 2 (m__law_any K) ts else .bad
abbrev N__law_tier : List Str := ["own", "k", "words", "wide", "parts", "item", "at"]
def m__law_tier (K : PySem.W.Frag) : MS := (mSeq (mSet 2 (mFz (mLc [5] (mIL (mX (xBin ixD (xBin ixD (xR 0) (xC (.int 2))) (xR 1)))) (gN 5) mYes (mIm (mX (xBin ixD (xBin ixD (xR 0) (xC (.int 1))) (xR 5))))))) (mSeq (mSet 3 (mX (xBin ixD (xBin ixD (xR 0) (xC (.int 0))) (xC (.int 0))))) (mSeq (mSet 4 (mFz (mLc [6] (mIR3 (mCons (mX (xC (.int 0))) (mCons (mX (xCB lenD (xsC (xR 2) xsN))) (mCons (mX (xV 3)) mNil)))) (gN 6) mYes (mIm (mMt "str" joinD (mX (xC (.str " "))) (mCons (mFz (oSl (xR 2) (ptI (xR 6)) (ptI (xBin addI (xR 6) (xR 3))))) mNil)))))) (mRet (mX (xBin addS (xBin addS (xBin ixD (xBin ixD (xR 0) (xC (.int 1))) (xR 1)) (xC (.str " : "))) (xMt "str" joinD (xC (.str " / ")) (xsC (xR 4) xsN))))))))
def f__law_tier (K : PySem.W.Frag) : Fn := fun ts => if ts.length = 2 then runF 7 (m__law_tier K) ts else .bad
abbrev N__law_tiers : List Str := ["own", "found", "side", "k"]
def m__law_tiers (K : PySem.W.Frag) : MS := (mSeq (mSet 1 (mFz (mLst (mCons (mX (xC (.str "rule"))) (mCons (mX (xBin addS (xC (.str "letters ")) (xMt "str" joinD (xC (.str " ")) (xsC (xBin ixD (xR 0) (xC (.int 1))) xsN)))) (mCons (mBin addS (mX (xC (.str "sides "))) (mMt "str" joinD (mX (xC (.str " "))) (mCons (mFz (mLc [2] (mIT (mX (xBin ixD (xR 0) (xC (.int 0))))) (gN 2) mYes (mIm (mX (xCB strI (xsC (xR 2) xsN)))))) mNil))) mNil)))))) (mRet (mFz (mBinO catL (mFz (mBinO catL (mX (xV 1)) (mFz (mLc [3] (mIR1 (mCons (mX (xCB lenD (xsC (xBin ixD (xR 0) (xC (.int 1))) xsN))) mNil)) (gN 3) mYes (mIm (mFz (mCallO (f__law_tier K) (mCons (mX (xV 0)) (mCons (mX (xV 3)) mNil))))))))) (mFz (oLst (xsC (xC (.str "done")) xsN)))))))
def f__law_tiers (K : PySem.W.Frag) : Fn := fun ts => if ts.length = 1 then runF 4 (m__law_tiers K) ts else .bad
abbrev N__law_page : List Str := ["own"]
def m__law_page (K : PySem.W.Frag) : MS := (mRet (mMt "str" joinD (mX (xC (.str "\n"))) (mCons (mFz (mBinO catL (mFz (mCallO (f__law_tiers K) (mCons (mX (xV 0)) mNil))) (mFz (oLst (xsC (xC (.str "")) xsN))))) mNil)))
def f__law_page (K : PySem.W.Frag) : Fn := fun ts => if ts.length = 1 then runF 1 (m__law_page K) ts else .bad
abbrev N__law_bricks : List Str := ["own", "found", "brick", "item"]
def m__law_bricks (K : PySem.W.Frag) : MS := (mSeq (mSetO 1 (oLst xsN)) (mSeq (mFor (mIL (mX (xBin ixD (xR 0) (xC (.int 2))))) (gN 2) (mDrop (mApp 1 (mIm (mFz (mLc [3] (mIL (mX (xV 2))) (gN 3) mYes (mIm (mX (xBin ixD (xBin ixD (xR 0) (xC (.int 1))) (xR 3)))))))))) (mRetS 1)))
def f__law_bricks (K : PySem.W.Frag) : Fn := fun ts => if ts.length = 1 then runF 4 (m__law_bricks K) ts else .bad
abbrev N__law_made : List Str := ["bag", "own"]
def m__law_made (K : PySem.W.Frag) : MS := (mSeq (mIfS (mB (mBin eqD (mFz (mCallO (f__law_draw K) (mCons (mV 0) (mCons (mX (xC (.int 2))) mNil)))) (mX (xC (.int 0))))) (mRetO (mMk (He.ga K "Rule") (f_Rule___init__ K) (mCons (mFz (mCallO (f__law_page K) (mCons (mX (xV 1)) mNil))) mNil))) mNx) (mRetO (mCallO (f_Rule_of K) (mCons (mX (xBin ixD (xR 1) (xC (.int 0)))) (mCons (mFz (oCB listD (xsC (xBin ixD (xR 1) (xC (.int 1))) xsN))) (mCons (mFz (mCallO (f__law_bricks K) (mCons (mX (xV 1)) mNil))) mNil))))))
def f__law_made (K : PySem.W.Frag) : Fn := fun ts => if ts.length = 2 then runF 2 (m__law_made K) ts else .bad
abbrev N__law_up : List Str := ["own", "counts", "more", "k", "item"]
def m__law_up (K : PySem.W.Frag) : MS := (mSeq (mSetO 2 (mLc [3] (mIR1 (mCons (mX (xCB lenD (xsC (xR 1) xsN))) mNil)) (gN 3) mYes (mIm (mX (xC (.int 0)))))) (mSeq (mFor (mIR1 (mCons (mX (xCB lenD (xsC (xR 1) xsN))) mNil)) (gN 3) (mFor (mIL (mX (xBin ixD (xBin ixD (xR 0) (xC (.int 2))) (xR 3)))) (gN 4) (mSetI (pV 2) (xR 4) (mIm (mX (xBin addI (xPR (pIx (pV 2) (xR 4))) (xBin ixD (xR 1) (xR 3)))))))) (mRetS 2)))
def f__law_up (K : PySem.W.Frag) : Fn := fun ts => if ts.length = 2 then runF 5 (m__law_up K) ts else .bad
abbrev N__law_counted : List Str := ["own", "k", "high", "now", "turn", "j"]
def m__law_counted (K : PySem.W.Frag) : MS := (mSeq (mSet 3 (mFz (mLc [5] (mIR1 (mCons (mX (xCB lenD (xsC (xBin ixD (xR 0) (xC (.int 1))) xsN))) mNil)) (gN 5) mYes (mIm (mX (xCB intD (xsC (xBin eqD (xR 5) (xR 1)) xsN))))))) (mSeq (mFor (mIR1 (mCons (mX (xV 2)) mNil)) (gN 4) (mSet 3 (mFz (mCallO (f__law_up K) (mCons (mX (xV 0)) (mCons (mX (xV 3)) mNil)))))) (mRet (mFz (mLc [5] (mIR1 (mCons (mX (xCB lenD (xsC (xR 3) xsN))) mNil)) (gN 5) mYes (mIm (mX (xTup (xsC (xBin ixD (xBin ixD (xR 0) (xC (.int 1))) (xR 5)) (xsC (xBin ixD (xR 3) (xR 5)) xsN))))))))))
def f__law_counted (K : PySem.W.Frag) : Fn := fun ts => if ts.length = 3 then runF 6 (m__law_counted K) ts else .bad
abbrev N__law_area : List Str := ["own", "high", "area", "turn"]
def m__law_area (K : PySem.W.Frag) : MS := (mSeq (mSet 2 (mX (xC (.int 1)))) (mSeq (mFor (mIR1 (mCons (mX (xV 1)) mNil)) (gN 3) (mSet 2 (mX (xBin mulI (xR 2) (xCB lenD (xsC (xBin ixD (xBin ixD (xR 0) (xC (.int 2))) (xC (.int 0))) xsN)))))) (mRet (mX (xV 2)))))
def f__law_area (K : PySem.W.Frag) : Fn := fun ts => if ts.length = 2 then runF 4 (m__law_area K) ts else .bad
abbrev N__law_shape : List Str := ["bag", "pick", "bricks", "many", "shape", "k", "cell"]
def m__law_shape (K : PySem.W.Frag) : MS := (mSeq (mSet 1 (mFz (mCallO (f__law_draw K) (mCons (mV 0) (mCons (mX (xC (.int 4))) mNil))))) (mSeq (mIfS (mB (mBin (cmpI (fun i j => decide (i < j))) (mX (xV 1)) (mX (xC (.int 2))))) (mRet (mFz (mCallO (f__law_any K) (mCons (mV 0) mNil)))) mNx) (mSeq (mIfS (mB (mBin eqD (mX (xV 1)) (mX (xC (.int 2))))) (mRet (mFz (mCallO (f__law_drawn K) (mCons (mV 0) (mCons (mFz (mCallO (f__law_of K) (mCons (mV 0) (mCons (mFz (oLst (xsC (xTup (xsC (xC (.int 2)) xsN)) (xsC (xTup (xsC (xC (.int 3)) xsN)) (xsC (xTup (xsC (xC (.int 2)) (xsC (xC (.int 2)) xsN))) (xsC (xTup (xsC (xC (.int 9)) xsN)) (xsC (xTup (xsC (xC (.int 4)) (xsC (xC (.int 4)) xsN))) xsN))))))) mNil)))) (mCons (mBin addI (mX (xC (.int 1))) (mFz (mCallO (f__law_draw K) (mCons (mV 0) (mCons (mX (xC (.int 8))) mNil))))) mNil)))))) mNx) (mSeq (mSetO 2 (oLst xsN)) (mSeq (mSet 3 (mBin addI (mX (xC (.int 2))) (mFz (mCallO (f__law_draw K) (mCons (mV 0) (mCons (mX (xC (.int 5))) mNil)))))) (mSeq (mSet 4 (mFz (mCallO (f__law_of K) (mCons (mV 0) (mCons (mFz (oLst (xsC (xTup (xsC (xC (.int 2)) xsN)) (xsC (xTup (xsC (xC (.int 2)) xsN)) (xsC (xTup (xsC (xC (.int 3)) xsN)) (xsC (xTup (xsC (xC (.int 2)) (xsC (xC (.int 2)) xsN))) xsN)))))) mNil))))) (mSeq (mFor (mIR1 (mCons (mX (xV 3)) mNil)) (gN 5) (mDrop (mApp 2 (mIm (mFz (mLc [6] (mIL (mFz (mCallO (f__law_cells K) (mCons (mX (xV 4)) mNil)))) (gN 6) mYes (mIm (mBin modI (mCB intD (mCons (mBin addI (mX (xV 5)) (mFz (mCallO (f__law_draw K) (mCons (mV 0) (mCons (mX (xC (.int 3))) mNil))))) mNil)) (mX (xV 3)))))))))) (mRet (mFz (mCallO (f__law_turned K) (mCons (mV 0) (mCons (mX (xV 4)) (mCons (mV 2) mNil)))))))))))))
def f__law_shape (K : PySem.W.Frag) : Fn := fun ts => if ts.length = 1 then runF 7 (m__law_shape K) ts else .bad
abbrev N__law_like_0 : List Str := ["told", "due", "k"]
def m__law_like_0 (K : PySem.W.Frag) : MS := (mSeq (mIfS (mB (mX (xUn (isD "bool") (xR 1)))) (mRet (mAndV (mX (xUn (isD "bool") (xR 0))) (mX (xBin eqD (xR 0) (xR 1))))) mNx) (mSeq (mIfS (mB (mX (xUn (isD "int") (xR 1)))) (mRet (mAndV (mX (xUn (isD "int") (xR 0))) (mAndV (mNotV (mX (xUn (isD "bool") (xR 0)))) (mX (xBin eqD (xR 0) (xR 1)))))) mNx) (mSeq (mIfS (mB (mX (xUn (isD "str") (xR 1)))) (mRet (mAndV (mX (xUn (isD "str") (xR 0))) (mX (xBin eqD (xR 0) (xR 1))))) mNx) (mSeq (mIfS (mOr (mB (mX (xUn (isD "list") (xR 1)))) (mB (mX (xUn (isD "tuple") (xR 1))))) (mSeq (mIfS (mOr (mB (mBin neD (mX (xUn (isD "list") (xR 0))) (mX (xUn (isD "list") (xR 1))))) (mB (mBin neD (mX (xUn (isD "tuple") (xR 0))) (mX (xUn (isD "tuple") (xR 1)))))) (mRet (mX (xC (.bl false)))) mNx) (mSeq (mIfS (mB (mBin neD (mX (xCB lenD (xsC (xR 0) xsN))) (mX (xCB lenD (xsC (xR 1) xsN))))) (mRet (mX (xC (.bl false)))) mNx) (mSeq mNever (mRet (mX (xC (.bl true))))))) mNx) (mSeq (mIfS (mB (mX (xUn (isD "dict") (xR 1)))) (mRet (mAndV (mX (xUn (isD "dict") (xR 0))) (mX (xBin eqD (xR 0) (xR 1))))) mNx) (mRet (mAndV (mX (xBin isN (xR 1) (xC .non))) (mX (xBin isN (xR 0) (xC .non))))))))))
def f__law_like_0 (K : PySem.W.Frag) : Fn := fun ts => if ts.length = 2 then runF 3 (m__law_like_0 K) ts else .bad
abbrev N__law_like_1 : List Str := ["told", "due", "k"]
def m__law_like_1 (K : PySem.W.Frag) : MS := (mSeq (mIfS (mB (mX (xUn (isD "bool") (xR 1)))) (mRet (mAndV (mX (xUn (isD "bool") (xR 0))) (mX (xBin eqD (xR 0) (xR 1))))) mNx) (mSeq (mIfS (mB (mX (xUn (isD "int") (xR 1)))) (mRet (mAndV (mX (xUn (isD "int") (xR 0))) (mAndV (mNotV (mX (xUn (isD "bool") (xR 0)))) (mX (xBin eqD (xR 0) (xR 1)))))) mNx) (mSeq (mIfS (mB (mX (xUn (isD "str") (xR 1)))) (mRet (mAndV (mX (xUn (isD "str") (xR 0))) (mX (xBin eqD (xR 0) (xR 1))))) mNx) (mSeq (mIfS (mOr (mB (mX (xUn (isD "list") (xR 1)))) (mB (mX (xUn (isD "tuple") (xR 1))))) (mSeq (mIfS (mOr (mB (mBin neD (mX (xUn (isD "list") (xR 0))) (mX (xUn (isD "list") (xR 1))))) (mB (mBin neD (mX (xUn (isD "tuple") (xR 0))) (mX (xUn (isD "tuple") (xR 1)))))) (mRet (mX (xC (.bl false)))) mNx) (mSeq (mIfS (mB (mBin neD (mX (xCB lenD (xsC (xR 0) xsN))) (mX (xCB lenD (xsC (xR 1) xsN))))) (mRet (mX (xC (.bl false)))) mNx) (mSeq (mFor (mIR1 (mCons (mX (xCB lenD (xsC (xR 1) xsN))) mNil)) (gN 2) (mIfS (mNot (mB (mFz (mCallO (f__law_like_0 K) (mCons (mX (xBin ixD (xR 0) (xR 2))) (mCons (mX (xBin ixD (xR 1) (xR 2))) mNil)))))) (mRet (mX (xC (.bl false)))) mNx)) (mRet (mX (xC (.bl true))))))) mNx) (mSeq (mIfS (mB (mX (xUn (isD "dict") (xR 1)))) (mRet (mAndV (mX (xUn (isD "dict") (xR 0))) (mX (xBin eqD (xR 0) (xR 1))))) mNx) (mRet (mAndV (mX (xBin isN (xR 1) (xC .non))) (mX (xBin isN (xR 0) (xC .non))))))))))
def f__law_like_1 (K : PySem.W.Frag) : Fn := fun ts => if ts.length = 2 then runF 3 (m__law_like_1 K) ts else .bad
abbrev N__law_like_2 : List Str := ["told", "due", "k"]
def m__law_like_2 (K : PySem.W.Frag) : MS := (mSeq (mIfS (mB (mX (xUn (isD "bool") (xR 1)))) (mRet (mAndV (mX (xUn (isD "bool") (xR 0))) (mX (xBin eqD (xR 0) (xR 1))))) mNx) (mSeq (mIfS (mB (mX (xUn (isD "int") (xR 1)))) (mRet (mAndV (mX (xUn (isD "int") (xR 0))) (mAndV (mNotV (mX (xUn (isD "bool") (xR 0)))) (mX (xBin eqD (xR 0) (xR 1)))))) mNx) (mSeq (mIfS (mB (mX (xUn (isD "str") (xR 1)))) (mRet (mAndV (mX (xUn (isD "str") (xR 0))) (mX (xBin eqD (xR 0) (xR 1))))) mNx) (mSeq (mIfS (mOr (mB (mX (xUn (isD "list") (xR 1)))) (mB (mX (xUn (isD "tuple") (xR 1))))) (mSeq (mIfS (mOr (mB (mBin neD (mX (xUn (isD "list") (xR 0))) (mX (xUn (isD "list") (xR 1))))) (mB (mBin neD (mX (xUn (isD "tuple") (xR 0))) (mX (xUn (isD "tuple") (xR 1)))))) (mRet (mX (xC (.bl false)))) mNx) (mSeq (mIfS (mB (mBin neD (mX (xCB lenD (xsC (xR 0) xsN))) (mX (xCB lenD (xsC (xR 1) xsN))))) (mRet (mX (xC (.bl false)))) mNx) (mSeq (mFor (mIR1 (mCons (mX (xCB lenD (xsC (xR 1) xsN))) mNil)) (gN 2) (mIfS (mNot (mB (mFz (mCallO (f__law_like_1 K) (mCons (mX (xBin ixD (xR 0) (xR 2))) (mCons (mX (xBin ixD (xR 1) (xR 2))) mNil)))))) (mRet (mX (xC (.bl false)))) mNx)) (mRet (mX (xC (.bl true))))))) mNx) (mSeq (mIfS (mB (mX (xUn (isD "dict") (xR 1)))) (mRet (mAndV (mX (xUn (isD "dict") (xR 0))) (mX (xBin eqD (xR 0) (xR 1))))) mNx) (mRet (mAndV (mX (xBin isN (xR 1) (xC .non))) (mX (xBin isN (xR 0) (xC .non))))))))))
def f__law_like_2 (K : PySem.W.Frag) : Fn := fun ts => if ts.length = 2 then runF 3 (m__law_like_2 K) ts else .bad
abbrev N_law : List Str := ["script", "bag", "own", "frame", "high", "k", "word", "due", "told", "up", "pair", "j"]
def m_law (K : PySem.W.Frag) : MS := (mSeq (mSetO 1 (mCallO (f__law_bag K) (mCons (mX (xV 0)) mNil))) (mSeq (mSet 2 (mFz (mCallO (f__law_shape K) (mCons (mV 1) mNil)))) (mSeq (mSet 3 (mFz (mCallO (f__law_made K) (mCons (mV 1) (mCons (mX (xV 2)) mNil))))) (mSeq (mFor (mIL (mFz (mLst (mCons (mX (xC (.int 0))) (mCons (mX (xC (.int 1))) (mCons (mBin subI (mX (xC (.int 200))) (mFz (mCallO (f__law_draw K) (mCons (mV 1) (mCons (mX (xC (.int 3))) mNil))))) (mCons (mBin addI (mX (xC (.int 2))) (mFz (mCallO (f__law_draw K) (mCons (mV 1) (mCons (mX (xC (.int 12))) mNil))))) (mCons (mBin addI (mX (xC (.int 14))) (mFz (mCallO (f__law_draw K) (mCons (mV 1) (mCons (mX (xC (.int 60))) mNil))))) (mCons (mBin addI (mX (xC (.int 74))) (mFz (mCallO (f__law_draw K) (mCons (mV 1) (mCons (mX (xC (.int 120))) mNil))))) mNil))))))))) (gN 4) (mSeq (mSet 5 (mFz (mCallO (f__law_draw K) (mCons (mV 1) (mCons (mX (xCB lenD (xsC (xBin ixD (xR 2) (xC (.int 1))) xsN))) mNil))))) (mSeq (mSet 6 (mX (xBin ixD (xBin ixD (xR 2) (xC (.int 1))) (xR 5)))) (mSeq (mSet 7 (mFz (mCallO (f__law_counted K) (mCons (mX (xV 2)) (mCons (mX (xV 5)) (mCons (mX (xV 4)) mNil)))))) (mSeq (mSetO 8 (mIfO (mB (mBin eqD (mFz (mCallO (f__law_draw K) (mCons (mV 1) (mCons (mX (xC (.int 2))) mNil)))) (mX (xC (.int 0))))) (mCallO (f_count K) (mCons (mX (xV 3)) (mCons (mX (xV 6)) (mCons (mX (xV 4)) mNil)))) (mCallO (f_count K) (mPerm (k3 []) (mCons (mX (xV 4)) (mCons (mX (xV 3)) (mCons (mX (xV 6)) mNil))))))) (mSeq (mIfS (mOr (mNot (mB (mFz (mCallO (f__law_like_2 K) (mCons (mV 8) (mCons (mX (xV 7)) mNil)))))) (mB (mBin neD (mCB sumD (mCons (mFz (mLcOwn 8 [10] (gN 10) mYes (mIm (mX (xBin ixD (xR 10) (xC (.int 1))))))) mNil)) (mFz (mCallO (f__law_area K) (mCons (mX (xV 2)) (mCons (mX (xV 4)) mNil))))))) (mRet (mX (xC (.bl false)))) mNx) (mSeq (mDrop (mApp 8 (mIm (mX (xTup (xsC (xC (.str "z")) (xsC (xC (.int 0)) xsN))))))) (mSeq (mSetI (pV 8) (xC (.int 0)) (mIm (mX (xTup (xsC (xC (.str "z")) (xsC (xC (.int 0)) xsN)))))) (mSeq (mIfS (mNot (mB (mFz (mCallO (f__law_like_2 K) (mCons (mFz (mCallO (f_count K) (mCons (mX (xV 3)) (mCons (mX (xV 6)) (mCons (mX (xV 4)) mNil))))) (mCons (mX (xV 7)) mNil)))))) (mRet (mX (xC (.bl false)))) mNx) (mIfS (mB (mBin (cmpI (fun i j => decide (i < j))) (mX (xV 4)) (mX (xC (.int 200))))) (mSeq (mSet 9 (mFz (mCallO (f__law_up K) (mCons (mX (xV 2)) (mCons (mFz (mLc [10] (mIL (mX (xV 7))) (gN 10) mYes (mIm (mX (xBin ixD (xR 10) (xC (.int 1))))))) mNil))))) (mIfS (mNot (mB (mFz (mCallO (f__law_like_2 K) (mCons (mFz (mCallO (f_count K) (mCons (mX (xV 3)) (mCons (mX (xV 6)) (mCons (mX (xBin addI (xR 4) (xC (.int 1)))) mNil))))) (mCons (mFz (mLc [11] (mIR1 (mCons (mX (xCB lenD (xsC (xR 9) xsN))) mNil)) (gN 11) mYes (mIm (mX (xTup (xsC (xBin ixD (xBin ixD (xR 2) (xC (.int 1))) (xR 11)) (xsC (xBin ixD (xR 9) (xR 11)) xsN))))))) mNil)))))) (mRet (mX (xC (.bl false)))) mNx)) mNx)))))))))) (mSeq (mSet 4 (mFz (mCallO (f__law_draw K) (mCons (mV 1) (mCons (mX (xC (.int 31))) mNil))))) (mSeq (mFor (mIR1 (mCons (mX (xCB lenD (xsC (xBin ixD (xR 2) (xC (.int 1))) xsN))) mNil)) (gN 5) (mIfS (mNot (mB (mFz (mCallO (f__law_like_2 K) (mCons (mFz (mCallO (f_count K) (mCons (mX (xV 3)) (mCons (mX (xBin ixD (xBin ixD (xR 2) (xC (.int 1))) (xR 5))) (mCons (mX (xV 4)) mNil))))) (mCons (mFz (mCallO (f__law_counted K) (mCons (mX (xV 2)) (mCons (mX (xV 5)) (mCons (mX (xV 4)) mNil))))) mNil)))))) (mRet (mX (xC (.bl false)))) mNx)) (mRet (mFz (mCallO (f__law_like_2 K) (mCons (mProp (He.ga K "Rule") (f_Rule_text K) (mX (xV 3))) (mCons (mFz (mCallO (f__law_page K) (mCons (mX (xV 2)) mNil))) mNil)))))))))))
def f_law (K : PySem.W.Frag) : Fn := fun ts => if ts.length = 1 then runF 12 (m_law K) ts else .bad
end G8
namespace G8
open PySem PySem.Spec PyProof.Rows L2 GX
section
variable {P : Program} {w : World} {K : PySem.W.Frag} {mg : Str → Option Value} {base : Heap}
theorem gl_MOST_DIGITS {X : Cx} (T : H.Env X.K X.mg) (hg : Gl X "MOST_DIGITS" := by rfl) {pos : Pos} : JX X (.Name "MOST_DIGITS" pos) (xC (.int 1000)) := let ⟨t, e⟩ := T.v_MOST_DIGITS; jx_glob hg e (v := .int 1000) ⟨t, rfl⟩ (fun _ => by simp only [Rep])
theorem gl_LONGEST {X : Cx} (T : H.Env X.K X.mg) (hg : Gl X "LONGEST" := by rfl) {pos : Pos} : JX X (.Name "LONGEST" pos) (xC (.int 6)) := let ⟨t, e⟩ := T.v_LONGEST; jx_glob hg e (v := .int 6) ⟨t, rfl⟩ (fun _ => by simp only [Rep])
theorem gl_MOST_LETTERS {X : Cx} (T : H.Env X.K X.mg) (hg : Gl X "MOST_LETTERS" := by rfl) {pos : Pos} : JX X (.Name "MOST_LETTERS" pos) (xC (.int 40)) := let ⟨t, e⟩ := T.v_MOST_LETTERS; jx_glob hg e (v := .int 40) ⟨t, rfl⟩ (fun _ => by simp only [Rep])
theorem gl_MOST_SIDE {X : Cx} (T : H.Env X.K X.mg) (hg : Gl X "MOST_SIDE" := by rfl) {pos : Pos} : JX X (.Name "MOST_SIDE" pos) (xC (.int 9)) := let ⟨t, e⟩ := T.v_MOST_SIDE; jx_glob hg e (v := .int 9) ⟨t, rfl⟩ (fun _ => by simp only [Rep])
theorem gl_MOST_PLACES {X : Cx} (T : H.Env X.K X.mg) (hg : Gl X "MOST_PLACES" := by rfl) {pos : Pos} : JX X (.Name "MOST_PLACES" pos) (xC (.int 16)) := let ⟨t, e⟩ := T.v_MOST_PLACES; jx_glob hg e (v := .int 16) ⟨t, rfl⟩ (fun _ => by simp only [Rep])
theorem gl_AT_RULE {X : Cx} (T : H.Env X.K X.mg) (hg : Gl X "AT_RULE" := by rfl) {pos : Pos} : JX X (.Name "AT_RULE" pos) (xC (.int 0)) := let ⟨t, e⟩ := T.v_AT_RULE; jx_glob hg e (v := .int 0) ⟨t, rfl⟩ (fun _ => by simp only [Rep])
theorem gl_AT_LETTERS {X : Cx} (T : H.Env X.K X.mg) (hg : Gl X "AT_LETTERS" := by rfl) {pos : Pos} : JX X (.Name "AT_LETTERS" pos) (xC (.int 1)) := let ⟨t, e⟩ := T.v_AT_LETTERS; jx_glob hg e (v := .int 1) ⟨t, rfl⟩ (fun _ => by simp only [Rep])
theorem gl_AT_SIDES {X : Cx} (T : H.Env X.K X.mg) (hg : Gl X "AT_SIDES" := by rfl) {pos : Pos} : JX X (.Name "AT_SIDES" pos) (xC (.int 2)) := let ⟨t, e⟩ := T.v_AT_SIDES; jx_glob hg e (v := .int 2) ⟨t, rfl⟩ (fun _ => by simp only [Rep])
theorem gl_AT_BLOCKS {X : Cx} (T : H.Env X.K X.mg) (hg : Gl X "AT_BLOCKS" := by rfl) {pos : Pos} : JX X (.Name "AT_BLOCKS" pos) (xC (.int 3)) := let ⟨t, e⟩ := T.v_AT_BLOCKS; jx_glob hg e (v := .int 3) ⟨t, rfl⟩ (fun _ => by simp only [Rep])
theorem gl_AT_END {X : Cx} (T : H.Env X.K X.mg) (hg : Gl X "AT_END" := by rfl) {pos : Pos} : JX X (.Name "AT_END" pos) (xC (.int 4)) := let ⟨t, e⟩ := T.v_AT_END; jx_glob hg e (v := .int 4) ⟨t, rfl⟩ (fun _ => by simp only [Rep])
theorem gl_MOST_LEVEL {X : Cx} (T : H.Env X.K X.mg) (hg : Gl X "MOST_LEVEL" := by rfl) {pos : Pos} : JX X (.Name "MOST_LEVEL" pos) (xC (.int 200)) := let ⟨t, e⟩ := T.v_MOST_LEVEL; jx_glob hg e (v := .int 200) ⟨t, rfl⟩ (fun _ => by simp only [Rep])
theorem gl_DIGITS {X : Cx} (T : H.Env X.K X.mg) (hg : Gl X "DIGITS" := by rfl) {pos : Pos} : JX X (.Name "DIGITS" pos) (xC (.str "0123456789")) := let ⟨t, e⟩ := T.v_DIGITS; jx_glob hg e (v := .str "0123456789") ⟨t, rfl⟩ (fun _ => by simp only [Rep])
theorem gl_LETTERS {X : Cx} (T : H.Env X.K X.mg) (hg : Gl X "LETTERS" := by rfl) {pos : Pos} : JX X (.Name "LETTERS" pos) (xC (.str "abcdefghijklmnopqrstuvwxyz")) := let ⟨t, e⟩ := T.v_LETTERS; jx_glob hg e (v := .str "abcdefghijklmnopqrstuvwxyz") ⟨t, rfl⟩ (fun _ => by simp only [Rep])
theorem gl_SIGNS {X : Cx} (T : H.Env X.K X.mg) (hg : Gl X "SIGNS" := by rfl) {pos : Pos} : JX X (.Name "SIGNS" pos) (xC (.str "abcdefghijklmnopqrstuvwxyz0123456789")) := let ⟨t, e⟩ := T.v_SIGNS; jx_glob hg e (v := .str "abcdefghijklmnopqrstuvwxyz0123456789") ⟨t, rfl⟩ (fun _ => by simp only [Rep])
theorem gl_KEPT_WORDS {X : Cx} (T : H.Env X.K X.mg) (hg : Gl X "KEPT_WORDS" := by rfl) {pos : Pos} : JX X (.Name "KEPT_WORDS" pos) (xC (.ktp [.str "rule", .str "letters", .str "sides", .str "done", .str "scatter", .str "looks", .str "look", .str "kinds", .str "at", .str "clock", .str "row", .str "hand", .str "as", .str "none"])) :=
  jx_glob hg T.g_KEPT_WORDS (v := .ref (He.ga X.K "KEPT_WORDS")) rfl (fun F => Rep.ktp_iff.mpr ⟨_, _, rfl, T.v_KEPT_WORDS F, by repeat (first | exact Reps.nil | refine Reps.cons (by simp only [Rep]; rfl) ?_)⟩)
theorem sc_integral : FnScope N_integral ["value"] (defScope H.s_integral) := ⟨rfl, rfl, rfl, by decide +kernel, rfl, by decide +kernel, by decide +kernel⟩
theorem fo_integral (T : H.Env K mg) {fd : FuncData} (Fd : FunD K "integral" "integral" (defArgs H.s_integral) (defBody H.s_integral) (defScope H.s_integral) [] [] (H.a_integral K) fd) : FnOk P w K mg base (L2.CX P w) 1 (H.a_integral K) fd ["value"] (spF K (f_integral K)) :=
  fnF Fd sc_integral (fun cdv A outer s _ E hr => (js_one (js_ret (je_and (JX.je (jx_isi "int" (by decide) T.f_isinstance T.f_int boot_int (jr_var 0))) (je_one (je_not (JX.je (jx_isi "bool" (by decide) T.f_isinstance T.f_bool boot_bool (jr_var 0)))) .And)))))
theorem ok_integral (T : H.Env K mg) : Got P w K mg base 1 (H.a_integral K) ["value"] (f_integral K) := by
  obtain ⟨fd, Fd⟩ := T.F_integral
  exact ⟨fd, fo_integral T Fd, Fd.kp, Fd.bindsN fun _ _ _ _ _ _ us hl => match us, hl with | [_], _ => rfl⟩
theorem sc_is_digits : FnScope N_is_digits ["word"] (defScope H.s_is_digits) := ⟨rfl, rfl, rfl, by decide +kernel, rfl, by decide +kernel, by decide +kernel⟩
theorem fo_is_digits (T : H.Env K mg) {fd : FuncData} (Fd : FunD K "is_digits" "is_digits" (defArgs H.s_is_digits) (defBody H.s_is_digits) (defScope H.s_is_digits) [] [] (H.a_is_digits K) fd) : FnOk P w K mg base (L2.CX P w) 1 (H.a_is_digits K) fd ["word"] (spF K (f_is_digits K)) :=
  fnF Fd sc_is_digits (fun cdv A outer s _ E hr => (js_cons (js_if (JW.t (jw_or (jt_not (jt_tr (JX.je (jx_var 0)))) (jw_one (jt_cmp op_gt bi_cmp (JX.je (jx_callB call_len cd_len T.f_len boot_len (jrs_cons (jr_var 0) jrs_nil))) (JX.je (gl_MOST_DIGITS T))) .Or))) (js_one (js_ret (JX.je jx_bl))) js_nil) (js_cons (js_if (JW.t (jw_and (jt_cmp op_eq bi_eq (JX.je (jx_ix ix_seq bi_ix (jr_var 0) (JX.r jx_int))) (JX.je jx_str)) (jw_one (jt_cmp op_gt bi_cmp (JX.je (jx_callB call_len cd_len T.f_len boot_len (jrs_cons (jr_var 0) jrs_nil))) (JX.je jx_int)) .And))) (js_one (js_ret (JX.je jx_bl))) js_nil) (js_one (js_ret (je_callB (cr_all rfl) cd_all T.f_all boot_all (ja_cons (JO.fz (jo_lc (own := [("sign", 1)]) rfl sc_is_digits.nd (ji_str (JX.je (jx_var 0))) (show BlkOk N_is_digits (defScope H.s_is_digits) _ _ from ⟨rfl, by decide +kernel, by decide +kernel, by decide +kernel, by decide +kernel⟩) (fun _ _ _ _ _ => (jg_name 1 sc_is_digits.nd)) (fun _ _ _ _ _ => jts_nil) (fun _ _ _ _ _ => (JE.o (JX.je (jx_cmp op_in_sign bi_inC (jr_var 1) (JX.r (gl_DIGITS T)))))))) ja_nil)))))))
theorem ok_is_digits (T : H.Env K mg) : Got P w K mg base 1 (H.a_is_digits K) ["word"] (f_is_digits K) := by
  obtain ⟨fd, Fd⟩ := T.F_is_digits
  exact ⟨fd, fo_is_digits T Fd, Fd.kp, Fd.bindsN fun _ _ _ _ _ _ us hl => match us, hl with | [_], _ => rfl⟩
theorem sc_integer_of : FnScope N_integer_of ["word"] (defScope H.s_integer_of) := ⟨rfl, rfl, rfl, by decide +kernel, rfl, by decide +kernel, by decide +kernel⟩
theorem fo_integer_of (T : H.Env K mg) {fd : FuncData} (Fd : FunD K "integer_of" "integer_of" (defArgs H.s_integer_of) (defBody H.s_integer_of) (defScope H.s_integer_of) [] [] (H.a_integer_of K) fd) : FnOk P w K mg base (L2.CX P w) 3 (H.a_integer_of K) fd ["word"] (spF K (f_integer_of K)) :=
  fnF Fd sc_integer_of (fun cdv A outer s _ E hr => (js_cons (js_set 1 sc_integer_of.nd (JX.je (jx_bm F.plainAttrs_str F.slot_str_startswith F.type_str_startswith mt_startswith md_starts (jr_var 0) (jrs_cons (JX.r jx_str) jrs_nil)))) (js_cons (js_set 2 sc_integer_of.nd (je_if (jt_val (JX.je (jx_var 1))) (JX.je (jx_sl (jr_var 0) (jpt_some (JX.r jx_int)) jpt_none)) (JX.je (jx_var 0)))) (js_cons (js_if (jt_not (jt_val (JO.fz (jo_call (takes_of rfl rfl rfl rfl) ((ok_is_digits T).cal hr (by decide) T.g_is_digits) (ja_cons (JX.je (jx_var 2)) ja_nil))))) (js_one (js_ret (JX.je jx_non))) js_nil) (js_cons (js_if (jt_not (jt_val (JX.je (jx_var 1)))) (js_one (js_ret (JX.je (jx_callT call_int_str cd_intS T.f_int boot_int (jrs_cons (jr_var 2) jrs_nil))))) js_nil) (js_one (js_ret (je_if (jt_cmp op_eq bi_eq (JX.je (jx_var 2)) (JX.je jx_str)) (JX.je jx_non) (JX.je (jx_un un_neg un_negD (JX.r (jx_callT call_int_str cd_intS T.f_int boot_int (jrs_cons (jr_var 2) jrs_nil)))))))))))))
theorem ok_integer_of (T : H.Env K mg) : Got P w K mg base 3 (H.a_integer_of K) ["word"] (f_integer_of K) := by
  obtain ⟨fd, Fd⟩ := T.F_integer_of
  exact ⟨fd, fo_integer_of T Fd, Fd.kp, Fd.bindsN fun _ _ _ _ _ _ us hl => match us, hl with | [_], _ => rfl⟩
theorem sc_words_of : FnScope N_words_of ["line"] (defScope H.s_words_of) := ⟨rfl, rfl, rfl, by decide +kernel, rfl, by decide +kernel, by decide +kernel⟩
theorem fo_words_of (T : H.Env K mg) {fd : FuncData} (Fd : FunD K "words_of" "words_of" (defArgs H.s_words_of) (defBody H.s_words_of) (defScope H.s_words_of) [] [] (H.a_words_of K) fd) : FnOk P w K mg base (L2.CX P w) 1 (H.a_words_of K) fd ["line"] (spF K (f_words_of K)) :=
  fnF Fd sc_words_of (fun cdv A outer s _ E hr => (js_one (js_ret (JO.fz (jo_lc (own := [("word", 1)]) rfl sc_words_of.nd (ji_lst (JO.fz (jo_bmR F.plainAttrs_str F.slot_str_split F.type_str_split mt_split mo_split (jr_var 0) (jrs_cons (JX.r jx_str) jrs_nil)))) (show BlkOk N_words_of (defScope H.s_words_of) _ _ from ⟨rfl, by decide +kernel, by decide +kernel, by decide +kernel, by decide +kernel⟩) (fun _ _ _ _ _ => (jg_name 1 sc_words_of.nd)) (fun _ _ _ _ _ => (jts_one (jt_tr (JX.je (jx_var 1))))) (fun _ _ _ _ _ => (JE.o (JX.je (jx_var 1)))))))))
theorem ok_words_of (T : H.Env K mg) : Got P w K mg base 1 (H.a_words_of K) ["line"] (f_words_of K) := by
  obtain ⟨fd, Fd⟩ := T.F_words_of
  exact ⟨fd, fo_words_of T Fd, Fd.kp, Fd.bindsN fun _ _ _ _ _ _ us hl => match us, hl with | [_], _ => rfl⟩
theorem sc_lines_of : FnScope N_lines_of ["text"] (defScope H.s_lines_of) := ⟨rfl, rfl, rfl, by decide +kernel, rfl, by decide +kernel, by decide +kernel⟩
theorem fo_lines_of (T : H.Env K mg) {fd : FuncData} (Fd : FunD K "lines_of" "lines_of" (defArgs H.s_lines_of) (defBody H.s_lines_of) (defScope H.s_lines_of) [] [] (H.a_lines_of K) fd) : FnOk P w K mg base (L2.CX P w) 3 (H.a_lines_of K) fd ["text"] (spF K (f_lines_of K)) :=
  fnF Fd sc_lines_of (fun cdv A outer s _ E hr => (js_cons (js_set 1 sc_lines_of.nd (JO.fz (jo_bmR F.plainAttrs_str F.slot_str_split F.type_str_split mt_split mo_split (jr_var 0) (jrs_cons (JX.r jx_str) jrs_nil)))) (js_cons (js_if (jt_cmp op_eq bi_eq (JX.je (jx_ix ix_seq bi_ix (jr_var 1) (JX.r (jx_un un_neg un_negD (JX.r jx_int))))) (JX.je jx_str)) (js_one (js_set 1 sc_lines_of.nd (JO.fz (jo_sl (jr_var 1) jpt_none (jpt_some (JX.r (jx_un un_neg un_negD (JX.r jx_int)))))))) js_nil) (js_one (js_ret (JO.fz (jo_lc (own := [("at", 2), ("piece", 3)]) rfl sc_lines_of.nd (ji_enum T.f_enumerate (ja_cons (JX.je (jx_var 1)) ja_nil)) (show BlkOk N_lines_of (defScope H.s_lines_of) _ _ from ⟨rfl, by decide +kernel, by decide +kernel, by decide +kernel, by decide +kernel⟩) (fun _ _ _ _ _ => (jg_tup rfl (jgs_cons (jg_name 2 sc_lines_of.nd) (jgs_cons (jg_name 3 sc_lines_of.nd) jgs_nil)))) (fun _ _ _ _ _ => jts_nil) (fun _ _ _ _ _ => (JE.o (je_tup (ja_cons (JX.je (jx_op op_add bi_add (jr_var 2) (JX.r jx_int))) (ja_cons (JO.fz (jo_call takes_none5 ((ok_words_of T).cal hr (by decide) T.g_words_of) (ja_cons (JX.je (jx_var 3)) ja_nil))) ja_nil))))))))))))
theorem ok_lines_of (T : H.Env K mg) : Got P w K mg base 3 (H.a_lines_of K) ["text"] (f_lines_of K) := by
  obtain ⟨fd, Fd⟩ := T.F_lines_of
  exact ⟨fd, fo_lines_of T Fd, Fd.kp, Fd.bindsN fun _ _ _ _ _ _ us hl => match us, hl with | [_], _ => rfl⟩
theorem sc_text_of : FnScope N_text_of ["lines"] (defScope H.s_text_of) := ⟨rfl, rfl, rfl, by decide +kernel, rfl, by decide +kernel, by decide +kernel⟩
theorem fo_text_of (T : H.Env K mg) {fd : FuncData} (Fd : FunD K "text_of" "text_of" (defArgs H.s_text_of) (defBody H.s_text_of) (defScope H.s_text_of) [] [] (H.a_text_of K) fd) : FnOk P w K mg base (L2.CX P w) 1 (H.a_text_of K) fd ["lines"] (spF K (f_text_of K)) :=
  fnF Fd sc_text_of (fun cdv A outer s _ E hr => (js_one (js_ret (je_bm F.plainAttrs_str F.slot_str_join F.type_str_join mt_join md_join (JX.je jx_str) (ja_cons (JO.fz (jo_lc (own := [("line", 1)]) rfl sc_text_of.nd (ji_lst (JX.je (jx_var 0))) (show BlkOk N_text_of (defScope H.s_text_of) _ _ from ⟨rfl, by decide +kernel, by decide +kernel, by decide +kernel, by decide +kernel⟩) (fun _ _ _ _ _ => (jg_name 1 sc_text_of.nd)) (fun _ _ _ _ _ => jts_nil) (fun _ _ _ _ _ => (JE.o (JX.je (jx_op op_add_str bi_addS (jr_var 1) (JX.r jx_str))))))) ja_nil)))))
theorem ok_text_of (T : H.Env K mg) : Got P w K mg base 1 (H.a_text_of K) ["lines"] (f_text_of K) := by
  obtain ⟨fd, Fd⟩ := T.F_text_of
  exact ⟨fd, fo_text_of T Fd, Fd.kp, Fd.bindsN fun _ _ _ _ _ _ us hl => match us, hl with | [_], _ => rfl⟩
theorem sc_is_name : FnScope N_is_name ["value"] (defScope H.s_is_name) := ⟨rfl, rfl, rfl, by decide +kernel, rfl, by decide +kernel, by decide +kernel⟩
theorem fo_is_name (T : H.Env K mg) {fd : FuncData} (Fd : FunD K "is_name" "is_name" (defArgs H.s_is_name) (defBody H.s_is_name) (defScope H.s_is_name) [] [] (H.a_is_name K) fd) : FnOk P w K mg base (L2.CX P w) 1 (H.a_is_name K) fd ["value"] (spF K (f_is_name K)) :=
  fnF Fd sc_is_name (fun cdv A outer s _ E hr => (js_cons (js_if (JW.t (jw_or (jt_not (jt_val (JX.je (jx_isi "str" (by decide) T.f_isinstance T.f_str boot_str (jr_var 0))))) (jw_one (jt_not (jt_chain op_le op_le bi_cmp bi_cmp (JX.je jx_int) (JX.je (jx_callB call_len cd_len T.f_len boot_len (jrs_cons (jr_var 0) jrs_nil))) (JX.je (gl_LONGEST T)))) .Or))) (js_one (js_ret (JX.je jx_bl))) js_nil) (js_cons (js_if (JW.t (jw_or (jt_cmp op_notIn_sign bi_notInC (JX.je (jx_ix ix_seq bi_ix (jr_var 0) (JX.r jx_int))) (JX.je (gl_LETTERS T))) (jw_one (jt_cmp op_in_seq bi_in (JX.je (jx_var 0)) (JX.je (gl_KEPT_WORDS T))) .Or))) (js_one (js_ret (JX.je jx_bl))) js_nil) (js_one (js_ret (je_callB (cr_all rfl) cd_all T.f_all boot_all (ja_cons (JO.fz (jo_lc (own := [("sign", 1)]) rfl sc_is_name.nd (ji_str (JX.je (jx_var 0))) (show BlkOk N_is_name (defScope H.s_is_name) _ _ from ⟨rfl, by decide +kernel, by decide +kernel, by decide +kernel, by decide +kernel⟩) (fun _ _ _ _ _ => (jg_name 1 sc_is_name.nd)) (fun _ _ _ _ _ => jts_nil) (fun _ _ _ _ _ => (JE.o (JX.je (jx_cmp op_in_sign bi_inC (jr_var 1) (JX.r (gl_SIGNS T)))))))) ja_nil)))))))
theorem ok_is_name (T : H.Env K mg) : Got P w K mg base 1 (H.a_is_name K) ["value"] (f_is_name K) := by
  obtain ⟨fd, Fd⟩ := T.F_is_name
  exact ⟨fd, fo_is_name T Fd, Fd.kp, Fd.bindsN fun _ _ _ _ _ _ us hl => match us, hl with | [_], _ => rfl⟩
theorem sc_read_integer : FnScope N_read_integer ["word"] (defScope H.s_read_integer) := ⟨rfl, rfl, rfl, by decide +kernel, rfl, by decide +kernel, by decide +kernel⟩
theorem fo_read_integer (T : H.Env K mg) {fd : FuncData} (Fd : FunD K "read_integer" "read_integer" (defArgs H.s_read_integer) (defBody H.s_read_integer) (defScope H.s_read_integer) [] [] (H.a_read_integer K) fd) : FnOk P w K mg base (L2.CX P w) 5 (H.a_read_integer K) fd ["word"] (spF K (f_read_integer K)) :=
  fnF Fd sc_read_integer (fun cdv A outer s _ E hr => (js_one (js_ret (JO.fz (jo_call (takes_of rfl rfl rfl rfl) ((ok_integer_of T).cal hr (by decide) T.g_integer_of) (ja_cons (JX.je (jx_var 0)) ja_nil))))))
theorem ok_read_integer (T : H.Env K mg) : Got P w K mg base 5 (H.a_read_integer K) ["word"] (f_read_integer K) := by
  obtain ⟨fd, Fd⟩ := T.F_read_integer
  exact ⟨fd, fo_read_integer T Fd, Fd.kp, Fd.bindsN fun _ _ _ _ _ _ us hl => match us, hl with | [_], _ => rfl⟩
theorem sc_need : FnScope N_need ["condition", "line", "why"] (defScope H.s_need) := ⟨rfl, rfl, rfl, by decide +kernel, rfl, by decide +kernel, by decide +kernel⟩
theorem fo_need (T : H.Env K mg) {fd : FuncData} (Fd : FunD K "need" "need" (defArgs H.s_need) (defBody H.s_need) (defScope H.s_need) [] [] (H.a_need K) fd) : FnOk P w K mg base (L2.CX P w) 1 (H.a_need K) fd ["condition", "line", "why"] (spF K (f_need K)) :=
  fnF Fd sc_need (fun cdv A outer s _ E hr => (js_one (js_if (jt_not (jt_val (JX.je (jx_var 0)))) (js_one js_never) js_nil)))
theorem ok_need (T : H.Env K mg) : Got P w K mg base 1 (H.a_need K) ["condition", "line", "why"] (f_need K) := by
  obtain ⟨fd, Fd⟩ := T.F_need
  exact ⟨fd, fo_need T Fd, Fd.kp, Fd.bindsN fun _ _ _ _ _ _ us hl => match us, hl with | [_, _, _], _ => rfl⟩
theorem sc_checked_letters : FnScope N_checked_letters ["names", "line"] (defScope H.s_checked_letters) := ⟨rfl, rfl, rfl, by decide +kernel, rfl, by decide +kernel, by decide +kernel⟩
theorem fo_checked_letters (T : H.Env K mg) {fd : FuncData} (Fd : FunD K "checked_letters" "checked_letters" (defArgs H.s_checked_letters) (defBody H.s_checked_letters) (defScope H.s_checked_letters) [] [] (H.a_checked_letters K) fd) : FnOk P w K mg base (L2.CX P w) 3 (H.a_checked_letters K) fd ["names", "line"] (spF K (f_checked_letters K)) :=
  fnF Fd sc_checked_letters (fun cdv A outer s _ E hr => (js_cons (js_expr (JO.fz (jo_call (takes_of rfl rfl rfl rfl) ((ok_need T).cal hr (by decide) T.g_need) (ja_cons (JX.je (jx_cmp op_gt bi_cmp (JX.r (jx_callB call_len cd_len T.f_len boot_len (jrs_cons (jr_var 0) jrs_nil))) (JX.r jx_int))) (ja_cons (JX.je (jx_var 1)) (ja_cons (JX.je jx_str) ja_nil)))))) (js_cons (js_expr (JO.fz (jo_call (takes_of rfl rfl rfl rfl) ((ok_need T).cal hr (by decide) T.g_need) (ja_cons (je_callB (cr_all rfl) cd_all T.f_all boot_all (ja_cons (JO.fz (jo_lc (own := [("name", 2)]) rfl sc_checked_letters.nd (ji_lst (JX.je (jx_var 0))) (show BlkOk N_checked_letters (defScope H.s_checked_letters) _ _ from ⟨rfl, by decide +kernel, by decide +kernel, by decide +kernel, by decide +kernel⟩) (fun _ _ _ _ _ => (jg_name 2 sc_checked_letters.nd)) (fun _ _ _ _ _ => jts_nil) (fun _ _ _ _ _ => (JE.o (JO.fz (jo_call takes_none5 ((ok_is_name T).cal hr (by decide) T.g_is_name) (ja_cons (JX.je (jx_var 2)) ja_nil))))))) ja_nil)) (ja_cons (JX.je (jx_var 1)) (ja_cons (JX.je jx_str) ja_nil)))))) (js_cons (js_expr (JO.fz (jo_call (takes_of rfl rfl rfl rfl) ((ok_need T).cal hr (by decide) T.g_need) (ja_cons (JX.je (jx_cmp op_eq bi_eq (JX.r (jx_lenSet rfl T.f_len T.f_set (jr_var 0))) (JX.r (jx_callB call_len cd_len T.f_len boot_len (jrs_cons (jr_var 0) jrs_nil))))) (ja_cons (JX.je (jx_var 1)) (ja_cons (JX.je jx_str) ja_nil)))))) (js_cons (js_if (jt_cmp op_gt bi_cmp (JX.je (jx_callB call_len cd_len T.f_len boot_len (jrs_cons (jr_var 0) jrs_nil))) (JX.je (gl_MOST_LETTERS T))) (js_one js_never) js_nil) (js_one (js_ret (JX.je (jx_callT call_tuple_of cd_tup T.f_tuple boot_tuple (jrs_cons (jr_var 0) jrs_nil))))))))))
theorem ok_checked_letters (T : H.Env K mg) : Got P w K mg base 3 (H.a_checked_letters K) ["names", "line"] (f_checked_letters K) := by
  obtain ⟨fd, Fd⟩ := T.F_checked_letters
  exact ⟨fd, fo_checked_letters T Fd, Fd.kp, Fd.bindsN fun _ _ _ _ _ _ us hl => match us, hl with | [_, _], _ => rfl⟩
theorem sc_checked_sides : FnScope N_checked_sides ["numbers", "line"] (defScope H.s_checked_sides) := ⟨rfl, rfl, rfl, by decide +kernel, rfl, by decide +kernel, by decide +kernel⟩
theorem fo_checked_sides (T : H.Env K mg) {fd : FuncData} (Fd : FunD K "checked_sides" "checked_sides" (defArgs H.s_checked_sides) (defBody H.s_checked_sides) (defScope H.s_checked_sides) [] [] (H.a_checked_sides K) fd) : FnOk P w K mg base (L2.CX P w) 3 (H.a_checked_sides K) fd ["numbers", "line"] (spF K (f_checked_sides K)) :=
  fnF Fd sc_checked_sides (fun cdv A outer s _ E hr => (js_cons (js_expr (JO.fz (jo_call (takes_of rfl rfl rfl rfl) ((ok_need T).cal hr (by decide) T.g_need) (ja_cons (je_chain op_le op_le bi_cmp bi_cmp (JX.je jx_int) (JX.je (jx_callB call_len cd_len T.f_len boot_len (jrs_cons (jr_var 0) jrs_nil))) (JX.je jx_int)) (ja_cons (JX.je (jx_var 1)) (ja_cons (JX.je jx_str) ja_nil)))))) (js_cons (js_expr (JO.fz (jo_call (takes_of rfl rfl rfl rfl) ((ok_need T).cal hr (by decide) T.g_need) (ja_cons (je_callB (cr_all rfl) cd_all T.f_all boot_all (ja_cons (JO.fz (jo_lc (own := [("number", 3)]) rfl sc_checked_sides.nd (ji_lst (JX.je (jx_var 0))) (show BlkOk N_checked_sides (defScope H.s_checked_sides) _ _ from ⟨rfl, by decide +kernel, by decide +kernel, by decide +kernel, by decide +kernel⟩) (fun _ _ _ _ _ => (jg_name 3 sc_checked_sides.nd)) (fun _ _ _ _ _ => jts_nil) (fun _ _ _ _ _ => (JE.o (JO.fz (jo_call takes_none5 ((ok_integral T).cal hr (by decide) T.g_integral) (ja_cons (JX.je (jx_var 3)) ja_nil))))))) ja_nil)) (ja_cons (JX.je (jx_var 1)) (ja_cons (JX.je jx_str) ja_nil)))))) (js_cons (js_expr (JO.fz (jo_call (takes_of rfl rfl rfl rfl) ((ok_need T).cal hr (by decide) T.g_need) (ja_cons (je_callB (cr_all rfl) cd_all T.f_all boot_all (ja_cons (JO.fz (jo_lc (own := [("number", 3)]) rfl sc_checked_sides.nd (ji_lst (JX.je (jx_var 0))) (show BlkOk N_checked_sides (defScope H.s_checked_sides) _ _ from ⟨rfl, by decide +kernel, by decide +kernel, by decide +kernel, by decide +kernel⟩) (fun _ _ _ _ _ => (jg_name 3 sc_checked_sides.nd)) (fun _ _ _ _ _ => jts_nil) (fun _ _ _ _ _ => (JE.o (JX.je (jx_cmp op_gt bi_cmp (jr_var 3) (JX.r jx_int))))))) ja_nil)) (ja_cons (JX.je (jx_var 1)) (ja_cons (JX.je jx_str) ja_nil)))))) (js_cons (js_set 2 sc_checked_sides.nd (JX.je jx_int)) (js_cons (js_for (passes_of rfl) rfl (ji_lst (JX.je (jx_var 0))) (jg_name 3 sc_checked_sides.nd) (js_cons (js_if (jt_cmp op_gt bi_cmp (JX.je (jx_var 3)) (JX.je (gl_MOST_SIDE T))) (js_one js_never) js_nil) (js_one (js_set 2 sc_checked_sides.nd (JX.je (jx_op op_mul bi_mul (jr_var 2) (jr_var 3))))))) (js_cons (js_if (jt_cmp op_gt bi_cmp (JX.je (jx_var 2)) (JX.je (gl_MOST_PLACES T))) (js_one js_never) js_nil) (js_one (js_ret (JX.je (jx_callT call_tuple_of cd_tup T.f_tuple boot_tuple (jrs_cons (jr_var 0) jrs_nil))))))))))))
theorem ok_checked_sides (T : H.Env K mg) : Got P w K mg base 3 (H.a_checked_sides K) ["numbers", "line"] (f_checked_sides K) := by
  obtain ⟨fd, Fd⟩ := T.F_checked_sides
  exact ⟨fd, fo_checked_sides T Fd, Fd.kp, Fd.bindsN fun _ _ _ _ _ _ us hl => match us, hl with | [_, _], _ => rfl⟩
theorem sc_checked_sides_T : FnScope N_checked_sides_T ["numbers", "line"] (defScope H.s_checked_sides) := ⟨rfl, rfl, rfl, by decide +kernel, rfl, by decide +kernel, by decide +kernel⟩
theorem fo_checked_sides_T (T : H.Env K mg) {fd : FuncData} (Fd : FunD K "checked_sides" "checked_sides" (defArgs H.s_checked_sides) (defBody H.s_checked_sides) (defScope H.s_checked_sides) [] [] (H.a_checked_sides K) fd) : FnOk P w K mg base (L2.CX P w) 3 (H.a_checked_sides K) fd ["numbers", "line"] (spF K (f_checked_sides_T K)) :=
  fnF Fd sc_checked_sides_T (fun cdv A outer s _ E hr => (js_cons (js_expr (JO.fz (jo_call (takes_of rfl rfl rfl rfl) ((ok_need T).cal hr (by decide) T.g_need) (ja_cons (je_chain op_le op_le bi_cmp bi_cmp (JX.je jx_int) (JX.je (jx_callB call_len cd_len T.f_len boot_len (jrs_cons (jr_var 0) jrs_nil))) (JX.je jx_int)) (ja_cons (JX.je (jx_var 1)) (ja_cons (JX.je jx_str) ja_nil)))))) (js_cons (js_expr (JO.fz (jo_call (takes_of rfl rfl rfl rfl) ((ok_need T).cal hr (by decide) T.g_need) (ja_cons (je_callB (cr_all rfl) cd_all T.f_all boot_all (ja_cons (JO.fz (jo_lc (own := [("number", 3)]) rfl sc_checked_sides_T.nd (ji_tup (JX.je (jx_var 0))) (show BlkOk N_checked_sides_T (defScope H.s_checked_sides) _ _ from ⟨rfl, by decide +kernel, by decide +kernel, by decide +kernel, by decide +kernel⟩) (fun _ _ _ _ _ => (jg_name 3 sc_checked_sides_T.nd)) (fun _ _ _ _ _ => jts_nil) (fun _ _ _ _ _ => (JE.o (JO.fz (jo_call takes_none5 ((ok_integral T).cal hr (by decide) T.g_integral) (ja_cons (JX.je (jx_var 3)) ja_nil))))))) ja_nil)) (ja_cons (JX.je (jx_var 1)) (ja_cons (JX.je jx_str) ja_nil)))))) (js_cons (js_expr (JO.fz (jo_call (takes_of rfl rfl rfl rfl) ((ok_need T).cal hr (by decide) T.g_need) (ja_cons (je_callB (cr_all rfl) cd_all T.f_all boot_all (ja_cons (JO.fz (jo_lc (own := [("number", 3)]) rfl sc_checked_sides_T.nd (ji_tup (JX.je (jx_var 0))) (show BlkOk N_checked_sides_T (defScope H.s_checked_sides) _ _ from ⟨rfl, by decide +kernel, by decide +kernel, by decide +kernel, by decide +kernel⟩) (fun _ _ _ _ _ => (jg_name 3 sc_checked_sides_T.nd)) (fun _ _ _ _ _ => jts_nil) (fun _ _ _ _ _ => (JE.o (JX.je (jx_cmp op_gt bi_cmp (jr_var 3) (JX.r jx_int))))))) ja_nil)) (ja_cons (JX.je (jx_var 1)) (ja_cons (JX.je jx_str) ja_nil)))))) (js_cons (js_set 2 sc_checked_sides_T.nd (JX.je jx_int)) (js_cons (js_for (passes_of rfl) rfl (ji_tup (JX.je (jx_var 0))) (jg_name 3 sc_checked_sides_T.nd) (js_cons (js_if (jt_cmp op_gt bi_cmp (JX.je (jx_var 3)) (JX.je (gl_MOST_SIDE T))) (js_one js_never) js_nil) (js_one (js_set 2 sc_checked_sides_T.nd (JX.je (jx_op op_mul bi_mul (jr_var 2) (jr_var 3))))))) (js_cons (js_if (jt_cmp op_gt bi_cmp (JX.je (jx_var 2)) (JX.je (gl_MOST_PLACES T))) (js_one js_never) js_nil) (js_one (js_ret (JX.je (jx_callT call_tuple_of cd_tup T.f_tuple boot_tuple (jrs_cons (jr_var 0) jrs_nil))))))))))))
theorem ok_checked_sides_T (T : H.Env K mg) : Got P w K mg base 3 (H.a_checked_sides K) ["numbers", "line"] (f_checked_sides_T K) := by
  obtain ⟨fd, Fd⟩ := T.F_checked_sides
  exact ⟨fd, fo_checked_sides_T T Fd, Fd.kp, Fd.bindsN fun _ _ _ _ _ _ us hl => match us, hl with | [_, _], _ => rfl⟩
theorem sc_checked_block : FnScope N_checked_block ["block", "sides", "letters", "line"] (defScope H.s_checked_block) := ⟨rfl, rfl, rfl, by decide +kernel, rfl, by decide +kernel, by decide +kernel⟩
theorem fo_checked_block (T : H.Env K mg) {fd : FuncData} (Fd : FunD K "checked_block" "checked_block" (defArgs H.s_checked_block) (defBody H.s_checked_block) (defScope H.s_checked_block) [] [] (H.a_checked_block K) fd) : FnOk P w K mg base (L2.CX P w) 3 (H.a_checked_block K) fd ["block", "sides", "letters", "line"] (spF K (f_checked_block K)) :=
  fnF Fd sc_checked_block (fun cdv A outer s _ E hr => (js_cons (js_set 4 sc_checked_block.nd (JX.je jx_int)) (js_cons (js_for (passes_of rfl) rfl (ji_tup (JX.je (jx_var 1))) (jg_name 5 sc_checked_block.nd) (js_one (js_set 4 sc_checked_block.nd (JX.je (jx_op op_mul bi_mul (jr_var 4) (jr_var 5)))))) (js_cons (js_expr (JO.fz (jo_call (takes_of rfl rfl rfl rfl) ((ok_need T).cal hr (by decide) T.g_need) (ja_cons (JX.je (jx_cmp op_eq bi_eq (JX.r (jx_callB call_len cd_len T.f_len boot_len (jrs_cons (jr_var 0) jrs_nil))) (jr_var 4))) (ja_cons (JX.je (jx_var 3)) (ja_cons (JX.je jx_str) ja_nil)))))) (js_cons (js_expr (JO.fz (jo_call (takes_of rfl rfl rfl rfl) ((ok_need T).cal hr (by decide) T.g_need) (ja_cons (je_callB (cr_all rfl) cd_all T.f_all boot_all (ja_cons (JO.fz (jo_lc (own := [("letter", 6)]) rfl sc_checked_block.nd (ji_lst (JX.je (jx_var 0))) (show BlkOk N_checked_block (defScope H.s_checked_block) _ _ from ⟨rfl, by decide +kernel, by decide +kernel, by decide +kernel, by decide +kernel⟩) (fun _ _ _ _ _ => (jg_name 6 sc_checked_block.nd)) (fun _ _ _ _ _ => jts_nil) (fun _ _ _ _ _ => (JE.o (je_and (JO.fz (jo_call takes_none5 ((ok_is_name T).cal hr (by decide) T.g_is_name) (ja_cons (JX.je (jx_var 6)) ja_nil))) (je_one (JX.je (jx_cmp op_in_seq bi_in (jr_var 6) (jr_var 2))) .And)))))) ja_nil)) (ja_cons (JX.je (jx_var 3)) (ja_cons (JX.je jx_str) ja_nil)))))) (js_one (js_ret (JX.je (jx_callT call_tuple_of cd_tup T.f_tuple boot_tuple (jrs_cons (jr_var 0) jrs_nil))))))))))
theorem ok_checked_block (T : H.Env K mg) : Got P w K mg base 3 (H.a_checked_block K) ["block", "sides", "letters", "line"] (f_checked_block K) := by
  obtain ⟨fd, Fd⟩ := T.F_checked_block
  exact ⟨fd, fo_checked_block T Fd, Fd.kp, Fd.bindsN fun _ _ _ _ _ _ us hl => match us, hl with | [_, _, _, _], _ => rfl⟩
theorem sc_parts_of_line : FnScope N_parts_of_line ["words"] (defScope H.s_parts_of_line) := ⟨rfl, rfl, rfl, by decide +kernel, rfl, by decide +kernel, by decide +kernel⟩
theorem fo_parts_of_line (T : H.Env K mg) {fd : FuncData} (Fd : FunD K "parts_of_line" "parts_of_line" (defArgs H.s_parts_of_line) (defBody H.s_parts_of_line) (defScope H.s_parts_of_line) [] [] (H.a_parts_of_line K) fd) : FnOk P w K mg base (L2.CX P w) 1 (H.a_parts_of_line K) fd ["words"] (spF K (f_parts_of_line K)) :=
  fnF Fd sc_parts_of_line (fun cdv A outer s _ E hr => (js_cons (js_setO 1 sc_parts_of_line.nd (jo_lst1 (jo_lstX jxs_nil))) (js_cons (js_for (passes_of rfl) rfl (ji_lst (JX.je (jx_var 0))) (jg_name 2 sc_parts_of_line.nd) (js_one (js_if (jt_cmp op_eq bi_eq (JX.je (jx_var 2)) (JX.je jx_str)) (js_one (js_expr (je_app 1 (h := (jo_lstX jxs_nil))))) (js_one (js_expr (je_appP (jp_ix (jp_var 1) (JX.r (jx_un un_neg un_negD (JX.r jx_int)))) (jx_var 2))))))) (js_one (js_retS 1)))))
theorem ok_parts_of_line (T : H.Env K mg) : Got P w K mg base 1 (H.a_parts_of_line K) ["words"] (f_parts_of_line K) := by
  obtain ⟨fd, Fd⟩ := T.F_parts_of_line
  exact ⟨fd, fo_parts_of_line T Fd, Fd.kp, Fd.bindsN fun _ _ _ _ _ _ us hl => match us, hl with | [_], _ => rfl⟩
theorem sc_block_of_line : FnScope N_block_of_line ["words", "sides", "letters", "line"] (defScope H.s_block_of_line) := ⟨rfl, rfl, rfl, by decide +kernel, rfl, by decide +kernel, by decide +kernel⟩
theorem fo_block_of_line (T : H.Env K mg) {fd : FuncData} (Fd : FunD K "block_of_line" "block_of_line" (defArgs H.s_block_of_line) (defBody H.s_block_of_line) (defScope H.s_block_of_line) [] [] (H.a_block_of_line K) fd) : FnOk P w K mg base (L2.CX P w) 5 (H.a_block_of_line K) fd ["words", "sides", "letters", "line"] (spF K (f_block_of_line K)) :=
  fnF Fd sc_block_of_line (fun cdv A outer s _ E hr => (js_cons (js_set 4 sc_block_of_line.nd (JO.fz (jo_call (takes_of rfl rfl rfl rfl) ((ok_parts_of_line T).cal hr (by decide) T.g_parts_of_line) (ja_cons (JX.je (jx_var 0)) ja_nil)))) (js_cons (js_set 5 sc_block_of_line.nd (je_if (jt_cmp op_eq bi_eq (JX.je (jx_callB call_len cd_len T.f_len boot_len (jrs_cons (jr_var 1) jrs_nil))) (JX.je jx_int)) (JX.je (jx_ix ix_seq bi_ix (jr_var 1) (JX.r jx_int))) (JX.je jx_int))) (js_cons (js_expr (JO.fz (jo_call (takes_of rfl rfl rfl rfl) ((ok_need T).cal hr (by decide) T.g_need) (ja_cons (JX.je (jx_cmp op_eq bi_eq (JX.r (jx_callB call_len cd_len T.f_len boot_len (jrs_cons (jr_var 4) jrs_nil))) (jr_var 5))) (ja_cons (JX.je (jx_var 3)) (ja_cons (JX.je jx_str) ja_nil)))))) (js_cons (js_expr (JO.fz (jo_call (takes_of rfl rfl rfl rfl) ((ok_need T).cal hr (by decide) T.g_need) (ja_cons (je_callB (cr_all rfl) cd_all T.f_all boot_all (ja_cons (JO.fz (jo_lc (own := [("part", 6)]) rfl sc_block_of_line.nd (ji_lst (JX.je (jx_var 4))) (show BlkOk N_block_of_line (defScope H.s_block_of_line) _ _ from ⟨rfl, by decide +kernel, by decide +kernel, by decide +kernel, by decide +kernel⟩) (fun _ _ _ _ _ => (jg_name 6 sc_block_of_line.nd)) (fun _ _ _ _ _ => jts_nil) (fun _ _ _ _ _ => (JE.o (JX.je (jx_cmp op_eq bi_eq (JX.r (jx_callB call_len cd_len T.f_len boot_len (jrs_cons (jr_var 6) jrs_nil))) (JX.r (jx_ix ix_seq bi_ix (jr_var 1) (JX.r jx_int))))))))) ja_nil)) (ja_cons (JX.je (jx_var 3)) (ja_cons (JX.je jx_str) ja_nil)))))) (js_one (js_ret (JO.fz (jo_call (takes_of rfl rfl rfl rfl) ((ok_checked_block T).cal hr (by decide) T.g_checked_block) (ja_cons (JO.fz (jo_lc2 [7] (own := [("part", 6), ("letter", 7)]) rfl sc_block_of_line.nd (ji_lst (JX.je (jx_var 4))) (show BlkOk N_block_of_line (defScope H.s_block_of_line) _ _ from ⟨rfl, by decide +kernel, by decide +kernel, by decide +kernel, by decide +kernel⟩) (fun _ _ _ _ _ => (jg_name 6 sc_block_of_line.nd)) (fun _ _ _ _ _ => jts_nil) (fun _ _ _ _ _ => (ji_lst (JX.je (jx_var 6)))) (fun _ _ _ _ _ => (jg_name 7 sc_block_of_line.nd)) (fun _ _ _ _ _ => jts_nil) (fun _ _ _ _ _ => (JE.o (JX.je (jx_var 7)))))) (ja_cons (JX.je (jx_var 1)) (ja_cons (JX.je (jx_var 2)) (ja_cons (JX.je (jx_var 3)) ja_nil)))))))))))))
theorem ok_block_of_line (T : H.Env K mg) : Got P w K mg base 5 (H.a_block_of_line K) ["words", "sides", "letters", "line"] (f_block_of_line K) := by
  obtain ⟨fd, Fd⟩ := T.F_block_of_line
  exact ⟨fd, fo_block_of_line T Fd, Fd.kp, Fd.bindsN fun _ _ _ _ _ _ us hl => match us, hl with | [_, _, _, _], _ => rfl⟩
theorem sc_RuleReader___init__ : FnScope N_RuleReader___init__ ["self"] (defScope H.s_RuleReader___init__) := ⟨rfl, rfl, rfl, by decide +kernel, rfl, by decide +kernel, by decide +kernel⟩
theorem fo_RuleReader___init__ (T : H.Env K mg) {fd : FuncData} (Fd : FunD K "__init__" "RuleReader.__init__" (defArgs H.s_RuleReader___init__) (defBody H.s_RuleReader___init__) (defScope H.s_RuleReader___init__) [] [] (H.a_RuleReader___init__ K) fd) : FnOk P w K mg base (L2.CX P w) 1 (H.a_RuleReader___init__ K) fd ["self"] (spF K (f_RuleReader___init__ K)) :=
  fnF Fd sc_RuleReader___init__ (fun cdv A outer s _ E hr => (js_cons (js_setF T.c_RuleReader T.n_RuleReader_stage (JE.o (JX.je (gl_AT_RULE T))) (jp_var 0)) (js_cons (js_setF T.c_RuleReader T.n_RuleReader_letters (JE.o (JX.je (jx_tup jxs_nil))) (jp_var 0)) (js_cons (js_setF T.c_RuleReader T.n_RuleReader_sides (JE.o (JX.je (jx_tup jxs_nil))) (jp_var 0)) (js_one (js_setF T.c_RuleReader T.n_RuleReader_table jo_dnew (jp_var 0)))))))
theorem ok_RuleReader___init__ (T : H.Env K mg) : Got P w K mg base 1 (H.a_RuleReader___init__ K) ["self"] (f_RuleReader___init__ K) := by
  obtain ⟨fd, Fd⟩ := T.F_RuleReader___init__
  exact ⟨fd, fo_RuleReader___init__ T Fd, Fd.kp, Fd.bindsN fun _ _ _ _ _ _ us hl => match us, hl with | [_], _ => rfl⟩
theorem sc_RuleReader_accept_block : FnScope N_RuleReader_accept_block ["self", "line", "words"] (defScope H.s_RuleReader_accept_block) := ⟨rfl, rfl, rfl, by decide +kernel, rfl, by decide +kernel, by decide +kernel⟩
theorem fo_RuleReader_accept_block (T : H.Env K mg) {fd : FuncData} (Fd : FunD K "accept_block" "RuleReader.accept_block" (defArgs H.s_RuleReader_accept_block) (defBody H.s_RuleReader_accept_block) (defScope H.s_RuleReader_accept_block) [] [] (H.a_RuleReader_accept_block K) fd) : FnOk P w K mg base (L2.CX P w) 7 (H.a_RuleReader_accept_block K) fd ["self", "line", "words"] (spF K (f_RuleReader_accept_block K)) :=
  fnF Fd sc_RuleReader_accept_block (fun cdv A outer s _ E hr => (js_cons (js_set 3 sc_RuleReader_accept_block.nd (JX.je (jx_ix ix_seq bi_ix (jr_var 2) (JX.r jx_int)))) (js_cons (js_expr (JO.fz (jo_call (takes_of rfl rfl rfl rfl) ((ok_need T).cal hr (by decide) T.g_need) (ja_cons (JX.je (jx_cmp op_in_seq bi_in (jr_var 3) (JP.jr (jp_fld T.c_RuleReader T.n_RuleReader_letters (jp_var 0))))) (ja_cons (JX.je (jx_var 1)) (ja_cons (JX.je jx_str) ja_nil)))))) (js_cons (js_expr (JO.fz (jo_call (takes_of rfl rfl rfl rfl) ((ok_need T).cal hr (by decide) T.g_need) (ja_cons (JX.je (jx_dnotin (Nat.lt_of_le_of_lt (Nat.add_le_add_left (by decide) _) hr.units) (jr_var 3) (JP.jr (jp_fld T.c_RuleReader T.n_RuleReader_table (jp_var 0))))) (ja_cons (JX.je (jx_var 1)) (ja_cons (JX.je jx_str) ja_nil)))))) (js_cons (js_expr (JO.fz (jo_call (takes_of rfl rfl rfl rfl) ((ok_need T).cal hr (by decide) T.g_need) (ja_cons (je_and (JX.je (jx_cmp op_gt bi_cmp (JX.r (jx_callB call_len cd_len T.f_len boot_len (jrs_cons (jr_var 2) jrs_nil))) (JX.r jx_int))) (je_one (JX.je (jx_cmp op_eq bi_eq (JX.r (jx_ix ix_seq bi_ix (jr_var 2) (JX.r jx_int))) (JX.r jx_str))) .And)) (ja_cons (JX.je (jx_var 1)) (ja_cons (JX.je jx_str) ja_nil)))))) (js_one (js_setK (Nat.lt_of_le_of_lt (Nat.add_le_add_left (by decide) _) hr.units) (JE.o (JO.fz (jo_call (takes_of rfl rfl rfl rfl) ((ok_block_of_line T).cal hr (by decide) T.g_block_of_line) (ja_cons (JO.fz (jo_sl (jr_var 2) (jpt_some (JX.r jx_int)) jpt_none)) (ja_cons (JX.je (JP.jx (jp_fld T.c_RuleReader T.n_RuleReader_sides (jp_var 0)))) (ja_cons (JX.je (JP.jx (jp_fld T.c_RuleReader T.n_RuleReader_letters (jp_var 0)))) (ja_cons (JX.je (jx_var 1)) ja_nil))))))) (jp_fld T.c_RuleReader T.n_RuleReader_table (jp_var 0)) (jr_var 3))))))))
theorem ok_RuleReader_accept_block (T : H.Env K mg) : Got P w K mg base 7 (H.a_RuleReader_accept_block K) ["self", "line", "words"] (f_RuleReader_accept_block K) := by
  obtain ⟨fd, Fd⟩ := T.F_RuleReader_accept_block
  exact ⟨fd, fo_RuleReader_accept_block T Fd, Fd.kp, Fd.bindsN fun _ _ _ _ _ _ us hl => match us, hl with | [_, _, _], _ => rfl⟩
theorem sc_RuleReader_accept : FnScope N_RuleReader_accept ["self", "line", "words"] (defScope H.s_RuleReader_accept) := ⟨rfl, rfl, rfl, by decide +kernel, rfl, by decide +kernel, by decide +kernel⟩
theorem fo_RuleReader_accept (T : H.Env K mg) {fd : FuncData} (Fd : FunD K "accept" "RuleReader.accept" (defArgs H.s_RuleReader_accept) (defBody H.s_RuleReader_accept) (defScope H.s_RuleReader_accept) [] [] (H.a_RuleReader_accept K) fd) : FnOk P w K mg base (L2.CX P w) 9 (H.a_RuleReader_accept K) fd ["self", "line", "words"] (spF K (f_RuleReader_accept K)) :=
  fnF Fd sc_RuleReader_accept (fun cdv A outer s _ E hr => (js_one (js_if (jt_cmp op_eq bi_eq (JX.je (JP.jx (jp_fld T.c_RuleReader T.n_RuleReader_stage (jp_var 0)))) (JX.je (gl_AT_RULE T))) (js_cons (js_expr (JO.fz (jo_call (takes_of rfl rfl rfl rfl) ((ok_need T).cal hr (by decide) T.g_need) (ja_cons (je_cmp (op_eqD hr.units) bi_eqL (JX.je (jx_var 2)) (JO.fz (jo_lstX (jxs_cons jx_str jxs_nil)))) (ja_cons (JX.je (jx_var 1)) (ja_cons (JX.je jx_str) ja_nil)))))) (js_one (js_setF T.c_RuleReader T.n_RuleReader_stage (JE.o (JX.je (gl_AT_LETTERS T))) (jp_var 0)))) (js_one (js_if (jt_cmp op_eq bi_eq (JX.je (JP.jx (jp_fld T.c_RuleReader T.n_RuleReader_stage (jp_var 0)))) (JX.je (gl_AT_LETTERS T))) (js_cons (js_expr (JO.fz (jo_call (takes_of rfl rfl rfl rfl) ((ok_need T).cal hr (by decide) T.g_need) (ja_cons (JX.je (jx_cmp op_eq bi_eq (JX.r (jx_ix ix_seq bi_ix (jr_var 2) (JX.r jx_int))) (JX.r jx_str))) (ja_cons (JX.je (jx_var 1)) (ja_cons (JX.je jx_str) ja_nil)))))) (js_cons (js_setF T.c_RuleReader T.n_RuleReader_letters (JE.o (JO.fz (jo_call (takes_of rfl rfl rfl rfl) ((ok_checked_letters T).cal hr (by decide) T.g_checked_letters) (ja_cons (JO.fz (jo_sl (jr_var 2) (jpt_some (JX.r jx_int)) jpt_none)) (ja_cons (JX.je (jx_var 1)) ja_nil))))) (jp_var 0)) (js_one (js_setF T.c_RuleReader T.n_RuleReader_stage (JE.o (JX.je (gl_AT_SIDES T))) (jp_var 0))))) (js_one (js_if (jt_cmp op_eq bi_eq (JX.je (JP.jx (jp_fld T.c_RuleReader T.n_RuleReader_stage (jp_var 0)))) (JX.je (gl_AT_SIDES T))) (js_cons (js_expr (JO.fz (jo_call (takes_of rfl rfl rfl rfl) ((ok_need T).cal hr (by decide) T.g_need) (ja_cons (JX.je (jx_cmp op_eq bi_eq (JX.r (jx_ix ix_seq bi_ix (jr_var 2) (JX.r jx_int))) (JX.r jx_str))) (ja_cons (JX.je (jx_var 1)) (ja_cons (JX.je jx_str) ja_nil)))))) (js_cons (js_setF T.c_RuleReader T.n_RuleReader_sides (JE.o (JO.fz (jo_call (takes_of rfl rfl rfl rfl) ((ok_checked_sides T).cal hr (by decide) T.g_checked_sides) (ja_cons (JO.fz (jo_lc (own := [("word", 3)]) rfl sc_RuleReader_accept.nd (ji_lst (JO.fz (jo_sl (jr_var 2) (jpt_some (JX.r jx_int)) jpt_none))) (show BlkOk N_RuleReader_accept (defScope H.s_RuleReader_accept) _ _ from ⟨rfl, by decide +kernel, by decide +kernel, by decide +kernel, by decide +kernel⟩) (fun _ _ _ _ _ => (jg_name 3 sc_RuleReader_accept.nd)) (fun _ _ _ _ _ => jts_nil) (fun _ _ _ _ _ => (JE.o (JO.fz (jo_call takes_none5 ((ok_read_integer T).cal hr (by decide) T.g_read_integer) (ja_cons (JX.je (jx_var 3)) ja_nil))))))) (ja_cons (JX.je (jx_var 1)) ja_nil))))) (jp_var 0)) (js_one (js_setF T.c_RuleReader T.n_RuleReader_stage (JE.o (JX.je (gl_AT_BLOCKS T))) (jp_var 0))))) (js_one (js_if (jt_cmp op_eq bi_eq (JX.je (JP.jx (jp_fld T.c_RuleReader T.n_RuleReader_stage (jp_var 0)))) (JX.je (gl_AT_END T))) (js_one js_never) (js_one (js_if (jt_cmp (op_eqD hr.units) bi_eqL (JX.je (jx_var 2)) (JO.fz (jo_lstX (jxs_cons jx_str jxs_nil)))) (js_cons (js_expr (JO.fz (jo_call (takes_of rfl rfl rfl rfl) ((ok_need T).cal hr (by decide) T.g_need) (ja_cons (JX.je (jx_cmp op_eq bi_eq (JX.r (jx_callB call_lenD cd_lenK T.f_len boot_len (jrs_cons (JP.jr (jp_fld T.c_RuleReader T.n_RuleReader_table (jp_var 0))) jrs_nil))) (JX.r (jx_callB call_len cd_len T.f_len boot_len (jrs_cons (JP.jr (jp_fld T.c_RuleReader T.n_RuleReader_letters (jp_var 0))) jrs_nil))))) (ja_cons (JX.je (jx_var 1)) (ja_cons (JX.je jx_str) ja_nil)))))) (js_one (js_setF T.c_RuleReader T.n_RuleReader_stage (JE.o (JX.je (gl_AT_END T))) (jp_var 0)))) (js_one (js_expr (JO.fz (jo_meth (takes_of rfl rfl rfl rfl) ((ok_RuleReader_accept_block T).calM hr (by decide) T.m_RuleReader_accept_block T.c_RuleReader) (je_var 0) (ja_cons (JX.je (jx_var 1)) (ja_cons (JX.je (jx_var 2)) ja_nil)))))))))))))))))
theorem ok_RuleReader_accept (T : H.Env K mg) : Got P w K mg base 9 (H.a_RuleReader_accept K) ["self", "line", "words"] (f_RuleReader_accept K) := by
  obtain ⟨fd, Fd⟩ := T.F_RuleReader_accept
  exact ⟨fd, fo_RuleReader_accept T Fd, Fd.kp, Fd.bindsN fun _ _ _ _ _ _ us hl => match us, hl with | [_, _, _], _ => rfl⟩
theorem sc_read_rule : FnScope N_read_rule ["text"] (defScope H.s_read_rule) := ⟨rfl, rfl, rfl, by decide +kernel, rfl, by decide +kernel, by decide +kernel⟩
theorem fo_read_rule (T : H.Env K mg) {fd : FuncData} (Fd : FunD K "read_rule" "read_rule" (defArgs H.s_read_rule) (defBody H.s_read_rule) (defScope H.s_read_rule) [] [] (H.a_read_rule K) fd) : FnOk P w K mg base (L2.CX P w) 11 (H.a_read_rule K) fd ["text"] (spF K (f_read_rule K)) :=
  fnF Fd sc_read_rule (fun cdv A outer s _ E hr => (js_cons (js_if (jt_not (jt_val (JX.je (jx_isi "str" (by decide) T.f_isinstance T.f_str boot_str (jr_var 0))))) (js_one js_never) js_nil) (js_cons (js_setO 1 sc_read_rule.nd (jo_mk0 (takes_of rfl rfl rfl rfl) ((ok_RuleReader___init__ T).calN hr (by decide) T.g_RuleReader T.k_RuleReader))) (js_cons (js_set 2 sc_read_rule.nd (JO.fz (jo_call (takes_of rfl rfl rfl rfl) ((ok_lines_of T).cal hr (by decide) T.g_lines_of) (ja_cons (JX.je (jx_var 0)) ja_nil)))) (js_cons (js_for (passes_of rfl) rfl (ji_lst (JX.je (jx_var 2))) (jg_tup rfl (jgs_cons (jg_name 3 sc_read_rule.nd) (jgs_cons (jg_name 4 sc_read_rule.nd) jgs_nil))) (js_one (js_if (jt_tr (JX.je (jx_var 4))) (js_one (js_expr (JO.fz (jo_meth (takes_of rfl rfl rfl rfl) ((ok_RuleReader_accept T).calM hr (by decide) T.m_RuleReader_accept T.c_RuleReader) (je_var 1) (ja_cons (JX.je (jx_var 3)) (ja_cons (JX.je (jx_var 4)) ja_nil)))))) js_nil))) (js_cons (js_if (jt_cmp op_ne bi_ne (JX.je (JP.jx (jp_fld T.c_RuleReader T.n_RuleReader_stage (jp_var 1)))) (JX.je (gl_AT_END T))) (js_one js_never) js_nil) (js_one (js_ret (je_tup (ja_cons (JX.je (JP.jx (jp_fld T.c_RuleReader T.n_RuleReader_sides (jp_var 1)))) (ja_cons (JX.je (JP.jx (jp_fld T.c_RuleReader T.n_RuleReader_letters (jp_var 1)))) (ja_cons (je_callT call_tuple_of cd_tup T.f_tuple boot_tuple (ja_cons (JO.fz (jo_lc (own := [("letter", 5)]) rfl sc_read_rule.nd (ji_tup (JX.je (JP.jx (jp_fld T.c_RuleReader T.n_RuleReader_letters (jp_var 1))))) (show BlkOk N_read_rule (defScope H.s_read_rule) _ _ from ⟨rfl, by decide +kernel, by decide +kernel, by decide +kernel, by decide +kernel⟩) (fun _ _ _ _ _ => (jg_name 5 sc_read_rule.nd)) (fun _ _ _ _ _ => jts_nil) (fun _ _ _ _ _ => (JE.o (JX.je (jx_dget (Nat.lt_of_le_of_lt (Nat.add_le_add_left (by decide) _) hr.units) (JP.jr (jp_fld T.c_RuleReader T.n_RuleReader_table (jp_var 1))) (jr_var 5))))))) ja_nil)) ja_nil))))))))))))
theorem ok_read_rule (T : H.Env K mg) : Got P w K mg base 11 (H.a_read_rule K) ["text"] (f_read_rule K) := by
  obtain ⟨fd, Fd⟩ := T.F_read_rule
  exact ⟨fd, fo_read_rule T Fd, Fd.kp, Fd.bindsN fun _ _ _ _ _ _ us hl => match us, hl with | [_], _ => rfl⟩
theorem sc_checked_rule : FnScope N_checked_rule ["sides", "letters", "blocks"] (defScope H.s_checked_rule) := ⟨rfl, rfl, rfl, by decide +kernel, rfl, by decide +kernel, by decide +kernel⟩
theorem fo_checked_rule (T : H.Env K mg) {fd : FuncData} (Fd : FunD K "checked_rule" "checked_rule" (defArgs H.s_checked_rule) (defBody H.s_checked_rule) (defScope H.s_checked_rule) [] [] (H.a_checked_rule K) fd) : FnOk P w K mg base (L2.CX P w) 5 (H.a_checked_rule K) fd ["sides", "letters", "blocks"] (spF K (f_checked_rule K)) :=
  fnF Fd sc_checked_rule (fun cdv A outer s _ E hr => (js_cons (js_expr (JO.fz (jo_call (takes_of rfl rfl rfl rfl) ((ok_need T).cal hr (by decide) T.g_need) (ja_cons (JX.je (jx_isi2 "list" "tuple" (by decide) (by decide) T.f_isinstance T.f_list T.f_tuple boot_list boot_tuple (jr_var 1))) (ja_cons (JX.je jx_int) (ja_cons (JX.je jx_str) ja_nil)))))) (js_cons (js_set 3 sc_checked_rule.nd (JO.fz (jo_call (takes_of rfl rfl rfl rfl) ((ok_checked_letters T).cal hr (by decide) T.g_checked_letters) (ja_cons (JX.je (jx_var 1)) (ja_cons (JX.je jx_int) ja_nil))))) (js_cons (js_expr (JO.fz (jo_call (takes_of rfl rfl rfl rfl) ((ok_need T).cal hr (by decide) T.g_need) (ja_cons (JX.je (jx_isi "tuple" (by decide) T.f_isinstance T.f_tuple boot_tuple (jr_var 0))) (ja_cons (JX.je jx_int) (ja_cons (JX.je jx_str) ja_nil)))))) (js_cons (js_set 4 sc_checked_rule.nd (JO.fz (jo_call (takes_of rfl rfl rfl rfl) ((ok_checked_sides_T T).cal hr (by decide) T.g_checked_sides) (ja_cons (JX.je (jx_var 0)) (ja_cons (JX.je jx_int) ja_nil))))) (js_cons (js_expr (JO.fz (jo_call (takes_of rfl rfl rfl rfl) ((ok_need T).cal hr (by decide) T.g_need) (ja_cons (JX.je (jx_isi2 "list" "tuple" (by decide) (by decide) T.f_isinstance T.f_list T.f_tuple boot_list boot_tuple (jr_var 2))) (ja_cons (JX.je jx_int) (ja_cons (JX.je jx_str) ja_nil)))))) (js_cons (js_expr (JO.fz (jo_call (takes_of rfl rfl rfl rfl) ((ok_need T).cal hr (by decide) T.g_need) (ja_cons (JX.je (jx_cmp op_eq bi_eq (JX.r (jx_callB call_len cd_len T.f_len boot_len (jrs_cons (jr_var 2) jrs_nil))) (JX.r (jx_callB call_len cd_len T.f_len boot_len (jrs_cons (jr_var 3) jrs_nil))))) (ja_cons (JX.je jx_int) (ja_cons (JX.je jx_str) ja_nil)))))) (js_cons (js_for (passes_of rfl) rfl (ji_lst (JX.je (jx_var 2))) (jg_name 5 sc_checked_rule.nd) (js_one (js_expr (JO.fz (jo_call (takes_of rfl rfl rfl rfl) ((ok_need T).cal hr (by decide) T.g_need) (ja_cons (JX.je (jx_isi2 "list" "tuple" (by decide) (by decide) T.f_isinstance T.f_list T.f_tuple boot_list boot_tuple (jr_var 5))) (ja_cons (JX.je jx_int) (ja_cons (JX.je jx_str) ja_nil)))))))) (js_one (js_ret (je_tup (ja_cons (JX.je (jx_var 4)) (ja_cons (JX.je (jx_var 3)) (ja_cons (je_callT call_tuple_of cd_tup T.f_tuple boot_tuple (ja_cons (JO.fz (jo_lc (own := [("block", 5)]) rfl sc_checked_rule.nd (ji_lst (JX.je (jx_var 2))) (show BlkOk N_checked_rule (defScope H.s_checked_rule) _ _ from ⟨rfl, by decide +kernel, by decide +kernel, by decide +kernel, by decide +kernel⟩) (fun _ _ _ _ _ => (jg_name 5 sc_checked_rule.nd)) (fun _ _ _ _ _ => jts_nil) (fun _ _ _ _ _ => (JE.o (JO.fz (jo_call takes_none5 ((ok_checked_block T).cal hr (by decide) T.g_checked_block) (ja_cons (JX.je (jx_var 5)) (ja_cons (JX.je (jx_var 4)) (ja_cons (JX.je (jx_var 3)) (ja_cons (JX.je jx_int) ja_nil)))))))))) ja_nil)) ja_nil))))))))))))))
theorem ok_checked_rule (T : H.Env K mg) : Got P w K mg base 5 (H.a_checked_rule K) ["sides", "letters", "blocks"] (f_checked_rule K) := by
  obtain ⟨fd, Fd⟩ := T.F_checked_rule
  exact ⟨fd, fo_checked_rule T Fd, Fd.kp, Fd.bindsN fun _ _ _ _ _ _ us hl => match us, hl with | [_, _, _], _ => rfl⟩
theorem sc_rule_text : FnScope N_rule_text ["sides", "letters", "blocks"] (defScope H.s_rule_text) := ⟨rfl, rfl, rfl, by decide +kernel, rfl, by decide +kernel, by decide +kernel⟩
theorem fo_rule_text (T : H.Env K mg) {fd : FuncData} (Fd : FunD K "rule_text" "rule_text" (defArgs H.s_rule_text) (defBody H.s_rule_text) (defScope H.s_rule_text) [] [] (H.a_rule_text K) fd) : FnOk P w K mg base (L2.CX P w) 3 (H.a_rule_text K) fd ["sides", "letters", "blocks"] (spF K (f_rule_text K)) :=
  fnF Fd sc_rule_text (fun cdv A outer s _ E hr => (js_cons (js_setO 3 sc_rule_text.nd (jo_lst (ja_cons (JX.je jx_str) (ja_cons (JX.je (jx_op op_add_str bi_addS (JX.r jx_str) (JX.r (jx_bm F.plainAttrs_str F.slot_str_join F.type_str_join mt_join md_join (JX.r jx_str) (jrs_cons (jr_var 1) jrs_nil))))) (ja_cons (je_op op_add_str bi_addS (JX.je jx_str) (je_bm F.plainAttrs_str F.slot_str_join F.type_str_join mt_join md_join (JX.je jx_str) (ja_cons (JO.fz (jo_lc (own := [("side", 8)]) rfl sc_rule_text.nd (ji_tup (JX.je (jx_var 0))) (show BlkOk N_rule_text (defScope H.s_rule_text) _ _ from ⟨rfl, by decide +kernel, by decide +kernel, by decide +kernel, by decide +kernel⟩) (fun _ _ _ _ _ => (jg_name 8 sc_rule_text.nd)) (fun _ _ _ _ _ => jts_nil) (fun _ _ _ _ _ => (JE.o (JX.je (jx_callT call_str_int cd_strI T.f_str boot_str (jrs_cons (jr_var 8) jrs_nil))))))) ja_nil))) ja_nil))))) (js_cons (js_set 4 sc_rule_text.nd (JX.je (jx_ix ix_seq bi_ix (jr_var 0) (JX.r jx_int)))) (js_cons (js_for (passes_of rfl) rfl (ji_zip T.f_zip (ja_cons (JX.je (jx_var 1)) (ja_cons (JX.je (jx_var 2)) ja_nil))) (jg_tup rfl (jgs_cons (jg_name 5 sc_rule_text.nd) (jgs_cons (jg_name 6 sc_rule_text.nd) jgs_nil))) (js_cons (JS.fz (js_setLc 7 (own := [("at", 9)]) rfl sc_rule_text.nd (ji_rng3 T.f_range (ja_cons (JX.je jx_int) (ja_cons (JX.je (jx_callB call_len cd_len T.f_len boot_len (jrs_cons (jr_var 6) jrs_nil))) (ja_cons (JX.je (jx_var 4)) ja_nil)))) (show BlkOk N_rule_text (defScope H.s_rule_text) _ _ from ⟨rfl, by decide +kernel, by decide +kernel, by decide +kernel, by decide +kernel⟩) (fun _ _ _ _ _ => (jg_name 9 sc_rule_text.nd)) (fun _ _ _ _ _ => jts_nil) (fun _ _ _ _ _ => (JE.o (JX.je (jx_bm F.plainAttrs_str F.slot_str_join F.type_str_join mt_join md_join (JX.r jx_str) (jrs_cons (JX.r (jx_sl (jr_var 6) (jpt_some (jr_var 9)) (jpt_some (JX.r (jx_op op_add bi_add (jr_var 9) (jr_var 4)))))) jrs_nil))))) rfl)) (js_one (js_expr (je_app 3 (h := (JE.o (JX.je (jx_op op_add_str bi_addS (JX.r (jx_op op_add_str bi_addS (jr_var 5) (JX.r jx_str))) (JX.r (jx_bm F.plainAttrs_str F.slot_str_join F.type_str_join mt_join md_join (JX.r jx_str) (jrs_cons (jr_var 7) jrs_nil)))))))))))) (js_one (js_ret (JO.fz (jo_call (takes_of rfl rfl rfl rfl) ((ok_text_of T).cal hr (by decide) T.g_text_of) (ja_cons (JO.fz (jo_op op_cat bo_cat (je_mv 3) (JO.fz (jo_lstX (jxs_cons jx_str jxs_nil))))) ja_nil)))))))))
theorem ok_rule_text (T : H.Env K mg) : Got P w K mg base 3 (H.a_rule_text K) ["sides", "letters", "blocks"] (f_rule_text K) := by
  obtain ⟨fd, Fd⟩ := T.F_rule_text
  exact ⟨fd, fo_rule_text T Fd, Fd.kp, Fd.bindsN fun _ _ _ _ _ _ us hl => match us, hl with | [_, _, _], _ => rfl⟩
theorem sc_places_of : FnScope N_places_of ["sides"] (defScope H.s_places_of) := ⟨rfl, rfl, rfl, by decide +kernel, rfl, by decide +kernel, by decide +kernel⟩
theorem fo_places_of (T : H.Env K mg) {fd : FuncData} (Fd : FunD K "places_of" "places_of" (defArgs H.s_places_of) (defBody H.s_places_of) (defScope H.s_places_of) [] [] (H.a_places_of K) fd) : FnOk P w K mg base (L2.CX P w) 1 (H.a_places_of K) fd ["sides"] (spF K (f_places_of K)) :=
  fnF Fd sc_places_of (fun cdv A outer s _ E hr => (js_cons (js_if (jt_cmp op_eq bi_eq (JX.je (jx_callB call_len cd_len T.f_len boot_len (jrs_cons (jr_var 0) jrs_nil))) (JX.je jx_int)) (js_one (js_ret (je_callT call_tuple_of cd_tup T.f_tuple boot_tuple (ja_cons (JO.fz (jo_lc (own := [("x", 1)]) rfl sc_places_of.nd (ji_rng1 T.f_range (ja_cons (JX.je (jx_ix ix_seq bi_ix (jr_var 0) (JX.r jx_int))) ja_nil)) (show BlkOk N_places_of (defScope H.s_places_of) _ _ from ⟨rfl, by decide +kernel, by decide +kernel, by decide +kernel, by decide +kernel⟩) (fun _ _ _ _ _ => (jg_name 1 sc_places_of.nd)) (fun _ _ _ _ _ => jts_nil) (fun _ _ _ _ _ => (JE.o (JX.je (jx_tup (jxs_cons (jx_var 1) jxs_nil))))))) ja_nil)))) js_nil) (js_one (js_ret (je_callT call_tuple_of cd_tup T.f_tuple boot_tuple (ja_cons (JO.fz (jo_lc2 [1] (own := [("y", 2), ("x", 1)]) rfl sc_places_of.nd (ji_rng1 T.f_range (ja_cons (JX.je (jx_ix ix_seq bi_ix (jr_var 0) (JX.r jx_int))) ja_nil)) (show BlkOk N_places_of (defScope H.s_places_of) _ _ from ⟨rfl, by decide +kernel, by decide +kernel, by decide +kernel, by decide +kernel⟩) (fun _ _ _ _ _ => (jg_name 2 sc_places_of.nd)) (fun _ _ _ _ _ => jts_nil) (fun _ _ _ _ _ => (ji_rng1 T.f_range (ja_cons (JX.je (jx_ix ix_seq bi_ix (jr_var 0) (JX.r jx_int))) ja_nil))) (fun _ _ _ _ _ => (jg_name 1 sc_places_of.nd)) (fun _ _ _ _ _ => jts_nil) (fun _ _ _ _ _ => (JE.o (JX.je (jx_tup (jxs_cons (jx_var 1) (jxs_cons (jx_var 2) jxs_nil)))))))) ja_nil))))))
theorem ok_places_of (T : H.Env K mg) : Got P w K mg base 1 (H.a_places_of K) ["sides"] (f_places_of K) := by
  obtain ⟨fd, Fd⟩ := T.F_places_of
  exact ⟨fd, fo_places_of T Fd, Fd.kp, Fd.bindsN fun _ _ _ _ _ _ us hl => match us, hl with | [_], _ => rfl⟩
theorem sc_Rule___init__ : FnScope N_Rule___init__ ["self", "text"] (defScope H.s_Rule___init__) := ⟨rfl, rfl, rfl, by decide +kernel, rfl, by decide +kernel, by decide +kernel⟩
theorem fo_Rule___init__ (T : H.Env K mg) {fd : FuncData} (Fd : FunD K "__init__" "Rule.__init__" (defArgs H.s_Rule___init__) (defBody H.s_Rule___init__) (defScope H.s_Rule___init__) [] [] (H.a_Rule___init__ K) fd) : FnOk P w K mg base (L2.CX P w) 13 (H.a_Rule___init__ K) fd ["self", "text"] (spF K (f_Rule___init__ K)) :=
  fnF Fd sc_Rule___init__ (fun cdv A outer s _ E hr => (js_cons (js_asg (JO.fz (jo_call (takes_of rfl rfl rfl rfl) ((ok_read_rule T).cal hr (by decide) T.g_read_rule) (ja_cons (JX.je (jx_var 1)) ja_nil))) (jg_tup rfl (jgs_cons (jg_name 2 sc_Rule___init__.nd) (jgs_cons (jg_name 3 sc_Rule___init__.nd) (jgs_cons (jg_name 4 sc_Rule___init__.nd) jgs_nil))))) (js_cons (js_setF T.c_Rule T.n_Rule_sides (JE.o (JX.je (jx_var 2))) (jp_var 0)) (js_cons (js_setF T.c_Rule T.n_Rule_letters (JE.o (JX.je (jx_var 3))) (jp_var 0)) (js_cons (js_setF T.c_Rule T.n_Rule_places (JE.o (JO.fz (jo_call (takes_of rfl rfl rfl rfl) ((ok_places_of T).cal hr (by decide) T.g_places_of) (ja_cons (JX.je (jx_var 2)) ja_nil)))) (jp_var 0)) (js_cons (js_setF T.c_Rule T.n_Rule_written (JE.o (JO.fz (jo_call (takes_of rfl rfl rfl rfl) ((ok_rule_text T).cal hr (by decide) T.g_rule_text) (ja_cons (JX.je (jx_var 2)) (ja_cons (JX.je (jx_var 3)) (ja_cons (JX.je (jx_var 4)) ja_nil)))))) (jp_var 0)) (js_cons (js_setF T.c_Rule T.n_Rule_blocks (JE.o (JX.je (jx_var 4))) (jp_var 0)) (js_cons (js_setF T.c_Rule T.n_Rule_order (JE.o (JO.fz (jo_dc (own := [("at", 6), ("letter", 7)]) rfl sc_Rule___init__.nd (ji_enumT T.f_enumerate (ja_cons (JX.je (jx_var 3)) ja_nil)) (show BlkOk N_Rule___init__ (defScope H.s_Rule___init__) _ _ from ⟨rfl, by decide +kernel, by decide +kernel, by decide +kernel, by decide +kernel⟩) (fun _ _ _ _ _ => (jg_tup rfl (jgs_cons (jg_name 6 sc_Rule___init__.nd) (jgs_cons (jg_name 7 sc_Rule___init__.nd) jgs_nil)))) (fun _ _ _ _ _ => jts_nil) (fun _ _ _ _ _ => (JX.je (jx_var 7))) (fun _ _ _ _ _ => (JX.je (jx_var 6)))))) (jp_var 0)) (js_cons (js_setF T.c_Rule T.n_Rule_seats (JE.o (JO.fz (jo_dcT hr.units (own := [("at", 6), ("place", 8)]) rfl sc_Rule___init__.nd (ji_enumT T.f_enumerate (ja_cons (JX.je (JP.jx (jp_fld T.c_Rule T.n_Rule_places (jp_var 0)))) ja_nil)) (show BlkOk N_Rule___init__ (defScope H.s_Rule___init__) _ _ from ⟨rfl, by decide +kernel, by decide +kernel, by decide +kernel, by decide +kernel⟩) (fun _ _ _ _ _ => (jg_tup rfl (jgs_cons (jg_name 6 sc_Rule___init__.nd) (jgs_cons (jg_name 8 sc_Rule___init__.nd) jgs_nil)))) (fun _ _ _ _ _ => jts_nil) (fun _ _ _ _ _ => (JX.je (jx_var 8))) (fun _ _ _ _ _ => (JX.je (jx_var 6)))))) (jp_var 0)) (js_cons (js_setO 5 sc_Rule___init__.nd (jo_lstX jxs_nil)) (js_cons (js_for (passes_of rfl) rfl (ji_rng1 T.f_range (ja_cons (JX.je (jx_callB call_len cd_len T.f_len boot_len (jrs_cons (JP.jr (jp_fld T.c_Rule T.n_Rule_places (jp_var 0))) jrs_nil))) ja_nil)) (jg_name 6 sc_Rule___init__.nd) (js_one (js_expr (je_app 5 (h := (JE.o (je_callT call_tuple_of cd_tup T.f_tuple boot_tuple (ja_cons (JO.fz (jo_lc (own := [("block", 9)]) rfl sc_Rule___init__.nd (ji_tup (JX.je (jx_var 4))) (show BlkOk N_Rule___init__ (defScope H.s_Rule___init__) _ _ from ⟨rfl, by decide +kernel, by decide +kernel, by decide +kernel, by decide +kernel⟩) (fun _ _ _ _ _ => (jg_name 9 sc_Rule___init__.nd)) (fun _ _ _ _ _ => jts_nil) (fun _ _ _ _ _ => (JE.o (JX.je (jx_dget (Nat.lt_of_le_of_lt (Nat.add_le_add_left (by decide) _) hr.units) (JP.jr (jp_fld T.c_Rule T.n_Rule_order (jp_var 0))) (JX.r (jx_ix ix_seq bi_ix (jr_var 9) (jr_var 6))))))))) ja_nil)))))))) (js_cons (js_setF T.c_Rule T.n_Rule_columns (JE.o (JX.je (jx_callT call_tuple_of cd_tup T.f_tuple boot_tuple (jrs_cons (jr_var 5) jrs_nil)))) (jp_var 0)) (js_one (js_setF T.c_Rule T.n_Rule_memo (JE.o (JO.fz jo_dnew)) (jp_var 0)))))))))))))))
theorem ok_Rule___init__ (T : H.Env K mg) : Got P w K mg base 13 (H.a_Rule___init__ K) ["self", "text"] (f_Rule___init__ K) := by
  obtain ⟨fd, Fd⟩ := T.F_Rule___init__
  exact ⟨fd, fo_Rule___init__ T Fd, Fd.kp, Fd.bindsN fun _ _ _ _ _ _ us hl => match us, hl with | [_, _], _ => rfl⟩
theorem sc_Rule_text : FnScope N_Rule_text ["self"] (defScope H.s_Rule_text) := ⟨rfl, rfl, rfl, by decide +kernel, rfl, by decide +kernel, by decide +kernel⟩
theorem fo_Rule_text (T : H.Env K mg) {fd : FuncData} (Fd : FunD K "text" "Rule.text" (defArgs H.s_Rule_text) (defBody H.s_Rule_text) (defScope H.s_Rule_text) [] [] (H.a_Rule_text K) fd) : FnOk P w K mg base (L2.CX P w) 1 (H.a_Rule_text K) fd ["self"] (spF K (f_Rule_text K)) :=
  fnF Fd sc_Rule_text (fun cdv A outer s _ E hr => (js_one (js_ret (JX.je (jx_fld T.c_Rule T.n_Rule_written (jr_var 0))))))
theorem ok_Rule_text (T : H.Env K mg) : Got P w K mg base 1 (H.a_Rule_text K) ["self"] (f_Rule_text K) := by
  obtain ⟨fd, Fd⟩ := T.F_Rule_text
  exact ⟨fd, fo_Rule_text T Fd, Fd.kp, Fd.bindsN fun _ _ _ _ _ _ us hl => match us, hl with | [_], _ => rfl⟩
theorem sc_Rule_of : FnScope N_Rule_of ["sides", "letters", "blocks"] (defScope H.s_Rule_of) := ⟨rfl, rfl, rfl, by decide +kernel, rfl, by decide +kernel, by decide +kernel⟩
theorem fo_Rule_of (T : H.Env K mg) {fd : FuncData} (Fd : FunD K "of" "Rule.of" (defArgs H.s_Rule_of) (defBody H.s_Rule_of) (defScope H.s_Rule_of) [] [] (H.a_Rule_of K) fd) : FnOk P w K mg base (L2.CX P w) 15 (H.a_Rule_of K) fd ["sides", "letters", "blocks"] (spF K (f_Rule_of K)) :=
  fnF Fd sc_Rule_of (fun cdv A outer s _ E hr => (js_cons (js_asg (JO.fz (jo_call (takes_of rfl rfl rfl rfl) ((ok_checked_rule T).cal hr (by decide) T.g_checked_rule) (ja_cons (JX.je (jx_var 0)) (ja_cons (JX.je (jx_var 1)) (ja_cons (JX.je (jx_var 2)) ja_nil))))) (jg_tup rfl (jgs_cons (jg_name 3 sc_Rule_of.nd) (jgs_cons (jg_name 4 sc_Rule_of.nd) (jgs_cons (jg_name 5 sc_Rule_of.nd) jgs_nil))))) (js_one (js_retO (jo_mk (takes_of rfl rfl rfl rfl) ((ok_Rule___init__ T).calN hr (by decide) T.g_Rule T.k_Rule) (ja_cons (JO.fz (jo_call (takes_of rfl rfl rfl rfl) ((ok_rule_text T).cal hr (by decide) T.g_rule_text) (ja_cons (JX.je (jx_var 3)) (ja_cons (JX.je (jx_var 4)) (ja_cons (JX.je (jx_var 5)) ja_nil))))) ja_nil))))))
theorem ok_Rule_of (T : H.Env K mg) : Got P w K mg base 15 (H.a_Rule_of K) ["sides", "letters", "blocks"] (f_Rule_of K) := by
  obtain ⟨fd, Fd⟩ := T.F_Rule_of
  exact ⟨fd, fo_Rule_of T Fd, Fd.kp, Fd.bindsN fun _ _ _ _ _ _ us hl => match us, hl with | [_, _, _], _ => rfl⟩
theorem sc_Rule_number_of : FnScope N_Rule_number_of ["self", "letter"] (defScope H.s_Rule_number_of) := ⟨rfl, rfl, rfl, by decide +kernel, rfl, by decide +kernel, by decide +kernel⟩
theorem fo_Rule_number_of (T : H.Env K mg) {fd : FuncData} (Fd : FunD K "number_of" "Rule.number_of" (defArgs H.s_Rule_number_of) (defBody H.s_Rule_number_of) (defScope H.s_Rule_number_of) [] [] (H.a_Rule_number_of K) fd) : FnOk P w K mg base (L2.CX P w) 1 (H.a_Rule_number_of K) fd ["self", "letter"] (spF K (f_Rule_number_of K)) :=
  fnF Fd sc_Rule_number_of (fun cdv A outer s _ E hr => (js_cons (js_if (JW.t (jw_or (jt_not (jt_val (JX.je (jx_isi "str" (by decide) T.f_isinstance T.f_str boot_str (jr_var 1))))) (jw_one (jt_dnotin (Nat.lt_of_le_of_lt (Nat.add_le_add_left (by decide) _) hr.units) (jr_var 1) (JX.r (jx_fld T.c_Rule T.n_Rule_order (jr_var 0)))) .Or))) (js_one js_never) js_nil) (js_one (js_ret (JX.je (jx_dget (Nat.lt_of_le_of_lt (Nat.add_le_add_left (by decide) _) hr.units) (JX.r (jx_fld T.c_Rule T.n_Rule_order (jr_var 0))) (jr_var 1)))))))
theorem ok_Rule_number_of (T : H.Env K mg) : Got P w K mg base 1 (H.a_Rule_number_of K) ["self", "letter"] (f_Rule_number_of K) := by
  obtain ⟨fd, Fd⟩ := T.F_Rule_number_of
  exact ⟨fd, fo_Rule_number_of T Fd, Fd.kp, Fd.bindsN fun _ _ _ _ _ _ us hl => match us, hl with | [_, _], _ => rfl⟩
theorem sc_Rule___len__ : FnScope N_Rule___len__ ["self"] (defScope H.s_Rule___len__) := ⟨rfl, rfl, rfl, by decide +kernel, rfl, by decide +kernel, by decide +kernel⟩
theorem fo_Rule___len__ (T : H.Env K mg) {fd : FuncData} (Fd : FunD K "__len__" "Rule.__len__" (defArgs H.s_Rule___len__) (defBody H.s_Rule___len__) (defScope H.s_Rule___len__) [] [] (H.a_Rule___len__ K) fd) : FnOk P w K mg base (L2.CX P w) 1 (H.a_Rule___len__ K) fd ["self"] (spF K (f_Rule___len__ K)) :=
  fnF Fd sc_Rule___len__ (fun cdv A outer s _ E hr => (js_one (js_ret (JX.je (jx_callB call_len cd_len T.f_len boot_len (jrs_cons (JX.r (jx_fld T.c_Rule T.n_Rule_letters (jr_var 0))) jrs_nil))))))
theorem ok_Rule___len__ (T : H.Env K mg) : Got P w K mg base 1 (H.a_Rule___len__ K) ["self"] (f_Rule___len__ K) := by
  obtain ⟨fd, Fd⟩ := T.F_Rule___len__
  exact ⟨fd, fo_Rule___len__ T Fd, Fd.kp, Fd.bindsN fun _ _ _ _ _ _ us hl => match us, hl with | [_], _ => rfl⟩
theorem sc_check_letter : FnScope N_check_letter ["rule", "value"] (defScope H.s_check_letter) := ⟨rfl, rfl, rfl, by decide +kernel, rfl, by decide +kernel, by decide +kernel⟩
theorem fo_check_letter (T : H.Env K mg) {fd : FuncData} (Fd : FunD K "check_letter" "check_letter" (defArgs H.s_check_letter) (defBody H.s_check_letter) (defScope H.s_check_letter) [] [] (H.a_check_letter K) fd) : FnOk P w K mg base (L2.CX P w) 3 (H.a_check_letter K) fd ["rule", "value"] (spF K (f_check_letter K)) :=
  fnF Fd sc_check_letter (fun cdv A outer s _ E hr => (js_one (js_ret (JO.fz (jo_meth (takes_of rfl rfl rfl rfl) ((ok_Rule_number_of T).calM hr (by decide) T.m_Rule_number_of T.c_Rule) (JX.je (jx_var 0)) (ja_cons (JX.je (jx_var 1)) ja_nil))))))
theorem ok_check_letter (T : H.Env K mg) : Got P w K mg base 3 (H.a_check_letter K) ["rule", "value"] (f_check_letter K) := by
  obtain ⟨fd, Fd⟩ := T.F_check_letter
  exact ⟨fd, fo_check_letter T Fd, Fd.kp, Fd.bindsN fun _ _ _ _ _ _ us hl => match us, hl with | [_, _], _ => rfl⟩
theorem sc_check_level : FnScope N_check_level ["value"] (defScope H.s_check_level) := ⟨rfl, rfl, rfl, by decide +kernel, rfl, by decide +kernel, by decide +kernel⟩
theorem fo_check_level (T : H.Env K mg) {fd : FuncData} (Fd : FunD K "check_level" "check_level" (defArgs H.s_check_level) (defBody H.s_check_level) (defScope H.s_check_level) [] [] (H.a_check_level K) fd) : FnOk P w K mg base (L2.CX P w) 3 (H.a_check_level K) fd ["value"] (spF K (f_check_level K)) :=
  fnF Fd sc_check_level (fun cdv A outer s _ E hr => (js_cons (js_if (JW.t (jw_or (jt_not (jt_val (JO.fz (jo_call (takes_of rfl rfl rfl rfl) ((ok_integral T).cal hr (by decide) T.g_integral) (ja_cons (JX.je (jx_var 0)) ja_nil))))) (jw_one (jt_cmp op_lt bi_cmp (JX.je (jx_var 0)) (JX.je jx_int)) .Or))) (js_one js_never) js_nil) (js_one (js_if (jt_cmp op_gt bi_cmp (JX.je (jx_var 0)) (JX.je (gl_MOST_LEVEL T))) (js_one js_never) js_nil))))
theorem ok_check_level (T : H.Env K mg) : Got P w K mg base 3 (H.a_check_level K) ["value"] (f_check_level K) := by
  obtain ⟨fd, Fd⟩ := T.F_check_level
  exact ⟨fd, fo_check_level T Fd, Fd.kp, Fd.bindsN fun _ _ _ _ _ _ us hl => match us, hl with | [_], _ => rfl⟩
theorem sc_counted : FnScope N_counted ["rule", "many"] (defScope H.s_counted) := ⟨rfl, rfl, rfl, by decide +kernel, rfl, by decide +kernel, by decide +kernel⟩
theorem fo_counted (T : H.Env K mg) {fd : FuncData} (Fd : FunD K "counted" "counted" (defArgs H.s_counted) (defBody H.s_counted) (defScope H.s_counted) [] [] (H.a_counted K) fd) : FnOk P w K mg base (L2.CX P w) 1 (H.a_counted K) fd ["rule", "many"] (spF K (f_counted K)) :=
  fnF Fd sc_counted (fun cdv A outer s _ E hr => (js_cons (js_setO 2 sc_counted.nd (jo_op op_rep bo_rep (JO.fz (jo_lstX (jxs_cons jx_int jxs_nil))) (JX.je (jx_callB call_len cd_len T.f_len boot_len (jrs_cons (jr_var 1) jrs_nil))))) (js_cons (js_for (passes_of rfl) rfl (ji_tup (JX.je (jx_fld T.c_Rule T.n_Rule_columns (jr_var 0)))) (jg_name 3 sc_counted.nd) (js_one (js_for (passes_of rfl) rfl (ji_enumT T.f_enumerate (ja_cons (JX.je (jx_var 3)) ja_nil)) (jg_tup rfl (jgs_cons (jg_name 4 sc_counted.nd) (jgs_cons (jg_name 5 sc_counted.nd) jgs_nil))) (js_one (js_augI ip_add bi_ipAdd (jp_var 2) (jr_var 5) (JX.r (jx_ix ix_seq bi_ix (jr_var 1) (jr_var 4)))))))) (js_one (js_retS 2)))))
theorem ok_counted (T : H.Env K mg) : Got P w K mg base 1 (H.a_counted K) ["rule", "many"] (f_counted K) := by
  obtain ⟨fd, Fd⟩ := T.F_counted
  exact ⟨fd, fo_counted T Fd, Fd.kp, Fd.bindsN fun _ _ _ _ _ _ us hl => match us, hl with | [_, _], _ => rfl⟩
theorem sc_count : FnScope N_count ["rule", "letter", "level"] (defScope H.s_count) := ⟨rfl, rfl, rfl, by decide +kernel, rfl, by decide +kernel, by decide +kernel⟩
theorem fo_count (T : H.Env K mg) {fd : FuncData} (Fd : FunD K "count" "count" (defArgs H.s_count) (defBody H.s_count) (defScope H.s_count) [] [] (H.a_count K) fd) : FnOk P w K mg base (L2.CX P w) 5 (H.a_count K) fd ["rule", "letter", "level"] (spF K (f_count K)) :=
  fnF Fd sc_count (fun cdv A outer s _ E hr => (js_cons (js_set 3 sc_count.nd (JO.fz (jo_call (takes_of rfl rfl rfl rfl) ((ok_check_letter T).cal hr (by decide) T.g_check_letter) (ja_cons (JX.je (jx_var 0)) (ja_cons (JX.je (jx_var 1)) ja_nil))))) (js_cons (js_expr (JO.fz (jo_call (takes_of rfl rfl rfl rfl) ((ok_check_level T).cal hr (by decide) T.g_check_level) (ja_cons (JX.je (jx_var 2)) ja_nil)))) (js_cons (js_setO 4 sc_count.nd (jo_op op_rep bo_rep (JO.fz (jo_lstX (jxs_cons jx_int jxs_nil))) (je_lenOwn ((ok_Rule___len__ T).calL hr (by decide) T.m_Rule___len__) (JX.je (jx_var 0)) T.f_len))) (js_cons (js_setI (JE.o (JX.je jx_int)) (jp_var 4) (jr_var 3)) (js_cons (js_for (passes_of rfl) rfl (ji_rng1 T.f_range (ja_cons (JX.je (jx_var 2)) ja_nil)) (jg_name 5 sc_count.nd) (js_one (js_setO 4 sc_count.nd (jo_call (takes_of rfl rfl rfl rfl) ((ok_counted T).cal hr (by decide) T.g_counted) (ja_cons (JX.je (jx_var 0)) (ja_cons (je_var 4) ja_nil)))))) (js_one (js_retO (jo_listZip rfl T.f_list T.f_zip (ja_cons (JX.je (jx_fld T.c_Rule T.n_Rule_letters (jr_var 0))) (ja_cons (je_mv 4) ja_nil)))))))))))
theorem ok_count (T : H.Env K mg) : Got P w K mg base 5 (H.a_count K) ["rule", "letter", "level"] (f_count K) := by
  obtain ⟨fd, Fd⟩ := T.F_count
  exact ⟨fd, fo_count T Fd, Fd.kp, Fd.bindsN fun _ _ _ _ _ _ us hl => match us, hl with | [_, _, _], _ => rfl⟩
theorem okk_count (T : H.Env K mg) : GotK P w K mg base 5 (H.a_count K) ["rule", "letter", "level"] ["level", "rule", "letter"] k3 (f_count K) := by
  obtain ⟨fd, Fd⟩ := T.F_count
  exact ⟨fd, k3, fo_count T Fd, Fd.kp, k3_binds Fd fun _ _ _ _ _ _ _ _ _ => rfl⟩
theorem sc__law_bag : FnScope N__law_bag ["script"] (defScope H.s__law_bag) := ⟨rfl, rfl, rfl, by decide +kernel, rfl, by decide +kernel, by decide +kernel⟩
theorem fo__law_bag (T : H.Env K mg) {fd : FuncData} (Fd : FunD K "_law_bag" "_law_bag" (defArgs H.s__law_bag) (defBody H.s__law_bag) (defScope H.s__law_bag) [] [] (H.a__law_bag K) fd) : FnOk P w K mg base (L2.CX P w) 1 (H.a__law_bag K) fd ["script"] (spF K (f__law_bag K)) :=
  fnF Fd sc__law_bag (fun cdv A outer s _ E hr => (js_cons (js_set 1 sc__law_bag.nd (JX.je jx_int)) (js_cons (js_for (passes_of rfl) rfl (ji_lst (JO.fz (jo_sl (jr_var 0) jpt_none (jpt_some (JX.r jx_int))))) (jg_name 2 sc__law_bag.nd) (js_one (js_set 1 sc__law_bag.nd (JX.je (jx_op op_mod bi_mod (JX.r (jx_callT call_int1 cd_int T.f_int boot_int (jrs_cons (JX.r (jx_op op_add bi_add (JX.r (jx_op op_add bi_add (JX.r (jx_op op_mul bi_mul (jr_var 1) (JX.r jx_int))) (JX.r (jx_op op_mod bi_mod (JX.r (jx_callT call_int1 cd_int T.f_int boot_int (jrs_cons (jr_var 2) jrs_nil))) (JX.r jx_int))))) (JX.r jx_int))) jrs_nil))) (JX.r jx_int)))))) (js_one (js_retO (jo_lst (ja_cons (JO.fz (jo_callT call_list_of co_list T.f_list boot_list (ja_cons (JO.fz (jo_sl (jr_var 0) jpt_none (jpt_some (JX.r jx_int)))) ja_nil))) (ja_cons (JX.je jx_int) (ja_cons (JX.je jx_int) (ja_cons (JX.je (jx_var 1)) (ja_cons (JX.je jx_int) (ja_cons (JX.je jx_int) ja_nil))))))))))))
theorem ok__law_bag (T : H.Env K mg) : Got P w K mg base 1 (H.a__law_bag K) ["script"] (f__law_bag K) := by
  obtain ⟨fd, Fd⟩ := T.F__law_bag
  exact ⟨fd, fo__law_bag T Fd, Fd.kp, Fd.bindsN fun _ _ _ _ _ _ us hl => match us, hl with | [_], _ => rfl⟩
theorem sc__law_draw : FnScope N__law_draw ["bag", "many"] (defScope H.s__law_draw) := ⟨rfl, rfl, rfl, by decide +kernel, rfl, by decide +kernel, by decide +kernel⟩
theorem fo__law_draw (T : H.Env K mg) {fd : FuncData} (Fd : FunD K "_law_draw" "_law_draw" (defArgs H.s__law_draw) (defBody H.s__law_draw) (defScope H.s__law_draw) [] [] (H.a__law_draw K) fd) : FnOk P w K mg base (L2.CX P w) 1 (H.a__law_draw K) fd ["bag", "many"] (spF K (f__law_draw K)) :=
  fnF Fd sc__law_draw (fun cdv A outer s _ E hr => (js_cons (js_setI (JE.o (JX.je (jx_op op_add bi_add (JP.jr (jp_ix (jp_var 0) (JX.r jx_int))) (JX.r jx_int)))) (jp_var 0) (JX.r jx_int)) (js_cons (js_if (JW.t (jw_and (jt_cmp op_eq bi_eq (JX.je (JP.jx (jp_ix (jp_var 0) (JX.r jx_int)))) (JX.je jx_int)) (jw_one (jt_cmp op_lt bi_cmp (JX.je (JP.jx (jp_ix (jp_var 0) (JX.r jx_int)))) (JX.je (jx_callB call_len cd_len T.f_len boot_len (jrs_cons (JP.jr (jp_ix (jp_var 0) (JX.r jx_int))) jrs_nil)))) .And))) (js_cons (js_set 2 sc__law_draw.nd (JX.je (jx_ix ix_seq bi_ix (JP.jr (jp_ix (jp_var 0) (JX.r jx_int))) (JP.jr (jp_ix (jp_var 0) (JX.r jx_int)))))) (js_cons (js_setI (JE.o (JX.je (jx_op op_add bi_add (JP.jr (jp_ix (jp_var 0) (JX.r jx_int))) (JX.r jx_int)))) (jp_var 0) (JX.r jx_int)) (js_one (js_if (jt_cmp op_ge bi_cmp (JX.je (jx_var 2)) (JX.je (jx_op op_pow bi_pow (JX.r jx_int) (JX.r jx_int)))) (js_cons (js_setI (JE.o (JX.je (jx_var 2))) (jp_var 0) (JX.r jx_int)) (js_one (js_setI (JE.o (JX.je jx_int)) (jp_var 0) (JX.r jx_int)))) (js_one (js_setI (JE.o (JX.je (jx_op op_mod bi_mod (JX.r (jx_callT call_int1 cd_int T.f_int boot_int (jrs_cons (JX.r (jx_op op_add bi_add (JX.r (jx_op op_add bi_add (JX.r (jx_op op_mul bi_mul (JP.jr (jp_ix (jp_var 0) (JX.r jx_int))) (JX.r jx_int))) (JX.r (jx_op op_mul bi_mul (JX.r (jx_op op_mod bi_mod (JX.r (jx_callT call_int1 cd_int T.f_int boot_int (jrs_cons (jr_var 2) jrs_nil))) (JX.r jx_int))) (JX.r jx_int))))) (JX.r jx_int))) jrs_nil))) (JX.r jx_int)))) (jp_var 0) (JX.r jx_int))))))) js_nil) (js_cons (js_if (jt_cmp op_gt bi_cmp (JX.je (JP.jx (jp_ix (jp_var 0) (JX.r jx_int)))) (JX.je jx_int)) (js_cons (js_set 3 sc__law_draw.nd (JX.je (jx_op op_mod bi_mod (JX.r (jx_callT call_int1 cd_int T.f_int boot_int (jrs_cons (JP.jr (jp_ix (jp_var 0) (JX.r jx_int))) jrs_nil))) (jr_var 1)))) (js_cons (js_setI (JE.o (JX.je (jx_op op_sub bi_sub (JP.jr (jp_ix (jp_var 0) (JX.r jx_int))) (JX.r jx_int)))) (jp_var 0) (JX.r jx_int)) (js_cons (js_setI (JE.o (je_if (jt_cmp op_gt bi_cmp (JX.je (JP.jx (jp_ix (jp_var 0) (JX.r jx_int)))) (JX.je jx_int)) (JX.je (jx_op op_fdiv bi_div (JP.jr (jp_ix (jp_var 0) (JX.r jx_int))) (jr_var 1))) (JX.je jx_int))) (jp_var 0) (JX.r jx_int)) (js_one (js_ret (JX.je (jx_var 3))))))) js_nil) (js_cons (js_setI (JE.o (JX.je (jx_op op_mod bi_mod (JX.r (jx_callT call_int1 cd_int T.f_int boot_int (jrs_cons (JX.r (jx_op op_add bi_add (JX.r (jx_op op_add bi_add (JX.r (jx_op op_pow bi_pow (JP.jr (jp_ix (jp_var 0) (JX.r jx_int))) (JX.r jx_int))) (JX.r (jx_op op_mul bi_mul (JP.jr (jp_ix (jp_var 0) (JX.r jx_int))) (JX.r jx_int))))) (JX.r jx_int))) jrs_nil))) (JX.r jx_int)))) (jp_var 0) (JX.r jx_int)) (js_one (js_ret (JX.je (jx_op op_mod bi_mod (JX.r (jx_callT call_int1 cd_int T.f_int boot_int (jrs_cons (JX.r (jx_op op_add bi_add (JX.r (jx_op op_fdiv bi_div (JP.jr (jp_ix (jp_var 0) (JX.r jx_int))) (JX.r jx_int))) (JX.r (jx_op op_mul bi_mul (JX.r (jx_op op_mod bi_mod (JX.r (jx_callT call_int1 cd_int T.f_int boot_int (jrs_cons (JP.jr (jp_ix (jp_var 0) (JX.r jx_int))) jrs_nil))) (JX.r jx_int))) (JX.r jx_int))))) jrs_nil))) (jr_var 1))))))))))
theorem ok__law_draw (T : H.Env K mg) : Got P w K mg base 1 (H.a__law_draw K) ["bag", "many"] (f__law_draw K) := by
  obtain ⟨fd, Fd⟩ := T.F__law_draw
  exact ⟨fd, fo__law_draw T Fd, Fd.kp, Fd.bindsN fun _ _ _ _ _ _ us hl => match us, hl with | [_, _], _ => rfl⟩
theorem sc__law_of : FnScope N__law_of ["bag", "things"] (defScope H.s__law_of) := ⟨rfl, rfl, rfl, by decide +kernel, rfl, by decide +kernel, by decide +kernel⟩
theorem fo__law_of (T : H.Env K mg) {fd : FuncData} (Fd : FunD K "_law_of" "_law_of" (defArgs H.s__law_of) (defBody H.s__law_of) (defScope H.s__law_of) [] [] (H.a__law_of K) fd) : FnOk P w K mg base (L2.CX P w) 3 (H.a__law_of K) fd ["bag", "things"] (spF K (f__law_of K)) :=
  fnF Fd sc__law_of (fun cdv A outer s _ E hr => (js_one (js_ret (je_ix ix_seq bi_ix (JX.je (jx_var 1)) (JO.fz (jo_call (takes_of rfl rfl rfl rfl) ((ok__law_draw T).cal hr (by decide) T.g__law_draw) (ja_cons (je_var 0) (ja_cons (JX.je (jx_callB call_len cd_len T.f_len boot_len (jrs_cons (jr_var 1) jrs_nil))) ja_nil))))))))
theorem ok__law_of (T : H.Env K mg) : Got P w K mg base 3 (H.a__law_of K) ["bag", "things"] (f__law_of K) := by
  obtain ⟨fd, Fd⟩ := T.F__law_of
  exact ⟨fd, fo__law_of T Fd, Fd.kp, Fd.bindsN fun _ _ _ _ _ _ us hl => match us, hl with | [_, _], _ => rfl⟩
theorem sc__law_mixed : FnScope N__law_mixed ["bag", "things"] (defScope H.s__law_mixed) := ⟨rfl, rfl, rfl, by decide +kernel, rfl, by decide +kernel, by decide +kernel⟩
theorem fo__law_mixed (T : H.Env K mg) {fd : FuncData} (Fd : FunD K "_law_mixed" "_law_mixed" (defArgs H.s__law_mixed) (defBody H.s__law_mixed) (defScope H.s__law_mixed) [] [] (H.a__law_mixed K) fd) : FnOk P w K mg base (L2.CX P w) 3 (H.a__law_mixed K) fd ["bag", "things"] (spF K (f__law_mixed K)) :=
  fnF Fd sc__law_mixed (fun cdv A outer s _ E hr => (js_cons (js_setO 2 sc__law_mixed.nd (jo_callTR call_list_of co_list T.f_list boot_list (jrs_cons (jr_var 1) jrs_nil))) (js_cons (js_setO 3 sc__law_mixed.nd (jo_lstX jxs_nil)) (js_cons (js_for (passes_of rfl) rfl (ji_rng1 T.f_range (ja_cons (JX.je (jx_callB call_len cd_len T.f_len boot_len (jrs_cons (jr_var 1) jrs_nil))) ja_nil)) (jg_name 4 sc__law_mixed.nd) (js_one (js_expr (je_app 3 (h := (JE.o (je_pop 2 (h := (JO.fz (jo_call (takes_of rfl rfl rfl rfl) ((ok__law_draw T).cal hr (by decide) T.g__law_draw) (ja_cons (je_var 0) (ja_cons (JX.je (jx_callB call_len cd_len T.f_len boot_len (jrs_cons (jr_var 2) jrs_nil))) ja_nil)))))))))))) (js_one (js_retS 3))))))
theorem ok__law_mixed (T : H.Env K mg) : Got P w K mg base 3 (H.a__law_mixed K) ["bag", "things"] (f__law_mixed K) := by
  obtain ⟨fd, Fd⟩ := T.F__law_mixed
  exact ⟨fd, fo__law_mixed T Fd, Fd.kp, Fd.bindsN fun _ _ _ _ _ _ us hl => match us, hl with | [_, _], _ => rfl⟩
theorem sc__law_word : FnScope N__law_word ["bag"] (defScope H.s__law_word) := ⟨rfl, rfl, rfl, by decide +kernel, rfl, by decide +kernel, by decide +kernel⟩
theorem fo__law_word (T : H.Env K mg) {fd : FuncData} (Fd : FunD K "_law_word" "_law_word" (defArgs H.s__law_word) (defBody H.s__law_word) (defScope H.s__law_word) [] [] (H.a__law_word K) fd) : FnOk P w K mg base (L2.CX P w) 5 (H.a__law_word K) fd ["bag"] (spF K (f__law_word K)) :=
  fnF Fd sc__law_word (fun cdv A outer s _ E hr => (js_cons (js_set 1 sc__law_word.nd (je_ix ix_seq bi_ix (JX.je jx_str) (JO.fz (jo_call (takes_of rfl rfl rfl rfl) ((ok__law_draw T).cal hr (by decide) T.g__law_draw) (ja_cons (je_var 0) (ja_cons (JX.je jx_int) ja_nil)))))) (js_cons (js_for (passes_of rfl) rfl (ji_rng1 T.f_range (ja_cons (JO.fz (jo_call (takes_of rfl rfl rfl rfl) ((ok__law_of T).cal hr (by decide) T.g__law_of) (ja_cons (je_var 0) (ja_cons (JO.fz (jo_lstX (jxs_cons jx_int (jxs_cons jx_int (jxs_cons jx_int (jxs_cons jx_int (jxs_cons jx_int (jxs_cons jx_int (jxs_cons jx_int jxs_nil))))))))) ja_nil)))) ja_nil)) (jg_name 2 sc__law_word.nd) (js_one (js_set 1 sc__law_word.nd (je_op op_add_str bi_addS (JX.je (jx_var 1)) (je_ix ix_seq bi_ix (JX.je jx_str) (JO.fz (jo_call (takes_of rfl rfl rfl rfl) ((ok__law_draw T).cal hr (by decide) T.g__law_draw) (ja_cons (je_var 0) (ja_cons (JX.je jx_int) ja_nil))))))))) (js_one (js_ret (JX.je (jx_var 1)))))))
theorem ok__law_word (T : H.Env K mg) : Got P w K mg base 5 (H.a__law_word K) ["bag"] (f__law_word K) := by
  obtain ⟨fd, Fd⟩ := T.F__law_word
  exact ⟨fd, fo__law_word T Fd, Fd.kp, Fd.bindsN fun _ _ _ _ _ _ us hl => match us, hl with | [_], _ => rfl⟩
theorem sc__law_names : FnScope N__law_names ["bag", "many"] (defScope H.s__law_names) := ⟨rfl, rfl, rfl, by decide +kernel, rfl, by decide +kernel, by decide +kernel⟩
theorem fo__law_names (T : H.Env K mg) {fd : FuncData} (Fd : FunD K "_law_names" "_law_names" (defArgs H.s__law_names) (defBody H.s__law_names) (defScope H.s__law_names) [] [] (H.a__law_names K) fd) : FnOk P w K mg base (L2.CX P w) 7 (H.a__law_names K) fd ["bag", "many"] (spF K (f__law_names K)) :=
  fnF Fd sc__law_names (fun cdv A outer s _ E hr => (js_cons (js_setO 2 sc__law_names.nd (jo_lstX jxs_nil)) (js_cons (js_for (passes_of rfl) rfl (ji_rng1 T.f_range (ja_cons (JX.je (jx_var 1)) ja_nil)) (jg_name 3 sc__law_names.nd) (js_cons (js_set 4 sc__law_names.nd (JO.fz (jo_call (takes_of rfl rfl rfl rfl) ((ok__law_word T).cal hr (by decide) T.g__law_word) (ja_cons (je_var 0) ja_nil)))) (js_cons (js_set 5 sc__law_names.nd (JX.je (jx_sl (jr_var 4) jpt_none (jpt_some (JX.r jx_int))))) (js_cons (js_for (passes_of rfl) rfl (ji_rng1 T.f_range (ja_cons (JX.je jx_int) ja_nil)) (jg_name 6 sc__law_names.nd) (js_cons (js_if (jt_cmp op_notIn_seq bi_in (JX.je (jx_var 4)) (je_var 2)) (js_one js_break) js_nil) (js_one (js_set 4 sc__law_names.nd (JX.je (jx_op op_add_str bi_addS (jr_var 5) (JX.r (jx_callT call_str_int cd_strI T.f_str boot_str (jrs_cons (JX.r (jx_op op_add bi_add (JX.r (jx_op op_mul bi_mul (jr_var 3) (JX.r jx_int))) (jr_var 6))) jrs_nil))))))))) (js_one (js_expr (je_app 2 (h := (JE.o (JX.je (jx_var 4))))))))))) (js_one (js_retS 2)))))
theorem ok__law_names (T : H.Env K mg) : Got P w K mg base 7 (H.a__law_names K) ["bag", "many"] (f__law_names K) := by
  obtain ⟨fd, Fd⟩ := T.F__law_names
  exact ⟨fd, fo__law_names T Fd, Fd.kp, Fd.bindsN fun _ _ _ _ _ _ us hl => match us, hl with | [_, _], _ => rfl⟩
theorem sc__law_cells : FnScope N__law_cells ["shape"] (defScope H.s__law_cells) := ⟨rfl, rfl, rfl, by decide +kernel, rfl, by decide +kernel, by decide +kernel⟩
theorem fo__law_cells (T : H.Env K mg) {fd : FuncData} (Fd : FunD K "_law_cells" "_law_cells" (defArgs H.s__law_cells) (defBody H.s__law_cells) (defScope H.s__law_cells) [] [] (H.a__law_cells K) fd) : FnOk P w K mg base (L2.CX P w) 1 (H.a__law_cells K) fd ["shape"] (spF K (f__law_cells K)) :=
  fnF Fd sc__law_cells (fun cdv A outer s _ E hr => (js_cons (js_if (jt_cmp op_eq bi_eq (JX.je (jx_callB call_len cd_len T.f_len boot_len (jrs_cons (jr_var 0) jrs_nil))) (JX.je jx_int)) (js_one (js_ret (JO.fz (jo_lc (own := [("x", 3)]) rfl sc__law_cells.nd (ji_rng1 T.f_range (ja_cons (JX.je (jx_ix ix_seq bi_ix (jr_var 0) (JX.r jx_int))) ja_nil)) (show BlkOk N__law_cells (defScope H.s__law_cells) _ _ from ⟨rfl, by decide +kernel, by decide +kernel, by decide +kernel, by decide +kernel⟩) (fun _ _ _ _ _ => (jg_name 3 sc__law_cells.nd)) (fun _ _ _ _ _ => jts_nil) (fun _ _ _ _ _ => (JE.o (JX.je (jx_tup (jxs_cons (jx_var 3) jxs_nil))))))))) js_nil) (js_cons (js_setO 1 sc__law_cells.nd (jo_lstX jxs_nil)) (js_cons (js_for (passes_of rfl) rfl (ji_rng1 T.f_range (ja_cons (JX.je (jx_ix ix_seq bi_ix (jr_var 0) (JX.r jx_int))) ja_nil)) (jg_name 2 sc__law_cells.nd) (js_one (js_for (passes_of rfl) rfl (ji_rng1 T.f_range (ja_cons (JX.je (jx_ix ix_seq bi_ix (jr_var 0) (JX.r jx_int))) ja_nil)) (jg_name 3 sc__law_cells.nd) (js_one (js_expr (je_app 1 (h := (JE.o (JX.je (jx_tup (jxs_cons (jx_var 3) (jxs_cons (jx_var 2) jxs_nil)))))))))))) (js_one (js_retS 1))))))
theorem ok__law_cells (T : H.Env K mg) : Got P w K mg base 1 (H.a__law_cells K) ["shape"] (f__law_cells K) := by
  obtain ⟨fd, Fd⟩ := T.F__law_cells
  exact ⟨fd, fo__law_cells T Fd, Fd.kp, Fd.bindsN fun _ _ _ _ _ _ us hl => match us, hl with | [_], _ => rfl⟩
theorem sc__law_drawn : FnScope N__law_drawn ["bag", "shape", "many"] (defScope H.s__law_drawn) := ⟨rfl, rfl, rfl, by decide +kernel, rfl, by decide +kernel, by decide +kernel⟩
theorem fo__law_drawn (T : H.Env K mg) {fd : FuncData} (Fd : FunD K "_law_drawn" "_law_drawn" (defArgs H.s__law_drawn) (defBody H.s__law_drawn) (defScope H.s__law_drawn) [] [] (H.a__law_drawn K) fd) : FnOk P w K mg base (L2.CX P w) 9 (H.a__law_drawn K) fd ["bag", "shape", "many"] (spF K (f__law_drawn K)) :=
  fnF Fd sc__law_drawn (fun cdv A outer s _ E hr => (js_cons (js_setLc 3 (own := [("k", 6)]) rfl sc__law_drawn.nd (ji_rng1 T.f_range (ja_cons (JX.je (jx_var 2)) ja_nil)) (show BlkOk N__law_drawn (defScope H.s__law_drawn) _ _ from ⟨rfl, by decide +kernel, by decide +kernel, by decide +kernel, by decide +kernel⟩) (fun _ _ _ _ _ => (jg_name 6 sc__law_drawn.nd)) (fun _ _ _ _ _ => jts_nil) (fun _ _ _ _ _ => (jo_lstX jxs_nil)) rfl) (js_cons (js_for (passes_of rfl) rfl (ji_lst (JO.fz (jo_call (takes_of rfl rfl rfl rfl) ((ok__law_cells T).cal hr (by decide) T.g__law_cells) (ja_cons (JX.je (jx_var 1)) ja_nil)))) (jg_name 4 sc__law_drawn.nd) (js_cons (js_if (jt_cmp op_eq bi_eq (JO.fz (jo_call (takes_of rfl rfl rfl rfl) ((ok__law_draw T).cal hr (by decide) T.g__law_draw) (ja_cons (je_var 0) (ja_cons (JX.je jx_int) ja_nil)))) (JX.je jx_int)) (js_one (JS.fz (js_setLc 5 (own := [("k", 6)]) rfl sc__law_drawn.nd (ji_rng1 T.f_range (ja_cons (JX.je (jx_var 2)) ja_nil)) (show BlkOk N__law_drawn (defScope H.s__law_drawn) _ _ from ⟨rfl, by decide +kernel, by decide +kernel, by decide +kernel, by decide +kernel⟩) (fun _ _ _ _ _ => (jg_name 6 sc__law_drawn.nd)) (fun _ _ _ _ _ => jts_nil) (fun _ _ _ _ _ => (JE.o (JO.fz (jo_call takes_none5 ((ok__law_draw T).cal hr (by decide) T.g__law_draw) (ja_cons (je_var 0) (ja_cons (JX.je (jx_var 2)) ja_nil)))))) rfl))) (js_one (js_set 5 sc__law_drawn.nd (JO.fz (jo_call (takes_of rfl rfl rfl rfl) ((ok__law_mixed T).cal hr (by decide) T.g__law_mixed) (ja_cons (je_var 0) (ja_cons (JO.fz (jo_lrg1 rfl T.f_list T.f_range (jr_var 2))) ja_nil))))))) (js_one (js_for (passes_of rfl) rfl (ji_rng1 T.f_range (ja_cons (JX.je (jx_var 2)) ja_nil)) (jg_name 6 sc__law_drawn.nd) (js_one (js_expr (je_appP (jp_ix (jp_var 3) (jr_var 6)) (jx_ix ix_seq bi_ix (jr_var 5) (jr_var 6))))))))) (js_one (js_ret (je_tup (ja_cons (JX.je (jx_var 1)) (ja_cons (JO.fz (jo_call (takes_of rfl rfl rfl rfl) ((ok__law_names T).cal hr (by decide) T.g__law_names) (ja_cons (je_var 0) (ja_cons (JX.je (jx_var 2)) ja_nil)))) (ja_cons (je_mv 3) ja_nil)))))))))
theorem ok__law_drawn (T : H.Env K mg) : Got P w K mg base 9 (H.a__law_drawn K) ["bag", "shape", "many"] (f__law_drawn K) := by
  obtain ⟨fd, Fd⟩ := T.F__law_drawn
  exact ⟨fd, fo__law_drawn T Fd, Fd.kp, Fd.bindsN fun _ _ _ _ _ _ us hl => match us, hl with | [_, _, _], _ => rfl⟩
theorem sc__law_rows : FnScope N__law_rows ["bag"] (defScope H.s__law_rows) := ⟨rfl, rfl, rfl, by decide +kernel, rfl, by decide +kernel, by decide +kernel⟩
theorem fo__law_rows (T : H.Env K mg) {fd : FuncData} (Fd : FunD K "_law_rows" "_law_rows" (defArgs H.s__law_rows) (defBody H.s__law_rows) (defScope H.s__law_rows) [] [] (H.a__law_rows K) fd) : FnOk P w K mg base (L2.CX P w) 11 (H.a__law_rows K) fd ["bag"] (spF K (f__law_rows K)) :=
  fnF Fd sc__law_rows (fun cdv A outer s _ E hr => (js_cons (js_set 1 sc__law_rows.nd (JO.fz (jo_call (takes_of rfl rfl rfl rfl) ((ok__law_draw T).cal hr (by decide) T.g__law_draw) (ja_cons (je_var 0) (ja_cons (JX.je jx_int) ja_nil))))) (js_cons (js_if (jt_cmp op_eq bi_eq (JX.je (jx_var 1)) (JX.je jx_int)) (js_one (js_ret (JO.fz (jo_call (takes_of rfl rfl rfl rfl) ((ok__law_drawn T).cal hr (by decide) T.g__law_drawn) (ja_cons (je_var 0) (ja_cons (je_tup (ja_cons (je_op op_add bi_add (JX.je jx_int) (JO.fz (jo_call (takes_of rfl rfl rfl rfl) ((ok__law_draw T).cal hr (by decide) T.g__law_draw) (ja_cons (je_var 0) (ja_cons (JX.je jx_int) ja_nil))))) ja_nil)) (ja_cons (JX.je jx_int) ja_nil))))))) js_nil) (js_one (js_ret (JO.fz (jo_call (takes_of rfl rfl rfl rfl) ((ok__law_drawn T).cal hr (by decide) T.g__law_drawn) (ja_cons (je_var 0) (ja_cons (je_tup (ja_cons (je_op op_add bi_add (JX.je jx_int) (JO.fz (jo_call (takes_of rfl rfl rfl rfl) ((ok__law_draw T).cal hr (by decide) T.g__law_draw) (ja_cons (je_var 0) (ja_cons (JX.je jx_int) ja_nil))))) ja_nil)) (ja_cons (je_ix ix_seq bi_ix (JO.fz (jo_lstX (jxs_cons jx_int (jxs_cons jx_int (jxs_cons jx_int (jxs_cons jx_int (jxs_cons jx_int (jxs_cons jx_int jxs_nil)))))))) (JX.je (jx_var 1))) ja_nil))))))))))
theorem ok__law_rows (T : H.Env K mg) : Got P w K mg base 11 (H.a__law_rows K) ["bag"] (f__law_rows K) := by
  obtain ⟨fd, Fd⟩ := T.F__law_rows
  exact ⟨fd, fo__law_rows T Fd, Fd.kp, Fd.bindsN fun _ _ _ _ _ _ us hl => match us, hl with | [_], _ => rfl⟩
theorem sc__law_floors : FnScope N__law_floors ["bag"] (defScope H.s__law_floors) := ⟨rfl, rfl, rfl, by decide +kernel, rfl, by decide +kernel, by decide +kernel⟩
theorem fo__law_floors (T : H.Env K mg) {fd : FuncData} (Fd : FunD K "_law_floors" "_law_floors" (defArgs H.s__law_floors) (defBody H.s__law_floors) (defScope H.s__law_floors) [] [] (H.a__law_floors K) fd) : FnOk P w K mg base (L2.CX P w) 11 (H.a__law_floors K) fd ["bag"] (spF K (f__law_floors K)) :=
  fnF Fd sc__law_floors (fun cdv A outer s _ E hr => (js_one (js_ret (JO.fz (jo_call (takes_of rfl rfl rfl rfl) ((ok__law_drawn T).cal hr (by decide) T.g__law_drawn) (ja_cons (je_var 0) (ja_cons (JO.fz (jo_call (takes_of rfl rfl rfl rfl) ((ok__law_of T).cal hr (by decide) T.g__law_of) (ja_cons (je_var 0) (ja_cons (JO.fz (jo_lstX (jxs_cons (jx_tup (jxs_cons jx_int (jxs_cons jx_int jxs_nil))) (jxs_cons (jx_tup (jxs_cons jx_int (jxs_cons jx_int jxs_nil))) (jxs_cons (jx_tup (jxs_cons jx_int (jxs_cons jx_int jxs_nil))) jxs_nil))))) ja_nil)))) (ja_cons (je_op op_add bi_add (JX.je jx_int) (JO.fz (jo_call (takes_of rfl rfl rfl rfl) ((ok__law_draw T).cal hr (by decide) T.g__law_draw) (ja_cons (je_var 0) (ja_cons (JX.je jx_int) ja_nil))))) ja_nil))))))))
theorem ok__law_floors (T : H.Env K mg) : Got P w K mg base 11 (H.a__law_floors K) ["bag"] (f__law_floors K) := by
  obtain ⟨fd, Fd⟩ := T.F__law_floors
  exact ⟨fd, fo__law_floors T Fd, Fd.kp, Fd.bindsN fun _ _ _ _ _ _ us hl => match us, hl with | [_], _ => rfl⟩
theorem sc__law_turned : FnScope N__law_turned ["bag", "shape", "bricks"] (defScope H.s__law_turned) := ⟨rfl, rfl, rfl, by decide +kernel, rfl, by decide +kernel, by decide +kernel⟩
theorem fo__law_turned (T : H.Env K mg) {fd : FuncData} (Fd : FunD K "_law_turned" "_law_turned" (defArgs H.s__law_turned) (defBody H.s__law_turned) (defScope H.s__law_turned) [] [] (H.a__law_turned K) fd) : FnOk P w K mg base (L2.CX P w) 9 (H.a__law_turned K) fd ["bag", "shape", "bricks"] (spF K (f__law_turned K)) :=
  fnF Fd sc__law_turned (fun cdv A outer s _ E hr => (js_cons (js_set 3 sc__law_turned.nd (JO.fz (jo_call (takes_of rfl rfl rfl rfl) ((ok__law_mixed T).cal hr (by decide) T.g__law_mixed) (ja_cons (je_var 0) (ja_cons (JO.fz (jo_lrg1 rfl T.f_list T.f_range (JX.r (jx_callB call_len cd_len T.f_len boot_len (jrs_cons (jr_var 2) jrs_nil))))) ja_nil))))) (js_cons (js_setLc 4 (own := [("k", 5)]) rfl sc__law_turned.nd (ji_rng1 T.f_range (ja_cons (JX.je (jx_callB call_len cd_len T.f_len boot_len (jrs_cons (jr_var 2) jrs_nil))) ja_nil)) (show BlkOk N__law_turned (defScope H.s__law_turned) _ _ from ⟨rfl, by decide +kernel, by decide +kernel, by decide +kernel, by decide +kernel⟩) (fun _ _ _ _ _ => (jg_name 5 sc__law_turned.nd)) (fun _ _ _ _ _ => jts_nil) (fun _ _ _ _ _ => (JE.o (JO.fz (jo_lstX jxs_nil)))) rfl) (js_cons (js_for (passes_of rfl) rfl (ji_rng1 T.f_range (ja_cons (JX.je (jx_callB call_len cd_len T.f_len boot_len (jrs_cons (jr_var 2) jrs_nil))) ja_nil)) (jg_name 5 sc__law_turned.nd) (js_one (js_setI (JE.o (JO.fz (jo_lc (own := [("item", 6)]) rfl sc__law_turned.nd (ji_lst (JX.je (jx_ix ix_seq bi_ix (jr_var 2) (jr_var 5)))) (show BlkOk N__law_turned (defScope H.s__law_turned) _ _ from ⟨rfl, by decide +kernel, by decide +kernel, by decide +kernel, by decide +kernel⟩) (fun _ _ _ _ _ => (jg_name 6 sc__law_turned.nd)) (fun _ _ _ _ _ => jts_nil) (fun _ _ _ _ _ => (JE.o (JX.je (jx_ix ix_seq bi_ix (jr_var 3) (jr_var 6)))))))) (jp_var 4) (JX.r (jx_ix ix_seq bi_ix (jr_var 3) (jr_var 5)))))) (js_one (js_ret (je_tup (ja_cons (JX.je (jx_var 1)) (ja_cons (JO.fz (jo_call (takes_of rfl rfl rfl rfl) ((ok__law_names T).cal hr (by decide) T.g__law_names) (ja_cons (je_var 0) (ja_cons (JX.je (jx_callB call_len cd_len T.f_len boot_len (jrs_cons (jr_var 2) jrs_nil))) ja_nil)))) (ja_cons (je_mv 4) ja_nil))))))))))
theorem ok__law_turned (T : H.Env K mg) : Got P w K mg base 9 (H.a__law_turned K) ["bag", "shape", "bricks"] (f__law_turned K) := by
  obtain ⟨fd, Fd⟩ := T.F__law_turned
  exact ⟨fd, fo__law_turned T Fd, Fd.kp, Fd.bindsN fun _ _ _ _ _ _ us hl => match us, hl with | [_, _, _], _ => rfl⟩
theorem sc__law_spins : FnScope N__law_spins ["bag", "wide"] (defScope H.s__law_spins) := ⟨rfl, rfl, rfl, by decide +kernel, rfl, by decide +kernel, by decide +kernel⟩
theorem fo__law_spins (T : H.Env K mg) {fd : FuncData} (Fd : FunD K "_law_spins" "_law_spins" (defArgs H.s__law_spins) (defBody H.s__law_spins) (defScope H.s__law_spins) [] [] (H.a__law_spins K) fd) : FnOk P w K mg base (L2.CX P w) 11 (H.a__law_spins K) fd ["bag", "wide"] (spF K (f__law_spins K)) :=
  fnF Fd sc__law_spins (fun cdv A outer s _ E hr => (js_cons (js_set 2 sc__law_spins.nd (JO.fz (jo_call (takes_of rfl rfl rfl rfl) ((ok__law_of T).cal hr (by decide) T.g__law_of) (ja_cons (je_var 0) (ja_cons (JO.fz (jo_lstX (jxs_cons (jx_tup (jxs_cons jx_int jxs_nil)) (jxs_cons (jx_tup (jxs_cons jx_int jxs_nil)) (jxs_cons (jx_tup (jxs_cons jx_int jxs_nil)) (jxs_cons (jx_tup (jxs_cons jx_int jxs_nil)) (jxs_cons (jx_tup (jxs_cons jx_int jxs_nil)) jxs_nil))))))) ja_nil))))) (js_cons (js_if (JW.t (jw_and (jt_val (JX.je (jx_var 1))) (jw_one (jt_cmp op_eq bi_eq (JO.fz (jo_call (takes_of rfl rfl rfl rfl) ((ok__law_draw T).cal hr (by decide) T.g__law_draw) (ja_cons (je_var 0) (ja_cons (JX.je jx_int) ja_nil)))) (JX.je jx_int)) .And))) (js_one (js_set 2 sc__law_spins.nd (JO.fz (jo_call (takes_of rfl rfl rfl rfl) ((ok__law_of T).cal hr (by decide) T.g__law_of) (ja_cons (je_var 0) (ja_cons (JO.fz (jo_lstX (jxs_cons (jx_tup (jxs_cons jx_int jxs_nil)) (jxs_cons (jx_tup (jxs_cons jx_int (jxs_cons jx_int jxs_nil))) jxs_nil)))) ja_nil)))))) js_nil) (js_cons (js_set 3 sc__law_spins.nd (je_callB call_len cd_len T.f_len boot_len (ja_cons (JO.fz (jo_call (takes_of rfl rfl rfl rfl) ((ok__law_cells T).cal hr (by decide) T.g__law_cells) (ja_cons (JX.je (jx_var 2)) ja_nil))) ja_nil))) (js_cons (js_setO 4 sc__law_spins.nd (jo_lstX jxs_nil)) (js_cons (js_for (passes_of rfl) rfl (ji_rng1 T.f_range (ja_cons (JX.je (jx_var 3)) ja_nil)) (jg_name 5 sc__law_spins.nd) (js_one (js_expr (je_app 4 (h := (JE.o (JO.fz (jo_lc (own := [("r", 8)]) rfl sc__law_spins.nd (ji_rng1 T.f_range (ja_cons (JX.je (jx_var 3)) ja_nil)) (show BlkOk N__law_spins (defScope H.s__law_spins) _ _ from ⟨rfl, by decide +kernel, by decide +kernel, by decide +kernel, by decide +kernel⟩) (fun _ _ _ _ _ => (jg_name 8 sc__law_spins.nd)) (fun _ _ _ _ _ => jts_nil) (fun _ _ _ _ _ => (JE.o (JO.fz (jo_call takes_none5 ((ok__law_draw T).cal hr (by decide) T.g__law_draw) (ja_cons (je_var 0) (ja_cons (JX.je jx_int) ja_nil)))))))))))))) (js_cons (js_if (JW.t (jw_and (jt_cmp op_eq bi_eq (JX.je (jx_var 3)) (JX.je jx_int)) (jw_one (jt_cmp op_eq bi_eq (JO.fz (jo_call (takes_of rfl rfl rfl rfl) ((ok__law_draw T).cal hr (by decide) T.g__law_draw) (ja_cons (je_var 0) (ja_cons (JX.je jx_int) ja_nil)))) (JX.je jx_int)) .And))) (js_one (js_setO 4 sc__law_spins.nd (jo_call (takes_of rfl rfl rfl rfl) ((ok__law_mixed T).cal hr (by decide) T.g__law_mixed) (ja_cons (je_var 0) (ja_cons (JO.fz (jo_lst (ja_cons (JO.fz (jo_lstX (jxs_cons jx_int (jxs_cons jx_int jxs_nil)))) (ja_cons (JO.fz (jo_lstX (jxs_cons jx_int (jxs_cons jx_int jxs_nil)))) ja_nil)))) ja_nil))))) (js_one (js_if (JW.t (jw_and (jt_cmp op_eq bi_eq (JX.je (jx_var 3)) (JX.je jx_int)) (jw_one (jt_cmp op_eq bi_eq (JO.fz (jo_call (takes_of rfl rfl rfl rfl) ((ok__law_draw T).cal hr (by decide) T.g__law_draw) (ja_cons (je_var 0) (ja_cons (JX.je jx_int) ja_nil)))) (JX.je jx_int)) .And))) (js_one (js_setO 4 sc__law_spins.nd (jo_call (takes_of rfl rfl rfl rfl) ((ok__law_mixed T).cal hr (by decide) T.g__law_mixed) (ja_cons (je_var 0) (ja_cons (JO.fz (jo_lst (ja_cons (JO.fz (jo_lstX (jxs_cons jx_int (jxs_cons jx_int (jxs_cons jx_int (jxs_cons jx_int jxs_nil)))))) (ja_cons (JO.fz (jo_lstX (jxs_cons jx_int (jxs_cons jx_int (jxs_cons jx_int (jxs_cons jx_int jxs_nil)))))) (ja_cons (JO.fz (jo_lstX (jxs_cons jx_int (jxs_cons jx_int (jxs_cons jx_int (jxs_cons jx_int jxs_nil)))))) (ja_cons (JO.fz (jo_lstX (jxs_cons jx_int (jxs_cons jx_int (jxs_cons jx_int (jxs_cons jx_int jxs_nil)))))) ja_nil)))))) ja_nil))))) js_nil))) (js_cons (js_setO 6 sc__law_spins.nd (jo_lstX jxs_nil)) (js_cons (js_for (passes_of rfl) rfl (ji_rng1 T.f_range (ja_cons (JX.je jx_int) ja_nil)) (jg_name 7 sc__law_spins.nd) (js_one (js_for (passes_of rfl) rfl (ji_rng1 T.f_range (ja_cons (JX.je (jx_var 3)) ja_nil)) (jg_name 5 sc__law_spins.nd) (js_one (js_expr (je_app 6 (h := (JE.o (JO.fz (jo_lc (own := [("r", 8)]) rfl sc__law_spins.nd (ji_rng1 T.f_range (ja_cons (JX.je (jx_var 3)) ja_nil)) (show BlkOk N__law_spins (defScope H.s__law_spins) _ _ from ⟨rfl, by decide +kernel, by decide +kernel, by decide +kernel, by decide +kernel⟩) (fun _ _ _ _ _ => (jg_name 8 sc__law_spins.nd)) (fun _ _ _ _ _ => jts_nil) (fun _ _ _ _ _ => (JE.o (JX.je (jx_op op_add bi_add (JX.r (jx_op op_mul bi_mul (JX.r (jx_op op_mod bi_mod (JX.r (jx_callT call_int1 cd_int T.f_int boot_int (jrs_cons (JX.r (jx_op op_add bi_add (jr_var 7) (JX.r (jx_ix ix_seq bi_ix (JP.jr (jp_ix (jp_var 4) (jr_var 5))) (jr_var 8))))) jrs_nil))) (JX.r jx_int))) (jr_var 3))) (jr_var 8))))))))))))))) (js_one (js_ret (JO.fz (jo_call (takes_of rfl rfl rfl rfl) ((ok__law_turned T).cal hr (by decide) T.g__law_turned) (ja_cons (je_var 0) (ja_cons (JX.je (jx_var 2)) (ja_cons (je_var 6) ja_nil))))))))))))))))
theorem ok__law_spins (T : H.Env K mg) : Got P w K mg base 11 (H.a__law_spins K) ["bag", "wide"] (f__law_spins K) := by
  obtain ⟨fd, Fd⟩ := T.F__law_spins
  exact ⟨fd, fo__law_spins T Fd, Fd.kp, Fd.bindsN fun _ _ _ _ _ _ us hl => match us, hl with | [_, _], _ => rfl⟩
theorem sc__law_any : FnScope N__law_any ["bag"] (defScope H.s__law_any) := ⟨rfl, rfl, rfl, by decide +kernel, rfl, by decide +kernel, by decide +kernel⟩
theorem fo__law_any (T : H.Env K mg) {fd : FuncData} (Fd : FunD K "_law_any" "_law_any" (defArgs H.s__law_any) (defBody H.s__law_any) (defScope H.s__law_any) [] [] (H.a__law_any K) fd) : FnOk P w K mg base (L2.CX P w) 13 (H.a__law_any K) fd ["bag"] (spF K (f__law_any K)) :=
  fnF Fd sc__law_any (fun cdv A outer s _ E hr => (js_cons (js_set 1 sc__law_any.nd (JO.fz (jo_call (takes_of rfl rfl rfl rfl) ((ok__law_draw T).cal hr (by decide) T.g__law_draw) (ja_cons (je_var 0) (ja_cons (JX.je jx_int) ja_nil))))) (js_cons (js_if (jt_cmp op_lt bi_cmp (JX.je (jx_var 1)) (JX.je jx_int)) (js_one (js_ret (JO.fz (jo_call (takes_of rfl rfl rfl rfl) ((ok__law_rows T).cal hr (by decide) T.g__law_rows) (ja_cons (je_var 0) ja_nil))))) js_nil) (js_cons (js_if (jt_cmp op_lt bi_cmp (JX.je (jx_var 1)) (JX.je jx_int)) (js_one (js_ret (JO.fz (jo_call (takes_of rfl rfl rfl rfl) ((ok__law_floors T).cal hr (by decide) T.g__law_floors) (ja_cons (je_var 0) ja_nil))))) js_nil) (js_one (js_ret (JO.fz (jo_call (takes_of rfl rfl rfl rfl) ((ok__law_spins T).cal hr (by decide) T.g__law_spins) (ja_cons (je_var 0) (ja_cons (JX.je jx_bl) ja_nil))))))))))
theorem ok__law_any (T : H.Env K mg) : Got P w K mg base 13 (H.a__law_any K) ["bag"] (f__law_any K) := by
  obtain ⟨fd, Fd⟩ := T.F__law_any
  exact ⟨fd, fo__law_any T Fd, Fd.kp, Fd.bindsN fun _ _ _ _ _ _ us hl => match us, hl with | [_], _ => rfl⟩
theorem sc__law_tier : FnScope N__law_tier ["own", "k"] (defScope H.s__law_tier) := ⟨rfl, rfl, rfl, by decide +kernel, rfl, by decide +kernel, by decide +kernel⟩
theorem fo__law_tier (T : H.Env K mg) {fd : FuncData} (Fd : FunD K "_law_tier" "_law_tier" (defArgs H.s__law_tier) (defBody H.s__law_tier) (defScope H.s__law_tier) [] [] (H.a__law_tier K) fd) : FnOk P w K mg base (L2.CX P w) 1 (H.a__law_tier K) fd ["own", "k"] (spF K (f__law_tier K)) :=
  fnF Fd sc__law_tier (fun cdv A outer s _ E hr => (js_cons (js_set 2 sc__law_tier.nd (JO.fz (jo_lc (own := [("item", 5)]) rfl sc__law_tier.nd (ji_lst (JX.je (jx_ix ix_seq bi_ix (JX.r (jx_ix ix_seq bi_ix (jr_var 0) (JX.r jx_int))) (jr_var 1)))) (show BlkOk N__law_tier (defScope H.s__law_tier) _ _ from ⟨rfl, by decide +kernel, by decide +kernel, by decide +kernel, by decide +kernel⟩) (fun _ _ _ _ _ => (jg_name 5 sc__law_tier.nd)) (fun _ _ _ _ _ => jts_nil) (fun _ _ _ _ _ => (JE.o (JX.je (jx_ix ix_seq bi_ix (JX.r (jx_ix ix_seq bi_ix (jr_var 0) (JX.r jx_int))) (jr_var 5)))))))) (js_cons (js_set 3 sc__law_tier.nd (JX.je (jx_ix ix_seq bi_ix (JX.r (jx_ix ix_seq bi_ix (jr_var 0) (JX.r jx_int))) (JX.r jx_int)))) (js_cons (JS.fz (js_setLc 4 (own := [("at", 6)]) rfl sc__law_tier.nd (ji_rng3 T.f_range (ja_cons (JX.je jx_int) (ja_cons (JX.je (jx_callB call_len cd_len T.f_len boot_len (jrs_cons (jr_var 2) jrs_nil))) (ja_cons (JX.je (jx_var 3)) ja_nil)))) (show BlkOk N__law_tier (defScope H.s__law_tier) _ _ from ⟨rfl, by decide +kernel, by decide +kernel, by decide +kernel, by decide +kernel⟩) (fun _ _ _ _ _ => (jg_name 6 sc__law_tier.nd)) (fun _ _ _ _ _ => jts_nil) (fun _ _ _ _ _ => (JE.o (je_bm F.plainAttrs_str F.slot_str_join F.type_str_join mt_join md_join (JX.je jx_str) (ja_cons (JO.fz (jo_sl (jr_var 2) (jpt_some (jr_var 6)) (jpt_some (JX.r (jx_op op_add bi_add (jr_var 6) (jr_var 3)))))) ja_nil)))) rfl)) (js_one (js_ret (JX.je (jx_op op_add_str bi_addS (JX.r (jx_op op_add_str bi_addS (JX.r (jx_ix ix_seq bi_ix (JX.r (jx_ix ix_seq bi_ix (jr_var 0) (JX.r jx_int))) (jr_var 1))) (JX.r jx_str))) (JX.r (jx_bm F.plainAttrs_str F.slot_str_join F.type_str_join mt_join md_join (JX.r jx_str) (jrs_cons (jr_var 4) jrs_nil)))))))))))
theorem ok__law_tier (T : H.Env K mg) : Got P w K mg base 1 (H.a__law_tier K) ["own", "k"] (f__law_tier K) := by
  obtain ⟨fd, Fd⟩ := T.F__law_tier
  exact ⟨fd, fo__law_tier T Fd, Fd.kp, Fd.bindsN fun _ _ _ _ _ _ us hl => match us, hl with | [_, _], _ => rfl⟩
theorem sc__law_tiers : FnScope N__law_tiers ["own"] (defScope H.s__law_tiers) := ⟨rfl, rfl, rfl, by decide +kernel, rfl, by decide +kernel, by decide +kernel⟩
theorem fo__law_tiers (T : H.Env K mg) {fd : FuncData} (Fd : FunD K "_law_tiers" "_law_tiers" (defArgs H.s__law_tiers) (defBody H.s__law_tiers) (defScope H.s__law_tiers) [] [] (H.a__law_tiers K) fd) : FnOk P w K mg base (L2.CX P w) 3 (H.a__law_tiers K) fd ["own"] (spF K (f__law_tiers K)) :=
  fnF Fd sc__law_tiers (fun cdv A outer s _ E hr => (js_cons (js_set 1 sc__law_tiers.nd (JO.fz (jo_lst (ja_cons (JX.je jx_str) (ja_cons (JX.je (jx_op op_add_str bi_addS (JX.r jx_str) (JX.r (jx_bm F.plainAttrs_str F.slot_str_join F.type_str_join mt_join md_join (JX.r jx_str) (jrs_cons (JX.r (jx_ix ix_seq bi_ix (jr_var 0) (JX.r jx_int))) jrs_nil))))) (ja_cons (je_op op_add_str bi_addS (JX.je jx_str) (je_bm F.plainAttrs_str F.slot_str_join F.type_str_join mt_join md_join (JX.je jx_str) (ja_cons (JO.fz (jo_lc (own := [("side", 2)]) rfl sc__law_tiers.nd (ji_tup (JX.je (jx_ix ix_seq bi_ix (jr_var 0) (JX.r jx_int)))) (show BlkOk N__law_tiers (defScope H.s__law_tiers) _ _ from ⟨rfl, by decide +kernel, by decide +kernel, by decide +kernel, by decide +kernel⟩) (fun _ _ _ _ _ => (jg_name 2 sc__law_tiers.nd)) (fun _ _ _ _ _ => jts_nil) (fun _ _ _ _ _ => (JE.o (JX.je (jx_callT call_str_int cd_strI T.f_str boot_str (jrs_cons (jr_var 2) jrs_nil))))))) ja_nil))) ja_nil)))))) (js_one (js_ret (JO.fz (jo_op op_cat bo_cat (JO.fz (jo_op op_cat bo_cat (JX.je (jx_var 1)) (JO.fz (jo_lc (own := [("k", 3)]) rfl sc__law_tiers.nd (ji_rng1 T.f_range (ja_cons (JX.je (jx_callB call_len cd_len T.f_len boot_len (jrs_cons (JX.r (jx_ix ix_seq bi_ix (jr_var 0) (JX.r jx_int))) jrs_nil))) ja_nil)) (show BlkOk N__law_tiers (defScope H.s__law_tiers) _ _ from ⟨rfl, by decide +kernel, by decide +kernel, by decide +kernel, by decide +kernel⟩) (fun _ _ _ _ _ => (jg_name 3 sc__law_tiers.nd)) (fun _ _ _ _ _ => jts_nil) (fun _ _ _ _ _ => (JE.o (JO.fz (jo_call takes_none5 ((ok__law_tier T).cal hr (by decide) T.g__law_tier) (ja_cons (JX.je (jx_var 0)) (ja_cons (JX.je (jx_var 3)) ja_nil)))))))))) (JO.fz (jo_lstX (jxs_cons jx_str jxs_nil)))))))))
theorem ok__law_tiers (T : H.Env K mg) : Got P w K mg base 3 (H.a__law_tiers K) ["own"] (f__law_tiers K) := by
  obtain ⟨fd, Fd⟩ := T.F__law_tiers
  exact ⟨fd, fo__law_tiers T Fd, Fd.kp, Fd.bindsN fun _ _ _ _ _ _ us hl => match us, hl with | [_], _ => rfl⟩
theorem sc__law_page : FnScope N__law_page ["own"] (defScope H.s__law_page) := ⟨rfl, rfl, rfl, by decide +kernel, rfl, by decide +kernel, by decide +kernel⟩
theorem fo__law_page (T : H.Env K mg) {fd : FuncData} (Fd : FunD K "_law_page" "_law_page" (defArgs H.s__law_page) (defBody H.s__law_page) (defScope H.s__law_page) [] [] (H.a__law_page K) fd) : FnOk P w K mg base (L2.CX P w) 5 (H.a__law_page K) fd ["own"] (spF K (f__law_page K)) :=
  fnF Fd sc__law_page (fun cdv A outer s _ E hr => (js_one (js_ret (je_bm F.plainAttrs_str F.slot_str_join F.type_str_join mt_join md_join (JX.je jx_str) (ja_cons (JO.fz (jo_op op_cat bo_cat (JO.fz (jo_call (takes_of rfl rfl rfl rfl) ((ok__law_tiers T).cal hr (by decide) T.g__law_tiers) (ja_cons (JX.je (jx_var 0)) ja_nil))) (JO.fz (jo_lstX (jxs_cons jx_str jxs_nil))))) ja_nil)))))
theorem ok__law_page (T : H.Env K mg) : Got P w K mg base 5 (H.a__law_page K) ["own"] (f__law_page K) := by
  obtain ⟨fd, Fd⟩ := T.F__law_page
  exact ⟨fd, fo__law_page T Fd, Fd.kp, Fd.bindsN fun _ _ _ _ _ _ us hl => match us, hl with | [_], _ => rfl⟩
theorem sc__law_bricks : FnScope N__law_bricks ["own"] (defScope H.s__law_bricks) := ⟨rfl, rfl, rfl, by decide +kernel, rfl, by decide +kernel, by decide +kernel⟩
theorem fo__law_bricks (T : H.Env K mg) {fd : FuncData} (Fd : FunD K "_law_bricks" "_law_bricks" (defArgs H.s__law_bricks) (defBody H.s__law_bricks) (defScope H.s__law_bricks) [] [] (H.a__law_bricks K) fd) : FnOk P w K mg base (L2.CX P w) 1 (H.a__law_bricks K) fd ["own"] (spF K (f__law_bricks K)) :=
  fnF Fd sc__law_bricks (fun cdv A outer s _ E hr => (js_cons (js_setO 1 sc__law_bricks.nd (jo_lstX jxs_nil)) (js_cons (js_for (passes_of rfl) rfl (ji_lst (JX.je (jx_ix ix_seq bi_ix (jr_var 0) (JX.r jx_int)))) (jg_name 2 sc__law_bricks.nd) (js_one (js_expr (je_app 1 (h := (JE.o (JO.fz (jo_lc (own := [("item", 3)]) rfl sc__law_bricks.nd (ji_lst (JX.je (jx_var 2))) (show BlkOk N__law_bricks (defScope H.s__law_bricks) _ _ from ⟨rfl, by decide +kernel, by decide +kernel, by decide +kernel, by decide +kernel⟩) (fun _ _ _ _ _ => (jg_name 3 sc__law_bricks.nd)) (fun _ _ _ _ _ => jts_nil) (fun _ _ _ _ _ => (JE.o (JX.je (jx_ix ix_seq bi_ix (JX.r (jx_ix ix_seq bi_ix (jr_var 0) (JX.r jx_int))) (jr_var 3))))))))))))) (js_one (js_retS 1)))))
theorem ok__law_bricks (T : H.Env K mg) : Got P w K mg base 1 (H.a__law_bricks K) ["own"] (f__law_bricks K) := by
  obtain ⟨fd, Fd⟩ := T.F__law_bricks
  exact ⟨fd, fo__law_bricks T Fd, Fd.kp, Fd.bindsN fun _ _ _ _ _ _ us hl => match us, hl with | [_], _ => rfl⟩
theorem sc__law_made : FnScope N__law_made ["bag", "own"] (defScope H.s__law_made) := ⟨rfl, rfl, rfl, by decide +kernel, rfl, by decide +kernel, by decide +kernel⟩
theorem fo__law_made (T : H.Env K mg) {fd : FuncData} (Fd : FunD K "_law_made" "_law_made" (defArgs H.s__law_made) (defBody H.s__law_made) (defScope H.s__law_made) [] [] (H.a__law_made K) fd) : FnOk P w K mg base (L2.CX P w) 17 (H.a__law_made K) fd ["bag", "own"] (spF K (f__law_made K)) :=
  fnF Fd sc__law_made (fun cdv A outer s _ E hr => (js_cons (js_if (jt_cmp op_eq bi_eq (JO.fz (jo_call (takes_of rfl rfl rfl rfl) ((ok__law_draw T).cal hr (by decide) T.g__law_draw) (ja_cons (je_var 0) (ja_cons (JX.je jx_int) ja_nil)))) (JX.je jx_int)) (js_one (js_retO (jo_mk (takes_of rfl rfl rfl rfl) ((ok_Rule___init__ T).calN hr (by decide) T.g_Rule T.k_Rule) (ja_cons (JO.fz (jo_call (takes_of rfl rfl rfl rfl) ((ok__law_page T).cal hr (by decide) T.g__law_page) (ja_cons (JX.je (jx_var 1)) ja_nil))) ja_nil)))) js_nil) (js_one (js_retO (jo_stat (takes_of rfl rfl rfl rfl) ((ok_Rule_of T).calS hr (by decide) T.t_Rule_of T.g_Rule) (ja_cons (JX.je (jx_ix ix_seq bi_ix (jr_var 1) (JX.r jx_int))) (ja_cons (JO.fz (jo_callTR call_list_of co_list T.f_list boot_list (jrs_cons (JX.r (jx_ix ix_seq bi_ix (jr_var 1) (JX.r jx_int))) jrs_nil))) (ja_cons (JO.fz (jo_call (takes_of rfl rfl rfl rfl) ((ok__law_bricks T).cal hr (by decide) T.g__law_bricks) (ja_cons (JX.je (jx_var 1)) ja_nil))) ja_nil))))))))
theorem ok__law_made (T : H.Env K mg) : Got P w K mg base 17 (H.a__law_made K) ["bag", "own"] (f__law_made K) := by
  obtain ⟨fd, Fd⟩ := T.F__law_made
  exact ⟨fd, fo__law_made T Fd, Fd.kp, Fd.bindsN fun _ _ _ _ _ _ us hl => match us, hl with | [_, _], _ => rfl⟩
theorem sc__law_up : FnScope N__law_up ["own", "counts"] (defScope H.s__law_up) := ⟨rfl, rfl, rfl, by decide +kernel, rfl, by decide +kernel, by decide +kernel⟩
theorem fo__law_up (T : H.Env K mg) {fd : FuncData} (Fd : FunD K "_law_up" "_law_up" (defArgs H.s__law_up) (defBody H.s__law_up) (defScope H.s__law_up) [] [] (H.a__law_up K) fd) : FnOk P w K mg base (L2.CX P w) 1 (H.a__law_up K) fd ["own", "counts"] (spF K (f__law_up K)) :=
  fnF Fd sc__law_up (fun cdv A outer s _ E hr => (js_cons (js_setLc 2 (own := [("k", 3)]) rfl sc__law_up.nd (ji_rng1 T.f_range (ja_cons (JX.je (jx_callB call_len cd_len T.f_len boot_len (jrs_cons (jr_var 1) jrs_nil))) ja_nil)) (show BlkOk N__law_up (defScope H.s__law_up) _ _ from ⟨rfl, by decide +kernel, by decide +kernel, by decide +kernel, by decide +kernel⟩) (fun _ _ _ _ _ => (jg_name 3 sc__law_up.nd)) (fun _ _ _ _ _ => jts_nil) (fun _ _ _ _ _ => (JE.o (JX.je jx_int))) rfl) (js_cons (js_for (passes_of rfl) rfl (ji_rng1 T.f_range (ja_cons (JX.je (jx_callB call_len cd_len T.f_len boot_len (jrs_cons (jr_var 1) jrs_nil))) ja_nil)) (jg_name 3 sc__law_up.nd) (js_one (js_for (passes_of rfl) rfl (ji_lst (JX.je (jx_ix ix_seq bi_ix (JX.r (jx_ix ix_seq bi_ix (jr_var 0) (JX.r jx_int))) (jr_var 3)))) (jg_name 4 sc__law_up.nd) (js_one (js_setI (JE.o (JX.je (jx_op op_add bi_add (JP.jr (jp_ix (jp_var 2) (jr_var 4))) (JX.r (jx_ix ix_seq bi_ix (jr_var 1) (jr_var 3)))))) (jp_var 2) (jr_var 4)))))) (js_one (js_retS 2)))))
theorem ok__law_up (T : H.Env K mg) : Got P w K mg base 1 (H.a__law_up K) ["own", "counts"] (f__law_up K) := by
  obtain ⟨fd, Fd⟩ := T.F__law_up
  exact ⟨fd, fo__law_up T Fd, Fd.kp, Fd.bindsN fun _ _ _ _ _ _ us hl => match us, hl with | [_, _], _ => rfl⟩
theorem sc__law_counted : FnScope N__law_counted ["own", "k", "high"] (defScope H.s__law_counted) := ⟨rfl, rfl, rfl, by decide +kernel, rfl, by decide +kernel, by decide +kernel⟩
theorem fo__law_counted (T : H.Env K mg) {fd : FuncData} (Fd : FunD K "_law_counted" "_law_counted" (defArgs H.s__law_counted) (defBody H.s__law_counted) (defScope H.s__law_counted) [] [] (H.a__law_counted K) fd) : FnOk P w K mg base (L2.CX P w) 3 (H.a__law_counted K) fd ["own", "k", "high"] (spF K (f__law_counted K)) :=
  fnF Fd sc__law_counted (fun cdv A outer s _ E hr => (js_cons (js_set 3 sc__law_counted.nd (JO.fz (jo_lc (own := [("j", 5)]) rfl sc__law_counted.nd (ji_rng1 T.f_range (ja_cons (JX.je (jx_callB call_len cd_len T.f_len boot_len (jrs_cons (JX.r (jx_ix ix_seq bi_ix (jr_var 0) (JX.r jx_int))) jrs_nil))) ja_nil)) (show BlkOk N__law_counted (defScope H.s__law_counted) _ _ from ⟨rfl, by decide +kernel, by decide +kernel, by decide +kernel, by decide +kernel⟩) (fun _ _ _ _ _ => (jg_name 5 sc__law_counted.nd)) (fun _ _ _ _ _ => jts_nil) (fun _ _ _ _ _ => (JE.o (JX.je (jx_callT call_int1 cd_int T.f_int boot_int (jrs_cons (JX.r (jx_cmp op_eq bi_eq (jr_var 5) (jr_var 1))) jrs_nil)))))))) (js_cons (js_for (passes_of rfl) rfl (ji_rng1 T.f_range (ja_cons (JX.je (jx_var 2)) ja_nil)) (jg_name 4 sc__law_counted.nd) (js_one (js_set 3 sc__law_counted.nd (JO.fz (jo_call (takes_of rfl rfl rfl rfl) ((ok__law_up T).cal hr (by decide) T.g__law_up) (ja_cons (JX.je (jx_var 0)) (ja_cons (JX.je (jx_var 3)) ja_nil))))))) (js_one (js_ret (JO.fz (jo_lc (own := [("j", 5)]) rfl sc__law_counted.nd (ji_rng1 T.f_range (ja_cons (JX.je (jx_callB call_len cd_len T.f_len boot_len (jrs_cons (jr_var 3) jrs_nil))) ja_nil)) (show BlkOk N__law_counted (defScope H.s__law_counted) _ _ from ⟨rfl, by decide +kernel, by decide +kernel, by decide +kernel, by decide +kernel⟩) (fun _ _ _ _ _ => (jg_name 5 sc__law_counted.nd)) (fun _ _ _ _ _ => jts_nil) (fun _ _ _ _ _ => (JE.o (JX.je (jx_tup (jxs_cons (jx_ix ix_seq bi_ix (JX.r (jx_ix ix_seq bi_ix (jr_var 0) (JX.r jx_int))) (jr_var 5)) (jxs_cons (jx_ix ix_seq bi_ix (jr_var 3) (jr_var 5)) jxs_nil)))))))))))))
theorem ok__law_counted (T : H.Env K mg) : Got P w K mg base 3 (H.a__law_counted K) ["own", "k", "high"] (f__law_counted K) := by
  obtain ⟨fd, Fd⟩ := T.F__law_counted
  exact ⟨fd, fo__law_counted T Fd, Fd.kp, Fd.bindsN fun _ _ _ _ _ _ us hl => match us, hl with | [_, _, _], _ => rfl⟩
theorem sc__law_area : FnScope N__law_area ["own", "high"] (defScope H.s__law_area) := ⟨rfl, rfl, rfl, by decide +kernel, rfl, by decide +kernel, by decide +kernel⟩
theorem fo__law_area (T : H.Env K mg) {fd : FuncData} (Fd : FunD K "_law_area" "_law_area" (defArgs H.s__law_area) (defBody H.s__law_area) (defScope H.s__law_area) [] [] (H.a__law_area K) fd) : FnOk P w K mg base (L2.CX P w) 1 (H.a__law_area K) fd ["own", "high"] (spF K (f__law_area K)) :=
  fnF Fd sc__law_area (fun cdv A outer s _ E hr => (js_cons (js_set 2 sc__law_area.nd (JX.je jx_int)) (js_cons (js_for (passes_of rfl) rfl (ji_rng1 T.f_range (ja_cons (JX.je (jx_var 1)) ja_nil)) (jg_name 3 sc__law_area.nd) (js_one (js_set 2 sc__law_area.nd (JX.je (jx_op op_mul bi_mul (jr_var 2) (JX.r (jx_callB call_len cd_len T.f_len boot_len (jrs_cons (JX.r (jx_ix ix_seq bi_ix (JX.r (jx_ix ix_seq bi_ix (jr_var 0) (JX.r jx_int))) (JX.r jx_int))) jrs_nil)))))))) (js_one (js_ret (JX.je (jx_var 2)))))))
theorem ok__law_area (T : H.Env K mg) : Got P w K mg base 1 (H.a__law_area K) ["own", "high"] (f__law_area K) := by
  obtain ⟨fd, Fd⟩ := T.F__law_area
  exact ⟨fd, fo__law_area T Fd, Fd.kp, Fd.bindsN fun _ _ _ _ _ _ us hl => match us, hl with | [_, _], _ => rfl⟩
theorem sc__law_shape : FnScope N__law_shape ["bag"] (defScope H.s__law_shape) := ⟨rfl, rfl, rfl, by decide +kernel, rfl, by decide +kernel, by decide +kernel⟩
theorem fo__law_shape (T : H.Env K mg) {fd : FuncData} (Fd : FunD K "_law_shape" "_law_shape" (defArgs H.s__law_shape) (defBody H.s__law_shape) (defScope H.s__law_shape) [] [] (H.a__law_shape K) fd) : FnOk P w K mg base (L2.CX P w) 15 (H.a__law_shape K) fd ["bag"] (spF K (f__law_shape K)) :=
  fnF Fd sc__law_shape (fun cdv A outer s _ E hr => (js_cons (js_set 1 sc__law_shape.nd (JO.fz (jo_call (takes_of rfl rfl rfl rfl) ((ok__law_draw T).cal hr (by decide) T.g__law_draw) (ja_cons (je_var 0) (ja_cons (JX.je jx_int) ja_nil))))) (js_cons (js_if (jt_cmp op_lt bi_cmp (JX.je (jx_var 1)) (JX.je jx_int)) (js_one (js_ret (JO.fz (jo_call (takes_of rfl rfl rfl rfl) ((ok__law_any T).cal hr (by decide) T.g__law_any) (ja_cons (je_var 0) ja_nil))))) js_nil) (js_cons (js_if (jt_cmp op_eq bi_eq (JX.je (jx_var 1)) (JX.je jx_int)) (js_one (js_ret (JO.fz (jo_call (takes_of rfl rfl rfl rfl) ((ok__law_drawn T).cal hr (by decide) T.g__law_drawn) (ja_cons (je_var 0) (ja_cons (JO.fz (jo_call (takes_of rfl rfl rfl rfl) ((ok__law_of T).cal hr (by decide) T.g__law_of) (ja_cons (je_var 0) (ja_cons (JO.fz (jo_lstX (jxs_cons (jx_tup (jxs_cons jx_int jxs_nil)) (jxs_cons (jx_tup (jxs_cons jx_int jxs_nil)) (jxs_cons (jx_tup (jxs_cons jx_int (jxs_cons jx_int jxs_nil))) (jxs_cons (jx_tup (jxs_cons jx_int jxs_nil)) (jxs_cons (jx_tup (jxs_cons jx_int (jxs_cons jx_int jxs_nil))) jxs_nil))))))) ja_nil)))) (ja_cons (je_op op_add bi_add (JX.je jx_int) (JO.fz (jo_call (takes_of rfl rfl rfl rfl) ((ok__law_draw T).cal hr (by decide) T.g__law_draw) (ja_cons (je_var 0) (ja_cons (JX.je jx_int) ja_nil))))) ja_nil))))))) js_nil) (js_cons (js_setO 2 sc__law_shape.nd (jo_lstX jxs_nil)) (js_cons (js_set 3 sc__law_shape.nd (je_op op_add bi_add (JX.je jx_int) (JO.fz (jo_call (takes_of rfl rfl rfl rfl) ((ok__law_draw T).cal hr (by decide) T.g__law_draw) (ja_cons (je_var 0) (ja_cons (JX.je jx_int) ja_nil)))))) (js_cons (js_set 4 sc__law_shape.nd (JO.fz (jo_call (takes_of rfl rfl rfl rfl) ((ok__law_of T).cal hr (by decide) T.g__law_of) (ja_cons (je_var 0) (ja_cons (JO.fz (jo_lstX (jxs_cons (jx_tup (jxs_cons jx_int jxs_nil)) (jxs_cons (jx_tup (jxs_cons jx_int jxs_nil)) (jxs_cons (jx_tup (jxs_cons jx_int jxs_nil)) (jxs_cons (jx_tup (jxs_cons jx_int (jxs_cons jx_int jxs_nil))) jxs_nil)))))) ja_nil))))) (js_cons (js_for (passes_of rfl) rfl (ji_rng1 T.f_range (ja_cons (JX.je (jx_var 3)) ja_nil)) (jg_name 5 sc__law_shape.nd) (js_one (js_expr (je_app 2 (h := (JE.o (JO.fz (jo_lc (own := [("cell", 6)]) rfl sc__law_shape.nd (ji_lst (JO.fz (jo_call (takes_of rfl rfl rfl rfl) ((ok__law_cells T).cal hr (by decide) T.g__law_cells) (ja_cons (JX.je (jx_var 4)) ja_nil)))) (show BlkOk N__law_shape (defScope H.s__law_shape) _ _ from ⟨rfl, by decide +kernel, by decide +kernel, by decide +kernel, by decide +kernel⟩) (fun _ _ _ _ _ => (jg_name 6 sc__law_shape.nd)) (fun _ _ _ _ _ => jts_nil) (fun _ _ _ _ _ => (JE.o (je_op op_mod bi_mod (je_callT call_int1 cd_int T.f_int boot_int (ja_cons (je_op op_add bi_add (JX.je (jx_var 5)) (JO.fz (jo_call takes_none5 ((ok__law_draw T).cal hr (by decide) T.g__law_draw) (ja_cons (je_var 0) (ja_cons (JX.je jx_int) ja_nil))))) ja_nil)) (JX.je (jx_var 3))))))))))))) (js_one (js_ret (JO.fz (jo_call (takes_of rfl rfl rfl rfl) ((ok__law_turned T).cal hr (by decide) T.g__law_turned) (ja_cons (je_var 0) (ja_cons (JX.je (jx_var 4)) (ja_cons (je_var 2) ja_nil)))))))))))))))
theorem ok__law_shape (T : H.Env K mg) : Got P w K mg base 15 (H.a__law_shape K) ["bag"] (f__law_shape K) := by
  obtain ⟨fd, Fd⟩ := T.F__law_shape
  exact ⟨fd, fo__law_shape T Fd, Fd.kp, Fd.bindsN fun _ _ _ _ _ _ us hl => match us, hl with | [_], _ => rfl⟩
theorem sc__law_like_0 : FnScope N__law_like_0 ["told", "due"] (defScope H.s__law_like) := ⟨rfl, rfl, rfl, by decide +kernel, rfl, by decide +kernel, by decide +kernel⟩
theorem fo__law_like_0 (T : H.Env K mg) {fd : FuncData} (Fd : FunD K "_law_like" "_law_like" (defArgs H.s__law_like) (defBody H.s__law_like) (defScope H.s__law_like) [] [] (H.a__law_like K) fd) : FnOk P w K mg base (L2.CX P w) 1 (H.a__law_like K) fd ["told", "due"] (spF K (f__law_like_0 K)) :=
  fnF Fd sc__law_like_0 (fun cdv A outer s _ E hr => (js_cons (js_if (jt_val (JX.je (jx_isi "bool" (by decide) T.f_isinstance T.f_bool boot_bool (jr_var 1)))) (js_one (js_ret (je_and (JX.je (jx_isi "bool" (by decide) T.f_isinstance T.f_bool boot_bool (jr_var 0))) (je_one (JX.je (jx_cmp op_eq bi_eq (jr_var 0) (jr_var 1))) .And)))) js_nil) (js_cons (js_if (jt_val (JX.je (jx_isi "int" (by decide) T.f_isinstance T.f_int boot_int (jr_var 1)))) (js_one (js_ret (je_and (JX.je (jx_isi "int" (by decide) T.f_isinstance T.f_int boot_int (jr_var 0))) (je_and (je_not (JX.je (jx_isi "bool" (by decide) T.f_isinstance T.f_bool boot_bool (jr_var 0)))) (je_one (JX.je (jx_cmp op_eq bi_eq (jr_var 0) (jr_var 1))) .And))))) js_nil) (js_cons (js_if (jt_val (JX.je (jx_isi "str" (by decide) T.f_isinstance T.f_str boot_str (jr_var 1)))) (js_one (js_ret (je_and (JX.je (jx_isi "str" (by decide) T.f_isinstance T.f_str boot_str (jr_var 0))) (je_one (JX.je (jx_cmp op_eq bi_eq (jr_var 0) (jr_var 1))) .And)))) js_nil) (js_cons (js_if (JW.t (jw_or (jt_val (JX.je (jx_isi "list" (by decide) T.f_isinstance T.f_list boot_list (jr_var 1)))) (jw_one (jt_val (JX.je (jx_isi "tuple" (by decide) T.f_isinstance T.f_tuple boot_tuple (jr_var 1)))) .Or))) (js_cons (js_if (JW.t (jw_or (jt_cmp op_ne bi_ne (JX.je (jx_isi "list" (by decide) T.f_isinstance T.f_list boot_list (jr_var 0))) (JX.je (jx_isi "list" (by decide) T.f_isinstance T.f_list boot_list (jr_var 1)))) (jw_one (jt_cmp op_ne bi_ne (JX.je (jx_isi "tuple" (by decide) T.f_isinstance T.f_tuple boot_tuple (jr_var 0))) (JX.je (jx_isi "tuple" (by decide) T.f_isinstance T.f_tuple boot_tuple (jr_var 1)))) .Or))) (js_one (js_ret (JX.je jx_bl))) js_nil) (js_cons (js_if (jt_cmp op_ne bi_ne (JX.je (jx_callB call_len cd_len T.f_len boot_len (jrs_cons (jr_var 0) jrs_nil))) (JX.je (jx_callB call_len cd_len T.f_len boot_len (jrs_cons (jr_var 1) jrs_nil)))) (js_one (js_ret (JX.je jx_bl))) js_nil) (js_cons js_never (js_one (js_ret (JX.je jx_bl)))))) js_nil) (js_cons (js_if (jt_val (JX.je (jx_isi "dict" (by decide) T.f_isinstance T.f_dict boot_dict (jr_var 1)))) (js_one (js_ret (je_and (JX.je (jx_isi "dict" (by decide) T.f_isinstance T.f_dict boot_dict (jr_var 0))) (je_one (JX.je (jx_cmp op_eq bi_eq (jr_var 0) (jr_var 1))) .And)))) js_nil) (js_one (js_ret (je_and (JX.je (jx_cmp op_isN bi_isN (jr_var 1) (JX.r jx_non))) (je_one (JX.je (jx_cmp op_isN bi_isN (jr_var 0) (JX.r jx_non))) .And))))))))))
theorem ok__law_like_0 (T : H.Env K mg) : Got P w K mg base 1 (H.a__law_like K) ["told", "due"] (f__law_like_0 K) := by
  obtain ⟨fd, Fd⟩ := T.F__law_like
  exact ⟨fd, fo__law_like_0 T Fd, Fd.kp, Fd.bindsN fun _ _ _ _ _ _ us hl => match us, hl with | [_, _], _ => rfl⟩
theorem sc__law_like_1 : FnScope N__law_like_1 ["told", "due"] (defScope H.s__law_like) := ⟨rfl, rfl, rfl, by decide +kernel, rfl, by decide +kernel, by decide +kernel⟩
theorem fo__law_like_1 (T : H.Env K mg) {fd : FuncData} (Fd : FunD K "_law_like" "_law_like" (defArgs H.s__law_like) (defBody H.s__law_like) (defScope H.s__law_like) [] [] (H.a__law_like K) fd) : FnOk P w K mg base (L2.CX P w) 3 (H.a__law_like K) fd ["told", "due"] (spF K (f__law_like_1 K)) :=
  fnF Fd sc__law_like_1 (fun cdv A outer s _ E hr => (js_cons (js_if (jt_val (JX.je (jx_isi "bool" (by decide) T.f_isinstance T.f_bool boot_bool (jr_var 1)))) (js_one (js_ret (je_and (JX.je (jx_isi "bool" (by decide) T.f_isinstance T.f_bool boot_bool (jr_var 0))) (je_one (JX.je (jx_cmp op_eq bi_eq (jr_var 0) (jr_var 1))) .And)))) js_nil) (js_cons (js_if (jt_val (JX.je (jx_isi "int" (by decide) T.f_isinstance T.f_int boot_int (jr_var 1)))) (js_one (js_ret (je_and (JX.je (jx_isi "int" (by decide) T.f_isinstance T.f_int boot_int (jr_var 0))) (je_and (je_not (JX.je (jx_isi "bool" (by decide) T.f_isinstance T.f_bool boot_bool (jr_var 0)))) (je_one (JX.je (jx_cmp op_eq bi_eq (jr_var 0) (jr_var 1))) .And))))) js_nil) (js_cons (js_if (jt_val (JX.je (jx_isi "str" (by decide) T.f_isinstance T.f_str boot_str (jr_var 1)))) (js_one (js_ret (je_and (JX.je (jx_isi "str" (by decide) T.f_isinstance T.f_str boot_str (jr_var 0))) (je_one (JX.je (jx_cmp op_eq bi_eq (jr_var 0) (jr_var 1))) .And)))) js_nil) (js_cons (js_if (JW.t (jw_or (jt_val (JX.je (jx_isi "list" (by decide) T.f_isinstance T.f_list boot_list (jr_var 1)))) (jw_one (jt_val (JX.je (jx_isi "tuple" (by decide) T.f_isinstance T.f_tuple boot_tuple (jr_var 1)))) .Or))) (js_cons (js_if (JW.t (jw_or (jt_cmp op_ne bi_ne (JX.je (jx_isi "list" (by decide) T.f_isinstance T.f_list boot_list (jr_var 0))) (JX.je (jx_isi "list" (by decide) T.f_isinstance T.f_list boot_list (jr_var 1)))) (jw_one (jt_cmp op_ne bi_ne (JX.je (jx_isi "tuple" (by decide) T.f_isinstance T.f_tuple boot_tuple (jr_var 0))) (JX.je (jx_isi "tuple" (by decide) T.f_isinstance T.f_tuple boot_tuple (jr_var 1)))) .Or))) (js_one (js_ret (JX.je jx_bl))) js_nil) (js_cons (js_if (jt_cmp op_ne bi_ne (JX.je (jx_callB call_len cd_len T.f_len boot_len (jrs_cons (jr_var 0) jrs_nil))) (JX.je (jx_callB call_len cd_len T.f_len boot_len (jrs_cons (jr_var 1) jrs_nil)))) (js_one (js_ret (JX.je jx_bl))) js_nil) (js_cons (js_for (passes_of rfl) rfl (ji_rng1 T.f_range (ja_cons (JX.je (jx_callB call_len cd_len T.f_len boot_len (jrs_cons (jr_var 1) jrs_nil))) ja_nil)) (jg_name 2 sc__law_like_1.nd) (js_one (js_if (jt_not (jt_val (JO.fz (jo_call (takes_of rfl rfl rfl rfl) ((ok__law_like_0 T).cal hr (by decide) T.g__law_like) (ja_cons (JX.je (jx_ix ix_seq bi_ix (jr_var 0) (jr_var 2))) (ja_cons (JX.je (jx_ix ix_seq bi_ix (jr_var 1) (jr_var 2))) ja_nil)))))) (js_one (js_ret (JX.je jx_bl))) js_nil))) (js_one (js_ret (JX.je jx_bl)))))) js_nil) (js_cons (js_if (jt_val (JX.je (jx_isi "dict" (by decide) T.f_isinstance T.f_dict boot_dict (jr_var 1)))) (js_one (js_ret (je_and (JX.je (jx_isi "dict" (by decide) T.f_isinstance T.f_dict boot_dict (jr_var 0))) (je_one (JX.je (jx_cmp op_eq bi_eq (jr_var 0) (jr_var 1))) .And)))) js_nil) (js_one (js_ret (je_and (JX.je (jx_cmp op_isN bi_isN (jr_var 1) (JX.r jx_non))) (je_one (JX.je (jx_cmp op_isN bi_isN (jr_var 0) (JX.r jx_non))) .And))))))))))
theorem ok__law_like_1 (T : H.Env K mg) : Got P w K mg base 3 (H.a__law_like K) ["told", "due"] (f__law_like_1 K) := by
  obtain ⟨fd, Fd⟩ := T.F__law_like
  exact ⟨fd, fo__law_like_1 T Fd, Fd.kp, Fd.bindsN fun _ _ _ _ _ _ us hl => match us, hl with | [_, _], _ => rfl⟩
theorem sc__law_like_2 : FnScope N__law_like_2 ["told", "due"] (defScope H.s__law_like) := ⟨rfl, rfl, rfl, by decide +kernel, rfl, by decide +kernel, by decide +kernel⟩
theorem fo__law_like_2 (T : H.Env K mg) {fd : FuncData} (Fd : FunD K "_law_like" "_law_like" (defArgs H.s__law_like) (defBody H.s__law_like) (defScope H.s__law_like) [] [] (H.a__law_like K) fd) : FnOk P w K mg base (L2.CX P w) 5 (H.a__law_like K) fd ["told", "due"] (spF K (f__law_like_2 K)) :=
  fnF Fd sc__law_like_2 (fun cdv A outer s _ E hr => (js_cons (js_if (jt_val (JX.je (jx_isi "bool" (by decide) T.f_isinstance T.f_bool boot_bool (jr_var 1)))) (js_one (js_ret (je_and (JX.je (jx_isi "bool" (by decide) T.f_isinstance T.f_bool boot_bool (jr_var 0))) (je_one (JX.je (jx_cmp op_eq bi_eq (jr_var 0) (jr_var 1))) .And)))) js_nil) (js_cons (js_if (jt_val (JX.je (jx_isi "int" (by decide) T.f_isinstance T.f_int boot_int (jr_var 1)))) (js_one (js_ret (je_and (JX.je (jx_isi "int" (by decide) T.f_isinstance T.f_int boot_int (jr_var 0))) (je_and (je_not (JX.je (jx_isi "bool" (by decide) T.f_isinstance T.f_bool boot_bool (jr_var 0)))) (je_one (JX.je (jx_cmp op_eq bi_eq (jr_var 0) (jr_var 1))) .And))))) js_nil) (js_cons (js_if (jt_val (JX.je (jx_isi "str" (by decide) T.f_isinstance T.f_str boot_str (jr_var 1)))) (js_one (js_ret (je_and (JX.je (jx_isi "str" (by decide) T.f_isinstance T.f_str boot_str (jr_var 0))) (je_one (JX.je (jx_cmp op_eq bi_eq (jr_var 0) (jr_var 1))) .And)))) js_nil) (js_cons (js_if (JW.t (jw_or (jt_val (JX.je (jx_isi "list" (by decide) T.f_isinstance T.f_list boot_list (jr_var 1)))) (jw_one (jt_val (JX.je (jx_isi "tuple" (by decide) T.f_isinstance T.f_tuple boot_tuple (jr_var 1)))) .Or))) (js_cons (js_if (JW.t (jw_or (jt_cmp op_ne bi_ne (JX.je (jx_isi "list" (by decide) T.f_isinstance T.f_list boot_list (jr_var 0))) (JX.je (jx_isi "list" (by decide) T.f_isinstance T.f_list boot_list (jr_var 1)))) (jw_one (jt_cmp op_ne bi_ne (JX.je (jx_isi "tuple" (by decide) T.f_isinstance T.f_tuple boot_tuple (jr_var 0))) (JX.je (jx_isi "tuple" (by decide) T.f_isinstance T.f_tuple boot_tuple (jr_var 1)))) .Or))) (js_one (js_ret (JX.je jx_bl))) js_nil) (js_cons (js_if (jt_cmp op_ne bi_ne (JX.je (jx_callB call_len cd_len T.f_len boot_len (jrs_cons (jr_var 0) jrs_nil))) (JX.je (jx_callB call_len cd_len T.f_len boot_len (jrs_cons (jr_var 1) jrs_nil)))) (js_one (js_ret (JX.je jx_bl))) js_nil) (js_cons (js_for (passes_of rfl) rfl (ji_rng1 T.f_range (ja_cons (JX.je (jx_callB call_len cd_len T.f_len boot_len (jrs_cons (jr_var 1) jrs_nil))) ja_nil)) (jg_name 2 sc__law_like_2.nd) (js_one (js_if (jt_not (jt_val (JO.fz (jo_call (takes_of rfl rfl rfl rfl) ((ok__law_like_1 T).cal hr (by decide) T.g__law_like) (ja_cons (JX.je (jx_ix ix_seq bi_ix (jr_var 0) (jr_var 2))) (ja_cons (JX.je (jx_ix ix_seq bi_ix (jr_var 1) (jr_var 2))) ja_nil)))))) (js_one (js_ret (JX.je jx_bl))) js_nil))) (js_one (js_ret (JX.je jx_bl)))))) js_nil) (js_cons (js_if (jt_val (JX.je (jx_isi "dict" (by decide) T.f_isinstance T.f_dict boot_dict (jr_var 1)))) (js_one (js_ret (je_and (JX.je (jx_isi "dict" (by decide) T.f_isinstance T.f_dict boot_dict (jr_var 0))) (je_one (JX.je (jx_cmp op_eq bi_eq (jr_var 0) (jr_var 1))) .And)))) js_nil) (js_one (js_ret (je_and (JX.je (jx_cmp op_isN bi_isN (jr_var 1) (JX.r jx_non))) (je_one (JX.je (jx_cmp op_isN bi_isN (jr_var 0) (JX.r jx_non))) .And))))))))))
theorem ok__law_like_2 (T : H.Env K mg) : Got P w K mg base 5 (H.a__law_like K) ["told", "due"] (f__law_like_2 K) := by
  obtain ⟨fd, Fd⟩ := T.F__law_like
  exact ⟨fd, fo__law_like_2 T Fd, Fd.kp, Fd.bindsN fun _ _ _ _ _ _ us hl => match us, hl with | [_, _], _ => rfl⟩
theorem sc_law : FnScope N_law ["script"] (defScope H.s_law) := ⟨rfl, rfl, rfl, by decide +kernel, rfl, by decide +kernel, by decide +kernel⟩
theorem fo_law (T : H.Env K mg) {fd : FuncData} (Fd : FunD K "law" "law" (defArgs H.s_law) (defBody H.s_law) (defScope H.s_law) [] [] (H.a_law K) fd) : FnOk P w K mg base (L2.CX P w) 19 (H.a_law K) fd ["script"] (spF K (f_law K)) :=
  fnF Fd sc_law (fun cdv A outer s _ E hr => (js_cons (js_setO 1 sc_law.nd (jo_call (takes_of rfl rfl rfl rfl) ((ok__law_bag T).cal hr (by decide) T.g__law_bag) (ja_cons (JX.je (jx_var 0)) ja_nil))) (js_cons (js_set 2 sc_law.nd (JO.fz (jo_call (takes_of rfl rfl rfl rfl) ((ok__law_shape T).cal hr (by decide) T.g__law_shape) (ja_cons (je_var 1) ja_nil)))) (js_cons (js_set 3 sc_law.nd (JO.fz (jo_call (takes_of rfl rfl rfl rfl) ((ok__law_made T).cal hr (by decide) T.g__law_made) (ja_cons (je_var 1) (ja_cons (JX.je (jx_var 2)) ja_nil))))) (js_cons (js_for (passes_of rfl) rfl (ji_lst (JO.fz (jo_lst (ja_cons (JX.je jx_int) (ja_cons (JX.je jx_int) (ja_cons (je_op op_sub bi_sub (JX.je jx_int) (JO.fz (jo_call (takes_of rfl rfl rfl rfl) ((ok__law_draw T).cal hr (by decide) T.g__law_draw) (ja_cons (je_var 1) (ja_cons (JX.je jx_int) ja_nil))))) (ja_cons (je_op op_add bi_add (JX.je jx_int) (JO.fz (jo_call (takes_of rfl rfl rfl rfl) ((ok__law_draw T).cal hr (by decide) T.g__law_draw) (ja_cons (je_var 1) (ja_cons (JX.je jx_int) ja_nil))))) (ja_cons (je_op op_add bi_add (JX.je jx_int) (JO.fz (jo_call (takes_of rfl rfl rfl rfl) ((ok__law_draw T).cal hr (by decide) T.g__law_draw) (ja_cons (je_var 1) (ja_cons (JX.je jx_int) ja_nil))))) (ja_cons (je_op op_add bi_add (JX.je jx_int) (JO.fz (jo_call (takes_of rfl rfl rfl rfl) ((ok__law_draw T).cal hr (by decide) T.g__law_draw) (ja_cons (je_var 1) (ja_cons (JX.je jx_int) ja_nil))))) ja_nil))))))))) (jg_name 4 sc_law.nd) (js_cons (js_set 5 sc_law.nd (JO.fz (jo_call (takes_of rfl rfl rfl rfl) ((ok__law_draw T).cal hr (by decide) T.g__law_draw) (ja_cons (je_var 1) (ja_cons (JX.je (jx_callB call_len cd_len T.f_len boot_len (jrs_cons (JX.r (jx_ix ix_seq bi_ix (jr_var 2) (JX.r jx_int))) jrs_nil))) ja_nil))))) (js_cons (js_set 6 sc_law.nd (JX.je (jx_ix ix_seq bi_ix (JX.r (jx_ix ix_seq bi_ix (jr_var 2) (JX.r jx_int))) (jr_var 5)))) (js_cons (js_set 7 sc_law.nd (JO.fz (jo_call (takes_of rfl rfl rfl rfl) ((ok__law_counted T).cal hr (by decide) T.g__law_counted) (ja_cons (JX.je (jx_var 2)) (ja_cons (JX.je (jx_var 5)) (ja_cons (JX.je (jx_var 4)) ja_nil)))))) (js_cons (js_setO 8 sc_law.nd (jo_if (jt_cmp op_eq bi_eq (JO.fz (jo_call (takes_of rfl rfl rfl rfl) ((ok__law_draw T).cal hr (by decide) T.g__law_draw) (ja_cons (je_var 1) (ja_cons (JX.je jx_int) ja_nil)))) (JX.je jx_int)) (jo_call (takes_of rfl rfl rfl rfl) ((ok_count T).cal hr (by decide) T.g_count) (ja_cons (JX.je (jx_var 3)) (ja_cons (JX.je (jx_var 6)) (ja_cons (JX.je (jx_var 4)) ja_nil)))) (jo_callK (k3 []) (takes_of rfl rfl rfl rfl) ((okk_count T).cal hr (by decide) T.g_count) (jk_cons (JX.je (jx_var 4)) (jk_cons (JX.je (jx_var 3)) (jk_cons (JX.je (jx_var 6)) jk_nil))) (fun _ _ _ _ _ h => k3_vls h)))) (js_cons (js_if (JW.t (jw_or (jt_not (jt_val (JO.fz (jo_call (takes_of rfl rfl rfl rfl) ((ok__law_like_2 T).cal hr (by decide) T.g__law_like) (ja_cons (je_var 8) (ja_cons (JX.je (jx_var 7)) ja_nil)))))) (jw_one (jt_cmp op_ne bi_ne (je_callB (cr_sum rfl) cd_sum T.f_sum boot_sum (ja_cons (JO.fz (jo_lcOwn 8 (own := [("pair", 10)]) rfl sc_law.nd (show BlkOk N_law (defScope H.s_law) _ _ from ⟨rfl, by decide +kernel, by decide +kernel, by decide +kernel, by decide +kernel⟩) (fun _ _ _ _ _ => (jg_name 10 sc_law.nd)) (fun _ _ _ _ _ => jts_nil) (fun _ _ _ _ _ => (JE.o (JX.je (jx_ix ix_seq bi_ix (jr_var 10) (JX.r jx_int))))))) ja_nil)) (JO.fz (jo_call (takes_of rfl rfl rfl rfl) ((ok__law_area T).cal hr (by decide) T.g__law_area) (ja_cons (JX.je (jx_var 2)) (ja_cons (JX.je (jx_var 4)) ja_nil))))) .Or))) (js_one (js_ret (JX.je jx_bl))) js_nil) (js_cons (js_expr (je_app 8 (h := (JE.o (JX.je (jx_tup (jxs_cons jx_str (jxs_cons jx_int jxs_nil)))))))) (js_cons (js_setI (JE.o (JX.je (jx_tup (jxs_cons jx_str (jxs_cons jx_int jxs_nil))))) (jp_var 8) (JX.r jx_int)) (js_cons (js_if (jt_not (jt_val (JO.fz (jo_call (takes_of rfl rfl rfl rfl) ((ok__law_like_2 T).cal hr (by decide) T.g__law_like) (ja_cons (JO.fz (jo_call (takes_of rfl rfl rfl rfl) ((ok_count T).cal hr (by decide) T.g_count) (ja_cons (JX.je (jx_var 3)) (ja_cons (JX.je (jx_var 6)) (ja_cons (JX.je (jx_var 4)) ja_nil))))) (ja_cons (JX.je (jx_var 7)) ja_nil)))))) (js_one (js_ret (JX.je jx_bl))) js_nil) (js_one (js_if (jt_cmp op_lt bi_cmp (JX.je (jx_var 4)) (JX.je jx_int)) (js_cons (js_set 9 sc_law.nd (JO.fz (jo_call (takes_of rfl rfl rfl rfl) ((ok__law_up T).cal hr (by decide) T.g__law_up) (ja_cons (JX.je (jx_var 2)) (ja_cons (JO.fz (jo_lc (own := [("pair", 10)]) rfl sc_law.nd (ji_lst (JX.je (jx_var 7))) (show BlkOk N_law (defScope H.s_law) _ _ from ⟨rfl, by decide +kernel, by decide +kernel, by decide +kernel, by decide +kernel⟩) (fun _ _ _ _ _ => (jg_name 10 sc_law.nd)) (fun _ _ _ _ _ => jts_nil) (fun _ _ _ _ _ => (JE.o (JX.je (jx_ix ix_seq bi_ix (jr_var 10) (JX.r jx_int))))))) ja_nil))))) (js_one (js_if (jt_not (jt_val (JO.fz (jo_call (takes_of rfl rfl rfl rfl) ((ok__law_like_2 T).cal hr (by decide) T.g__law_like) (ja_cons (JO.fz (jo_call (takes_of rfl rfl rfl rfl) ((ok_count T).cal hr (by decide) T.g_count) (ja_cons (JX.je (jx_var 3)) (ja_cons (JX.je (jx_var 6)) (ja_cons (JX.je (jx_op op_add bi_add (jr_var 4) (JX.r jx_int))) ja_nil))))) (ja_cons (JO.fz (jo_lc (own := [("j", 11)]) rfl sc_law.nd (ji_rng1 T.f_range (ja_cons (JX.je (jx_callB call_len cd_len T.f_len boot_len (jrs_cons (jr_var 9) jrs_nil))) ja_nil)) (show BlkOk N_law (defScope H.s_law) _ _ from ⟨rfl, by decide +kernel, by decide +kernel, by decide +kernel, by decide +kernel⟩) (fun _ _ _ _ _ => (jg_name 11 sc_law.nd)) (fun _ _ _ _ _ => jts_nil) (fun _ _ _ _ _ => (JE.o (JX.je (jx_tup (jxs_cons (jx_ix ix_seq bi_ix (JX.r (jx_ix ix_seq bi_ix (jr_var 2) (JX.r jx_int))) (jr_var 11)) (jxs_cons (jx_ix ix_seq bi_ix (jr_var 9) (jr_var 11)) jxs_nil)))))))) ja_nil)))))) (js_one (js_ret (JX.je jx_bl))) js_nil))) js_nil))))))))))) (js_cons (js_set 4 sc_law.nd (JO.fz (jo_call (takes_of rfl rfl rfl rfl) ((ok__law_draw T).cal hr (by decide) T.g__law_draw) (ja_cons (je_var 1) (ja_cons (JX.je jx_int) ja_nil))))) (js_cons (js_for (passes_of rfl) rfl (ji_rng1 T.f_range (ja_cons (JX.je (jx_callB call_len cd_len T.f_len boot_len (jrs_cons (JX.r (jx_ix ix_seq bi_ix (jr_var 2) (JX.r jx_int))) jrs_nil))) ja_nil)) (jg_name 5 sc_law.nd) (js_one (js_if (jt_not (jt_val (JO.fz (jo_call (takes_of rfl rfl rfl rfl) ((ok__law_like_2 T).cal hr (by decide) T.g__law_like) (ja_cons (JO.fz (jo_call (takes_of rfl rfl rfl rfl) ((ok_count T).cal hr (by decide) T.g_count) (ja_cons (JX.je (jx_var 3)) (ja_cons (JX.je (jx_ix ix_seq bi_ix (JX.r (jx_ix ix_seq bi_ix (jr_var 2) (JX.r jx_int))) (jr_var 5))) (ja_cons (JX.je (jx_var 4)) ja_nil))))) (ja_cons (JO.fz (jo_call (takes_of rfl rfl rfl rfl) ((ok__law_counted T).cal hr (by decide) T.g__law_counted) (ja_cons (JX.je (jx_var 2)) (ja_cons (JX.je (jx_var 5)) (ja_cons (JX.je (jx_var 4)) ja_nil))))) ja_nil)))))) (js_one (js_ret (JX.je jx_bl))) js_nil))) (js_one (js_ret (JO.fz (jo_call (takes_of rfl rfl rfl rfl) ((ok__law_like_2 T).cal hr (by decide) T.g__law_like) (ja_cons (je_prop ((ok_Rule_text T).calP hr (by decide) T.p_Rule_text T.c_Rule) (JX.je (jx_var 3))) (ja_cons (JO.fz (jo_call (takes_of rfl rfl rfl rfl) ((ok__law_page T).cal hr (by decide) T.g__law_page) (ja_cons (JX.je (jx_var 2)) ja_nil))) ja_nil)))))))))))))
theorem ok_law (T : H.Env K mg) : Got P w K mg base 19 (H.a_law K) ["script"] (f_law K) := by
  obtain ⟨fd, Fd⟩ := T.F_law
  exact ⟨fd, fo_law T Fd, Fd.kp, Fd.bindsN fun _ _ _ _ _ _ us hl => match us, hl with | [_], _ => rfl⟩
end
end G8
set_option maxHeartbeats 4000000
/-! P0: the parts of the mirrors, at a frame. -/
namespace G8
open PySem L2 GX
@[simp] theorem e_mSet (i : Nat) (m : ME) {δ : List Sl} : mSet i m δ = (m δ >>= fun p => match p.1 with
  | .im d => stor i (.im d) p.2 >>= fun δ' => .ok (.nx δ')
  | .sl _ => .bad) := (rfl)
@[simp] theorem e_mSetI (mp : MP) (mk : MX) (mo : MO) {δ : List Sl} : mSetI mp mk mo δ = (mo δ >>= fun p => R.ofO (mp p.2) >>= fun r => R.ofO (mk p.2) >>= fun k => match r.2.2, k with
  | .o .l ts, .int k => R.ofO (ixN ts.length k) >>= fun j => .ok (.nx (putP p.2 r.1 r.2.1 (.o .l (ts.set j p.1))))
  | _, _ => .bad) := (rfl)
@[simp] theorem e_mSetO (i : Nat) (m : MO) {δ : List Sl} : mSetO i m δ = (m δ >>= fun p => stor i (.ow p.1) p.2 >>= fun δ' => .ok (.nx δ')) := (rfl)
@[simp] theorem e_mX (m : MX) {δ : List Sl} : mX m δ = (R.ofO (m δ) >>= fun d => .ok (.im d, δ)) := (rfl)
@[simp] theorem e_mB (m : ME) {δ : List Sl} : mB m δ = (m δ >>= fun p => match p.1 with
  | .im (.bl k) => .ok (k, p.2)
  | _ => .bad) := (rfl)
@[simp] theorem e_mBin (op : D → D → Option D) (ma mb : ME) {δ : List Sl} : mBin op ma mb δ = (ma δ >>= fun p => mb p.2 >>= fun q => R.ofO (resO q.2 p.1) >>= fun a => R.ofO (resO q.2 q.1) >>= fun b => R.ofO (op a b) >>= fun d => .ok (.im d, q.2)) := (rfl)
@[simp] theorem e_mAnd (m n : MT) {δ : List Sl} : mAnd m n δ = (m δ >>= fun p => if p.1 = true then n p.2 else .ok (false, p.2)) := (rfl)
@[simp] theorem e_mOr (m n : MT) {δ : List Sl} : mOr m n δ = (m δ >>= fun p => if p.1 = true then .ok (true, p.2) else n p.2) := (rfl)
@[simp] theorem e_mNot (m : MT) {δ : List Sl} : mNot m δ = (m δ >>= fun p => .ok (!p.1, p.2)) := (rfl)
@[simp] theorem e_mRet (m : ME) {δ : List Sl} : mRet m δ = (m δ >>= fun p => match p.1 with
  | .im d => .ok (.rt (.d d) p.2)
  | .sl _ => .bad) := (rfl)
@[simp] theorem e_mIf (c : MT) (m n : ME) {δ : List Sl} : mIf c m n δ = (c δ >>= fun p => if p.1 = true then m p.2 else n p.2) := (rfl)
@[simp] theorem e_mIm (m : ME) {δ : List Sl} : mIm m δ = (m δ >>= fun r => match r.1 with
  | .im d => .ok (.d d, r.2)
  | .sl _ => .bad) := (rfl)
@[simp] theorem e_xBin (op : D → D → Option D) (ma mb : MX) {δ : List Sl} : xBin op ma mb δ = ((ma δ).bind fun x => (mb δ).bind fun y => op x y) := (rfl)
@[simp] theorem e_xUn (op : D → Option D) (m : MX) {δ : List Sl} : xUn op m δ = ((m δ).bind op) := (rfl)
@[simp] theorem e_xCB (f : List D → Option D) (m : MXs) {δ : List Sl} : xCB f m δ = ((m δ).bind f) := (rfl)
@[simp] theorem e_xsC (m : MX) (r : MXs) {δ : List Sl} : xsC m r δ = ((m δ).bind fun x => (r δ).bind fun xs => some (x :: xs)) := (rfl)
@[simp] theorem e_xP (mp : MP) {δ : List Sl} : xP mp δ = ((mp δ).bind fun r => match r.2.2 with
  | .d x => some x
  | _ => none) := (rfl)
@[simp] theorem e_xPR (mp : MP) {δ : List Sl} : xPR mp δ = ((mp δ).bind fun r => r.2.2.flat) := (rfl)
@[simp] theorem e_mCons (m : ME) (r : MA) {δ : List Sl} : mCons m r δ = (m δ >>= fun p => r p.2 >>= fun q => .ok (p.1 :: q.1, q.2)) := (rfl)
@[simp] theorem e_mTup (m : MA) {δ : List Sl} : mTup m δ = (m δ >>= fun p => R.ofO (imsO p.1) >>= fun ds => if ds.length ≤ 1000 then .ok (.im (.tup ds), p.2) else .bad) := (rfl)
@[simp] theorem e_mLst (m : MA) {δ : List Sl} : mLst m δ = (m δ >>= fun p => R.ofO (imsO p.1) >>= fun ds => if ds.length ≤ 1000 then .ok (lsT ds, p.2) else .bad) := (rfl)
@[simp] theorem e_oLst (m : MXs) {δ : List Sl} : oLst m δ = (R.ofO (m δ) >>= fun ds => if ds.length ≤ 1000 then .ok (lsT ds, δ) else .bad) := (rfl)
@[simp] theorem e_xTup (m : MXs) {δ : List Sl} : xTup m δ = ((m δ).bind fun ds => if ds.length ≤ 1000 then some (.tup ds) else none) := (rfl)
@[simp] theorem e_mFz (m : MO) {δ : List Sl} : mFz m δ = (m δ >>= fun r => .ok (.im r.1.dat, r.2)) := (rfl)
@[simp] theorem e_mDrop (m : ME) {δ : List Sl} : mDrop m δ = (m δ >>= fun p => .ok (.nx p.2)) := (rfl)
@[simp] theorem e_mTr (m : ME) {δ : List Sl} : mTr m δ = (m δ >>= fun p => R.ofO (resO p.2 p.1) >>= fun d => R.ofO (truD d) >>= fun k => .ok (k, p.2)) := (rfl)
@[simp] theorem e_mAndV (m n : ME) {δ : List Sl} : mAndV m n δ = (m δ >>= fun p => match p.1 with
  | .im (.bl true) => n p.2
  | .im (.bl false) => .ok (.im (.bl false), p.2)
  | _ => .bad) := (rfl)
@[simp] theorem e_mOrV (m n : ME) {δ : List Sl} : mOrV m n δ = (m δ >>= fun p => match p.1 with
  | .im (.bl false) => n p.2
  | .im (.bl true) => .ok (.im (.bl true), p.2)
  | _ => .bad) := (rfl)
@[simp] theorem e_mNotV (m : ME) {δ : List Sl} : mNotV m δ = (m δ >>= fun p => match p.1 with
  | .im (.bl k) => .ok (.im (.bl (!k)), p.2)
  | _ => .bad) := (rfl)
@[simp] theorem e_pV {i : Nat} {δ : List Sl} : pV i δ = (ownAt δ i).map fun t => (i, [], t) := (rfl)
@[simp] theorem e_xC {d : D} {δ : List Sl} : xC d δ = some d := (rfl)
@[simp] theorem e_xsN {δ : List Sl} : xsN δ = some [] := (rfl)
@[simp] theorem e_mNil {δ : List Sl} : mNil δ = .ok ([], δ) := (rfl)
@[simp] theorem e_mYes {δ : List Sl} : mYes δ = .ok (true, δ) := (rfl)
@[simp] theorem e_pIx {mp : MP} {mk : MX} {δ : List Sl} : pIx mp mk δ = (mp δ).bind fun r => (mk δ).bind fun k => match r.2.2, k with
  | .o .l ts, .int k => (ixN ts.length k).bind fun j => (ts[j]?).map fun u => (r.1, r.2.1 ++ [j], u)
  | _, _ => none := (rfl)
@[simp] theorem e_xV {i : Nat} {δ : List Sl} {d : D} (h : δ[i]? = some (.im d)) : xV i δ = some d := by unfold xV; rw [h]
@[simp] theorem e_xRi {i : Nat} {δ : List Sl} {d : D} (h : δ[i]? = some (.im d)) : xR i δ = some d := by unfold xR; rw [h]
@[simp] theorem e_xRo {i : Nat} {δ : List Sl} {t : Tr} (h : δ[i]? = some (.ow t)) : xR i δ = t.flat := by unfold xR; rw [h]
@[simp] theorem e_xRp {i : Nat} {δ : List Sl} {t : Tr} (h : δ[i]? = some (.io t)) : xR i δ = t.flat := by unfold xR; rw [h]
@[simp] theorem e_own {i : Nat} {δ : List Sl} : ownAt δ i = δ[i]?.bind Sl.own := (rfl)
@[simp] theorem e_ownO {t : Tr} : (Sl.ow t).own = some t := (rfl)
@[simp] theorem e_ownP {t : Tr} : (Sl.io t).own = some t := (rfl)
@[simp] theorem e_putO {t u : Tr} : (Sl.ow t).put u = .ow u := (rfl)
@[simp] theorem e_putQ {t u : Tr} : (Sl.io t).put u = .io u := (rfl)
@[simp] theorem e_putN {t u : Tr} : t.put [] u = u := by cases t <;> rfl
@[simp] theorem e_add {a b : Int} : addI (.int a) (.int b) = some (.int (a + b)) := (rfl)
@[simp] theorem e_sub {a b : Int} : subI (.int a) (.int b) = some (.int (a - b)) := (rfl)
@[simp] theorem e_int {a : Int} : intD [.int a] = some (.int a) := (rfl)
@[simp] theorem e_intB {a : Bool} : intD [.bl a] = some (.int (if a then 1 else 0)) := (rfl)
@[simp] theorem e_lenL {ds : List D} : lenD [.lst ds] = some (.int ds.length) := (rfl)
@[simp] theorem e_lenT {ds : List D} : lenD [.tup ds] = some (.int ds.length) := (rfl)
@[simp] theorem e_cmp {p : Int → Int → Bool} {a b : Int} : cmpI p (.int a) (.int b) = some (.bl (p a b)) := (rfl)
end G8
/-! P1: rules about mirrors: what holds of what they tell; comprehensions and loops. -/
namespace G8
open PySem L2 GX
def Tru {ε α : Type} (m : Rx ε α) (P : α → Prop) : Prop := ∃ a, m = .ok a ∧ P a
section
variable {ε α β : Type} {m : Rx ε α} {k : α → Rx ε β} {P P' : α → Prop} {Q : β → Prop}
theorem Tru.ok {a : α} (h : P a) : Tru (.ok a : Rx ε α) P := ⟨a, rfl, h⟩
theorem Tru.bind (h : Tru m P) (f : ∀ a, P a → Tru (k a) Q) : Tru (m >>= k) Q := by
  obtain ⟨a, rfl, p⟩ := h
  exact f a p
theorem Tru.mono (h : Tru m P) (f : ∀ a, P a → P' a) : Tru m P' := let ⟨a, e, p⟩ := h; ⟨a, e, f a p⟩
theorem Tru.of_eq {a : α} (e : m = .ok a) (h : P a) : Tru m P := ⟨a, e, h⟩
end
@[simp] theorem tru_ok {ε α : Type} {a : α} {P : α → Prop} : Tru (Rx.ok a : Rx ε α) P ↔ P a := ⟨fun ⟨_, e, p⟩ => by cases e; exact p, Tru.ok⟩
theorem tru_eq {ε α : Type} {m : Rx ε α} {a : α} : Tru m (fun b => b = a) ↔ m = .ok a := ⟨fun ⟨_, e, p⟩ => by rw [e, p], fun e => ⟨a, e, rfl⟩⟩
theorem tru_seq {a b : MS} {δ : List Sl} {P : Out → Prop} (h : Tru (a δ) (fun o => match o with | .nx δ' => Tru (b δ') P | o => P o)) : Tru (mSeq a b δ) P := by
  unfold mSeq
  refine h.bind fun o h => ?_
  cases o with
  | nx δ' => exact h
  | _ => exact Tru.ok h
theorem tru_ifS {c : MT} {m n : MS} {δ δ' : List Sl} {k : Bool} {P : Out → Prop} (h : c δ = .ok (k, δ')) (h1 : k = true → Tru (m δ') P) (h2 : k = false → Tru (n δ') P) : Tru (mIfS c m n δ) P := by
  unfold mIfS
  rw [h]
  cases k with
  | true => exact h1 rfl
  | false => exact h2 rfl
theorem tru_ifT {c : MT} {m n : MS} {δ : List Sl} {P : Out → Prop} (k : Bool) (h : c δ = .ok (k, δ)) (h1 : k = true → Tru (m δ) P) (h2 : k = false → Tru (n δ) P) : Tru (mIfS c m n δ) P := tru_ifS h h1 h2
theorem tru_run {n : Nat} {m : MS} {ts : List Tr} {P : Tr × List Tr → Prop} (h : Tru (m (argS ts ++ List.replicate (n - ts.length) .un)) (fun o => match o with | .nx δ => ∃ os, outs ts δ = some os ∧ P (.d .non, os) | .rt t δ => ∃ os, outs ts δ = some os ∧ P (t, os) | _ => False)) : Tru (runF n m ts) P := by
  obtain ⟨o, e, h⟩ := h
  unfold runF
  rw [e]
  cases o with
  | nx δ => obtain ⟨os, e2, h⟩ := h; simp only [e2, R.ofO_some, R.ok_bind]; exact Tru.ok h
  | rt t δ => obtain ⟨os, e2, h⟩ := h; simp only [e2, R.ofO_some, R.ok_bind]; exact Tru.ok h
  | _ => exact h.elim
theorem e_seq {a b : MS} {δ : List Sl} : mSeq a b δ = (a δ >>= fun o => match o with | .nx δ' => b δ' | o => .ok o) := (rfl)
theorem e_seqN {a b : MS} {δ δ' : List Sl} (h : a δ = .ok (.nx δ')) : mSeq a b δ = b δ' := by unfold mSeq; rw [h]; rfl
theorem e_seqR {a b : MS} {δ δ' : List Sl} {t : Tr} (h : a δ = .ok (.rt t δ')) : mSeq a b δ = .ok (.rt t δ') := by unfold mSeq; rw [h]; rfl
@[simp] theorem e_ne {ε α : Type} {a : α} : (Rx.ok a : Rx ε α).ne = .ok a := (rfl)
/-! ### comprehensions -/
theorem lc_gen {α : Type} {vs : List Nat} {g : MG} {t : MT} {m : MO} {e : α → D} {p : α → Bool} {f : α → Tr} {δ : List Sl} : ∀ (xs : List α) (acc : List Tr), acc.length + xs.length ≤ sizeLine →
    (∀ x ∈ xs, ∃ δ1 δ2, g (e x) δ = .ok δ1 ∧ t δ1 = .ok (p x, δ2) ∧ (p x = false → wipeS δ2 vs = δ) ∧ (p x = true → ∃ δ3, m δ2 = .ok (f x, δ3) ∧ wipeS δ3 vs = δ)) →
    lcD vs g t m (xs.map e) acc δ = .ok (.o .l (acc ++ (xs.filter p).map f), δ)
  | [], acc, _, _ => by simp [lcD]
  | x :: xs, acc, hl, h => by
    obtain ⟨δ1, δ2, h1, h2, h3, h4⟩ := h x List.mem_cons_self
    have ih := lc_gen (vs := vs) (g := g) (t := t) (m := m) (e := e) (p := p) (f := f) (δ := δ) xs
    simp only [List.length_cons] at hl
    simp only [List.map_cons, lcD, h1, h2, e_ne, R.ok_bind]
    cases e : p x with
    | false =>
      rw [if_neg (by simp), h3 e, ih acc (by omega) fun y hy => h y (List.mem_cons_of_mem _ hy)]
      simp [List.filter_cons, e]
    | true =>
      obtain ⟨δ3, h5, h6⟩ := h4 e
      rw [if_pos rfl, h5]
      simp only [e_ne, R.ok_bind]
      rw [if_pos (by omega), h6, ih (acc ++ [f x]) (by simp; omega) fun y hy => h y (List.mem_cons_of_mem _ hy)]
      simp [List.filter_cons, e]
/-- one variable, no test, a body that changes nothing -/
theorem lc_map {α : Type} {i : Nat} {m : MO} {e : α → D} (f : α → Tr) {δ : List Sl} {xs : List α} (hl : xs.length ≤ sizeLine) (hi : δ[i]? = some .un) (h : ∀ x ∈ xs, m (δ.set i (.im (e x))) = .ok (f x, δ.set i (.im (e x)))) :
    lcD [i] (gN i) mYes m (xs.map e) [] δ = .ok (.o .l (xs.map f), δ) := by
  have w : ∀ s, wipeS (δ.set i s) [i] = δ := fun s => by
    simp only [wipeS, List.set_set]
    exact List.ext_getElem? fun j => by
      by_cases q : i = j
      · subst q
        have := (List.getElem?_eq_some_iff.mp hi).1
        rw [List.getElem?_set_self this, hi]
      · rw [List.getElem?_set_ne q]
  rw [lc_gen (p := fun _ => true) (f := f) (δ := δ) xs [] (by simpa using hl) fun x hx => ⟨δ.set i (.im (e x)), δ.set i (.im (e x)), by unfold gN GX.stor; rw [hi], rfl, fun z => absurd z (by simp), fun _ => ⟨δ.set i (.im (e x)), h x hx, w _⟩⟩]
  simp [List.filter_eq_self.mpr]
theorem lc_filter {α : Type} {i : Nat} {t : MT} {m : MO} {e : α → D} (p : α → Bool) (f : α → Tr) {δ : List Sl} {xs : List α} (hl : xs.length ≤ sizeLine) (hi : δ[i]? = some .un) (ht : ∀ x ∈ xs, t (δ.set i (.im (e x))) = .ok (p x, δ.set i (.im (e x)))) (h : ∀ x ∈ xs, p x = true → m (δ.set i (.im (e x))) = .ok (f x, δ.set i (.im (e x)))) :
    lcD [i] (gN i) t m (xs.map e) [] δ = .ok (.o .l ((xs.filter p).map f), δ) := by
  have w : ∀ s, wipeS (δ.set i s) [i] = δ := fun s => by
    simp only [wipeS, List.set_set]
    exact List.ext_getElem? fun j => by
      by_cases q : i = j
      · subst q
        have := (List.getElem?_eq_some_iff.mp hi).1
        rw [List.getElem?_set_self this, hi]
      · rw [List.getElem?_set_ne q]
  rw [lc_gen (p := p) xs [] (by simpa using hl) fun x hx => ⟨δ.set i (.im (e x)), δ.set i (.im (e x)), by unfold gN GX.stor; rw [hi], ht x hx, fun _ => w _, fun q => ⟨δ.set i (.im (e x)), h x hx q, w _⟩⟩]
  simp
/-- with an invariant: each turn tells one thing -/
theorem lc_tru {α : Type} {vs : List Nat} {g : MG} {m : MO} {e : α → D} {xs : List α} (Inv : List Tr → List Sl → Prop) (hz : xs.length ≤ sizeLine) :
    ∀ (ys : List α) (acc : List Tr) {δ : List Sl}, (∀ y ∈ ys, y ∈ xs) → acc.length + ys.length = xs.length → Inv acc δ →
    (∀ x ∈ xs, ∀ acc δ, acc.length < xs.length → Inv acc δ → Tru (g (e x) δ) fun δ1 => Tru (m δ1) fun r => Inv (acc ++ [r.1]) (wipeS r.2 vs)) →
    Tru (lcD vs g mYes m (ys.map e) acc δ) fun r => ∃ ts, r.1 = .o .l ts ∧ ts.length = xs.length ∧ Inv ts r.2
  | [], acc, δ, _, hl, h0, _ => ⟨_, rfl, acc, rfl, by simpa using hl, h0⟩
  | y :: ys, acc, δ, hs, hl, h0, h => by
    obtain ⟨δ1, e1, r, e2, h2⟩ := h y (hs y List.mem_cons_self) acc δ (by simp at hl; omega) h0
    simp only [List.length_cons] at hl
    simp only [List.map_cons, lcD, e1, e2, e_ne, R.ok_bind, mYes]
    rw [if_pos trivial, if_pos (by omega)]
    exact lc_tru Inv hz ys (acc ++ [r.1]) (fun z q => hs z (List.mem_cons_of_mem _ q)) (by simp; omega) h2 h
theorem lc2In_gen {β : Type} {vs1 : List Nat} {g : MG} {t : MT} {m : MO} {e : β → D} {f : β → Tr} {δ : List Sl} : ∀ (ys : List β) (acc : List Tr), acc.length + ys.length ≤ sizeLine →
    (∀ y ∈ ys, ∃ δ1 δ2, g (e y) δ = .ok δ1 ∧ t δ1 = .ok (true, δ1) ∧ m δ1 = .ok (f y, δ2) ∧ wipeS δ2 vs1 = δ) → lc2In vs1 g t m (ys.map e) acc δ = .ok (acc ++ ys.map f, δ)
  | [], acc, _, _ => by simp [lc2In]
  | y :: ys, acc, hl, h => by
    obtain ⟨δ1, δ2, h1, h2, h3, h4⟩ := h y List.mem_cons_self
    simp only [List.length_cons] at hl
    simp only [List.map_cons, lc2In, h1, h2, e_ne, R.ok_bind]
    rw [if_pos trivial, h3]
    simp only [e_ne, R.ok_bind]
    rw [if_pos (by omega), h4, lc2In_gen (f := f) ys (acc ++ [f y]) (by simp; omega) fun z hz => h z (List.mem_cons_of_mem _ hz)]
    simp
theorem lc2_gen {α β : Type} {vs vs1 : List Nat} {g g1 : MG} {t t1 : MT} {mi1 : MI} {m : MO} {e : α → D} {e1 : β → D} {ys : α → List β} {f : α → β → Tr} {δ : List Sl} (δx : α → List Sl) :
    ∀ (xs : List α) (acc : List Tr), acc.length + (xs.map fun x => (ys x).length).sum ≤ sizeLine →
    (∀ x ∈ xs, ∃ δ1 δ2, g (e x) δ = .ok δ1 ∧ t δ1 = .ok (true, δ1) ∧ mi1 δ1 = .ok ((ys x).map e1, δ2) ∧ wipeS δ2 vs1 = δx x ∧ wipeS (δx x) vs = δ ∧
      ∀ y ∈ ys x, ∃ δ3 δ4, g1 (e1 y) (δx x) = .ok δ3 ∧ t1 δ3 = .ok (true, δ3) ∧ m δ3 = .ok (f x y, δ4) ∧ wipeS δ4 vs1 = δx x) →
    lc2D vs vs1 g t mi1 g1 t1 m (xs.map e) acc δ = .ok (.o .l (acc ++ (xs.map fun x => (ys x).map (f x)).flatten), δ)
  | [], acc, _, _ => by simp [lc2D]
  | x :: xs, acc, hl, h => by
    obtain ⟨δ1, δ2, h1, h2, h3, h4, h5, h6⟩ := h x List.mem_cons_self
    simp only [List.map_cons, List.sum_cons] at hl
    simp only [List.map_cons, lc2D, h1, h2, e_ne, R.ok_bind]
    rw [if_pos trivial, h3]
    simp only [e_ne, R.ok_bind]
    rw [h4, lc2In_gen (f := f x) (ys x) acc (by omega) h6]
    simp only [R.ok_bind]
    rw [h5, lc2_gen (f := f) δx xs (acc ++ (ys x).map (f x)) (by simp; omega) fun z hz => h z (List.mem_cons_of_mem _ hz)]
    simp
@[simp] theorem e_mLc2 {vs vs1 : List Nat} {mi : MI} {g : MG} {t : MT} {mi1 : MI} {g1 : MG} {t1 : MT} {m : MO} {δ : List Sl} : mLc2 vs vs1 mi g t mi1 g1 t1 m δ = (mi δ >>= fun p => lc2D vs vs1 g t mi1 g1 t1 m p.1 [] (wipeS p.2 vs)) := (rfl)
/-! ### loops -/
theorem for_tru {α : Type} {g : MG} {b : MS} {e : α → D} {P : Out → Prop} (Inv : List α → List Sl → Prop) (xs : List α) :
    ∀ (ys pre : List α) {δ : List Sl}, pre ++ ys = xs → Inv pre δ → (∀ δ, Inv xs δ → P (.nx δ)) →
    (∀ pre x post δ, pre ++ x :: post = xs → Inv pre δ → Tru (g (e x) δ) fun δ1 => Tru (b δ1) fun o => match o with | .nx δ2 => Inv (pre ++ [x]) δ2 | .ct δ2 => Inv (pre ++ [x]) δ2 | .bk δ2 => P (.nx δ2) | o => P o) →
    Tru (forD g b (ys.map e) δ) P
  | [], pre, δ, hp, h0, hd, _ => Tru.ok (hd δ (by rw [← hp]; simpa using h0))
  | y :: ys, pre, δ, hp, h0, hd, h => by
    obtain ⟨δ1, e1, o, e2, h2⟩ := h pre y ys δ hp h0
    simp only [List.map_cons, forD, e1, e2, R.ok_bind]
    cases o with
    | nx δ2 => exact for_tru Inv xs ys (pre ++ [y]) (by simpa using hp) h2 hd h
    | ct δ2 => exact for_tru Inv xs ys (pre ++ [y]) (by simpa using hp) h2 hd h
    | bk δ2 => exact Tru.ok h2
    | rt t δ2 => exact Tru.ok h2
/-- a loop from its start -/
theorem for0 {α : Type} {g : MG} {b : MS} {e : α → D} {P : Out → Prop} (Inv : List α → List Sl → Prop) (xs : List α) {δ : List Sl} (h0 : Inv [] δ) (hd : ∀ δ, Inv xs δ → P (.nx δ))
    (h : ∀ pre x post δ, pre ++ x :: post = xs → Inv pre δ → Tru (g (e x) δ) fun δ1 => Tru (b δ1) fun o => match o with | .nx δ2 => Inv (pre ++ [x]) δ2 | .ct δ2 => Inv (pre ++ [x]) δ2 | .bk δ2 => P (.nx δ2) | o => P o) : Tru (forD g b (xs.map e) δ) P :=
  for_tru Inv xs xs [] rfl h0 hd h
/-- a loop whose turns only reckon a new frame out of what was gone through -/
theorem for_eq {α : Type} {g : MG} {b : MS} {e : α → D} (F : List α → List Sl) (xs : List α) (h : ∀ pre x post, pre ++ x :: post = xs → ∃ δ1, g (e x) (F pre) = .ok δ1 ∧ b δ1 = .ok (.nx (F (pre ++ [x])))) : forD g b (xs.map e) (F []) = .ok (.nx (F xs)) :=
  tru_eq.mp (for0 (P := fun o => o = .nx (F xs)) (fun pre δ => δ = F pre) xs rfl (fun _ z => by rw [z]) fun pre x post δ hp hd => by
    obtain ⟨δ1, e1, e2⟩ := h pre x post hp
    rw [hd]
    exact ⟨δ1, e1, _, e2, rfl⟩)
/-! ### calls -/
@[simp] theorem e_mCallO {f : Fn} {m : MA} {δ : List Sl} : mCallO f m δ = (m δ >>= fun p => R.ofO (callIn p.2 p.1) >>= fun ts => retO p.2 p.1 (f ts)) := (rfl)
@[simp] theorem e_callIn {δ : List Sl} {xs : List Vl} : callIn δ xs = if (lents xs).Nodup then callT δ xs else none := (rfl)
@[simp] theorem e_lents0 : lents [] = [] := (rfl)
@[simp] theorem e_lents1 {d : D} {xs : List Vl} : lents (.im d :: xs) = lents xs := (rfl)
@[simp] theorem e_lents2 {i : Nat} {xs : List Vl} : lents (.sl i :: xs) = i :: lents xs := (rfl)
@[simp] theorem e_callT0 {δ : List Sl} : callT δ [] = some [] := (rfl)
@[simp] theorem e_callT1 {δ : List Sl} {d : D} {xs : List Vl} : callT δ (.im d :: xs) = (callT δ xs).map (.d d :: ·) := (rfl)
@[simp] theorem e_callT2 {δ : List Sl} {i : Nat} {xs : List Vl} : callT δ (.sl i :: xs) = match ownAt δ i with
    | some t => (callT δ xs).map (t :: ·)
    | none => none := (rfl)
@[simp] theorem e_retO {δ : List Sl} {xs : List Vl} {r : Tr × List Tr} : retO δ xs (.ok r) = .ok (r.1, outS δ xs r.2) := (rfl)
@[simp] theorem e_outS0 {δ : List Sl} {ts : List Tr} : outS δ [] ts = δ := by cases ts <;> rfl
@[simp] theorem e_outS1 {δ : List Sl} {d : D} {xs : List Vl} {t : Tr} {ts : List Tr} : outS δ (.im d :: xs) (t :: ts) = outS δ xs ts := (rfl)
@[simp] theorem e_outS2 {δ : List Sl} {i : Nat} {xs : List Vl} {t : Tr} {ts : List Tr} : outS δ (.sl i :: xs) (t :: ts) = putAt (outS δ xs ts) i t := (rfl)
@[simp] theorem e_outsT0 {δ : List Sl} : outs [] δ = some [] := (rfl)
@[simp] theorem e_outsT1 {x : D} {ts : List Tr} {s : Sl} {δ : List Sl} : outs (.d x :: ts) (s :: δ) = (outs ts δ).map (.d x :: ·) := (rfl)
@[simp] theorem e_outsT2 {sh : Sh} {us ts : List Tr} {t : Tr} {δ : List Sl} : outs (.o sh us :: ts) (.io t :: δ) = (outs ts δ).map (t :: ·) := (rfl)
@[simp] theorem e_args0 : argS [] = [] := (rfl)
@[simp] theorem e_args1 {x : D} {ts : List Tr} : argS (.d x :: ts) = .im x :: argS ts := (rfl)
@[simp] theorem e_args2 {sh : Sh} {us ts : List Tr} : argS (.o sh us :: ts) = .io (.o sh us) :: argS ts := (rfl)
/-! ### more parts -/
@[simp] theorem e_dats0 : Tr.dats [] = [] := by rw [Tr.dats]
@[simp] theorem e_dats1 {t : Tr} {ts : List Tr} : Tr.dats (t :: ts) = t.dat :: Tr.dats ts := by rw [Tr.dats]
@[simp] theorem e_datD {d : D} : (Tr.d d).dat = d := by rw [Tr.dat]
@[simp] theorem e_datO {sh : Sh} {ts : List Tr} : (Tr.o sh ts).dat = sh.dat (Tr.dats ts) := by rw [Tr.dat]
theorem dats_map {α : Type} {f : α → Tr} : ∀ xs : List α, Tr.dats (xs.map f) = xs.map fun x => (f x).dat
  | [] => by simp
  | x :: xs => by simp [dats_map xs]
@[simp] theorem e_datsM {α : Type} {f : α → Tr} {xs : List α} : Tr.dats (xs.map f) = xs.map fun x => (f x).dat := dats_map xs
theorem dats_app : ∀ xs ys : List Tr, Tr.dats (xs ++ ys) = Tr.dats xs ++ Tr.dats ys
  | [], ys => by simp
  | x :: xs, ys => by simp [dats_app xs ys]
@[simp] theorem e_datsA {xs ys : List Tr} : Tr.dats (xs ++ ys) = Tr.dats xs ++ Tr.dats ys := dats_app xs ys
@[simp] theorem e_datL {ts : List Tr} : (Tr.o .l ts).dat = .lst (Tr.dats ts) := by rw [Tr.dat]; rfl
@[simp] theorem e_shL {ds : List D} : Sh.dat .l ds = .lst ds := (rfl)
theorem flats_dM {α : Type} {f : α → D} : ∀ xs : List α, flats (xs.map fun x => .d (f x)) = some (xs.map f)
  | [] => rfl
  | x :: xs => by simp [flats, flats_dM xs]
@[simp] theorem e_flatsM {α : Type} {f : α → D} {xs : List α} : flats (xs.map fun x => .d (f x)) = some (xs.map f) := flats_dM xs
@[simp] theorem e_flatsD {xs : List D} : flats (xs.map Tr.d) = some xs := by simpa using flats_dM (f := id) xs
@[simp] theorem e_flats0 : flats [] = some [] := (rfl)
@[simp] theorem e_flats1 {x : D} {r : List Tr} : flats (.d x :: r) = (flats r).map (x :: ·) := (rfl)
@[simp] theorem e_flatD {x : D} : (Tr.d x).flat = some x := (rfl)
@[simp] theorem e_flatO {sh : Sh} {ts : List Tr} : (Tr.o sh ts).flat = (flats ts).map sh.dat := (rfl)
@[simp] theorem e_mLc {vs : List Nat} {mi : MI} {g : MG} {t : MT} {m : MO} {δ : List Sl} : mLc vs mi g t m δ = (mi δ >>= fun p => lcD vs g t m p.1 [] (wipeS p.2 vs)) := (rfl)
@[simp] theorem e_mFor {mi : MI} {g : MG} {b : MS} {δ : List Sl} : mFor mi g b δ = (mi δ >>= fun p => forD g b p.1 p.2) := (rfl)
@[simp] theorem e_wipe0 {δ : List Sl} : wipeS δ [] = δ := (rfl)
@[simp] theorem e_wipe1 {δ : List Sl} {v : Nat} {vs : List Nat} : wipeS δ (v :: vs) = (wipeS δ vs).set v .un := (rfl)
@[simp] theorem e_mIL {m : ME} {δ : List Sl} : mIL m δ = (m δ >>= fun p => match p.1 with
  | .im (.lst ds) => .ok (ds, p.2)
  | _ => .bad) := (rfl)
@[simp] theorem e_mIT {m : ME} {δ : List Sl} : mIT m δ = (m δ >>= fun p => match p.1 with
  | .im (.tup ds) => .ok (ds, p.2)
  | _ => .bad) := (rfl)
@[simp] theorem e_mIS {m : ME} {δ : List Sl} : mIS m δ = (m δ >>= fun p => match p.1 with
  | .im (.str x) => .ok (sgnD x, p.2)
  | _ => .bad) := (rfl)
/-- what a range walks -/
def rng1 (p : List Vl × List Sl) : R (List D × List Sl) := match p.1 with
  | [.im (.int j)] => if -(2 ^ 62) ≤ j ∧ j.toNat < 2 ^ 62 then .ok (rngD 0 j.toNat, p.2) else .bad
  | _ => .bad
@[simp] theorem e_mIR1 {m : MA} {δ : List Sl} : mIR1 m δ = (m δ >>= rng1) := (rfl)
theorem rng_map (n : Nat) : rngD 0 n = (List.range n).map fun (k : Nat) => D.int (k : Int) := by
  unfold rngD
  refine List.map_congr_left fun k _ => ?_
  simp
@[simp] theorem rng1_nat {n : Nat} {δ : List Sl} (h : n ≤ 1000000) : rng1 ([.im (.int (n : Nat))], δ) = .ok ((List.range n).map fun (k : Nat) => D.int (k : Int), δ) := by
  unfold rng1
  simp only
  rw [if_pos ⟨by omega, by omega⟩, Int.toNat_natCast, rng_map]
theorem rng1_lit {k : Int} {n : Nat} {δ : List Sl} (e : k = (n : Nat)) (h : n ≤ 1000000) : rng1 ([.im (.int k)], δ) = .ok ((List.range n).map fun (k : Nat) => D.int (k : Int), δ) := by
  rw [e, rng1_nat h]
theorem e_mIR3 {m : MA} {δ : List Sl} : mIR3 m δ = (m δ >>= fun p => match p.1 with
  | [.im (.int i), .im (.int j), .im (.int c)] => if c ≠ 0 ∧ c.natAbs < 1073741824 ∧ i.natAbs < 1073741824 ∧ j.natAbs < 1073741824 then .ok ((List.range (Builtin.Range.rangeSize i j c).toNat).map fun (k : Nat) => D.int (i + (k : Int) * c), p.2) else .bad
  | _ => .bad) := (rfl)
@[simp] theorem e_mIZ {m : MA} {δ : List Sl} : mIZ m δ = (m δ >>= fun p => R.ofO (two2 p.1) >>= fun q => R.ofO (asL q.1) >>= fun x => R.ofO (asL q.2) >>= fun y => if x.1 = y.1 then .ok (zipDs x.2 y.2, p.2) else .bad) := (rfl)
@[simp] theorem e_mIEn {m : MA} {δ : List Sl} : mIEn m δ = (m δ >>= fun p => R.ofO (one1 p.1) >>= fun d => match d with
  | .lst xs => .ok (enumDs xs, p.2)
  | _ => .bad) := (rfl)
@[simp] theorem e_mIEnT {m : MA} {δ : List Sl} : mIEnT m δ = (m δ >>= fun p => R.ofO (one1 p.1) >>= fun d => match d with
  | .tup xs => .ok (enumDs xs, p.2)
  | _ => .bad) := (rfl)
@[simp] theorem e_one1 {x : D} : one1 [.im x] = some x := (rfl)
@[simp] theorem e_two2 {x y : D} : two2 [.im x, .im y] = some (x, y) := (rfl)
@[simp] theorem e_asL1 {ds : List D} : asL (.lst ds) = some (true, ds) := (rfl)
@[simp] theorem e_asL2 {ds : List D} : asL (.tup ds) = some (false, ds) := (rfl)
@[simp] theorem e_gN {i : Nat} {d : D} {δ : List Sl} : gN i d δ = stor i (.im d) δ := (rfl)
@[simp] theorem e_gT {n : Nat} {m : MGs} {ds : List D} {δ : List Sl} : gT n m (.tup ds) δ = if ds.length = n then m ds δ else .bad := (rfl)
@[simp] theorem e_gsC {m : MG} {n : MGs} {d : D} {r : List D} {δ : List Sl} : gsC m n (d :: r) δ = (m d δ >>= fun δ1 => n r δ1) := (rfl)
@[simp] theorem e_gsN {δ : List Sl} : gsN [] δ = .ok δ := (rfl)
@[simp] theorem e_mCB (f : List D → Option D) (m : MA) {δ : List Sl} : mCB f m δ = (m δ >>= fun p => R.ofO (resL p.2 p.1) >>= fun ds => R.ofO (f ds) >>= fun d => .ok (.im d, p.2)) := (rfl)
@[simp] theorem e_mCO (f : List D → Option (List D)) (m : MA) {δ : List Sl} : mCO f m δ = (m δ >>= fun p => R.ofO (resL p.2 p.1) >>= fun ds => R.ofO (f ds) >>= fun d => .ok (lsT d, p.2)) := (rfl)
@[simp] theorem e_oCB (f : List D → Option (List D)) (m : MXs) {δ : List Sl} : oCB f m δ = (R.ofO ((m δ).bind f) >>= fun d => .ok (lsT d, δ)) := (rfl)
@[simp] theorem e_oMt (T : String) (f : D → List D → Option (List D)) (m : MX) (ms : MXs) {δ : List Sl} : oMt T f m ms δ = (R.ofO (m δ) >>= fun x => if tyD T x = true then R.ofO ((ms δ).bind fun xs => f x xs) >>= fun ds => .ok (lsT ds, δ) else .bad) := (rfl)
@[simp] theorem e_xMt (T : String) (f : D → List D → Option D) (m : MX) (ms : MXs) {δ : List Sl} : xMt T f m ms δ = ((m δ).bind fun x => if tyD T x = true then (ms δ).bind fun xs => f x xs else none) := (rfl)
@[simp] theorem e_mMt (T : String) (f : D → List D → Option D) (mo : ME) (m : MA) {δ : List Sl} : mMt T f mo m δ = (mo δ >>= fun p => R.ofO (resO p.2 p.1) >>= fun d0 => if tyD T d0 = true then m p.2 >>= fun q => R.ofO (resO q.2 p.1) >>= fun dx => R.ofO (resL q.2 q.1) >>= fun ds =>
  R.ofO (f dx ds) >>= fun d => .ok (.im d, q.2) else .bad) := (rfl)
@[simp] theorem e_resO1 {δ : List Sl} {d : D} : resO δ (.im d) = some d := (rfl)
@[simp] theorem e_resO2 {δ : List Sl} {i : Nat} : resO δ (.sl i) = (ownAt δ i).bind Tr.flat := (rfl)
@[simp] theorem e_resL0 {δ : List Sl} : resL δ [] = some [] := (rfl)
@[simp] theorem e_resL1 {δ : List Sl} {x : Vl} {r : List Vl} : resL δ (x :: r) = match resO δ x with
    | some d => (resL δ r).map (d :: ·)
    | none => none := (rfl)
@[simp] theorem e_ims0 : imsO [] = some [] := (rfl)
@[simp] theorem e_ims1 {d : D} {r : List Vl} : imsO (.im d :: r) = (imsO r).map (d :: ·) := (rfl)
@[simp] theorem e_stor {i : Nat} {s : Sl} {δ : List Sl} : stor i s δ = match δ[i]? with
  | none => .bad
  | some (.io _) => .bad
  | some _ => .ok (δ.set i s) := (rfl)
@[simp] theorem e_mV {i : Nat} {δ : List Sl} : mV i δ = match δ[i]? with
  | some (.im d) => .ok (.im d, δ)
  | some (.ow _) => .ok (.sl i, δ)
  | some (.io _) => .ok (.sl i, δ)
  | _ => .bad := (rfl)
@[simp] theorem e_mM {i : Nat} {δ : List Sl} : mM i δ = match δ[i]? with
  | some (.im d) => .ok (.im d, δ)
  | some (.ow t) => .ok (.im t.dat, δ.set i (.im t.dat))
  | _ => .bad := (rfl)
@[simp] theorem e_mRetS {i : Nat} {δ : List Sl} : mRetS i δ = match δ[i]? with
  | some (.ow t) => .ok (.rt t (δ.set i .un))
  | _ => .bad := (rfl)
@[simp] theorem e_mRetO {m : MO} {δ : List Sl} : mRetO m δ = (m δ >>= fun p => .ok (.rt p.1 p.2)) := (rfl)
@[simp] theorem e_mNx {δ : List Sl} : mNx δ = .ok (.nx δ) := (rfl)
@[simp] theorem e_mIfS {c : MT} {m n : MS} {δ : List Sl} : mIfS c m n δ = (c δ >>= fun p => if p.1 = true then m p.2 else n p.2) := (rfl)
@[simp] theorem e_mApp {i : Nat} {m : MO} {δ : List Sl} : mApp i m δ = match ownAt δ i with
  | some (.o .l _) => m δ >>= fun p => (match ownAt p.2 i with
    | some (.o .l ts) => if ts.length < sizeLine then .ok (.im .non, putP p.2 i [] (.o .l (ts ++ [p.1]))) else .bad
    | _ => .bad)
  | _ => .bad := (rfl)
@[simp] theorem e_mAppP {mp : MP} {m : MX} {δ : List Sl} : mAppP mp m δ = (R.ofO (mp δ) >>= fun r => R.ofO (m δ) >>= fun d => match r.2.2 with
  | .o .l ts => if ts.length < sizeLine then .ok (.im .non, putP δ r.1 r.2.1 (.o .l (ts ++ [.d d]))) else .bad
  | _ => .bad) := (rfl)
/-- what pop takes -/
def popAt (i : Nat) (p : Vl × List Sl) : R (Vl × List Sl) := match ownAt p.2 i, p.1 with
    | some (.o .l ts), .im (.int k) => if -(2 ^ 63) ≤ k ∧ k.toNat < 2 ^ 63 then R.ofO (ixN ts.length k) >>= fun j => (match ts[j]? with
      | some (.d d) => .ok (.im d, putP p.2 i [] (.o .l (ts.eraseIdx j)))
      | _ => .bad) else .bad
    | _, _ => .bad
@[simp] theorem e_mPop {i : Nat} {m : ME} {δ : List Sl} : mPop i m δ = match ownAt δ i with
  | some (.o .l _) => m δ >>= popAt i
  | _ => .bad := (rfl)
theorem popAt_eq {i k : Nat} {δ : List Sl} {ts : List Tr} {d : D} (h : ownAt δ i = some (.o .l ts)) (hk : k < 1000000) (hd : ts[k]? = some (.d d)) : popAt i (.im (.int (k : Nat)), δ) = .ok (.im d, putP δ i [] (.o .l (ts.eraseIdx k))) := by
  have hl : k < ts.length := (List.getElem?_eq_some_iff.mp hd).1
  have hi : ixN ts.length (k : Int) = some k := by
    unfold ixN
    simp; omega
  unfold popAt
  rw [h]
  simp only
  rw [if_pos ⟨by omega, by omega⟩, hi]
  simp only [R.ofO_some, R.ok_bind, hd]
@[simp] theorem e_putP {δ : List Sl} {i : Nat} {π : List Nat} {u : Tr} : putP δ i π u = match ownAt δ i with
  | some t => putAt δ i (t.put π u)
  | none => δ := (rfl)
@[simp] theorem e_putAt {δ : List Sl} {i : Nat} {t : Tr} : putAt δ i t = match δ[i]? with
  | some s => δ.set i (s.put t)
  | none => δ := (rfl)
@[simp] theorem e_mLst1 {m : MO} {δ : List Sl} : mLst1 m δ = (m δ >>= fun p => .ok (.o .l [p.1], p.2)) := (rfl)
@[simp] theorem e_mChain (f g : D → D → Option D) (ma mb mc : ME) {δ : List Sl} : mChain f g ma mb mc δ = (ma δ >>= fun p => mb p.2 >>= fun q => match q.1 with
  | .sl _ => .bad
  | .im y => R.ofO (resO q.2 p.1) >>= fun x => R.ofO (f x y) >>= fun k => match k with
    | .bl true => mc q.2 >>= fun r => R.ofO (resO r.2 r.1) >>= fun z => R.ofO (g y z) >>= fun d => .ok (.im d, r.2)
    | .bl false => .ok (.im (.bl false), q.2)
    | _ => .bad) := (rfl)
@[simp] theorem e_mBinO (op : D → D → Option (List D)) (ma mb : ME) {δ : List Sl} : mBinO op ma mb δ = (ma δ >>= fun p => mb p.2 >>= fun q => R.ofO (resO q.2 p.1) >>= fun a => R.ofO (resO q.2 q.1) >>= fun b => R.ofO (op a b) >>= fun d => .ok (lsT d, q.2)) := (rfl)
@[simp] theorem e_mMk {C : Addr} {f : Fn} {m : MA} {δ : List Sl} : mMk C f m δ = (m δ >>= fun q => R.ofO (callIn q.2 q.1) >>= fun ts => mkR q.2 q.1 (f (.o (.i C []) [] :: ts))) := (rfl)
@[simp] theorem e_mkR {δ : List Sl} {xs : List Vl} {t : Tr} {os : List Tr} : mkR δ xs (.ok (.d .non, t :: os)) = .ok (t, outS δ xs os) := (rfl)
@[simp] theorem e_mMethO {C : Addr} {me : Str} {f : Fn} {mo : ME} {ma : MA} {δ : List Sl} : mMethO C me f mo ma δ = (mo δ >>= fun p => if insOk C me p.2 p.1 = true then ma p.2 >>= fun q => R.ofO (callIn q.2 (p.1 :: q.1)) >>= fun ts => retO q.2 (p.1 :: q.1) (f ts) else .bad) := (rfl)
@[simp] theorem e_ptI {m : MX} {δ : List Sl} : ptI m δ = ((m δ).bind fun d => match d with
  | .int k => some (some k)
  | _ => none) := (rfl)
@[simp] theorem e_pt0 {δ : List Sl} : pt0 δ = some none := (rfl)
@[simp] theorem e_xSl {f : D → Option Int → Option Int → Option D} {m : MX} {l h : MPt} {δ : List Sl} : xSl f m l h δ = ((m δ).bind fun x => (l δ).bind fun lo => (h δ).bind fun hi => f x lo hi) := (rfl)
@[simp] theorem e_oSl {m : MX} {l h : MPt} {δ : List Sl} : oSl m l h δ = (R.ofO ((m δ).bind fun x => (l δ).bind fun lo => (h δ).bind fun hi => slL x lo hi) >>= fun ds => .ok (lsT ds, δ)) := (rfl)
@[simp] theorem e_strs0 : strsD [] = some [] := (rfl)
theorem strs_map {α : Type} {f : α → Str} : ∀ xs : List α, strsD (xs.map fun x => .str (f x)) = some (xs.map f)
  | [] => rfl
  | x :: xs => by simp [strsD, strs_map xs]
@[simp] theorem e_strsM {α : Type} {f : α → Str} {xs : List α} : strsD (xs.map fun x => .str (f x)) = some (xs.map f) := strs_map xs
@[simp] theorem e_strsS {xs : List Str} : strsD (xs.map D.str) = some xs := by simpa using strs_map (f := id) xs
theorem bls_map {α : Type} {f : α → Bool} : ∀ xs : List α, blsD (xs.map fun x => .bl (f x)) = some (xs.map f)
  | [] => rfl
  | x :: xs => by simp [blsD, bls_map xs]
@[simp] theorem e_blsM {α : Type} {f : α → Bool} {xs : List α} : blsD (xs.map fun x => .bl (f x)) = some (xs.map f) := bls_map xs
@[simp] theorem e_bls0 : blsD [] = some [] := (rfl)
@[simp] theorem e_bls1 {b : Bool} {r : List D} : blsD (.bl b :: r) = (blsD r).map (b :: ·) := (rfl)
@[simp] theorem e_ints0 : intsD [] = some [] := (rfl)
@[simp] theorem e_ints1 {b : Int} {r : List D} : intsD (.int b :: r) = (intsD r).map (b :: ·) := (rfl)
@[simp] theorem e_strs1 {b : Str} {r : List D} : strsD (.str b :: r) = (strsD r).map (b :: ·) := (rfl)
theorem ints_map {α : Type} {f : α → Int} : ∀ xs : List α, intsD (xs.map fun x => .int (f x)) = some (xs.map f)
  | [] => rfl
  | x :: xs => by simp [intsD, ints_map xs]
@[simp] theorem e_intsM {α : Type} {f : α → Int} {xs : List α} : intsD (xs.map fun x => .int (f x)) = some (xs.map f) := ints_map xs
@[simp] theorem e_allL {ds : List D} : allD [.lst ds] = (blsD ds).map fun ns => .bl (ns.all id) := (rfl)
@[simp] theorem e_sumL {ds : List D} : sumD [.lst ds] = (intsD ds).map fun ns => .int ns.sum := (rfl)
@[simp] theorem e_tyS : tyD "str" (.str s) = true := (rfl)
@[simp] theorem e_lenS {z : Str} : lenD [.str z] = if z.length ≤ sizeLine then some (.int z.length) else none := (rfl)
@[simp] theorem e_tupL {ds : List D} : tupD [.lst ds] = some (.tup ds) := (rfl)
@[simp] theorem e_tupT {ds : List D} : tupD [.tup ds] = some (.tup ds) := (rfl)
@[simp] theorem e_listL {ds : List D} : listD [.lst ds] = some ds := (rfl)
@[simp] theorem e_listT {ds : List D} : listD [.tup ds] = some ds := (rfl)
@[simp] theorem e_joinL {a : Str} {ds : List D} : joinD (.str a) [.lst ds] = (strsD ds).bind fun ys => if (ys.map (·.length)).sum + ys.length * a.length ≤ 16777216 then some (.str (Txt.join a ys)) else none := (rfl)
@[simp] theorem e_joinT {a : Str} {ds : List D} : joinD (.str a) [.tup ds] = (strsD ds).bind fun ys => if (ys.map (·.length)).sum + ys.length * a.length ≤ 16777216 then some (.str (Txt.join a ys)) else none := (rfl)
@[simp] theorem e_splitD {a b : Str} : splitD (.str a) [.str b] = if (b.length == 0) = false ∧ a.length + 2 ≤ sizeLine then some ((Txt.split a b).map .str) else none := (rfl)
@[simp] theorem e_addS {a b : Str} : addS (.str a) (.str b) = if a.length + b.length ≤ sizeLine then some (.str (a ++ b)) else none := (rfl)
@[simp] theorem e_eqI {a b : Int} : eqD (.int a) (.int b) = some (.bl (decide (a = b))) := (rfl)
@[simp] theorem e_eqSt {a b : Str} : eqD (.str a) (.str b) = some (.bl (decide (a = b))) := (rfl)
@[simp] theorem e_neI {a b : Int} : neD (.int a) (.int b) = some (.bl (!decide (a = b))) := (rfl)
@[simp] theorem e_neB {a b : Bool} : neD (.bl a) (.bl b) = some (.bl (!decide (a = b))) := (rfl)
@[simp] theorem e_inC {x : Nat} {z : Str} {n : Bool} : inC n (.str ⟨#[x]⟩) (.str z) = some (.bl (n ^^ decide (x ∈ z.cps.toList))) := (rfl)
@[simp] theorem e_isDI : isD "int" (.int i) = some (.bl true) := (rfl)
@[simp] theorem e_isDIb : isD "bool" (.int i) = some (.bl false) := (rfl)
@[simp] theorem e_isDS : isD "str" (.str s) = some (.bl true) := (rfl)
theorem e_mul {a b : Int} : mulI (.int a) (.int b) = if (-(2 ^ 64) < a ∧ a.toNat < 2 ^ 64) ∨ (-(2 ^ 64) < b ∧ b.toNat < 2 ^ 64) then some (.int (a * b)) else none := (rfl)
@[simp] theorem e_neg {a : Int} : negI (.int a) = some (.int (-a)) := (rfl)
@[simp] theorem e_ixL {ds : List D} {k : Int} : ixD (.lst ds) (.int k) = (ixN ds.length k).bind fun j => ds[j]? := (rfl)
@[simp] theorem e_ixT {ds : List D} {k : Int} : ixD (.tup ds) (.int k) = (ixN ds.length k).bind fun j => ds[j]? := (rfl)
@[simp] theorem e_ixS {z : Str} {k : Int} : ixD (.str z) (.int k) = if z.length ≤ sizeLine then (ixN z.length k).bind fun j => (z.cps.toList[j]?).map fun c => .str ⟨#[c]⟩ else none := (rfl)
@[simp] theorem all_const {α : Type} {xs : List α} : (xs.all fun _ => true) = true := List.all_eq_true.mpr fun _ _ => rfl
@[simp] theorem e_lsT {ds : List D} : lsT ds = .o .l (ds.map .d) := (rfl)
@[simp] theorem e_starts {a b : Str} : startsD (.str a) [.str b] = some (.bl (Txt.startswith a b)) := (rfl)
@[simp] theorem e_truS {s : Str} : truD (.str s) = if s.length ≤ sizeLine then some (s.length != 0) else none := (rfl)
@[simp] theorem e_truL {ds : List D} : truD (.lst ds) = some (!ds.isEmpty) := (rfl)
@[simp] theorem e_catL {a b : List D} : catL (.lst a) (.lst b) = if a.length + b.length ≤ sizeLine then some (a ++ b) else none := (rfl)
@[simp] theorem e_slS {z : Str} {lo hi : Option Int} : slS (.str z) lo hi = if z.length ≤ sizeLine then some (.str (cutS z lo hi)) else none := (rfl)
@[simp] theorem e_slT {ds : List D} {lo hi : Option Int} : slS (.tup ds) lo hi = some (.tup (cutD ds lo hi)) := (rfl)
@[simp] theorem e_slL {ds : List D} {lo hi : Option Int} : slL (.lst ds) lo hi = some (cutD ds lo hi) := (rfl)
@[simp] theorem ix_last {n : Nat} : ixN (n + 1) (-1) = some n := by
  unfold ixN
  simp
  try omega
@[simp] theorem ix_0 {n : Nat} : ixN (n + 1) 0 = some 0 := by
  unfold ixN
  simp
  try omega
theorem ix_nat {n k : Nat} (h : k < n) : ixN n (k : Int) = some k := by
  unfold ixN
  simp
  try omega
@[simp] theorem cut_last {xs : List D} {a : D} : cutD (xs ++ [a]) none (some (-1)) = xs := by
  have h : ((-1 : Int) + ((xs.length : Int) + 1)).toNat = xs.length := by omega
  simp [cutD, HT.sIx, h]
@[simp] theorem cut_tail {xs : List D} {a : D} : cutD (a :: xs) (some 1) none = xs := by
  simp [cutD, HT.sIx]
theorem cut_drop2 {xs : List D} {a b : D} : cutD (a :: b :: xs) (some 2) none = xs := by
  have h : min 2 (xs.length + 1 + 1) = 2 := by omega
  simp [cutD, HT.sIx, h]
theorem ix_lit {n : Nat} {k : Int} (h : 0 ≤ k) (h2 : k < n) : ixN n k = some k.toNat := by
  unfold ixN
  simp [h, h2]
  try omega
/-- the slot of a loop's name -/
def lastS {α : Type} (e : α → D) (pre : List α) : Sl := match pre.getLast? with
  | none => .un
  | some x => .im (e x)
@[simp] theorem last_nil {α : Type} {e : α → D} : lastS e [] = .un := (rfl)
@[simp] theorem last_app {α : Type} {e : α → D} {pre : List α} {x : α} : lastS e (pre ++ [x]) = .im (e x) := by simp [lastS]
theorem last_cases {α : Type} (e : α → D) (pre : List α) : lastS e pre = .un ∨ ∃ d, lastS e pre = .im d := by
  unfold lastS
  cases pre.getLast? with
  | none => exact .inl rfl
  | some x => exact .inr ⟨_, rfl⟩
end G8
/-! P2: the texts of rules. -/
namespace G8
open PySem L2 GX TL
variable {K : PySem.W.Frag}
abbrev sL (ss : List Str) : D := .lst (ss.map .str)
abbrev sT (ss : List Str) : D := .tup (ss.map .str)
abbrev nT (ns : List Nat) : D := .tup (ns.map fun n => .int (n : Nat))
abbrev nL (ns : List Nat) : D := .lst (ns.map fun n => .int (n : Nat))
theorem integral_eq {i : Int} : f_integral K [.d (.int i)] = .ok (.d (.bl true), [.d (.int i)]) := by
  simp [f_integral, runF, m_integral]
theorem need_eq {l : Int} {w : Str} : f_need K [.d (.bl true), .d (.int l), .d (.str w)] = .ok (.d .non, [.d (.bl true), .d (.int l), .d (.str w)]) := by
  simp [f_need, runF, m_need]
structure Word (s : Str) : Prop where
  ne : s.length ≠ 0
  le : s.length ≤ 9
  sp : 32 ∉ tl s
  nl : 10 ∉ tl s
  lt : ∀ c ∈ tl s, c < 128
abbrev joinW (ws : List Str) : Str := Txt.join " " ws
theorem sum_le {α : Type} {f : α → Nat} {b : Nat} : ∀ xs : List α, (∀ x ∈ xs, f x ≤ b) → (xs.map f).sum ≤ xs.length * b
  | [], _ => by simp
  | x :: xs, h => by
    have := sum_le xs fun y hy => h y (List.mem_cons_of_mem _ hy)
    have := h x List.mem_cons_self
    simp only [List.map_cons, List.sum_cons, List.length_cons, Nat.succ_mul]
    omega
theorem tl_joinW (ws : List Str) : tl (joinW ws) = joinL [32] (ws.map tl) := by
  unfold joinW
  rw [join_eq, tl_join]
  rfl
theorem len_joinW (ws : List Str) : (joinW ws).length ≤ (ws.map (·.length)).sum + ws.length := by
  have := StrLaws.join_length_le " " ws
  unfold joinW
  rw [join_eq]
  have e : (" " : Str).length = 1 := by decide +kernel
  rw [e] at this
  omega
theorem len_joinW2 {ws : List Str} (h : ∀ w ∈ ws, Word w) (hl : ws.length ≤ 1000) : (joinW ws).length ≤ 10000 := by
  have := len_joinW ws
  have := sum_le (f := (·.length)) (b := 9) ws fun w hw => (h w hw).le
  omega
theorem words_of_eq {ws : List Str} (h : ∀ w ∈ ws, Word w) (hn : ws ≠ []) (hl : ws.length ≤ 1000) : f_words_of K [.d (.str (joinW ws))] = .ok (.d (sL ws), [.d (.str (joinW ws))]) := by
  have e1 : ((" " : Str).length == 0) = false := by decide +kernel
  have e2 : (joinW ws).length + 2 ≤ sizeLine := by
    have := len_joinW2 h hl
    unfold sizeLine
    omega
  have e3 : Txt.split (joinW ws) " " = ws := split_join (s := 32) (S := []) (by decide +kernel) (by decide +kernel) hn fun p hp => (h p hp).sp
  simp [f_words_of, runF, m_words_of, e1, e2, e3]
  rw [lc_filter (e := D.str) (p := fun _ => true) (f := fun x => .d (.str x)) (by unfold sizeLine; omega) rfl (fun w hw => ?_) fun w hw _ => ?_]
  · simp [List.filter_eq_self.mpr]
  · have := (h w hw).le
    simp [(h w hw).ne, show w.length ≤ sizeLine from by unfold sizeLine; omega]
  · simp
/-! ### a text of lines -/
abbrev textL (ls : List Str) : Str := Txt.join "\n" (ls ++ [("" : Str)])
theorem joinL_ends (S : List Nat) : ∀ ls : List (List Nat), joinL S (ls ++ [[]]) = (ls.map (· ++ S)).flatten
  | [] => rfl
  | [a] => by simp [joinL]
  | a :: b :: r => by
    have := joinL_ends S (b :: r)
    simp only [List.cons_append] at this
    simp only [List.cons_append, joinL, this, List.map_cons, List.flatten_cons, List.append_assoc]
theorem joinL_nil : ∀ ls : List (List Nat), joinL [] ls = ls.flatten
  | [] => rfl
  | [a] => by simp [joinL]
  | a :: b :: r => by
    have := joinL_nil (b :: r)
    simp only [joinL, this, List.flatten_cons, List.nil_append]
theorem tl_textL (ls : List Str) : tl (textL ls) = (ls.map fun l => tl l ++ [10]).flatten := by
  unfold textL
  rw [join_eq, tl_join, show tl ("\n" : Str) = [10] from by decide +kernel, List.map_append, show ([("" : Str)] : List Str).map tl = [[]] from by decide +kernel, joinL_ends, List.map_map]
  rfl
theorem textL_eq (ls : List Str) : Txt.join "" (ls.map fun l => l ++ "\n") = textL ls := by
  refine ext_tl ?_
  rw [tl_textL, join_eq, tl_join, show tl ("" : Str) = [] from by decide +kernel, joinL_nil, List.map_map]
  congr 1
  refine List.map_congr_left fun l _ => ?_
  simp only [Function.comp, tl_append]
  rw [show tl ("\n" : Str) = [10] from by decide +kernel]
theorem len_textL (ls : List Str) : (textL ls).length = (ls.map fun l => l.length + 1).sum := by
  rw [len_tl, tl_textL, List.length_flatten, List.map_map]
  congr 1
  refine List.map_congr_left fun l _ => ?_
  simp [len_tl]
theorem text_of_eq {ls : List Str} (hl : ls.length ≤ 1000) (h : ∀ l ∈ ls, l.length ≤ 10000) : f_text_of K [.d (sL ls)] = .ok (.d (.str (textL ls)), [.d (sL ls)]) := by
  have z : ("" : Str).length = 0 := by decide +kernel
  have z1 : ("\n" : Str).length = 1 := by decide +kernel
  simp [f_text_of, runF, m_text_of]
  rw [lc_map (e := D.str) (f := fun x => .d (.str (x ++ "\n"))) (by unfold sizeLine; omega) rfl fun w hw => ?_]
  · have := sum_le (f := fun l => (l ++ ("\n" : Str)).length) (b := 10001) ls fun l hl => by rw [Str.length_append, z1]; have := h l hl; omega
    simp [Function.comp_def, textL_eq, z]
    rw [if_pos (by omega)]
    simp
  · have := h w hw
    simp [z1, show w.length + 1 ≤ sizeLine from by unfold sizeLine; omega]
theorem joinL_free {s : Nat} {S : List Nat} (hs : s ∉ S) : ∀ {ls : List (List Nat)}, (∀ l ∈ ls, s ∉ l) → s ∉ joinL S ls
  | [], _ => by simp [joinL]
  | [a], h => h a List.mem_cons_self
  | a :: b :: r, h => by
    have h1 := h a List.mem_cons_self
    have h2 := joinL_free hs (ls := b :: r) fun l hl => h l (List.mem_cons_of_mem _ hl)
    simp only [joinL, List.mem_append, not_or]
    exact ⟨h1, hs, h2⟩
theorem enum_map {α : Type} {f : α → D} (xs : List α) : enumDs (xs.map f) = xs.zipIdx.map fun p => .tup [.int (p.2 : Nat), f p.1] := by
  unfold enumDs
  rw [List.zipIdx_map, List.map_map]
  rfl
theorem lines_of_eq {ls : List (List Str)} (h : ∀ l ∈ ls, l ≠ [] ∧ l.length ≤ 1000 ∧ ∀ w ∈ l, Word w) (hl : ls.length ≤ 1000) : f_lines_of K [.d (.str (textL (ls.map joinW)))] = .ok (.d (.lst (ls.zipIdx.map fun p => .tup [.int ((p.2 : Nat) + 1), sL p.1])), [.d (.str (textL (ls.map joinW)))]) := by
  have e1 : (("\n" : Str).length == 0) = false := by decide +kernel
  have e2 : (textL (ls.map joinW)).length + 2 ≤ sizeLine := by
    rw [len_textL, List.map_map]
    have := sum_le (f := ((fun l => l.length + 1) ∘ joinW)) (b := 10001) ls fun l hl => by
      have := len_joinW2 (h l hl).2.2 (h l hl).2.1
      simp only [Function.comp]
      omega
    unfold sizeLine
    omega
  have e3 : Txt.split (textL (ls.map joinW)) "\n" = ls.map joinW ++ [("" : Str)] := split_join (s := 10) (S := []) (by decide +kernel) (by decide +kernel) (by simp) fun p hp => by
    rcases List.mem_append.mp hp with hp | hp
    · obtain ⟨l, hl, rfl⟩ := List.mem_map.mp hp
      rw [tl_joinW]
      exact joinL_free (by decide) fun q hq => by
        obtain ⟨w, hw, rfl⟩ := List.mem_map.mp hq
        exact ((h l hl).2.2 w hw).nl
    · rw [List.mem_singleton.mp hp]; decide +kernel
  simp [f_lines_of, runF, m_lines_of, e_seq, e1, e2, e3]
  rw [enum_map, lc_gen (p := fun _ => true) (f := fun (p : List Str × Nat) => .d (.tup [.int ((p.2 : Nat) + 1), sL p.1])) (e := fun (p : List Str × Nat) => .tup [.int (p.2 : Nat), .str (joinW p.1)])]
  · simp [List.filter_eq_self.mpr]
  · simp; unfold sizeLine; omega
  · intro x hx
    have hm := h _ (List.fst_mem_of_mem_zipIdx hx)
    simp [mYes, words_of_eq hm.2.2 hm.1 hm.2.1]
/-! ### names -/
def signs : List Nat := tl ("abcdefghijklmnopqrstuvwxyz0123456789" : Str)
def alphas : List Nat := tl ("abcdefghijklmnopqrstuvwxyz" : Str)
def kept : List Str := ["rule", "letters", "sides", "done", "scatter", "looks", "look", "kinds", "at", "clock", "row", "hand", "as", "none"]
structure IsName (s : Str) : Prop where
  ne : 1 ≤ s.length
  le : s.length ≤ 6
  hd : ∃ c r, tl s = c :: r ∧ c ∈ alphas
  kp : s ∉ kept
  al : ∀ c ∈ tl s, c ∈ signs
theorem sgn_map (s : Str) : sgnD s = (tl s).map fun c => .str ⟨#[c]⟩ := rfl
theorem inV_str {s : Str} (ks : List Str) : inV (.str s) (ks.map .str) = ks.any (· == s) := by
  unfold inV
  rw [List.any_map]
  rfl
theorem is_name_eq {s : Str} (h : IsName s) : f_is_name K [.d (.str s)] = .ok (.d (.bl true), [.d (.str s)]) := by
  obtain ⟨c, r, e, hc⟩ := h.hd
  have h1 := h.ne
  have h2 := h.le
  have hz : s.length ≤ sizeLine := by unfold sizeLine; omega
  have e1 : ixD (.str s) (.int 0) = some (.str ⟨#[c]⟩) := by
    have : ixN s.length 0 = some 0 := ix_lit (by omega) (by omega)
    rw [e_ixS, if_pos hz, this]
    show (((tl s)[0]?).map _) = _
    rw [e]
    rfl
  have e2 : inSeq false (.str s) (.ktp (kept.map .str)) = some (.bl false) := by
    have : ((kept.map D.str).map toV) = kept.map V.str := rfl
    simp only [inSeq, toV, this, inV_str]
    have : (kept.any (· == s)) = false := by
      rw [List.any_eq_false]
      intro x hx hb
      exact h.kp (by rw [← eq_of_beq hb]; exact hx)
    rw [this, if_pos ⟨rfl, by decide +kernel⟩]
    rfl
  have e3 : c ∈ ("abcdefghijklmnopqrstuvwxyz" : Str).cps.toList := hc
  unfold kept at e2
  simp only [List.map_cons, List.map_nil] at e2
  simp [f_is_name, runF, m_is_name, e_seq, hz, h1, h2, e1, e2, e3, show (1 : Int) ≤ s.length by omega, show (s.length : Int) ≤ 6 by omega]
  rw [sgn_map, lc_map (f := fun _ => .d (.bl true)) (by rw [← len_tl]; exact hz) rfl fun x hx => ?_]
  · simp
  · have : x ∈ ("abcdefghijklmnopqrstuvwxyz0123456789" : Str).cps.toList := h.al x hx
    simp [this]
theorem unl_nodup : ∀ {ys : List Str}, ys.Nodup → unl ys = ys.length
  | [], _ => rfl
  | x :: l, h => by
    have h := List.nodup_cons.mp h
    have : (l.any (· == x)) = false := by
      rw [List.any_eq_false]
      intro y hy hb
      exact h.1 (by rw [← eq_of_beq hb]; exact hy)
    simp [unl, this, unl_nodup h.2]
theorem lenSet_eq {ls : List Str} (h : ls.Nodup) (hl : ls.length < 1000) : lenSetD (sL ls) = some (.int ls.length) := by
  simp [lenSetD, hl, unl_nodup ((List.reverse_perm ls).nodup_iff.mpr h)]
theorem checked_letters_eq {ls : List Str} {l : Int} (h : ∀ s ∈ ls, IsName s) (hn : ls.Nodup) (h0 : ls ≠ []) (hl : ls.length ≤ 40) : f_checked_letters K [.d (sL ls), .d (.int l)] = .ok (.d (sT ls), [.d (sL ls), .d (.int l)]) := by
  have h3 : 0 < ls.length := List.length_pos_iff.mpr h0
  simp [f_checked_letters, runF, m_checked_letters, e_seq, h3, need_eq]
  rw [lc_map (f := fun _ => .d (.bl true)) (by unfold sizeLine; omega) rfl fun x hx => ?_]
  · simp [need_eq, lenSet_eq hn (by omega), show ¬ (40 : Int) < ls.length by omega]
  · simp [is_name_eq (h x hx)]
/-! ### sides -/
structure Sides (ss : List Nat) : Prop where
  len : ss.length = 1 ∨ ss.length = 2
  lo : ∀ s ∈ ss, 2 ≤ s ∧ s ≤ 9
  pr : ss.prod ≤ 16
theorem prod_app {xs : List Nat} {x : Nat} : (xs ++ [x]).prod = xs.prod * x := by simp
theorem prod_pos : ∀ {ss : List Nat}, (∀ s ∈ ss, 2 ≤ s ∧ s ≤ 9) → 0 < ss.prod
  | [], _ => by simp
  | s :: ss, h => by
    have := (h s List.mem_cons_self).1
    have := prod_pos fun z hz => h z (List.mem_cons_of_mem _ hz)
    simp only [List.prod_cons]
    exact Nat.mul_pos (by omega) this
theorem mulI_le {a b : Nat} (h : a ≤ 1000) (h2 : b ≤ 1000) : mulI (.int a) (.int b) = some (.int ((a * b : Nat) : Int)) := by
  rw [e_mul, if_pos (by omega)]
  simp
theorem prod_le {ss pre post : List Nat} {x : Nat} (h : Sides ss) (e : pre ++ x :: post = ss) : pre.prod ≤ 16 := by
  have h1 := h.pr
  have h2 := h.lo
  rw [← e] at h1 h2
  have h3 : 0 < (x :: post).prod := prod_pos fun z hz => h2 z (List.mem_append_right _ hz)
  rw [List.prod_append] at h1
  exact Nat.le_trans (Nat.le_mul_of_pos_right _ h3) h1
theorem checked_sides_eq {ss : List Nat} {l : Int} (h : Sides ss) : f_checked_sides K [.d (nL ss), .d (.int l)] = .ok (.d (nT ss), [.d (nL ss), .d (.int l)]) := by
  have h1 : 1 ≤ (ss.length : Int) := by have := h.len; omega
  have h2 : (ss.length : Int) ≤ 2 := by have := h.len; omega
  have h5 : ss.length ≤ sizeLine := by unfold sizeLine; omega
  simp [f_checked_sides, runF, m_checked_sides, e_seq, h1, h2, need_eq]
  rw [lc_map (e := fun (n : Nat) => .int n) (f := fun _ => .d (.bl true)) h5 rfl fun x hx => by simp [integral_eq]]
  simp [need_eq]
  rw [lc_map (e := fun (n : Nat) => .int n) (f := fun _ => .d (.bl true)) h5 rfl fun x hx => by
    have := (h.lo x hx).1
    simp [show (1 : Int) < x by omega]]
  simp [need_eq]
  have hf := for_eq (e := fun (n : Nat) => D.int n) (g := gN 3) (b := mSeq (mIfS (mB (mBin (cmpI (fun i j => decide (j < i))) (mX (xV 3)) (mX (xC (.int 9))))) mNever mNx) (mSet 2 (mX (xBin mulI (xR 2) (xR 3)))))
    (fun pre => [.im (nL ss), .im (.int l), .im (.int (pre.prod : Nat)), lastS (fun (n : Nat) => D.int n) pre]) ss fun pre x post e => by
    have hx := h.lo x (by rw [← e]; simp)
    have hm := mulI_le (a := pre.prod) (b := x) (Nat.le_trans (prod_le h e) (by omega)) (by omega)
    rcases last_cases (fun (n : Nat) => D.int n) pre with q | ⟨d, q⟩ <;> simp [q, e_seq, hm, show ¬ (9 : Int) < x by omega]
  simp at hf
  rw [hf]
  have := h.pr
  simp [show ¬ (16 : Int) < (ss.prod : Nat) by omega]
theorem checked_sides_T_eq {ss : List Nat} {l : Int} (h : Sides ss) : f_checked_sides_T K [.d (nT ss), .d (.int l)] = .ok (.d (nT ss), [.d (nT ss), .d (.int l)]) := by
  have h1 : 1 ≤ (ss.length : Int) := by have := h.len; omega
  have h2 : (ss.length : Int) ≤ 2 := by have := h.len; omega
  have h5 : ss.length ≤ sizeLine := by unfold sizeLine; omega
  simp [f_checked_sides_T, runF, m_checked_sides_T, e_seq, h1, h2, need_eq]
  rw [lc_map (e := fun (n : Nat) => .int n) (f := fun _ => .d (.bl true)) h5 rfl fun x hx => by simp [integral_eq]]
  simp [need_eq]
  rw [lc_map (e := fun (n : Nat) => .int n) (f := fun _ => .d (.bl true)) h5 rfl fun x hx => by
    have := (h.lo x hx).1
    simp [show (1 : Int) < x by omega]]
  simp [need_eq]
  have hf := for_eq (e := fun (n : Nat) => D.int n) (g := gN 3) (b := mSeq (mIfS (mB (mBin (cmpI (fun i j => decide (j < i))) (mX (xV 3)) (mX (xC (.int 9))))) mNever mNx) (mSet 2 (mX (xBin mulI (xR 2) (xR 3)))))
    (fun pre => [.im (nT ss), .im (.int l), .im (.int (pre.prod : Nat)), lastS (fun (n : Nat) => D.int n) pre]) ss fun pre x post e => by
    have hx := h.lo x (by rw [← e]; simp)
    have hm := mulI_le (a := pre.prod) (b := x) (Nat.le_trans (prod_le h e) (by omega)) (by omega)
    rcases last_cases (fun (n : Nat) => D.int n) pre with q | ⟨d, q⟩ <;> simp [q, e_seq, hm, show ¬ (9 : Int) < x by omega]
  simp at hf
  rw [hf]
  have := h.pr
  simp [show ¬ (16 : Int) < (ss.prod : Nat) by omega]
/-! ### numbers of one sign -/
def numS (n : Nat) : Str := Str.ofString (toString ((n : Nat) : Int))
theorem tl_numS {n : Nat} (h : n < 10) : tl (numS n) = [48 + n] := by
  unfold numS
  rw [tl_num, numL_lt h]
theorem len_numS {n : Nat} (h : n < 10) : (numS n).length = 1 := by rw [len_tl, tl_numS h]; rfl
theorem cps_numS {n : Nat} (h : n < 10) : (numS n).cps.toList = [48 + n] := tl_numS h
theorem sl_num {n : Nat} (h : n < 10) : Word (numS n) where
  ne := by rw [len_numS h]; decide
  le := by rw [len_numS h]; decide
  sp := by rw [tl_numS h]; simp; omega
  nl := by rw [tl_numS h]; simp; omega
  lt := by rw [tl_numS h]; simp; omega
theorem is_digits_eq {n : Nat} (h : n < 10) : f_is_digits K [.d (.str (numS n))] = .ok (.d (.bl true), [.d (.str (numS n))]) := by
  have hz : 1 ≤ sizeLine := by unfold sizeLine; omega
  have e1 : ixN 1 0 = some 0 := by decide
  have e2 : 48 + n ∈ ("0123456789" : Str).cps.toList := by
    show 48 + n ∈ tl ("0123456789" : Str)
    rw [show tl ("0123456789" : Str) = [48, 49, 50, 51, 52, 53, 54, 55, 56, 57] from by decide +kernel]
    simp; omega
  simp [f_is_digits, runF, m_is_digits, e_seq, len_numS h, hz, e1, cps_numS h]
  rw [sgn_map, tl_numS h, lc_map (f := fun _ => .d (.bl true)) (by simpa using hz) rfl fun x hx => ?_]
  · by_cases q : ({ cps := #[48 + n] } : Str) = ("0" : Str) <;> simp [q]
  · obtain rfl : x = 48 + n := by simpa using hx
    simp [e2]
theorem starts_not {a b : Str} {c : Nat} {r : List Nat} (ha : tl a = [c]) (hb : tl b = [45]) (h : c ≠ 45) : Txt.startswith a b = false := by
  have e1 : a = ⟨#[c]⟩ := ext_tl ha
  have e2 : b = ⟨#[45]⟩ := ext_tl hb
  subst e1 e2
  simp [Txt.startswith, Builtin.Str.subAt, Str.length, h]
theorem integer_of_eq {n : Nat} (h : n < 10) : f_integer_of K [.d (.str (numS n))] = .ok (.d (.int n), [.d (.str (numS n))]) := by
  have hz : 1 ≤ sizeLine := by unfold sizeLine; omega
  have e1 : Txt.startswith (numS n) "-" = false := starts_not (r := []) (tl_numS h) (by decide +kernel) (by omega)
  have e2 : intText? (numS n) = some (n : Int) := int_num (by rw [numL_lt h]; simp)
  have e3 : intS [.str (numS n)] = some (.int n) := by
    simp [intS, len_numS h, e2]
  simp [f_integer_of, runF, m_integer_of, e_seq, e1, is_digits_eq h, e3, cps_numS h]
theorem read_integer_eq {n : Nat} (h : n < 10) : f_read_integer K [.d (.str (numS n))] = .ok (.d (.int n), [.d (.str (numS n))]) := by
  simp [f_read_integer, runF, m_read_integer, integer_of_eq h]
/-! ### blocks -/
theorem in_seq {s : Str} {ls : List Str} (h : s ∈ ls) : inSeq false (.str s) (sT ls) = some (.bl true) := by
  have e : ((ls.map D.str).map toV) = ls.map V.str := by rw [List.map_map]; rfl
  have e2 : (ls.map D.str).all flatD = true := by
    rw [List.all_map, List.all_eq_true]
    intro x _; rfl
  simp only [inSeq, toV, e, inV_str]
  rw [if_pos ⟨rfl, e2⟩, List.any_eq_true.mpr ⟨s, h, by simp⟩]
  rfl
theorem checked_block_eq {bs ls : List Str} {ss : List Nat} {l : Int} (hs : Sides ss) (h : ∀ b ∈ bs, b ∈ ls) (hn : ∀ s ∈ ls, IsName s) (hb : bs.length = ss.prod) :
    f_checked_block K [.d (sL bs), .d (nT ss), .d (sT ls), .d (.int l)] = .ok (.d (sT bs), [.d (sL bs), .d (nT ss), .d (sT ls), .d (.int l)]) := by
  have hp := hs.pr
  have hf := for_eq (e := fun (n : Nat) => D.int n) (g := gN 5) (b := (mSet 4 (mX (xBin mulI (xR 4) (xR 5)))))
    (fun pre => [.im (sL bs), .im (nT ss), .im (sT ls), .im (.int l), .im (.int (pre.prod : Nat)), lastS (fun (n : Nat) => D.int n) pre, .un]) ss fun pre x post e => by
    have hx := hs.lo x (by rw [← e]; simp)
    have hm := mulI_le (a := pre.prod) (b := x) (Nat.le_trans (prod_le hs e) (by omega)) (by omega)
    rcases last_cases (fun (n : Nat) => D.int n) pre with q | ⟨d, q⟩ <;> simp [q, e_seq, hm]
  simp at hf
  simp [f_checked_block, runF, m_checked_block, e_seq]
  rw [hf]
  simp [hb, need_eq]
  rw [lc_map (f := fun _ => .d (.bl true)) (by unfold sizeLine; omega) rfl fun x hx => by simp [is_name_eq (hn x (h x hx)), in_seq (h x hx)]]
  simp [need_eq]
end G8
/-! P3: blocks and the reader of rules. -/
namespace G8
open PySem L2 GX TL
variable {K : PySem.W.Frag}
def glue : List (List Str) → List Str
  | [] => []
  | [p] => p
  | p :: q :: r => p ++ ("/" : Str) :: glue (q :: r)
def stepP (a : List (List Str) × List Str) (w : Str) : List (List Str) × List Str := if w = ("/" : Str) then (a.1 ++ [a.2], []) else (a.1, a.2 ++ [w])
theorem foldP_free : ∀ (p : List Str) (i : List (List Str)) (l : List Str), (∀ w ∈ p, w ≠ ("/" : Str)) → p.foldl stepP (i, l) = (i, l ++ p)
  | [], i, l, _ => by simp
  | w :: p, i, l, h => by
    rw [List.foldl_cons, show stepP (i, l) w = (i, l ++ [w]) from if_neg (h w List.mem_cons_self), foldP_free p i _ fun x hx => h x (List.mem_cons_of_mem _ hx)]
    simp
theorem foldP_glue : ∀ (p : List Str) (ps : List (List Str)) (i : List (List Str)) (l : List Str), (∀ q ∈ p :: ps, ∀ w ∈ q, w ≠ ("/" : Str)) →
    ((glue (p :: ps)).foldl stepP (i, l)).1 ++ [((glue (p :: ps)).foldl stepP (i, l)).2] = i ++ (l ++ p) :: ps
  | p, [], i, l, h => by
    rw [show glue [p] = p from rfl, foldP_free p i l (h p List.mem_cons_self)]
  | p, q :: r, i, l, h => by
    rw [show glue (p :: q :: r) = p ++ ("/" : Str) :: glue (q :: r) from rfl, List.foldl_append, foldP_free p i l (h p List.mem_cons_self), List.foldl_cons, show stepP (i, l ++ p) ("/" : Str) = (i ++ [l ++ p], []) from if_pos rfl,
      foldP_glue q r _ _ fun x hx => h x (List.mem_cons_of_mem _ hx)]
    simp
abbrev rowT (p : List Str) : Tr := .o .l (p.map fun w => .d (.str w))
theorem parts_eq {ps : List (List Str)} (h0 : ps ≠ []) (h : ∀ q ∈ ps, ∀ w ∈ q, w ≠ ("/" : Str)) (hl : (glue ps).length < 1000) :
    f_parts_of_line K [.d (sL (glue ps))] = .ok (.o .l (ps.map rowT), [.d (sL (glue ps))]) := by
  have hf := for_eq (e := fun (n : Str) => D.str n) (g := gN 2) (b := (mIfS (mB (mBin eqD (mX (xV 2)) (mX (xC (.str "/"))))) (mDrop (mApp 1 (oLst xsN))) (mDrop (mAppP (pIx (pV 1) (xUn negI (xC (.int 1)))) (xV 2)))))
    (fun pre => [.im (sL (glue ps)), .ow (.o .l (((pre.foldl stepP ([], [])).1 ++ [(pre.foldl stepP ([], [])).2]).map rowT)), lastS D.str pre]) (glue ps) fun pre x post e => by
    rw [List.foldl_append]
    have l1 : ∀ (pr : List Str) (a : List (List Str) × List Str), ((pr.foldl stepP a).1).length + (pr.foldl stepP a).2.length ≤ a.1.length + a.2.length + pr.length := by
      intro pr
      induction pr with
      | nil => intro a; simp
      | cons w pr ih =>
        intro a
        have := ih (stepP a w)
        have : (stepP a w).1.length + (stepP a w).2.length ≤ a.1.length + a.2.length + 1 := by
          unfold stepP
          split <;> simp <;> omega
        simp only [List.foldl_cons, List.length_cons]
        omega
    have l2 := l1 pre ([], [])
    have l3 : pre.length < 1000 := by rw [← e] at hl; simp at hl; omega
    generalize pre.foldl stepP ([], []) = a at l2
    obtain ⟨i, l⟩ := a
    simp at l2
    have hz : i.length + 1 < sizeLine := by unfold sizeLine; omega
    have hz2 : l.length < sizeLine := by unfold sizeLine; omega
    by_cases q : x = ("/" : Str)
    · rcases last_cases D.str pre with q2 | ⟨d, q2⟩ <;> simp [q2, q, stepP, hz, rowT]
    · rcases last_cases D.str pre with q2 | ⟨d, q2⟩ <;> simp [q2, q, stepP, hz2, Tr.put, rowT]
  simp [rowT] at hf
  simp [f_parts_of_line, runF, m_parts_of_line, e_seq]
  rw [hf]
  obtain ⟨p, ps, rfl⟩ : ∃ p r, ps = p :: r := by cases ps with | nil => exact absurd rfl h0 | cons p r => exact ⟨p, r, rfl⟩
  have := congrArg (List.map rowT) (foldP_glue p ps [] [] h)
  simp [rowT] at this
  simp [rowT, this]
def wideS (ss : List Nat) : Nat := ss.headD 0
@[simp] theorem wideS_cons {a : Nat} {r : List Nat} : wideS (a :: r) = a := (rfl)
def highS (ss : List Nat) : Nat := if ss.length = 2 then ss.getD 1 1 else 1
theorem Sides.two {ss : List Nat} (h : Sides ss) : (∃ a, ss = [a]) ∨ ∃ a b, ss = [a, b] := by
  match ss, h.len with
  | [a], _ => exact .inl ⟨a, rfl⟩
  | [a, b], _ => exact .inr ⟨a, b, rfl⟩
theorem block_of_line_eq {ps : List (List Str)} {ls : List Str} {ss : List Nat} {l : Int} (hs : Sides ss) (hn : ∀ s ∈ ls, IsName s) (h0 : ps ≠ []) (h : ∀ q ∈ ps, q.length = wideS ss ∧ ∀ w ∈ q, w ≠ ("/" : Str) ∧ w ∈ ls) (hl : (glue ps).length < 1000)
    (hh : ps.length = highS ss) (hfl : ps.flatten.length = ss.prod) :
    f_block_of_line K [.d (sL (glue ps)), .d (nT ss), .d (sT ls), .d (.int l)] = .ok (.d (sT ps.flatten), [.d (sL (glue ps)), .d (nT ss), .d (sT ls), .d (.int l)]) := by
  have hp := parts_eq (K := K) h0 (fun q hq w hw => ((h q hq).2 w hw).1) hl
  have hz : ps.length ≤ sizeLine := by
    have : highS ss ≤ 9 := by
      rcases hs.two with ⟨a, rfl⟩ | ⟨a, b, rfl⟩
      · simp [highS]
      · have := (hs.lo b (by simp)).2
        simpa [highS] using this
    unfold sizeLine; omega
  have hb := checked_block_eq (K := K) (l := l) hs (bs := ps.flatten) (ls := ls) (fun b hb => by
    obtain ⟨q, hq, hb⟩ := List.mem_flatten.mp hb
    exact ((h q hq).2 b hb).2) hn hfl
  have h2 : ∀ s4 s5 : D, lc2D [6, 7] [7] (gN 6) mYes (mIL (mX (xV 6))) (gN 7) mYes (mIm (mX (xV 7))) (ps.map sL) [] [.im (sL (glue ps)), .im (nT ss), .im (sT ls), .im (.int l), .im s4, .im s5, .un, .un] = .ok (.o .l ((ps.map fun x => x.map (fun w => Tr.d (.str w))).flatten), [.im (sL (glue ps)), .im (nT ss), .im (sT ls), .im (.int l), .im s4, .im s5, .un, .un]) := by
    intro s4 s5
    rw [lc2_gen (e1 := D.str) (f := fun _ w => .d (.str w)) (ys := fun p => p) (δx := fun p => [.im (sL (glue ps)), .im (nT ss), .im (sT ls), .im (.int l), .im s4, .im s5, .im (sL p), .un])]
    · simp
    · have : (ps.map fun x => x.length).sum = ss.prod := by rw [← hfl, List.length_flatten]
      have := hs.pr
      simp
      unfold sizeLine; omega
    · intro p hp
      simp [mYes]
  have e8 : (ps.map fun x => x.map (fun w => Tr.d (.str w))).flatten = ps.flatten.map fun w => Tr.d (.str w) := by rw [List.map_flatten]
  have e9 : (ps.map rowT).map (fun t => t.dat) = ps.map sL := by
    rw [List.map_map]
    refine List.map_congr_left fun q _ => ?_
    simp
  rcases hs.two with ⟨a, rfl⟩ | ⟨a, b, rfl⟩
  · simp [f_block_of_line, runF, m_block_of_line, e_seq, hp, hh, need_eq, highS]
    rw [lc_map (e := sL) (f := fun _ => .d (.bl true)) hz rfl fun q hq => by simp [(h q hq).1]]
    simp [need_eq]
    rw [h2, e8]
    simp [-List.map_flatten, hb]
  · have e6 : ixN 2 0 = some 0 := by decide
    have e7 : ixN 2 1 = some 1 := by decide
    simp [f_block_of_line, runF, m_block_of_line, e_seq, hp, hh, need_eq, highS, e7]
    rw [lc_map (e := sL) (f := fun _ => .d (.bl true)) hz rfl fun q hq => by simp [(h q hq).1, e6]]
    simp [need_eq]
    rw [h2, e8]
    simp [-List.map_flatten, hb]
end G8
/-! P4: the reader of rules. -/
namespace G8
open PySem L2 GX TL
variable {K : PySem.W.Frag}
@[simp] theorem e_mSetF (C : Addr) (f : Str) (mp : MP) (mo : MO) {δ : List Sl} : mSetF C f mp mo δ = (mo δ >>= fun p => R.ofO (mp p.2) >>= fun r => match r.2.2 with
  | .o (.i C' ns) ts => if C' = C ∧ ns.length < 1000 then (match kAt f ns with
    | none => .ok (.nx (putP p.2 r.1 r.2.1 (.o (.i C (ns ++ [f])) (ts ++ [p.1]))))
    | some j => .ok (.nx (putP p.2 r.1 r.2.1 (.o (.i C ns) (ts.set j p.1))))) else .bad
  | _ => .bad) := (rfl)
@[simp] theorem e_mSetK (mp : MP) (mk : MX) (mo : MO) {δ : List Sl} : mSetK mp mk mo δ = (mo δ >>= fun p => R.ofO (mp p.2) >>= fun r => R.ofO (mk p.2) >>= fun k => match r.2.2 with
  | .o (.k ks) ts => R.ofO (keyD k) >>= fun k => if ks.length < sizeLine then (match kAt k ks with
    | none => .ok (.nx (putP p.2 r.1 r.2.1 (.o (.k (ks ++ [k])) (ts ++ [p.1]))))
    | some j => if ks.Nodup then .ok (.nx (putP p.2 r.1 r.2.1 (.o (.k ks) (ts.set j p.1)))) else .bad) else .bad
  | _ => .bad) := (rfl)
@[simp] theorem e_pFld {C : Addr} {f : Str} {mp : MP} {δ : List Sl} : pFld C f mp δ = ((mp δ).bind fun r => match r.2.2 with
  | .o (.i C' ns) ts => if C' = C then (kAt f ns).bind fun j => (ts[j]?).map fun u => (r.1, r.2.1 ++ [j], u) else none
  | _ => none) := (rfl)
@[simp] theorem e_keyS {s : Str} : keyD (.str s) = some (.inr s) := (rfl)
@[simp] theorem e_keyI {s : Int} : keyD (.int s) = some (.inl s) := (rfl)
@[simp] theorem e_dIn {neg : Bool} {k : D} {ks : List Key} {ds : List D} : dInD neg k (.dK ks ds) = (keyD k).map fun k => .bl (neg ^^ (kAt k ks).isSome) := (rfl)
@[simp] theorem e_dGet {k : D} {ks : List Key} {ds : List D} : dGetD (.dK ks ds) k = (keyD k).bind fun k => (kAt k ks).bind fun j => ds[j]? := (rfl)
@[simp] theorem e_shK {ks : List Key} {ds : List D} : Sh.dat (.k ks) ds = .dK ks ds := (rfl)
@[simp] theorem e_shT {ks : List (List Key)} {ds : List D} : Sh.dat (.t ks) ds = .dT ks ds := (rfl)
@[simp] theorem e_shI {C : Addr} {ns : List Str} {ds : List D} : Sh.dat (.i C ns) ds = .ins C ns ds := (rfl)
@[simp] theorem e_lenKd {ks : List Key} {ds : List D} : lenK [.dK ks ds] = some (.int ks.length) := (rfl)
@[simp] theorem e_mDnew {δ : List Sl} : mDnew δ = .ok (.o (.k []) [], δ) := (rfl)
@[simp] theorem e_put0 {t u : Tr} : t.put [] u = u := by cases t <;> rfl
@[simp] theorem e_put1 {sh : Sh} {ts : List Tr} {j : Nat} {π : List Nat} {u : Tr} : (Tr.o sh ts).put (j :: π) u = match ts[j]? with
    | some t => .o sh (ts.set j (t.put π u))
    | none => .o sh ts := by first | (simp only [Tr.put]; done) | (simp only [Tr.put]; rfl)
@[simp] theorem e_insOk {C : Addr} {m : Str} {δ : List Sl} {i : Nat} : insOk C m δ (.sl i) = match ownAt δ i with
    | some (.o (.i C' ns) ts) => decide (C' = C) && (kAt m ns).isNone
    | _ => false := (rfl)
@[simp] theorem e_insOkI {C C' : Addr} {m : Str} {δ : List Sl} {ns : List Str} {ds : List D} : insOk C m δ (.im (.ins C' ns ds)) = (decide (C' = C) && (kAt m ns).isNone) := (rfl)
theorem kAt_none {κ : Type} [DecidableEq κ] {k : κ} : ∀ {ks : List κ}, k ∉ ks → kAt k ks = none
  | [], _ => rfl
  | n :: ns, h => by
    have h1 : n ≠ k := fun e => h (by rw [e]; exact List.mem_cons_self)
    rw [kAt, if_neg h1, kAt_none fun e => h (List.mem_cons_of_mem _ e)]
    rfl
theorem kAt_app {κ : Type} [DecidableEq κ] {k : κ} : ∀ {pre post : List κ}, k ∉ pre → kAt k (pre ++ k :: post) = some pre.length
  | [], post, _ => by simp [kAt]
  | n :: ns, post, h => by
    have h1 : n ≠ k := fun e => h (by rw [e]; exact List.mem_cons_self)
    rw [List.cons_append, kAt, if_neg h1, kAt_app fun e => h (List.mem_cons_of_mem _ e)]
    rfl
/-! ### the reader -/
abbrev rdN : List Str := ["stage", "letters", "sides", "table"]
abbrev rdT (K : PySem.W.Frag) (st : Int) (ls ss : D) (ks : List Str) (bs : List (List Str)) : Tr :=
  .o (.i (He.ga K "RuleReader") ["stage", "letters", "sides", "table"]) [.d (.int st), .d ls, .d ss, .o (.k (ks.map .inr)) (bs.map fun b => .d (sT b))]
@[simp] theorem k_rd0 : kAt ("stage" : Str) [] = none := rfl
@[simp] theorem k_rd1 : kAt ("letters" : Str) ["stage"] = none := by decide +kernel
@[simp] theorem k_rd2 : kAt ("sides" : Str) ["stage", "letters"] = none := by decide +kernel
@[simp] theorem k_rd3 : kAt ("table" : Str) ["stage", "letters", "sides"] = none := by decide +kernel
@[simp] theorem k_rds : kAt ("stage" : Str) ["stage", "letters", "sides", "table"] = some 0 := by decide +kernel
@[simp] theorem k_rdl : kAt ("letters" : Str) ["stage", "letters", "sides", "table"] = some 1 := by decide +kernel
@[simp] theorem k_rdd : kAt ("sides" : Str) ["stage", "letters", "sides", "table"] = some 2 := by decide +kernel
@[simp] theorem k_rdt : kAt ("table" : Str) ["stage", "letters", "sides", "table"] = some 3 := by decide +kernel
@[simp] theorem k_rda : kAt ("accept" : Str) ["stage", "letters", "sides", "table"] = none := by decide +kernel
@[simp] theorem k_rdb : kAt ("accept_block" : Str) ["stage", "letters", "sides", "table"] = none := by decide +kernel
theorem reader_new : f_RuleReader___init__ K [.o (.i (He.ga K "RuleReader") []) []] = .ok (.d .non, [rdT K 0 (.tup []) (.tup []) [] []]) := by
  simp [f_RuleReader___init__, runF, m_RuleReader___init__, e_seq]
theorem slash_not {s : Str} (h : IsName s) : s ≠ ("/" : Str) := by
  intro e
  obtain ⟨c, r, e1, e2⟩ := h.hd
  rw [e, show tl ("/" : Str) = [47] from by decide +kernel] at e1
  obtain ⟨rfl, _⟩ := List.cons.inj e1
  exact absurd e2 (by decide +kernel)
structure Blk (ss : List Nat) (ls : List Str) (ps : List (List Str)) : Prop where
  ne : ps ≠ []
  row : ∀ q ∈ ps, q.length = wideS ss ∧ ∀ w ∈ q, w ∈ ls
  hi : ps.length = highS ss
  fl : ps.flatten.length = ss.prod
  gl : (glue ps).length < 900
theorem accept_block_eq {w : Str} {ps : List (List Str)} {ls ks : List Str} {bs : List (List Str)} {ss : List Nat} {l st : Int} (hs : Sides ss) (hn : ∀ s ∈ ls, IsName s) (hb : Blk ss ls ps) (hw : w ∈ ls) (hk : w ∉ ks) (hkl : ks.length ≤ 40) :
    f_RuleReader_accept_block K [rdT K st (sT ls) (nT ss) ks bs, .d (.int l), .d (sL (w :: (":" : Str) :: glue ps))] = .ok (.d .non, [rdT K st (sT ls) (nT ss) (ks ++ [w]) (bs ++ [ps.flatten]), .d (.int l), .d (sL (w :: (":" : Str) :: glue ps))]) := by
  have h1 := in_seq hw
  have hk2 : kAt (Sum.inr w : Key) (ks.map .inr) = none := kAt_none fun h => by
    obtain ⟨x, hx, e⟩ := List.mem_map.mp h
    cases e
    exact hk hx
  have hbl := block_of_line_eq (K := K) (l := l) hs hn hb.ne (fun q hq => ⟨(hb.row q hq).1, fun w hw => ⟨slash_not (hn w ((hb.row q hq).2 w hw)), (hb.row q hq).2 w hw⟩⟩) (by have := hb.gl; omega) hb.hi hb.fl
  have i1 : ixN ((glue ps).length + 1 + 1) 1 = some 1 := ix_lit (by omega) (by omega)
  have hz : ks.length < sizeLine := by unfold sizeLine; omega
  simp [f_RuleReader_accept_block, runF, m_RuleReader_accept_block, e_seq, h1, need_eq, hk2, i1, cut_drop2, hbl, hz, show (1 : Int) < (glue ps).length + 1 + 1 by omega]
theorem IsName.word {s : Str} (h : IsName s) : Word s where
  ne := by have := h.ne; omega
  le := by have := h.le; omega
  sp := fun q => absurd (h.al _ q) (by decide +kernel)
  nl := fun q => absurd (h.al _ q) (by decide +kernel)
  lt := fun c q => by
    have h1 : ∀ c ∈ signs, c < 128 := by decide +kernel
    exact h1 c (h.al c q)
theorem word_lit {s : Str} (h : (decide (s.length ≠ 0) && decide (s.length ≤ 9) && decide (32 ∉ tl s) && decide (10 ∉ tl s) && (tl s).all (· < 128)) = true) : Word s := by
  simp only [Bool.and_eq_true, decide_eq_true_eq, List.all_eq_true] at h
  exact ⟨h.1.1.1.1, h.1.1.1.2, h.1.1.2, h.1.2, h.2⟩
theorem shaped_words : ∀ {ws : List Str}, (∀ w ∈ ws, Word w) → SeqAt.shaped (.list (ws.map PyData.str)) = true := by
  intro ws h
  have h1 : ∀ ws : List Str, (∀ w ∈ ws, Word w) → PyData.canLayAll0 (ws.map PyData.str) = true ∧ PyData.depthAll (ws.map PyData.str) = 0 := by
    intro ws
    induction ws with
    | nil => intro _; exact ⟨by simp [PyData.canLayAll0], by simp [PyData.depthAll]⟩
    | cons w ws ih =>
      intro h
      obtain ⟨a, b⟩ := ih fun x hx => h x (List.mem_cons_of_mem _ hx)
      have hw := (h w List.mem_cons_self).lt
      have : PyData.strOk w = true := by
        unfold PyData.strOk
        rw [Array.all_eq_true']
        intro x hx
        have := hw x (by unfold tl; exact Array.mem_toList_iff.mpr hx)
        simp; omega
      refine ⟨by simp [PyData.canLayAll0, PyData.canLay0, a, this], by simp [PyData.depthAll, PyData.depth, b]⟩
  obtain ⟨a, b⟩ := h1 ws h
  unfold SeqAt.shaped
  simp [PyData.canLay0, PyData.depth, a, b]
theorem eqL_words {a b : List Str} (ha : ∀ w ∈ a, Word w) (hb : ∀ w ∈ b, Word w) : eqL (sL a) (sL b) = some (.bl (decide (a = b))) := by
  simp [eqL, shaped_words ha, shaped_words hb]
theorem eqL_lit {a : List Str} {b : Str} (ha : ∀ w ∈ a, Word w) (hb : Word b) : eqL (sL a) (.lst [.str b]) = some (.bl (decide (a = [b]))) := eqL_words (b := [b]) ha (by simpa using hb)
theorem w_rule : Word "rule" := word_lit (by decide +kernel)
theorem w_letters : Word "letters" := word_lit (by decide +kernel)
theorem w_sides : Word "sides" := word_lit (by decide +kernel)
theorem w_done : Word "done" := word_lit (by decide +kernel)
theorem w_colon : Word ":" := word_lit (by decide +kernel)
theorem w_slash : Word "/" := word_lit (by decide +kernel)
theorem accept_rule {l : Int} : f_RuleReader_accept K [rdT K 0 (.tup []) (.tup []) [] [], .d (.int l), .d (sL ["rule"])] = .ok (.d .non, [rdT K 1 (.tup []) (.tup []) [] [], .d (.int l), .d (sL ["rule"])]) := by
  have := eqL_lit (a := ["rule"]) (b := "rule") (by simpa using w_rule) w_rule
  simp only [decide_true] at this
  simp [f_RuleReader_accept, runF, m_RuleReader_accept, e_seq, this, need_eq]
theorem accept_letters {l : Int} {ls : List Str} (h : ∀ s ∈ ls, IsName s) (hn : ls.Nodup) (h0 : ls ≠ []) (hl : ls.length ≤ 40) : f_RuleReader_accept K [rdT K 1 (.tup []) (.tup []) [] [], .d (.int l), .d (sL ("letters" :: ls))] = .ok (.d .non, [rdT K 2 (sT ls) (.tup []) [] [], .d (.int l), .d (sL ("letters" :: ls))]) := by
  simp [f_RuleReader_accept, runF, m_RuleReader_accept, e_seq, need_eq, checked_letters_eq (K := K) (l := l) h hn h0 hl]
theorem accept_sides {l : Int} {ls : List Str} {ss : List Nat} (h : Sides ss) : f_RuleReader_accept K [rdT K 2 (sT ls) (.tup []) [] [], .d (.int l), .d (sL ("sides" :: ss.map numS))] = .ok (.d .non, [rdT K 3 (sT ls) (nT ss) [] [], .d (.int l), .d (sL ("sides" :: ss.map numS))]) := by
  simp [f_RuleReader_accept, runF, m_RuleReader_accept, e_seq, need_eq]
  rw [lc_map (e := fun n => .str (numS n)) (f := fun (n : Nat) => .d (.int n)) (by have := h.len; unfold sizeLine; omega) rfl fun x hx => by
    have := (h.lo x hx).2
    simp [read_integer_eq (K := K) (n := x) (by omega)]]
  simp [checked_sides_eq (K := K) (l := l) h]
theorem accept_done {l : Int} {ls ks : List Str} {bs : List (List Str)} {ss : D} (h : ks.length = ls.length) : f_RuleReader_accept K [rdT K 3 (sT ls) ss ks bs, .d (.int l), .d (sL ["done"])] = .ok (.d .non, [rdT K 4 (sT ls) ss ks bs, .d (.int l), .d (sL ["done"])]) := by
  have := eqL_lit (a := ["done"]) (b := "done") (by simpa using w_done) w_done
  simp only [decide_true] at this
  simp [f_RuleReader_accept, runF, m_RuleReader_accept, e_seq, this, need_eq, h]
theorem glue_mem : ∀ {ps : List (List Str)} {w : Str}, w ∈ glue ps → w = ("/" : Str) ∨ ∃ q ∈ ps, w ∈ q
  | [], w, h => by cases h
  | [p], w, h => .inr ⟨p, List.mem_cons_self, h⟩
  | p :: q :: r, w, h => by
    rw [show glue (p :: q :: r) = p ++ ("/" : Str) :: glue (q :: r) from rfl] at h
    rcases List.mem_append.mp h with h | h
    · exact .inr ⟨p, List.mem_cons_self, h⟩
    · rcases List.mem_cons.mp h with h | h
      · exact .inl h
      · rcases glue_mem h with h | ⟨x, hx, h⟩
        · exact .inl h
        · exact .inr ⟨x, List.mem_cons_of_mem _ hx, h⟩
theorem block_words {w : Str} {ps : List (List Str)} {ls : List Str} {ss : List Nat} (hn : ∀ s ∈ ls, IsName s) (hb : Blk ss ls ps) (hw : w ∈ ls) : ∀ x ∈ w :: (":" : Str) :: glue ps, Word x := by
  intro x hx
  rcases List.mem_cons.mp hx with rfl | hx
  · exact (hn _ hw).word
  · rcases List.mem_cons.mp hx with rfl | hx
    · exact w_colon
    · rcases glue_mem hx with rfl | ⟨q, hq, hx⟩
      · exact w_slash
      · exact (hn x ((hb.row q hq).2 x hx)).word
theorem accept_line {w : Str} {ps : List (List Str)} {ls ks : List Str} {bs : List (List Str)} {ss : List Nat} {l : Int} (hs : Sides ss) (hn : ∀ s ∈ ls, IsName s) (hb : Blk ss ls ps) (hw : w ∈ ls) (hk : w ∉ ks) (hkl : ks.length ≤ 40) :
    f_RuleReader_accept K [rdT K 3 (sT ls) (nT ss) ks bs, .d (.int l), .d (sL (w :: (":" : Str) :: glue ps))] = .ok (.d .non, [rdT K 3 (sT ls) (nT ss) (ks ++ [w]) (bs ++ [ps.flatten]), .d (.int l), .d (sL (w :: (":" : Str) :: glue ps))]) := by
  have e1 := eqL_lit (b := "done") (block_words hn hb hw) w_done
  simp at e1
  have e2 := accept_block_eq (K := K) (l := l) (st := 3) (bs := bs) hs hn hb hw hk hkl
  simp [f_RuleReader_accept, runF, m_RuleReader_accept, e_seq, e1, e2]
end G8
/-! P5: a text of a rule is read. -/
namespace G8
open PySem L2 GX TL
variable {K : PySem.W.Frag}
theorem for_pre0 {α : Type} {g : MG} {b : MS} {e : α → D} (F : List α → List Sl) (ys : List D) (xs : List α) (h : ∀ pre x post, pre ++ x :: post = xs → ∃ δ1, g (e x) (F pre) = .ok δ1 ∧ b δ1 = .ok (.nx (F (pre ++ [x])))) :
    ∀ (zs pre : List α), pre ++ zs = xs → forD g b (zs.map e ++ ys) (F pre) = forD g b ys (F xs)
  | [], pre, hp => by rw [← hp, List.append_nil]; rfl
  | z :: zs, pre, hp => by
    obtain ⟨δ1, e1, e2⟩ := h pre z zs hp
    rw [List.map_cons, List.cons_append, forD, e1]
    simp only [R.ok_bind, e2]
    exact for_pre0 F ys xs h zs (pre ++ [z]) (by simpa using hp)
theorem for_pre {α : Type} {g : MG} {b : MS} {e : α → D} (F : List α → List Sl) (ys : List D) (xs : List α) (h : ∀ pre x post, pre ++ x :: post = xs → ∃ δ1, g (e x) (F pre) = .ok δ1 ∧ b δ1 = .ok (.nx (F (pre ++ [x])))) :
    forD g b (xs.map e ++ ys) (F []) = forD g b ys (F xs) := for_pre0 F ys xs h xs [] rfl
theorem for_cons {g : MG} {b : MS} {d : D} {ys : List D} {δ δ2 : List Sl} (h : ∃ δ1, g d δ = .ok δ1 ∧ b δ1 = .ok (.nx δ2)) : forD g b (d :: ys) δ = forD g b ys δ2 := by
  obtain ⟨δ1, e1, e2⟩ := h
  rw [forD, e1]
  simp only [R.ok_bind, e2]
abbrev Row := Str × List (List Str)
def lsR (rows : List Row) : List Str := rows.map (·.1)
def tierR (r : Row) : List Str := r.1 :: (":" : Str) :: glue r.2
def linesR (ss : List Nat) (rows : List Row) : List (List Str) := [("rule" : Str)] :: (("letters" : Str) :: lsR rows) :: (("sides" : Str) :: ss.map numS) :: (rows.map tierR ++ [[("done" : Str)]])
def textR (ss : List Nat) (rows : List Row) : Str := textL ((linesR ss rows).map joinW)
structure RowsOk (ss : List Nat) (rows : List Row) : Prop where
  sd : Sides ss
  ne : rows ≠ []
  len : rows.length ≤ 40
  nd : (lsR rows).Nodup
  nm : ∀ s ∈ lsR rows, IsName s
  bl : ∀ r ∈ rows, Blk ss (lsR rows) r.2
theorem lines_words {ss : List Nat} {rows : List Row} (h : RowsOk ss rows) : ∀ l ∈ linesR ss rows, l ≠ [] ∧ l.length ≤ 1000 ∧ ∀ w ∈ l, Word w := by
  intro l hl
  unfold linesR at hl
  simp only [List.mem_cons, List.mem_append, List.mem_map, List.not_mem_nil, or_false] at hl
  rcases hl with rfl | rfl | rfl | ⟨r, hr, rfl⟩ | rfl
  · refine ⟨by simp, by simp, fun w hw => ?_⟩
    rw [List.mem_singleton.mp hw]; exact w_rule
  · refine ⟨by simp, by have := h.len; simp [lsR]; omega, fun w hw => ?_⟩
    rcases List.mem_cons.mp hw with rfl | hw
    · exact w_letters
    · exact (h.nm w hw).word
  · refine ⟨by simp, by have := h.sd.len; simp; omega, fun w hw => ?_⟩
    rcases List.mem_cons.mp hw with rfl | hw
    · exact w_sides
    · obtain ⟨n, hn, rfl⟩ := List.mem_map.mp hw
      exact sl_num (by have := (h.sd.lo n hn).2; omega)
  · refine ⟨by simp [tierR], by have := (h.bl r hr).gl; simp [tierR]; omega, ?_⟩
    exact block_words h.nm (h.bl r hr) (List.mem_map.mpr ⟨r, hr, rfl⟩)
  · refine ⟨by simp, by simp, fun w hw => ?_⟩
    rw [List.mem_singleton.mp hw]; exact w_done
def blocksD (rows : List Row) : D := .tup (rows.map fun r => sT r.2.flatten)
abbrev accB (K : PySem.W.Frag) : MS := mIfS (mTr (mX (xV 4))) (mDrop (mFz (mMethO (He.ga K "RuleReader") "accept" (f_RuleReader_accept K) (mV 1) (mCons (mX (xV 3)) (mCons (mX (xV 4)) mNil))))) mNx
abbrev tgB : MG := gT 2 (gsC (gN 3) (gsC (gN 4) gsN))
theorem step_ok {t d2 s3 s4 s5 : Sl} {ns : List Str} {ts ts' : List Tr} {w : List Str} {k : Int} (hw : w ≠ []) (h3 : s3 = .un ∨ ∃ d, s3 = .im d) (h4 : s4 = .un ∨ ∃ d, s4 = .im d) (hk : kAt ("accept" : Str) ns = none)
    (h : f_RuleReader_accept K [.o (.i (He.ga K "RuleReader") ns) ts, .d (.int k), .d (sL w)] = .ok (.d .non, [.o (.i (He.ga K "RuleReader") ns) ts', .d (.int k), .d (sL w)])) :
    ∃ δ1, tgB (.tup [.int k, sL w]) [t, .ow (.o (.i (He.ga K "RuleReader") ns) ts), d2, s3, s4, s5] = .ok δ1 ∧ accB K δ1 = .ok (.nx [t, .ow (.o (.i (He.ga K "RuleReader") ns) ts'), d2, .im (.int k), .im (sL w), s5]) := by
  obtain ⟨a, r, rfl⟩ : ∃ a r, w = a :: r := by cases w with | nil => exact absurd rfl hw | cons a r => exact ⟨a, r, rfl⟩
  refine ⟨[t, .ow (.o (.i (He.ga K "RuleReader") ns) ts), d2, .im (.int k), .im (sL (a :: r)), s5], ?_, ?_⟩
  · rcases h3 with rfl | ⟨d, rfl⟩ <;> rcases h4 with rfl | ⟨d, rfl⟩ <;> simp
  · simp [hk, h]
theorem read_rule_eq {ss : List Nat} {rows : List Row} (h : RowsOk ss rows) : f_read_rule K [.d (.str (textR ss rows))] = .ok (.d (.tup [nT ss, sT (lsR rows), blocksD rows]), [.d (.str (textR ss rows))]) := by
  have hz := h.len
  have hl : (linesR ss rows).length = rows.length + 4 := by simp [linesR]
  have e1 := lines_of_eq (K := K) (lines_words h) (by rw [hl]; omega)
  have e2 : f_lines_of K [.d (.str (textR ss rows))] = .ok (.d (.lst ((linesR ss rows).zipIdx.map fun p => .tup [.int ((p.2 : Nat) + 1), sL p.1])), [.d (.str (textR ss rows))]) := e1
  generalize textR ss rows = tx at e2
  have e3 : (linesR ss rows).zipIdx.map (fun p => D.tup [.int ((p.2 : Nat) + 1), sL p.1]) = .tup [.int 1, sL [("rule" : Str)]] :: .tup [.int 2, sL (("letters" : Str) :: lsR rows)] :: .tup [.int 3, sL (("sides" : Str) :: ss.map numS)] ::
      ((rows.zipIdx 3).map (fun p => D.tup [.int ((p.2 : Nat) + 1), sL (tierR p.1)]) ++ [.tup [.int (rows.length + 4), sL [("done" : Str)]]]) := by
    unfold linesR
    simp [List.zipIdx_append, List.zipIdx_map]
    omega
  rw [e3] at e2
  have s1 := fun (s2 s5 : Sl) => for_cons (ys := .tup [.int 2, sL (("letters" : Str) :: lsR rows)] :: .tup [.int 3, sL (("sides" : Str) :: ss.map numS)] ::
      ((rows.zipIdx 3).map (fun p => D.tup [.int ((p.2 : Nat) + 1), sL (tierR p.1)]) ++ [.tup [.int (rows.length + 4), sL [("done" : Str)]]])) (step_ok (t := .im (.str tx)) (d2 := s2) (s5 := s5) (s3 := .un) (s4 := .un) (by simp) (.inl rfl) (.inl rfl) k_rda (accept_rule (K := K) (l := 1)))
  have s2 := fun (s2 s5 : Sl) => for_cons (ys := .tup [.int 3, sL (("sides" : Str) :: ss.map numS)] ::
      ((rows.zipIdx 3).map (fun p => D.tup [.int ((p.2 : Nat) + 1), sL (tierR p.1)]) ++ [.tup [.int (rows.length + 4), sL [("done" : Str)]]])) (step_ok (t := .im (.str tx)) (d2 := s2) (s5 := s5) (s3 := .im (.int 1)) (s4 := .im (sL ["rule"])) (by simp) (.inr ⟨_, rfl⟩) (.inr ⟨_, rfl⟩) k_rda (accept_letters (K := K) (l := 2) h.nm h.nd (by simpa [lsR] using h.ne) (by simpa [lsR] using hz)))
  have s3 := fun (s2 s5 : Sl) => for_cons (ys := ((rows.zipIdx 3).map (fun p => D.tup [.int ((p.2 : Nat) + 1), sL (tierR p.1)]) ++ [.tup [.int (rows.length + 4), sL [("done" : Str)]]])) (step_ok (t := .im (.str tx)) (d2 := s2) (s5 := s5) (s3 := .im (.int 2)) (s4 := .im (sL ("letters" :: lsR rows))) (by simp) (.inr ⟨_, rfl⟩) (.inr ⟨_, rfl⟩) k_rda (accept_sides (K := K) (l := 3) (ls := lsR rows) h.sd))
  have s4 := fun (s2 s5 : Sl) => for_pre (g := tgB) (b := accB K) (e := fun (p : Row × Nat) => D.tup [.int ((p.2 : Nat) + 1), sL (tierR p.1)]) (fun pre => [.im (.str tx), .ow (rdT K 3 (sT (lsR rows)) (nT ss) (pre.map (·.1.1)) (pre.map (·.1.2.flatten))), s2, (match pre.getLast? with | none => .im (.int 3) | some p => .im (.int ((p.2 : Nat) + 1))), (match pre.getLast? with | none => .im (sL (("sides" : Str) :: ss.map numS)) | some p => .im (sL (tierR p.1))), s5])
    [.tup [.int (rows.length + 4), sL [("done" : Str)]]] (rows.zipIdx 3) fun pre x post e => by
    have hm : pre.map (·.1) ++ x.1 :: post.map (·.1) = rows := by
      have := congrArg (List.map Prod.fst) e
      simpa using this
    have hx : x.1 ∈ rows := by rw [← hm]; simp
    have hnd := h.nd
    have hk : x.1.1 ∉ pre.map (·.1.1) := by
      have : (pre.map (·.1.1) ++ x.1.1 :: post.map (·.1.1)).Nodup := by
        have e2 : lsR rows = pre.map (·.1.1) ++ x.1.1 :: post.map (·.1.1) := by
          unfold lsR
          rw [← hm]
          simp [Function.comp_def]
        rw [← e2]; exact hnd
      rw [List.nodup_append] at this
      intro q
      exact this.2.2 _ q _ List.mem_cons_self rfl
    have hl2 : (pre.map (·.1.1)).length ≤ 40 := by
      have := congrArg List.length hm
      simp at this ⊢
      omega
    have ha := accept_line (K := K) (l := (x.2 : Int) + 1) (bs := pre.map (·.1.2.flatten)) h.sd h.nm (h.bl _ hx) (List.mem_map.mpr ⟨_, hx, rfl⟩) hk hl2
    have hs := step_ok (K := K) (t := .im (.str tx)) (d2 := s2) (s5 := s5) (s3 := (match pre.getLast? with | none => .im (.int 3) | some p => .im (.int ((p.2 : Nat) + 1)))) (s4 := (match pre.getLast? with | none => .im (sL (("sides" : Str) :: ss.map numS)) | some p => .im (sL (tierR p.1)))) (by simp) (.inr (by cases pre.getLast? <;> exact ⟨_, rfl⟩)) (.inr (by cases pre.getLast? <;> exact ⟨_, rfl⟩)) k_rda ha
    have e9 : (pre ++ [x]).getLast? = some x := by simp
    simp only [e9, List.map_append, List.map_cons, List.map_nil]
    exact hs
  have s5 := fun (s2 s3 s4 s5 : Sl) (h3 : s3 = .un ∨ ∃ d, s3 = .im d) (h4 : s4 = .un ∨ ∃ d, s4 = .im d) (bs : List (List Str)) => for_cons (ys := []) (step_ok (t := .im (.str tx)) (d2 := s2) (s5 := s5) (s3 := s3) (s4 := s4) (by simp) h3 h4 k_rda (accept_done (K := K) (l := rows.length + 4) (ls := lsR rows) (ks := lsR rows) (ss := nT ss) (bs := bs) rfl))
  have c1 : (rows.zipIdx 3).map (·.1.1) = lsR rows := by
    unfold lsR
    have : (rows.zipIdx 3).map Prod.fst = rows := by simp
    conv => rhs; rw [← this, List.map_map]
    rfl
  have c2 : (rows.zipIdx 3).map (·.1.2.flatten) = rows.map (·.2.flatten) := by
    have : (rows.zipIdx 3).map Prod.fst = rows := by simp
    conv => rhs; rw [← this, List.map_map]
    rfl
  have hall : ∀ s2 s5, forD tgB (accB K) (.tup [.int 1, sL [("rule" : Str)]] :: .tup [.int 2, sL (("letters" : Str) :: lsR rows)] :: .tup [.int 3, sL (("sides" : Str) :: ss.map numS)] ::
      ((rows.zipIdx 3).map (fun p => D.tup [.int ((p.2 : Nat) + 1), sL (tierR p.1)]) ++ [.tup [.int (rows.length + 4), sL [("done" : Str)]]])) [.im (.str tx), .ow (rdT K 0 (.tup []) (.tup []) [] []), s2, .un, .un, s5] =
      .ok (.nx [.im (.str tx), .ow (rdT K 4 (sT (lsR rows)) (nT ss) (lsR rows) (rows.map (·.2.flatten))), s2, .im (.int (rows.length + 4)), .im (sL [("done" : Str)]), s5]) := by
    intro s2' s5'
    rw [s1 s2' s5', s2 s2' s5', s3 s2' s5']
    refine (s4 s2' s5').trans ?_
    simp only [c1, c2]
    refine (s5 s2' _ _ s5' ?_ ?_ _).trans rfl
    · cases (rows.zipIdx 3).getLast? <;> exact .inr ⟨_, rfl⟩
    · cases (rows.zipIdx 3).getLast? <;> exact .inr ⟨_, rfl⟩
  clear s1 s2 s3 s4 s5
  have ha := hall (.im (.lst (.tup [.int 1, sL [("rule" : Str)]] :: .tup [.int 2, sL (("letters" : Str) :: lsR rows)] :: .tup [.int 3, sL (("sides" : Str) :: ss.map numS)] ::
      ((rows.zipIdx 3).map (fun p => D.tup [.int ((p.2 : Nat) + 1), sL (tierR p.1)]) ++ [.tup [.int (rows.length + 4), sL [("done" : Str)]]])))) .un
  generalize (D.tup [.int 1, sL [("rule" : Str)]] :: .tup [.int 2, sL (("letters" : Str) :: lsR rows)] :: .tup [.int 3, sL (("sides" : Str) :: ss.map numS)] ::
      ((rows.zipIdx 3).map (fun p => D.tup [.int ((p.2 : Nat) + 1), sL (tierR p.1)]) ++ [.tup [.int (rows.length + 4), sL [("done" : Str)]]])) = LL at e2 ha
  simp [f_read_rule, runF, m_read_rule, e_seq, reader_new, e2]
  rw [ha]
  simp
  have hmap : (lsR rows).map D.str = rows.map (fun r => D.str r.1) := by unfold lsR; rw [List.map_map]; rfl
  rw [hmap, lc_map (e := fun (r : Row) => .str r.1) (f := fun (r : Row) => .d (sT r.2.flatten)) (by unfold sizeLine; omega) rfl fun r hr => ?_]
  · simp [blocksD]
  · obtain ⟨pre, post, hp⟩ := List.append_of_mem hr
    have hk : kAt (Sum.inr r.1 : Key) ((lsR rows).map .inr) = some pre.length := by
      have hnd := h.nd
      unfold lsR at hnd ⊢
      rw [hp] at hnd ⊢
      simp only [List.map_append, List.map_cons, List.map_map] at hnd ⊢
      have := kAt_app (k := (Sum.inr r.1 : Key)) (pre := (pre.map fun r => (Sum.inr r.1 : Key))) (post := (post.map fun r => (Sum.inr r.1 : Key))) (by
        rw [List.nodup_append] at hnd
        intro q
        obtain ⟨x, hx, e⟩ := List.mem_map.mp q
        exact hnd.2.2 _ (List.mem_map.mpr ⟨x, hx, rfl⟩) _ List.mem_cons_self (Sum.inr.inj e))
      simpa [Function.comp_def] using this
    have hg : rows[pre.length]? = some r := by rw [hp]; simp
    simp [hk, hg, Function.comp_def]
end G8
/-! P6: the text of a rule is written. -/
namespace G8
open PySem L2 GX TL
variable {K : PySem.W.Frag}
theorem joinL_app (S : List Nat) : ∀ {xs ys : List (List Nat)}, xs ≠ [] → ys ≠ [] → joinL S (xs ++ ys) = joinL S xs ++ (S ++ joinL S ys)
  | [], ys, h, _ => absurd rfl h
  | [a], y :: ys, _, _ => rfl
  | a :: b :: r, ys, _, hy => by
    have := joinL_app S (xs := b :: r) (by simp) hy
    simp only [List.cons_append] at this
    simp only [List.cons_append, joinL, this, List.append_assoc]
theorem glue_ne : ∀ {ps : List (List Str)}, ps ≠ [] → (∀ p ∈ ps, p ≠ []) → glue ps ≠ []
  | [], h, _ => absurd rfl h
  | [p], _, h => h p List.mem_cons_self
  | p :: q :: r, _, h => by simp [glue]
theorem joinL_glue : ∀ {ps : List (List Str)}, (∀ p ∈ ps, p ≠ []) → joinL [32] ((glue ps).map tl) = joinL [32, 47, 32] (ps.map fun p => joinL [32] (p.map tl))
  | [], _ => rfl
  | [p], _ => rfl
  | p :: q :: r, h => by
    have ih := joinL_glue (ps := q :: r) fun x hx => h x (List.mem_cons_of_mem _ hx)
    have h1 : (p.map tl) ≠ [] := by simpa using h p List.mem_cons_self
    have h2 : ((glue (q :: r)).map tl) ≠ [] := by
      have := glue_ne (ps := q :: r) (by simp) fun x hx => h x (List.mem_cons_of_mem _ hx)
      simpa using this
    rw [show glue (p :: q :: r) = p ++ ([("/" : Str)] ++ glue (q :: r)) from rfl, List.map_append, List.map_append, joinL_app _ h1 (by simp), joinL_app _ (by simp) h2, ih]
    rw [show ([("/" : Str)] : List Str).map tl = [[47]] from by decide +kernel]
    simp [joinL]
theorem line_joinW {w : Str} {ws : List Str} (h : ws ≠ []) : joinW (w :: ws) = w ++ (" " : Str) ++ joinW ws := by
  refine ext_tl ?_
  rw [tl_joinW, tl_append, tl_append, tl_joinW, show tl (" " : Str) = [32] from by decide +kernel]
  obtain ⟨a, r, rfl⟩ : ∃ a r, ws = a :: r := by cases ws with | nil => exact absurd rfl h | cons a r => exact ⟨a, r, rfl⟩
  simp [joinL]
theorem line_tier {w : Str} {ps : List (List Str)} (h0 : ps ≠ []) (h : ∀ p ∈ ps, p ≠ []) : w ++ (" : " : Str) ++ Txt.join " / " (ps.map joinW) = joinW (tierR (w, ps)) := by
  refine ext_tl ?_
  unfold tierR
  have hg := glue_ne h0 h
  obtain ⟨a, r, hgr⟩ : ∃ a r, glue ps = a :: r := by cases hq : glue ps with | nil => exact absurd hq hg | cons a r => exact ⟨a, r, rfl⟩
  rw [tl_append, tl_append, tl_joinW, join_eq, tl_join, List.map_map, show tl (" : " : Str) = [32, 58, 32] from by decide +kernel, show tl (" / " : Str) = [32, 47, 32] from by decide +kernel]
  have : ps.map (tl ∘ joinW) = ps.map fun p => joinL [32] (p.map tl) := List.map_congr_left fun p _ => tl_joinW p
  rw [this, ← joinL_glue h, hgr]
  simp only [List.map_cons, show tl (":" : Str) = [58] from by decide +kernel]
  simp [joinL]
theorem line_of_lit {a b : Str} {ws : List Str} (h : ws ≠ []) (e : tl b = tl a ++ [32]) : b ++ joinW ws = joinW (a :: ws) := by
  rw [line_joinW h]
  refine ext_tl ?_
  rw [tl_append, tl_append, tl_append, e]
  rfl
theorem flat_at {α : Type} {w : Nat} : ∀ {ps : List (List α)} {k : Nat} {p : List α}, (∀ q ∈ ps, q.length = w) → ps[k]? = some p → (ps.flatten.drop (k * w)).take w = p
  | [], k, p, _, h => by simp at h
  | q :: r, 0, p, hl, h => by
    have e : q = p := by simpa using h
    subst e
    have := hl q List.mem_cons_self
    simp [← this]
  | q :: r, k + 1, p, hl, h => by
    have hq := hl q List.mem_cons_self
    have ih := flat_at (ps := r) (k := k) (p := p) (fun x hx => hl x (List.mem_cons_of_mem _ hx)) (by simpa using h)
    rw [List.flatten_cons, List.drop_append, List.drop_eq_nil_of_le (by rw [hq, Nat.succ_mul]; omega), List.nil_append, show (k + 1) * w - q.length = k * w from by rw [hq, Nat.succ_mul]; omega]
    exact ih
theorem flat_len {α : Type} {w : Nat} : ∀ {ps : List (List α)}, (∀ q ∈ ps, q.length = w) → ps.flatten.length = ps.length * w
  | [], _ => by simp
  | q :: r, h => by
    rw [List.flatten_cons, List.length_append, flat_len fun x hx => h x (List.mem_cons_of_mem _ hx), h q List.mem_cons_self, List.length_cons, Nat.succ_mul]
    omega
theorem cut_nat {ds : List D} {a b : Nat} (h : a ≤ ds.length) : cutD ds (some (a : Int)) (some (b : Int)) = (ds.drop a).take (b - a) := by
  unfold cutD
  rw [HT.sIx_nat, HT.sIx_nat, Nat.min_eq_left h]
  by_cases h2 : b ≤ ds.length
  · rw [Nat.min_eq_left h2]
  · rw [Nat.min_eq_right (by omega), List.take_of_length_le (by simp), List.take_of_length_le (by simp; omega)]
theorem range_count {w h : Nat} (hw : 0 < w) : Builtin.Range.rangeSize 0 ((h * w : Nat) : Int) (w : Int) = (h : Int) := by
  unfold Builtin.Range.rangeSize
  rw [if_pos (by omega)]
  by_cases h0 : h = 0
  · subst h0; simp
  · have hp : 0 < h * w := Nat.mul_pos (by omega) hw
    rw [if_pos (by omega)]
    obtain ⟨k, rfl⟩ : ∃ k, h = k + 1 := ⟨h - 1, by omega⟩
    have e1 : (((k + 1) * w : Nat) : Int) - 0 - 1 = ((w : Int) - 1) + (k : Int) * (w : Int) := by
      rw [Nat.succ_mul]
      push_cast
      omega
    rw [e1, Int.add_mul_ediv_right _ _ (by omega), Int.ediv_eq_zero_of_lt (by omega) (by omega)]
    push_cast
    omega
theorem mIR3_eq {m : MA} {δ δ1 : List Sl} {w h : Nat} (hw : 0 < w) (hw2 : w ≤ 1000) (hh : h ≤ 1000) (e : m δ = .ok ([.im (.int 0), .im (.int ((h * w : Nat) : Int)), .im (.int w)], δ1)) : mIR3 m δ = .ok ((List.range h).map fun (k : Nat) => .int ((k * w : Nat) : Int), δ1) := by
  have hm : h * w ≤ 1000 * 1000 := Nat.mul_le_mul hh hw2
  rw [e_mIR3, e]
  simp only [R.ok_bind]
  rw [if_pos ⟨by omega, by omega, by omega, by omega⟩, range_count hw]
  simp
@[simp] theorem e_strI {n : Nat} (h : n < 1000000) : strI [.int (n : Nat)] = some (.str (numS n)) := by
  have : ((n : Int).natAbs).log2 < 1920 := by
    rw [Int.natAbs_natCast]
    by_cases q : n = 0
    · subst q; decide
    · have := (Nat.log2_lt (k := 20) q).mpr (by omega)
      omega
  show (if ((n : Nat) : Int).natAbs.log2 < 1920 then some (D.str (toString ((n : Nat) : Int) : String)) else none) = _
  rw [if_pos this]
  rfl
theorem join_fits {ws : List Str} {s : Str} (h : ∀ w ∈ ws, w.length ≤ 9) (hl : ws.length ≤ 1000) (hs : s.length ≤ 9) : (ws.map (·.length)).sum + ws.length * s.length ≤ 16777216 := by
  have h1 := sum_le (f := (·.length)) (b := 9) ws h
  have h2 : ws.length * s.length ≤ 1000 * 9 := Nat.mul_le_mul hl hs
  omega
theorem blk_rows {ss : List Nat} {ls : List Str} {ps : List (List Str)} (hs : Sides ss) (h : Blk ss ls ps) : (∀ q ∈ ps, q.length = wideS ss) ∧ (∀ q ∈ ps, q ≠ []) ∧ 0 < wideS ss ∧ wideS ss ≤ 9 ∧ ps.length ≤ 9 ∧ ps.flatten.length = ps.length * wideS ss := by
  have h1 : 0 < wideS ss ∧ wideS ss ≤ 9 := by
    rcases hs.two with ⟨a, rfl⟩ | ⟨a, b, rfl⟩
    · have := hs.lo a (by simp); simp; omega
    · have := hs.lo a (by simp); simp; omega
  have h2 : ps.length ≤ 9 := by
    rw [h.hi]
    rcases hs.two with ⟨a, rfl⟩ | ⟨a, b, rfl⟩
    · simp [highS]
    · have := (hs.lo b (by simp)).2
      simpa [highS] using this
  refine ⟨fun q hq => (h.row q hq).1, fun q hq e => ?_, h1.1, h1.2, h2, flat_len fun q hq => (h.row q hq).1⟩
  have := (h.row q hq).1
  rw [e] at this
  have h5 := h1.1
  rw [← this] at h5
  exact absurd h5 (by simp)
abbrev stepB : MS := mSeq (mSet 7 (mFz (mLc [9] (mIR3 (mCons (mX (xC (.int 0))) (mCons (mX (xCB lenD (xsC (xR 6) xsN))) (mCons (mX (xV 4)) mNil)))) (gN 9) mYes (mIm (mX (xMt "str" joinD (xC (.str " ")) (xsC (xSl slS (xR 6) (ptI (xR 9)) (ptI (xBin addI (xR 9) (xR 4)))) xsN))))))) (mDrop (mApp 3 (mIm (mX (xBin addS (xBin addS (xR 5) (xC (.str " : "))) (xMt "str" joinD (xC (.str " / ")) (xsC (xR 7) xsN)))))))
theorem tier_step {ss : List Nat} {ls : List Str} {w : Str} {ps : List (List Str)} {ts : List Tr} {t0 t1 t2 s5 s6 s7 : Sl} (hs : Sides ss) (hn : ∀ s ∈ ls, IsName s) (hw : w ∈ ls) (hb : Blk ss ls ps) (h5 : s5 = .un ∨ ∃ d, s5 = .im d) (h6 : s6 = .un ∨ ∃ d, s6 = .im d) (h7 : s7 = .un ∨ ∃ d, s7 = .im d) (hts : ts.length ≤ 1000) :
    ∃ δ1, gT 2 (gsC (gN 5) (gsC (gN 6) gsN)) (.tup [.str w, sT ps.flatten]) [t0, t1, t2, .ow (.o .l ts), .im (.int (wideS ss)), s5, s6, s7, .un, .un] = .ok δ1 ∧
      stepB δ1 = .ok (.nx [t0, t1, t2, .ow (.o .l (ts ++ [.d (.str (joinW (tierR (w, ps))))])), .im (.int (wideS ss)), .im (.str w), .im (sT ps.flatten), .im (sL (ps.map joinW)), .un, .un]) := by
  obtain ⟨r1, r2, r3, r4, r5, r6⟩ := blk_rows hs hb
  refine ⟨[t0, t1, t2, .ow (.o .l ts), .im (.int (wideS ss)), .im (.str w), .im (sT ps.flatten), s7, .un, .un], ?_, ?_⟩
  · rcases h5 with rfl | ⟨d, rfl⟩ <;> rcases h6 with rfl | ⟨d, rfl⟩ <;> simp
  · have hi := mIR3_eq (m := (mCons (mX (xC (.int 0))) (mCons (mX (xCB lenD (xsC (xR 6) xsN))) (mCons (mX (xV 4)) mNil)))) (δ := [t0, t1, t2, .ow (.o .l ts), .im (.int (wideS ss)), .im (.str w), .im (sT ps.flatten), s7, .un, .un]) (δ1 := [t0, t1, t2, .ow (.o .l ts), .im (.int (wideS ss)), .im (.str w), .im (sT ps.flatten), s7, .un, .un]) (h := ps.length) r3 (by omega) (by omega) (by rw [← r6]; simp [-List.map_flatten, -List.length_flatten])
    have hj : ∀ q ∈ ps, (joinW q).length ≤ 10000 := fun q hq => len_joinW2 (fun x hx => (hn x ((hb.row q hq).2 x hx)).word) (by rw [r1 q hq]; omega)
    have hp : (List.range ps.length).map (fun k => Tr.d (.str (joinW ((ps.flatten.drop (k * wideS ss)).take (wideS ss))))) = (ps.map fun q => Tr.d (.str (joinW q))) := by
      refine List.ext_getElem? fun k => ?_
      rw [List.getElem?_map, List.getElem?_map]
      by_cases hk : k < ps.length
      · rw [List.getElem?_range hk, List.getElem?_eq_getElem hk]
        simp only [Option.map_some]
        rw [flat_at (p := ps[k]) r1 (List.getElem?_eq_getElem hk)]
      · rw [List.getElem?_eq_none (by simpa using hk), List.getElem?_eq_none (by omega)]
        rfl
    have hsum := sum_le (f := fun x => x.length) (b := 10000) (ps.map joinW) fun x hx => by
      obtain ⟨q, hq, rfl⟩ := List.mem_map.mp hx
      exact hj q hq
    simp only [List.length_map] at hsum
    have k1 : (" : " : Str).length = 3 := by decide +kernel
    have k2 : (" / " : Str).length = 3 := by decide +kernel
    have hwl := (hn w hw).word.le
    have hjl := StrLaws.join_length_le " / " (ps.map joinW)
    rw [← join_eq, k2] at hjl
    simp only [List.length_map] at hjl
    have k3 : ((ps.map joinW).map fun x => x.length).sum + ps.length * (" / " : Str).length ≤ 16777216 := by rw [k2]; omega
    have hlc := lc_map (i := 9) (m := (mIm (mX (xMt "str" joinD (xC (.str " ")) (xsC (xSl slS (xR 6) (ptI (xR 9)) (ptI (xBin addI (xR 9) (xR 4)))) xsN))))) (e := fun (k : Nat) => .int ((k * wideS ss : Nat) : Int)) (fun k => Tr.d (.str (joinW ((ps.flatten.drop (k * wideS ss)).take (wideS ss))))) (δ := [t0, t1, t2, .ow (.o .l ts), .im (.int (wideS ss)), .im (.str w), .im (sT ps.flatten), s7, .un, .un]) (xs := List.range ps.length) (by simp; unfold sizeLine; omega) rfl fun k hk => by
      have hk := List.mem_range.mp hk
      have hle : k * wideS ss + wideS ss ≤ ps.flatten.length := by
        rw [r6, ← Nat.succ_mul]
        exact Nat.mul_le_mul_right _ hk
      have hc : cutD (ps.flatten.map D.str) (some ((k : Int) * (wideS ss : Int))) (some ((k : Int) * (wideS ss : Int) + (wideS ss : Int))) = ((ps.flatten.drop (k * wideS ss)).take (wideS ss)).map D.str := by
        rw [← Int.natCast_mul, ← Int.natCast_add, cut_nat (by simp only [List.length_map]; omega), List.map_take, List.map_drop, Nat.add_sub_cancel_left]
      have hq : (ps.flatten.drop (k * wideS ss)).take (wideS ss) = ps[k] := flat_at (p := ps[k]) r1 (List.getElem?_eq_getElem hk)
      have hjf := join_fits (s := (" " : Str)) (ws := ps[k]) (fun x hx => (hn x ((hb.row _ (List.getElem_mem hk)).2 x hx)).word.le) (by rw [r1 _ (List.getElem_mem hk)]; omega) (by decide +kernel)
      rw [hq] at hc ⊢
      generalize ps.flatten = fl at hc
      simp [hc, hjf]
    rw [hp] at hlc
    show mSeq _ _ _ = _
    rw [e_seq, e_mSet, e_mFz, e_mLc, hi]
    simp only [R.ok_bind]
    have hw0 : ∀ a b c d e f g h i j : Sl, wipeS [a, b, c, d, e, f, g, h, i, .un] [9] = [a, b, c, d, e, f, g, h, i, .un] := fun _ _ _ _ _ _ _ _ _ _ => rfl
    have ht := line_tier (w := w) hb.ne r2
    generalize ps.flatten = fl at hlc
    have hl7 : ∀ v, stor 7 (.im v) [t0, t1, t2, .ow (.o .l ts), .im (.int (wideS ss)), .im (.str w), .im (sT fl), s7, .un, .un] = .ok [t0, t1, t2, .ow (.o .l ts), .im (.int (wideS ss)), .im (.str w), .im (sT fl), .im v, .un, .un] := by
      intro v
      rcases h7 with rfl | ⟨d, rfl⟩ <;> simp
    rw [hw0 _ _ _ _ _ _ _ _ _ .un, hlc]
    simp only [R.ok_bind]
    rw [hl7]
    have z3 : ts.length < sizeLine := by unfold sizeLine; omega
    have z4 : w.length + (" : " : Str).length ≤ sizeLine := by rw [k1]; unfold sizeLine; omega
    have z5 : w.length + (" : " : Str).length + (Txt.join (" / " : Str) (ps.map joinW)).length ≤ sizeLine := by rw [k1]; unfold sizeLine; omega
    simp only [List.map_map, Function.comp_def] at k3
    simp [k3, z3, z4, z5, Str.length_append, Function.comp_def, ← ht]
theorem rule_text_eq {ss : List Nat} {rows : List Row} (h : RowsOk ss rows) : f_rule_text K [.d (nT ss), .d (sT (lsR rows)), .d (blocksD rows)] = .ok (.d (.str (textR ss rows)), [.d (nT ss), .d (sT (lsR rows)), .d (blocksD rows)]) := by
  have hz := h.len
  have hls : (lsR rows).length ≤ 40 := by simpa [lsR] using hz
  have hl0 : lsR rows ≠ [] := by simpa [lsR] using h.ne
  have w1 : ∀ w ∈ lsR rows, w.length ≤ 9 := fun w hw => (h.nm w hw).word.le
  have sp : (" " : Str).length = 1 := by decide +kernel
  have j1 := join_fits (s := (" " : Str)) w1 (by omega) (by rw [sp]; decide)
  have j2 : (joinW (lsR rows)).length ≤ 10000 := len_joinW2 (fun w hw => (h.nm w hw).word) (by omega)
  have hsl : ss.length ≤ 2 := by have := h.sd.len; omega
  have w2 : ∀ w ∈ ss.map numS, Word w := fun w hw => by
    obtain ⟨n, hn, rfl⟩ := List.mem_map.mp hw
    exact sl_num (by have := (h.sd.lo n hn).2; omega)
  have j3 := join_fits (s := (" " : Str)) (fun w hw => (w2 w hw).le) (by simp; omega) (by rw [sp]; decide)
  have j4 : (joinW (ss.map numS)).length ≤ 10000 := len_joinW2 w2 (by simp; omega)
  have k1 : ("letters " : Str).length = 8 := by decide +kernel
  have k2 : ("sides " : Str).length = 6 := by decide +kernel
  have i0 : ixN ss.length 0 = some 0 := ix_lit (by decide) (by have := h.sd.len; omega)
  have i1 : ss[0]? = some (wideS ss) := by rcases h.sd.two with ⟨a, rfl⟩ | ⟨a, b, rfl⟩ <;> rfl
  simp [f_rule_text, runF, m_rule_text, e_seq, j1, show ("letters " : Str).length + (joinW (lsR rows)).length ≤ sizeLine from by rw [k1]; unfold sizeLine; omega]
  rw [lc_map (e := fun (n : Nat) => .int n) (f := fun n => .d (.str (numS n))) (by unfold sizeLine; omega) rfl fun x hx => by
    have := (h.sd.lo x hx).2
    simp [e_strI (n := x) (by omega)]]
  simp at j3
  simp [Function.comp_def] at j3 ⊢
  have hjj : (Txt.join (" " : Str) (ss.map numS)) = joinW (ss.map numS) := rfl
  have hzip : zipDs ((lsR rows).map D.str) (rows.map fun r => sT r.2.flatten) = rows.map fun r => .tup [.str r.1, sT r.2.flatten] := by
    unfold zipDs lsR
    rw [List.map_map, List.zip_map', List.map_map]
    rfl
  have hbl : asL (blocksD rows) = some (false, rows.map fun r => sT r.2.flatten) := rfl
  simp [j3, show ("sides " : Str).length + (joinW (ss.map numS)).length ≤ sizeLine from by rw [k2]; unfold sizeLine; omega, i0, i1, hzip, hbl]
  have e1 : ("letters " : Str) ++ joinW (lsR rows) = joinW (("letters" : Str) :: lsR rows) := line_of_lit hl0 (by decide +kernel)
  have e2 : ("sides " : Str) ++ joinW (ss.map numS) = joinW (("sides" : Str) :: ss.map numS) := line_of_lit (by simpa using (fun e => by have := h.sd.len; rw [e] at this; simp at this)) (by decide +kernel)
  have e0 : ("rule" : Str) = joinW [("rule" : Str)] := rfl
  rw [show (Txt.join (" " : Str) (lsR rows)) = joinW (lsR rows) from rfl, hjj, e1, e2]
  have hf := for_eq (g := gT 2 (gsC (gN 5) (gsC (gN 6) gsN))) (b := stepB) (e := fun (r : Row) => .tup [.str r.1, sT r.2.flatten])
    (fun pre => [.im (nT ss), .im (sT (lsR rows)), .im (blocksD rows), .ow (.o .l ([.d (.str ("rule" : Str)), .d (.str (joinW (("letters" : Str) :: lsR rows))), .d (.str (joinW (("sides" : Str) :: ss.map numS)))] ++ pre.map fun r => .d (.str (joinW (tierR r))))), .im (.int (wideS ss)), lastS (fun (r : Row) => .str r.1) pre, lastS (fun (r : Row) => sT r.2.flatten) pre, lastS (fun (r : Row) => sL (r.2.map joinW)) pre, .un, .un]) rows fun pre x post e => by
      have hx : x ∈ rows := by rw [← e]; simp
      have hl2 : pre.length < 40 := by have := congrArg List.length e; simp at this; omega
      have := tier_step (ts := [.d (.str ("rule" : Str)), .d (.str (joinW (("letters" : Str) :: lsR rows))), .d (.str (joinW (("sides" : Str) :: ss.map numS)))] ++ pre.map fun r => Tr.d (.str (joinW (tierR r)))) (t0 := .im (nT ss)) (t1 := .im (sT (lsR rows))) (t2 := .im (blocksD rows)) h.sd h.nm (List.mem_map.mpr ⟨x, hx, rfl⟩) (h.bl x hx) (last_cases (fun (r : Row) => .str r.1) pre) (last_cases (fun (r : Row) => sT r.2.flatten) pre) (last_cases (fun (r : Row) => sL (r.2.map joinW)) pre) (by simp; omega)
      simp only [last_app, List.map_append, List.map_cons, List.map_nil]
      rw [← List.append_assoc]
      exact this
  simp only [last_nil, List.map_nil, List.append_nil] at hf
  rw [hf]
  have hlen := lines_words h
  have ht := text_of_eq (K := K) (ls := (linesR ss rows).map joinW) (by simp [linesR]; omega) fun l hl => by
    obtain ⟨q, hq, rfl⟩ := List.mem_map.mp hl
    exact len_joinW2 (hlen q hq).2.2 (hlen q hq).2.1
  have htx : textR ss rows = textL ((linesR ss rows).map joinW) := rfl
  rw [htx]
  generalize textL ((linesR ss rows).map joinW) = tx at ht
  have hls : sL ((linesR ss rows).map joinW) = .lst ((.str ("rule" : Str)) :: (.str (joinW (("letters" : Str) :: lsR rows))) :: (.str (joinW (("sides" : Str) :: ss.map numS))) :: (rows.map (fun r => .str (joinW (tierR r))) ++ [.str ("done" : Str)])) := by
    unfold linesR
    simp
    exact ⟨rfl, rfl⟩
  rw [hls] at ht
  simp [Function.comp_def, ht, show rows.length + 1 + 1 + 1 + 1 ≤ sizeLine from by unfold sizeLine; omega]
end G8
/-! P7: a rule is made. -/
namespace G8
open PySem L2 GX TL
variable {K : PySem.W.Frag}
@[simp] theorem e_mAsg {g : MG} {m : ME} {δ : List Sl} : mAsg g m δ = (m δ >>= fun p => match p.1 with
  | .im d => g d p.2 >>= fun δ' => .ok (.nx δ')
  | .sl _ => .bad) := (rfl)
@[simp] theorem e_mDc {vs : List Nat} {mi : MI} {g : MG} {t : MT} {mk mv : ME} {δ : List Sl} : mDc vs mi g t mk mv δ = (mi δ >>= fun p => dcD vs g t mk mv p.1 [] [] (wipeS p.2 vs)) := (rfl)
@[simp] theorem e_mDcT {vs : List Nat} {mi : MI} {g : MG} {t : MT} {mk mv : ME} {δ : List Sl} : mDcT vs mi g t mk mv δ = (mi δ >>= fun p => dcTD vs g t mk mv p.1 [] [] (wipeS p.2 vs)) := (rfl)
theorem dc_gen {α : Type} {vs : List Nat} {g : MG} {mk mv : ME} {e : α → D} (kd : α → D) (kf : α → Key) (vf : α → D) {δ : List Sl} : ∀ (xs : List α) (ks : List Key) (ts : List Tr), ks.length + xs.length ≤ sizeLine → (ks ++ xs.map kf).Nodup →
    (∀ x ∈ xs, ∃ δ1, g (e x) δ = .ok δ1 ∧ mk δ1 = .ok (.im (kd x), δ1) ∧ keyD (kd x) = some (kf x) ∧ mv δ1 = .ok (.im (vf x), δ1) ∧ wipeS δ1 vs = δ) →
    dcD vs g mYes mk mv (xs.map e) ks ts δ = .ok (.o (.k (ks ++ xs.map kf)) (ts ++ xs.map fun x => .d (vf x)), δ)
  | [], ks, ts, _, _, _ => by simp [dcD]
  | x :: xs, ks, ts, hl, hn, h => by
    obtain ⟨δ1, h1, h2, h3, h4, h5⟩ := h x List.mem_cons_self
    simp only [List.length_cons] at hl
    have hk : kAt (kf x) ks = none := kAt_none fun q => by
      rw [List.nodup_append] at hn
      exact hn.2.2 _ q _ (by simp) rfl
    simp only [List.map_cons, dcD, h1, mYes, e_ne, R.ok_bind]
    rw [if_pos trivial, h2]
    simp only [e_ne, R.ok_bind, h4, h3, R.ofO_some]
    rw [if_pos (by omega), putKD, hk]
    simp only [R.ofO_some, R.ok_bind]
    rw [h5, dc_gen kd kf vf xs (ks ++ [kf x]) (ts ++ [Tr.d (vf x)]) (by simp; omega) (by simpa using hn) fun y hy => h y (List.mem_cons_of_mem _ hy)]
    simp
theorem dcT_gen {α : Type} {vs : List Nat} {g : MG} {mk mv : ME} {e : α → D} (kd : α → D) (kf : α → List Key) (vf : α → D) {δ : List Sl} : ∀ (xs : List α) (ks : List (List Key)) (ts : List Tr), ks.length + xs.length ≤ sizeLine → (ks ++ xs.map kf).Nodup →
    (∀ x ∈ xs, ∃ δ1, g (e x) δ = .ok δ1 ∧ mk δ1 = .ok (.im (kd x), δ1) ∧ keysD (kd x) = some (kf x) ∧ mv δ1 = .ok (.im (vf x), δ1) ∧ wipeS δ1 vs = δ) →
    dcTD vs g mYes mk mv (xs.map e) ks ts δ = .ok (.o (.t (ks ++ xs.map kf)) (ts ++ xs.map fun x => .d (vf x)), δ)
  | [], ks, ts, _, _, _ => by simp [dcTD]
  | x :: xs, ks, ts, hl, hn, h => by
    obtain ⟨δ1, h1, h2, h3, h4, h5⟩ := h x List.mem_cons_self
    simp only [List.length_cons] at hl
    have hk : kAt (kf x) ks = none := kAt_none fun q => by
      rw [List.nodup_append] at hn
      exact hn.2.2 _ q _ (by simp) rfl
    simp only [List.map_cons, dcTD, h1, mYes, e_ne, R.ok_bind]
    rw [if_pos trivial, h2]
    simp only [e_ne, R.ok_bind, h4, h3, R.ofO_some]
    rw [if_pos (by omega), putTD, hk]
    simp only [R.ofO_some, R.ok_bind]
    rw [h5, dcT_gen kd kf vf xs (ks ++ [kf x]) (ts ++ [Tr.d (vf x)]) (by simp; omega) (by simpa using hn) fun y hy => h y (List.mem_cons_of_mem _ hy)]
    simp
/-! ### places -/
def placesN : List Nat → List (List Nat)
  | [a] => (List.range a).map fun x => [x]
  | [a, b] => (List.range b).flatMap fun y => (List.range a).map fun x => [x, y]
  | _ => []
def placesD (ss : List Nat) : D := .tup ((placesN ss).map nT)
theorem sum_const {α : Type} {a : Nat} : ∀ xs : List α, (xs.map fun _ => a).sum = a * xs.length
  | [] => by simp
  | x :: xs => by simp [sum_const xs, Nat.mul_succ]; omega
theorem places_len {ss : List Nat} (h : Sides ss) : (placesN ss).length = ss.prod := by
  rcases h.two with ⟨a, rfl⟩ | ⟨a, b, rfl⟩
  · simp [placesN]
  · simp [placesN, List.length_flatMap, sum_const]
theorem places_of_eq {ss : List Nat} (h : Sides ss) : f_places_of K [.d (nT ss)] = .ok (.d (placesD ss), [.d (nT ss)]) := by
  rcases h.two with ⟨a, rfl⟩ | ⟨a, b, rfl⟩
  · have ha := (h.lo a (by simp)).2
    simp [f_places_of, runF, m_places_of, e_seq, show a ≤ 1000000 by omega]
    rw [lc_map (e := fun (k : Nat) => .int k) (f := fun k => .d (nT [k])) (by simp; unfold sizeLine; omega) rfl fun x hx => by simp]
    simp [placesD, placesN, Function.comp_def]
  · have ha := (h.lo a (by simp)).2
    have hb := (h.lo b (by simp)).2
    have i1 : ixN 2 1 = some 1 := by decide
    simp [f_places_of, runF, m_places_of, e_seq, show b ≤ 1000000 by omega, i1]
    rw [lc2_gen (e := fun (k : Nat) => .int k) (e1 := fun (k : Nat) => .int k) (ys := fun _ => List.range a) (f := fun y x => .d (nT [x, y])) (δx := fun y => [.im (nT [a, b]), .un, .im (.int y)])]
    · have hfl : ∀ ts : List (List Tr), Tr.dats ts.flatten = (ts.map Tr.dats).flatten := by
        intro ts
        induction ts with
        | nil => simp
        | cons t r ih => simp [ih]
      simp [placesD, placesN, Function.comp_def, List.map_flatMap, List.flatMap, hfl]
    · have : a * b ≤ 9 * 9 := Nat.mul_le_mul ha hb
      simp [sum_const]
      unfold sizeLine; omega
    · intro y hy
      simp [mYes, show a ≤ 1000000 by omega]
/-! ### a rule's parts -/
def numO (ls : List Str) (s : Str) : Nat := (kAt s ls).getD 0
theorem kAt_map (s : Str) : ∀ ls : List Str, kAt (Sum.inr s : Key) (ls.map .inr) = kAt s ls
  | [] => rfl
  | a :: r => by
    have ih := kAt_map s r
    rw [List.map_cons, kAt, kAt, ih]
    by_cases h : a = s
    · rw [if_pos h, if_pos (by rw [h])]
    · rw [if_neg h, if_neg (fun e => h (Sum.inr.inj e))]
theorem kAt_mem {s : Str} : ∀ {ls : List Str}, s ∈ ls → kAt s ls = some (numO ls s) ∧ ls[numO ls s]? = some s ∧ numO ls s < ls.length := by
  intro ls h
  cases e : kAt s ls with
  | none => exact absurd h (kAt_not e)
  | some j =>
    have := kAt_some e
    exact ⟨by simp [numO, e], by simpa [numO, e] using this.1, by simpa [numO, e] using this.2⟩
def placeK (p : List Nat) : List Key := p.map fun (n : Nat) => .inl (n : Int)
def colN (rows : List Row) (at_ : Nat) : List Nat := rows.map fun r => numO (lsR rows) (r.2.flatten.getD at_ "")
abbrev ruN : List Str := ["sides", "letters", "places", "written", "blocks", "order", "seats", "columns", "memo"]
def ruleD (K : PySem.W.Frag) (ss : List Nat) (rows : List Row) : D := .ins (He.ga K "Rule") ["sides", "letters", "places", "written", "blocks", "order", "seats", "columns", "memo"]
  [nT ss, sT (lsR rows), placesD ss, .str (textR ss rows), blocksD rows, .dK ((lsR rows).map .inr) ((List.range rows.length).map fun n => .int (n : Nat)), .dT ((placesN ss).map placeK) ((List.range ss.prod).map fun n => .int (n : Nat)), .tup ((List.range ss.prod).map fun a => nT (colN rows a)), .dK [] []]
@[simp] theorem k_n0 : kAt ("sides" : Str) [] = none := by decide +kernel
@[simp] theorem k_f0 : kAt ("sides" : Str) ["sides", "letters", "places", "written", "blocks", "order", "seats", "columns", "memo"] = some 0 := by decide +kernel
@[simp] theorem k_n1 : kAt ("letters" : Str) ["sides"] = none := by decide +kernel
@[simp] theorem k_f1 : kAt ("letters" : Str) ["sides", "letters", "places", "written", "blocks", "order", "seats", "columns", "memo"] = some 1 := by decide +kernel
@[simp] theorem k_n2 : kAt ("places" : Str) ["sides", "letters"] = none := by decide +kernel
@[simp] theorem k_f2 : kAt ("places" : Str) ["sides", "letters", "places", "written", "blocks", "order", "seats", "columns", "memo"] = some 2 := by decide +kernel
@[simp] theorem k_n3 : kAt ("written" : Str) ["sides", "letters", "places"] = none := by decide +kernel
@[simp] theorem k_f3 : kAt ("written" : Str) ["sides", "letters", "places", "written", "blocks", "order", "seats", "columns", "memo"] = some 3 := by decide +kernel
@[simp] theorem k_n4 : kAt ("blocks" : Str) ["sides", "letters", "places", "written"] = none := by decide +kernel
@[simp] theorem k_f4 : kAt ("blocks" : Str) ["sides", "letters", "places", "written", "blocks", "order", "seats", "columns", "memo"] = some 4 := by decide +kernel
@[simp] theorem k_n5 : kAt ("order" : Str) ["sides", "letters", "places", "written", "blocks"] = none := by decide +kernel
@[simp] theorem k_f5 : kAt ("order" : Str) ["sides", "letters", "places", "written", "blocks", "order", "seats", "columns", "memo"] = some 5 := by decide +kernel
@[simp] theorem k_n6 : kAt ("seats" : Str) ["sides", "letters", "places", "written", "blocks", "order"] = none := by decide +kernel
@[simp] theorem k_f6 : kAt ("seats" : Str) ["sides", "letters", "places", "written", "blocks", "order", "seats", "columns", "memo"] = some 6 := by decide +kernel
@[simp] theorem k_n7 : kAt ("columns" : Str) ["sides", "letters", "places", "written", "blocks", "order", "seats"] = none := by decide +kernel
@[simp] theorem k_f7 : kAt ("columns" : Str) ["sides", "letters", "places", "written", "blocks", "order", "seats", "columns", "memo"] = some 7 := by decide +kernel
@[simp] theorem k_n8 : kAt ("memo" : Str) ["sides", "letters", "places", "written", "blocks", "order", "seats", "columns"] = none := by decide +kernel
@[simp] theorem k_f8 : kAt ("memo" : Str) ["sides", "letters", "places", "written", "blocks", "order", "seats", "columns", "memo"] = some 8 := by decide +kernel
@[simp] theorem k_p6 : kAt ("places" : Str) ["sides", "letters", "places", "written", "blocks", "order"] = some 2 := by decide +kernel
@[simp] theorem k_p7 : kAt ("places" : Str) ["sides", "letters", "places", "written", "blocks", "order", "seats"] = some 2 := by decide +kernel
@[simp] theorem k_o7 : kAt ("order" : Str) ["sides", "letters", "places", "written", "blocks", "order", "seats"] = some 5 := by decide +kernel
@[simp] theorem k_m_number_of : kAt ("number_of" : Str) ["sides", "letters", "places", "written", "blocks", "order", "seats", "columns", "memo"] = none := by decide +kernel
@[simp] theorem k_m_seat_of : kAt ("seat_of" : Str) ["sides", "letters", "places", "written", "blocks", "order", "seats", "columns", "memo"] = none := by decide +kernel
@[simp] theorem k_m_at : kAt ("at" : Str) ["sides", "letters", "places", "written", "blocks", "order", "seats", "columns", "memo"] = none := by decide +kernel
@[simp] theorem k_m_text : kAt ("text" : Str) ["sides", "letters", "places", "written", "blocks", "order", "seats", "columns", "memo"] = none := by decide +kernel
@[simp] theorem k_m_len : kAt ("__len__" : Str) ["sides", "letters", "places", "written", "blocks", "order", "seats", "columns", "memo"] = none := by decide +kernel
theorem keysD_eq : ∀ p : List Nat, keysD (nT p) = some (placeK p) := by
  intro p
  show (p.map fun n => D.int (n : Nat)).mapM keyD = _
  induction p with
  | nil => rfl
  | cons n p ih =>
    rw [List.map_cons, List.mapM_cons, ih]
    rfl
theorem placeK_inj : ∀ {p q : List Nat}, placeK p = placeK q → p = q
  | [], [], _ => rfl
  | [], _ :: _, h => by cases h
  | _ :: _, [], h => by cases h
  | a :: p, b :: q, h => by
    obtain ⟨h1, h2⟩ := List.cons.inj h
    have e : (a : Int) = (b : Int) := Sum.inl.inj h1
    rw [placeK_inj h2, show a = b by omega]
theorem nodup_map {α β : Type} {f : α → β} (hf : ∀ a b, f a = f b → a = b) : ∀ {xs : List α}, xs.Nodup → (xs.map f).Nodup
  | [], _ => List.nodup_nil
  | x :: xs, h => by
    have h := List.nodup_cons.mp h
    rw [List.map_cons, List.nodup_cons]
    refine ⟨fun q => ?_, nodup_map hf h.2⟩
    obtain ⟨y, hy, e⟩ := List.mem_map.mp q
    rw [hf _ _ e] at hy
    exact h.1 hy
theorem nodup_flatMap {α β : Type} {f : α → List β} (h1 : ∀ a, (f a).Nodup) (h2 : ∀ a b z, z ∈ f a → z ∈ f b → a = b) : ∀ {xs : List α}, xs.Nodup → (xs.flatMap f).Nodup
  | [], _ => List.nodup_nil
  | x :: xs, h => by
    have h := List.nodup_cons.mp h
    rw [List.flatMap_cons, List.nodup_append]
    refine ⟨h1 x, nodup_flatMap h1 h2 h.2, fun a ha b hb e => ?_⟩
    subst e
    obtain ⟨y, hy, hz⟩ := List.mem_flatMap.mp hb
    rw [h2 _ _ _ ha hz] at h
    exact h.1 hy
theorem places_nodup (ss : List Nat) : (placesN ss).Nodup := by
  match ss with
  | [] => exact List.nodup_nil
  | [a] => exact nodup_map (fun x y e => by simpa using e) List.nodup_range
  | [a, b] =>
    refine nodup_flatMap (fun y => nodup_map (fun x z e => by simpa using e) List.nodup_range) (fun x y z hx hy => ?_) List.nodup_range
    obtain ⟨u, _, rfl⟩ := List.mem_map.mp hx
    obtain ⟨v, _, e⟩ := List.mem_map.mp hy
    simp at e
    exact e.2.symm
  | _ :: _ :: _ :: _ => exact List.nodup_nil
theorem order_eq {rows : List Row} {ls : List Str} {s0 s1 s2 s3 s4 s5 s8 s9 : Sl} (h : ls.Nodup) (hl : ls.length ≤ 40) :
    dcD [6, 7] (gT 2 (gsC (gN 6) (gsC (gN 7) gsN))) mYes (mX (xV 7)) (mX (xV 6)) (enumDs (ls.map .str)) [] [] [s0, s1, s2, s3, s4, s5, .un, .un, s8, s9] = .ok (.o (.k (ls.map .inr)) ((List.range ls.length).map fun n => .d (.int (n : Nat))), [s0, s1, s2, s3, s4, s5, .un, .un, s8, s9]) := by
  rw [enum_map, dc_gen (e := fun (p : Str × Nat) => .tup [.int (p.2 : Nat), .str p.1]) (kd := fun p => .str p.1) (kf := fun p => .inr p.1) (vf := fun p => .int (p.2 : Nat))]
  · simp only [List.nil_append]
    have e1 : ls.zipIdx.map (fun p => (Sum.inr p.1 : Key)) = ls.map .inr := by
      have : ls.zipIdx.map Prod.fst = ls := by simp
      conv => rhs; rw [← this, List.map_map]
      rfl
    have e2 : (ls.zipIdx.map fun p => Tr.d (.int (p.2 : Nat))) = (List.range ls.length).map fun n => .d (.int (n : Nat)) := by
      have : ls.zipIdx.map Prod.snd = List.range ls.length := by simp [List.range_eq_range']
      conv => rhs; rw [← this, List.map_map]
      rfl
    rw [e1, e2]
  · simp; unfold sizeLine; omega
  · have e1 : ls.zipIdx.map (fun p => (Sum.inr p.1 : Key)) = ls.map .inr := by
      have : ls.zipIdx.map Prod.fst = ls := by simp
      conv => rhs; rw [← this, List.map_map]
      rfl
    rw [List.nil_append, e1]
    exact List.Pairwise.map (fun (s : Str) => (Sum.inr s : Key)) (fun a b h e => h (Sum.inr.inj e)) h
  · intro p _
    simp
theorem seats_eq {ss : List Nat} {s0 s1 s2 s3 s4 s5 s7 s9 : Sl} (h : Sides ss) :
    dcTD [6, 8] (gT 2 (gsC (gN 6) (gsC (gN 8) gsN))) mYes (mX (xV 8)) (mX (xV 6)) (enumDs ((placesN ss).map nT)) [] [] [s0, s1, s2, s3, s4, s5, .un, s7, .un, s9] = .ok (.o (.t ((placesN ss).map placeK)) ((List.range ss.prod).map fun n => .d (.int (n : Nat))), [s0, s1, s2, s3, s4, s5, .un, s7, .un, s9]) := by
  have hl := places_len h
  have hp := h.pr
  rw [enum_map, dcT_gen (e := fun (p : List Nat × Nat) => .tup [.int (p.2 : Nat), nT p.1]) (kd := fun p => nT p.1) (kf := fun p => placeK p.1) (vf := fun p => .int (p.2 : Nat))]
  · simp only [List.nil_append]
    have e1 : (placesN ss).zipIdx.map (fun p => placeK p.1) = (placesN ss).map placeK := by
      have : (placesN ss).zipIdx.map Prod.fst = placesN ss := by simp
      conv => rhs; rw [← this, List.map_map]
      rfl
    have e2 : ((placesN ss).zipIdx.map fun p => Tr.d (.int (p.2 : Nat))) = (List.range ss.prod).map fun n => .d (.int (n : Nat)) := by
      have : (placesN ss).zipIdx.map Prod.snd = List.range ss.prod := by simp [List.range_eq_range', hl]
      conv => rhs; rw [← this, List.map_map]
      rfl
    rw [e1, e2]
  · simp [hl]; unfold sizeLine; omega
  · have e1 : (placesN ss).zipIdx.map (fun p => placeK p.1) = (placesN ss).map placeK := by
      have : (placesN ss).zipIdx.map Prod.fst = placesN ss := by simp
      conv => rhs; rw [← this, List.map_map]
      rfl
    rw [List.nil_append, e1]
    exact nodup_map (fun _ _ e => placeK_inj e) (places_nodup ss)
  · intro p _
    simp [keysD_eq]
abbrev ruT7 (K : PySem.W.Frag) (ss : List Nat) (rows : List Row) : Tr := .o (.i (He.ga K "Rule") ["sides", "letters", "places", "written", "blocks", "order", "seats"])
  [.d (nT ss), .d (sT (lsR rows)), .d (.tup ((placesN ss).map nT)), .d (.str (textR ss rows)), .d (blocksD rows), .d (.dK ((lsR rows).map .inr) ((List.range (lsR rows).length).map fun (n : Nat) => .int n)), .d (.dT ((placesN ss).map placeK) ((List.range ss.prod).map fun (n : Nat) => .int n))]
theorem cols_eq {ss : List Nat} {rows : List Row} {s1 s2 s3 : Sl} (h : RowsOk ss rows) :
    forD (gN 6) (mDrop (mApp 5 (mIm (mCB tupD (mCons (mFz (mLc [9] (mIT (mX (xV 4))) (gN 9) mYes (mIm (mX (xBin dGetD (xPR (pFld (He.ga K "Rule") "order" (pV 0))) (xBin ixD (xR 9) (xR 6))))))) mNil)))))
      ((List.range ss.prod).map fun (n : Nat) => .int n) [.io (ruT7 K ss rows), s1, s2, s3, .im (blocksD rows), .ow (.o .l []), .un, .un, .un, .un] =
      .ok (.nx [.io (ruT7 K ss rows), s1, s2, s3, .im (blocksD rows), .ow (.o .l ((List.range ss.prod).map fun a => .d (nT (colN rows a)))), lastS (fun (n : Nat) => .int n) (List.range ss.prod), .un, .un, .un]) := by
  have hp := h.sd.pr
  have hle : (lsR rows).length = rows.length := by simp [lsR]
  have hz := h.len
  refine for_eq (e := fun (n : Nat) => D.int n) (fun pre => [.io (ruT7 K ss rows), s1, s2, s3, .im (blocksD rows), .ow (.o .l (pre.map fun a => .d (nT (colN rows a)))), lastS (fun (n : Nat) => .int n) pre, .un, .un, .un]) (List.range ss.prod) fun pre x post e => ?_
  have hx : x < ss.prod := by
    have : x ∈ List.range ss.prod := by rw [← e]; simp
    simpa using this
  have hpre : pre.length < sizeLine := by
    have := congrArg List.length e
    simp at this
    unfold sizeLine; omega
  refine ⟨[.io (ruT7 K ss rows), s1, s2, s3, .im (blocksD rows), .ow (.o .l (pre.map fun a => .d (nT (colN rows a)))), .im (.int x), .un, .un, .un], ?_, ?_⟩
  · rcases last_cases (fun (n : Nat) => D.int n) pre with q | ⟨d, q⟩ <;> simp [q]
  · have hlc := lc_map (i := 9) (m := (mIm (mX (xBin dGetD (xPR (pFld (He.ga K "Rule") "order" (pV 0))) (xBin ixD (xR 9) (xR 6)))))) (e := fun (r : Row) => sT r.2.flatten) (fun r => .d (.int (numO (lsR rows) (r.2.flatten.getD x "") : Nat))) (δ := [.io (ruT7 K ss rows), s1, s2, s3, .im (blocksD rows), .ow (.o .l (pre.map fun a => .d (nT (colN rows a)))), .im (.int x), .un, .un, .un]) (xs := rows) (by unfold sizeLine; omega) rfl fun r hr => by
      have hb := h.bl r hr
      have hl : x < r.2.flatten.length := by rw [hb.fl]; exact hx
      have hg : r.2.flatten[x]? = some (r.2.flatten.getD x "") := by rw [List.getD_eq_getElem?_getD, List.getElem?_eq_getElem hl]; rfl
      have hm : r.2.flatten.getD x "" ∈ lsR rows := by
        have := List.mem_of_getElem? hg
        obtain ⟨q, hq, hm⟩ := List.mem_flatten.mp this
        exact (hb.row q hq).2 _ hm
      obtain ⟨k1, k2, k3⟩ := kAt_mem hm
      have k4 : kAt (Sum.inr (r.2.flatten.getD x "") : Key) ((lsR rows).map .inr) = some (numO (lsR rows) (r.2.flatten.getD x "")) := by rw [kAt_map]; exact k1
      generalize r.2.flatten.getD x "" = s at hg k1 k2 k3 k4
      generalize r.2.flatten = fl at hg hl
      have ix : ixN fl.length (x : Int) = some x := ix_nat hl
      simp [ix, hg, k4, k3]
    simp only [last_app]
    have hb : mIT (mX (xV 4)) [.io (ruT7 K ss rows), s1, s2, s3, .im (blocksD rows), .ow (.o .l (pre.map fun a => .d (nT (colN rows a)))), .im (.int x), .un, .un, .un] = .ok (rows.map fun r => sT r.2.flatten, [.io (ruT7 K ss rows), s1, s2, s3, .im (blocksD rows), .ow (.o .l (pre.map fun a => .d (nT (colN rows a)))), .im (.int x), .un, .un, .un]) := rfl
    have hw : wipeS [.io (ruT7 K ss rows), s1, s2, s3, .im (blocksD rows), .ow (.o .l (pre.map fun a => .d (nT (colN rows a)))), .im (.int x), .un, .un, .un] [9] = [.io (ruT7 K ss rows), s1, s2, s3, .im (blocksD rows), .ow (.o .l (pre.map fun a => .d (nT (colN rows a)))), .im (.int x), .un, .un, .un] := rfl
    have hz : mFz (mLc [9] (mIT (mX (xV 4))) (gN 9) mYes (mIm (mX (xBin dGetD (xPR (pFld (He.ga K "Rule") "order" (pV 0))) (xBin ixD (xR 9) (xR 6)))))) [.io (ruT7 K ss rows), s1, s2, s3, .im (blocksD rows), .ow (.o .l (pre.map fun a => .d (nT (colN rows a)))), .im (.int x), .un, .un, .un] =
      .ok (.im (nL (colN rows x)), [.io (ruT7 K ss rows), s1, s2, s3, .im (blocksD rows), .ow (.o .l (pre.map fun a => .d (nT (colN rows a)))), .im (.int x), .un, .un, .un]) := by
      rw [e_mFz, e_mLc, hb]
      simp only [R.ok_bind]
      rw [hw, hlc]
      simp only [R.ok_bind, e_datL, e_datsM, e_datD]
      simp only [nL, colN, List.map_map, Function.comp_def]
    generalize hg : mFz (mLc [9] (mIT (mX (xV 4))) (gN 9) mYes (mIm (mX (xBin dGetD (xPR (pFld (He.ga K "Rule") "order" (pV 0))) (xBin ixD (xR 9) (xR 6)))))) = mm at hz ⊢
    simp [hz, hpre, Function.comp_def]
theorem rule_new {ss : List Nat} {rows : List Row} (h : RowsOk ss rows) : f_Rule___init__ K [.o (.i (He.ga K "Rule") []) [], .d (.str (textR ss rows))] = .ok (.d .non, [.o (.i (He.ga K "Rule") ["sides", "letters", "places", "written", "blocks", "order", "seats", "columns", "memo"]) [.d (nT ss), .d (sT (lsR rows)), .d (placesD ss), .d (.str (textR ss rows)), .d (blocksD rows), .d (.dK ((lsR rows).map .inr) ((List.range rows.length).map fun n => .int (n : Nat))), .d (.dT ((placesN ss).map placeK) ((List.range ss.prod).map fun n => .int (n : Nat))), .d (.tup ((List.range ss.prod).map fun a => nT (colN rows a))), .d (.dK [] [])], .d (.str (textR ss rows))]) := by
  have e1 := read_rule_eq (K := K) h
  have e2 := rule_text_eq (K := K) h
  have e3 := fun s0 s1 s2 s3 s4 s5 s8 s9 => order_eq (rows := rows) (s0 := s0) (s1 := s1) (s2 := s2) (s3 := s3) (s4 := s4) (s5 := s5) (s8 := s8) (s9 := s9) h.nd (by simpa [lsR] using h.len)
  have e4 := fun s0 s1 s2 s3 s4 s5 s7 s9 => seats_eq (s0 := s0) (s1 := s1) (s2 := s2) (s3 := s3) (s4 := s4) (s5 := s5) (s7 := s7) (s9 := s9) h.sd
  have hp := h.sd.pr
  have hpl := places_len h.sd
  have hle : (lsR rows).length = rows.length := by simp [lsR]
  simp [f_Rule___init__, runF, m_Rule___init__, e_seq, e1, e2, places_of_eq h.sd]
  rw [e3]
  simp [placesD]
  rw [e4]
  simp [hpl, show ss.prod ≤ 1000000 by omega]
  have hc := cols_eq (K := K) (s1 := .im (.str (textR ss rows))) (s2 := .im (nT ss)) (s3 := .im (sT (lsR rows))) h
  rw [hc]
  simp [hle, placesD, Function.comp_def]
end G8
/-! P8: rules of parts; counts. -/
namespace G8
open PySem L2 GX TL
variable {K : PySem.W.Frag}
abbrev blocksL (rows : List Row) : D := .lst (rows.map fun r => sL r.2.flatten)
@[simp] theorem e_isD2L {ds : List D} : isD2 "list" "tuple" (.lst ds) = some (.bl true) := (rfl)
@[simp] theorem e_isDT {ds : List D} : isD "tuple" (.tup ds) = some (.bl true) := (rfl)
theorem checked_rule_eq {ss : List Nat} {rows : List Row} (h : RowsOk ss rows) : f_checked_rule K [.d (nT ss), .d (sL (lsR rows)), .d (blocksL rows)] = .ok (.d (.tup [nT ss, sT (lsR rows), blocksD rows]), [.d (nT ss), .d (sL (lsR rows)), .d (blocksL rows)]) := by
  have h1 := checked_letters_eq (K := K) (l := 0) h.nm h.nd (by simpa [lsR] using h.ne) (by simpa [lsR] using h.len)
  have h2 := checked_sides_T_eq (K := K) (l := 0) h.sd
  have hz := h.len
  have hle : (lsR rows).length = rows.length := by simp [lsR]
  have hf := for_eq (e := fun (r : Row) => sL r.2.flatten) (g := gN 5) (b := (mDrop (mFz (mCallO (f_need K) (mCons (mX (xUn (isD2 "list" "tuple") (xR 5))) (mCons (mX (xC (.int 0))) (mCons (mX (xC (.str "a block is no list"))) mNil)))))))
    (fun pre => [.im (nT ss), .im (sL (lsR rows)), .im (blocksL rows), .im (sT (lsR rows)), .im (nT ss), lastS (fun (r : Row) => sL r.2.flatten) pre]) rows fun pre x post e => by
    rcases last_cases (fun (r : Row) => sL r.2.flatten) pre with q | ⟨d, q⟩ <;> simp [q, need_eq]
  simp only [last_nil] at hf
  simp [f_checked_rule, runF, m_checked_rule, e_seq, h1, h2, need_eq, hle]
  rw [hf]
  simp
  rw [lc_map (e := fun (r : Row) => sL r.2.flatten) (f := fun r => .d (sT r.2.flatten)) (by unfold sizeLine; omega) rfl fun r hr => by
    have hb := h.bl r hr
    have := checked_block_eq (K := K) (l := 0) (bs := r.2.flatten) h.sd (fun b hm => by
      obtain ⟨q, hq, hm⟩ := List.mem_flatten.mp hm
      exact (hb.row q hq).2 _ hm) h.nm hb.fl
    generalize r.2.flatten = fl at this
    simp [this]]
  simp [blocksD, Function.comp_def]
theorem rule_of_eq {ss : List Nat} {rows : List Row} (h : RowsOk ss rows) : Tru (f_Rule_of K [.d (nT ss), .d (sL (lsR rows)), .d (blocksL rows)]) fun r => r.1.dat = ruleD K ss rows ∧ r.2 = [.d (nT ss), .d (sL (lsR rows)), .d (blocksL rows)] := by
  have h1 := checked_rule_eq (K := K) h
  have h2 := rule_text_eq (K := K) h
  have h3 := rule_new (K := K) h
  refine ⟨(.o (.i (He.ga K "Rule") ["sides", "letters", "places", "written", "blocks", "order", "seats", "columns", "memo"]) [.d (nT ss), .d (sT (lsR rows)), .d (placesD ss), .d (.str (textR ss rows)), .d (blocksD rows), .d (.dK ((lsR rows).map .inr) ((List.range rows.length).map fun n => .int (n : Nat))), .d (.dT ((placesN ss).map placeK) ((List.range ss.prod).map fun n => .int (n : Nat))), .d (.tup ((List.range ss.prod).map fun a => nT (colN rows a))), .d (.dK [] [])], [.d (nT ss), .d (sL (lsR rows)), .d (blocksL rows)]), ?_, ?_⟩
  · simp [f_Rule_of, runF, m_Rule_of, e_seq, h1, h2, h3]
  · simp [ruleD]
/-! ### a rule asked -/
@[simp] theorem e_fldI {C : Addr} {f : Str} {ns : List Str} {xs : List D} : fldD C f (.ins C ns xs) = (ns.zip xs).lookup f := by simp [fldD]
@[simp] theorem e_xFld {C : Addr} {f : Str} {m : MX} {δ : List Sl} : xFld C f m δ = (m δ).bind (fldD C f) := (rfl)
theorem lk0 {f : Str} {x : D} {r : List (Str × D)} : ((f, x) :: r).lookup f = some x := by simp [List.lookup]
theorem lk1 {f g : Str} {x : D} {r : List (Str × D)} (h : (f == g) = false) : ((g, x) :: r).lookup f = r.lookup f := by simp [List.lookup, h]
section
variable {ss : List Nat} {rows : List Row}
theorem fld_order : fldD (He.ga K "Rule") "order" (ruleD K ss rows) = some (.dK ((lsR rows).map .inr) ((List.range rows.length).map fun n => .int (n : Nat))) := by
  unfold ruleD
  rw [e_fldI]
  simp only [List.zip_cons_cons]
  rw [lk1 (by decide +kernel), lk1 (by decide +kernel), lk1 (by decide +kernel), lk1 (by decide +kernel), lk1 (by decide +kernel), lk0]
theorem fld_letters : fldD (He.ga K "Rule") "letters" (ruleD K ss rows) = some (sT (lsR rows)) := by
  unfold ruleD
  rw [e_fldI]
  simp only [List.zip_cons_cons]
  rw [lk1 (by decide +kernel), lk0]
theorem fld_written : fldD (He.ga K "Rule") "written" (ruleD K ss rows) = some (.str (textR ss rows)) := by
  unfold ruleD
  rw [e_fldI]
  simp only [List.zip_cons_cons]
  rw [lk1 (by decide +kernel), lk1 (by decide +kernel), lk1 (by decide +kernel), lk0]
theorem fld_columns : fldD (He.ga K "Rule") "columns" (ruleD K ss rows) = some (.tup ((List.range ss.prod).map fun a => nT (colN rows a))) := by
  unfold ruleD
  rw [e_fldI]
  simp only [List.zip_cons_cons]
  rw [lk1 (by decide +kernel), lk1 (by decide +kernel), lk1 (by decide +kernel), lk1 (by decide +kernel), lk1 (by decide +kernel), lk1 (by decide +kernel), lk1 (by decide +kernel), lk0]
theorem insOk_rule {m : Str} {δ : List Sl} (h : kAt m ["sides", "letters", "places", "written", "blocks", "order", "seats", "columns", "memo"] = none) : insOk (He.ga K "Rule") m δ (.im (ruleD K ss rows)) = true := by
  unfold ruleD
  simp [h]
theorem number_of_eq {s : Str} (h : s ∈ lsR rows) : f_Rule_number_of K [.d (ruleD K ss rows), .d (.str s)] = .ok (.d (.int (numO (lsR rows) s : Nat)), [.d (ruleD K ss rows), .d (.str s)]) := by
  obtain ⟨k1, k2, k3⟩ := kAt_mem h
  have k4 : kAt (Sum.inr s : Key) ((lsR rows).map .inr) = some (numO (lsR rows) s) := by rw [kAt_map]; exact k1
  have hle : (lsR rows).length = rows.length := by simp [lsR]
  rw [hle] at k3
  simp [f_Rule_number_of, runF, m_Rule_number_of, e_seq, fld_order, k4, k3]
theorem check_letter_eq {s : Str} (h : s ∈ lsR rows) : f_check_letter K [.d (ruleD K ss rows), .d (.str s)] = .ok (.d (.int (numO (lsR rows) s : Nat)), [.d (ruleD K ss rows), .d (.str s)]) := by
  have := number_of_eq (K := K) (ss := ss) h
  simp [f_check_letter, runF, m_check_letter, e_seq, this, insOk_rule (K := K) (ss := ss) (rows := rows) k_m_number_of]
theorem check_level_eq {n : Nat} (h : n ≤ 200) : f_check_level K [.d (.int n)] = .ok (.d .non, [.d (.int n)]) := by
  simp [f_check_level, runF, m_check_level, e_seq, integral_eq, show ¬ (200 : Int) < n by omega, show ¬ (n : Int) < 0 by omega]
theorem rule_len_eq : f_Rule___len__ K [.d (ruleD K ss rows)] = .ok (.d (.int rows.length), [.d (ruleD K ss rows)]) := by
  have hle : (lsR rows).length = rows.length := by simp [lsR]
  simp [f_Rule___len__, runF, m_Rule___len__, e_seq, fld_letters, hle]
end
end G8
/-! P9: counts. -/
namespace G8
open PySem L2 GX TL
variable {K : PySem.W.Frag}
@[simp] theorem e_mAugI (f : D → D → Option D) (mp : MP) (mk m : MX) {δ : List Sl} : mAugI f mp mk m δ = (R.ofO (mp δ) >>= fun r => R.ofO (mk δ) >>= fun k => R.ofO (m δ) >>= fun y => match r.2.2, k with
  | .o .l ts, .int k => R.ofO (ixN ts.length k) >>= fun j => (match ts[j]? with
    | some (.d x) => R.ofO (f x y) >>= fun z => .ok (.nx (putP δ r.1 r.2.1 (.o .l (ts.set j (.d z)))))
    | _ => .bad)
  | _, _ => .bad) := (rfl)
def NoIo (s : Sl) : Prop := s = .un ∨ ∃ d, s = .im d
theorem NoIo.un : NoIo .un := .inl rfl
theorem NoIo.im {d : D} : NoIo (.im d) := .inr ⟨d, rfl⟩
/-! ### sums at places -/
def addTo (r : List Int) (p : Nat × Int) : List Int := r.set p.1 (r.getD p.1 0 + p.2)
theorem addTo_len (r : List Int) (p : Nat × Int) : (addTo r p).length = r.length := by simp [addTo]
theorem addTo_get (r : List Int) (p : Nat × Int) (j : Nat) : (addTo r p)[j]? = if p.1 = j then (r[j]?).map (· + p.2) else r[j]? := by
  unfold addTo
  rw [List.getElem?_set]
  by_cases h : p.1 = j
  · subst h
    simp only [if_true]
    by_cases q : p.1 < r.length
    · rw [if_pos q, List.getElem?_eq_getElem q, List.getD_eq_getElem?_getD, List.getElem?_eq_getElem q]; rfl
    · rw [if_neg q, List.getElem?_eq_none (by omega)]; rfl
  · rw [if_neg h, if_neg h]
theorem addTo_comm (r : List Int) (p q : Nat × Int) : addTo (addTo r p) q = addTo (addTo r q) p := by
  refine List.ext_getElem? fun j => ?_
  rw [addTo_get, addTo_get, addTo_get, addTo_get]
  by_cases h1 : p.1 = j <;> by_cases h2 : q.1 = j <;> simp [h1, h2, Option.map_map, Function.comp_def]
  congr 1
  funext x
  omega
theorem sums_perm {xs ys : List (Nat × Int)} (h : xs.Perm ys) : ∀ r : List Int, xs.foldl addTo r = ys.foldl addTo r := by
  induction h with
  | nil => intro r; rfl
  | cons x _ ih => intro r; exact ih _
  | swap x y l => intro r; simp only [List.foldl_cons]; rw [addTo_comm]
  | trans _ _ h1 h2 => intro r; rw [h1, h2]
theorem sums_len (xs : List (Nat × Int)) : ∀ r : List Int, (xs.foldl addTo r).length = r.length := by
  induction xs with
  | nil => intro r; rfl
  | cons x xs ih => intro r; rw [List.foldl_cons, ih, addTo_len]
theorem flatMap_nil {α β : Type} : ∀ xs : List α, (xs.flatMap fun _ => ([] : List β)) = []
  | [] => rfl
  | x :: xs => by rw [List.flatMap_cons, flatMap_nil xs]; rfl
theorem flatMap_cons_perm {α β : Type} (g : α → β) (f : α → List β) : ∀ xs : List α, (xs.flatMap fun x => g x :: f x).Perm (xs.map g ++ xs.flatMap f)
  | [] => List.Perm.refl _
  | x :: xs => by
    rw [List.flatMap_cons, List.map_cons, List.flatMap_cons, List.cons_append, List.cons_append]
    refine List.Perm.cons _ ?_
    refine ((flatMap_cons_perm g f xs).append_left (f x)).trans ?_
    rw [← List.append_assoc, ← List.append_assoc]
    exact List.Perm.append_right _ List.perm_append_comm
theorem swap_perm {α β γ : Type} (f : α → β → γ) (ys : List β) : ∀ xs : List α, (xs.flatMap fun x => ys.map (f x)).Perm (ys.flatMap fun y => xs.map fun x => f x y)
  | [] => by simp only [List.flatMap_nil, List.map_nil]; rw [flatMap_nil]
  | x :: xs => by
    rw [List.flatMap_cons]
    simp only [List.map_cons]
    exact ((swap_perm f ys xs).append_left _).trans (flatMap_cons_perm (f x) (fun y => xs.map fun x => f x y) ys).symm
abbrev iD (v : List Int) : D := .lst (v.map fun (n : Int) => .int n)
abbrev iT (v : List Int) : Tr := .o .l (v.map fun (n : Int) => .d (.int n))
/-- what a column adds -/
def colP (v : List Int) (c : List Nat) : List (Nat × Int) := c.zipIdx.map fun p => (p.1, v.getD p.2 0)
def countedN (cols : List (List Nat)) (v : List Int) : List Int := (cols.flatMap (colP v)).foldl addTo (List.replicate v.length 0)
theorem counted_in {v : List Int} {n : Nat} {d : D} {r0 : List Int} (hn : r0.length = v.length) {c : List Nat} (hc : ∀ x ∈ c, x < v.length) (hl : c.length = v.length) {s4 s5 : Sl} (h4 : NoIo s4) (h5 : NoIo s5) :
    Tru (forD (gT 2 (gsC (gN 4) (gsC (gN 5) gsN))) (mAugI addI (pV 2) (xR 5) (xBin ixD (xR 1) (xR 4))) (enumDs (c.map fun (n : Nat) => .int n)) [.im d, .io (iT v), .ow (iT r0), .im (nT c), s4, s5])
      fun o => ∃ s4 s5, NoIo s4 ∧ NoIo s5 ∧ o = .nx [.im d, .io (iT v), .ow (iT ((colP v c).foldl addTo r0)), .im (nT c), s4, s5] := by
  rw [enum_map]
  refine for0 (e := fun (p : Nat × Nat) => .tup [.int (p.2 : Nat), .int (p.1 : Nat)]) (fun pre δ => ∃ s4 s5, NoIo s4 ∧ NoIo s5 ∧ δ = [.im d, .io (iT v), .ow (iT ((pre.map fun p => (p.1, v.getD p.2 0)).foldl addTo r0)), .im (nT c), s4, s5]) c.zipIdx ⟨s4, s5, h4, h5, rfl⟩ (fun δ h => ?_) fun pre x post δ e h => ?_
  · obtain ⟨s4, s5, h4, h5, rfl⟩ := h
    exact ⟨s4, s5, h4, h5, rfl⟩
  · obtain ⟨s4, s5, h4, h5, rfl⟩ := h
    have hx : x ∈ c.zipIdx := by rw [← e]; simp
    have x1 : x.1 < v.length := hc _ (List.fst_mem_of_mem_zipIdx hx)
    have x2 : x.2 < v.length := by
      have := List.mem_zipIdx hx
      omega
    refine ⟨[.im d, .io (iT v), .ow (iT ((pre.map fun p => (p.1, v.getD p.2 0)).foldl addTo r0)), .im (nT c), .im (.int x.2), .im (.int x.1)], ?_, ?_⟩
    · rcases h4 with rfl | ⟨d4, rfl⟩ <;> rcases h5 with rfl | ⟨d5, rfl⟩ <;> simp
    · have hr : ((pre.map fun p => (p.1, v.getD p.2 0)).foldl addTo r0).length = v.length := by rw [sums_len, hn]
      simp only [List.map_append, List.foldl_append, List.map_cons, List.map_nil, List.foldl_cons, List.foldl_nil]
      generalize (pre.map fun p => (p.1, v.getD p.2 0)).foldl addTo r0 = r at hr
      have i1 : ixN r.length (x.1 : Int) = some x.1 := ix_nat (by omega)
      have i2 : ixN v.length (x.2 : Int) = some x.2 := ix_nat (by omega)
      have g1 : r[x.1]? = some (r.getD x.1 0) := by rw [List.getD_eq_getElem?_getD, List.getElem?_eq_getElem (by omega)]; rfl
      have g2 : v[x.2]? = some (v.getD x.2 0) := by rw [List.getD_eq_getElem?_getD, List.getElem?_eq_getElem (by omega)]; rfl
      have e2 : ∀ z : Int, (r.map fun (n : Int) => Tr.d (.int n)).set x.1 (.d (.int z)) = (r.set x.1 z).map fun (n : Int) => Tr.d (.int n) := fun z => by rw [List.map_set]
      simp only [addTo]
      generalize r.getD x.1 0 = a at g1
      generalize v.getD x.2 0 = b at g2
      simp [i1, i2, g1, g2]
      exact ⟨NoIo.im, NoIo.im⟩
theorem counted_eq {ss : List Nat} {rows : List Row} {v : List Int} (hl : v.length = rows.length) (hz : rows.length ≤ 40) (hp : ss.prod ≤ 16) (hc : ∀ a < ss.prod, ∀ x ∈ colN rows a, x < rows.length) :
    f_counted K [.d (ruleD K ss rows), iT v] = .ok (iT (countedN ((List.range ss.prod).map (colN rows)) v), [.d (ruleD K ss rows), iT v]) := by
  have hfor : Tru (forD (gN 3) (mFor (mIEnT (mCons (mX (xV 3)) mNil)) (gT 2 (gsC (gN 4) (gsC (gN 5) gsN))) (mAugI addI (pV 2) (xR 5) (xBin ixD (xR 1) (xR 4)))) (((List.range ss.prod).map (colN rows)).map nT) [.im (ruleD K ss rows), .io (iT v), .ow (iT (List.replicate v.length 0)), .un, .un, .un])
      fun o => ∃ s3 s4 s5, o = .nx [.im (ruleD K ss rows), .io (iT v), .ow (iT (countedN ((List.range ss.prod).map (colN rows)) v)), s3, s4, s5] := by
    refine for0 (fun pre δ => ∃ s3 s4 s5, NoIo s3 ∧ NoIo s4 ∧ NoIo s5 ∧ δ = [.im (ruleD K ss rows), .io (iT v), .ow (iT (countedN pre v)), s3, s4, s5]) ((List.range ss.prod).map (colN rows)) ⟨.un, .un, .un, .un, .un, .un, rfl⟩ (fun δ h => ?_) fun pre x post δ e h => ?_
    · obtain ⟨s3, s4, s5, _, _, _, rfl⟩ := h
      exact ⟨s3, s4, s5, rfl⟩
    · obtain ⟨s3, s4, s5, h3, h4, h5, rfl⟩ := h
      have hx : x ∈ (List.range ss.prod).map (colN rows) := by rw [← e]; simp
      obtain ⟨a, ha, rfl⟩ := List.mem_map.mp hx
      have ha := List.mem_range.mp ha
      have hlen : (colN rows a).length = rows.length := by simp [colN]
      refine ⟨[.im (ruleD K ss rows), .io (iT v), .ow (iT (countedN pre v)), .im (nT (colN rows a)), s4, s5], ?_, ?_⟩
      · rcases h3 with rfl | ⟨d, rfl⟩ <;> simp
      · obtain ⟨o, e1, s4', s5', n4, n5, e2⟩ := counted_in (n := 0) (d := ruleD K ss rows) (v := v) (r0 := countedN pre v) (by unfold countedN; rw [sums_len]; simp) (c := colN rows a) (fun x hx => by rw [hl]; exact hc a ha x hx) (by rw [hlen, hl]) h4 h5
        refine ⟨o, ?_, ?_⟩
        · simp only [e_mFor, e_mIEnT, e_mCons, e_mX]
          rw [e_xV (i := 3) (d := nT (colN rows a)) rfl]
          simp only [R.ofO_some, R.ok_bind, e_mNil, e_one1]
          exact e1
        · subst e2
          refine ⟨.im (nT (colN rows a)), s4', s5', NoIo.im, n4, n5, ?_⟩
          have : (colP v (colN rows a)).foldl addTo (countedN pre v) = countedN (pre ++ [colN rows a]) v := by
            unfold countedN
            rw [List.flatMap_append, List.foldl_append]
            simp
          rw [this]
  obtain ⟨o, e1, s3, s4, s5, rfl⟩ := hfor
  have hrep : (List.replicate v.length [D.int 0]).flatten = List.replicate v.length (.int 0) := by
    induction v.length with
    | zero => rfl
    | succ n ih => rw [List.replicate_succ, List.flatten_cons, ih, List.replicate_succ]; rfl
  have hrp : repL (.lst [.int 0]) (.int (v.length : Nat)) = some (List.replicate v.length (.int 0)) := by
    unfold repL
    simp only
    rw [if_pos ⟨by omega, by omega, by simp; unfold sizeLine; omega⟩, Int.toNat_natCast, hrep]
  have hf : fldD (He.ga K "Rule") "columns" (ruleD K ss rows) = some (.tup (((List.range ss.prod).map (colN rows)).map nT)) := by
    rw [fld_columns, List.map_map]; rfl
  generalize ((List.range ss.prod).map (colN rows)) = cols at e1 hf ⊢
  simp [f_counted, runF, m_counted, e_seq, hrp, hf]
  simp only [iT, List.map_replicate] at e1
  rw [e1]
  simp
/-! ### counts of a level -/
def unitN (n k : Nat) : List Int := (List.replicate n 0).set k 1
def countN (cols : List (List Nat)) (n k : Nat) : Nat → List Int
  | 0 => unitN n k
  | h + 1 => countedN cols (countN cols n k h)
theorem countN_len (cols : List (List Nat)) (n k : Nat) : ∀ h, (countN cols n k h).length = n
  | 0 => by simp [countN, unitN]
  | h + 1 => by rw [countN, countedN, sums_len, List.length_replicate, countN_len cols n k h]
abbrev pairD (ls : List Str) (v : List Int) : D := .lst ((ls.zip v).map fun p => .tup [.str p.1, .int p.2])
@[simp] theorem e_oLZ {m : MA} {δ : List Sl} : oLZ m δ = (m δ >>= fun p => R.ofO (two2 p.1) >>= fun q => R.ofO (asL q.1) >>= fun x => R.ofO (asL q.2) >>= fun y => if x.2.length = y.2.length then .ok (lsT (zipDs x.2 y.2), p.2) else .bad) := (rfl)
theorem mLenO_eq {C : Addr} {f : Fn} {mo : ME} {δ : List Sl} {d : D} {n : Nat} (h1 : mo δ = .ok (.im d, δ)) (h2 : insIs C δ (.im d) = true) (h3 : f [.d d] = .ok (.d (.int (n : Nat)), [.d d])) (hn : n ≤ 1000000) : mLenO C f mo δ = .ok (.im (.int n), δ) := by
  unfold mLenO
  rw [h1]
  simp only [R.ok_bind]
  rw [if_pos h2]
  simp only [e_callIn, e_lents1, e_lents0, e_callT1, e_callT0, Option.map_some, List.nodup_nil, if_true, R.ofO_some, R.ok_bind, h3, ret0, e_outS1, e_outS0]
  rw [if_pos ⟨by omega, by omega⟩]
theorem zip_tup {ls : List Str} : ∀ {v : List Int}, zipDs (ls.map D.str) (v.map fun (n : Int) => .int n) = (ls.zip v).map fun p => .tup [.str p.1, .int p.2] := by
  unfold zipDs
  induction ls with
  | nil => intro v; rfl
  | cons a r ih =>
    intro v
    cases v with
    | nil => rfl
    | cons b s => simp only [List.map_cons, List.zip_cons_cons, ih]
theorem count_eq {ss : List Nat} {rows : List Row} {s : Str} {h : Nat} (hs : s ∈ lsR rows) (hz : rows.length ≤ 40) (hp : ss.prod ≤ 16) (hc : ∀ a < ss.prod, ∀ x ∈ colN rows a, x < rows.length) (hh : h ≤ 200) :
    Tru (f_count K [.d (ruleD K ss rows), .d (.str s), .d (.int h)]) fun r => r.1 = lsT (((lsR rows).zip (countN ((List.range ss.prod).map (colN rows)) rows.length (numO (lsR rows) s) h)).map fun p => .tup [.str p.1, .int p.2]) ∧ r.2 = [.d (ruleD K ss rows), .d (.str s), .d (.int h)] := by
  have hle : (lsR rows).length = rows.length := by simp [lsR]
  have hk := (kAt_mem hs).2.2
  rw [hle] at hk
  have h1 := check_letter_eq (K := K) (ss := ss) hs
  have h2 := check_level_eq (K := K) hh
  have h3 := rule_len_eq (K := K) (ss := ss) (rows := rows)
  have hrep : (List.replicate rows.length [D.int 0]).flatten = List.replicate rows.length (.int 0) := by
    induction rows.length with
    | zero => rfl
    | succ n ih => rw [List.replicate_succ, List.flatten_cons, ih, List.replicate_succ]; rfl
  have hrp : repL (.lst [.int 0]) (.int (rows.length : Nat)) = some (List.replicate rows.length (.int 0)) := by
    unfold repL
    simp only
    rw [if_pos ⟨by omega, by omega, by simp; unfold sizeLine; omega⟩, Int.toNat_natCast, hrep]
  generalize hnk : numO (lsR rows) s = k at hk h1
  have hlo : mLenO (He.ga K "Rule") (f_Rule___len__ K) (mX (xV 0)) [.im (ruleD K ss rows), .im (.str s), .im (.int h), .im (.int k), .un, .un] = .ok (.im (.int rows.length), [.im (ruleD K ss rows), .im (.str s), .im (.int h), .im (.int k), .un, .un]) := by
    refine mLenO_eq (d := ruleD K ss rows) (by simp) ?_ h3 (by omega)
    unfold ruleD
    simp [insIs]
  have hfor : Tru (forD (gN 5) (mSetO 4 (mCallO (f_counted K) (mCons (mX (xV 0)) (mCons (mV 4) mNil)))) ((List.range h).map fun (n : Nat) => .int n) [.im (ruleD K ss rows), .im (.str s), .im (.int h), .im (.int k), .ow (iT (unitN rows.length k)), .un])
      fun o => ∃ s5, o = .nx [.im (ruleD K ss rows), .im (.str s), .im (.int h), .im (.int k), .ow (iT (countN ((List.range ss.prod).map (colN rows)) rows.length k h)), s5] := by
    refine for0 (e := fun (n : Nat) => D.int n) (fun pre δ => ∃ s5, NoIo s5 ∧ δ = [.im (ruleD K ss rows), .im (.str s), .im (.int h), .im (.int k), .ow (iT (countN ((List.range ss.prod).map (colN rows)) rows.length k pre.length)), s5]) (List.range h) ⟨.un, .un, rfl⟩ (fun δ q => ?_) fun pre x post δ e q => ?_
    · obtain ⟨s5, _, rfl⟩ := q
      exact ⟨s5, by rw [List.length_range]⟩
    · obtain ⟨s5, n5, rfl⟩ := q
      have hcl := countN_len ((List.range ss.prod).map (colN rows)) rows.length k pre.length
      have hce := counted_eq (K := K) (ss := ss) (v := countN ((List.range ss.prod).map (colN rows)) rows.length k pre.length) hcl hz hp hc
      refine ⟨[.im (ruleD K ss rows), .im (.str s), .im (.int h), .im (.int k), .ow (iT (countN ((List.range ss.prod).map (colN rows)) rows.length k pre.length)), .im (.int x)], ?_, ?_⟩
      · rcases n5 with rfl | ⟨d, rfl⟩ <;> simp
      · rw [List.length_append, List.length_singleton, countN]
        generalize countN ((List.range ss.prod).map (colN rows)) rows.length k pre.length = v at hce
        generalize countedN ((List.range ss.prod).map (colN rows)) v = v2 at hce
        simp only [iT] at hce ⊢
        simp [hce]
        exact NoIo.im
  obtain ⟨o, e1, s5, rfl⟩ := hfor
  have hset : (List.replicate rows.length (Tr.d (.int 0))).set k (.d (.int 1)) = (unitN rows.length k).map fun (n : Int) => .d (.int n) := by
    unfold unitN
    rw [List.map_set, List.map_replicate]
  have hcl := countN_len ((List.range ss.prod).map (colN rows)) rows.length k h
  generalize countN ((List.range ss.prod).map (colN rows)) rows.length k h = v at e1 hcl ⊢
  simp only [iT] at e1
  have hf := fld_letters (K := K) (ss := ss) (rows := rows)
  have hbin : mBinO repL (mFz (oLst (xsC (xC (.int 0)) xsN))) (mLenO (He.ga K "Rule") (f_Rule___len__ K) (mX (xV 0))) [.im (ruleD K ss rows), .im (.str s), .im (.int h), .im (.int k), .un, .un] = .ok (.o .l ((List.replicate rows.length (D.int 0)).map .d), [.im (ruleD K ss rows), .im (.str s), .im (.int h), .im (.int k), .un, .un]) := by
    rw [e_mBinO]
    have : mFz (oLst (xsC (xC (.int 0)) xsN)) [.im (ruleD K ss rows), .im (.str s), .im (.int h), .im (.int k), .un, .un] = .ok (.im (.lst [.int 0]), [.im (ruleD K ss rows), .im (.str s), .im (.int h), .im (.int k), .un, .un]) := by simp
    rw [this]
    simp only [R.ok_bind]
    rw [hlo]
    simp only [R.ok_bind, e_resO1, R.ofO_some, hrp]
  refine ⟨(lsT (((lsR rows).zip v).map fun p => .tup [.str p.1, .int p.2]), [.d (ruleD K ss rows), .d (.str s), .d (.int h)]), ?_, rfl, rfl⟩
  unfold f_count
  rw [if_pos (show [Tr.d (ruleD K ss rows), Tr.d (D.str s), Tr.d (D.int h)].length = 3 from rfl)]
  unfold runF m_count
  generalize hB : mBinO repL (mFz (oLst (xsC (xC (.int 0)) xsN))) (mLenO (He.ga K "Rule") (f_Rule___len__ K) (mX (xV 0))) = B at hbin
  have ik : ixN rows.length (k : Int) = some k := ix_nat hk
  simp [e_seq, h1, h2, hbin, ik, show h ≤ 1000000 by omega]
  rw [hset, e1]
  simp [hf, hle, hcl]
  rw [zip_tup]
  simp [Function.comp_def]
end G8
/-! P10: what the law builds: its own rule, its page. -/
namespace G8
open PySem L2 GX TL
variable {K : PySem.W.Frag}
structure Own where
  ss : List Nat
  names : List Str
  bricks : List (List Nat)
structure OwnOk (o : Own) : Prop where
  sd : Sides o.ss
  ne : o.names ≠ []
  len : o.names.length ≤ 40
  nd : o.names.Nodup
  nm : ∀ s ∈ o.names, IsName s
  bl : o.bricks.length = o.names.length
  br : ∀ b ∈ o.bricks, b.length = o.ss.prod ∧ ∀ i ∈ b, i < o.names.length
def Own.d (o : Own) : D := .tup [nT o.ss, sL o.names, .lst (o.bricks.map nL)]
def Own.nm (o : Own) (i : Nat) : Str := o.names.getD i ""
def chunks (ss : List Nat) (b : List Str) : List (List Str) := (List.range (highS ss)).map fun k => (b.drop (k * wideS ss)).take (wideS ss)
def Own.rows (o : Own) : List Row := (o.names.zip o.bricks).map fun p => (p.1, chunks o.ss (p.2.map o.nm))
theorem sides_prod {ss : List Nat} (h : Sides ss) : highS ss * wideS ss = ss.prod ∧ 0 < highS ss ∧ highS ss ≤ 9 ∧ 0 < wideS ss ∧ wideS ss ≤ 9 := by
  rcases h.two with ⟨a, rfl⟩ | ⟨a, b, rfl⟩
  · have := h.lo a (by simp)
    simp [highS]; omega
  · have := h.lo a (by simp)
    have := h.lo b (by simp)
    simp [highS, Nat.mul_comm]; omega
theorem chunks_row {ss : List Nat} {b : List Str} (h : b.length = highS ss * wideS ss) : ∀ q ∈ chunks ss b, q.length = wideS ss ∧ ∀ w ∈ q, w ∈ b := by
  intro q hq
  obtain ⟨k, hk, rfl⟩ := List.mem_map.mp hq
  have hk := List.mem_range.mp hk
  refine ⟨?_, fun w hw => List.mem_of_mem_drop (List.mem_of_mem_take hw)⟩
  have : k * wideS ss + wideS ss ≤ highS ss * wideS ss := by rw [← Nat.succ_mul]; exact Nat.mul_le_mul_right _ hk
  rw [List.length_take, List.length_drop]
  omega
theorem chunks_flat0 {w : Nat} : ∀ (n : Nat) (b : List Str), b.length = n * w → ((List.range n).map fun k => (b.drop (k * w)).take w).flatten = b
  | 0, b, h => by
    have : b = [] := List.length_eq_zero_iff.mp (by omega)
    simp [this]
  | n + 1, b, h => by
    rw [List.range_succ_eq_map, List.map_cons, List.map_map, List.flatten_cons]
    have e : ((List.range n).map ((fun k => (b.drop (k * w)).take w) ∘ Nat.succ)) = (List.range n).map fun k => ((b.drop w).drop (k * w)).take w := by
      refine List.map_congr_left fun k _ => ?_
      simp only [Function.comp, List.drop_drop]
      rw [Nat.succ_mul, Nat.add_comm]
    rw [e, chunks_flat0 n (b.drop w) (by rw [List.length_drop, h, Nat.succ_mul]; omega)]
    simp
theorem chunks_flat {ss : List Nat} {b : List Str} (h : b.length = highS ss * wideS ss) : (chunks ss b).flatten = b := chunks_flat0 _ _ h
theorem glue_len : ∀ ps : List (List Str), (glue ps).length ≤ ps.flatten.length + ps.length
  | [] => by simp [glue]
  | [p] => by simp [glue]
  | p :: q :: r => by
    have := glue_len (q :: r)
    simp only [glue, List.length_append, List.length_cons, List.flatten_cons] at this ⊢
    omega
theorem Own.lsR {o : Own} (h : OwnOk o) : lsR o.rows = o.names := by
  unfold G8.lsR Own.rows
  rw [List.map_map]
  have : ((fun (r : Row) => r.1) ∘ fun (p : Str × List Nat) => ((p.1, chunks o.ss (p.2.map o.nm)) : Row)) = Prod.fst := rfl
  rw [this, List.map_fst_zip (by rw [h.bl]; exact Nat.le_refl _)]
theorem Own.rows_len {o : Own} (h : OwnOk o) : o.rows.length = o.names.length := by
  have := congrArg List.length (Own.lsR h)
  simpa [G8.lsR] using this
theorem nm_mem {o : Own} {i : Nat} (h : i < o.names.length) : o.nm i ∈ o.names ∧ o.names[i]? = some (o.nm i) := by
  have : o.names[i]? = some (o.nm i) := by
    unfold Own.nm
    rw [List.getD_eq_getElem?_getD, List.getElem?_eq_getElem h]; rfl
  exact ⟨List.mem_of_getElem? this, this⟩
theorem Own.rowsOk {o : Own} (h : OwnOk o) : RowsOk o.ss o.rows where
  sd := h.sd
  ne := fun e => h.ne (by have := Own.rows_len h; rw [e] at this; exact List.length_eq_zero_iff.mp this.symm)
  len := by rw [Own.rows_len h]; exact h.len
  nd := by rw [Own.lsR h]; exact h.nd
  nm := by rw [Own.lsR h]; exact h.nm
  bl := fun r hr => by
    obtain ⟨p, hp, rfl⟩ := List.mem_map.mp hr
    obtain ⟨hl, hi⟩ := h.br p.2 (List.of_mem_zip hp).2
    obtain ⟨e1, e2, e3, e4, e5⟩ := sides_prod h.sd
    have hlen : (p.2.map o.nm).length = highS o.ss * wideS o.ss := by rw [List.length_map, hl, e1]
    have hf := chunks_flat hlen
    have hp16 := h.sd.pr
    have hcl : (chunks o.ss (p.2.map o.nm)).length = highS o.ss := by simp [chunks]
    refine ⟨fun e => ?_, fun q hq => ?_, hcl, by rw [hf, List.length_map, hl], ?_⟩
    · have e : chunks o.ss (p.2.map o.nm) = [] := e
      rw [e] at hcl; simp at hcl; omega
    · obtain ⟨a, b⟩ := chunks_row hlen q hq
      refine ⟨a, fun w hw => ?_⟩
      obtain ⟨i, hi', rfl⟩ := List.mem_map.mp (b w hw)
      rw [Own.lsR h]
      exact (nm_mem (hi i hi')).1
    · have := glue_len (chunks o.ss (p.2.map o.nm))
      rw [hf, List.length_map, hl, hcl] at this
      show (glue (chunks o.ss (p.2.map o.nm))).length < 900
      omega
theorem Own.row_at {o : Own} (h : OwnOk o) {k : Nat} (hk : k < o.names.length) : ∃ b, o.bricks[k]? = some b ∧ b ∈ o.bricks ∧ o.rows[k]? = some (o.nm k, chunks o.ss (b.map o.nm)) ∧ (o.nm k, chunks o.ss (b.map o.nm)) ∈ o.rows := by
  have hb : k < o.bricks.length := by rw [h.bl]; exact hk
  have e1 := (nm_mem hk).2
  have e2 : o.bricks[k]? = some o.bricks[k] := List.getElem?_eq_getElem hb
  have e3 : o.rows[k]? = some (o.nm k, chunks o.ss (o.bricks[k].map o.nm)) := by
    unfold Own.rows
    rw [List.getElem?_map, (List.getElem?_zip_eq_some (z := (o.nm k, o.bricks[k]))).mpr ⟨e1, e2⟩]
    rfl
  exact ⟨_, e2, List.getElem_mem hb, e3, List.mem_of_getElem? e3⟩
theorem ix_own0 {a b c : D} : ixN [a, b, c].length 0 = some 0 := (rfl)
theorem ix_own1 {a b c : D} : ixN [a, b, c].length 1 = some 1 := (rfl)
theorem ix_own2 {a b c : D} : ixN [a, b, c].length 2 = some 2 := (rfl)
@[simp] theorem own_at0 {o : Own} : ixD o.d (.int 0) = some (nT o.ss) := (rfl)
@[simp] theorem own_at1 {o : Own} : ixD o.d (.int 1) = some (sL o.names) := (rfl)
@[simp] theorem own_at2 {o : Own} : ixD o.d (.int 2) = some (.lst (o.bricks.map nL)) := (rfl)
theorem wide_at {ss : List Nat} (h : Sides ss) : ixN ss.length 0 = some 0 ∧ ss[0]? = some (wideS ss) := by
  rcases h.two with ⟨a, rfl⟩ | ⟨a, b, rfl⟩ <;> exact ⟨rfl, rfl⟩
theorem tier_eq {o : Own} (h : OwnOk o) {k : Nat} {r : Row} (hk : k < o.names.length) (hr : o.rows[k]? = some r) : f__law_tier K [.d o.d, .d (.int k)] = .ok (.d (.str (joinW (tierR r))), [.d o.d, .d (.int k)]) := by
  obtain ⟨b, hb, hbm, hrow, hrm⟩ := Own.row_at h hk
  rw [hrow] at hr
  cases hr
  obtain ⟨hl, hi⟩ := h.br b hbm
  obtain ⟨q1, q2, q3, q4, q5⟩ := sides_prod h.sd
  obtain ⟨n1, n2⟩ := nm_mem hk
  have ok := Own.rowsOk h
  have hblk := ok.bl _ hrm
  obtain ⟨r1, r2, r3, r4, r5, r6⟩ := blk_rows h.sd hblk
  obtain ⟨i0, i1⟩ := wide_at h.sd
  have hp16 := h.sd.pr
  have hlen : (b.map o.nm).length = highS o.ss * wideS o.ss := by rw [List.length_map, hl, q1]
  have ik1 : ixN o.bricks.length (k : Int) = some k := ix_nat (by rw [h.bl]; exact hk)
  have ik2 : ixN o.names.length (k : Int) = some k := ix_nat hk
  simp [f__law_tier, runF, m__law_tier, e_seq, ik1, hb]
  rw [lc_map (e := fun (n : Nat) => .int n) (f := fun i => .d (.str (o.nm i))) (by unfold sizeLine; omega) rfl fun i hi' => by
    have := (nm_mem (hi i hi')).2
    simp [ix_nat (hi i hi'), this]]
  simp [i0, i1]
  have hwn : ∀ w ∈ b.map o.nm, Word w := fun w hw => by
    obtain ⟨i, hi', rfl⟩ := List.mem_map.mp hw
    exact (h.nm _ (nm_mem (hi i hi')).1).word
  have hcl : (chunks o.ss (b.map o.nm)).length = highS o.ss := by simp [chunks]
  have hdm : (b.map fun x => D.str (o.nm x)) = (b.map o.nm).map D.str := by rw [List.map_map]; rfl
  rw [hdm]
  have hci : ∀ q ∈ chunks o.ss (b.map o.nm), q.length = wideS o.ss ∧ ∀ w ∈ q, w ∈ b.map o.nm := chunks_row hlen
  have htier := line_tier (w := o.nm k) hblk.ne r2
  have hwk := (h.nm _ n1).word.le
  have hchk : chunks o.ss (b.map o.nm) = (List.range (highS o.ss)).map fun k => ((b.map o.nm).drop (k * wideS o.ss)).take (wideS o.ss) := rfl
  simp only at htier hblk r1 r2 r5
  generalize b.map o.nm = ws at hlen hwn hcl hci htier hchk r1 r2 r5
  have hm3 := mIR3_eq (m := mCons (mX (xC (D.int 0))) (mCons (mX (xCB lenD (xsC (xR 2) xsN))) (mCons (mX (xV 3)) mNil))) (δ := [.im o.d, .im (.int k), .im (sL ws), .im (.int (wideS o.ss)), .un, .un, .un]) (δ1 := [.im o.d, .im (.int k), .im (sL ws), .im (.int (wideS o.ss)), .un, .un, .un]) (w := wideS o.ss) (h := highS o.ss) (by omega) (by omega) (by omega) (by rw [← hlen]; simp)
  rw [hm3]
  simp only [R.ok_bind]
  have hw0 : ∀ a b c d e f : Sl, [a, b, c, d, e, f, .un].set 6 .un = [a, b, c, d, e, f, .un] := fun _ _ _ _ _ _ => rfl
  rw [hw0]
  rw [lc_map (e := fun (j : Nat) => .int ((j * wideS o.ss : Nat) : Int)) (f := fun j => .d (.str (joinW ((ws.drop (j * wideS o.ss)).take (wideS o.ss))))) (by simp; unfold sizeLine; omega) rfl fun j hj => by
    have hj := List.mem_range.mp hj
    have hle : j * wideS o.ss + wideS o.ss ≤ ws.length := by
      rw [hlen, ← Nat.succ_mul]
      exact Nat.mul_le_mul_right _ hj
    have hc : cutD (ws.map D.str) (some ((j : Int) * (wideS o.ss : Int))) (some ((j : Int) * (wideS o.ss : Int) + (wideS o.ss : Int))) = ((ws.drop (j * wideS o.ss)).take (wideS o.ss)).map D.str := by
      rw [← Int.natCast_mul, ← Int.natCast_add, cut_nat (by simp only [List.length_map]; omega), List.map_take, List.map_drop, Nat.add_sub_cancel_left]
    have hsub : ∀ x ∈ (ws.drop (j * wideS o.ss)).take (wideS o.ss), x.length ≤ 9 := fun x hx => (hwn x (List.mem_of_mem_drop (List.mem_of_mem_take hx))).le
    have hjf := join_fits (s := (" " : Str)) hsub (by rw [List.length_take]; omega) (by decide +kernel)
    generalize (ws.drop (j * wideS o.ss)).take (wideS o.ss) = q at hc hjf
    simp [hc, hjf]]
  have hmm : ((List.range (highS o.ss)).map fun j => Tr.d (.str (joinW ((ws.drop (j * wideS o.ss)).take (wideS o.ss))))) = (chunks o.ss ws).map fun q => .d (.str (joinW q)) := by
    rw [hchk, List.map_map]; rfl
  rw [hmm]
  have hj : ∀ q ∈ chunks o.ss ws, (joinW q).length ≤ 10000 := fun q hq => len_joinW2 (fun x hx => hwn x ((hci q hq).2 x hx)) (by rw [(hci q hq).1]; omega)
  have hsum := sum_le (f := fun x => x.length) (b := 10000) ((chunks o.ss ws).map joinW) fun x hx => by
    obtain ⟨q, hq, rfl⟩ := List.mem_map.mp hx
    exact hj q hq
  simp only [List.length_map] at hsum
  have k1 : (" : " : Str).length = 3 := by decide +kernel
  have k2 : (" / " : Str).length = 3 := by decide +kernel
  have hjl := StrLaws.join_length_le " / " ((chunks o.ss ws).map joinW)
  rw [← join_eq, k2] at hjl
  simp only [List.length_map] at hjl
  generalize chunks o.ss ws = ps at *
  have k3 : ((ps.map joinW).map fun x => x.length).sum + ps.length * (" / " : Str).length ≤ 16777216 := by rw [k2]; omega
  have z4 : (o.nm k).length + (" : " : Str).length ≤ sizeLine := by rw [k1]; unfold sizeLine; omega
  have z5 : (o.nm k).length + (" : " : Str).length + (Txt.join (" / " : Str) (ps.map joinW)).length ≤ sizeLine := by rw [k1]; unfold sizeLine; omega
  simp only [List.map_map, Function.comp_def] at k3
  simp [k3, z4, z5, ik2, n2, Str.length_append, Function.comp_def, ← htier]
theorem tiers_eq {o : Own} (h : OwnOk o) : f__law_tiers K [.d o.d] = .ok (.d (sL ((linesR o.ss o.rows).map joinW)), [.d o.d]) := by
  have ok := Own.rowsOk h
  have hls := Own.lsR h
  have hz := h.len
  have hl0 := h.ne
  have w1 : ∀ w ∈ o.names, w.length ≤ 9 := fun w hw => (h.nm w hw).word.le
  have sp : (" " : Str).length = 1 := by decide +kernel
  have j1 := join_fits (s := (" " : Str)) w1 (by omega) (by rw [sp]; decide)
  have j2 : (joinW o.names).length ≤ 10000 := len_joinW2 (fun w hw => (h.nm w hw).word) (by omega)
  have hsl : o.ss.length ≤ 2 := by have := h.sd.len; omega
  have w2 : ∀ w ∈ o.ss.map numS, Word w := fun w hw => by
    obtain ⟨n, hn, rfl⟩ := List.mem_map.mp hw
    exact sl_num (by have := (h.sd.lo n hn).2; omega)
  have j3 := join_fits (s := (" " : Str)) (fun w hw => (w2 w hw).le) (by simp; omega) (by rw [sp]; decide)
  have j4 : (joinW (o.ss.map numS)).length ≤ 10000 := len_joinW2 w2 (by simp; omega)
  have k1 : ("letters " : Str).length = 8 := by decide +kernel
  have k2 : ("sides " : Str).length = 6 := by decide +kernel
  have e1 : ("letters " : Str) ++ joinW o.names = joinW (("letters" : Str) :: o.names) := line_of_lit hl0 (by decide +kernel)
  have e2 : ("sides " : Str) ++ joinW (o.ss.map numS) = joinW (("sides" : Str) :: o.ss.map numS) := line_of_lit (by simpa using (fun e => by have := h.sd.len; rw [e] at this; simp at this)) (by decide +kernel)
  simp [f__law_tiers, runF, m__law_tiers, e_seq, j1, show ("letters " : Str).length + (joinW o.names).length ≤ sizeLine from by rw [k1]; unfold sizeLine; omega]
  rw [lc_map (e := fun (n : Nat) => .int n) (f := fun n => .d (.str (numS n))) (by unfold sizeLine; omega) rfl fun x hx => by
    have := (h.sd.lo x hx).2
    simp [e_strI (n := x) (by omega)]]
  simp [Function.comp_def] at j3 ⊢
  have hjj : (Txt.join (" " : Str) (o.ss.map numS)) = joinW (o.ss.map numS) := rfl
  simp [j3, show ("sides " : Str).length + (joinW (o.ss.map numS)).length ≤ sizeLine from by rw [k2]; unfold sizeLine; omega, show o.names.length ≤ 1000000 by omega]
  rw [show (Txt.join (" " : Str) o.names) = joinW o.names from rfl, hjj, e1, e2]
  rw [lc_map (e := fun (n : Nat) => .int n) (f := fun k => .d (.str (joinW (tierR (o.rows.getD k ("", [])))))) (by simp; unfold sizeLine; omega) rfl fun k hk => by
    have hk := List.mem_range.mp hk
    obtain ⟨b, hb, hbm, hrow, hrm⟩ := Own.row_at h hk
    have hg : o.rows.getD k ("", []) = (o.nm k, chunks o.ss (b.map o.nm)) := by rw [List.getD_eq_getElem?_getD, hrow]; rfl
    have := tier_eq (K := K) h hk hrow
    rw [hg]
    simp [this]]
  have hrows : ((List.range o.names.length).map fun k => Tr.d (.str (joinW (tierR (o.rows.getD k ("", [])))))) = o.rows.map fun r => .d (.str (joinW (tierR r))) := by
    refine List.ext_getElem? fun k => ?_
    rw [List.getElem?_map, List.getElem?_map]
    by_cases hk : k < o.names.length
    · rw [List.getElem?_range hk]
      have : k < o.rows.length := by rw [Own.rows_len h]; exact hk
      rw [Option.map_some, List.getD_eq_getElem?_getD, List.getElem?_eq_getElem this]
      rfl
    · rw [List.getElem?_eq_none (by simpa using hk), List.getElem?_eq_none (by rw [Own.rows_len h]; omega)]
      rfl
  rw [hrows]
  have hrl := Own.rows_len h
  have s1 : o.rows.length + 1 + 1 + 1 ≤ sizeLine := by unfold sizeLine; omega
  have s2 : o.rows.length + 1 + 1 + 1 + 1 ≤ sizeLine := by unfold sizeLine; omega
  unfold linesR
  rw [hls]
  simp [s1, s2, Function.comp_def, show 3 + o.rows.length ≤ sizeLine from by unfold sizeLine; omega, show 3 + (o.rows.length + 1) ≤ sizeLine from by unfold sizeLine; omega]
  exact ⟨rfl, rfl⟩
theorem page_eq {o : Own} (h : OwnOk o) : f__law_page K [.d o.d] = .ok (.d (.str (textR o.ss o.rows)), [.d o.d]) := by
  have h1 := tiers_eq (K := K) h
  have ok := Own.rowsOk h
  have hlen := lines_words ok
  have hl : (linesR o.ss o.rows).length ≤ 44 := by have := ok.len; simp [linesR]; omega
  have h2 : ∀ l ∈ (linesR o.ss o.rows).map joinW, l.length ≤ 10000 := fun l hl => by
    obtain ⟨q, hq, rfl⟩ := List.mem_map.mp hl
    exact len_joinW2 (hlen q hq).2.2 (hlen q hq).2.1
  have htx : textR o.ss o.rows = Txt.join "\n" ((linesR o.ss o.rows).map joinW ++ [("" : Str)]) := rfl
  rw [htx]
  have hl2 : ((linesR o.ss o.rows).map joinW).length ≤ 44 := by rw [List.length_map]; exact hl
  generalize (linesR o.ss o.rows).map joinW = ls at h1 h2 hl2
  have hsum := sum_le (f := fun x => x.length) (b := 10000) ls h2
  have z0 : ("" : Str).length = 0 := by decide +kernel
  have z1 : ("\n" : Str).length = 1 := by decide +kernel
  have hj : ((ls.map fun x => x.length).sum + ("" : Str).length + (ls.length + 1) * ("\n" : Str).length) ≤ 16777216 := by rw [z0, z1]; omega
  have hstr : strsD (ls.map D.str ++ [.str ("" : Str)]) = some (ls ++ [("" : Str)]) := by
    have := e_strsS (xs := ls ++ [("" : Str)])
    simpa using this
  simp [f__law_page, runF, m__law_page, e_seq, h1, show ls.length + 1 ≤ sizeLine from by unfold sizeLine; omega, hstr]
  rw [if_pos (by omega)]
  simp
abbrev bricksL (o : Own) : D := .lst (o.bricks.map fun b => sL (b.map o.nm))
theorem bricks_eq {o : Own} (h : OwnOk o) : f__law_bricks K [.d o.d] = .ok (.o .l (o.bricks.map fun b => .d (sL (b.map o.nm))), [.d o.d]) := by
  have hz := h.len
  have hf := for_eq (g := gN 2) (b := (mDrop (mApp 1 (mIm (mFz (mLc [3] (mIL (mX (xV 2))) (gN 3) mYes (mIm (mX (xBin ixD (xBin ixD (xR 0) (xC (.int 1))) (xR 3)))))))))) (e := nL)
    (fun pre => [.im o.d, .ow (.o .l (pre.map fun b => .d (sL (b.map o.nm)))), lastS nL pre, .un]) o.bricks fun pre x post e => by
      have hx : x ∈ o.bricks := by rw [← e]; simp
      obtain ⟨hl, hi⟩ := h.br x hx
      have hp16 := h.sd.pr
      have hpl : pre.length < sizeLine := by
        have := congrArg List.length e
        rw [List.length_append, List.length_cons, h.bl] at this
        unfold sizeLine; omega
      refine ⟨[.im o.d, .ow (.o .l (pre.map fun b => .d (sL (b.map o.nm)))), .im (nL x), .un], ?_, ?_⟩
      · rcases last_cases nL pre with q | ⟨d, q⟩ <;> simp [q]
      · have hlc := lc_map (i := 3) (m := (mIm (mX (xBin ixD (xBin ixD (xR 0) (xC (.int 1))) (xR 3))))) (e := fun (n : Nat) => .int n) (fun i => .d (.str (o.nm i))) (δ := [.im o.d, .ow (.o .l (pre.map fun b => .d (sL (b.map o.nm)))), .im (nL x), .un]) (xs := x) (by unfold sizeLine; omega) rfl fun i hi' => by
          have := (nm_mem (hi i hi')).2
          simp [ix_nat (hi i hi'), this]
        simp only [last_app, List.map_append, List.map_cons, List.map_nil]
        have hts : (pre.map fun b => Tr.d (sL (b.map o.nm))).length < sizeLine := by rw [List.length_map]; exact hpl
        generalize (pre.map fun b => Tr.d (sL (b.map o.nm))) = ts at hlc hts
        simp [hlc, hts, Function.comp_def]
  simp only [last_nil, List.map_nil] at hf
  simp [f__law_bricks, runF, m__law_bricks, e_seq]
  rw [hf]
  simp
end G8
/-! P11: the draws. -/
namespace G8
open PySem L2 GX TL
variable {K : PySem.W.Frag}
def iL (ns : List Int) : D := .lst (ns.map .int)
abbrev bagT (ns : List Int) (i g mx c f : Int) : Tr := .o .l [.d (iL ns), .d (.int i), .d (.int g), .d (.int mx), .d (.int c), .d (.int f)]
structure Bag (us : List Tr) : Prop where
  ex : ∃ ns i g mx c f, Tr.o .l us = bagT ns i g mx c f ∧ 0 ≤ i ∧ 0 ≤ mx ∧ mx < 2147483563 ∧ ns.length ≤ 63
theorem iL_at {ns : List Int} {i : Int} (h : 0 ≤ i) (h2 : i < ns.length) : ∃ n : Int, ixD (iL ns) (.int i) = some (.int n) := by
  have lt : i.toNat < ns.length := by omega
  refine ⟨ns[i.toNat], ?_⟩
  unfold iL ixD
  simp [ix_lit h h2, List.getElem?_eq_getElem lt]
theorem draw_ok {us : List Tr} (many : Int) (h : Bag us) (h1 : 0 < many) (h2 : many < 1000) : ∃ (d : Nat) (us' : List Tr), f__law_draw K [.o .l us, .d (.int many)] = .ok (.d (.int d), [.o .l us', .d (.int many)]) ∧ (d : Int) < many ∧ Bag us' := by
  suffices hs : Tru (f__law_draw K [.o .l us, .d (.int many)]) fun r => ∃ (d : Int) (ns : List Int) (i g mx c f : Int), r = (.d (.int d), [bagT ns i g mx c f, .d (.int many)]) ∧ 0 ≤ d ∧ d < many ∧ 0 ≤ i ∧ 0 ≤ mx ∧ mx < 2147483563 ∧ ns.length ≤ 63 by
    obtain ⟨r, e, d, ns, i, g, mx, c, f, rfl, q1, q2, q3, q4, q5, q6⟩ := hs
    refine ⟨d.toNat, _, ?_, by omega, ⟨ns, i, g, mx, c, f, rfl, q3, q4, q5, q6⟩⟩
    rw [e, Int.toNat_of_nonneg q1]
  obtain ⟨ns, i, g, mx, c, f, e, hi, m0, m1, hl⟩ := h.ex
  rw [e]
  unfold f__law_draw
  rw [if_pos (show [bagT ns i g mx c f, Tr.d (.int many)].length = 2 from rfl)]
  refine tru_run ?_
  unfold m__law_draw
  refine tru_seq ?_
  have i4 : ∀ n : Nat, ixN (n + 1 + 1 + 1 + 1 + 1 + 1) 4 = some 4 := fun n => ix_lit (by omega) (by omega)
  have i6 : ∀ (k : Int) (h : 0 ≤ k) (h2 : k < 6), ixN 6 k = some k.toNat := fun k h h2 => ix_lit h (by omega)
  simp [ixN]
  refine tru_seq (Tru.mono (P := fun o => ∃ i g mx f s, o = Out.nx [Sl.io (bagT ns i g mx (c + 1) f), Sl.im (D.int many), s, Sl.un] ∧ NoIo s ∧ 0 ≤ i ∧ 0 ≤ mx ∧ mx < 2147483563) ?_ ?_)
  · refine tru_ifT (decide (g = 0) && decide (i < ns.length)) ?_ (fun hk => ?_) fun hk => ?_
    · simp [iL, ixN]
      by_cases e : g = 0 <;> simp [e]
    · simp at hk
      obtain ⟨n, hn⟩ := iL_at hi hk.2
      refine tru_seq ?_
      simp [hn, ixN]
      refine tru_seq ?_
      simp [ixN, powI]
      split
      · refine tru_seq ?_
        simp [ixN]
        exact ⟨_, _, _, _, _, ⟨⟨rfl, rfl, rfl, rfl⟩, rfl⟩, NoIo.im, by omega, m0, m1⟩
      · simp [mulI, modI]
        exact ⟨_, _, _, _, _, ⟨⟨rfl, rfl, rfl, rfl⟩, rfl⟩, NoIo.im, by omega, Int.emod_nonneg _ (by decide), Int.emod_lt_of_pos _ (by decide)⟩
    · exact tru_ok.mpr ⟨i, g, mx, f, .un, rfl, NoIo.un, hi, m0, m1⟩
  · rintro o ⟨i, g, mx, f, s, rfl, hs, hi, m0, m1⟩
    refine tru_seq ?_
    simp [ixN]
    by_cases hg : 0 < g
    · rw [if_pos hg]
      refine tru_seq ?_
      simp [ixN, modI, h1]
      refine tru_seq ?_
      simp [ixN]
      refine tru_seq ?_
      by_cases hf : 1 < f
      · simp [ixN, divI, hf, h1, show many < 1073741824 by omega]
        exact ⟨_, ns, i, _, mx, ⟨rfl, rfl, rfl, rfl, rfl⟩, Int.emod_nonneg _ (by omega), Int.emod_lt_of_pos _ h1, hi, m0, m1, hl⟩
      · simp [ixN, divI, hf]
        exact ⟨_, ns, i, _, mx, ⟨rfl, rfl, rfl, rfl, rfl⟩, Int.emod_nonneg _ (by omega), Int.emod_lt_of_pos _ h1, hi, m0, m1, hl⟩
    · rw [if_neg hg]
      refine Tru.ok ?_
      refine tru_seq ?_
      simp [ixN, mulI, modI, powI, show mx.natAbs < 18446744073709551616 by omega]
      simp [ixN, divI, mulI, modI, h1]
      exact ⟨_, ns, i, g, _, ⟨rfl, rfl, rfl, rfl, rfl⟩, Int.emod_nonneg _ (by omega), Int.emod_lt_of_pos _ h1, hi, Int.emod_nonneg _ (by decide), Int.emod_lt_of_pos _ (by decide), hl⟩
end G8
/-! P12: what the law draws. -/
namespace G8
open PySem L2 GX TL
variable {K : PySem.W.Frag}
@[simp] theorem e_slScr {ns : List Int} {lo hi : Option Int} : slL (.scr ns) lo hi = some (cutD (ns.map .int) lo hi) := (rfl)
theorem cut_take {ds : List D} {n : Nat} (h : ds.length ≤ n) : cutD ds none (some (n : Int)) = ds := by
  unfold cutD
  rw [HT.sIx_none, HT.sIx_nat, Nat.min_eq_right h]
  simp
theorem bag_ok {ns : List Int} (h : ns.length ≤ 63) : ∃ us, f__law_bag K [.d (.scr ns)] = .ok (.o .l us, [.d (.scr ns)]) ∧ Bag us := by
  have hc : cutD (ns.map D.int) none (some 63) = ns.map .int := cut_take (n := 63) (by rw [List.length_map]; exact h)
  have hfor : Tru (forD (gN 2) (mSet 1 (mX (xBin modI (xCB intD (xsC (xBin addI (xBin addI (xBin mulI (xR 1) (xC (.int 52837))) (xBin modI (xCB intD (xsC (xR 2) xsN)) (xC (.int 2147483399)))) (xC (.int 271))) xsN)) (xC (.int 2147483563))))) (ns.map .int) [.im (.scr ns), .im (.int 17786), .un])
      fun o => ∃ (m : Int) (s : Sl), 0 ≤ m ∧ m < 2147483563 ∧ o = .nx [.im (.scr ns), .im (.int m), s] := by
    refine for0 (fun pre δ => ∃ (m : Int) (s : Sl), NoIo s ∧ 0 ≤ m ∧ m < 2147483563 ∧ δ = [.im (.scr ns), .im (.int m), s]) ns ⟨17786, .un, NoIo.un, by decide, by decide, rfl⟩ (fun δ q => ?_) fun pre x post δ e q => ?_
    · obtain ⟨m, s, _, a, b, rfl⟩ := q
      exact ⟨m, s, a, b, rfl⟩
    · obtain ⟨m, s, n, a, b, rfl⟩ := q
      refine ⟨[.im (.scr ns), .im (.int m), .im (.int x)], ?_, ?_⟩
      · rcases n with rfl | ⟨d, rfl⟩ <;> simp
      · simp [mulI, modI]
        exact ⟨_, _, NoIo.im, Int.emod_nonneg _ (by decide), Int.emod_lt_of_pos _ (by decide), rfl, rfl⟩
  obtain ⟨o, e1, m, s, a, b, rfl⟩ := hfor
  refine ⟨[.d (iL ns), .d (.int 0), .d (.int 0), .d (.int m), .d (.int 0), .d (.int 0)], ?_, ⟨ns, 0, 0, m, 0, 0, rfl, by decide, a, b, h⟩⟩
  simp [f__law_bag, runF, m__law_bag, e_seq, hc]
  rw [e1]
  simp [hc, iL]
theorem of_ok {us : List Tr} {ds : List D} (h : Bag us) (h0 : ds ≠ []) (hl : ds.length < 1000) : ∃ x us', f__law_of K [.o .l us, .d (.lst ds)] = .ok (.d x, [.o .l us', .d (.lst ds)]) ∧ x ∈ ds ∧ Bag us' := by
  have hp := List.length_pos_iff.mpr h0
  obtain ⟨d, us', e, hd, hb⟩ := draw_ok (K := K) (ds.length : Int) h (by omega) (by omega)
  have hd : d < ds.length := by omega
  refine ⟨ds[d], us', ?_, List.getElem_mem hd, hb⟩
  simp [f__law_of, runF, m__law_of, e_seq, e, ix_nat hd, List.getElem?_eq_getElem hd]
theorem perm_erase {α : Type} {l : List α} {d : Nat} (h : d < l.length) (r : List α) : (l.eraseIdx d ++ (r ++ [l[d]])).Perm (l ++ r) := by
  have h1 : (l.eraseIdx d ++ [l[d]]).Perm l := by
    rw [List.eraseIdx_eq_take_drop_succ]
    have e : l = l.take d ++ (l[d] :: l.drop (d + 1)) := by
      rw [← List.drop_eq_getElem_cons h, List.take_append_drop]
    conv => rhs; rw [e]
    rw [List.append_assoc]
    exact List.Perm.append_left _ List.perm_append_comm
  rw [← List.append_assoc]
  refine (List.perm_append_comm (l₁ := l.eraseIdx d ++ r) (l₂ := [l[d]])).trans ?_
  rw [← List.append_assoc]
  exact List.Perm.append_right _ ((List.perm_append_comm).trans h1)
theorem map_erase {α β : Type} {f : α → β} : ∀ {l : List α} {d : Nat}, (l.map f).eraseIdx d = (l.eraseIdx d).map f
  | [], d => by simp
  | a :: l, 0 => by simp
  | a :: l, d + 1 => by simp [map_erase (l := l)]
theorem mixed_ok {us : List Tr} {ds : List D} (h : Bag us) (hl : ds.length < 1000) : ∃ (ys : List D) (us' : List Tr), f__law_mixed K [.o .l us, .d (.lst ds)] = .ok (.o .l (ys.map .d), [.o .l us', .d (.lst ds)]) ∧ ys.Perm ds ∧ Bag us' := by
  have hfor : Tru (forD (gN 4) (mDrop (mApp 3 (mIm (mPop 2 (mFz (mCallO (f__law_draw K) (mCons (mV 0) (mCons (mX (xCB lenD (xsC (xR 2) xsN))) mNil)))))))) ((List.range ds.length).map fun (n : Nat) => .int n) [.io (.o .l us), .im (.lst ds), .ow (.o .l (ds.map .d)), .ow (.o .l []), .un])
      fun o => ∃ (us' : List Tr) (ys : List D) (l : List Tr) (s : Sl), Bag us' ∧ ys.Perm ds ∧ o = .nx [.io (.o .l us'), .im (.lst ds), .ow (.o .l l), .ow (.o .l (ys.map .d)), s] := by
    refine for0 (e := fun (n : Nat) => D.int n) (fun pre δ => ∃ (us' : List Tr) (l r : List D) (s : Sl), Bag us' ∧ NoIo s ∧ (l ++ r).Perm ds ∧ l.length + pre.length = ds.length ∧ δ = [.io (.o .l us'), .im (.lst ds), .ow (.o .l (l.map .d)), .ow (.o .l (r.map .d)), s]) (List.range ds.length)
      ⟨us, ds, [], .un, h, NoIo.un, by simp, by simp, rfl⟩ (fun δ q => ?_) fun pre x post δ e q => ?_
    · obtain ⟨us', l, r, s, hb, _, hp, hn, rfl⟩ := q
      have : l = [] := List.length_eq_zero_iff.mp (by simpa using hn)
      subst this
      exact ⟨us', r, _, s, hb, by simpa using hp, rfl⟩
    · obtain ⟨us', l, r, s, hb, ns, hp, hn, rfl⟩ := q
      have hlen := congrArg List.length e
      simp at hlen
      have hr : r.length + l.length = ds.length := by have := hp.length_eq; simp at this; omega
      obtain ⟨d, us2, e2, hd, hb2⟩ := draw_ok (K := K) (l.length : Int) hb (by omega) (by omega)
      have hd : d < l.length := by omega
      refine ⟨[.io (.o .l us'), .im (.lst ds), .ow (.o .l (l.map .d)), .ow (.o .l (r.map .d)), .im (.int x)], ?_, ?_⟩
      · rcases ns with rfl | ⟨d, rfl⟩ <;> simp
      · have hpop := popAt_eq (i := 2) (k := d) (δ := [.io (.o .l us2), .im (.lst ds), .ow (.o .l (l.map .d)), .ow (.o .l (r.map .d)), .im (.int x)]) (ts := l.map .d) (d := l[d]) rfl (by omega) (by simp [List.getElem?_eq_getElem hd])
        have hz : r.length < sizeLine := by unfold sizeLine; omega
        simp [e2, hpop, hz]
        refine ⟨us2, hb2, l.eraseIdx d, r ++ [l[d]], .im (.int x), NoIo.im, (perm_erase hd r).trans hp, ?_, ?_⟩
        · rw [List.length_eraseIdx_of_lt hd]; omega
        · rw [map_erase]; simp
  obtain ⟨o, e1, us', ys, l, s, hb, hp, rfl⟩ := hfor
  refine ⟨ys, us', ?_, hp, hb⟩
  simp [f__law_mixed, runF, m__law_mixed, e_seq, show ds.length ≤ 1000000 by omega]
  rw [e1]
  simp
/-! ### names -/
def hexes : List Nat := tl ("abcdef0123456789" : Str)
def heads : List Nat := tl ("abcdef" : Str)
structure Hex (s : Str) : Prop where
  len : s.length ≤ 6
  hd : ∃ c r, tl s = c :: r ∧ c ∈ heads
  al : ∀ c ∈ tl s, c ∈ hexes
theorem Hex.name {s : Str} (h : Hex s) : IsName s := by
  obtain ⟨c, r, e, hc⟩ := h.hd
  refine ⟨?_, h.len, ⟨c, r, e, ?_⟩, fun hk => ?_, fun c hc => ?_⟩
  · rw [len_tl, e]; simp
  · have : ∀ c ∈ heads, c ∈ alphas := by decide +kernel
    exact this c hc
  · have : ∀ w ∈ kept, ∃ c ∈ tl w, c ∉ hexes := by decide +kernel
    obtain ⟨c, h1, h2⟩ := this s hk
    exact h2 (h.al c h1)
  · have : ∀ c ∈ hexes, c ∈ signs := by decide +kernel
    exact this c (h.al c hc)
theorem sign_at {z : Str} {d : Nat} (h : d < z.length) (hz : z.length ≤ 1000) : ∃ c, ixD (.str z) (.int d) = some (.str ⟨#[c]⟩) ∧ c ∈ tl z := by
  have hl : d < (tl z).length := by rw [← len_tl]; exact h
  refine ⟨(tl z)[d], ?_, List.getElem_mem hl⟩
  rw [e_ixS, if_pos (by unfold sizeLine; omega), ix_nat h]
  show ((tl z)[d]?).map _ = _
  rw [List.getElem?_eq_getElem hl]
  rfl
theorem word_ok {us : List Tr} (h : Bag us) : ∃ (s : Str) (us' : List Tr), f__law_word K [.o .l us] = .ok (.d (.str s), [.o .l us']) ∧ Hex s ∧ Bag us' := by
  obtain ⟨d0, us0, e0, hd0, hb0⟩ := draw_ok (K := K) 6 h (by decide) (by decide)
  have l1 : ("abcdef" : Str).length = 6 := by decide +kernel
  have l2 : ("abcdef012345" : Str).length = 12 := by decide +kernel
  obtain ⟨c0, ec0, hc0⟩ := sign_at (z := "abcdef") (d := d0) (by rw [l1]; omega) (by rw [l1]; decide)
  obtain ⟨x, us1, e1, hx, hb1⟩ := of_ok (K := K) (ds := [.int 0, .int 1, .int 0, .int 2, .int 0, .int 1, .int 5]) hb0 (by simp) (by simp)
  obtain ⟨n, rfl, hn⟩ : ∃ n : Nat, x = .int n ∧ n ≤ 5 := by
    simp at hx
    rcases hx with rfl | rfl | rfl | rfl | rfl | rfl | rfl
    · exact ⟨0, rfl, by decide⟩
    · exact ⟨1, rfl, by decide⟩
    · exact ⟨0, rfl, by decide⟩
    · exact ⟨2, rfl, by decide⟩
    · exact ⟨0, rfl, by decide⟩
    · exact ⟨1, rfl, by decide⟩
    · exact ⟨5, rfl, by decide⟩
  have hfor : Tru (forD (gN 2) (mSet 1 (mBin addS (mX (xV 1)) (mBin ixD (mX (xC (.str "abcdef012345"))) (mFz (mCallO (f__law_draw K) (mCons (mV 0) (mCons (mX (xC (.int 12))) mNil))))))) ((List.range n).map fun (n : Nat) => .int n) [.io (.o .l us1), .im (.str ⟨#[c0]⟩), .un])
      fun o => ∃ (us' : List Tr) (s : Str) (s2 : Sl), Bag us' ∧ Hex s ∧ o = .nx [.io (.o .l us'), .im (.str s), s2] := by
    refine for0 (e := fun (n : Nat) => D.int n) (fun pre δ => ∃ (us' : List Tr) (s : Str) (r : List Nat) (s2 : Sl), Bag us' ∧ NoIo s2 ∧ tl s = c0 :: r ∧ r.length = pre.length ∧ (∀ c ∈ r, c ∈ hexes) ∧ δ = [.io (.o .l us'), .im (.str s), s2]) (List.range n)
      ⟨us1, ⟨#[c0]⟩, [], .un, hb1, NoIo.un, rfl, rfl, by simp, rfl⟩ (fun δ q => ?_) fun pre x post δ e q => ?_
    · obtain ⟨us', s, r, s2, hb, _, hs, hr, ha, rfl⟩ := q
      simp at hr
      refine ⟨us', s, s2, hb, ⟨?_, ⟨c0, r, hs, hc0⟩, ?_⟩, rfl⟩
      · rw [len_tl, hs]; simp; omega
      · rw [hs]
        intro c hc
        rcases List.mem_cons.mp hc with rfl | hc
        · have : ∀ c ∈ heads, c ∈ hexes := by decide +kernel
          exact this _ hc0
        · exact ha c hc
    · obtain ⟨us', s, r, s2, hb, n2, hs, hr, ha, rfl⟩ := q
      have hlen := congrArg List.length e
      simp at hlen
      obtain ⟨d, us2, e2, hd, hb2⟩ := draw_ok (K := K) 12 hb (by decide) (by decide)
      obtain ⟨c, ec, hc⟩ := sign_at (z := "abcdef012345") (d := d) (by rw [l2]; omega) (by rw [l2]; decide)
      refine ⟨[.io (.o .l us'), .im (.str s), .im (.int x)], ?_, ?_⟩
      · rcases n2 with rfl | ⟨d, rfl⟩ <;> simp
      · have hsl : s.length + (⟨#[c]⟩ : Str).length ≤ sizeLine := by
          have : (⟨#[c]⟩ : Str).length = 1 := rfl
          rw [len_tl s, hs, this]
          simp
          unfold sizeLine; omega
        generalize hq : ixD (.str ("abcdef012345" : Str)) (.int d) = v at ec
        subst ec
        have hg : mBin ixD (mX (xC (.str "abcdef012345"))) (mFz (mCallO (f__law_draw K) (mCons (mV 0) (mCons (mX (xC (.int 12))) mNil)))) [.io (.o .l us'), .im (.str s), .im (.int x)] = .ok (.im (.str ⟨#[c]⟩), [.io (.o .l us2), .im (.str s), .im (.int x)]) := by
          simp [-e_ixS, e2, hq]
        generalize mBin ixD (mX (xC (.str "abcdef012345"))) (mFz (mCallO (f__law_draw K) (mCons (mV 0) (mCons (mX (xC (.int 12))) mNil)))) = bb at hg
        refine ⟨.nx [.io (.o .l us2), .im (.str (s ++ ⟨#[c]⟩)), .im (.int x)], by simp [hg, hsl], ⟨us2, s ++ ⟨#[c]⟩, r ++ [c], .im (.int x), hb2, NoIo.im, by rw [tl_append, hs]; rfl, by simp [hr], fun z hz => ?_, rfl⟩⟩
        rcases List.mem_append.mp hz with hz | hz
        · exact ha z hz
        · rw [List.mem_singleton.mp hz]
          have : ∀ c ∈ tl ("abcdef012345" : Str), c ∈ hexes := by decide +kernel
          exact this _ hc
  obtain ⟨o, ef, us', s, s2, hb, hx, rfl⟩ := hfor
  refine ⟨s, us', ?_, hx, hb⟩
  have hg : mBin ixD (mX (xC (.str "abcdef"))) (mFz (mCallO (f__law_draw K) (mCons (mV 0) (mCons (mX (xC (.int 6))) mNil)))) [.io (.o .l us), .un, .un] = .ok (.im (.str ⟨#[c0]⟩), [.io (.o .l us0), .un, .un]) := by
    simp [-e_ixS, e0, ec0]
  unfold f__law_word
  rw [if_pos (show [Tr.o Sh.l us].length = 1 from rfl)]
  unfold runF m__law_word
  generalize mBin ixD (mX (xC (.str "abcdef"))) (mFz (mCallO (f__law_draw K) (mCons (mV 0) (mCons (mX (xC (.int 6))) mNil)))) = bb at hg
  simp [e_seq, hg, e1, show n ≤ 1000000 by omega]
  rw [ef]
  simp
end G8
/-! P13: names, drawn rules. -/
namespace G8
open PySem L2 GX TL
variable {K : PySem.W.Frag}
theorem pigeon {α : Type} [DecidableEq α] : ∀ {l m : List α}, l.Nodup → (∀ x ∈ l, x ∈ m) → l.length ≤ m.length
  | [], m, _, _ => Nat.zero_le _
  | x :: l, m, h, hs => by
    have h := List.nodup_cons.mp h
    have hx := hs x List.mem_cons_self
    have := pigeon (l := l) (m := m.erase x) h.2 fun y hy => (List.mem_erase_of_ne (fun e => h.1 (by rw [← e]; exact hy))).mpr (hs y (List.mem_cons_of_mem _ hy))
    rw [List.length_erase_of_mem hx] at this
    have := List.length_pos_of_mem hx
    simp only [List.length_cons]
    omega
def candS (c : Nat) (n : Nat) : Str := (⟨#[c]⟩ : Str) ++ numS n
theorem tl_cand (c n : Nat) : tl (candS c n) = c :: numL n := by
  unfold candS
  rw [tl_append]
  unfold numS
  rw [tl_num]
  rfl
theorem cand_inj {c m n : Nat} (h : candS c m = candS c n) : m = n := by
  have := congrArg tl h
  rw [tl_cand, tl_cand] at this
  exact numL_inj (List.cons.inj this).2
theorem cand_hex {c n : Nat} (hc : c ∈ heads) (hn : n < 1000) : Hex (candS c n) := by
  refine ⟨?_, ⟨c, numL n, tl_cand c n, hc⟩, fun d hd => ?_⟩
  · rw [len_tl, tl_cand]
    have := numL_len (n := n) (k := 3) (by decide) (by omega)
    simp; omega
  · rw [tl_cand] at hd
    rcases List.mem_cons.mp hd with rfl | hd
    · have : ∀ c ∈ heads, c ∈ hexes := by decide +kernel
      exact this _ hc
    · have h1 := numL_free (n := n) (s := d)
      have h2 : 48 ≤ d ∧ d ≤ 57 := by
        by_cases q : d < 48 ∨ 57 < d
        · exact absurd hd (h1 q)
        · omega
      have : ∀ d, 48 ≤ d → d ≤ 57 → d ∈ hexes := by
        intro d a b
        have e : hexes = [97, 98, 99, 100, 101, 102, 48, 49, 50, 51, 52, 53, 54, 55, 56, 57] := by decide +kernel
        rw [e]; simp; omega
      exact this d h2.1 h2.2
theorem cut_one {z : Str} {c : Nat} {r : List Nat} (h : tl z = c :: r) : cutS z none (some 1) = ⟨#[c]⟩ := by
  refine ext_tl ?_
  unfold cutS
  show ((tl z).drop (HT.sIx z.length 0 none)).take (HT.sIx z.length z.length (some 1) - HT.sIx z.length 0 none) = [c]
  rw [HT.sIx_none, show (some (1 : Int)) = some ((1 : Nat) : Int) from rfl, HT.sIx_nat, len_tl, h]
  simp
theorem not_in {s : Str} {ls : List Str} : inSeq true (.str s) (sL ls) = some (.bl (!decide (s ∈ ls))) := by
  have e : ((ls.map D.str).map toV) = ls.map V.str := by rw [List.map_map]; rfl
  have e2 : (ls.map D.str).all flatD = true := by
    rw [List.all_map, List.all_eq_true]
    intro x _; rfl
  simp only [inSeq, toV, e, inV_str]
  rw [if_pos ⟨rfl, e2⟩]
  by_cases h : s ∈ ls
  · rw [List.any_eq_true.mpr ⟨s, h, by simp⟩]; simp [h]
  · have : (ls.any (· == s)) = false := by
      rw [List.any_eq_false]
      intro x hx hb
      exact h (by rw [← eq_of_beq hb]; exact hx)
    rw [this]; simp [h]
abbrev nmB : MS := mSeq (mIfS (mB (mBin (inSeq true) (mX (xV 4)) (mV 2))) (fun δ => .ok (.bk δ)) mNx) (mSet 4 (mX (xBin addS (xR 5) (xCB strI (xsC (xBin addI (xBin mulI (xR 3) (xC (.int 20))) (xR 6)) xsN)))))
theorem names_in {us : List Tr} {many : D} {ls : List Str} {t : Nat} {c : Nat} {w : Str} {s6 : Sl} (hl : ls.length ≤ 17) (ht : t ≤ 17) (hc : c ∈ heads) (hw : Hex w) (h6 : NoIo s6) :
    Tru (forD (gN 6) nmB ((List.range 20).map fun (n : Nat) => .int n) [.io (.o .l us), .im many, .ow (.o .l (ls.map fun s => .d (.str s))), .im (.int t), .im (.str w), .im (.str ⟨#[c]⟩), s6])
      fun o => ∃ (w : Str) (s6 : Sl), NoIo s6 ∧ Hex w ∧ w ∉ ls ∧ o = .nx [.io (.o .l us), .im many, .ow (.o .l (ls.map fun s => .d (.str s))), .im (.int t), .im (.str w), .im (.str ⟨#[c]⟩), s6] := by
  refine for0 (e := fun (n : Nat) => D.int n) (fun pre δ => ∃ (w : Str) (s6 : Sl), NoIo s6 ∧ Hex w ∧ (∀ j, j + 1 < pre.length → candS c (t * 20 + j) ∈ ls) ∧ (0 < pre.length → w = candS c (t * 20 + (pre.length - 1))) ∧ pre.length ≤ 20 ∧
    δ = [.io (.o .l us), .im many, .ow (.o .l (ls.map fun s => .d (.str s))), .im (.int t), .im (.str w), .im (.str ⟨#[c]⟩), s6]) (List.range 20) ⟨w, s6, h6, hw, by simp, by simp, by simp, rfl⟩ (fun δ q => ?_) fun pre x post δ e q => ?_
  · obtain ⟨w, s6, h6, hw, hj, _, _, rfl⟩ := q
    exfalso
    have : ((List.range 19).map fun j => candS c (t * 20 + j)).length ≤ ls.length := pigeon (nodup_map (fun a b h => by have := cand_inj h; omega) List.nodup_range) fun x hx => by
      obtain ⟨j, hj', rfl⟩ := List.mem_map.mp hx
      exact hj j (by have := List.mem_range.mp hj'; simp; omega)
    simp at this
    omega
  · obtain ⟨w, s6, h6, hw, hj, hw1, hle, rfl⟩ := q
    have hlen := congrArg List.length e
    simp at hlen
    have hx : x = pre.length := by
      have h1 : (pre ++ x :: post)[pre.length]? = some x := by simp
      rw [e] at h1
      have h2 : pre.length < 20 := by omega
      rw [List.getElem?_range h2] at h1
      exact (Option.some.inj h1).symm
    have hn := not_in (s := w) (ls := ls)
    refine ⟨[.io (.o .l us), .im many, .ow (.o .l (ls.map fun s => .d (.str s))), .im (.int t), .im (.str w), .im (.str ⟨#[c]⟩), .im (.int x)], ?_, ?_⟩
    · rcases h6 with rfl | ⟨d, rfl⟩ <;> simp
    · refine tru_seq ?_
      by_cases hm : w ∈ ls
      · have h1 : mIfS (mB (mBin (inSeq true) (mX (xV 4)) (mV 2))) (fun δ => .ok (.bk δ)) mNx [.io (.o .l us), .im many, .ow (.o .l (ls.map fun s => .d (.str s))), .im (.int t), .im (.str w), .im (.str ⟨#[c]⟩), .im (.int x)] = .ok (.nx [.io (.o .l us), .im many, .ow (.o .l (ls.map fun s => .d (.str s))), .im (.int t), .im (.str w), .im (.str ⟨#[c]⟩), .im (.int x)]) := by
          simp [hn, hm]
        rw [h1, tru_ok]
        have hxx : x < 20 := by omega
        have hml : mulI (.int t) (.int 20) = some (.int ((t * 20 : Nat) : Int)) := mulI_le (a := t) (b := 20) (by omega) (by omega)
        have hs : strI [.int ((t * 20 : Nat) + (x : Nat))] = some (.str (numS (t * 20 + x))) := by
          have := e_strI (n := t * 20 + x) (by omega)
          rw [Int.natCast_add] at this
          exact this
        have hsz : (⟨#[c]⟩ : Str).length + (numS (t * 20 + x)).length ≤ sizeLine := by
          have h1 := (cand_hex (n := t * 20 + x) hc (by omega)).len
          have h2 : (candS c (t * 20 + x)).length = (⟨#[c]⟩ : Str).length + (numS (t * 20 + x)).length := Str.length_append _ _
          unfold sizeLine; omega
        refine ⟨.nx [.io (.o .l us), .im many, .ow (.o .l (ls.map fun s => .d (.str s))), .im (.int t), .im (.str (candS c (t * 20 + x))), .im (.str ⟨#[c]⟩), .im (.int x)], ?_, candS c (t * 20 + x), .im (.int x), NoIo.im, cand_hex hc (by omega), fun j hj2 => ?_, fun _ => ?_, by simp; omega, rfl⟩
        · generalize hS : strI [.int ((t * 20 : Nat) + (x : Nat))] = v at hs
          subst hs
          simp only [e_mSet, e_mX, e_xBin, e_xCB, e_xsC, e_xsN, e_xC]
          rw [e_xRi (i := 5) rfl, e_xRi (i := 3) rfl, e_xRi (i := 6) rfl]
          simp only [Option.bind_some, hml, e_add, hS, e_addS]
          rw [if_pos hsz]
          rfl
        · simp at hj2
          by_cases q : j + 1 < pre.length
          · exact hj j q
          · have : j = pre.length - 1 := by omega
            have h0 : 0 < pre.length := by omega
            rw [this, ← hw1 h0]
            exact hm
        · simp [hx]
      · have h1 : mIfS (mB (mBin (inSeq true) (mX (xV 4)) (mV 2))) (fun δ => .ok (.bk δ)) mNx [.io (.o .l us), .im many, .ow (.o .l (ls.map fun s => .d (.str s))), .im (.int t), .im (.str w), .im (.str ⟨#[c]⟩), .im (.int x)] = .ok (.bk [.io (.o .l us), .im many, .ow (.o .l (ls.map fun s => .d (.str s))), .im (.int t), .im (.str w), .im (.str ⟨#[c]⟩), .im (.int x)]) := by
          simp [hn, hm]
        rw [h1, tru_ok]
        exact ⟨w, .im (.int x), NoIo.im, hw, hm, rfl⟩
abbrev nmO (K : PySem.W.Frag) : MS := mSeq (mSet 4 (mFz (mCallO (f__law_word K) (mCons (mV 0) mNil)))) (mSeq (mSet 5 (mX (xSl slS (xR 4) pt0 (ptI (xC (.int 1)))))) (mSeq (mFor (mIR1 (mCons (mX (xC (.int 20))) mNil)) (gN 6) nmB) (mDrop (mApp 2 (mIm (mX (xV 4)))))))
theorem names_ok {us : List Tr} {many : Nat} (h : Bag us) (hm : many ≤ 18) : ∃ (ls : List Str) (us' : List Tr), f__law_names K [.o .l us, .d (.int many)] = .ok (.o .l (ls.map fun s => .d (.str s)), [.o .l us', .d (.int many)]) ∧ ls.Nodup ∧ (∀ s ∈ ls, IsName s) ∧ ls.length = many ∧ Bag us' := by
  have hfor : Tru (forD (gN 3) (nmO K) ((List.range many).map fun (n : Nat) => .int n) [.io (.o .l us), .im (.int many), .ow (.o .l []), .un, .un, .un, .un])
      fun o => ∃ (us' : List Tr) (ls : List Str) (s3 s4 s5 s6 : Sl), Bag us' ∧ ls.Nodup ∧ (∀ s ∈ ls, Hex s) ∧ ls.length = many ∧ o = .nx [.io (.o .l us'), .im (.int many), .ow (.o .l (ls.map fun s => .d (.str s))), s3, s4, s5, s6] := by
    refine for0 (e := fun (n : Nat) => D.int n) (fun pre δ => ∃ (us' : List Tr) (ls : List Str) (s3 s4 s5 s6 : Sl), Bag us' ∧ ls.Nodup ∧ (∀ s ∈ ls, Hex s) ∧ ls.length = pre.length ∧ NoIo s3 ∧ NoIo s4 ∧ NoIo s5 ∧ NoIo s6 ∧ δ = [.io (.o .l us'), .im (.int many), .ow (.o .l (ls.map fun s => .d (.str s))), s3, s4, s5, s6])
      (List.range many) ⟨us, [], .un, .un, .un, .un, h, List.nodup_nil, by simp, rfl, NoIo.un, NoIo.un, NoIo.un, NoIo.un, rfl⟩ (fun δ q => ?_) fun pre x post δ e q => ?_
    · obtain ⟨us', ls, s3, s4, s5, s6, hb, hn, hx, hl, _, _, _, _, rfl⟩ := q
      exact ⟨us', ls, s3, s4, s5, s6, hb, hn, hx, by simpa using hl, rfl⟩
    · obtain ⟨us', ls, s3, s4, s5, s6, hb, hn, hx, hl, n3, n4, n5, n6, rfl⟩ := q
      have hlen := congrArg List.length e
      simp at hlen
      have hxm : x < many := by
        have : x ∈ List.range many := by rw [← e]; simp
        simpa using this
      obtain ⟨w, us1, e1, hw, hb1⟩ := word_ok (K := K) hb
      obtain ⟨c, r, hc, hch⟩ := hw.hd
      have hcut := cut_one hc
      have hwl : w.length ≤ sizeLine := by have := hw.len; unfold sizeLine; omega
      refine ⟨[.io (.o .l us'), .im (.int many), .ow (.o .l (ls.map fun s => .d (.str s))), .im (.int x), s4, s5, s6], ?_, ?_⟩
      · rcases n3 with rfl | ⟨d, rfl⟩ <;> simp
      · have h1 : (mSet 4 (mFz (mCallO (f__law_word K) (mCons (mV 0) mNil)))) [.io (.o .l us'), .im (.int many), .ow (.o .l (ls.map fun s => .d (.str s))), .im (.int x), s4, s5, s6] = .ok (.nx [.io (.o .l us1), .im (.int many), .ow (.o .l (ls.map fun s => .d (.str s))), .im (.int x), .im (.str w), s5, s6]) := by
          rcases n4 with rfl | ⟨d, rfl⟩ <;> simp [e1]
        have h2 : (mSet 5 (mX (xSl slS (xR 4) pt0 (ptI (xC (.int 1)))))) [.io (.o .l us1), .im (.int many), .ow (.o .l (ls.map fun s => .d (.str s))), .im (.int x), .im (.str w), s5, s6] = .ok (.nx [.io (.o .l us1), .im (.int many), .ow (.o .l (ls.map fun s => .d (.str s))), .im (.int x), .im (.str w), .im (.str ⟨#[c]⟩), s6]) := by
          rcases n5 with rfl | ⟨d, rfl⟩ <;> simp [hwl, hcut]
        obtain ⟨o, e3, w', s6', n6', hw', hnm, rfl⟩ := names_in (us := us1) (many := .int many) (ls := ls) (t := x) (s6 := s6) (by omega) (by omega) hch hw n6
        have h3 : (mFor (mIR1 (mCons (mX (xC (.int 20))) mNil)) (gN 6) nmB) [.io (.o .l us1), .im (.int many), .ow (.o .l (ls.map fun s => .d (.str s))), .im (.int x), .im (.str w), .im (.str ⟨#[c]⟩), s6] = .ok (.nx [.io (.o .l us1), .im (.int many), .ow (.o .l (ls.map fun s => .d (.str s))), .im (.int x), .im (.str w'), .im (.str ⟨#[c]⟩), s6']) := by
          simp only [e_mFor, e_mIR1, e_mCons, e_mX, e_xC, R.ofO_some, R.ok_bind, e_mNil]
          rw [rng1_lit (k := 20) (n := 20) rfl (by decide)]
          exact e3
        have hz : ls.length < sizeLine := by unfold sizeLine; omega
        refine ⟨.nx [.io (.o .l us1), .im (.int many), .ow (.o .l ((ls ++ [w']).map fun s => .d (.str s))), .im (.int x), .im (.str w'), .im (.str ⟨#[c]⟩), s6'], ?_, us1, ls ++ [w'], _, _, _, s6', hb1, ?_, ?_, by simp [hl], NoIo.im, NoIo.im, NoIo.im, n6', rfl⟩
        · show mSeq _ _ _ = _
          rw [e_seqN h1, e_seqN h2, e_seqN h3]
          simp [hz]
        · rw [List.nodup_append]
          exact ⟨hn, by simp, fun a ha b hb e => hnm (by rw [List.mem_singleton.mp hb] at e; rw [← e]; exact ha)⟩
        · intro s hs
          rcases List.mem_append.mp hs with hs | hs
          · exact hx s hs
          · rw [List.mem_singleton.mp hs]; exact hw'
  obtain ⟨o, e1, us', ls, s3, s4, s5, s6, hb, hn, hx, hl, rfl⟩ := hfor
  refine ⟨ls, us', ?_, hn, fun s hs => (hx s hs).name, hl, hb⟩
  simp [f__law_names, runF, m__law_names, e_seq, show many ≤ 1000000 by omega]
  rw [e1]
  simp
/-! ### places and drawn blocks -/
theorem cells_ok {ss : List Nat} (h : Sides ss) : ∃ t, f__law_cells K [.d (nT ss)] = .ok (t, [.d (nT ss)]) ∧ t.dat = .lst ((placesN ss).map nT) := by
  rcases h.two with ⟨a, rfl⟩ | ⟨a, b, rfl⟩
  · have ha := (h.lo a (by simp)).2
    refine ⟨.d (.lst ((placesN [a]).map nT)), ?_, by simp⟩
    simp [f__law_cells, runF, m__law_cells, e_seq, show a ≤ 1000000 by omega]
    rw [lc_map (e := fun (k : Nat) => .int k) (f := fun k => .d (nT [k])) (by simp; unfold sizeLine; omega) rfl fun x hx => by simp]
    simp [placesN, Function.comp_def]
  · have ha := (h.lo a (by simp)).2
    have hb := (h.lo b (by simp)).2
    have i1 : ixN 2 1 = some 1 := by decide
    have hfor : Tru (forD (gN 2) (mFor (mIR1 (mCons (mX (xBin ixD (xR 0) (xC (.int 0)))) mNil)) (gN 3) (mDrop (mApp 1 (mIm (mX (xTup (xsC (xV 3) (xsC (xV 2) xsN)))))))) ((List.range b).map fun (n : Nat) => .int n) [.im (nT [a, b]), .ow (.o .l []), .un, .un])
      fun o => ∃ s2 s3, o = .nx [.im (nT [a, b]), .ow (.o .l ((placesN [a, b]).map fun p => .d (nT p))), s2, s3] := by
      refine for0 (e := fun (n : Nat) => D.int n) (fun pre δ => ∃ s2 s3, NoIo s2 ∧ NoIo s3 ∧ δ = [.im (nT [a, b]), .ow (.o .l ((pre.flatMap fun y => (List.range a).map fun x => [x, y]).map fun p => .d (nT p))), s2, s3]) (List.range b) ⟨.un, .un, NoIo.un, NoIo.un, rfl⟩ (fun δ q => ?_) fun pre y post δ e q => ?_
      · obtain ⟨s2, s3, _, _, rfl⟩ := q
        exact ⟨s2, s3, rfl⟩
      · obtain ⟨s2, s3, n2, n3, rfl⟩ := q
        have hlen := congrArg List.length e
        simp at hlen
        have hpl : (pre.flatMap fun y => (List.range a).map fun x => [x, y]).length ≤ 1000 := by
          simp [List.length_flatMap, sum_const]
          have : a * pre.length ≤ 9 * 9 := Nat.mul_le_mul ha (by omega)
          omega
        generalize hps : (pre.flatMap fun y => (List.range a).map fun x => [x, y]) = ps at hpl
        have hin : Tru (forD (gN 3) (mDrop (mApp 1 (mIm (mX (xTup (xsC (xV 3) (xsC (xV 2) xsN))))))) ((List.range a).map fun (n : Nat) => .int n) [.im (nT [a, b]), .ow (.o .l (ps.map fun p => .d (nT p))), .im (.int y), s3])
            fun o => ∃ s3, NoIo s3 ∧ o = .nx [.im (nT [a, b]), .ow (.o .l ((ps ++ (List.range a).map fun x => [x, y]).map fun p => .d (nT p))), .im (.int y), s3] := by
          refine for0 (e := fun (n : Nat) => D.int n) (fun pre δ => ∃ s3, NoIo s3 ∧ δ = [.im (nT [a, b]), .ow (.o .l ((ps ++ pre.map fun x => [x, y]).map fun p => .d (nT p))), .im (.int y), s3]) (List.range a) ⟨s3, n3, by simp⟩ (fun δ q => ?_) fun pre x post δ e q => ?_
          · obtain ⟨s3, n, rfl⟩ := q
            exact ⟨s3, n, rfl⟩
          · obtain ⟨s3, n, rfl⟩ := q
            have hlen := congrArg List.length e
            simp at hlen
            refine ⟨[.im (nT [a, b]), .ow (.o .l ((ps ++ pre.map fun x => [x, y]).map fun p => .d (nT p))), .im (.int y), .im (.int x)], ?_, ?_⟩
            · rcases n with rfl | ⟨d, rfl⟩ <;> simp
            · refine ⟨.nx [.im (nT [a, b]), .ow (.o .l ((ps ++ (pre ++ [x]).map fun x => [x, y]).map fun p => .d (nT p))), .im (.int y), .im (.int x)], ?_, _, NoIo.im, rfl⟩
              simp [show ps.length + pre.length < sizeLine from by unfold sizeLine; omega]
        obtain ⟨o, e1, s3', n3', rfl⟩ := hin
        refine ⟨[.im (nT [a, b]), .ow (.o .l (ps.map fun p => .d (nT p))), .im (.int y), s3], ?_, ?_⟩
        · rcases n2 with rfl | ⟨d, rfl⟩ <;> simp
        · refine ⟨.nx [.im (nT [a, b]), .ow (.o .l ((ps ++ (List.range a).map fun x => [x, y]).map fun p => .d (nT p))), .im (.int y), s3'], ?_, .im (.int y), s3', NoIo.im, n3', ?_⟩
          · simp [show a ≤ 1000000 by omega]
            simp at e1
            exact e1
          · have : ((pre ++ [y]).flatMap fun y => (List.range a).map fun x => [x, y]) = ps ++ (List.range a).map fun x => [x, y] := by rw [List.flatMap_append, hps]; simp
            rw [this]
    obtain ⟨o, e1, s2, s3, rfl⟩ := hfor
    refine ⟨.o .l ((placesN [a, b]).map fun p => .d (nT p)), ?_, by simp⟩
    simp [f__law_cells, runF, m__law_cells, e_seq, show b ≤ 1000000 by omega, i1]
    rw [e1]
    simp
/-- blocks that grow place by place -/
abbrev brT (bs : List (List Nat)) : Tr := .o .l (bs.map fun b => .o .l (b.map fun (n : Nat) => .d (.int n)))
theorem perm_map_inv {α β : Type} {f : α → β} (g : β → α) (hg : ∀ x, g (f x) = x) {ys : List β} {xs : List α} (h : ys.Perm (xs.map f)) : ∃ zs : List α, ys = zs.map f ∧ zs.Perm xs := by
  refine ⟨ys.map g, ?_, ?_⟩
  · rw [List.map_map]
    conv => lhs; rw [← List.map_id ys]
    refine List.map_congr_left fun y hy => ?_
    obtain ⟨x, _, rfl⟩ := List.mem_map.mp (h.mem_iff.mp hy)
    simp [hg]
  · have := h.map g
    rw [List.map_map, show (g ∘ f) = id from funext hg, List.map_id] at this
    exact this
def natD : D → Nat
  | .int n => n.toNat
  | _ => 0
theorem drawn_row {us : List Tr} {many : Nat} (h : Bag us) (h0 : 0 < many) (hm : many ≤ 18) {s1 s3 s4 s5 s6 : Sl} (n5 : NoIo s5) (n6 : NoIo s6) {P : Out → Prop}
    (hP : ∀ (us' : List Tr) (row : List Nat) (s6 : Sl), NoIo s6 → Bag us' → row.length = many → (∀ i ∈ row, i < many) → P (.nx [.io (.o .l us'), s1, .im (.int many), s3, s4, .im (nL row), s6])) :
    Tru (mIfS (mB (mBin eqD (mFz (mCallO (f__law_draw K) (mCons (mV 0) (mCons (mX (xC (.int 5))) mNil)))) (mX (xC (.int 4))))) (mSet 5 (mFz (mLc [6] (mIR1 (mCons (mX (xV 2)) mNil)) (gN 6) mYes (mIm (mFz (mCallO (f__law_draw K) (mCons (mV 0) (mCons (mX (xV 2)) mNil)))))))) (mSet 5 (mFz (mCallO (f__law_mixed K) (mCons (mV 0) (mCons (mFz (oRg1 (xR 2))) mNil))))) [.io (.o .l us), s1, .im (.int many), s3, s4, s5, s6]) P := by
  obtain ⟨d, us1, e1, hd, hb1⟩ := draw_ok (K := K) 5 h (by decide) (by decide)
  simp [e1]
  split
  · have hlc := lc_tru (vs := [6]) (g := gN 6) (m := mIm (mFz (mCallO (f__law_draw K) (mCons (mV 0) (mCons (mX (xV 2)) mNil))))) (e := fun (n : Nat) => D.int n) (xs := List.range many)
      (fun acc δ => ∃ (us' : List Tr) (row : List Nat), Bag us' ∧ acc = row.map (fun (n : Nat) => .d (.int n)) ∧ (∀ i ∈ row, i < many) ∧ δ = [.io (.o .l us'), s1, .im (.int many), s3, s4, s5, .un]) (by simp; unfold sizeLine; omega) (List.range many) [] (δ := [.io (.o .l us1), s1, .im (.int many), s3, s4, s5, .un]) (fun _ q => q) (by simp) ⟨us1, [], hb1, rfl, by simp, rfl⟩ (by
        rintro x hx acc δ hl ⟨us', row, hb, rfl, hr, rfl⟩
        obtain ⟨d, us2, e2, hd, hb2⟩ := draw_ok (K := K) (many : Int) hb (by omega) (by omega)
        refine ⟨[.io (.o .l us'), s1, .im (.int many), s3, s4, s5, .im (.int x)], by simp, (.d (.int d), [.io (.o .l us2), s1, .im (.int many), s3, s4, s5, .im (.int x)]), by simp [e2], us2, row ++ [d], hb2, by simp, fun i hi => ?_, rfl⟩
        rcases List.mem_append.mp hi with hi | hi
        · exact hr i hi
        · rw [List.mem_singleton.mp hi]; omega)
    obtain ⟨r, e2, ts, hts, hl, us', row, hb, rfl, hr, hδ⟩ := hlc
    obtain ⟨rt, rδ⟩ := r
    simp only at hts hδ
    subst hts hδ
    simp [show many ≤ 1000000 by omega]
    rw [e2]
    have := hP us' row .un NoIo.un hb (by simpa using hl) hr
    rcases n5 with rfl | ⟨d, rfl⟩ <;> simpa using this
  · have hrg : oRg1 (xR 2) [.io (.o .l us1), s1, .im (.int many), s3, s4, s5, s6] = .ok (lsT ((List.range many).map fun (n : Nat) => .int n), [.io (.o .l us1), s1, .im (.int many), s3, s4, s5, s6]) := by
      unfold oRg1
      rw [e_xRi (i := 2) (d := .int many) rfl]
      simp only [R.ofO_some, R.ok_bind]
      rw [if_pos ⟨by omega, by omega⟩, Int.toNat_natCast, rng_map]
    obtain ⟨ys, us2, e2, hp, hb2⟩ := mixed_ok (K := K) (ds := (List.range many).map fun (n : Nat) => .int n) hb1 (by simp; omega)
    obtain ⟨row, rfl, hrp⟩ := perm_map_inv (f := fun (n : Nat) => D.int n) natD (fun n => by simp [natD]) hp
    have := hP us2 row s6 n6 hb2 (by have := hrp.length_eq; simpa using this) (fun i hi => by simpa using hrp.mem_iff.mp hi)
    rcases n5 with rfl | ⟨d, rfl⟩ <;> simp [hrg, e2, Function.comp_def] <;> simpa using this
theorem drawn_put {us : List Tr} {many L : Nat} {bs : List (List Nat)} {row : List Nat} {s0 s1 s4 s6 : Sl} (hm : many ≤ 18) (hL : L ≤ 1000) (hr : row.length = many) (hri : ∀ i ∈ row, i < many) (hb : bs.length = many) (hbl : ∀ b ∈ bs, b.length = L ∧ ∀ i ∈ b, i < many) (n6 : NoIo s6) {P : Out → Prop}
    (hP : ∀ (bs' : List (List Nat)) (s6 : Sl), NoIo s6 → bs'.length = many → (∀ b ∈ bs', b.length = L + 1 ∧ ∀ i ∈ b, i < many) → P (.nx [s0, s1, .im (.int many), .ow (brT bs'), s4, .im (nL row), s6])) :
    Tru (mFor (mIR1 (mCons (mX (xV 2)) mNil)) (gN 6) (mDrop (mAppP (pIx (pV 3) (xR 6)) (xBin ixD (xR 5) (xR 6)))) [s0, s1, .im (.int many), .ow (brT bs), s4, .im (nL row), s6]) P := by
  simp [show many ≤ 1000000 by omega]
  refine for0 (e := fun (n : Nat) => D.int n) (fun pre δ => ∃ (bs' : List (List Nat)) (s6 : Sl), NoIo s6 ∧ bs'.length = many ∧ (∀ k b, bs'[k]? = some b → b.length = (if k < pre.length then L + 1 else L) ∧ ∀ i ∈ b, i < many) ∧ δ = [s0, s1, .im (.int many), .ow (brT bs'), s4, .im (nL row), s6]) (List.range many)
    ⟨bs, s6, n6, hb, fun k b e => by simpa using hbl b (List.mem_of_getElem? e), rfl⟩ (fun δ q => ?_) fun pre x post δ e q => ?_
  · obtain ⟨bs', s6, n6, hl, hk, rfl⟩ := q
    refine hP bs' s6 n6 hl fun b hb' => ?_
    obtain ⟨k, hk1, rfl⟩ := List.getElem_of_mem hb'
    have := hk k _ (List.getElem?_eq_getElem hk1)
    rw [if_pos (by simp; omega)] at this
    exact this
  · obtain ⟨bs', s6, n6, hl, hk, rfl⟩ := q
    have hlen := congrArg List.length e
    simp at hlen
    have hx : x = pre.length := by
      have h1 : (pre ++ x :: post)[pre.length]? = some x := by simp
      rw [e] at h1
      rw [List.getElem?_range (by omega)] at h1
      exact (Option.some.inj h1).symm
    have hxm : x < many := by omega
    have hbx : bs'[x]? = some bs'[x] := List.getElem?_eq_getElem (by omega)
    obtain ⟨h1, h2⟩ := hk x _ hbx
    rw [if_neg (by omega)] at h1
    have hrx : row[x]? = some row[x] := List.getElem?_eq_getElem (by omega)
    have hrm : row[x] < many := hri _ (List.getElem_mem _)
    generalize bs'[x] = b at hbx h1 h2
    generalize row[x] = rx at hrx hrm
    refine ⟨[s0, s1, .im (.int many), .ow (brT bs'), s4, .im (nL row), .im (.int x)], ?_, ?_⟩
    · rcases n6 with rfl | ⟨d, rfl⟩ <;> simp
    · refine ⟨.nx [s0, s1, .im (.int many), .ow (brT (bs'.set x (b ++ [rx]))), s4, .im (nL row), .im (.int x)], ?_, bs'.set x (b ++ [rx]), _, NoIo.im, by simp [hl], fun k c ec => ?_, rfl⟩
      · have i1 : ixN bs'.length (x : Int) = some x := ix_nat (by omega)
        have i2 : ixN row.length (x : Int) = some x := ix_nat (by omega)
        simp [i1, i2, hbx, hrx, show b.length < sizeLine from by unfold sizeLine; omega]
      · rw [List.getElem?_set] at ec
        by_cases hkx : x = k
        · subst hkx
          rw [if_pos rfl, if_pos (by omega)] at ec
          cases ec
          refine ⟨by simp [h1]; omega, fun i hi => ?_⟩
          rcases List.mem_append.mp hi with hi | hi
          · exact h2 i hi
          · rw [List.mem_singleton.mp hi]; exact hrm
        · rw [if_neg hkx] at ec
          obtain ⟨a1, a2⟩ := hk k c ec
          refine ⟨?_, a2⟩
          rw [a1]
          simp only [List.length_append, List.length_singleton]
          by_cases q : k < pre.length
          · rw [if_pos q, if_pos (by omega)]
          · rw [if_neg q, if_neg (by omega)]
end G8
/-! P14: drawn rules. -/
namespace G8
open PySem L2 GX TL
variable {K : PySem.W.Frag}
theorem dat_bricks (bs : List (List Nat)) : (brT bs).dat = .lst (bs.map nL) := by
  simp [brT, Function.comp_def]
theorem drawn_ok {us : List Tr} {ss : List Nat} {many : Nat} (h : Bag us) (hs : Sides ss) (h0 : 0 < many) (hm : many ≤ 18) : ∃ (o : Own) (us' : List Tr), f__law_drawn K [.o .l us, .d (nT ss), .d (.int many)] = .ok (.d o.d, [.o .l us', .d (nT ss), .d (.int many)]) ∧ OwnOk o ∧ Bag us' := by
  have hlc := lc_map (i := 6) (m := oLst xsN) (e := fun (n : Nat) => D.int n) (fun _ => Tr.o .l []) (δ := [.io (.o .l us), .im (nT ss), .im (.int many), .un, .un, .un, .un]) (xs := List.range many) (by simp; unfold sizeLine; omega) rfl fun x hx => by simp
  obtain ⟨ct, e1, hct⟩ := cells_ok (K := K) hs
  have hpl := places_len hs
  have hpr := hs.pr
  have hrep : Tr.o .l ((List.range many).map fun _ => Tr.o .l []) = brT (List.replicate many []) := by
    unfold brT
    rw [List.map_replicate]
    congr 1
    refine List.ext_getElem? fun k => ?_
    rw [List.getElem?_map]
    by_cases hk : k < many
    · rw [List.getElem?_range hk, List.getElem?_replicate, if_pos hk]; rfl
    · rw [List.getElem?_eq_none (by simpa using hk), List.getElem?_replicate, if_neg hk]; rfl
  have hfor : Tru (forD (gN 4) (mSeq (mIfS (mB (mBin eqD (mFz (mCallO (f__law_draw K) (mCons (mV 0) (mCons (mX (xC (.int 5))) mNil)))) (mX (xC (.int 4))))) (mSet 5 (mFz (mLc [6] (mIR1 (mCons (mX (xV 2)) mNil)) (gN 6) mYes (mIm (mFz (mCallO (f__law_draw K) (mCons (mV 0) (mCons (mX (xV 2)) mNil)))))))) (mSet 5 (mFz (mCallO (f__law_mixed K) (mCons (mV 0) (mCons (mFz (oRg1 (xR 2))) mNil)))))) (mFor (mIR1 (mCons (mX (xV 2)) mNil)) (gN 6) (mDrop (mAppP (pIx (pV 3) (xR 6)) (xBin ixD (xR 5) (xR 6))))))
      ((placesN ss).map nT) [.io (.o .l us), .im (nT ss), .im (.int many), .ow (.o .l ((List.range many).map fun _ => .o .l [])), .un, .un, .un])
      fun o => ∃ (us' : List Tr) (bs : List (List Nat)) (s4 s5 s6 : Sl), Bag us' ∧ bs.length = many ∧ (∀ b ∈ bs, b.length = ss.prod ∧ ∀ i ∈ b, i < many) ∧ o = .nx [.io (.o .l us'), .im (nT ss), .im (.int many), .ow (brT bs), s4, s5, s6] := by
    refine for0 (fun pre δ => ∃ (us' : List Tr) (bs : List (List Nat)) (s4 s5 s6 : Sl), Bag us' ∧ NoIo s4 ∧ NoIo s5 ∧ NoIo s6 ∧ bs.length = many ∧ (∀ b ∈ bs, b.length = pre.length ∧ ∀ i ∈ b, i < many) ∧ δ = [.io (.o .l us'), .im (nT ss), .im (.int many), .ow (brT bs), s4, s5, s6]) (placesN ss)
      ⟨us, List.replicate many [], .un, .un, .un, h, NoIo.un, NoIo.un, NoIo.un, by simp, fun b hb => by rw [(List.mem_replicate.mp hb).2]; simp, by rw [hrep]⟩ (fun δ q => ?_) fun pre x post δ e q => ?_
    · obtain ⟨us', bs, s4, s5, s6, hb, _, _, _, hl, hbs, rfl⟩ := q
      exact ⟨us', bs, s4, s5, s6, hb, hl, by rw [← hpl]; exact hbs, rfl⟩
    · obtain ⟨us', bs, s4, s5, s6, hb, n4, n5, n6, hl, hbs, rfl⟩ := q
      have hlen := congrArg List.length e
      rw [List.length_append, List.length_cons, hpl] at hlen
      refine ⟨[.io (.o .l us'), .im (nT ss), .im (.int many), .ow (brT bs), .im (nT x), s5, s6], ?_, ?_⟩
      · rcases n4 with rfl | ⟨d, rfl⟩ <;> simp
      · refine tru_seq (drawn_row hb h0 hm n5 n6 fun us2 row s6' n6' hb2 hrl hri => ?_)
        refine drawn_put (us := us) hm (L := pre.length) (by omega) hrl hri hl hbs n6' fun bs' s6'' n6'' hl' hbs' => ?_
        exact ⟨us2, bs', _, _, s6'', hb2, NoIo.im, NoIo.im, n6'', hl', by simpa using hbs', rfl⟩
  obtain ⟨o, e2, us1, bs, s4, s5, s6, hb1, hbl, hbs, rfl⟩ := hfor
  obtain ⟨ls, us2, e3, hnd, hnm, hll, hb2⟩ := names_ok (K := K) hb1 hm
  refine ⟨⟨ss, ls, bs⟩, us2, ?_, ⟨hs, fun q => by simp only at q; rw [q] at hll; simp at hll; omega, by simp only; omega, hnd, hnm, by simp only; omega, fun b hb => by simp only; rw [hll]; exact hbs b hb⟩, hb2⟩
  have hdb := dat_bricks bs
  unfold f__law_drawn
  rw [if_pos (show [Tr.o Sh.l us, Tr.d (nT ss), Tr.d (.int many)].length = 3 from rfl)]
  unfold runF m__law_drawn
  simp [e_seq, show many ≤ 1000000 by omega]
  rw [hlc]
  simp [e1, hct]
  rw [e2]
  generalize brT bs = bt at hdb
  simp [e3, hdb, Own.d, Function.comp_def]
theorem sides1 {a : Nat} (h : 2 ≤ a) (h2 : a ≤ 9) : Sides [a] := ⟨.inl rfl, fun s hs => by rw [List.mem_singleton.mp hs]; omega, by simp; omega⟩
theorem sides2 {a b : Nat} (h : 2 ≤ a) (h2 : a ≤ 4) (h3 : 2 ≤ b) (h4 : b ≤ 4) : Sides [a, b] := ⟨.inr rfl, fun s hs => by simp at hs; omega, by
  have := Nat.mul_le_mul h2 h4
  simp; omega⟩
theorem rows_ok {us : List Tr} (h : Bag us) : ∃ (o : Own) (us' : List Tr), f__law_rows K [.o .l us] = .ok (.d o.d, [.o .l us']) ∧ OwnOk o ∧ Bag us' := by
  obtain ⟨d, us1, e1, hd, hb1⟩ := draw_ok (K := K) 7 h (by decide) (by decide)
  obtain ⟨d2, us2, e2, hd2, hb2⟩ := draw_ok (K := K) 2 hb1 (by decide) (by decide)
  by_cases h6 : d = 6
  · obtain ⟨o, us3, e3, ho, hb3⟩ := drawn_ok (K := K) (ss := [4 + d2]) (many := 2) hb2 (sides1 (by omega) (by omega)) (by omega) (by omega)
    refine ⟨o, us3, ?_, ho, hb3⟩
    simp [nT] at e3
    simp [f__law_rows, runF, m__law_rows, e_seq, e1, e2, h6, e3]
  · have hx : ∃ n : Nat, ([.int 2, .int 3, .int 4, .int 3, .int 2, .int 3] : List D)[d]? = some (.int (n : Nat)) ∧ 2 ≤ n ∧ n ≤ 4 := by
      have : d < 6 := by omega
      match d, this with
      | 0, _ => exact ⟨2, rfl, by decide, by decide⟩
      | 1, _ => exact ⟨3, rfl, by decide, by decide⟩
      | 2, _ => exact ⟨4, rfl, by decide, by decide⟩
      | 3, _ => exact ⟨3, rfl, by decide, by decide⟩
      | 4, _ => exact ⟨2, rfl, by decide, by decide⟩
      | 5, _ => exact ⟨3, rfl, by decide, by decide⟩
    obtain ⟨n, hn, n1, n2⟩ := hx
    obtain ⟨o, us3, e3, ho, hb3⟩ := drawn_ok (K := K) (ss := [2 + d2]) (many := n) hb2 (sides1 (by omega) (by omega)) (by omega) (by omega)
    refine ⟨o, us3, ?_, ho, hb3⟩
    simp [nT] at e3
    have h6' : ¬ (d : Int) = 6 := by omega
    have i6 : ixN 6 (d : Int) = some d := ix_nat (by omega)
    simp [f__law_rows, runF, m__law_rows, e_seq, e1, e2, h6', i6, hn, e3]
theorem floors_ok {us : List Tr} (h : Bag us) : ∃ (o : Own) (us' : List Tr), f__law_floors K [.o .l us] = .ok (.d o.d, [.o .l us']) ∧ OwnOk o ∧ Bag us' := by
  obtain ⟨x, us1, e1, hx, hb1⟩ := of_ok (K := K) (ds := [nT [2, 2], nT [2, 3], nT [3, 2]]) h (by simp) (by simp)
  obtain ⟨d2, us2, e2, hd2, hb2⟩ := draw_ok (K := K) 2 hb1 (by decide) (by decide)
  obtain ⟨a, b, rfl, ha, ha2, hb, hbb⟩ : ∃ a b : Nat, x = nT [a, b] ∧ 2 ≤ a ∧ a ≤ 4 ∧ 2 ≤ b ∧ b ≤ 4 := by
    simp only [List.mem_cons, List.not_mem_nil, or_false] at hx
    rcases hx with rfl | rfl | rfl
    · exact ⟨2, 2, rfl, by decide, by decide, by decide, by decide⟩
    · exact ⟨2, 3, rfl, by decide, by decide, by decide, by decide⟩
    · exact ⟨3, 2, rfl, by decide, by decide, by decide, by decide⟩
  obtain ⟨o, us3, e3, ho, hb3⟩ := drawn_ok (K := K) (ss := [a, b]) (many := 2 + d2) hb2 (sides2 ha ha2 hb hbb) (by omega) (by omega)
  refine ⟨o, us3, ?_, ho, hb3⟩
  simp [nT] at e1 e3
  simp [f__law_floors, runF, m__law_floors, e_seq, e1, e2, e3]
end G8
/-! P15: turned rules, spins. -/
namespace G8
open PySem L2 GX TL
variable {K : PySem.W.Frag}
abbrev bsT (bs : List (List Nat)) : Tr := .o .l (bs.map fun b => .d (nL b))
def Good (P n : Nat) (b : List Nat) : Prop := b.length = P ∧ ∀ i ∈ b, i < n
theorem oRg1_eq {m : MX} {δ : List Sl} {n : Nat} (e : m δ = some (.int (n : Nat))) (h : n ≤ 1000000) : oRg1 m δ = .ok (lsT ((List.range n).map fun (n : Nat) => .int n), δ) := by
  unfold oRg1
  rw [e]
  simp only [R.ofO_some, R.ok_bind]
  rw [if_pos ⟨by omega, by omega⟩, Int.toNat_natCast, rng_map]
theorem turned_ok {us : List Tr} {ss : List Nat} {bs : List (List Nat)} (h : Bag us) (hs : Sides ss) (h0 : 0 < bs.length) (hm : bs.length ≤ 18) (hb : ∀ b ∈ bs, Good ss.prod bs.length b) :
    ∃ (o : Own) (us' : List Tr), f__law_turned K [.o .l us, .d (nT ss), bsT bs] = .ok (.d o.d, [.o .l us', .d (nT ss), bsT bs]) ∧ OwnOk o ∧ Bag us' := by
  obtain ⟨n, hn⟩ : ∃ n, n = bs.length := ⟨_, rfl⟩
  rw [← hn] at h0 hm hb
  obtain ⟨ys, us1, e1, hp, hb1⟩ := mixed_ok (K := K) (ds := (List.range n).map fun (n : Nat) => .int n) h (by simp; omega)
  obtain ⟨seat, rfl, hsp⟩ := perm_map_inv (f := fun (n : Nat) => D.int n) natD (fun n => by simp [natD]) hp
  have hsl : seat.length = n := by have := hsp.length_eq; simpa using this
  have hsm : ∀ i ∈ seat, i < n := fun i hi => by simpa using hsp.mem_iff.mp hi
  have hpr := hs.pr
  have hflat : flats (bs.map fun b => Tr.d (nL b)) = some (bs.map nL) := flats_dM (f := nL) bs
  have hrg : oRg1 (xCB lenD (xsC (xR 2) xsN)) [.io (.o .l us), .im (nT ss), .io (bsT bs), .un, .un, .un, .un] = .ok (lsT ((List.range n).map fun (n : Nat) => .int n), [.io (.o .l us), .im (nT ss), .io (bsT bs), .un, .un, .un, .un]) := by
    refine oRg1_eq ?_ (by omega)
    simp [hflat, ← hn]
  have hlc := lc_map (i := 5) (m := mIm (mFz (oLst xsN))) (e := fun (n : Nat) => D.int n) (fun _ => Tr.d (.lst [])) (δ := [.io (.o .l us1), .im (nT ss), .io (bsT bs), .im (nL seat), .un, .un, .un]) (xs := List.range n) (by simp; unfold sizeLine; omega) rfl fun x hx => by simp
  have hfor : Tru (forD (gN 5) (mSetI (pV 4) (xBin ixD (xR 3) (xR 5)) (mIm (mFz (mLc [6] (mIL (mX (xBin ixD (xR 2) (xR 5)))) (gN 6) mYes (mIm (mX (xBin ixD (xR 3) (xR 6)))))))) ((List.range n).map fun (n : Nat) => .int n) [.io (.o .l us1), .im (nT ss), .io (bsT bs), .im (nL seat), .ow (.o .l ((List.range n).map fun _ => .d (.lst []))), .un, .un])
      fun o => ∃ (fs : List (List Nat)) (s5 s6 : Sl), fs.length = n ∧ (∀ b ∈ fs, Good ss.prod n b) ∧ o = .nx [.io (.o .l us1), .im (nT ss), .io (bsT bs), .im (nL seat), .ow (bsT fs), s5, s6] := by
    refine for0 (e := fun (n : Nat) => D.int n) (fun pre δ => ∃ (fs : List (List Nat)) (s5 s6 : Sl), NoIo s5 ∧ s6 = .un ∧ fs.length = n ∧ (∀ k, k < pre.length → ∀ j, seat[k]? = some j → ∃ b, fs[j]? = some b ∧ Good ss.prod n b) ∧ δ = [.io (.o .l us1), .im (nT ss), .io (bsT bs), .im (nL seat), .ow (bsT fs), s5, s6]) (List.range n)
      ⟨List.replicate n [], .un, .un, NoIo.un, rfl, by simp, by simp, ?_⟩ (fun δ q => ?_) fun pre x post δ e q => ?_
    · have : (List.range n).map (fun _ => Tr.d (.lst [])) = (List.replicate n ([] : List Nat)).map fun b => .d (nL b) := by
        rw [List.map_replicate]
        refine List.ext_getElem? fun k => ?_
        rw [List.getElem?_map]
        by_cases hk : k < n
        · rw [List.getElem?_range hk, List.getElem?_replicate, if_pos hk]; rfl
        · rw [List.getElem?_eq_none (by simpa using hk), List.getElem?_replicate, if_neg hk]; rfl
      rw [this]
    · obtain ⟨fs, s5, s6, _, _, hl, hg, rfl⟩ := q
      refine ⟨fs, s5, s6, hl, fun b hb' => ?_, rfl⟩
      obtain ⟨j, hj, rfl⟩ := List.getElem_of_mem hb'
      have hjs : j ∈ seat := hsp.mem_iff.mpr (by simp; omega)
      obtain ⟨k, hk, ek⟩ := List.getElem_of_mem hjs
      obtain ⟨b, eb, gb⟩ := hg k (by simp; omega) j (by rw [List.getElem?_eq_getElem hk, ek])
      rw [List.getElem?_eq_getElem hj] at eb
      rw [Option.some.inj eb]
      exact gb
    · obtain ⟨fs, s5, s6, n5, rfl, hl, hg, rfl⟩ := q
      have hlen := congrArg List.length e
      simp at hlen
      have hx : x = pre.length := by
        have h1 : (pre ++ x :: post)[pre.length]? = some x := by simp
        rw [e] at h1
        rw [List.getElem?_range (by omega)] at h1
        exact (Option.some.inj h1).symm
      have hxn : x < n := by omega
      have hbx : bs[x]? = some bs[x] := List.getElem?_eq_getElem (by omega)
      obtain ⟨g1, g2⟩ := hb _ (List.getElem_mem (l := bs) (n := x) (by omega))
      have hsx : seat[x]? = some seat[x] := List.getElem?_eq_getElem (by omega)
      have hsx2 := hsm _ (List.getElem_mem (l := seat) (n := x) (by omega))
      generalize bs[x] = b at hbx g1 g2
      generalize seat[x] = j at hsx hsx2
      refine ⟨[.io (.o .l us1), .im (nT ss), .io (bsT bs), .im (nL seat), .ow (bsT fs), .im (.int x), .un], ?_, ?_⟩
      · rcases n5 with rfl | ⟨d, rfl⟩ <;> simp
      · have hl2 := lc_map (i := 6) (m := (mIm (mX (xBin ixD (xR 3) (xR 6))))) (e := fun (n : Nat) => D.int n) (fun i => .d (.int (seat.getD i 0 : Nat))) (δ := [.io (.o .l us1), .im (nT ss), .io (bsT bs), .im (nL seat), .ow (bsT fs), .im (.int x), .un]) (xs := b) (by unfold sizeLine; omega) rfl fun i hi => by
          have hi' := g2 i hi
          have i1 : ixN seat.length (i : Int) = some i := ix_nat (by omega)
          have : seat[i]? = some (seat.getD i 0) := by rw [List.getD_eq_getElem?_getD, List.getElem?_eq_getElem (by omega)]; rfl
          generalize seat.getD i 0 = z at this
          simp [i1, this]
        have i1 : ixN bs.length (x : Int) = some x := ix_nat (by omega)
        have i2 : ixN seat.length (x : Int) = some x := ix_nat (by omega)
        have i3 : ixN fs.length (j : Int) = some j := ix_nat (by omega)
        have hgd : Good ss.prod n (b.map fun i => seat.getD i 0) := by
          refine ⟨by simp [g1], fun z hz => ?_⟩
          obtain ⟨i, hi, rfl⟩ := List.mem_map.mp hz
          have hi' := g2 i hi
          rw [List.getD_eq_getElem?_getD, List.getElem?_eq_getElem (by omega)]
          exact hsm _ (List.getElem_mem _)
        refine ⟨.nx [.io (.o .l us1), .im (nT ss), .io (bsT bs), .im (nL seat), .ow (bsT (fs.set j (b.map fun i => seat.getD i 0))), .im (.int x), .un], ?_, fs.set j (b.map fun i => seat.getD i 0), _, _, NoIo.im, rfl, by simp [hl], fun k hk j' hj' => ?_, rfl⟩
        · have hb3 : mIL (mX (xBin ixD (xR 2) (xR 5))) [.io (.o .l us1), .im (nT ss), .io (bsT bs), .im (nL seat), .ow (bsT fs), .im (.int x), .un] = .ok (b.map fun (n : Nat) => .int n, [.io (.o .l us1), .im (nT ss), .io (bsT bs), .im (nL seat), .ow (bsT fs), .im (.int x), .un]) := by
            simp [hflat, i1, hbx]
          have hw : wipeS [.io (.o .l us1), .im (nT ss), .io (bsT bs), .im (nL seat), .ow (bsT fs), .im (.int x), .un] [6] = [.io (.o .l us1), .im (nT ss), .io (bsT bs), .im (nL seat), .ow (bsT fs), .im (.int x), .un] := rfl
          rw [e_mSetI, e_mIm, e_mFz, e_mLc, hb3]
          simp only [R.ok_bind]
          rw [hw, hl2]
          simp [i2, hsx, i3, Function.comp_def, nL]
        · by_cases hjj : j = j'
          · subst hjj
            exact ⟨_, by rw [List.getElem?_set_self (by omega)], hgd⟩
          · have hk2 : k < pre.length := by
              rw [List.length_append, List.length_singleton] at hk
              by_cases q : k = pre.length
              · rw [q, ← hx, hsx] at hj'
                exact absurd (Option.some.inj hj') hjj
              · omega
            obtain ⟨c, ec, gc⟩ := hg k hk2 j' hj'
            exact ⟨c, by rw [List.getElem?_set_ne hjj]; exact ec, gc⟩
  obtain ⟨o, e2, fs, s5, s6, hfl, hfg, rfl⟩ := hfor
  obtain ⟨ls, us2, e3, hnd, hnm, hll, hb2⟩ := names_ok (K := K) (many := n) hb1 hm
  refine ⟨⟨ss, ls, fs⟩, us2, ?_, ⟨hs, fun q => by simp only at q; rw [q] at hll; simp at hll; omega, by simp only; omega, hnd, hnm, by simp only; omega, fun b hb => by simp only; rw [hll]; exact hfg b hb⟩, hb2⟩
  unfold f__law_turned
  rw [if_pos (show [Tr.o Sh.l us, Tr.d (nT ss), bsT bs].length = 3 from rfl)]
  unfold runF m__law_turned
  generalize hrgx : oRg1 (xCB lenD (xsC (xR 2) xsN)) = rg at hrg
  simp only [bsT] at hrg e2 hlc ⊢
  simp [e_seq, hrg, e1, Function.comp_def, hflat, ← hn, show n ≤ 1000000 by omega]
  rw [hlc]
  simp [hflat, ← hn, show n ≤ 1000000 by omega]
  rw [e2]
  simp [e3, hflat, ← hn, Function.comp_def, Own.d]
end G8
/-! P16: spins, any rule, the rule of the law. -/
namespace G8
open PySem L2 GX TL
variable {K : PySem.W.Frag}
theorem spin_shape {us : List Tr} {s3 s4 s5 s6 s7 s8 : Sl} (h : Bag us) {P : Out → Prop}
    (hP : ∀ (us' : List Tr) (ss : List Nat), Bag us' → Sides ss → ss.prod ≤ 4 → P (.nx [.io (.o .l us'), .im (.bl true), .im (nT ss), s3, s4, s5, s6, s7, s8])) :
    Tru (mSeq (mSet 2 (mFz (mCallO (f__law_of K) (mCons (mV 0) (mCons (mFz (oLst (xsC (xTup (xsC (xC (.int 2)) xsN)) (xsC (xTup (xsC (xC (.int 2)) xsN)) (xsC (xTup (xsC (xC (.int 3)) xsN)) (xsC (xTup (xsC (xC (.int 2)) xsN)) (xsC (xTup (xsC (xC (.int 2)) xsN)) xsN))))))) mNil))))) (mIfS (mAnd (mB (mX (xV 1))) (mB (mBin eqD (mFz (mCallO (f__law_draw K) (mCons (mV 0) (mCons (mX (xC (.int 7))) mNil)))) (mX (xC (.int 3)))))) (mSet 2 (mFz (mCallO (f__law_of K) (mCons (mV 0) (mCons (mFz (oLst (xsC (xTup (xsC (xC (.int 4)) xsN)) (xsC (xTup (xsC (xC (.int 2)) (xsC (xC (.int 2)) xsN))) xsN)))) mNil))))) mNx) [.io (.o .l us), .im (.bl true), .un, s3, s4, s5, s6, s7, s8]) P := by
  obtain ⟨x, us1, e1, hx, hb1⟩ := of_ok (K := K) (ds := [nT [2], nT [2], nT [3], nT [2], nT [2]]) h (by simp) (by simp)
  obtain ⟨d, us2, e2, hd, hb2⟩ := draw_ok (K := K) 7 hb1 (by decide) (by decide)
  obtain ⟨y, us3, e3, hy, hb3⟩ := of_ok (K := K) (ds := [nT [4], nT [2, 2]]) hb2 (by simp) (by simp)
  obtain ⟨s1, rfl, h1, h1p⟩ : ∃ ss, x = nT ss ∧ Sides ss ∧ ss.prod ≤ 4 := by
    simp only [List.mem_cons, List.not_mem_nil, or_false] at hx
    rcases hx with rfl | rfl | rfl | rfl | rfl
    · exact ⟨[2], rfl, sides1 (by decide) (by decide), by decide⟩
    · exact ⟨[2], rfl, sides1 (by decide) (by decide), by decide⟩
    · exact ⟨[3], rfl, sides1 (by decide) (by decide), by decide⟩
    · exact ⟨[2], rfl, sides1 (by decide) (by decide), by decide⟩
    · exact ⟨[2], rfl, sides1 (by decide) (by decide), by decide⟩
  obtain ⟨s2, rfl, h2, h2p⟩ : ∃ ss, y = nT ss ∧ Sides ss ∧ ss.prod ≤ 4 := by
    simp only [List.mem_cons, List.not_mem_nil, or_false] at hy
    rcases hy with rfl | rfl
    · exact ⟨[4], rfl, sides1 (by decide) (by decide), by decide⟩
    · exact ⟨[2, 2], rfl, sides2 (by decide) (by decide) (by decide) (by decide), by decide⟩
  have p1 := hP us2 s1 hb2 h1 h1p
  have p2 := hP us3 s2 hb3 h2 h2p
  generalize hz1 : nT s1 = z1 at e1 p1
  generalize hz2 : nT s2 = z2 at e3 p2
  simp [nT] at e1 e3
  refine tru_seq ?_
  simp [e1, e2]
  split
  · simp [e3]
    exact p2
  · simp
    exact p1
theorem spin_signs {us : List Tr} {m : Nat} {s1 s2 s5 s6 s7 : Sl} (h : Bag us) (hm : m ≤ 4) (n5 : NoIo s5) {P : Out → Prop}
    (hP : ∀ (us' : List Tr) (sg : List (List Nat)) (s5 : Sl), NoIo s5 → Bag us' → sg.length = m → (∀ s ∈ sg, s.length = m) → P (.nx [.io (.o .l us'), s1, s2, .im (.int m), .ow (bsT sg), s5, s6, s7, .un])) :
    Tru (mFor (mIR1 (mCons (mX (xV 3)) mNil)) (gN 5) (mDrop (mApp 4 (mIm (mFz (mLc [8] (mIR1 (mCons (mX (xV 3)) mNil)) (gN 8) mYes (mIm (mFz (mCallO (f__law_draw K) (mCons (mV 0) (mCons (mX (xC (.int 2))) mNil)))))))))) [.io (.o .l us), s1, s2, .im (.int m), .ow (.o .l []), s5, s6, s7, .un]) P := by
  simp [show m ≤ 1000000 by omega]
  refine for0 (e := fun (n : Nat) => D.int n) (fun pre δ => ∃ (us' : List Tr) (sg : List (List Nat)) (s5 : Sl), NoIo s5 ∧ Bag us' ∧ sg.length = pre.length ∧ (∀ s ∈ sg, s.length = m) ∧ δ = [.io (.o .l us'), s1, s2, .im (.int m), .ow (bsT sg), s5, s6, s7, .un]) (List.range m)
    ⟨us, [], s5, n5, h, rfl, by simp, rfl⟩ (fun δ q => ?_) fun pre x post δ e q => ?_
  · obtain ⟨us', sg, s5, n5, hb, hl, hs, rfl⟩ := q
    exact hP us' sg s5 n5 hb (by simpa using hl) hs
  · obtain ⟨us', sg, s5, n5, hb, hl, hs, rfl⟩ := q
    have hlen := congrArg List.length e
    simp at hlen
    refine ⟨[.io (.o .l us'), s1, s2, .im (.int m), .ow (bsT sg), .im (.int x), s6, s7, .un], ?_, ?_⟩
    · rcases n5 with rfl | ⟨d, rfl⟩ <;> simp
    · have hlc := lc_tru (vs := [8]) (g := gN 8) (m := mIm (mFz (mCallO (f__law_draw K) (mCons (mV 0) (mCons (mX (xC (.int 2))) mNil))))) (e := fun (n : Nat) => D.int n) (xs := List.range m)
        (fun acc δ => ∃ (us' : List Tr) (row : List Nat), Bag us' ∧ acc = row.map (fun (n : Nat) => .d (.int n)) ∧ δ = [.io (.o .l us'), s1, s2, .im (.int m), .ow (bsT sg), .im (.int x), s6, s7, .un]) (by simp; unfold sizeLine; omega) (List.range m) [] (δ := [.io (.o .l us'), s1, s2, .im (.int m), .ow (bsT sg), .im (.int x), s6, s7, .un]) (fun _ q => q) (by simp) ⟨us', [], hb, rfl, rfl⟩ (by
          rintro x' hx acc δ hl ⟨us', row, hb, rfl, rfl⟩
          obtain ⟨d, us2, e2, hd, hb2⟩ := draw_ok (K := K) 2 hb (by omega) (by omega)
          exact ⟨[.io (.o .l us'), s1, s2, .im (.int m), .ow (bsT sg), .im (.int x), s6, s7, .im (.int x')], by simp, (.d (.int d), [.io (.o .l us2), s1, s2, .im (.int m), .ow (bsT sg), .im (.int x), s6, s7, .im (.int x')]), by simp [e2], us2, row ++ [d], hb2, by simp, rfl⟩)
      obtain ⟨r, e2, ts, hts, hl', us2, row, hb2, rfl, hδ⟩ := hlc
      obtain ⟨rt, rδ⟩ := r
      simp only at hts hδ
      subst hts hδ
      refine ⟨.nx [.io (.o .l us2), s1, s2, .im (.int m), .ow (bsT (sg ++ [row])), .im (.int x), s6, s7, .un], ?_, us2, sg ++ [row], _, NoIo.im, hb2, by simp [hl], fun s hs' => ?_, rfl⟩
      · simp [show m ≤ 1000000 by omega]
        rw [e2]
        simp [Function.comp_def, show sg.length < sizeLine from by unfold sizeLine; omega]
      · rcases List.mem_append.mp hs' with hs' | hs'
        · exact hs s hs'
        · rw [List.mem_singleton.mp hs']; simpa using hl'
theorem spin_mix {us : List Tr} {m : Nat} {sg : List (List Nat)} {s1 s2 s5 s6 s7 s8 : Sl} (h : Bag us) (hl : sg.length = m) (hs : ∀ s ∈ sg, s.length = m) {P : Out → Prop}
    (hP : ∀ (us' : List Tr) (sg : List (List Nat)), Bag us' → sg.length = m → (∀ s ∈ sg, s.length = m) → P (.nx [.io (.o .l us'), s1, s2, .im (.int m), .ow (bsT sg), s5, s6, s7, s8])) :
    Tru (mIfS (mAnd (mB (mBin eqD (mX (xV 3)) (mX (xC (.int 2))))) (mB (mBin eqD (mFz (mCallO (f__law_draw K) (mCons (mV 0) (mCons (mX (xC (.int 2))) mNil)))) (mX (xC (.int 0)))))) (mSetO 4 (mCallO (f__law_mixed K) (mCons (mV 0) (mCons (mFz (mLst (mCons (mFz (oLst (xsC (xC (.int 0)) (xsC (xC (.int 0)) xsN)))) (mCons (mFz (oLst (xsC (xC (.int 0)) (xsC (xC (.int 1)) xsN)))) mNil)))) mNil)))) (mIfS (mAnd (mB (mBin eqD (mX (xV 3)) (mX (xC (.int 4))))) (mB (mBin eqD (mFz (mCallO (f__law_draw K) (mCons (mV 0) (mCons (mX (xC (.int 2))) mNil)))) (mX (xC (.int 0)))))) (mSetO 4 (mCallO (f__law_mixed K) (mCons (mV 0) (mCons (mFz (mLst (mCons (mFz (oLst (xsC (xC (.int 0)) (xsC (xC (.int 0)) (xsC (xC (.int 0)) (xsC (xC (.int 0)) xsN)))))) (mCons (mFz (oLst (xsC (xC (.int 0)) (xsC (xC (.int 1)) (xsC (xC (.int 0)) (xsC (xC (.int 1)) xsN)))))) (mCons (mFz (oLst (xsC (xC (.int 0)) (xsC (xC (.int 0)) (xsC (xC (.int 1)) (xsC (xC (.int 1)) xsN)))))) (mCons (mFz (oLst (xsC (xC (.int 0)) (xsC (xC (.int 1)) (xsC (xC (.int 1)) (xsC (xC (.int 0)) xsN)))))) mNil)))))) mNil)))) mNx)
      [.io (.o .l us), s1, s2, .im (.int m), .ow (bsT sg), s5, s6, s7, s8]) P := by
  obtain ⟨d, us1, e1, hd, hb1⟩ := draw_ok (K := K) 2 h (by decide) (by decide)
  obtain ⟨d2, us1', e1', hd', hb1'⟩ := draw_ok (K := K) 2 hb1 (by decide) (by decide)
  have key : ∀ (us : List Tr) (q : List (List Nat)), Bag us → q.length < 1000 → q.length = m → (∀ s ∈ q, s.length = m) → ∃ (us' : List Tr) (sg : List (List Nat)), f__law_mixed K [.o .l us, .d (.lst (q.map nL))] = .ok (bsT sg, [.o .l us', .d (.lst (q.map nL))]) ∧ P (.nx [.io (.o .l us'), s1, s2, .im (.int m), .ow (bsT sg), s5, s6, s7, s8]) := by
    intro us q hb hq hqm hqs
    obtain ⟨ys, us', e, hp, hb'⟩ := mixed_ok (K := K) (ds := q.map nL) hb (by simpa using hq)
    have hg : ∀ x : List Nat, (match nL x with | .lst ds => ds.map natD | _ => []) = x := fun x => by
      show (x.map fun (n : Nat) => D.int n).map natD = x
      rw [List.map_map]
      conv => rhs; rw [← List.map_id x]
      refine List.map_congr_left fun n _ => by simp [natD]
    obtain ⟨zs, rfl, hz⟩ := perm_map_inv (f := nL) (fun d => match d with | .lst ds => ds.map natD | _ => []) hg hp
    refine ⟨us', zs, ?_, hP us' zs hb' (by rw [hz.length_eq, hqm]) fun s hs => hqs s (hz.mem_iff.mp hs)⟩
    rw [e, List.map_map]
    rfl
  simp [e1]
  split
  · rename_i hm2
    have hm2 : m = 2 := by omega
    simp
    split
    · obtain ⟨us', sg', e, p⟩ := key us1 [[0, 0], [0, 1]] hb1 (by simp) (by rw [hm2]; rfl) (by intro s hs; simp at hs; rcases hs with rfl | rfl <;> rw [hm2] <;> rfl)
      simp [nL] at e
      simp [e]
      exact p
    · simp [show ¬ (m : Int) = 4 by omega]
      exact hP us1 sg hb1 hl hs
  · simp
    split
    · rename_i hm2
      have hm2 : m = 4 := by omega
      simp [e1]
      split
      · obtain ⟨us', sg', e, p⟩ := key us1 [[0, 0, 0, 0], [0, 1, 0, 1], [0, 0, 1, 1], [0, 1, 1, 0]] hb1 (by simp) (by rw [hm2]; rfl) (by intro s hs; simp at hs; rcases hs with rfl | rfl | rfl | rfl <;> rw [hm2] <;> rfl)
        simp [nL] at e
        simp [e]
        exact p
      · simp
        exact hP us1 sg hb1 hl hs
    · simp
      exact hP us sg h hl hs
theorem mod_nat (a b m r : Nat) : (((a : Int) + (b : Int)) % 2 * (m : Int) + (r : Int)) = ((((a + b) % 2) * m + r : Nat) : Int) := by
  push_cast
  rfl
theorem spin_bricks {bag s1 s2 : Sl} {m : Nat} {sg : List (List Nat)} {s5 : Sl} (hm : m ≤ 4) (hl : sg.length = m) (hs : ∀ s ∈ sg, s.length = m) (n5 : NoIo s5) {P : Out → Prop}
    (hP : ∀ (bs : List (List Nat)) (s5 s7 : Sl), bs.length = 2 * m → (∀ b ∈ bs, Good m (2 * m) b) → P (.nx [bag, s1, s2, .im (.int m), .ow (bsT sg), s5, .ow (bsT bs), s7, .un])) :
    Tru (mFor (mIR1 (mCons (mX (xC (.int 2))) mNil)) (gN 7) (mFor (mIR1 (mCons (mX (xV 3)) mNil)) (gN 5) (mDrop (mApp 6 (mIm (mFz (mLc [8] (mIR1 (mCons (mX (xV 3)) mNil)) (gN 8) mYes (mIm (mX (xBin addI (xBin mulI (xBin modI (xCB intD (xsC (xBin addI (xR 7) (xBin ixD (xPR (pIx (pV 4) (xR 5))) (xR 8))) xsN)) (xC (.int 2))) (xR 3)) (xR 8)))))))))) [bag, s1, s2, .im (.int m), .ow (bsT sg), s5, .ow (.o .l []), .un, .un]) P := by
  have hin : ∀ (g : Nat) (bs : List (List Nat)) (s5 : Sl), g < 2 → NoIo s5 → bs.length ≤ 10 → (∀ b ∈ bs, Good m (2 * m) b) → Tru (mFor (mIR1 (mCons (mX (xV 3)) mNil)) (gN 5) (mDrop (mApp 6 (mIm (mFz (mLc [8] (mIR1 (mCons (mX (xV 3)) mNil)) (gN 8) mYes (mIm (mX (xBin addI (xBin mulI (xBin modI (xCB intD (xsC (xBin addI (xR 7) (xBin ixD (xPR (pIx (pV 4) (xR 5))) (xR 8))) xsN)) (xC (.int 2))) (xR 3)) (xR 8))))))))) [bag, s1, s2, .im (.int m), .ow (bsT sg), s5, .ow (bsT bs), .im (.int g), .un])
      fun o => ∃ (bs' : List (List Nat)) (s5 : Sl), NoIo s5 ∧ bs'.length = bs.length + m ∧ (∀ b ∈ bs', Good m (2 * m) b) ∧ o = .nx [bag, s1, s2, .im (.int m), .ow (bsT sg), s5, .ow (bsT bs'), .im (.int g), .un] := by
    intro g bs s5 hg n5 hbl hbg
    simp [show m ≤ 1000000 by omega]
    refine for0 (e := fun (n : Nat) => D.int n) (fun pre δ => ∃ (bs' : List (List Nat)) (s5 : Sl), NoIo s5 ∧ bs'.length = bs.length + pre.length ∧ (∀ b ∈ bs', Good m (2 * m) b) ∧ δ = [bag, s1, s2, .im (.int m), .ow (bsT sg), s5, .ow (bsT bs'), .im (.int g), .un]) (List.range m)
      ⟨bs, s5, n5, by simp, hbg, rfl⟩ (fun δ q => ?_) fun pre x post δ e q => ?_
    · obtain ⟨bs', s5, n5, h1, h2, rfl⟩ := q
      exact ⟨bs', s5, n5, by simpa using h1, h2, rfl⟩
    · obtain ⟨bs', s5, n5, h1, h2, rfl⟩ := q
      have hlen := congrArg List.length e
      simp at hlen
      have hx : x < m := by
        have : x ∈ List.range m := by rw [← e]; simp
        simpa using this
      have hsx : sg[x]? = some sg[x] := List.getElem?_eq_getElem (by omega)
      have hsl := hs _ (List.getElem_mem (l := sg) (n := x) (by omega))
      generalize sg[x] = sx at hsx hsl
      refine ⟨[bag, s1, s2, .im (.int m), .ow (bsT sg), .im (.int x), .ow (bsT bs'), .im (.int g), .un], ?_, ?_⟩
      · rcases n5 with rfl | ⟨d, rfl⟩ <;> simp
      · have hlc := lc_map (i := 8) (m := (mIm (mX (xBin addI (xBin mulI (xBin modI (xCB intD (xsC (xBin addI (xR 7) (xBin ixD (xPR (pIx (pV 4) (xR 5))) (xR 8))) xsN)) (xC (.int 2))) (xR 3)) (xR 8))))) (e := fun (n : Nat) => D.int n) (fun r => .d (.int (((g + sx.getD r 0) % 2 * m + r : Nat) : Int))) (δ := [bag, s1, s2, .im (.int m), .ow (bsT sg), .im (.int x), .ow (bsT bs'), .im (.int g), .un]) (xs := List.range m) (by simp; unfold sizeLine; omega) rfl fun r hr => by
          have hr := List.mem_range.mp hr
          have i1 : ixN sg.length (x : Int) = some x := ix_nat (by omega)
          have i2 : ixN sx.length (r : Int) = some r := ix_nat (by omega)
          have g2 : sx[r]? = some (sx.getD r 0) := by rw [List.getD_eq_getElem?_getD, List.getElem?_eq_getElem (by omega)]; rfl
          generalize sx.getD r 0 = v at g2
          have hmi : mulI (.int (((g + v) % 2 : Nat) : Int)) (.int m) = some (.int (((g + v) % 2 * m : Nat) : Int)) := mulI_le (by omega) (by omega)
          have hmod : modI (.int ((g : Int) + (v : Int))) (.int 2) = some (.int (((g + v) % 2 : Nat) : Int)) := by
            simp [modI]
          generalize ((g + v) % 2) = w at hmi hmod ⊢
          simp [i1, hsx, i2, g2, hmod, hmi]
        refine ⟨.nx [bag, s1, s2, .im (.int m), .ow (bsT sg), .im (.int x), .ow (bsT (bs' ++ [(List.range m).map fun r => (g + sx.getD r 0) % 2 * m + r])), .im (.int g), .un], ?_, bs' ++ [(List.range m).map fun r => (g + sx.getD r 0) % 2 * m + r], _, NoIo.im, by simp [h1]; omega, fun b hb => ?_, rfl⟩
        · simp [show m ≤ 1000000 by omega]
          have hlc2 := hlc
          simp only [bsT] at hlc2
          rw [hlc2]
          simp [Function.comp_def, nL, show bs'.length < sizeLine from by unfold sizeLine; omega]
        · rcases List.mem_append.mp hb with hb | hb
          · exact h2 b hb
          · rw [List.mem_singleton.mp hb]
            refine ⟨by simp, fun i hi => ?_⟩
            obtain ⟨r, hr, rfl⟩ := List.mem_map.mp hi
            have hr := List.mem_range.mp hr
            have : (g + sx.getD r 0) % 2 * m ≤ 1 * m := Nat.mul_le_mul_right _ (by omega)
            omega
  simp only [e_mFor, e_mIR1, e_mCons, e_mX, e_xC, R.ofO_some, R.ok_bind, e_mNil]
  rw [rng1_lit (k := 2) (n := 2) rfl (by decide)]
  simp only [R.ok_bind]
  refine for0 (e := fun (n : Nat) => D.int n) (fun pre δ => ∃ (bs : List (List Nat)) (s5 s7 : Sl), NoIo s5 ∧ NoIo s7 ∧ bs.length = pre.length * m ∧ (∀ b ∈ bs, Good m (2 * m) b) ∧ δ = [bag, s1, s2, .im (.int m), .ow (bsT sg), s5, .ow (bsT bs), s7, .un]) (List.range 2)
    ⟨[], s5, .un, n5, NoIo.un, by simp, by simp, rfl⟩ (fun δ q => ?_) fun pre x post δ e q => ?_
  · obtain ⟨bs, s5, s7, _, _, h1, h2, rfl⟩ := q
    exact hP bs s5 s7 (by simpa using h1) h2
  · obtain ⟨bs, s5, s7, n5, n7, h1, h2, rfl⟩ := q
    have hlen := congrArg List.length e
    simp at hlen
    have hx : x < 2 := by
      have : x ∈ List.range 2 := by rw [← e]; simp
      simpa using this
    refine ⟨[bag, s1, s2, .im (.int m), .ow (bsT sg), s5, .ow (bsT bs), .im (.int x), .un], ?_, ?_⟩
    · rcases n7 with rfl | ⟨d, rfl⟩ <;> simp
    · obtain ⟨o, e2, bs', s5', n5', h1', h2', rfl⟩ := hin x bs s5 hx n5 (by have : pre.length * m ≤ 1 * 4 := Nat.mul_le_mul (by omega) hm; omega) h2
      exact ⟨_, e2, bs', s5', _, n5', NoIo.im, by rw [h1', h1, List.length_append, List.length_singleton, Nat.succ_mul], h2', rfl⟩
end G8
/-! P17: the rule of the law. -/
namespace G8
open PySem L2 GX TL
variable {K : PySem.W.Frag}
theorem seq_assoc (a b c : MS) : mSeq a (mSeq b c) = mSeq (mSeq a b) c := by
  funext δ
  unfold mSeq
  simp only [R.bind_assoc]
  congr 1
  funext o
  cases o <;> rfl
theorem spins_ok {us : List Tr} (h : Bag us) : ∃ (o : Own) (us' : List Tr), f__law_spins K [.o .l us, .d (.bl true)] = .ok (.d o.d, [.o .l us', .d (.bl true)]) ∧ OwnOk o ∧ Bag us' := by
  suffices hs : Tru (f__law_spins K [.o .l us, .d (.bl true)]) fun r => ∃ (o : Own) (us' : List Tr), r = (.d o.d, [.o .l us', .d (.bl true)]) ∧ OwnOk o ∧ Bag us' by
    obtain ⟨r, e, o, us', rfl, ho, hb⟩ := hs
    exact ⟨o, us', e, ho, hb⟩
  unfold f__law_spins
  rw [if_pos (show [Tr.o Sh.l us, Tr.d (.bl true)].length = 2 from rfl)]
  refine tru_run ?_
  unfold m__law_spins
  rw [seq_assoc]
  refine tru_seq ?_
  refine spin_shape h fun us1 ss hb1 hss hpr => ?_
  obtain ⟨ct, e1, hct⟩ := cells_ok (K := K) hss
  have hpl := places_len hss
  refine tru_seq ?_
  simp [e1, hct, hpl]
  refine tru_seq ?_
  simp
  refine tru_seq ?_
  refine spin_signs hb1 hpr NoIo.un fun us2 sg s5 n5 hb2 hl hsl => ?_
  refine tru_seq ?_
  refine spin_mix hb2 hl hsl fun us3 sg3 hb3 hl3 hsl3 => ?_
  refine tru_seq ?_
  simp
  refine tru_seq ?_
  refine spin_bricks hpr hl3 hsl3 n5 fun bs s5' s7' hbl hbg => ?_
  have hpos : 0 < ss.prod := prod_pos hss.lo
  obtain ⟨o, us4, e4, ho, hb4⟩ := turned_ok (K := K) (bs := bs) hb3 hss (by omega) (by omega) (fun b hb => by rw [hbl]; exact hbg b hb)
  simp only [bsT] at e4
  simp [e4]
  exact ⟨o, us4, ⟨rfl, rfl⟩, ho, hb4⟩
theorem any_ok {us : List Tr} (h : Bag us) : ∃ (o : Own) (us' : List Tr), f__law_any K [.o .l us] = .ok (.d o.d, [.o .l us']) ∧ OwnOk o ∧ Bag us' := by
  obtain ⟨d, us1, e1, hd, hb1⟩ := draw_ok (K := K) 5 h (by decide) (by decide)
  by_cases h1 : (d : Int) < 2
  · obtain ⟨o, us2, e2, ho, hb2⟩ := rows_ok (K := K) hb1
    refine ⟨o, us2, ?_, ho, hb2⟩
    simp [f__law_any, runF, m__law_any, e_seq, e1, h1, e2]
  · by_cases h2 : (d : Int) < 4
    · obtain ⟨o, us2, e2, ho, hb2⟩ := floors_ok (K := K) hb1
      refine ⟨o, us2, ?_, ho, hb2⟩
      simp [f__law_any, runF, m__law_any, e_seq, e1, h1, h2, e2]
    · obtain ⟨o, us2, e2, ho, hb2⟩ := spins_ok (K := K) hb1
      refine ⟨o, us2, ?_, ho, hb2⟩
      simp [f__law_any, runF, m__law_any, e_seq, e1, h1, h2, e2]
theorem shape_bricks {us : List Tr} {ss : List Nat} {many : Nat} {s1 : Sl} (h : Bag us) (hs : Sides ss) (h0 : 0 < many) (hm : many ≤ 18) {P : Out → Prop}
    (hP : ∀ (us' : List Tr) (bs : List (List Nat)) (s5 s6 : Sl), Bag us' → bs.length = many → (∀ b ∈ bs, Good ss.prod many b) → P (.nx [.io (.o .l us'), s1, .ow (bsT bs), .im (.int many), .im (nT ss), s5, s6])) :
    Tru (mFor (mIR1 (mCons (mX (xV 3)) mNil)) (gN 5) (mDrop (mApp 2 (mIm (mFz (mLc [6] (mIL (mFz (mCallO (f__law_cells K) (mCons (mX (xV 4)) mNil)))) (gN 6) mYes (mIm (mBin modI (mCB intD (mCons (mBin addI (mX (xV 5)) (mFz (mCallO (f__law_draw K) (mCons (mV 0) (mCons (mX (xC (.int 3))) mNil))))) mNil)) (mX (xV 3)))))))))
      [.io (.o .l us), s1, .ow (.o .l []), .im (.int many), .im (nT ss), .un, .un]) P := by
  obtain ⟨ct, e1, hct⟩ := cells_ok (K := K) hs
  have hpl := places_len hs
  have hpr := hs.pr
  simp [show many ≤ 1000000 by omega]
  refine for0 (e := fun (n : Nat) => D.int n) (fun pre δ => ∃ (us' : List Tr) (bs : List (List Nat)) (s5 : Sl), NoIo s5 ∧ Bag us' ∧ bs.length = pre.length ∧ (∀ b ∈ bs, Good ss.prod many b) ∧ δ = [.io (.o .l us'), s1, .ow (bsT bs), .im (.int many), .im (nT ss), s5, .un]) (List.range many)
    ⟨us, [], .un, NoIo.un, h, rfl, by simp, rfl⟩ (fun δ q => ?_) fun pre x post δ e q => ?_
  · obtain ⟨us', bs, s5, _, hb, hl, hg, rfl⟩ := q
    exact hP us' bs s5 .un hb (by simpa using hl) hg
  · obtain ⟨us', bs, s5, n5, hb, hl, hg, rfl⟩ := q
    have hlen := congrArg List.length e
    simp at hlen
    refine ⟨[.io (.o .l us'), s1, .ow (bsT bs), .im (.int many), .im (nT ss), .im (.int x), .un], ?_, ?_⟩
    · rcases n5 with rfl | ⟨d, rfl⟩ <;> simp
    · have hlc := lc_tru (vs := [6]) (g := gN 6) (m := (mIm (mBin modI (mCB intD (mCons (mBin addI (mX (xV 5)) (mFz (mCallO (f__law_draw K) (mCons (mV 0) (mCons (mX (xC (.int 3))) mNil))))) mNil)) (mX (xV 3))))) (e := nT) (xs := placesN ss)
        (fun acc δ => ∃ (us' : List Tr) (row : List Nat), Bag us' ∧ acc = row.map (fun (n : Nat) => .d (.int n)) ∧ (∀ i ∈ row, i < many) ∧ δ = [.io (.o .l us'), s1, .ow (bsT bs), .im (.int many), .im (nT ss), .im (.int x), .un]) (by rw [hpl]; unfold sizeLine; omega) (placesN ss) [] (δ := [.io (.o .l us'), s1, .ow (bsT bs), .im (.int many), .im (nT ss), .im (.int x), .un]) (fun _ q => q) (by simp) ⟨us', [], hb, rfl, by simp, rfl⟩ (by
          rintro x' hx acc δ hl ⟨us', row, hb, rfl, hr, rfl⟩
          obtain ⟨d, us2, e2, hd, hb2⟩ := draw_ok (K := K) 3 hb (by omega) (by omega)
          have hmod : modI (.int ((x : Int) + (d : Int))) (.int many) = some (.int (((x + d) % many : Nat) : Int)) := by
            simp [modI, h0]
          have hlt : (x + d) % many < many := Nat.mod_lt _ h0
          generalize (x + d) % many = v at hmod hlt
          refine ⟨[.io (.o .l us'), s1, .ow (bsT bs), .im (.int many), .im (nT ss), .im (.int x), .im (nT x')], by simp, (.d (.int v), [.io (.o .l us2), s1, .ow (bsT bs), .im (.int many), .im (nT ss), .im (.int x), .im (nT x')]), by simp [e2, hmod], us2, row ++ [v], hb2, by simp, fun i hi => ?_, rfl⟩
          rcases List.mem_append.mp hi with hi | hi
          · exact hr i hi
          · rw [List.mem_singleton.mp hi]; exact hlt)
      obtain ⟨r, e2, ts, hts, hl', us2, row, hb2, rfl, hr, hδ⟩ := hlc
      obtain ⟨rt, rδ⟩ := r
      simp only at hts hδ
      subst hts hδ
      refine ⟨.nx [.io (.o .l us2), s1, .ow (bsT (bs ++ [row])), .im (.int many), .im (nT ss), .im (.int x), .un], ?_, us2, bs ++ [row], _, NoIo.im, hb2, by simp [hl], fun b hb' => ?_, rfl⟩
      · simp [e1, hct]
        rw [e2]
        simp [Function.comp_def, show bs.length < sizeLine from by unfold sizeLine; omega]
      · rcases List.mem_append.mp hb' with hb' | hb'
        · exact hg b hb'
        · rw [List.mem_singleton.mp hb']
          exact ⟨by rw [← hpl]; simpa using hl', hr⟩
theorem shape_ok {us : List Tr} (h : Bag us) : ∃ (o : Own) (us' : List Tr), f__law_shape K [.o .l us] = .ok (.d o.d, [.o .l us']) ∧ OwnOk o ∧ Bag us' := by
  obtain ⟨d, us1, e1, hd, hb1⟩ := draw_ok (K := K) 4 h (by decide) (by decide)
  by_cases h1 : (d : Int) < 2
  · obtain ⟨o, us2, e2, ho, hb2⟩ := any_ok (K := K) hb1
    refine ⟨o, us2, ?_, ho, hb2⟩
    simp [f__law_shape, runF, m__law_shape, e_seq, e1, h1, e2]
  · by_cases h2 : (d : Int) = 2
    · obtain ⟨x, us2, e2, hx, hb2⟩ := of_ok (K := K) (ds := [nT [2], nT [3], nT [2, 2], nT [9], nT [4, 4]]) hb1 (by simp) (by simp)
      obtain ⟨d2, us3, e3, hd3, hb3⟩ := draw_ok (K := K) 8 hb2 (by decide) (by decide)
      obtain ⟨ss, rfl, hss⟩ : ∃ ss, x = nT ss ∧ Sides ss := by
        simp only [List.mem_cons, List.not_mem_nil, or_false] at hx
        rcases hx with rfl | rfl | rfl | rfl | rfl
        · exact ⟨[2], rfl, sides1 (by decide) (by decide)⟩
        · exact ⟨[3], rfl, sides1 (by decide) (by decide)⟩
        · exact ⟨[2, 2], rfl, sides2 (by decide) (by decide) (by decide) (by decide)⟩
        · exact ⟨[9], rfl, sides1 (by decide) (by decide)⟩
        · exact ⟨[4, 4], rfl, sides2 (by decide) (by decide) (by decide) (by decide)⟩
      obtain ⟨o, us4, e4, ho, hb4⟩ := drawn_ok (K := K) (ss := ss) (many := 1 + d2) hb3 hss (by omega) (by omega)
      refine ⟨o, us4, ?_, ho, hb4⟩
      rw [Int.natCast_add] at e4
      generalize hz : nT ss = z at e2 e4
      simp [nT] at e2 e4
      simp [f__law_shape, runF, m__law_shape, e_seq, e1, h1, h2, e2, e3, e4]
    · suffices hs : Tru (f__law_shape K [.o .l us]) fun r => ∃ (o : Own) (us' : List Tr), r = (.d o.d, [.o .l us']) ∧ OwnOk o ∧ Bag us' by
        obtain ⟨r, e, o, us', rfl, ho, hb⟩ := hs
        exact ⟨o, us', e, ho, hb⟩
      obtain ⟨d2, us2, e2, hd2, hb2⟩ := draw_ok (K := K) 5 hb1 (by decide) (by decide)
      obtain ⟨x, us3, e3, hx, hb3⟩ := of_ok (K := K) (ds := [nT [2], nT [2], nT [3], nT [2, 2]]) hb2 (by simp) (by simp)
      obtain ⟨ss, rfl, hss⟩ : ∃ ss, x = nT ss ∧ Sides ss := by
        simp only [List.mem_cons, List.not_mem_nil, or_false] at hx
        rcases hx with rfl | rfl | rfl | rfl
        · exact ⟨[2], rfl, sides1 (by decide) (by decide)⟩
        · exact ⟨[2], rfl, sides1 (by decide) (by decide)⟩
        · exact ⟨[3], rfl, sides1 (by decide) (by decide)⟩
        · exact ⟨[2, 2], rfl, sides2 (by decide) (by decide) (by decide) (by decide)⟩
      have hsb := fun (P : Out → Prop) => shape_bricks (K := K) (us := us3) (ss := ss) (many := 2 + d2) (s1 := .im (.int d)) hb3 hss (by omega) (by omega) (P := P)
      have htu := fun (us : List Tr) (bs : List (List Nat)) (h : Bag us) (h0 : 0 < bs.length) (hm : bs.length ≤ 18) (hb : ∀ b ∈ bs, Good ss.prod bs.length b) => turned_ok (K := K) (ss := ss) h hss h0 hm hb
      generalize hz : nT ss = z at e3 hsb htu
      unfold f__law_shape
      rw [if_pos (show [Tr.o Sh.l us].length = 1 from rfl)]
      refine tru_run ?_
      unfold m__law_shape
      refine tru_seq ?_
      simp [e1]
      refine tru_seq ?_
      simp [h1]
      refine tru_seq ?_
      simp [h2]
      refine tru_seq ?_
      simp
      refine tru_seq ?_
      simp [e2]
      refine tru_seq ?_
      simp only [nT] at e3
      simp at e3
      simp [e3]
      refine tru_seq ?_
      have h22 : ((2 + d2 : Nat) : Int) = 2 + (d2 : Int) := by omega
      rw [← h22]
      refine hsb _ fun us4 bs s5 s6 hb4 hbl hbg => ?_
      obtain ⟨o, us5, e5, ho, hb5⟩ := htu us4 bs hb4 (by omega) (by omega) (by rw [hbl]; exact hbg)
      simp only [bsT] at e5
      simp [e5]
      exact ⟨o, us5, ⟨rfl, rfl⟩, ho, hb5⟩
end G8
/-! P18: the rule made, counted by the law. -/
namespace G8
open PySem L2 GX TL
variable {K : PySem.W.Frag}
theorem rows_flat {o : Own} (h : OwnOk o) : o.rows.map (fun r => r.2.flatten) = o.bricks.map fun b => b.map o.nm := by
  have hz : o.rows = (o.names.zip o.bricks).map fun p => (p.1, chunks o.ss (p.2.map o.nm)) := rfl
  rw [hz, List.map_map]
  have : o.bricks = (o.names.zip o.bricks).map Prod.snd := by rw [List.map_snd_zip (by rw [h.bl]; exact Nat.le_refl _)]
  conv => rhs; rw [this, List.map_map]
  refine List.map_congr_left fun p hp => ?_
  obtain ⟨q1, q2, q3, q4, q5⟩ := sides_prod h.sd
  have hl := (h.br p.2 (List.of_mem_zip hp).2).1
  exact chunks_flat (by rw [List.length_map, hl, q1])
theorem rule_new' {ss : List Nat} {rows : List Row} (h : RowsOk ss rows) : ∃ t, f_Rule___init__ K [.o (.i (He.ga K "Rule") []) [], .d (.str (textR ss rows))] = .ok (.d .non, [t, .d (.str (textR ss rows))]) ∧ t.dat = ruleD K ss rows :=
  ⟨_, rule_new h, by simp [ruleD]⟩
theorem made_ok {us : List Tr} {o : Own} (h : Bag us) (ho : OwnOk o) : ∃ t us', f__law_made K [.o .l us, .d o.d] = .ok (t, [.o .l us', .d o.d]) ∧ t.dat = ruleD K o.ss o.rows ∧ Bag us' := by
  obtain ⟨d, us1, e1, hd, hb1⟩ := draw_ok (K := K) 2 h (by decide) (by decide)
  have ok := Own.rowsOk ho
  by_cases h1 : d = 0
  · have e2 := page_eq (K := K) ho
    obtain ⟨t, e3, h3⟩ := rule_new' (K := K) ok
    refine ⟨t, us1, ?_, h3, hb1⟩
    unfold f__law_made
    rw [if_pos (show [Tr.o Sh.l us, Tr.d o.d].length = 2 from rfl)]
    unfold runF m__law_made
    simp [e_seq, e1, h1, e2, e3]
  · have e2 := bricks_eq (K := K) ho
    obtain ⟨r, e3, h3, h4⟩ := rule_of_eq (K := K) ok
    have hbr : blocksL o.rows = .lst (o.bricks.map fun b => sL (b.map o.nm)) := by
      have := congrArg (List.map sL) (rows_flat ho)
      rw [List.map_map, List.map_map] at this
      exact congrArg D.lst this
    rw [hbr, Own.lsR ho] at e3
    have h4 : r.2 = [.d (nT o.ss), .d (sL (lsR o.rows)), .d (blocksL o.rows)] := h4
    obtain ⟨rt, ro⟩ := r
    simp only at h3 h4
    subst h4
    refine ⟨rt, us1, ?_, h3, hb1⟩
    unfold f__law_made
    rw [if_pos (show [Tr.o Sh.l us, Tr.d o.d].length = 2 from rfl)]
    unfold runF m__law_made
    simp [e_seq, e1, h1, e2, e3, Function.comp_def]
/-! ### the law's own counts -/
def upP (o : Own) (v : List Int) : List (Nat × Int) := (List.range o.names.length).flatMap fun k => (o.bricks.getD k []).map fun i => (i, v.getD k 0)
def upN (o : Own) (v : List Int) : List Int := (upP o v).foldl addTo (List.replicate v.length 0)
theorem brick_at {o : Own} (h : OwnOk o) {k : Nat} (hk : k < o.names.length) : o.bricks[k]? = some (o.bricks.getD k []) ∧ (o.bricks.getD k []).length = o.ss.prod ∧ ∀ i ∈ o.bricks.getD k [], i < o.names.length := by
  have hb : k < o.bricks.length := by rw [h.bl]; exact hk
  have e : o.bricks[k]? = some (o.bricks.getD k []) := by rw [List.getD_eq_getElem?_getD, List.getElem?_eq_getElem hb]; rfl
  exact ⟨e, h.br _ (List.mem_of_getElem? e)⟩
theorem up_in {o : Own} (h : OwnOk o) {v : List Int} {k : Nat} {r0 : List Int} (hk : k < o.names.length) (hv : v.length = o.names.length) (hr : r0.length = o.names.length) {s4 : Sl} (n4 : NoIo s4) {P : Out → Prop}
    (hP : ∀ s4, NoIo s4 → P (.nx [.im o.d, .im (iD v), .ow (iT (((o.bricks.getD k []).map fun i => (i, v.getD k 0)).foldl addTo r0)), .im (.int k), s4])) :
    Tru (mFor (mIL (mX (xBin ixD (xBin ixD (xR 0) (xC (.int 2))) (xR 3)))) (gN 4) (mSetI (pV 2) (xR 4) (mIm (mX (xBin addI (xPR (pIx (pV 2) (xR 4))) (xBin ixD (xR 1) (xR 3)))))) [.im o.d, .im (iD v), .ow (iT r0), .im (.int k), s4]) P := by
  obtain ⟨hb, hbl, hbi⟩ := brick_at h hk
  have ik : ixN o.bricks.length (k : Int) = some k := ix_nat (by rw [h.bl]; exact hk)
  generalize o.bricks.getD k [] = b at hb hbl hbi hP
  simp [ik, hb]
  refine for0 (e := fun (n : Nat) => D.int n) (fun pre δ => ∃ s4, NoIo s4 ∧ δ = [.im o.d, .im (iD v), .ow (iT ((pre.map fun i => (i, v.getD k 0)).foldl addTo r0)), .im (.int k), s4]) b ⟨s4, n4, rfl⟩ (fun δ q => ?_) fun pre x post δ e q => ?_
  · obtain ⟨s4, n4, rfl⟩ := q
    exact hP s4 n4
  · obtain ⟨s4, n4, rfl⟩ := q
    have hx := hbi x (by rw [← e]; simp)
    have hrl : ((pre.map fun i => (i, v.getD k 0)).foldl addTo r0).length = o.names.length := by rw [sums_len, hr]
    refine ⟨[.im o.d, .im (iD v), .ow (iT ((pre.map fun i => (i, v.getD k 0)).foldl addTo r0)), .im (.int k), .im (.int x)], ?_, ?_⟩
    · rcases n4 with rfl | ⟨d, rfl⟩ <;> simp
    · simp only [List.map_append, List.foldl_append, List.map_cons, List.map_nil, List.foldl_cons, List.foldl_nil]
      generalize (pre.map fun i => (i, v.getD k 0)).foldl addTo r0 = r at hrl
      have i1 : ixN r.length (x : Int) = some x := ix_nat (by omega)
      have i2 : ixN v.length (k : Int) = some k := ix_nat (by omega)
      have g1 : r[x]? = some (r.getD x 0) := by rw [List.getD_eq_getElem?_getD, List.getElem?_eq_getElem (by omega)]; rfl
      have g2 : v[k]? = some (v.getD k 0) := by rw [List.getD_eq_getElem?_getD, List.getElem?_eq_getElem (by omega)]; rfl
      refine ⟨.nx [.im o.d, .im (iD v), .ow (iT (addTo r (x, v.getD k 0))), .im (.int k), .im (.int x)], ?_, _, NoIo.im, rfl⟩
      unfold addTo
      generalize v.getD k 0 = b at g2
      simp only
      generalize r.getD x 0 = a at g1
      simp [i1, i2, g1, g2]
theorem up_eq {o : Own} (h : OwnOk o) {v : List Int} (hv : v.length = o.names.length) : f__law_up K [.d o.d, .d (iD v)] = .ok (iT (upN o v), [.d o.d, .d (iD v)]) := by
  have hz := h.len
  have hlc := lc_map (i := 3) (m := mIm (mX (xC (.int 0)))) (e := fun (n : Nat) => D.int n) (fun _ => Tr.d (.int 0)) (δ := [.im o.d, .im (iD v), .un, .un, .un]) (xs := List.range v.length) (by simp; unfold sizeLine; omega) rfl fun x hx => by simp
  have hrep : (List.range v.length).map (fun _ => Tr.d (.int 0)) = (List.replicate v.length (0 : Int)).map fun (n : Int) => .d (.int n) := by
    rw [List.map_replicate]
    refine List.ext_getElem? fun k => ?_
    rw [List.getElem?_map]
    by_cases hk : k < v.length
    · rw [List.getElem?_range hk, List.getElem?_replicate, if_pos hk]; rfl
    · rw [List.getElem?_eq_none (by simpa using hk), List.getElem?_replicate, if_neg hk]; rfl
  have hfor : Tru (forD (gN 3) (mFor (mIL (mX (xBin ixD (xBin ixD (xR 0) (xC (.int 2))) (xR 3)))) (gN 4) (mSetI (pV 2) (xR 4) (mIm (mX (xBin addI (xPR (pIx (pV 2) (xR 4))) (xBin ixD (xR 1) (xR 3))))))) ((List.range v.length).map fun (n : Nat) => .int n) [.im o.d, .im (iD v), .ow (.o .l ((List.range v.length).map fun _ => .d (.int 0))), .un, .un])
      fun o' => ∃ s3 s4, o' = .nx [.im o.d, .im (iD v), .ow (iT (upN o v)), s3, s4] := by
    refine for0 (e := fun (n : Nat) => D.int n) (fun pre δ => ∃ s3 s4, NoIo s3 ∧ NoIo s4 ∧ δ = [.im o.d, .im (iD v), .ow (iT ((pre.flatMap fun k => (o.bricks.getD k []).map fun i => (i, v.getD k 0)).foldl addTo (List.replicate v.length 0))), s3, s4]) (List.range v.length) ⟨.un, .un, NoIo.un, NoIo.un, by rw [hrep]; rfl⟩ (fun δ q => ?_) fun pre x post δ e q => ?_
    · obtain ⟨s3, s4, _, _, rfl⟩ := q
      refine ⟨s3, s4, ?_⟩
      unfold upN upP
      rw [hv]
    · obtain ⟨s3, s4, n3, n4, rfl⟩ := q
      have hx : x < v.length := by
        have : x ∈ List.range v.length := by rw [← e]; simp
        simpa using this
      refine ⟨[.im o.d, .im (iD v), .ow (iT ((pre.flatMap fun k => (o.bricks.getD k []).map fun i => (i, v.getD k 0)).foldl addTo (List.replicate v.length 0))), .im (.int x), s4], ?_, ?_⟩
      · rcases n3 with rfl | ⟨d, rfl⟩ <;> simp
      · refine up_in h (by omega) hv (by rw [sums_len]; simp [hv]) n4 fun s4' n4' => ?_
        refine ⟨.im (.int x), s4', NoIo.im, n4', ?_⟩
        rw [List.flatMap_append, List.foldl_append]
        simp
  obtain ⟨o', e1, s3, s4, rfl⟩ := hfor
  unfold f__law_up
  rw [if_pos (show [Tr.d o.d, Tr.d (iD v)].length = 2 from rfl)]
  unfold runF m__law_up
  simp [e_seq, show v.length ≤ 1000000 by omega]
  rw [hlc]
  simp [show v.length ≤ 1000000 by omega]
  rw [e1]
  simp
end G8
/-! P19: the law's counts are the rule's. -/
namespace G8
open PySem L2 GX TL
variable {K : PySem.W.Frag}
theorem numO_nm {o : Own} (h : OwnOk o) {i : Nat} (hi : i < o.names.length) : numO o.names (o.nm i) = i := by
  obtain ⟨a, b⟩ := nm_mem hi
  obtain ⟨c, d, e⟩ := kAt_mem a
  exact (List.getElem?_inj e h.nd).mp (by rw [d, b])
theorem flatMap_congr {α β : Type} {f g : α → List β} : ∀ {xs : List α}, (∀ x ∈ xs, f x = g x) → xs.flatMap f = xs.flatMap g
  | [], _ => rfl
  | x :: xs, h => by rw [List.flatMap_cons, List.flatMap_cons, h x List.mem_cons_self, flatMap_congr fun y hy => h y (List.mem_cons_of_mem _ hy)]
theorem col_eq {o : Own} (h : OwnOk o) {a : Nat} (ha : a < o.ss.prod) : colN o.rows a = (List.range o.names.length).map fun k => (o.bricks.getD k []).getD a 0 := by
  refine List.ext_getElem? fun k => ?_
  unfold colN
  rw [List.getElem?_map, List.getElem?_map]
  by_cases hk : k < o.names.length
  · obtain ⟨b, hb, hbm, hrow, hrm⟩ := Own.row_at h hk
    obtain ⟨hl, hi⟩ := h.br b hbm
    obtain ⟨q1, _⟩ := sides_prod h.sd
    rw [hrow, List.getElem?_range hk, Own.lsR h]
    simp only [Option.map_some]
    rw [chunks_flat (by rw [List.length_map, hl, q1]), List.getD_eq_getElem?_getD (l := o.bricks), hb, Option.getD_some]
    have ha' : a < b.length := by omega
    have e1 : (b.map o.nm).getD a "" = o.nm b[a] := by
      rw [List.getD_eq_getElem?_getD, List.getElem?_map, List.getElem?_eq_getElem ha']; rfl
    have e2 : b.getD a 0 = b[a] := by rw [List.getD_eq_getElem?_getD, List.getElem?_eq_getElem ha']; rfl
    rw [e1, e2, numO_nm h (hi _ (List.getElem_mem _))]
  · rw [List.getElem?_eq_none (by rw [Own.rows_len h]; omega), List.getElem?_eq_none (by simpa using hk)]
    rfl
abbrev colsO (o : Own) : List (List Nat) := (List.range o.ss.prod).map (colN o.rows)
theorem col_lt {o : Own} (h : OwnOk o) : ∀ a < o.ss.prod, ∀ x ∈ colN o.rows a, x < o.rows.length := by
  intro a ha x hx
  rw [col_eq h ha] at hx
  obtain ⟨k, hk, rfl⟩ := List.mem_map.mp hx
  have hk := List.mem_range.mp hk
  obtain ⟨e, hl, hi⟩ := brick_at h hk
  rw [Own.rows_len h]
  refine hi _ ?_
  rw [← hl] at ha
  generalize o.bricks.getD k [] = b at ha
  rw [List.getD_eq_getElem?_getD, List.getElem?_eq_getElem ha]
  exact List.getElem_mem _
theorem zipIdx_range {α β : Type} (f : Nat → α) (g : α → Nat → β) (n : Nat) : ((List.range n).map f).zipIdx.map (fun p => g p.1 p.2) = (List.range n).map fun k => g (f k) k := by
  refine List.ext_getElem? fun k => ?_
  rw [List.getElem?_map, List.getElem?_zipIdx, List.getElem?_map, List.getElem?_map]
  cases h : (List.range n)[k]? with
  | none => rfl
  | some x =>
    obtain ⟨q1, q2⟩ := List.getElem?_eq_some_iff.mp h
    rw [List.getElem_range] at q2
    subst q2
    simp
theorem list_range {b : List Nat} : b = (List.range b.length).map fun a => b.getD a 0 := by
  refine List.ext_getElem? fun k => ?_
  rw [List.getElem?_map]
  by_cases hk : k < b.length
  · rw [List.getElem?_range hk, List.getElem?_eq_getElem hk, Option.map_some, List.getD_eq_getElem?_getD, List.getElem?_eq_getElem hk]; rfl
  · rw [List.getElem?_eq_none (by omega), List.getElem?_eq_none (by simpa using hk)]; rfl
theorem up_counted {o : Own} (h : OwnOk o) (v : List Int) : upN o v = countedN (colsO o) v := by
  unfold upN countedN
  refine (sums_perm ?_ _)
  have e1 : upP o v = (List.range o.names.length).flatMap fun k => (List.range o.ss.prod).map fun a => ((o.bricks.getD k []).getD a 0, v.getD k 0) := by
    unfold upP
    refine flatMap_congr fun k hk => ?_
    obtain ⟨e, hl, hi⟩ := brick_at h (List.mem_range.mp hk)
    generalize o.bricks.getD k [] = b at hl
    conv => lhs; rw [list_range (b := b)]
    rw [List.map_map, hl]
    rfl
  have e2 : (colsO o).flatMap (colP v) = (List.range o.ss.prod).flatMap fun a => (List.range o.names.length).map fun k => ((o.bricks.getD k []).getD a 0, v.getD k 0) := by
    unfold colsO
    rw [List.flatMap_map]
    refine flatMap_congr fun a ha => ?_
    rw [col_eq h (List.mem_range.mp ha)]
    unfold colP
    exact zipIdx_range (fun k => (o.bricks.getD k []).getD a 0) (fun x k => (x, v.getD k 0)) _
  rw [e1, e2]
  exact (swap_perm (fun a k => ((o.bricks.getD k []).getD a 0, v.getD k 0)) (List.range o.names.length) (List.range o.ss.prod)).symm
def upIt (o : Own) (k : Nat) : Nat → List Int
  | 0 => unitN o.names.length k
  | h + 1 => upN o (upIt o k h)
theorem upIt_len {o : Own} (k : Nat) : ∀ h, (upIt o k h).length = o.names.length
  | 0 => by simp [upIt, unitN]
  | h + 1 => by rw [upIt, upN, sums_len, List.length_replicate, upIt_len k h]
theorem upIt_count {o : Own} (ho : OwnOk o) (k : Nat) : ∀ h, upIt o k h = countN (colsO o) o.names.length k h
  | 0 => rfl
  | h + 1 => by rw [upIt, countN, upIt_count ho k h, up_counted ho]
theorem sum_addTo : ∀ {r : List Int} {p : Nat × Int}, p.1 < r.length → (addTo r p).sum = r.sum + p.2
  | [], p, h => by simp at h
  | a :: r, (0, x), _ => by
    simp [addTo]
    omega
  | a :: r, (n + 1, x), h => by
    have h' : n < r.length := by simpa using h
    have := sum_addTo (r := r) (p := (n, x)) h'
    unfold addTo at this ⊢
    simp only [List.getD_cons_succ, List.set_cons_succ, List.sum_cons]
    rw [this]
    omega
theorem sum_sums : ∀ (ps : List (Nat × Int)) (r : List Int), (∀ p ∈ ps, p.1 < r.length) → (ps.foldl addTo r).sum = r.sum + (ps.map (·.2)).sum
  | [], r, _ => by simp
  | p :: ps, r, h => by
    rw [List.foldl_cons, sum_sums ps (addTo r p) fun q hq => by rw [addTo_len]; exact h q (List.mem_cons_of_mem _ hq), sum_addTo (h p List.mem_cons_self)]
    simp
    omega
theorem sum_rep0 : ∀ n : Nat, (List.replicate n (0 : Int)).sum = 0
  | 0 => rfl
  | n + 1 => by rw [List.replicate_succ, List.sum_cons, sum_rep0 n]; rfl
theorem sum_constI {α : Type} {a : Int} : ∀ xs : List α, (xs.map fun _ => a).sum = xs.length * a
  | [] => by simp
  | x :: xs => by simp [sum_constI xs, Int.add_mul]; omega
theorem sum_flat {α : Type} {f : α → List Int} {P : Int} {g : α → Int} : ∀ xs : List α, (∀ x ∈ xs, (f x).sum = P * g x) → (xs.flatMap f).sum = P * (xs.map g).sum
  | [], _ => by simp
  | x :: xs, h => by
    rw [List.flatMap_cons, List.sum_append, h x List.mem_cons_self, sum_flat xs fun y hy => h y (List.mem_cons_of_mem _ hy), List.map_cons, List.sum_cons, Int.mul_add]
theorem map_getD {v : List Int} : (List.range v.length).map (fun k => v.getD k 0) = v := by
  refine List.ext_getElem? fun k => ?_
  rw [List.getElem?_map]
  by_cases hk : k < v.length
  · rw [List.getElem?_range hk, List.getElem?_eq_getElem hk, Option.map_some, List.getD_eq_getElem?_getD, List.getElem?_eq_getElem hk]; rfl
  · rw [List.getElem?_eq_none (by simpa using hk), List.getElem?_eq_none (by omega)]; rfl
theorem sum_up {o : Own} (ho : OwnOk o) {v : List Int} (hv : v.length = o.names.length) : (upN o v).sum = (o.ss.prod : Int) * v.sum := by
  unfold upN
  rw [sum_sums, sum_rep0, Int.zero_add]
  · unfold upP
    rw [List.map_flatMap, sum_flat (P := (o.ss.prod : Int)) (g := fun k => v.getD k 0), ← hv, map_getD]
    intro k hk
    obtain ⟨e, hl, hi⟩ := brick_at ho (List.mem_range.mp hk)
    rw [List.map_map]
    have : ((fun (p : Nat × Int) => p.2) ∘ fun i => (i, v.getD k 0)) = fun (_ : Nat) => v.getD k 0 := rfl
    rw [this, sum_constI, hl]
  · intro p hp
    unfold upP at hp
    obtain ⟨k, hk, hp⟩ := List.mem_flatMap.mp hp
    obtain ⟨i, hi, rfl⟩ := List.mem_map.mp hp
    obtain ⟨e, hl, hi'⟩ := brick_at ho (List.mem_range.mp hk)
    rw [List.length_replicate, hv]
    exact hi' i hi
theorem sum_unit : ∀ {n k : Nat}, k < n → (unitN n k).sum = 1
  | 0, k, h => by omega
  | n + 1, 0, _ => by simp [unitN, List.replicate_succ, sum_rep0]
  | n + 1, k + 1, h => by
    have := sum_unit (n := n) (k := k) (by omega)
    unfold unitN at this ⊢
    rw [List.replicate_succ, List.set_cons_succ, List.sum_cons, this]
    rfl
theorem sum_upIt {o : Own} (ho : OwnOk o) {k : Nat} (hk : k < o.names.length) : ∀ h, (upIt o k h).sum = (o.ss.prod : Int) ^ h
  | 0 => by rw [upIt, sum_unit hk]; rfl
  | h + 1 => by rw [upIt, sum_up ho (upIt_len k h), sum_upIt ho hk h, Int.pow_succ, Int.mul_comm]
end G8
/-! P20: what the law tells of counts; likeness. -/
namespace G8
open PySem L2 GX TL
variable {K : PySem.W.Frag}
theorem zip_range {ls : List Str} {v : List Int} (h : v.length = ls.length) : (List.range v.length).map (fun j => ((ls.getD j "", v.getD j 0) : Str × Int)) = ls.zip v := by
  refine List.ext_getElem? fun k => ?_
  rw [List.getElem?_map]
  by_cases hk : k < v.length
  · have e1 : ls[k]? = some (ls.getD k "") := by rw [List.getD_eq_getElem?_getD, List.getElem?_eq_getElem (by omega)]; rfl
    have e2 : v[k]? = some (v.getD k 0) := by rw [List.getD_eq_getElem?_getD, List.getElem?_eq_getElem hk]; rfl
    rw [List.getElem?_range hk, (List.getElem?_zip_eq_some (z := (ls.getD k "", v.getD k 0))).mpr ⟨e1, e2⟩]
    rfl
  · rw [List.getElem?_eq_none (by simpa using hk), List.getElem?_eq_none (by simp; omega)]; rfl
theorem law_counted_eq {o : Own} (ho : OwnOk o) {k h : Nat} (hk : k < o.names.length) (hh : h ≤ 1000) : f__law_counted K [.d o.d, .d (.int k), .d (.int h)] = .ok (.d (pairD o.names (upIt o k h)), [.d o.d, .d (.int k), .d (.int h)]) := by
  have hz := ho.len
  have hlc := lc_map (i := 5) (m := (mIm (mX (xCB intD (xsC (xBin eqD (xR 5) (xR 1)) xsN))))) (e := fun (n : Nat) => D.int n) (fun j => Tr.d (.int (if j = k then 1 else 0))) (δ := [.im o.d, .im (.int k), .im (.int h), .un, .un, .un]) (xs := List.range o.names.length) (by simp; unfold sizeLine; omega) rfl fun j hj => by
    by_cases q : j = k
    · simp [q]
    · have q2 : ¬ (j : Int) = (k : Int) := by omega
      simp [q, q2]
  have hun : (List.range o.names.length).map (fun j => Tr.d (.int (if j = k then 1 else 0))) = (unitN o.names.length k).map fun (n : Int) => .d (.int n) := by
    refine List.ext_getElem? fun j => ?_
    unfold unitN
    rw [List.getElem?_map, List.getElem?_map, List.getElem?_set]
    by_cases hj : j < o.names.length
    · rw [List.getElem?_range hj]
      by_cases q : k = j
      · subst q
        simp [hj]
      · have q' : ¬ j = k := fun e => q e.symm
        simp [q, q', hj]
    · rw [List.getElem?_eq_none (by simpa using hj)]
      by_cases q : k = j
      · omega
      · simp [q, hj]
  have hfor : Tru (forD (gN 4) (mSet 3 (mFz (mCallO (f__law_up K) (mCons (mX (xV 0)) (mCons (mX (xV 3)) mNil))))) ((List.range h).map fun (n : Nat) => .int n) [.im o.d, .im (.int k), .im (.int h), .im (iD (unitN o.names.length k)), .un, .un])
      fun o' => ∃ s4, o' = .nx [.im o.d, .im (.int k), .im (.int h), .im (iD (upIt o k h)), s4, .un] := by
    refine for0 (e := fun (n : Nat) => D.int n) (fun pre δ => ∃ s4, NoIo s4 ∧ δ = [.im o.d, .im (.int k), .im (.int h), .im (iD (upIt o k pre.length)), s4, .un]) (List.range h) ⟨.un, NoIo.un, rfl⟩ (fun δ q => ?_) fun pre x post δ e q => ?_
    · obtain ⟨s4, _, rfl⟩ := q
      exact ⟨s4, by rw [List.length_range]⟩
    · obtain ⟨s4, n4, rfl⟩ := q
      have hu := up_eq (K := K) ho (upIt_len (o := o) k pre.length)
      refine ⟨[.im o.d, .im (.int k), .im (.int h), .im (iD (upIt o k pre.length)), .im (.int x), .un], ?_, ?_⟩
      · rcases n4 with rfl | ⟨d, rfl⟩ <;> simp
      · refine ⟨.nx [.im o.d, .im (.int k), .im (.int h), .im (iD (upIt o k (pre ++ [x]).length)), .im (.int x), .un], ?_, _, NoIo.im, rfl⟩
        rw [List.length_append, List.length_singleton, upIt]
        generalize upIt o k pre.length = v at hu
        generalize upN o v = w at hu
        simp only [iD] at hu ⊢
        simp [hu]
  obtain ⟨o', e1, s4, rfl⟩ := hfor
  have hvl := upIt_len (o := o) k h
  have hlc2 := lc_map (i := 5) (m := (mIm (mX (xTup (xsC (xBin ixD (xBin ixD (xR 0) (xC (.int 1))) (xR 5)) (xsC (xBin ixD (xR 3) (xR 5)) xsN)))))) (e := fun (n : Nat) => D.int n) (fun j => Tr.d (.tup [.str (o.names.getD j ""), .int ((upIt o k h).getD j 0)])) (δ := [.im o.d, .im (.int k), .im (.int h), .im (iD (upIt o k h)), s4, .un]) (xs := List.range (upIt o k h).length) (by simp; unfold sizeLine; omega) rfl fun j hj => by
    have hj := List.mem_range.mp hj
    generalize upIt o k h = v at hvl hj
    have i1 : ixN o.names.length (j : Int) = some j := ix_nat (by omega)
    have i2 : ixN v.length (j : Int) = some j := ix_nat (by omega)
    have g1 : o.names[j]? = some (o.names.getD j "") := by rw [List.getD_eq_getElem?_getD, List.getElem?_eq_getElem (by omega)]; rfl
    have g2 : v[j]? = some (v.getD j 0) := by rw [List.getD_eq_getElem?_getD, List.getElem?_eq_getElem (by omega)]; rfl
    generalize o.names.getD j "" = a at g1
    generalize v.getD j 0 = b at g2
    simp [i1, i2, g1, g2]
  have hzr := congrArg (List.map fun (p : Str × Int) => Tr.d (.tup [.str p.1, .int p.2])) (zip_range (ls := o.names) hvl)
  rw [List.map_map] at hzr
  generalize upIt o k h = v at e1 hvl hlc2 hzr ⊢
  have hlc2 := hlc2.trans (by rw [show (List.map (fun j => Tr.d (.tup [.str (o.names.getD j ""), .int (v.getD j 0)])) (List.range v.length)) = _ from hzr])
  unfold f__law_counted
  rw [if_pos (show [Tr.d o.d, Tr.d (.int k), Tr.d (.int h)].length = 3 from rfl)]
  unfold runF m__law_counted
  simp [e_seq, show o.names.length ≤ 1000000 by omega]
  rw [hlc, hun]
  simp [show h ≤ 1000000 by omega]
  rw [e1]
  simp [show v.length ≤ 1000000 by omega]
  rw [hlc2]
  simp
theorem mulI_small {a : Int} {b : Nat} (h : b ≤ 1000) : mulI (.int a) (.int b) = some (.int (a * b)) := by
  rw [e_mul, if_pos (.inr ⟨by omega, by omega⟩)]
theorem law_area_eq {o : Own} (ho : OwnOk o) {h : Nat} (hh : h ≤ 1000) : f__law_area K [.d o.d, .d (.int h)] = .ok (.d (.int ((o.ss.prod : Int) ^ h)), [.d o.d, .d (.int h)]) := by
  have hpos := List.length_pos_iff.mpr ho.ne
  have hpr := ho.sd.pr
  obtain ⟨e0, hl0, _⟩ := brick_at ho hpos
  have i0 : ixN o.bricks.length 0 = some 0 := ix_lit (by decide) (by rw [ho.bl]; omega)
  have hm := fun (a : Int) => mulI_small (a := a) (b := o.ss.prod) (by omega)
  have hfor := for_eq (e := fun (n : Nat) => D.int n) (g := gN 3) (b := (mSet 2 (mX (xBin mulI (xR 2) (xCB lenD (xsC (xBin ixD (xBin ixD (xR 0) (xC (.int 2))) (xC (.int 0))) xsN))))))
    (fun pre => [.im o.d, .im (.int h), .im (.int ((o.ss.prod : Int) ^ pre.length)), lastS (fun (n : Nat) => D.int n) pre]) (List.range h) fun pre x post e => by
      refine ⟨[.im o.d, .im (.int h), .im (.int ((o.ss.prod : Int) ^ pre.length)), .im (.int x)], ?_, ?_⟩
      · rcases last_cases (fun (n : Nat) => D.int n) pre with q | ⟨d, q⟩ <;> simp [q]
      · rw [last_app, List.length_append, List.length_singleton, Int.pow_succ]
        generalize (o.ss.prod : Int) ^ pre.length = a
        generalize o.bricks.getD 0 [] = b at e0 hl0
        simp [i0, e0, hl0, hm]
  simp at hfor
  simp [f__law_area, runF, m__law_area, e_seq, show h ≤ 1000000 by omega]
  rw [hfor]
  simp
end G8
/-! P21: likeness. -/
namespace G8
open PySem L2 GX TL
variable {K : PySem.W.Frag}
theorem like0_str {s : Str} : f__law_like_0 K [.d (.str s), .d (.str s)] = .ok (.d (.bl true), [.d (.str s), .d (.str s)]) := by
  simp [f__law_like_0, runF, m__law_like_0, e_seq, isD, tyn, isT]
theorem like0_int {i : Int} : f__law_like_0 K [.d (.int i), .d (.int i)] = .ok (.d (.bl true), [.d (.int i), .d (.int i)]) := by
  simp [f__law_like_0, runF, m__law_like_0, e_seq, isD, tyn, isT]
theorem like2_str {s : Str} : f__law_like_2 K [.d (.str s), .d (.str s)] = .ok (.d (.bl true), [.d (.str s), .d (.str s)]) := by
  simp [f__law_like_2, runF, m__law_like_2, e_seq, isD, tyn, isT]
abbrev pD (p : Str × Int) : D := .tup [.str p.1, .int p.2]
theorem like1_pair {p : Str × Int} : f__law_like_1 K [.d (pD p), .d (pD p)] = .ok (.d (.bl true), [.d (pD p), .d (pD p)]) := by
  have hr : ∀ δ, rng1 ([.im (.int 2)], δ) = .ok ((List.range 2).map fun (k : Nat) => D.int (k : Int), δ) := fun δ => rng1_lit rfl (by decide)
  have hr2 : (List.range 2).map (fun (k : Nat) => D.int (k : Int)) = [.int 0, .int 1] := rfl
  have i0 : ixN 2 0 = some 0 := rfl
  have i1 : ixN 2 1 = some 1 := rfl
  simp [f__law_like_1, runF, m__law_like_1, e_seq, isD, tyn, isT, hr, hr2, forD, i1, like0_str, like0_int]
abbrev pL (L : List (Str × Int)) : D := .lst (L.map pD)
theorem like_loop {s0 : Sl} {L : List (Str × Int)} (h0 : xR 0 [s0, .im (pL L), .un] = some (pL L)) (hx : ∀ s2, xR 0 [s0, .im (pL L), s2] = some (pL L)) :
    Tru (forD (gN 2) (mIfS (mNot (mB (mFz (mCallO (f__law_like_1 K) (mCons (mX (xBin ixD (xR 0) (xR 2))) (mCons (mX (xBin ixD (xR 1) (xR 2))) mNil)))))) (mRet (mX (xC (.bl false)))) mNx) ((List.range L.length).map fun (n : Nat) => .int n) [s0, .im (pL L), .un])
      fun o => ∃ s2, o = .nx [s0, .im (pL L), s2] := by
  refine for0 (e := fun (n : Nat) => D.int n) (fun pre δ => ∃ s2, NoIo s2 ∧ δ = [s0, .im (pL L), s2]) (List.range L.length) ⟨.un, NoIo.un, rfl⟩ (fun δ q => ?_) fun pre x post δ e q => ?_
  · obtain ⟨s2, _, rfl⟩ := q
    exact ⟨s2, rfl⟩
  · obtain ⟨s2, n2, rfl⟩ := q
    have hxl : x < L.length := by
      have : x ∈ List.range L.length := by rw [← e]; simp
      simpa using this
    have i1 : ixN L.length (x : Int) = some x := ix_nat hxl
    have g1 : L[x]? = some L[x] := List.getElem?_eq_getElem hxl
    generalize L[x] = p at g1
    have hl := like1_pair (K := K) (p := p)
    refine ⟨[s0, .im (pL L), .im (.int x)], ?_, ?_⟩
    · rcases n2 with rfl | ⟨d, rfl⟩ <;> simp
    · refine ⟨.nx [s0, .im (pL L), .im (.int x)], ?_, _, NoIo.im, rfl⟩
      have h3 := hx (.im (.int x))
      have h4 : xR 2 [s0, .im (pL L), .im (.int x)] = some (.int x) := rfl
      have h5 : xR 1 [s0, .im (pL L), .im (.int x)] = some (pL L) := rfl
      have h6 : ixD (pL L) (.int x) = some (pD p) := by simp [i1, g1]
      generalize hδ : [s0, .im (pL L), .im (.int x)] = δ at h3 h4 h5
      simp only [e_mIfS, e_mNot, e_mB, e_mFz, e_mCallO, e_mCons, e_mX, e_xBin, h3, h4, h5, h6, Option.bind_some, R.ofO_some, R.ok_bind, e_mNil, e_callIn, e_lents1, e_lents0, e_callT1, e_callT0, Option.map_some, List.nodup_nil, if_true, hl, e_retO, e_outS1, e_outS0, e_datD]
      rfl
theorem like2_own {L : List (Str × Int)} (h : L.length ≤ 1000) : f__law_like_2 K [.o .l (L.map fun p => .d (pD p)), .d (pL L)] = .ok (.d (.bl true), [.o .l (L.map fun p => .d (pD p)), .d (pL L)]) := by
  have hf : flats (L.map fun p => Tr.d (pD p)) = some (L.map pD) := flats_dM L
  obtain ⟨o, e1, s2, rfl⟩ := like_loop (K := K) (s0 := .io (.o .l (L.map fun p => .d (pD p)))) (L := L) (by simp [hf]) (fun s2 => by simp [hf])
  simp [f__law_like_2, runF, m__law_like_2, e_seq, isD, tyn, isT, hf, show L.length ≤ 1000000 by omega]
  rw [e1]
  simp
theorem like2_dat {L : List (Str × Int)} (h : L.length ≤ 1000) : f__law_like_2 K [.d (pL L), .d (pL L)] = .ok (.d (.bl true), [.d (pL L), .d (pL L)]) := by
  obtain ⟨o, e1, s2, rfl⟩ := like_loop (K := K) (s0 := .im (pL L)) (L := L) (by simp) (fun s2 => by simp)
  simp [f__law_like_2, runF, m__law_like_2, e_seq, isD, tyn, isT, show L.length ≤ 1000000 by omega]
  rw [e1]
  simp
end G8
/-! P22: the law's turns. -/
namespace G8
open PySem L2 GX TL
variable {K : PySem.W.Frag}
@[simp] theorem e_mIfO {c : MT} {m n : MO} {δ : List Sl} : mIfO c m n δ = (c δ >>= fun p => if p.1 = true then m p.2 else n p.2) := (rfl)
@[simp] theorem e_mPerm {g : List Vl → List Vl} {m : MA} {δ : List Sl} : mPerm g m δ = (m δ >>= fun p => .ok (g p.1, p.2)) := (rfl)
@[simp] theorem e_k3 {α : Type} {x y z : α} : k3 [] [z, x, y] = [x, y, z] := (rfl)
@[simp] theorem e_mLcOwn {i : Nat} {vs : List Nat} {g : MG} {t : MT} {m : MO} {δ : List Sl} : mLcOwn i vs g t m δ = match δ[i]? with
  | some s => (match s.own with
    | some (.o .l ts) => R.ofO (flats ts) >>= fun ds => (lcD vs g t m ds [] (wipeS (δ.set i .un) vs)).ne >>= fun r => (match r.2[i]? with
      | some .un => .ok (r.1, r.2.set i s)
      | _ => .bad)
    | _ => .bad)
  | none => .bad := (rfl)
def lawL (o : Own) (k h : Nat) : List (Str × Int) := o.names.zip (upIt o k h)
theorem lawL_len {o : Own} (k h : Nat) : (lawL o k h).length = o.names.length := by
  unfold lawL
  rw [List.length_zip, upIt_len, Nat.min_self]
theorem lawL_snd {o : Own} (k h : Nat) : (lawL o k h).map (·.2) = upIt o k h := by
  unfold lawL
  exact List.map_snd_zip (by rw [upIt_len]; exact Nat.le_refl _)
theorem count_law {o : Own} (ho : OwnOk o) {k h : Nat} (hk : k < o.names.length) (hh : h ≤ 200) : f_count K [.d (ruleD K o.ss o.rows), .d (.str (o.nm k)), .d (.int h)] = .ok (.o .l ((lawL o k h).map fun p => .d (pD p)), [.d (ruleD K o.ss o.rows), .d (.str (o.nm k)), .d (.int h)]) := by
  have hls := Own.lsR ho
  have hrl := Own.rows_len ho
  have hpr := ho.sd.pr
  have hln := ho.len
  obtain ⟨n1, n2⟩ := nm_mem hk
  obtain ⟨r, e, h1, h2⟩ := count_eq (K := K) (ss := o.ss) (rows := o.rows) (s := o.nm k) (h := h) (by rw [hls]; exact n1) (by omega) hpr (col_lt ho) hh
  obtain ⟨r1, r2⟩ := r
  simp only at h1 h2
  subst h1 h2
  rw [e, hls, hrl, numO_nm ho hk, ← upIt_count ho k h]
  unfold lawL
  rw [e_lsT, List.map_map]
  rfl
theorem counted_law {o : Own} (ho : OwnOk o) {k h : Nat} (hk : k < o.names.length) (hh : h ≤ 1000) : f__law_counted K [.d o.d, .d (.int k), .d (.int h)] = .ok (.d (pL (lawL o k h)), [.d o.d, .d (.int k), .d (.int h)]) := law_counted_eq ho hk hh
abbrev fr (K : PySem.W.Frag) (ns : List Int) (us : List Tr) (o : Own) (s4 s5 s6 s7 s8 s9 : Sl) : List Sl := [.im (.scr ns), .ow (.o .l us), .im o.d, .im (ruleD K o.ss o.rows), s4, s5, s6, s7, s8, s9, .un, .un]
def NotIo (s : Sl) : Prop := s = .un ∨ (∃ d, s = .im d) ∨ ∃ t, s = .ow t
section
variable {ns : List Int} {us : List Tr} {o : Own} {s4 s5 s6 s7 s8 s9 : Sl}
theorem law_a (ho : OwnOk o) (hb : Bag us) (n5 : NoIo s5) : ∃ (k : Nat) (us' : List Tr), k < o.names.length ∧ Bag us' ∧ mSet 5 (mFz (mCallO (f__law_draw K) (mCons (mV 1) (mCons (mX (xCB lenD (xsC (xBin ixD (xR 2) (xC (.int 1))) xsN))) mNil)))) (fr K ns us o s4 s5 s6 s7 s8 s9) = .ok (.nx (fr K ns us' o s4 (.im (.int k)) s6 s7 s8 s9)) := by
  have hl := ho.len
  have hp := List.length_pos_iff.mpr ho.ne
  obtain ⟨d, us', e, hd, hb'⟩ := draw_ok (K := K) (o.names.length : Int) hb (by omega) (by omega)
  refine ⟨d, us', by omega, hb', ?_⟩
  rcases n5 with rfl | ⟨x, rfl⟩ <;> simp [e]
theorem law_b {k : Nat} (hk : k < o.names.length) (n6 : NoIo s6) : mSet 6 (mX (xBin ixD (xBin ixD (xR 2) (xC (.int 1))) (xR 5))) (fr K ns us o s4 (.im (.int k)) s6 s7 s8 s9) = .ok (.nx (fr K ns us o s4 (.im (.int k)) (.im (.str (o.nm k))) s7 s8 s9)) := by
  have := (nm_mem hk).2
  rcases n6 with rfl | ⟨x, rfl⟩ <;> simp [ix_nat hk, this]
theorem law_c (ho : OwnOk o) {k h : Nat} (hk : k < o.names.length) (hh : h ≤ 200) (n7 : NoIo s7) : mSet 7 (mFz (mCallO (f__law_counted K) (mCons (mX (xV 2)) (mCons (mX (xV 5)) (mCons (mX (xV 4)) mNil))))) (fr K ns us o (.im (.int h)) (.im (.int k)) s6 s7 s8 s9) = .ok (.nx (fr K ns us o (.im (.int h)) (.im (.int k)) s6 (.im (pL (lawL o k h))) s8 s9)) := by
  have := counted_law (K := K) ho hk (h := h) (by omega)
  rcases n7 with rfl | ⟨x, rfl⟩ <;> simp [this]
theorem law_d (ho : OwnOk o) {k h : Nat} (hb : Bag us) (hk : k < o.names.length) (hh : h ≤ 200) (n8 : NotIo s8) : ∃ us' : List Tr, Bag us' ∧ mSetO 8 (mIfO (mB (mBin eqD (mFz (mCallO (f__law_draw K) (mCons (mV 1) (mCons (mX (xC (.int 2))) mNil)))) (mX (xC (.int 0))))) (mCallO (f_count K) (mCons (mX (xV 3)) (mCons (mX (xV 6)) (mCons (mX (xV 4)) mNil)))) (mCallO (f_count K) (mPerm (k3 []) (mCons (mX (xV 4)) (mCons (mX (xV 3)) (mCons (mX (xV 6)) mNil)))))) (fr K ns us o (.im (.int h)) (.im (.int k)) (.im (.str (o.nm k))) s7 s8 s9) =
    .ok (.nx (fr K ns us' o (.im (.int h)) (.im (.int k)) (.im (.str (o.nm k))) s7 (.ow (.o .l ((lawL o k h).map fun p => .d (pD p)))) s9)) := by
  obtain ⟨d, us', e, hd, hb'⟩ := draw_ok (K := K) 2 hb (by decide) (by decide)
  have hc := count_law (K := K) ho hk hh
  refine ⟨us', hb', ?_⟩
  by_cases q : d = 0
  · rcases n8 with rfl | ⟨x, rfl⟩ | ⟨x, rfl⟩ <;> simp [e, q, hc]
  · rcases n8 with rfl | ⟨x, rfl⟩ | ⟨x, rfl⟩ <;> simp [e, q, hc]
theorem law_e (ho : OwnOk o) {k h : Nat} (hk : k < o.names.length) (hh : h ≤ 200) : mIfS (mOr (mNot (mB (mFz (mCallO (f__law_like_2 K) (mCons (mV 8) (mCons (mX (xV 7)) mNil)))))) (mB (mBin neD (mCB sumD (mCons (mFz (mLcOwn 8 [10] (gN 10) mYes (mIm (mX (xBin ixD (xR 10) (xC (.int 1))))))) mNil)) (mFz (mCallO (f__law_area K) (mCons (mX (xV 2)) (mCons (mX (xV 4)) mNil))))))) (mRet (mX (xC (.bl false)))) mNx (fr K ns us o (.im (.int h)) s5 s6 (.im (pL (lawL o k h))) (.ow (.o .l ((lawL o k h).map fun p => .d (pD p)))) s9) =
    .ok (.nx (fr K ns us o (.im (.int h)) s5 s6 (.im (pL (lawL o k h))) (.ow (.o .l ((lawL o k h).map fun p => .d (pD p)))) s9)) := by
  have hln := ho.len
  have hl := like2_own (K := K) (L := lawL o k h) (by rw [lawL_len]; omega)
  have ha := law_area_eq (K := K) ho (h := h) (by omega)
  have hlc := lc_map (i := 10) (m := (mIm (mX (xBin ixD (xR 10) (xC (.int 1)))))) (e := pD) (fun p => Tr.d (.int p.2)) (δ := fr K ns us o (.im (.int h)) s5 s6 (.im (pL (lawL o k h))) .un s9) (xs := lawL o k h) (by rw [lawL_len]; unfold sizeLine; omega) rfl fun p hp => by
    simp [show ixN 2 1 = some 1 from rfl]
  have hs : ((lawL o k h).map fun p => p.2).sum = (o.ss.prod : Int) ^ h := by rw [lawL_snd, sum_upIt ho hk]
  have hsum : sumD [.lst ((lawL o k h).map fun p => .int p.2)] = some (.int ((o.ss.prod : Int) ^ h)) := by
    rw [e_sumL, e_intsM, Option.map_some, hs]
  generalize lawL o k h = L at hl hlc hsum
  have hf : flats (L.map fun p => Tr.d (pD p)) = some (L.map pD) := flats_dM L
  have hlo : mFz (mLcOwn 8 [10] (gN 10) mYes (mIm (mX (xBin ixD (xR 10) (xC (.int 1)))))) (fr K ns us o (.im (.int h)) s5 s6 (.im (pL L)) (.ow (.o .l (L.map fun p => .d (pD p)))) s9) = .ok (.im (.lst (L.map fun p => .int p.2)), fr K ns us o (.im (.int h)) s5 s6 (.im (pL L)) (.ow (.o .l (L.map fun p => .d (pD p)))) s9) := by
    rw [e_mFz, e_mLcOwn]
    have hw : wipeS ((fr K ns us o (.im (.int h)) s5 s6 (.im (pL L)) (.ow (.o .l (L.map fun p => .d (pD p)))) s9).set 8 .un) [10] = fr K ns us o (.im (.int h)) s5 s6 (.im (pL L)) .un s9 := rfl
    rw [hw]
    simp only [show (fr K ns us o (.im (.int h)) s5 s6 (.im (pL L)) (.ow (.o .l (L.map fun p => .d (pD p)))) s9)[8]? = some (.ow (.o .l (L.map fun p => .d (pD p)))) from rfl, e_ownO, hf, R.ofO_some, R.ok_bind, hlc, e_ne]
    simp
  generalize mFz (mLcOwn 8 [10] (gN 10) mYes (mIm (mX (xBin ixD (xR 10) (xC (.int 1)))))) = lo at hlo
  generalize (L.map fun p => D.int p.2) = sl at hlo hsum
  generalize (o.ss.prod : Int) ^ h = A at ha hsum
  simp only [fr, pL] at hlo hl ⊢
  simp [hl, hlo, hsum, ha]
theorem law_f {k h : Nat} (ho : OwnOk o) : mDrop (mApp 8 (mIm (mX (xTup (xsC (xC (.str "z")) (xsC (xC (.int 0)) xsN)))))) (fr K ns us o s4 s5 s6 s7 (.ow (.o .l ((lawL o k h).map fun p => .d (pD p)))) s9) =
    .ok (.nx (fr K ns us o s4 s5 s6 s7 (.ow (.o .l (((lawL o k h).map fun p => .d (pD p)) ++ [.d (.tup [.str "z", .int 0])]))) s9)) := by
  have hln := ho.len
  have hz : (lawL o k h).length < sizeLine := by rw [lawL_len]; unfold sizeLine; omega
  simp [hz]
theorem law_g {k h : Nat} (ho : OwnOk o) : ∃ t, mSetI (pV 8) (xC (.int 0)) (mIm (mX (xTup (xsC (xC (.str "z")) (xsC (xC (.int 0)) xsN))))) (fr K ns us o s4 s5 s6 s7 (.ow (.o .l (((lawL o k h).map fun p => .d (pD p)) ++ [.d (.tup [.str "z", .int 0])]))) s9) =
    .ok (.nx (fr K ns us o s4 s5 s6 s7 (.ow t) s9)) := by
  refine ⟨.o .l ((((lawL o k h).map fun p => Tr.d (pD p)) ++ [Tr.d (.tup [.str "z", .int 0])]).set 0 (.d (.tup [.str "z", .int 0]))), ?_⟩
  simp
theorem law_h (ho : OwnOk o) {k h : Nat} (hk : k < o.names.length) (hh : h ≤ 200) : mIfS (mNot (mB (mFz (mCallO (f__law_like_2 K) (mCons (mFz (mCallO (f_count K) (mCons (mX (xV 3)) (mCons (mX (xV 6)) (mCons (mX (xV 4)) mNil))))) (mCons (mX (xV 7)) mNil)))))) (mRet (mX (xC (.bl false)))) mNx (fr K ns us o (.im (.int h)) s5 (.im (.str (o.nm k))) (.im (pL (lawL o k h))) s8 s9) =
    .ok (.nx (fr K ns us o (.im (.int h)) s5 (.im (.str (o.nm k))) (.im (pL (lawL o k h))) s8 s9)) := by
  have hln := ho.len
  have hl := like2_dat (K := K) (L := lawL o k h) (by rw [lawL_len]; omega)
  have hc := count_law (K := K) ho hk hh
  generalize lawL o k h = L at hl hc
  simp only [fr, pL] at hl ⊢
  simp [hc, hl, Function.comp_def]
theorem law_i (ho : OwnOk o) {k h : Nat} (hk : k < o.names.length) (hh : h ≤ 200) (n9 : NoIo s9) : ∃ s9', NoIo s9' ∧ mIfS (mB (mBin (cmpI (fun i j => decide (i < j))) (mX (xV 4)) (mX (xC (.int 200))))) (mSeq (mSet 9 (mFz (mCallO (f__law_up K) (mCons (mX (xV 2)) (mCons (mFz (mLc [10] (mIL (mX (xV 7))) (gN 10) mYes (mIm (mX (xBin ixD (xR 10) (xC (.int 1))))))) mNil))))) (mIfS (mNot (mB (mFz (mCallO (f__law_like_2 K) (mCons (mFz (mCallO (f_count K) (mCons (mX (xV 3)) (mCons (mX (xV 6)) (mCons (mX (xBin addI (xR 4) (xC (.int 1)))) mNil))))) (mCons (mFz (mLc [11] (mIR1 (mCons (mX (xCB lenD (xsC (xR 9) xsN))) mNil)) (gN 11) mYes (mIm (mX (xTup (xsC (xBin ixD (xBin ixD (xR 2) (xC (.int 1))) (xR 11)) (xsC (xBin ixD (xR 9) (xR 11)) xsN))))))) mNil)))))) (mRet (mX (xC (.bl false)))) mNx)) mNx (fr K ns us o (.im (.int h)) s5 (.im (.str (o.nm k))) (.im (pL (lawL o k h))) s8 s9) =
    .ok (.nx (fr K ns us o (.im (.int h)) s5 (.im (.str (o.nm k))) (.im (pL (lawL o k h))) s8 s9')) := by
  have hln := ho.len
  by_cases hlt : h < 200
  · have hu := up_eq (K := K) ho (upIt_len (o := o) k h)
    have hlc := lc_map (i := 10) (m := (mIm (mX (xBin ixD (xR 10) (xC (.int 1)))))) (e := pD) (fun p => Tr.d (.int p.2)) (δ := fr K ns us o (.im (.int h)) s5 (.im (.str (o.nm k))) (.im (pL (lawL o k h))) s8 s9) (xs := lawL o k h) (by rw [lawL_len]; unfold sizeLine; omega) rfl fun p hp => by
      simp [show ixN 2 1 = some 1 from rfl]
    have hm : (lawL o k h).map (fun p => Tr.d (.int p.2)) = (upIt o k h).map fun (n : Int) => .d (.int n) := by
      rw [← lawL_snd, List.map_map]; rfl
    rw [hm] at hlc
    have hc := count_law (K := K) ho hk (h := h + 1) (by omega)
    have hl := like2_dat (K := K) (L := lawL o k (h + 1)) (by rw [lawL_len]; omega)
    have hvl := upIt_len (o := o) k (h + 1)
    have hlc2 := lc_map (i := 11) (m := (mIm (mX (xTup (xsC (xBin ixD (xBin ixD (xR 2) (xC (.int 1))) (xR 11)) (xsC (xBin ixD (xR 9) (xR 11)) xsN)))))) (e := fun (n : Nat) => D.int n) (fun j => Tr.d (.tup [.str (o.names.getD j ""), .int ((upIt o k (h + 1)).getD j 0)])) (δ := fr K ns us o (.im (.int h)) s5 (.im (.str (o.nm k))) (.im (pL (lawL o k h))) s8 (.im (iD (upIt o k (h + 1))))) (xs := List.range (upIt o k (h + 1)).length) (by simp; unfold sizeLine; omega) rfl fun j hj => by
      have hj := List.mem_range.mp hj
      generalize upIt o k (h + 1) = v at hvl hj
      have i1 : ixN o.names.length (j : Int) = some j := ix_nat (by omega)
      have i2 : ixN v.length (j : Int) = some j := ix_nat (by omega)
      have g1 : o.names[j]? = some (o.names.getD j "") := by rw [List.getD_eq_getElem?_getD, List.getElem?_eq_getElem (by omega)]; rfl
      have g2 : v[j]? = some (v.getD j 0) := by rw [List.getD_eq_getElem?_getD, List.getElem?_eq_getElem (by omega)]; rfl
      generalize o.names.getD j "" = a at g1
      generalize v.getD j 0 = b at g2
      simp [i1, i2, g1, g2]
    have hzr := congrArg (List.map fun (p : Str × Int) => Tr.d (pD p)) (zip_range (ls := o.names) hvl)
    rw [List.map_map] at hzr
    have hlc2 := hlc2.trans (by rw [show (List.map (fun j => Tr.d (.tup [.str (o.names.getD j ""), .int ((upIt o k (h + 1)).getD j 0)])) (List.range (upIt o k (h + 1)).length)) = (lawL o k (h + 1)).map fun p => Tr.d (pD p) from hzr])
    have hun : upN o (upIt o k h) = upIt o k (h + 1) := rfl
    rw [hun] at hu
    generalize lawL o k (h + 1) = L2 at hc hl hlc2
    generalize upIt o k (h + 1) = v2 at hu hvl hlc2
    generalize upIt o k h = v at hu hlc
    generalize lawL o k h = L at hlc hlc2
    refine ⟨.im (iD v2), NoIo.im, ?_⟩
    have h1 : ((h : Int) + 1) = ((h + 1 : Nat) : Int) := by omega
    have hF : mFz (mLc [10] (mIL (mX (xV 7))) (gN 10) mYes (mIm (mX (xBin ixD (xR 10) (xC (.int 1)))))) (fr K ns us o (.im (.int h)) s5 (.im (.str (o.nm k))) (.im (pL L)) s8 s9) = .ok (.im (iD v), fr K ns us o (.im (.int h)) s5 (.im (.str (o.nm k))) (.im (pL L)) s8 s9) := by
      have hw : wipeS (fr K ns us o (.im (.int h)) s5 (.im (.str (o.nm k))) (.im (pL L)) s8 s9) [10] = fr K ns us o (.im (.int h)) s5 (.im (.str (o.nm k))) (.im (pL L)) s8 s9 := rfl
      have hi : mIL (mX (xV 7)) (fr K ns us o (.im (.int h)) s5 (.im (.str (o.nm k))) (.im (pL L)) s8 s9) = .ok (L.map pD, fr K ns us o (.im (.int h)) s5 (.im (.str (o.nm k))) (.im (pL L)) s8 s9) := rfl
      rw [e_mFz, e_mLc, hi]
      simp only [R.ok_bind]
      rw [hw, hlc]
      simp
    have hG : mFz (mLc [11] (mIR1 (mCons (mX (xCB lenD (xsC (xR 9) xsN))) mNil)) (gN 11) mYes (mIm (mX (xTup (xsC (xBin ixD (xBin ixD (xR 2) (xC (.int 1))) (xR 11)) (xsC (xBin ixD (xR 9) (xR 11)) xsN)))))) (fr K ns us o (.im (.int h)) s5 (.im (.str (o.nm k))) (.im (pL L)) s8 (.im (iD v2))) = .ok (.im (pL L2), fr K ns us o (.im (.int h)) s5 (.im (.str (o.nm k))) (.im (pL L)) s8 (.im (iD v2))) := by
      have hw : wipeS (fr K ns us o (.im (.int h)) s5 (.im (.str (o.nm k))) (.im (pL L)) s8 (.im (iD v2))) [11] = fr K ns us o (.im (.int h)) s5 (.im (.str (o.nm k))) (.im (pL L)) s8 (.im (iD v2)) := rfl
      have hi : mIR1 (mCons (mX (xCB lenD (xsC (xR 9) xsN))) mNil) (fr K ns us o (.im (.int h)) s5 (.im (.str (o.nm k))) (.im (pL L)) s8 (.im (iD v2))) = .ok ((List.range v2.length).map fun (n : Nat) => .int n, fr K ns us o (.im (.int h)) s5 (.im (.str (o.nm k))) (.im (pL L)) s8 (.im (iD v2))) := by
        simp [show v2.length ≤ 1000000 by omega]
      rw [e_mFz, e_mLc, hi]
      simp only [R.ok_bind]
      rw [hw, hlc2]
      simp [Function.comp_def]
    generalize mFz (mLc [10] (mIL (mX (xV 7))) (gN 10) mYes (mIm (mX (xBin ixD (xR 10) (xC (.int 1)))))) = FF at hF
    generalize mFz (mLc [11] (mIR1 (mCons (mX (xCB lenD (xsC (xR 9) xsN))) mNil)) (gN 11) mYes (mIm (mX (xTup (xsC (xBin ixD (xBin ixD (xR 2) (xC (.int 1))) (xR 11)) (xsC (xBin ixD (xR 9) (xR 11)) xsN)))))) = GG at hG
    simp only [fr, pL, iD] at hF hG hl hc hu ⊢
    have hlt2 : (h : Int) < 200 := by omega
    rw [← h1] at hc
    rcases n9 with rfl | ⟨x, rfl⟩ <;> simp [hlt2, hF, hu, e_seq, hc, hG, hl, Function.comp_def]
  · refine ⟨s9, n9, ?_⟩
    have hlt2 : ¬ (h : Int) < 200 := by omega
    simp [hlt2]
end
end G8
/-! P23: the law tells true. -/
namespace G8
open PySem L2 GX TL
variable {K : PySem.W.Frag}
section
variable {ns : List Int} {us : List Tr} {o : Own} {s4 s5 s6 s7 s8 s9 : Sl}
theorem law_turn (ho : OwnOk o) (hb : Bag us) {h : Nat} (hh : h ≤ 200) (n5 : NoIo s5) (n6 : NoIo s6) (n7 : NoIo s7) (n8 : NotIo s8) (n9 : NoIo s9) {P : Out → Prop}
    (hP : ∀ us' s5 s6 s7 s8 s9, Bag us' → NoIo s5 → NoIo s6 → NoIo s7 → NotIo s8 → NoIo s9 → P (.nx (fr K ns us' o (.im (.int h)) s5 s6 s7 s8 s9))) :
    Tru (mSeq (mSet 5 (mFz (mCallO (f__law_draw K) (mCons (mV 1) (mCons (mX (xCB lenD (xsC (xBin ixD (xR 2) (xC (.int 1))) xsN))) mNil))))) (mSeq (mSet 6 (mX (xBin ixD (xBin ixD (xR 2) (xC (.int 1))) (xR 5)))) (mSeq (mSet 7 (mFz (mCallO (f__law_counted K) (mCons (mX (xV 2)) (mCons (mX (xV 5)) (mCons (mX (xV 4)) mNil)))))) (mSeq (mSetO 8 (mIfO (mB (mBin eqD (mFz (mCallO (f__law_draw K) (mCons (mV 1) (mCons (mX (xC (.int 2))) mNil)))) (mX (xC (.int 0))))) (mCallO (f_count K) (mCons (mX (xV 3)) (mCons (mX (xV 6)) (mCons (mX (xV 4)) mNil)))) (mCallO (f_count K) (mPerm (k3 []) (mCons (mX (xV 4)) (mCons (mX (xV 3)) (mCons (mX (xV 6)) mNil))))))) (mSeq (mIfS (mOr (mNot (mB (mFz (mCallO (f__law_like_2 K) (mCons (mV 8) (mCons (mX (xV 7)) mNil)))))) (mB (mBin neD (mCB sumD (mCons (mFz (mLcOwn 8 [10] (gN 10) mYes (mIm (mX (xBin ixD (xR 10) (xC (.int 1))))))) mNil)) (mFz (mCallO (f__law_area K) (mCons (mX (xV 2)) (mCons (mX (xV 4)) mNil))))))) (mRet (mX (xC (.bl false)))) mNx) (mSeq (mDrop (mApp 8 (mIm (mX (xTup (xsC (xC (.str "z")) (xsC (xC (.int 0)) xsN))))))) (mSeq (mSetI (pV 8) (xC (.int 0)) (mIm (mX (xTup (xsC (xC (.str "z")) (xsC (xC (.int 0)) xsN)))))) (mSeq (mIfS (mNot (mB (mFz (mCallO (f__law_like_2 K) (mCons (mFz (mCallO (f_count K) (mCons (mX (xV 3)) (mCons (mX (xV 6)) (mCons (mX (xV 4)) mNil))))) (mCons (mX (xV 7)) mNil)))))) (mRet (mX (xC (.bl false)))) mNx) (mIfS (mB (mBin (cmpI (fun i j => decide (i < j))) (mX (xV 4)) (mX (xC (.int 200))))) (mSeq (mSet 9 (mFz (mCallO (f__law_up K) (mCons (mX (xV 2)) (mCons (mFz (mLc [10] (mIL (mX (xV 7))) (gN 10) mYes (mIm (mX (xBin ixD (xR 10) (xC (.int 1))))))) mNil))))) (mIfS (mNot (mB (mFz (mCallO (f__law_like_2 K) (mCons (mFz (mCallO (f_count K) (mCons (mX (xV 3)) (mCons (mX (xV 6)) (mCons (mX (xBin addI (xR 4) (xC (.int 1)))) mNil))))) (mCons (mFz (mLc [11] (mIR1 (mCons (mX (xCB lenD (xsC (xR 9) xsN))) mNil)) (gN 11) mYes (mIm (mX (xTup (xsC (xBin ixD (xBin ixD (xR 2) (xC (.int 1))) (xR 11)) (xsC (xBin ixD (xR 9) (xR 11)) xsN))))))) mNil)))))) (mRet (mX (xC (.bl false)))) mNx)) mNx))))))))
      (fr K ns us o (.im (.int h)) s5 s6 s7 s8 s9)) P := by
  obtain ⟨k, us1, hk, hb1, ea⟩ := law_a (K := K) (ns := ns) (s4 := .im (.int h)) (s6 := s6) (s7 := s7) (s8 := s8) (s9 := s9) ho hb n5
  have eb := law_b (K := K) (ns := ns) (us := us1) (s4 := .im (.int h)) (s7 := s7) (s8 := s8) (s9 := s9) hk n6
  have ec := law_c (K := K) (ns := ns) (us := us1) (s6 := .im (.str (o.nm k))) (s8 := s8) (s9 := s9) ho hk hh n7
  obtain ⟨us2, hb2, ed⟩ := law_d (K := K) (ns := ns) (s7 := .im (pL (lawL o k h))) (s9 := s9) ho hb1 hk hh n8
  have ee := law_e (K := K) (ns := ns) (us := us2) (s5 := .im (.int k)) (s6 := .im (.str (o.nm k))) (s9 := s9) ho hk hh
  have ef := law_f (K := K) (ns := ns) (us := us2) (s4 := .im (.int h)) (s5 := .im (.int k)) (s6 := .im (.str (o.nm k))) (s7 := .im (pL (lawL o k h))) (s9 := s9) (k := k) (h := h) ho
  obtain ⟨t, eg⟩ := law_g (K := K) (ns := ns) (us := us2) (s4 := .im (.int h)) (s5 := .im (.int k)) (s6 := .im (.str (o.nm k))) (s7 := .im (pL (lawL o k h))) (s9 := s9) (k := k) (h := h) ho
  have eh := law_h (K := K) (ns := ns) (us := us2) (s5 := .im (.int k)) (s8 := .ow t) (s9 := s9) ho hk hh
  obtain ⟨s9', n9', ei⟩ := law_i (K := K) (ns := ns) (us := us2) (s5 := .im (.int k)) (s8 := .ow t) ho hk hh n9
  refine ⟨_, ?_, hP us2 (.im (.int k)) (.im (.str (o.nm k))) (.im (pL (lawL o k h))) (.ow t) s9' hb2 NoIo.im NoIo.im NoIo.im (.inr (.inr ⟨t, rfl⟩)) n9'⟩
  rw [e_seqN ea, e_seqN eb, e_seqN ec, e_seqN ed, e_seqN ee, e_seqN ef, e_seqN eg, e_seqN eh]
  exact ei
theorem law_last (ho : OwnOk o) {h : Nat} (hh : h ≤ 200) (n5 : NoIo s5) {P : Out → Prop}
    (hP : ∀ s5, P (.nx (fr K ns us o (.im (.int h)) s5 s6 s7 s8 s9))) :
    Tru (mFor (mIR1 (mCons (mX (xCB lenD (xsC (xBin ixD (xR 2) (xC (.int 1))) xsN))) mNil)) (gN 5) (mIfS (mNot (mB (mFz (mCallO (f__law_like_2 K) (mCons (mFz (mCallO (f_count K) (mCons (mX (xV 3)) (mCons (mX (xBin ixD (xBin ixD (xR 2) (xC (.int 1))) (xR 5))) (mCons (mX (xV 4)) mNil))))) (mCons (mFz (mCallO (f__law_counted K) (mCons (mX (xV 2)) (mCons (mX (xV 5)) (mCons (mX (xV 4)) mNil))))) mNil)))))) (mRet (mX (xC (.bl false)))) mNx) (fr K ns us o (.im (.int h)) s5 s6 s7 s8 s9)) P := by
  have hln := ho.len
  simp [show o.names.length ≤ 1000000 by omega]
  refine for0 (e := fun (n : Nat) => D.int n) (fun pre δ => ∃ s5, NoIo s5 ∧ δ = fr K ns us o (.im (.int h)) s5 s6 s7 s8 s9) (List.range o.names.length) ⟨s5, n5, rfl⟩ (fun δ q => ?_) fun pre x post δ e q => ?_
  · obtain ⟨s5, _, rfl⟩ := q
    exact hP s5
  · obtain ⟨s5, n5, rfl⟩ := q
    have hx : x < o.names.length := by
      have : x ∈ List.range o.names.length := by rw [← e]; simp
      simpa using this
    have hc := count_law (K := K) ho hx hh
    have hd := counted_law (K := K) ho hx (h := h) (by omega)
    have hl := like2_dat (K := K) (L := lawL o x h) (by rw [lawL_len]; omega)
    have hg := (nm_mem hx).2
    generalize lawL o x h = L at hc hd hl
    refine ⟨fr K ns us o (.im (.int h)) (.im (.int x)) s6 s7 s8 s9, ?_, ?_⟩
    · rcases n5 with rfl | ⟨d, rfl⟩ <;> simp
    · refine ⟨.nx (fr K ns us o (.im (.int h)) (.im (.int x)) s6 s7 s8 s9), ?_, .im (.int x), NoIo.im, rfl⟩
      simp only [fr, pL] at hl hc hd ⊢
      simp [ix_nat hx, hg, hc, hd, hl, Function.comp_def]
theorem rule_text_prop {ss : List Nat} {rows : List Row} : f_Rule_text K [.d (ruleD K ss rows)] = .ok (.d (.str (textR ss rows)), [.d (ruleD K ss rows)]) := by
  simp [f_Rule_text, runF, m_Rule_text, e_seq, fld_written]
end
theorem tells (ns : List Int) (hn : ns.length ≤ 63) : ∃ os, f_law K [.d (.scr ns)] = .ok (.d (.bl true), os) := by
  suffices hs : Tru (f_law K [.d (.scr ns)]) fun r => ∃ os, r = (.d (.bl true), os) by
    obtain ⟨r, e, os, rfl⟩ := hs
    exact ⟨os, e⟩
  obtain ⟨us0, e0, hb0⟩ := bag_ok (K := K) hn
  obtain ⟨o, us1, e1, ho, hb1⟩ := shape_ok (K := K) hb0
  obtain ⟨t, us2, e2, ht, hb2⟩ := made_ok (K := K) hb1 ho
  obtain ⟨d1, us3, e3, hd1, hb3⟩ := draw_ok (K := K) 3 hb2 (by decide) (by decide)
  obtain ⟨d2, us4, e4, hd2, hb4⟩ := draw_ok (K := K) 12 hb3 (by decide) (by decide)
  obtain ⟨d3, us5, e5, hd3, hb5⟩ := draw_ok (K := K) 60 hb4 (by decide) (by decide)
  obtain ⟨d4, us6, e6, hd4, hb6⟩ := draw_ok (K := K) 120 hb5 (by decide) (by decide)
  unfold f_law
  rw [if_pos (show [Tr.d (.scr ns)].length = 1 from rfl)]
  refine tru_run ?_
  unfold m_law
  refine tru_seq ?_
  simp [e0]
  refine tru_seq ?_
  simp [e1]
  refine tru_seq ?_
  simp [e2, ht]
  refine tru_seq ?_
  have hL : (mFz (mLst (mCons (mX (xC (.int 0))) (mCons (mX (xC (.int 1))) (mCons (mBin subI (mX (xC (.int 200))) (mFz (mCallO (f__law_draw K) (mCons (mV 1) (mCons (mX (xC (.int 3))) mNil))))) (mCons (mBin addI (mX (xC (.int 2))) (mFz (mCallO (f__law_draw K) (mCons (mV 1) (mCons (mX (xC (.int 12))) mNil))))) (mCons (mBin addI (mX (xC (.int 14))) (mFz (mCallO (f__law_draw K) (mCons (mV 1) (mCons (mX (xC (.int 60))) mNil))))) (mCons (mBin addI (mX (xC (.int 74))) (mFz (mCallO (f__law_draw K) (mCons (mV 1) (mCons (mX (xC (.int 120))) mNil))))) mNil)))))))) (fr K ns us2 o .un .un .un .un .un .un) =
      .ok (.im (.lst ([0, 1, 200 - d1, 2 + d2, 14 + d3, 74 + d4].map fun (n : Nat) => .int n)), fr K ns us6 o .un .un .un .un .un .un) := by
    have h1 : ((200 - d1 : Nat) : Int) = 200 - (d1 : Int) := by omega
    simp [e3, e4, e5, e6, h1]
  rw [e_mFor, e_mIL]
  refine Tru.bind (P := fun p => p = ([0, 1, 200 - d1, 2 + d2, 14 + d3, 74 + d4].map fun (n : Nat) => .int n, fr K ns us6 o .un .un .un .un .un .un)) ⟨_, by rw [hL]; rfl, rfl⟩ fun p hp => ?_
  subst hp
  refine for0 (e := fun (n : Nat) => D.int n) (fun pre δ => ∃ us s4 s5 s6 s7 s8 s9, Bag us ∧ NoIo s4 ∧ NoIo s5 ∧ NoIo s6 ∧ NoIo s7 ∧ NotIo s8 ∧ NoIo s9 ∧ δ = fr K ns us o s4 s5 s6 s7 s8 s9) [0, 1, 200 - d1, 2 + d2, 14 + d3, 74 + d4]
    ⟨us6, .un, .un, .un, .un, .un, .un, hb6, NoIo.un, NoIo.un, NoIo.un, NoIo.un, .inl rfl, NoIo.un, rfl⟩ (fun δ q => ?_) fun pre x post δ e q => ?_
  · obtain ⟨us, s4, s5, s6, s7, s8, s9, hb, n4, n5, n6, n7, n8, n9, rfl⟩ := q
    obtain ⟨d, us7, e7, hd, hb7⟩ := draw_ok (K := K) 31 hb (by decide) (by decide)
    refine tru_seq ?_
    have ea : mSet 4 (mFz (mCallO (f__law_draw K) (mCons (mV 1) (mCons (mX (xC (.int 31))) mNil)))) (fr K ns us o s4 s5 s6 s7 s8 s9) = .ok (.nx (fr K ns us7 o (.im (.int d)) s5 s6 s7 s8 s9)) := by
      rcases n4 with rfl | ⟨x, rfl⟩ <;> simp [e7]
    rw [ea, tru_ok]
    refine tru_seq ?_
    refine law_last ho (by omega) n5 fun s5' => ?_
    have hp := page_eq (K := K) ho
    have ht := rule_text_prop (K := K) (ss := o.ss) (rows := o.rows)
    have hl := like2_str (K := K) (s := textR o.ss o.rows)
    have hi : insIs (He.ga K "Rule") (fr K ns us7 o (.im (.int d)) s5' s6 s7 s8 s9) (.im (ruleD K o.ss o.rows)) = true := by
      unfold ruleD
      simp [insIs]
    have hpr : mProp (He.ga K "Rule") (f_Rule_text K) (mX (xV 3)) (fr K ns us7 o (.im (.int d)) s5' s6 s7 s8 s9) = .ok (.im (.str (textR o.ss o.rows)), fr K ns us7 o (.im (.int d)) s5' s6 s7 s8 s9) := by
      unfold mProp
      have h3 : mX (xV 3) (fr K ns us7 o (.im (.int d)) s5' s6 s7 s8 s9) = .ok (.im (ruleD K o.ss o.rows), fr K ns us7 o (.im (.int d)) s5' s6 s7 s8 s9) := rfl
      rw [h3]
      simp only [R.ok_bind]
      rw [if_pos hi]
      simp [ht, ret0]
    generalize mProp (He.ga K "Rule") (f_Rule_text K) (mX (xV 3)) = PP at hpr
    simp only [fr] at hpr ⊢
    simp [hpr, hp, hl]
  · obtain ⟨us, s4, s5, s6, s7, s8, s9, hb, n4, n5, n6, n7, n8, n9, rfl⟩ := q
    have hx : x ≤ 200 := by
      have : x ∈ [0, 1, 200 - d1, 2 + d2, 14 + d3, 74 + d4] := by rw [← e]; simp
      simp at this
      omega
    refine ⟨fr K ns us o (.im (.int x)) s5 s6 s7 s8 s9, ?_, ?_⟩
    · rcases n4 with rfl | ⟨d, rfl⟩ <;> simp
    · refine law_turn ho hb hx n5 n6 n7 n8 n9 fun us' s5 s6 s7 s8 s9 hb' n5 n6 n7 n8 n9 => ?_
      exact ⟨us', _, s5, s6, s7, s8, s9, hb', NoIo.im, n5, n6, n7, n8, n9, rfl⟩
end G8
set_option maxHeartbeats 0
/-! E8: the end: from the mirror's answer to the statement. -/
namespace G8
open PySem PySem.Spec PyProof.Rows L2 GX
theorem walk_ofG {l : PySem.W.OpenLaw} {n k : Nat} {q : Program} {loose : List Str} {XP : (Str → Option Value) → Heap → Prop} {YP : World → Heap → Prop} {d : DefRec} {CX : World → CXT} {x : Str} (hn : l.most = some n) (hn2 : n ≤ sizeLine) (hdf : d.params.defaults = []) (hr : Room k callerA)
    (F : ∀ (w : World) (mg : Str → Option Value) (fa : Addr) (h : Heap), YP w h → h.Ns mainGlobals mg → mg d.name = some (.ref fa) → ∃ (K : PySem.W.Frag) (fd : FuncData) (sp : Sp), K.In h ∧ (∀ (s : Shared) (u : Value), BindsTo s fd ⟨[u], []⟩ [(x, u)]) ∧
      (∀ (H : Hp) (a : Addr) (ns : List Int), ns.length ≤ n → SqL K H a (ns.map V.int) → sp [.ref a] H (fun v _ => v = .bl true) fun _ _ _ => False) ∧ ∀ base : Heap, FnOk l.prog w K mg base (CX w) k fa fd [x] sp)
    (hCX : ∀ (w : World) (H : Hp) (s : Shared) (e : Value) (s' : Shared), CX w [] H s (fun _ _ _ => False) e s' → False) : PySem.W.WalkO q loose XP YP l.row.toRowW d [] (fun f vs => PySem.call f vs) := by
  refine Att.attach_call hn hdf fun w s0 s1 mg mb fa o pm cd doc a vs ns G Y ho hd hcd hmg hobj hints hlen hg => ?_
  obtain ⟨K, fd, sp, KX, hb, hsp, hF⟩ := F w mg fa _ Y G.T.g hmg
  exact law_call KX G.T.g G.T.b G.T.builtins G.T.nolimit hg hobj hints (Nat.le_trans hlen hn2) hr (fun base _ _ => hF base) hb (fun H _ hS => hsp H a ns hlen hS) fun H e s' => hCX w H s1 e s'
theorem cx_none {P : Program} {w : World} {H : Hp} {s : Shared} {e : Value} {s' : Shared} (h : L2.CX P w [] H s (fun _ _ _ => False) e s') : False := by
  unfold L2.CX at h
  simp only [and_false, exists_false] at h
/-- what is left: the mirror of law tells true -/
def Tells : Prop := ∀ (K : PySem.W.Frag) (ns : List Int), ns.length ≤ 63 → ∃ os, f_law K [.d (.scr ns)] = .ok (.d (.bl true), os)
theorem sp_law (h : Tells) {K : PySem.W.Frag} {H : Hp} {a : Addr} {ns : List Int} (hn : ns.length ≤ 63) (hS : SqL K H a (ns.map V.int)) : spF K (f_law K) [.ref a] H (fun v _ => v = .bl true) fun _ _ _ => False := by
  obtain ⟨os, e⟩ := h K ns hn
  refine ⟨H, [.d (.scr ns)], fun _ => [], Same.refl _, ⟨rfl, fun i t ht => ?_, fun _ _ => rfl, fun _ _ _ hm => by cases hm⟩, ?_⟩
  · match i, ht with
    | 0, ht =>
      cases ht
      refine ⟨_, rfl, ⟨rfl, ?_⟩, List.nodup_nil, fun _ hm => by cases hm⟩
      exact Rep.scr_iff.mpr ⟨a, rfl, hS⟩
  · rw [e]
    intro v fr F' H' φ' _ _ o _ _
    have r : Rep K F' (.bl true) v := o.2
    simpa only [Rep] using r
end G8
open PySem PySem.W PySem.Calls PyProof.Rows
theorem law_end (tells : G8.Tells) : PySem.Challenge.rw_glintkinds_k08_whole_counts_far.Holds := by
  w_on; o_law
  refine HandSHeadRun.head_any (r := OpenLaw.row PySem.Challenge.rw_glintkinds_k08_whole_counts_far) (q := view (OpenLaw.row PySem.Challenge.rw_glintkinds_k08_whole_counts_far).prog [H.lawAt]) (H := H.hk) (ob := H.ob) (M := 20000) (loose := H.names) (d := HandSHeadRun.topDef (OpenLaw.row PySem.Challenge.rw_glintkinds_k08_whole_counts_far).prog H.lawAt) (kwd := []) H.ob_eq
    (by kernel_rfl) (fun s => by kernel_rfl) H.run (by kernel_rfl) (by kernel_rfl) (by kernel_rfl) (by rfl) (by first | assumption | decide +kernel) (by decide +kernel) ⟨rfl, rfl, rfl, rfl, rfl, by decide +kernel⟩ ?hw ?hc
  case hw => w_witness2
  case hc =>
    refine G8.walk_ofG (l := PySem.Challenge.rw_glintkinds_k08_whole_counts_far) (n := 63) (k := 19) (x := "script") (CX := fun w => L2.CX (PySem.Challenge.rw_glintkinds_k08_whole_counts_far).prog w) rfl (by decide) (by kernel_rfl) ⟨rfl, by decide, by decide⟩ ?F (fun w H s e s' h => G8.cx_none h)
    intro w mg fa h Y G hmg0
    obtain ⟨K, KX, c⟩ := Y
    have T : H.Env K mg := ⟨⟨h, KX, G⟩, c⟩
    have hmg : mg ("law" : PySem.Str) = some (.ref fa) := by
      have e : (HandSHeadRun.topDef (OpenLaw.row PySem.Challenge.rw_glintkinds_k08_whole_counts_far).prog H.lawAt).name = ("law" : PySem.Str) := by kernel_rfl
      rw [← e]
      exact hmg0
    have ea := hmg.symm.trans T.g_law
    obtain ⟨fd, Fd⟩ := T.F_law
    have e2 : fa = H.a_law K := by cases ea; rfl
    subst e2
    have b := L2.FunD.bindsA (ps := ["script"]) Fd fun _ _ _ _ _ _ us hl => match us, hl with | [_], _ => rfl
    exact ⟨K, fd, _, KX, fun s u => b s [u] rfl, fun H a ns hl hS => G8.sp_law tells hl hS, fun base => G8.fo_law T Fd⟩

theorem PySem.Challenge.cw_glintkinds_k08_whole_counts_far_holds : PySem.Challenge.rw_glintkinds_k08_whole_counts_far.Holds :=
  law_end fun K ns h => G8.tells ns h
