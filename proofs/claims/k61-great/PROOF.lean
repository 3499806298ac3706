import PyProof.Rows.All
import Wide.All
import OpenK.AllK
import Wide.FinOn
import HandS.ForMost
import HandS.Deep
import HandS.IsInst
import HandS.TupAny
import HandS.Zip
import HandS.SortInts
import HandS.Flow
import HandS.Style
import PyProof.P3In
import HandS.SetFor
import HandS.Strs
import PySem.Challenge.RW_grantwarrant_k61_ranges_of_great_numbers
set_option Elab.async false
set_option linter.all false
set_option maxHeartbeats 4000000
set_option maxRecDepth 100000
namespace DL
open PySem L2

/-! ### data that is tracked: lists and tuples, nested, of None, bools, ints and texts -/
mutual
inductive Dq (K : PySem.W.Frag) (H : Hp) : V → PyData → Prop
  | non : Dq K H .non .none
  | bl (b : Bool) : Dq K H (.bl b) (.bool b)
  | int (i : Int) : Dq K H (.int i) (.int i)
  | str (x : Str) : Dq K H (.str x) (.str x)
  | lst {a : Addr} {xs : List V} {ds : List PyData} : H a = some (.lst xs) → DqAll K H xs ds → Dq K H (.ref a) (.list ds)
  | tup {a : Addr} {xs : List V} {ds : List PyData} : H a = some (.tup xs) → DqAll K H xs ds → Dq K H (.ref a) (.tuple ds)
inductive DqAll (K : PySem.W.Frag) (H : Hp) : List V → List PyData → Prop
  | nil : DqAll K H [] []
  | cons {v : V} {vs : List V} {d : PyData} {ds : List PyData} : Dq K H v d → DqAll K H vs ds → DqAll K H (v :: vs) (d :: ds)
end

/-! ### what a slot or a value on the way is known to be -/
inductive Sl where
  | un
  | dat (d : PyData)
  | bor (a : Addr)
  | own (a : Addr) (R : PySem.W.Frag → Hp → List (Addr × HO) → Prop)

def Mono (R : Hp → List (Addr × HO) → Prop) : Prop := ∀ Hb Hb' fp, Same Hb Hb' → R Hb fp → R Hb' fp

inductive SlOk (K : PySem.W.Frag) (Hb : Hp) : Sl → Option V → List (Addr × HO) → Prop
  | un {v} : SlOk K Hb .un v []
  | dat {v d} : Dq K Hb v d → SlOk K Hb (.dat d) (some v) []
  | bor {a} : SlOk K Hb (.bor a) (some (.ref a)) []
  | own {a R fp} : Mono (R K) → R K Hb fp → SlOk K Hb (.own a R) (some (.ref a)) fp

abbrev Asn := List (Sl × Option V)
inductive Sat (K : PySem.W.Frag) (Hb : Hp) : Asn → List (Addr × HO) → Prop
  | nil : Sat K Hb [] []
  | cons {s v f A fp} : SlOk K Hb s v f → Sat K Hb A fp → Sat K Hb ((s, v) :: A) (f ++ fp)

/-- F: data that stands from before; G: all else that must stay; A: what is known of slots and of values on the way -/
def Ok (K : PySem.W.Frag) (F G : Hp) (A : Asn) (H : Hp) : Prop :=
  ∃ (Hb : Hp) (fp : List (Addr × HO)), Same F Hb ∧ Same Hb H ∧ (∀ b o, G b = some o → H b = some o ∧ Hb b = none) ∧ Sat K Hb A fp ∧
    (∀ p ∈ fp, Hb p.1 = none ∧ G p.1 = none ∧ H p.1 = some p.2) ∧ (fp.map (·.1)).Nodup

/-! ### data stays when the heap grows -/
mutual
theorem Dq_mono {K : PySem.W.Frag} {H H' : Hp} (e : Same H H') : ∀ (d : PyData) (v : V), Dq K H v d → Dq K H' v d
  | .none, _, h => by cases h; exact .non
  | .bool b, _, h => by cases h; exact .bl b
  | .int i, _, h => by cases h; exact .int i
  | .str x, _, h => by cases h; exact .str x
  | .list ds, _, h => by
    cases h with
    | lst hs ha => exact .lst (e _ _ hs) (DqAll_mono e ds _ ha)
  | .tuple ds, _, h => by
    cases h with
    | tup hs ha => exact .tup (e _ _ hs) (DqAll_mono e ds _ ha)
  | .dict _, _, h => by cases h
theorem DqAll_mono {K : PySem.W.Frag} {H H' : Hp} (e : Same H H') : ∀ (ds : List PyData) (vs : List V), DqAll K H vs ds → DqAll K H' vs ds
  | [], _, h => by cases h; exact .nil
  | d :: ds, _, h => by
    cases h with
    | cons h1 h2 => exact .cons (Dq_mono e d _ h1) (DqAll_mono e ds _ h2)
end
theorem DqAll.length {K : PySem.W.Frag} {H : Hp} : ∀ {vs : List V} {ds : List PyData}, DqAll K H vs ds → vs.length = ds.length
  | _, _, .nil => rfl
  | _, _, .cons _ t => by simp [DqAll.length t]
theorem DqAll.get {K : PySem.W.Frag} {H : Hp} : ∀ {vs : List V} {ds : List PyData} {i : Nat} {d : PyData}, DqAll K H vs ds → ds[i]? = some d → ∃ v, vs[i]? = some v ∧ Dq K H v d
  | _, _, _, _, .nil, h => by simp at h
  | _, _, 0, _, .cons r _, h => by simp at h; subst h; exact ⟨_, rfl, r⟩
  | _, _, i + 1, d, .cons _ t, h => by
    obtain ⟨v, h1, h2⟩ := DqAll.get (i := i) (d := d) t (by simpa using h)
    exact ⟨v, by simpa using h1, h2⟩
theorem DqAll.getV {K : PySem.W.Frag} {H : Hp} : ∀ {vs : List V} {ds : List PyData} {i : Nat} {v : V}, DqAll K H vs ds → vs[i]? = some v → ∃ d, ds[i]? = some d ∧ Dq K H v d
  | _, _, _, _, .nil, h => by simp at h
  | _, _, 0, _, .cons r _, h => by simp at h; subst h; exact ⟨_, rfl, r⟩
  | _, _, i + 1, d, .cons _ t, h => by
    obtain ⟨v, h1, h2⟩ := DqAll.getV (i := i) (v := d) t (by simpa using h)
    exact ⟨v, by simpa using h1, h2⟩
theorem DqAll.append {K : PySem.W.Frag} {H : Hp} : ∀ {vs ws : List V} {ds es : List PyData}, DqAll K H vs ds → DqAll K H ws es → DqAll K H (vs ++ ws) (ds ++ es)
  | _, _, _, _, .nil, h => h
  | _, _, _, _, .cons r t, h => .cons r (DqAll.append t h)
theorem DqAll.take {K : PySem.W.Frag} {H : Hp} : ∀ {vs : List V} {ds : List PyData} (n : Nat), DqAll K H vs ds → DqAll K H (vs.take n) (ds.take n)
  | _, _, 0, _ => .nil
  | _, _, _ + 1, .nil => .nil
  | _, _, n + 1, .cons r t => .cons r (DqAll.take n t)
theorem DqAll.drop {K : PySem.W.Frag} {H : Hp} : ∀ {vs : List V} {ds : List PyData} (n : Nat), DqAll K H vs ds → DqAll K H (vs.drop n) (ds.drop n)
  | _, _, 0, h => h
  | _, _, _ + 1, .nil => .nil
  | _, _, n + 1, .cons _ t => DqAll.drop n t
theorem DqAll.set {K : PySem.W.Frag} {H : Hp} {v : V} {d : PyData} (h : Dq K H v d) : ∀ {vs : List V} {ds : List PyData} (i : Nat), DqAll K H vs ds → DqAll K H (vs.set i v) (ds.set i d)
  | _, _, _, .nil => .nil
  | _, _, 0, .cons _ t => .cons h t
  | _, _, i + 1, .cons r t => .cons r (DqAll.set h i t)
theorem DqAll.reverse {K : PySem.W.Frag} {H : Hp} : ∀ {vs : List V} {ds : List PyData}, DqAll K H vs ds → DqAll K H vs.reverse ds.reverse
  | _, _, .nil => .nil
  | _, _, .cons r t => by
    rw [List.reverse_cons, List.reverse_cons]
    exact DqAll.append (DqAll.reverse t) (.cons r .nil)
theorem DqAll.ints {K : PySem.W.Frag} {H : Hp} : ∀ {ns : List Int} {vs : List V}, DqAll K H vs (ns.map PyData.int) → vs = ns.map V.int
  | [], _, h => by cases h; rfl
  | n :: ns, _, h => by
    cases h with
    | cons r t => cases r; rw [DqAll.ints t]; rfl
theorem DqAll.of_ints {K : PySem.W.Frag} {H : Hp} : ∀ (ns : List Int), DqAll K H (ns.map V.int) (ns.map PyData.int)
  | [] => .nil
  | n :: ns => .cons (.int n) (DqAll.of_ints ns)
theorem DqAll.bls {K : PySem.W.Frag} {H : Hp} : ∀ {ns : List Bool} {vs : List V}, DqAll K H vs (ns.map PyData.bool) → vs = ns.map V.bl
  | [], _, h => by cases h; rfl
  | n :: ns, _, h => by
    cases h with
    | cons r t => cases r; rw [DqAll.bls t]; rfl
theorem Dq.flat_int {K : PySem.W.Frag} {H : Hp} {v : V} {i : Int} (h : Dq K H v (.int i)) : v = .int i := by cases h; rfl
theorem Dq.flat_bl {K : PySem.W.Frag} {H : Hp} {v : V} {i : Bool} (h : Dq K H v (.bool i)) : v = .bl i := by cases h; rfl
theorem Dq.flat_str {K : PySem.W.Frag} {H : Hp} {v : V} {i : Str} (h : Dq K H v (.str i)) : v = .str i := by cases h; rfl
theorem Dq.flat_non {K : PySem.W.Frag} {H : Hp} {v : V} (h : Dq K H v .none) : v = .non := by cases h; rfl
theorem Dq.of_tup {K : PySem.W.Frag} {H : Hp} {v : V} {ds : List PyData} (h : Dq K H v (.tuple ds)) : ∃ a xs, v = .ref a ∧ H a = some (.tup xs) ∧ DqAll K H xs ds := by
  cases h with
  | tup hs ha => exact ⟨_, _, rfl, hs, ha⟩
theorem Dq.of_lst {K : PySem.W.Frag} {H : Hp} {v : V} {ds : List PyData} (h : Dq K H v (.list ds)) : ∃ a xs, v = .ref a ∧ H a = some (.lst xs) ∧ DqAll K H xs ds := by
  cases h with
  | lst hs ha => exact ⟨_, _, rfl, hs, ha⟩

mutual
theorem Dq.dp {K : PySem.W.Frag} {H : Hp} : ∀ (d : PyData) (v : V), Dq K H v d → Dp K H v d
  | .none, _, h => by cases h; exact .non
  | .bool b, _, h => by cases h; exact .bl b
  | .int i, _, h => by cases h; exact .int i
  | .str x, _, h => by cases h; exact .str x
  | .list ds, _, h => by
    cases h with
    | lst hs ha => exact .lst (SqL.of hs) (DqAll.dp ds _ ha)
  | .tuple ds, _, h => by
    cases h with
    | tup hs ha => exact .tup (SqT.of hs) (DqAll.dp ds _ ha)
  | .dict _, _, h => by cases h
theorem DqAll.dp {K : PySem.W.Frag} {H : Hp} : ∀ (ds : List PyData) (vs : List V), DqAll K H vs ds → DpAll K H vs ds
  | [], _, h => by cases h; exact .nil
  | d :: ds, _, h => by
    cases h with
    | cons h1 h2 => exact .cons (Dq.dp d _ h1) (DqAll.dp ds _ h2)
end

/-! ### the bookkeeping of Ok -/
section
variable {K : PySem.W.Frag} {Hb Hb' F G H H' : Hp} {A A' : Asn} {fp : List (Addr × HO)} {s : Sl} {v : Option V} {d : PyData} {a : Addr}
theorem SlOk.mono (e : Same Hb Hb') (h : SlOk K Hb s v fp) : SlOk K Hb' s v fp := by
  cases h with
  | un => exact .un
  | dat h => exact .dat (Dq_mono e _ _ h)
  | bor => exact .bor
  | own m r => exact .own m (m _ _ _ e r)
theorem Sat.mono (e : Same Hb Hb') (h : Sat K Hb A fp) : Sat K Hb' A fp := by
  induction h with
  | nil => exact .nil
  | cons h _ ih => exact .cons (h.mono e) ih
theorem Sat.perm (p : A.Perm A') : ∀ {fp}, Sat K Hb A fp → ∃ fp', fp.Perm fp' ∧ Sat K Hb A' fp' := by
  induction p with
  | nil => intro fp h; exact ⟨fp, .refl _, h⟩
  | cons x _ ih =>
    intro fp h
    cases h with
    | cons h t =>
      obtain ⟨fp', p', t'⟩ := ih t
      exact ⟨_, List.Perm.append_left _ p', .cons h t'⟩
  | swap x y l =>
    intro fp h
    cases h with
    | cons h t =>
      cases t with
      | cons h2 t =>
        refine ⟨_, ?_, .cons h2 (.cons h t)⟩
        rw [← List.append_assoc, ← List.append_assoc]
        exact List.Perm.append_right _ List.perm_append_comm
  | trans _ _ ih1 ih2 =>
    intro fp h
    obtain ⟨f1, p1, h1⟩ := ih1 h
    obtain ⟨f2, p2, h2⟩ := ih2 h1
    exact ⟨f2, p1.trans p2, h2⟩
theorem Ok.perm (h : Ok K F G A H) (p : A.Perm A') : Ok K F G A' H := by
  obtain ⟨Hb, fp, h1, h2, h3, h4, h5, h6⟩ := h
  obtain ⟨fp', pf, h4'⟩ := h4.perm p
  exact ⟨Hb, fp', h1, h2, h3, h4', fun q hq => h5 q (pf.mem_iff.mpr hq), (pf.map _).nodup_iff.mp h6⟩
theorem Ok.tail {x : Sl × Option V} (h : Ok K F G (x :: A) H) : Ok K F G A H := by
  obtain ⟨Hb, fp, h1, h2, h3, h4, h5, h6⟩ := h
  cases h4 with
  | cons q t =>
    rw [List.map_append] at h6
    exact ⟨Hb, _, h1, h2, h3, t, fun p hp => h5 p (List.mem_append_right _ hp), (List.nodup_append.mp h6).2.1⟩
theorem Ok.weak {x : Sl × Option V} {w : Option V} (h : Ok K F G (x :: A) H) : Ok K F G ((.un, w) :: A) H := by
  obtain ⟨Hb, fp, h1, h2, h3, h4, h5, h6⟩ := h.tail
  exact ⟨Hb, fp, h1, h2, h3, .cons .un h4, h5, h6⟩
/-- a value that is data in every heap -/
theorem Ok.push {w : V} (h : Ok K F G A H) (hd : ∀ Hb, Dq K Hb w d) : Ok K F G ((.dat d, some w) :: A) H := by
  obtain ⟨Hb, fp, h1, h2, h3, h4, h5, h6⟩ := h
  exact ⟨Hb, fp, h1, h2, h3, .cons (f := []) (.dat (hd Hb)) h4, h5, h6⟩
theorem Ok.pushUn {w : Option V} (h : Ok K F G A H) : Ok K F G ((.un, w) :: A) H := by
  obtain ⟨Hb, fp, h1, h2, h3, h4, h5, h6⟩ := h
  exact ⟨Hb, fp, h1, h2, h3, .cons (f := []) .un h4, h5, h6⟩
theorem Ok.pushBor (h : Ok K F G A H) : Ok K F G ((.bor a, some (.ref a)) :: A) H := by
  obtain ⟨Hb, fp, h1, h2, h3, h4, h5, h6⟩ := h
  exact ⟨Hb, fp, h1, h2, h3, .cons (f := []) .bor h4, h5, h6⟩
theorem Ok.dup (h : Ok K F G ((.dat d, v) :: A) H) : Ok K F G ((.dat d, v) :: (.dat d, v) :: A) H := by
  obtain ⟨Hb, fp, h1, h2, h3, h4, h5, h6⟩ := h
  cases h4 with
  | cons q t =>
    cases q with
    | dat q => exact ⟨Hb, _, h1, h2, h3, .cons (f := []) (.dat q) (.cons (f := []) (.dat q) t), h5, h6⟩
theorem Ok.dat (h : Ok K F G ((.dat d, v) :: A) H) : ∃ w, v = some w ∧ Dq K H w d := by
  obtain ⟨Hb, fp, h1, h2, h3, h4, h5, h6⟩ := h
  cases h4 with
  | cons q t =>
    cases q with
    | dat q => exact ⟨_, rfl, Dq_mono h2 _ _ q⟩
/-- data that comes from data -/
theorem Ok.derive {w w' : V} {d' : PyData} (h : Ok K F G ((.dat d, some w) :: A) H) (hd : ∀ Hb, Same Hb H → Dq K Hb w d → Dq K Hb w' d') : Ok K F G ((.dat d', some w') :: A) H := by
  obtain ⟨Hb, fp, h1, h2, h3, h4, h5, h6⟩ := h
  cases h4 with
  | cons q t =>
    cases q with
    | dat q => exact ⟨Hb, _, h1, h2, h3, .cons (f := []) (.dat (hd Hb h2 q)) t, h5, h6⟩
/-- a new tuple of data -/
theorem Ok.newTup {p : Addr} {vs : List V} {ds : List PyData} {B : Asn} (h : Ok K F G (B ++ A) H) (hp : H p = none)
    (hd : ∀ Hb fp, Same Hb H → Sat K Hb B fp → DqAll K Hb vs ds) : Ok K F G ((.dat (.tuple ds), some (.ref p)) :: (B ++ A)) (upd H p (.tup vs)) := by
  obtain ⟨Hb, fp, h1, h2, h3, h4, h5, h6⟩ := h
  have nb : Hb p = none := h2.free hp
  have e1 : Same Hb (upd Hb p (.tup vs)) := fun b o e => by rw [upd_ne (ne_of_none e nb)]; exact e
  have sb : ∀ (B A : Asn) (fp : List (Addr × HO)), Sat K Hb (B ++ A) fp → ∃ f, Sat K Hb B f := by
    intro B
    induction B with
    | nil => intro A fp _; exact ⟨[], .nil⟩
    | cons x B ih =>
      intro A fp hs
      cases hs with
      | cons q t =>
        obtain ⟨f, hf⟩ := ih _ _ t
        exact ⟨_, .cons q hf⟩
  obtain ⟨f, hf⟩ := sb B A fp h4
  have hda := hd Hb f h2 hf
  refine ⟨upd Hb p (.tup vs), fp, Same.trans h1 e1, fun b o e => ?_, fun b o e => ?_, .cons (f := []) (.dat (.tup upd_same (DqAll_mono e1 _ _ hda))) (h4.mono e1), fun q hq => ?_, h6⟩
  · by_cases hb : b = p
    · subst hb; rw [upd_same] at e ⊢; exact e
    · rw [upd_ne hb] at e ⊢; exact h2 b o e
  · obtain ⟨e2, e3⟩ := h3 b o e
    have hb := ne_of_none e2 hp
    exact ⟨by rw [upd_ne hb]; exact e2, by rw [upd_ne hb]; exact e3⟩
  · obtain ⟨q1, q2, q3⟩ := h5 q hq
    have hb := ne_of_none q3 hp
    exact ⟨by rw [upd_ne hb]; exact q1, q2, by rw [upd_ne hb]; exact q3⟩

/-- a list of one's own -/
def rL (a : Addr) (ds : List PyData) : PySem.W.Frag → Hp → List (Addr × HO) → Prop := fun K Hb fp => ∃ vs, fp = [(a, .lst vs)] ∧ DqAll K Hb vs ds
theorem rL_mono (K : PySem.W.Frag) (a : Addr) (ds : List PyData) : Mono (rL a ds K) := fun Hb Hb' fp e ⟨vs, h1, h2⟩ => ⟨vs, h1, DqAll_mono e _ _ h2⟩
abbrev lst (a : Addr) (ds : List PyData) : Sl := .own a (rL a ds)

theorem Ok.newLst {p : Addr} {vs : List V} {ds : List PyData} {B : Asn} (h : Ok K F G (B ++ A) H) (hp : H p = none)
    (hd : ∀ Hb fp, Same Hb H → Sat K Hb B fp → DqAll K Hb vs ds) : Ok K F G ((lst p ds, some (.ref p)) :: (B ++ A)) (upd H p (.lst vs)) := by
  obtain ⟨Hb, fp, h1, h2, h3, h4, h5, h6⟩ := h
  have nb : Hb p = none := h2.free hp
  have sb : ∀ (B A : Asn) (fp : List (Addr × HO)), Sat K Hb (B ++ A) fp → ∃ f, Sat K Hb B f := by
    intro B
    induction B with
    | nil => intro A fp _; exact ⟨[], .nil⟩
    | cons x B ih =>
      intro A fp hs
      cases hs with
      | cons q t =>
        obtain ⟨f, hf⟩ := ih _ _ t
        exact ⟨_, .cons q hf⟩
  obtain ⟨f, hf⟩ := sb B A fp h4
  have hda := hd Hb f h2 hf
  have hG : G p = none := by
    cases e : G p with
    | none => rfl
    | some o => rw [(h3 p o e).1] at hp; cases hp
  refine ⟨Hb, (p, .lst vs) :: fp, h1, fun b o e => ?_, fun b o e => ?_, .cons (f := [(p, .lst vs)]) (.own (rL_mono _ _ _) ⟨vs, rfl, hda⟩) h4, fun q hq => ?_, ?_⟩
  · rw [upd_ne (ne_of_none e nb)]; exact h2 b o e
  · obtain ⟨e2, e3⟩ := h3 b o e
    exact ⟨by rw [upd_ne (ne_of_none e2 hp)]; exact e2, e3⟩
  · rcases List.mem_cons.mp hq with rfl | hq
    · exact ⟨nb, hG, upd_same⟩
    · obtain ⟨q1, q2, q3⟩ := h5 q hq
      exact ⟨q1, q2, by rw [upd_ne (ne_of_none q3 hp)]; exact q3⟩
  · rw [List.map_cons, List.nodup_cons]
    refine ⟨fun hm => ?_, h6⟩
    obtain ⟨q, hq, e⟩ := List.mem_map.mp hm
    have := (h5 q hq).2.2
    rw [show q.1 = p from e, hp] at this; cases this
/-- a list of one's own becomes data -/
theorem Ok.freeze {ds : List PyData} (h : Ok K F G ((lst a ds, v) :: A) H) : Ok K F G ((.dat (.list ds), v) :: A) H := by
  obtain ⟨Hb, fp, h1, h2, h3, h4, h5, h6⟩ := h
  cases h4 with
  | cons q t =>
    cases q with
    | own m r =>
      obtain ⟨vs, rfl, hda⟩ := r
      obtain ⟨nb, ng, ha⟩ := h5 (a, .lst vs) (List.mem_append_left _ (List.mem_cons_self))
      have e1 : Same Hb (upd Hb a (.lst vs)) := fun b o e => by rw [upd_ne (ne_of_none e nb)]; exact e
      refine ⟨upd Hb a (.lst vs), _, Same.trans h1 e1, fun b o e => ?_, fun b o e => ?_, .cons (f := []) (.dat (.lst upd_same (DqAll_mono e1 _ _ hda))) (t.mono e1), fun q hq => ?_, ?_⟩
      · by_cases hb : b = a
        · subst hb; rw [upd_same] at e; rw [← e]; exact ha
        · rw [upd_ne hb] at e; exact h2 b o e
      · obtain ⟨e2, e3⟩ := h3 b o e
        refine ⟨e2, ?_⟩
        rw [upd_ne (fun z => by rw [z] at e; rw [ng] at e; cases e)]
        exact e3
      · obtain ⟨q1, q2, q3⟩ := h5 q (List.mem_append_right _ hq)
        refine ⟨?_, q2, q3⟩
        rw [upd_ne]
        · exact q1
        · intro z
          rw [List.map_append] at h6
          exact (List.nodup_append.mp h6).2.2 a (by simp) q.1 (List.mem_map_of_mem hq) z.symm
      · rw [List.map_append] at h6
        exact (List.nodup_append.mp h6).2.1
/-- an own list is looked at and changed -/
theorem Ok.lst {ds : List PyData} (h : Ok K F G ((DL.lst a ds, v) :: A) H) : v = some (.ref a) ∧ ∃ vs, H a = some (.lst vs) ∧ vs.length = ds.length ∧ DqAll K H vs ds ∧
    ∀ (vs' : List V) (ds' : List PyData) (B A' : Asn), A = B ++ A' → (∀ Hb fp, Same Hb H → Sat K Hb B fp → DqAll K Hb vs ds → DqAll K Hb vs' ds') → Ok K F G ((DL.lst a ds', v) :: A) (upd H a (.lst vs')) := by
  obtain ⟨Hb, fp, h1, h2, h3, h4, h5, h6⟩ := h
  cases h4 with
  | cons q t =>
    cases q with
    | own m r =>
      obtain ⟨vs, rfl, hda⟩ := r
      obtain ⟨nb, ng, ha⟩ := h5 (a, .lst vs) (List.mem_append_left _ (List.mem_cons_self))
      refine ⟨rfl, vs, ha, hda.length, DqAll_mono h2 _ _ hda, fun vs' ds' B A' eA hd => ?_⟩
      subst eA
      have sb : ∀ (B A : Asn) (fp : List (Addr × HO)), Sat K Hb (B ++ A) fp → ∃ f, Sat K Hb B f := by
        intro B
        induction B with
        | nil => intro A fp _; exact ⟨[], .nil⟩
        | cons x B ih =>
          intro A fp hs
          cases hs with
          | cons q t =>
            obtain ⟨f, hf⟩ := ih _ _ t
            exact ⟨_, .cons q hf⟩
      obtain ⟨f, hf⟩ := sb B A' _ t
      refine ⟨Hb, _, h1, fun b o e => ?_, fun b o e => ?_, .cons (f := [(a, .lst vs')]) (.own (rL_mono _ _ _) ⟨vs', rfl, hd Hb f h2 hf hda⟩) t, fun q hq => ?_, by simpa using h6⟩
      · rw [upd_ne (ne_of_none e nb)]; exact h2 b o e
      · obtain ⟨e2, e3⟩ := h3 b o e
        exact ⟨by rw [upd_ne (fun z => by rw [z] at e; rw [ng] at e; cases e)]; exact e2, e3⟩
      · rcases List.mem_append.mp hq with hq | hq
        · rw [List.mem_singleton] at hq; subst hq
          exact ⟨nb, ng, upd_same⟩
        · obtain ⟨q1, q2, q3⟩ := h5 q (List.mem_append_right _ hq)
          refine ⟨q1, q2, ?_⟩
          rw [upd_ne]
          · exact q3
          · intro z
            rw [List.map_append] at h6
            exact (List.nodup_append.mp h6).2.2 a (by simp) q.1 (List.mem_map_of_mem hq) z.symm
end
end DL
namespace DL
open PySem L2

/-! ### the best reading of a piece -/
def WE (X : Cx) (e : Expr) : TE := fun σ H Q => ∃ t Q0, PE X e t ∧ t σ H Q0 ∧ ∀ v H', Q0 v H' → Q v H'
def WT (X : Cx) (e : Expr) : TT := fun σ H Q => ∃ t Q0, PT X e t ∧ t σ H Q0 ∧ ∀ v H', Q0 v H' → Q v H'
def WW (X : Cx) (e : Expr) : TT := fun σ H Q => ∃ t Q0, PW X e t ∧ t σ H Q0 ∧ ∀ v H', Q0 v H' → Q v H'
def WA (X : Cx) (es : List Expr) : TA := fun σ H Q => ∃ t Q0, PA X es t ∧ t σ H Q0 ∧ ∀ v H', Q0 v H' → Q v H'
def WS (X : Cx) (st : Stmt) : TS := fun D σ H => ∃ t, PS X st t ∧ t D σ H
def WSs (X : Cx) (st : List Stmt) : TS := fun D σ H => ∃ t, PSs X st t ∧ t D σ H
def WI (X : Cx) (tg it : Expr) : TI := fun σ H R => ∃ t, PI X tg it t ∧ t σ H R
section
variable {X : Cx} {e tg : Expr} {es : List Expr} {st : Stmt} {sts : List Stmt} {σ : St} {H : Hp}
theorem WE.pe : PE X e (WE X e) := ⟨fun pins s σ H Q I ⟨t, Q0, ht, h, m⟩ => thn (ht.run pins s σ H Q0 I h) fun u s' ⟨v, H', I', r, q⟩ => ⟨v, H', I', r, m _ _ q⟩⟩
theorem WT.pt : PT X e (WT X e) := ⟨fun pins s σ H Q I ⟨t, Q0, ht, h, m⟩ => thn (ht.run pins s σ H Q0 I h) fun b s' ⟨H', I', q⟩ => ⟨H', I', m _ _ q⟩⟩
theorem WW.pw : PW X e (WW X e) := ⟨fun wh pins s σ H Q I ⟨t, Q0, ht, h, m⟩ => thn (ht.run wh pins s σ H Q0 I h) fun b s' ⟨H', I', q⟩ => ⟨H', I', m _ _ q⟩⟩
theorem WA.pa : PA X es (WA X es) := ⟨fun pos pins s σ H Q I ⟨t, Q0, ht, h, m⟩ => thn (ht.run pos pins s σ H Q0 I h) fun u s' ⟨v, H', I', r, q⟩ => ⟨v, H', I', r, m _ _ q⟩⟩
theorem WS.ps : PS X st (WS X st) := ⟨fun pins s σ H D I ⟨t, ht, h⟩ => ht.run pins s σ H D I h⟩
theorem WSs.pss : PSs X sts (WSs X sts) := ⟨fun pins s σ H D I ⟨t, ht, h⟩ => ht.run pins s σ H D I h⟩
theorem WI.pi {it : Expr} : PI X tg it (WI X tg it) := ⟨fun pins s σ H R I ⟨t, ht, h⟩ => ht.run pins s σ H R I h⟩
theorem WE.of {t : TE} {Q : VK} (ht : PE X e t) (h : t σ H Q) : WE X e σ H Q := ⟨t, Q, ht, h, fun _ _ q => q⟩
theorem WT.of {t : TT} {Q} (ht : PT X e t) (h : t σ H Q) : WT X e σ H Q := ⟨t, Q, ht, h, fun _ _ q => q⟩
theorem WW.of {t : TT} {Q} (ht : PW X e t) (h : t σ H Q) : WW X e σ H Q := ⟨t, Q, ht, h, fun _ _ q => q⟩
theorem WA.of {t : TA} {Q} (ht : PA X es t) (h : t σ H Q) : WA X es σ H Q := ⟨t, Q, ht, h, fun _ _ q => q⟩
theorem WS.of {t : TS} {D} (ht : PS X st t) (h : t D σ H) : WS X st D σ H := ⟨t, ht, h⟩
theorem WSs.of {t : TS} {D} (ht : PSs X sts t) (h : t D σ H) : WSs X sts D σ H := ⟨t, ht, h⟩
theorem WI.of {t : TI} {it : Expr} {R} (ht : PI X tg it t) (h : t σ H R) : WI X tg it σ H R := ⟨t, ht, h⟩
theorem WE.mono {Q Q' : VK} (h : WE X e σ H Q) (m : ∀ v H', Q v H' → Q' v H') : WE X e σ H Q' := by
  obtain ⟨t, Q0, ht, q, m0⟩ := h
  exact ⟨t, Q0, ht, q, fun v H' z => m _ _ (m0 _ _ z)⟩
theorem WT.mono {Q Q' : Bool → Hp → Prop} (h : WT X e σ H Q) (m : ∀ v H', Q v H' → Q' v H') : WT X e σ H Q' := by
  obtain ⟨t, Q0, ht, q, m0⟩ := h
  exact ⟨t, Q0, ht, q, fun v H' z => m _ _ (m0 _ _ z)⟩
end

/-! ### where one stands -/
structure Mdl where
  P : Program
  w : World
  K : PySem.W.Frag
  mg : Str → Option Value
  base : Heap
structure Stc where
  M : Mdl
  N : List Str
  sc : Scope
  fn : Str → Bool
  k : Nat
structure Stc.Ok (S : Stc) (X : Cx) : Prop where
  prog : X.prog = S.M.P
  w : X.w = S.M.w
  K : X.K = S.M.K
  mg : X.mg = S.M.mg
  base : X.base = S.M.base
  N : X.N = S.N
  nd : X.N.Nodup
  sc : X.env.scope = S.sc
  fn : X.fn = S.fn
  calm : X.calm = true
  room : Room S.k X.A
  pass : PassesOwn (model X.prog X.w) X.A X.env X.xe
def Stc.blk (S : Stc) (scope : Scope) : Stc := { S with sc := relS scope S.sc, fn := fun x => scope.names.lookup x == some .cell }

/-! ### the judgements -/
def E (S : Stc) (Γ : List Sl) (e : Expr) (Q : List Sl → Sl → Prop) : Prop :=
  ∀ X, S.Ok X → ∀ F G A σ H, σ.length = Γ.length → Ok X.K F G (A ++ Γ.zip σ) H → ∀ Q' : VK,
    (∀ Γ' s v H', Q Γ' s → σ.length = Γ'.length → Ok X.K F G ((s, some v) :: (A ++ Γ'.zip σ)) H' → Q' v H') → WE X e σ H Q'
def T (S : Stc) (Γ : List Sl) (e : Expr) (Q : List Sl → Bool → Prop) : Prop :=
  ∀ X, S.Ok X → ∀ F G A σ H, σ.length = Γ.length → Ok X.K F G (A ++ Γ.zip σ) H → ∀ Q' : Bool → Hp → Prop,
    (∀ Γ' b H', Q Γ' b → σ.length = Γ'.length → Ok X.K F G (A ++ Γ'.zip σ) H' → Q' b H') → WT X e σ H Q'
def TW (S : Stc) (Γ : List Sl) (e : Expr) (Q : List Sl → Bool → Prop) : Prop :=
  ∀ X, S.Ok X → ∀ F G A σ H, σ.length = Γ.length → Ok X.K F G (A ++ Γ.zip σ) H → ∀ Q' : Bool → Hp → Prop,
    (∀ Γ' b H', Q Γ' b → σ.length = Γ'.length → Ok X.K F G (A ++ Γ'.zip σ) H' → Q' b H') → WW X e σ H Q'
def noStar : Expr → Bool
  | .Starred _ _ => false
  | _ => true
theorem starEach_cons {e : Expr} {es : List Expr} {env : Env} (h : noStar e = true) : starEach (e :: es) env = (false, eval e env) :: starEach es env := by
  cases e <;> first | rfl | cases h
def EA (S : Stc) : List Sl → List Expr → (List Sl → List Sl → Prop) → Prop
  | Γ, [], Q => Q Γ []
  | Γ, e :: es, Q => noStar e = true ∧ E S Γ e fun Γ1 s => EA S Γ1 es fun Γ2 ss => Q Γ2 (s :: ss)
structure Po where
  nx : List Sl → Prop
  rt : List Sl → Sl → Prop
  bk : List Sl → Prop := fun _ => False
  ct : List Sl → Prop := fun _ => False
structure PoOk (K : PySem.W.Frag) (F G : Hp) (A : Asn) (n : Nat) (D : Po) (D' : Ends) : Prop where
  nx : ∀ Γ' σ' H', D.nx Γ' → σ'.length = n → Γ'.length = n → Ok K F G (A ++ Γ'.zip σ') H' → D'.nx σ' H'
  rt : ∀ Γ' s v σ' H', D.rt Γ' s → σ'.length = n → Γ'.length = n → Ok K F G ((s, some v) :: (A ++ Γ'.zip σ')) H' → D'.rt v H'
  bk : ∀ Γ' σ' H', D.bk Γ' → σ'.length = n → Γ'.length = n → Ok K F G (A ++ Γ'.zip σ') H' → D'.bk σ' H'
  ct : ∀ Γ' σ' H', D.ct Γ' → σ'.length = n → Γ'.length = n → Ok K F G (A ++ Γ'.zip σ') H' → D'.ct σ' H'
def B1 (S : Stc) (Γ : List Sl) (st : Stmt) (D : Po) : Prop :=
  ∀ X, S.Ok X → ∀ F G A σ H, σ.length = Γ.length → Ok X.K F G (A ++ Γ.zip σ) H → ∀ D', PoOk X.K F G A σ.length D D' → WS X st D' σ H
def B (S : Stc) (Γ : List Sl) (sts : List Stmt) (D : Po) : Prop :=
  ∀ X, S.Ok X → ∀ F G A σ H, σ.length = Γ.length → Ok X.K F G (A ++ Γ.zip σ) H → ∀ D', PoOk X.K F G A σ.length D D' → WSs X sts D' σ H
/-- a target gets data -/
def Gt (S : Stc) (Γ : List Sl) (tg : Expr) (d : PyData) (vs : List Nat) (Q : List Sl → Prop) : Prop :=
  ∃ g : PySem.W.Frag → TG, ∀ X, S.Ok X → PG X tg (g X.K) ∧ ∀ F G A σ H v, σ.length = Γ.length → Ok X.K F G ((.dat d, some v) :: (A ++ Γ.zip σ)) H →
    ∀ Q' : St → Hp → Prop, (∀ Γ' σ', Q Γ' → σ'.length = σ.length → Γ'.length = σ.length → (∀ ws : List Nat, (∀ i ∈ vs, i ∈ ws) → wipe σ' ws = wipe σ ws) → Ok X.K F G (A ++ Γ'.zip σ') H → Q' σ' H) → g X.K v σ H Q'
/-- data that is walked: R is what must stand meanwhile -/
structure ItD (K : PySem.W.Frag) (F G : Hp) (J : It) (R : Asn) (ds : List PyData) : Prop where
  go : ∀ A H i, i < ds.length → Ok K F G (R ++ A) H → J.go i H
  stop : ∀ A H, Ok K F G (R ++ A) H → J.stop ds.length H
  yld : ∀ A H i x H' d, ds[i]? = some d → Ok K F G (R ++ A) H → J.yld i H x H' → Ok K F G ((.dat d, some x) :: (R ++ A)) H'
def IJ (S : Stc) (Γ : List Sl) (tg it : Expr) (Q : List Sl → List PyData → Prop) : Prop :=
  ∀ X, S.Ok X → ∀ F G A σ H, σ.length = Γ.length → Ok X.K F G (A ++ Γ.zip σ) H → ∀ Q' : It → Hp → Prop,
    (∀ Γ' ds J R H', Q Γ' ds → σ.length = Γ'.length → ItD X.K F G J R ds → Ok X.K F G (R ++ (A ++ Γ'.zip σ)) H' → Q' J H') → WI X tg it σ H Q'

/-! ### slots -/
theorem zip_set {α β : Type} : ∀ (Γ : List α) (σ : List β) (i : Nat) (a : α) (b : β), (Γ.set i a).zip (σ.set i b) = (Γ.zip σ).set i (a, b)
  | [], σ, i, a, b => by simp
  | _ :: _, [], i, a, b => by simp
  | x :: Γ, y :: σ, 0, a, b => rfl
  | x :: Γ, y :: σ, i + 1, a, b => by
    show (x, y) :: ((Γ.set i a).zip (σ.set i b)) = (x, y) :: (Γ.zip σ).set i (a, b)
    rw [zip_set]
theorem perm_at {α : Type} : ∀ (l : List α) (i : Nat) (x : α), l[i]? = some x → l.Perm (x :: l.eraseIdx i)
  | [], _, _, h => by simp at h
  | y :: l, 0, x, h => by simp at h; subst h; exact .refl _
  | y :: l, i + 1, x, h => by
    have ih := perm_at l i x (by simpa using h)
    exact (List.Perm.cons y ih).trans (.swap _ _ _)
theorem perm_set {α : Type} : ∀ (l : List α) (i : Nat) (x : α), i < l.length → (l.set i x).Perm (x :: l.eraseIdx i)
  | [], _, _, h => by simp at h
  | y :: l, 0, x, h => .refl _
  | y :: l, i + 1, x, h => by
    have ih := perm_set l i x (by simpa using h)
    exact (List.Perm.cons y ih).trans (.swap _ _ _)
section
variable {K : PySem.W.Frag} {F G H : Hp} {A : Asn} {Γ : List Sl} {σ : St}
theorem Ok.store {l : Asn} {i : Nat} {x : Sl × Option V} (h : Ok K F G (x :: (A ++ l)) H) : Ok K F G (A ++ l.set i x) H := by
  by_cases hi : i < l.length
  · have p1 := perm_at l i l[i] (List.getElem?_eq_getElem hi)
    have h2 : Ok K F G (l[i] :: x :: (A ++ l.eraseIdx i)) H := by
      refine h.perm ?_
      refine (List.Perm.cons x (List.Perm.append_left A p1)).trans ?_
      refine (List.Perm.cons x List.perm_middle).trans (.swap _ _ _)
    refine h2.tail.perm ?_
    exact (List.perm_middle.symm).trans (List.Perm.append_left A (perm_set l i x hi).symm)
  · rw [List.set_eq_of_length_le (by omega)]
    exact h.tail
theorem Ok.set {i : Nat} {s : Sl} {v : Option V} (h : Ok K F G ((s, v) :: (A ++ Γ.zip σ)) H) : Ok K F G (A ++ (Γ.set i s).zip (σ.set i v)) H := by
  rw [zip_set]
  exact h.store
theorem zip_at {α β : Type} : ∀ {Γ : List α} {σ : List β} {i : Nat} {s : α}, σ.length = Γ.length → Γ[i]? = some s → ∃ v, σ[i]? = some v ∧ (Γ.zip σ)[i]? = some (s, v)
  | [], _, _, _, _, h => by simp at h
  | _ :: _, [], _, _, hl, _ => by simp at hl
  | x :: Γ, y :: σ, 0, s, hl, h => by simp at h; subst h; exact ⟨y, rfl, rfl⟩
  | x :: Γ, y :: σ, i + 1, s, hl, h => by
    obtain ⟨v, h1, h2⟩ := zip_at (Γ := Γ) (σ := σ) (i := i) (s := s) (by simpa using hl) (by simpa using h)
    exact ⟨v, by simpa using h1, by simpa using h2⟩
theorem Ok.at {i : Nat} {s : Sl} (h : Ok K F G (A ++ Γ.zip σ) H) (hl : σ.length = Γ.length) (hi : Γ[i]? = some s) : ∃ v, σ[i]? = some v ∧ (Γ.zip σ)[i]? = some (s, v) ∧ Ok K F G ((s, v) :: (A ++ (Γ.zip σ).eraseIdx i)) H := by
  obtain ⟨v, h1, h2⟩ := zip_at hl hi
  refine ⟨v, h1, h2, h.perm ?_⟩
  exact (List.Perm.append_left A (perm_at _ _ _ h2)).trans List.perm_middle
theorem Ok.back {i : Nat} {s : Sl} {v : Option V} {B : Asn} (h : Ok K F G (B ++ (s, v) :: (A ++ (Γ.zip σ).eraseIdx i)) H) (hi : (Γ.zip σ)[i]? = some (s, v)) : Ok K F G (B ++ (A ++ Γ.zip σ)) H := by
  refine h.perm (List.Perm.append_left B ?_)
  exact List.perm_middle.symm.trans (List.Perm.append_left A (perm_at _ _ _ hi).symm)
theorem set_same {α : Type} : ∀ {l : List α} {i : Nat} {x : α}, l[i]? = some x → l.set i x = l
  | [], _, _, h => by simp at h
  | y :: l, 0, x, h => by simp at h; subst h; rfl
  | y :: l, i + 1, x, h => by
    rw [List.set_cons_succ, set_same (by simpa using h)]
/-- an own slot has changed its state -/
theorem Ok.put {i : Nat} {s s' : Sl} {v : Option V} {B : Asn} (h : Ok K F G (B ++ (s', v) :: (A ++ (Γ.zip σ).eraseIdx i)) H) (hi : (Γ.zip σ)[i]? = some (s, v)) (hv : σ[i]? = some v) : Ok K F G (B ++ (A ++ (Γ.set i s').zip σ)) H := by
  have e : (Γ.set i s').zip σ = (Γ.zip σ).set i (s', v) := by
    rw [← zip_set, set_same hv]
  rw [e]
  refine h.perm (List.Perm.append_left B ?_)
  have hlt : i < (Γ.zip σ).length := (List.getElem?_eq_some_iff.mp hi).1
  exact List.perm_middle.symm.trans (List.Perm.append_left A (perm_set _ _ _ hlt).symm)
end

/-! ### two values, one after the other -/
section
variable {S : Stc} {Γ : List Sl} {a b c e : Expr} {pos p p2 : Pos}
theorem E.one {Q} (ha : E S Γ a Q) {X : Cx} (hX : S.Ok X) {F G : Hp} {A : Asn} {σ : St} {H : Hp} (hl : σ.length = Γ.length) (ok : Ok X.K F G (A ++ Γ.zip σ) H) {R : VK}
    (h : ∀ Γ1 s1 v1 H1, Q Γ1 s1 → σ.length = Γ1.length → Ok X.K F G ((s1, some v1) :: (A ++ Γ1.zip σ)) H1 → R v1 H1) : WE X a σ H R := ha X hX F G A σ H hl ok R h
theorem E.two {Q : List Sl → Sl → Sl → Prop} (ha : E S Γ a fun Γ1 s1 => E S Γ1 b fun Γ2 s2 => Q Γ2 s1 s2) {X : Cx} (hX : S.Ok X) {F G : Hp} {A : Asn} {σ : St} {H : Hp} (hl : σ.length = Γ.length) (ok : Ok X.K F G (A ++ Γ.zip σ) H) {R : V → V → Hp → Prop}
    (h : ∀ Γ2 s1 s2 v1 v2 H2, Q Γ2 s1 s2 → σ.length = Γ2.length → Ok X.K F G ((s2, some v2) :: (s1, some v1) :: (A ++ Γ2.zip σ)) H2 → R v1 v2 H2) :
    WE X a σ H fun v1 H1 => WE X b σ H1 fun v2 H2 => R v1 v2 H2 :=
  ha X hX F G A σ H hl ok _ fun Γ1 s1 v1 H1 q1 hl1 ok1 => q1 X hX F G ((s1, some v1) :: A) σ H1 hl1 ok1 _ fun Γ2 s2 v2 H2 q2 hl2 ok2 => h Γ2 s1 s2 v1 v2 H2 q2 hl2 ok2
theorem E.mono {Q Q' : List Sl → Sl → Prop} (h : E S Γ e Q) (m : ∀ Γ' s, Q Γ' s → Q' Γ' s) : E S Γ e Q' := fun X hX F G A σ H hl ok R k => h X hX F G A σ H hl ok R fun Γ' s v H' q => k Γ' s v H' (m _ _ q)
theorem T.mono {Q Q' : List Sl → Bool → Prop} (h : T S Γ e Q) (m : ∀ Γ' s, Q Γ' s → Q' Γ' s) : T S Γ e Q' := fun X hX F G A σ H hl ok R k => h X hX F G A σ H hl ok R fun Γ' s H' q => k Γ' s H' (m _ _ q)

/-! ### names and constants -/
theorem e_int {Q : List Sl → Sl → Prop} {n : Int} {j} (h : Q Γ (.dat (.int n))) : E S Γ (.Constant (.int n) j pos) Q :=
  fun X hX F G A σ H hl ok Q' k => WE.of pe_int (k Γ _ _ H h hl (ok.push fun _ => .int n))
theorem e_bl {Q : List Sl → Sl → Prop} {n : Bool} {j} (h : Q Γ (.dat (.bool n))) : E S Γ (.Constant (.bool n) j pos) Q :=
  fun X hX F G A σ H hl ok Q' k => WE.of pe_bl (k Γ _ _ H h hl (ok.push fun _ => .bl n))
theorem e_non {Q : List Sl → Sl → Prop} {j} (h : Q Γ (.dat .none)) : E S Γ (.Constant .none j pos) Q :=
  fun X hX F G A σ H hl ok Q' k => WE.of pe_non (k Γ _ _ H h hl (ok.push fun _ => .non))
theorem e_str {Q : List Sl → Sl → Prop} {x : Str} {j} (h : Q Γ (.dat (.str x))) : E S Γ (.Constant (.str x) j pos) Q :=
  fun X hX F G A σ H hl ok Q' k => WE.of pe_str (k Γ _ _ H h hl (ok.push fun _ => .str x))
theorem e_var {Q : List Sl → Sl → Prop} (i : Nat) {d : PyData} {x : Str} (hg : Γ[i]? = some (.dat d)) (h : Q Γ (.dat d)) (hN : S.N[i]? = some x := by rfl) (hv : Vis S.sc x := by first | exact Or.inl rfl | exact Or.inr (Or.inl rfl) | exact Or.inr (Or.inr rfl))
    (hd : (x == ("__debug__" : Str)) = false := by decide) (hcd : (x == ("__classdict__" : Str)) = false := by decide) : E S Γ (.Name x pos) Q := by
  intro X hX F G A σ H hl ok Q' k
  obtain ⟨v, h1, h2, h3⟩ := ok.at hl hg
  obtain ⟨w, rfl, hw⟩ := h3.dat
  refine WE.of (pe_var (i := i) (by rw [hX.N]; exact hN) (by rw [hX.sc]; exact hv) hd hcd) ⟨w, h1, k Γ _ w H h hl ?_⟩
  exact Ok.back (B := [(Sl.dat d, some w)]) h3.dup h2
/-- an own thing is named: it is lent -/
theorem e_bor {Q : List Sl → Sl → Prop} (i : Nat) {a : Addr} {R} {x : Str} (hg : Γ[i]? = some (.own a R)) (h : Q Γ (.bor a)) (hN : S.N[i]? = some x := by rfl) (hv : Vis S.sc x := by first | exact Or.inl rfl | exact Or.inr (Or.inl rfl) | exact Or.inr (Or.inr rfl))
    (hd : (x == ("__debug__" : Str)) = false := by decide) (hcd : (x == ("__classdict__" : Str)) = false := by decide) : E S Γ (.Name x pos) Q := by
  intro X hX F G A σ H hl ok Q' k
  obtain ⟨v, h1, h2, h3⟩ := ok.at hl hg
  have hv' : v = some (.ref a) := by
    obtain ⟨Hb, fp, _, _, _, h4, _⟩ := h3
    cases h4 with
    | cons q t => cases q; rfl
  subst hv'
  exact WE.of (pe_var (i := i) (by rw [hX.N]; exact hN) (by rw [hX.sc]; exact hv) hd hcd) ⟨.ref a, h1, k Γ _ (.ref a) H h hl ok.pushBor⟩
/-- an own list is named and is data from then on -/
theorem e_varF {Q : List Sl → Sl → Prop} (i : Nat) {a : Addr} {ds : List PyData} {x : Str} (hg : Γ[i]? = some (lst a ds)) (h : Q (Γ.set i (.dat (.list ds))) (.dat (.list ds))) (hN : S.N[i]? = some x := by rfl) (hv : Vis S.sc x := by first | exact Or.inl rfl | exact Or.inr (Or.inl rfl) | exact Or.inr (Or.inr rfl))
    (hd : (x == ("__debug__" : Str)) = false := by decide) (hcd : (x == ("__classdict__" : Str)) = false := by decide) : E S Γ (.Name x pos) Q := by
  intro X hX F G A σ H hl ok Q' k
  obtain ⟨v, h1, h2, h3⟩ := ok.at hl hg
  have h4 := h3.freeze
  obtain ⟨w, rfl, hw⟩ := h4.dat
  refine WE.of (pe_var (i := i) (by rw [hX.N]; exact hN) (by rw [hX.sc]; exact hv) hd hcd) ⟨w, h1, k _ _ w H h (by simpa using hl) ?_⟩
  exact Ok.put (B := [(Sl.dat (.list ds), some w)]) (s := lst a ds) (s' := .dat (.list ds)) h4.dup h2 h1
/-- a fresh list becomes data -/
theorem e_frz {Q : List Sl → Sl → Prop} (h : E S Γ e fun Γ' s => ∃ a ds, s = lst a ds ∧ Q Γ' (.dat (.list ds))) : E S Γ e Q := by
  intro X hX F G A σ H hl ok Q' k
  refine h X hX F G A σ H hl ok Q' fun Γ' s v H' ⟨a, ds, e1, q⟩ hl' ok' => ?_
  subst e1
  exact k Γ' _ v H' q hl' ok'.freeze

/-! ### tests -/
theorem t_val {Q : List Sl → Bool → Prop} (h : E S Γ e fun Γ' s => ∃ b, s = .dat (.bool b) ∧ Q Γ' b) (he : ∀ env whole, isTrue e env whole = (do let v ← whole; standAt e.pos; holding [v] (truthy v)) := by intro _ _; rfl) : T S Γ e Q := by
  intro X hX F G A σ H hl ok Q' k
  refine WT.of (pt_val WE.pe fun w => he _ w) ?_
  refine h.one hX hl ok fun Γ1 s1 v1 H1 ⟨b, e1, q⟩ hl1 ok1 => ?_
  subst e1
  obtain ⟨w, e2, hw⟩ := ok1.dat
  cases e2
  exact ⟨b, hw.flat_bl, k Γ1 b H1 q hl1 ok1.tail⟩
theorem t_not {Q : List Sl → Bool → Prop} (h : T S Γ a fun Γ' b => Q Γ' (!b)) : T S Γ (.UnaryOp .Not a pos) Q := by
  intro X hX F G A σ H hl ok Q' k
  exact WT.of (pt_not WT.pt) (h X hX F G A σ H hl ok _ fun Γ' b H' q hl' ok' => k Γ' _ H' q hl' ok')
theorem t_w {Q : List Sl → Bool → Prop} (h : TW S Γ e Q) : T S Γ e Q := by
  intro X hX F G A σ H hl ok Q' k
  exact WT.of (WW.pw.pt) (h X hX F G A σ H hl ok _ k)
theorem tw_and1 {Q : List Sl → Bool → Prop} (h : T S Γ a Q) : TW S Γ (.BoolOp .And [a] pos) Q := by
  intro X hX F G A σ H hl ok Q' k
  exact WW.of (pw_and1 WT.pt) (h X hX F G A σ H hl ok _ k)
theorem tw_or1 {Q : List Sl → Bool → Prop} (h : T S Γ a Q) : TW S Γ (.BoolOp .Or [a] pos) Q := by
  intro X hX F G A σ H hl ok Q' k
  exact WW.of (pw_or1 WT.pt) (h X hX F G A σ H hl ok _ k)
theorem tw_and {Q : List Sl → Bool → Prop} {rest : List Expr} (h : T S Γ a fun Γ' c => if c = true then TW S Γ' (.BoolOp .And (b :: rest) pos) Q else Q Γ' false) : TW S Γ (.BoolOp .And (a :: b :: rest) pos) Q := by
  intro X hX F G A σ H hl ok Q' k
  refine WW.of (pw_and WT.pt WW.pw) (h X hX F G A σ H hl ok _ fun Γ' c H' q hl' ok' => ?_)
  cases c with
  | true => exact q X hX F G A σ H' hl' ok' _ k
  | false => exact k Γ' _ H' q hl' ok'
theorem tw_or {Q : List Sl → Bool → Prop} {rest : List Expr} (h : T S Γ a fun Γ' c => if c = true then Q Γ' true else TW S Γ' (.BoolOp .Or (b :: rest) pos) Q) : TW S Γ (.BoolOp .Or (a :: b :: rest) pos) Q := by
  intro X hX F G A σ H hl ok Q' k
  refine WW.of (pw_or WT.pt WW.pw) (h X hX F G A σ H hl ok _ fun Γ' c H' q hl' ok' => ?_)
  cases c with
  | true => exact k Γ' _ H' q hl' ok'
  | false => exact q X hX F G A σ H' hl' ok' _ k
theorem e_ifExp {Q : List Sl → Sl → Prop} (h : T S Γ c fun Γ' t => if t = true then E S Γ' a Q else E S Γ' b Q) : E S Γ (.IfExp c a b pos) Q := by
  intro X hX F G A σ H hl ok Q' k
  refine WE.of (pe_ifExp WT.pt WE.pe WE.pe) (h X hX F G A σ H hl ok _ fun Γ' t H' q hl' ok' => ?_)
  cases t with
  | true => exact q X hX F G A σ H' hl' ok' _ k
  | false => exact q X hX F G A σ H' hl' ok' _ k
theorem e_not {Q : List Sl → Sl → Prop} (h : E S Γ a fun Γ' s => ∃ b, s = .dat (.bool b) ∧ Q Γ' (.dat (.bool (!b)))) : E S Γ (.UnaryOp .Not a pos) Q := by
  intro X hX F G A σ H hl ok Q' k
  refine WE.of (pe_not WE.pe) (h.one hX hl ok fun Γ1 s1 v1 H1 ⟨b, e1, q⟩ hl1 ok1 => ?_)
  subst e1
  obtain ⟨w, e2, hw⟩ := ok1.dat
  cases e2
  exact ⟨b, hw.flat_bl, k Γ1 _ _ H1 q hl1 (ok1.tail.push fun _ => .bl _)⟩
theorem e_one {Q : List Sl → Sl → Prop} {op} (h : E S Γ a Q) : E S Γ (.BoolOp op [a] pos) Q := by
  intro X hX F G A σ H hl ok Q' k
  exact WE.of (pe_one WE.pe) (h X hX F G A σ H hl ok _ k)
theorem e_and {Q : List Sl → Sl → Prop} {rest : List Expr} (h : E S Γ a fun Γ' s => ∃ t, s = .dat (.bool t) ∧ if t = true then E S Γ' (.BoolOp .And (b :: rest) pos) Q else Q Γ' (.dat (.bool false))) : E S Γ (.BoolOp .And (a :: b :: rest) pos) Q := by
  intro X hX F G A σ H hl ok Q' k
  refine WE.of (pe_and WE.pe WE.pe) (h.one hX hl ok fun Γ1 s1 v1 H1 ⟨t, e1, q⟩ hl1 ok1 => ?_)
  subst e1
  obtain ⟨w, e2, hw⟩ := ok1.dat
  cases e2
  refine ⟨t, hw.flat_bl, ?_⟩
  cases t with
  | true => exact q X hX F G A σ H1 hl1 ok1.tail _ k
  | false => exact k Γ1 _ _ H1 q hl1 (ok1.tail.push fun _ => .bl _)
theorem e_or {Q : List Sl → Sl → Prop} {rest : List Expr} (h : E S Γ a fun Γ' s => ∃ t, s = .dat (.bool t) ∧ if t = true then Q Γ' (.dat (.bool true)) else E S Γ' (.BoolOp .Or (b :: rest) pos) Q) : E S Γ (.BoolOp .Or (a :: b :: rest) pos) Q := by
  intro X hX F G A σ H hl ok Q' k
  refine WE.of (pe_or WE.pe WE.pe) (h.one hX hl ok fun Γ1 s1 v1 H1 ⟨t, e1, q⟩ hl1 ok1 => ?_)
  subst e1
  obtain ⟨w, e2, hw⟩ := ok1.dat
  cases e2
  refine ⟨t, hw.flat_bl, ?_⟩
  cases t with
  | true => exact k Γ1 _ _ H1 q hl1 (ok1.tail.push fun _ => .bl _)
  | false => exact q X hX F G A σ H1 hl1 ok1.tail _ k

/-! ### operators by values -/
/-- an operator of two data, no object made -/
def BinD (S : Stc) (f : Value → Value → Sem Value) (r2 : PyData → PyData → PyData → Prop) : Prop :=
  ∀ X, S.Ok X → ∃ r : R2, OpR X f r ∧ ∀ (H : Hp) (x y : V) (d1 d2 d : PyData) (Q' : VK), Dq X.K H x d1 → Dq X.K H y d2 → r2 d1 d2 d → (∀ v, (∀ Hb, Dq X.K Hb v d) → Q' v H) → r x y H Q'
theorem E.data2 {Q : List Sl → PyData → PyData → Prop} (ha : E S Γ a fun Γ1 s1 => E S Γ1 b fun Γ2 s2 => ∃ d1 d2, s1 = .dat d1 ∧ s2 = .dat d2 ∧ Q Γ2 d1 d2) {X : Cx} (hX : S.Ok X) {F G : Hp} {A : Asn} {σ : St} {H : Hp} (hl : σ.length = Γ.length) (ok : Ok X.K F G (A ++ Γ.zip σ) H) {R : V → V → Hp → Prop}
    (h : ∀ Γ2 d1 d2 v1 v2 H2, Q Γ2 d1 d2 → σ.length = Γ2.length → Dq X.K H2 v1 d1 → Dq X.K H2 v2 d2 → Ok X.K F G ((.dat d2, some v2) :: (.dat d1, some v1) :: (A ++ Γ2.zip σ)) H2 → R v1 v2 H2) :
    WE X a σ H fun v1 H1 => WE X b σ H1 fun v2 H2 => R v1 v2 H2 := by
  refine E.two ha hX hl ok fun Γ2 s1 s2 v1 v2 H2 ⟨d1, d2, e1, e2, q⟩ hl2 ok2 => ?_
  subst e1; subst e2
  obtain ⟨w2, e4, hw2⟩ := ok2.dat
  cases e4
  obtain ⟨w1, e3, hw1⟩ := ok2.tail.dat
  cases e3
  exact h Γ2 d1 d2 v1 v2 H2 q hl2 hw1 hw2 ok2
theorem e_bin {Q : List Sl → Sl → Prop} {op : Operator} {r2} (hb : BinD S (binaryOp op) r2) (h : E S Γ a fun Γ1 s1 => E S Γ1 b fun Γ2 s2 => ∃ d1 d2, s1 = .dat d1 ∧ s2 = .dat d2 ∧ ∃ d, r2 d1 d2 d ∧ Q Γ2 (.dat d)) : E S Γ (.BinOp a op b pos) Q := by
  intro X hX F G A σ H hl ok Q' k
  obtain ⟨r, hr, hq⟩ := hb X hX
  refine WE.of (pe_op hr WE.pe WE.pe) (E.data2 h hX hl ok fun Γ2 d1 d2 v1 v2 H2 ⟨d, q1, q2⟩ hl2 hd1 hd2 ok2 => ?_)
  exact hq H2 v1 v2 d1 d2 d Q' hd1 hd2 q1 fun v hv => k Γ2 _ v H2 q2 hl2 (ok2.tail.tail.push hv)
def CmpD (S : Stc) (f : Value → Value → Sem Value) (r2 : PyData → PyData → Bool → Prop) : Prop :=
  ∀ X, S.Ok X → ∃ r : R2, OpR X f r ∧ ∀ (H : Hp) (x y : V) (d1 d2 : PyData) (b : Bool) (Q' : VK), Dq X.K H x d1 → Dq X.K H y d2 → r2 d1 d2 b → Q' (.bl b) H → r x y H Q'
theorem e_cmp {Q : List Sl → Sl → Prop} {op : CmpOp} {r2} (hc : CmpD S (compareOp op) r2) (hm : behindInMarks op b = false := by rfl) (h : E S Γ a fun Γ1 s1 => E S Γ1 b fun Γ2 s2 => ∃ d1 d2, s1 = .dat d1 ∧ s2 = .dat d2 ∧ ∃ t, r2 d1 d2 t ∧ Q Γ2 (.dat (.bool t))) : E S Γ (.Compare a [op] [b] pos) Q := by
  intro X hX F G A σ H hl ok Q' k
  obtain ⟨r, hr, hq⟩ := hc X hX
  refine WE.of (pe_cmpR hr WE.pe WE.pe hm) (E.data2 h hX hl ok fun Γ2 d1 d2 v1 v2 H2 ⟨d, q1, q2⟩ hl2 hd1 hd2 ok2 => ?_)
  exact hq H2 v1 v2 d1 d2 d Q' hd1 hd2 q1 (k Γ2 _ _ H2 q2 hl2 (ok2.tail.tail.push fun _ => .bl _))
theorem t_cmp {Q : List Sl → Bool → Prop} {op : CmpOp} {r2} (hc : CmpD S (compareOp op) r2) (hm : behindInMarks op b = false := by rfl) (h : E S Γ a fun Γ1 s1 => E S Γ1 b fun Γ2 s2 => ∃ d1 d2, s1 = .dat d1 ∧ s2 = .dat d2 ∧ ∃ t, r2 d1 d2 t ∧ Q Γ2 t) : T S Γ (.Compare a [op] [b] pos) Q := by
  intro X hX F G A σ H hl ok Q' k
  obtain ⟨r, hr, hq⟩ := hc X hX
  refine WT.of (pt_cmpR hr WE.pe WE.pe hm) (E.data2 h hX hl ok fun Γ2 d1 d2 v1 v2 H2 ⟨d, q1, q2⟩ hl2 hd1 hd2 ok2 => ?_)
  exact hq H2 v1 v2 d1 d2 d _ hd1 hd2 q1 ⟨d, rfl, k Γ2 _ H2 q2 hl2 ok2.tail.tail⟩
end
end DL
namespace DL
open PySem L2

/-! ### a part of what is known, the rest set aside -/
theorem Sat.split {K : PySem.W.Frag} {Hb : Hp} : ∀ {B A : Asn} {fp : List (Addr × HO)}, Sat K Hb (B ++ A) fp → ∃ f1 f2, fp = f1 ++ f2 ∧ Sat K Hb B f1 ∧ Sat K Hb A f2
  | [], A, fp, h => ⟨[], fp, rfl, .nil, h⟩
  | x :: B, A, fp, h => by
    cases h with
    | cons q t =>
      obtain ⟨f1, f2, rfl, h1, h2⟩ := Sat.split t
      exact ⟨_, f2, by rw [← List.append_assoc], .cons q h1, h2⟩
theorem Sat.append {K : PySem.W.Frag} {Hb : Hp} : ∀ {B A : Asn} {f1 f2 : List (Addr × HO)}, Sat K Hb B f1 → Sat K Hb A f2 → Sat K Hb (B ++ A) (f1 ++ f2)
  | [], A, f1, f2, h, h' => by cases h; exact h'
  | x :: B, A, f1, f2, h, h' => by
    cases h with
    | cons q t =>
      have := Sat.cons q (Sat.append t h')
      rw [← List.append_assoc] at this
      exact this
section
variable {K : PySem.W.Frag} {F G H H' : Hp} {A B : Asn} {Γ : List Sl} {σ : St}
/-- THE FRAME: what is known of B is handed on alone; behind, the rest stands as it stood -/
theorem Ok.frame (h : Ok K F G (B ++ A) H) : ∃ F' G', Ok K F' G' B H ∧ ∀ B' H', Ok K F' G' B' H' → Ok K F G (B' ++ A) H' := by
  obtain ⟨Hb, fp, h1, h2, h3, h4, h5, h6⟩ := h
  obtain ⟨f1, f2, rfl, hB, hA⟩ := h4.split
  rw [List.map_append] at h6
  obtain ⟨n1, n2, n3⟩ := List.nodup_append.mp h6
  refine ⟨Hb, fun b => if b ∈ f2.map (·.1) then H b else G b, ⟨Hb, f1, Same.refl _, h2, fun b o e => ?_, hB, fun p hp => ?_, n1⟩, fun B' H' ⟨Hb', fp', k1, k2, k3, k4, k5, k6⟩ => ?_⟩
  · dsimp only at e
    by_cases hb : b ∈ f2.map (·.1)
    · rw [if_pos hb] at e
      obtain ⟨q, hq, rfl⟩ := List.mem_map.mp hb
      exact ⟨e, (h5 q (List.mem_append_right _ hq)).1⟩
    · rw [if_neg hb] at e
      exact h3 b o e
  · obtain ⟨q1, q2, q3⟩ := h5 p (List.mem_append_left _ hp)
    refine ⟨q1, ?_, q3⟩
    show (if _ then _ else _) = _
    rw [if_neg]
    · exact q2
    · intro hm
      exact n3 p.1 (List.mem_map_of_mem hp) p.1 hm rfl
  · have gA : ∀ q ∈ f2, (if q.1 ∈ f2.map (·.1) then H q.1 else G q.1) = some q.2 := fun q hq => by
      rw [if_pos (List.mem_map_of_mem hq)]
      exact (h5 q (List.mem_append_right _ hq)).2.2
    refine ⟨Hb', fp' ++ f2, Same.trans h1 k1, k2, fun b o e => ?_, k4.append (hA.mono k1), fun p hp => ?_, ?_⟩
    · refine k3 b o ?_
      show (if _ then _ else _) = _
      rw [if_neg]
      · exact e
      · intro hm
        obtain ⟨q, hq, rfl⟩ := List.mem_map.mp hm
        rw [(h5 q (List.mem_append_right _ hq)).2.1] at e
        cases e
    · rcases List.mem_append.mp hp with hp | hp
      · obtain ⟨q1, q2, q3⟩ := k5 p hp
        refine ⟨q1, ?_, q3⟩
        by_cases hm : p.1 ∈ f2.map (·.1)
        · obtain ⟨q, hq, e⟩ := List.mem_map.mp hm
          have := gA q hq
          rw [e] at this
          dsimp only at q2
          rw [q2] at this
          cases this
        · have q2' : (if p.1 ∈ f2.map (·.1) then H p.1 else G p.1) = none := q2
          rw [if_neg hm] at q2'
          exact q2'
      · obtain ⟨q1, q2, q3⟩ := h5 p (List.mem_append_right _ hp)
        obtain ⟨r1, r2⟩ := k3 p.1 p.2 (gA p hp)
        exact ⟨r2, q2, r1⟩
    · rw [List.map_append]
      refine List.nodup_append.mpr ⟨k6, n2, fun a ha b hb e => ?_⟩
      subst e
      obtain ⟨p, hp, rfl⟩ := List.mem_map.mp ha
      obtain ⟨q, hq, e⟩ := List.mem_map.mp hb
      have := gA q hq
      rw [e] at this
      have q2 := (k5 p hp).2.1
      dsimp only at q2
      rw [q2] at this
      cases this
theorem Ok.dropB (h : Ok K F G (B ++ A) H) : Ok K F G A H := by
  induction B with
  | nil => exact h
  | cons x B ih => exact ih h.tail

/-! ### data on the way -/
def dz (ds : List PyData) (vs : List V) : Asn := (ds.map Sl.dat).zip (vs.map some)
theorem dz_sat {Hb : Hp} : ∀ {ds : List PyData} {vs : List V} {fp}, vs.length = ds.length → Sat K Hb (dz ds vs) fp → DqAll K Hb vs ds
  | [], [], _, _, _ => .nil
  | [], _ :: _, _, h, _ => by simp at h
  | _ :: _, [], _, h, _ => by simp at h
  | d :: ds, v :: vs, _, hl, h => by
    cases h with
    | cons q t =>
      cases q with
      | dat q => exact .cons q (dz_sat (by simpa using hl) t)
theorem Ok.dz {ds : List PyData} {vs : List V} (hl : vs.length = ds.length) (h : Ok K F G (dz ds vs ++ A) H) : DqAll K H vs ds := by
  obtain ⟨Hb, fp, _, h2, _, h4, _⟩ := h
  obtain ⟨f1, _, _, h4, _⟩ := h4.split
  exact DqAll_mono h2 _ _ (dz_sat hl h4)
theorem Ok.tupD {ds : List PyData} {w : V} (h : Ok K F G ((.dat (.tuple ds), some w) :: A) H) : ∃ a xs, w = .ref a ∧ H a = some (.tup xs) ∧ DqAll K H xs ds ∧
    ∀ v d, (∀ Hb, DqAll K Hb xs ds → Dq K Hb v d) → Ok K F G ((.dat d, some v) :: (.dat (.tuple ds), some w) :: A) H := by
  obtain ⟨Hb, fp, h1, h2, h3, h4, h5, h6⟩ := h
  cases h4 with
  | cons q t =>
    cases q with
    | dat q =>
      obtain ⟨a, xs, rfl, hs, ha⟩ := q.of_tup
      exact ⟨a, xs, rfl, h2 _ _ hs, DqAll_mono h2 _ _ ha, fun v d k => ⟨Hb, _, h1, h2, h3, .cons (f := []) (.dat (k Hb ha)) (.cons (f := []) (.dat q) t), h5, h6⟩⟩
theorem Ok.lstD {ds : List PyData} {w : V} (h : Ok K F G ((.dat (.list ds), some w) :: A) H) : ∃ a xs, w = .ref a ∧ H a = some (.lst xs) ∧ DqAll K H xs ds ∧
    ∀ v d, (∀ Hb, DqAll K Hb xs ds → Dq K Hb v d) → Ok K F G ((.dat d, some v) :: (.dat (.list ds), some w) :: A) H := by
  obtain ⟨Hb, fp, h1, h2, h3, h4, h5, h6⟩ := h
  cases h4 with
  | cons q t =>
    cases q with
    | dat q =>
      obtain ⟨a, xs, rfl, hs, ha⟩ := q.of_lst
      exact ⟨a, xs, rfl, h2 _ _ hs, DqAll_mono h2 _ _ ha, fun v d k => ⟨Hb, _, h1, h2, h3, .cons (f := []) (.dat (k Hb ha)) (.cons (f := []) (.dat q) t), h5, h6⟩⟩
/-- a new tuple made of data that is on the way -/
theorem Ok.tupOf {ds : List PyData} {vs : List V} {p : Addr} (hl : vs.length = ds.length) (h : Ok K F G (DL.dz ds vs ++ A) H) (hp : H p = none) : Ok K F G ((.dat (.tuple ds), some (.ref p)) :: A) (upd H p (.tup vs)) := by
  have h1 := h.newTup (vs := vs) (ds := ds) hp fun Hb fp _ hs => dz_sat hl hs
  exact Ok.dropB (B := DL.dz ds vs) (h1.perm (List.perm_middle.symm))
theorem Ok.lstOf {ds : List PyData} {vs : List V} {p : Addr} (hl : vs.length = ds.length) (h : Ok K F G (DL.dz ds vs ++ A) H) (hp : H p = none) : Ok K F G ((DL.lst p ds, some (.ref p)) :: A) (upd H p (.lst vs)) := by
  have h1 := h.newLst (vs := vs) (ds := ds) hp fun Hb fp _ hs => dz_sat hl hs
  exact Ok.dropB (B := DL.dz ds vs) (h1.perm (List.perm_middle.symm))
end

/-! ### arguments -/
section
variable {S : Stc} {Γ : List Sl} {a b c e : Expr} {es : List Expr} {pos p p2 : Pos} {x : Str}
theorem EA.run {X : Cx} (hX : S.Ok X) {F G : Hp} {σ : St} : ∀ (es : List Expr) {Γ : List Sl} {A : Asn} {H : Hp} {Q : List Sl → List Sl → Prop} {Q' : List V → Hp → Prop}, EA S Γ es Q → σ.length = Γ.length → Ok X.K F G (A ++ Γ.zip σ) H →
    (∀ Γ' ss vs H', Q Γ' ss → σ.length = Γ'.length → vs.length = ss.length → vs.length = es.length → Ok X.K F G (ss.zip (vs.map some) ++ (A ++ Γ'.zip σ)) H' → Q' vs H') → WA X es σ H Q'
  | [], Γ, A, H, Q, Q', h, hl, ok, k => WA.of pa_nil (k Γ [] [] H h hl rfl rfl ok)
  | e :: es, Γ, A, H, Q, Q', h, hl, ok, k => by
    obtain ⟨hs, h⟩ := h
    refine WA.of (pa_cons WE.pe WA.pa (starEach_cons hs)) ?_
    refine h X hX F G A σ H hl ok _ fun Γ1 s1 v1 H1 q1 hl1 ok1 => ?_
    refine EA.run hX es (A := (s1, some v1) :: A) q1 hl1 ok1 fun Γ2 ss vs H2 q2 hl2 e1 e2 ok2 => ?_
    refine k Γ2 (s1 :: ss) (v1 :: vs) H2 q2 hl2 (by simp [e1]) (by simp [e2]) (ok2.perm ?_)
    exact List.perm_middle
theorem ea_nil {Q : List Sl → List Sl → Prop} (h : Q Γ []) : EA S Γ [] Q := h
theorem ea_cons {Q : List Sl → List Sl → Prop} (h : E S Γ e fun Γ1 s => EA S Γ1 es fun Γ2 ss => Q Γ2 (s :: ss)) (hs : noStar e = true := by rfl) : EA S Γ (e :: es) Q := ⟨hs, h⟩
theorem EA.mono : ∀ {es : List Expr} {Γ : List Sl} {Q Q' : List Sl → List Sl → Prop}, EA S Γ es Q → (∀ Γ' ss, Q Γ' ss → Q' Γ' ss) → EA S Γ es Q'
  | [], _, _, _, h, m => m _ _ h
  | e :: es, _, _, _, h, m => ⟨h.1, h.2.mono fun _ _ q => EA.mono q fun _ _ q => m _ _ q⟩
/-- all of them data -/
@[reducible] def Dats : List Sl → (List PyData → Prop) → Prop
  | [], Q => Q []
  | .dat d :: ss, Q => Dats ss fun ds => Q (d :: ds)
  | _ :: _, _ => False
theorem Dats.out : ∀ {ss : List Sl} {Q : List PyData → Prop}, Dats ss Q → ∃ ds, ss = ds.map Sl.dat ∧ Q ds
  | [], _, h => ⟨[], rfl, h⟩
  | .dat d :: ss, _, h => by
    obtain ⟨ds, e, q⟩ := Dats.out (ss := ss) h
    exact ⟨d :: ds, by rw [e]; rfl, q⟩
  | .un :: _, _, h => h.elim
  | .bor _ :: _, _, h => h.elim
  | .own _ _ :: _, _, h => h.elim
/-- an own thing lent, data behind it -/
@[reducible] def BorDats : List Sl → (Addr → List PyData → Prop) → Prop
  | .bor a :: ss, Q => Dats ss (Q a)
  | _, _ => False
theorem BorDats.out {ss : List Sl} {Q : Addr → List PyData → Prop} (h : BorDats ss Q) : ∃ a ds, ss = .bor a :: ds.map Sl.dat ∧ Q a ds := by
  match ss, h with
  | .bor a :: ss, h =>
    obtain ⟨ds, e, q⟩ := Dats.out (ss := ss) h
    exact ⟨a, ds, by rw [e], q⟩

theorem e_tup {Q : List Sl → Sl → Prop} {x1} (h : EA S Γ es fun Γ' ss => Dats ss fun ds => Q Γ' (.dat (.tuple ds))) (hn : es.length ≤ 1000 := by decide) : E S Γ (.Tuple es x1 pos) Q := by
  intro X hX F G A σ H hl ok Q' k
  refine WE.of (pe_tup WA.pa) (EA.run hX es h hl ok fun Γ' ss vs H' hD hl' l1 l2 ok' => ⟨?_, fun p hp => ?_⟩)
  · rw [l2, sizeLine_eq]; omega
  · obtain ⟨ds, e1, q⟩ := hD.out
    subst e1
    have l3 : vs.length = ds.length := by simpa using l1
    exact k Γ' _ _ _ q hl' (Ok.tupOf l3 ok' hp)
theorem e_lst {Q : List Sl → Sl → Prop} (h : EA S Γ es fun Γ' ss => Dats ss fun ds => ∀ a, Q Γ' (lst a ds)) (hn : es.length ≤ 1000 := by decide) : E S Γ (.List es pos) Q := by
  intro X hX F G A σ H hl ok Q' k
  refine WE.of (pe_lst WA.pa) (EA.run hX es h hl ok fun Γ' ss vs H' hD hl' l1 l2 ok' => ⟨?_, fun p hp => ?_⟩)
  · rw [l2, sizeLine_eq]; omega
  · obtain ⟨ds, e1, q⟩ := hD.out
    subst e1
    have l3 : vs.length = ds.length := by simpa using l1
    exact k Γ' _ _ _ (q p) hl' (Ok.lstOf l3 ok' hp)

/-! ### built-in functions and types of data, nothing made -/
def BltD (S : Stc) (f : Value) (r2 : List PyData → PyData → Prop) : Prop :=
  ∀ X, S.Ok X → ∃ r, CallR X f r ∧ ∀ (H : Hp) (vs : List V) (ds : List PyData) (d : PyData) (Q' : VK), DqAll X.K H vs ds → r2 ds d → (∀ v, (∀ Hb, Dq X.K Hb v d) → Q' v H) → r vs H Q'
theorem e_blt {Q : List Sl → Sl → Prop} {id : String} {r2} (hc : BltD S (.builtin id) r2) (h : EA S Γ (e :: es) fun Γ' ss => Dats ss fun ds => ∃ d, r2 ds d ∧ Q Γ' (.dat d)) (hs : S.sc.names.lookup x = some .globalImplicit) (hm : S.M.mg x = none) (hv : bootBuiltins x = some (.builtin id)) (hn : x ≠ "__name__" := by decide) (hdb : (x == ("__debug__" : Str)) = false := by decide) (hst : ((e :: es).all noStar) = true := by rfl) :
    E S Γ (.Call (.Name x p) (e :: es) [] pos) Q := by
  intro X hX F G A σ H hl ok Q' k
  obtain ⟨r, hr, hq⟩ := hc X hX
  have st : starEach (e :: es) X.env = (false, eval e X.env) :: starEach es X.env := starEach_cons (by simp [List.all_cons] at hst; exact hst.1)
  have st2 : ∀ (l : List Expr), l.all noStar = true → (backTo pos (starEach l X.env)).any (·.1) = false := by
    intro l
    induction l with
    | nil => intro _; rfl
    | cons y l ih =>
      intro hy
      simp only [List.all_cons, Bool.and_eq_true] at hy
      rw [starEach_cons hy.1]
      show (false || (backTo pos (starEach l X.env)).any (·.1)) = false
      rw [ih hy.2]; rfl
  simp only [List.all_cons, Bool.and_eq_true] at hst
  refine WE.of (pe_callB hr (by show X.env.scope.names.lookup x = _; rw [hX.sc]; exact hs) (by rw [hX.mg]; exact hm) hv WA.pa hn hdb st (st2 es hst.2)) ?_
  refine EA.run hX _ h hl ok fun Γ' ss vs H' hD hl' l1 l2 ok' => ?_
  obtain ⟨ds, e1, d, q1, q2⟩ := hD.out
  subst e1
  have l3 : vs.length = ds.length := by simpa using l1
  exact hq H' vs ds d Q' (Ok.dz l3 ok') q1 fun v hv => k Γ' _ v H' q2 hl' ((Ok.dropB (B := (ds.map Sl.dat).zip (vs.map some)) ok').push hv)
theorem e_bty {Q : List Sl → Sl → Prop} {id : String} {r2} (hc : BltD S (.type id) r2) (h : EA S Γ (e :: es) fun Γ' ss => Dats ss fun ds => ∃ d, r2 ds d ∧ Q Γ' (.dat d)) (hs : S.sc.names.lookup x = some .globalImplicit) (hm : S.M.mg x = none) (hv : bootBuiltins x = some (.type id)) (hn : x ≠ "__name__" := by decide) (hdb : (x == ("__debug__" : Str)) = false := by decide) (hst : ((e :: es).all noStar) = true := by rfl) :
    E S Γ (.Call (.Name x p) (e :: es) [] pos) Q := by
  intro X hX F G A σ H hl ok Q' k
  obtain ⟨r, hr, hq⟩ := hc X hX
  have st : starEach (e :: es) X.env = (false, eval e X.env) :: starEach es X.env := starEach_cons (by simp [List.all_cons] at hst; exact hst.1)
  have st2 : ∀ (l : List Expr), l.all noStar = true → (backTo pos (starEach l X.env)).any (·.1) = false := by
    intro l
    induction l with
    | nil => intro _; rfl
    | cons y l ih =>
      intro hy
      simp only [List.all_cons, Bool.and_eq_true] at hy
      rw [starEach_cons hy.1]
      show (false || (backTo pos (starEach l X.env)).any (·.1)) = false
      rw [ih hy.2]; rfl
  simp only [List.all_cons, Bool.and_eq_true] at hst
  refine WE.of (pe_callTy hr (by show X.env.scope.names.lookup x = _; rw [hX.sc]; exact hs) (by rw [hX.mg]; exact hm) hv WA.pa hn hdb st (st2 es hst.2)) ?_
  refine EA.run hX _ h hl ok fun Γ' ss vs H' hD hl' l1 l2 ok' => ?_
  obtain ⟨ds, e1, d, q1, q2⟩ := hD.out
  subst e1
  have l3 : vs.length = ds.length := by simpa using l1
  exact hq H' vs ds d Q' (Ok.dz l3 ok') q1 fun v hv => k Γ' _ v H' q2 hl' ((Ok.dropB (B := (ds.map Sl.dat).zip (vs.map some)) ok').push hv)

/-! ### calls of defs -/
/-- what a def does to what is known of its arguments -/
abbrev FR := List Sl → (List Sl → Sl → Prop) → Prop
def spG (K : PySem.W.Frag) (n : Nat) (R : FR) : Sp := fun vs H Q _ => ∃ F G ss Qd, vs.length = n ∧ ss.length = n ∧ Ok K F G (ss.zip (vs.map some)) H ∧ R ss Qd ∧
  ∀ ss' s v H', Qd ss' s → ss'.length = n → Ok K F G ((s, some v) :: ss'.zip (vs.map some)) H' → Q v H'
structure Fnc (M : Mdl) (x : Str) (k n : Nat) (R : FR) : Prop where
  ex : ∃ f fd ps, ps.length = n ∧ FnOk M.P M.w M.K M.mg M.base CX0 k f fd ps (spG M.K n R) ∧ M.mg x = some (.ref f) ∧ PySem.W.keepIn M.K (.ref f) = true ∧ Binds M.K fd ps []
/-- data in, what comes out -/
def RP (r : List PyData → (Sl → Prop) → Prop) : FR := fun ss Qd => ∃ ds, ss = ds.map Sl.dat ∧ r ds fun s => Qd (ds.map fun _ => Sl.un) s
theorem anyStar {env : Env} : ∀ (l : List Expr), l.all noStar = true → (backTo pos (starEach l env)).any (·.1) = false := by
  intro l
  induction l with
  | nil => intro _; rfl
  | cons y l ih =>
    intro hy
    simp only [List.all_cons, Bool.and_eq_true] at hy
    rw [starEach_cons hy.1]
    show (false || (backTo pos (starEach l env)).any (·.1)) = false
    rw [ih hy.2]; rfl
theorem Fnc.pe {k n : Nat} {R : FR} (hf : Fnc S.M x k n R) (hk : k ≤ S.k) {X : Cx} (hX : S.Ok X) (hs : S.sc.names.lookup x = some .globalImplicit) (hdb : (x == ("__debug__" : Str)) = false) (hst : ((e :: es).all noStar) = true) :
    PE X (.Call (.Name x p) (e :: es) [] pos) (tCall (spG X.K n R) [] E0 (WA X (e :: es))) := by
  obtain ⟨f, fd, ps, hn, hF, hm, hkp, hb⟩ := hf.ex
  have hst' := hst
  simp only [List.all_cons, Bool.and_eq_true] at hst
  refine pe_call (CX := CX0) (k := k) (f := f) (fd := fd) (ps := ps) (ds := []) ?_ (hX.room.mono hk) (by show X.env.scope.names.lookup x = _; rw [hX.sc]; exact hs) (by rw [hX.mg]; exact hm) (by rw [hX.K]; exact hkp) (by rw [hX.K]; exact hb) .nil pass0 WA.pa hdb (starEach_cons hst.1) (anyStar es hst.2)
  rw [hX.prog, hX.w, hX.K, hX.mg, hX.base]
  exact hF
/-- data to a def -/
theorem e_call {Q : List Sl → Sl → Prop} {k n : Nat} {r : List PyData → (Sl → Prop) → Prop} (hf : Fnc S.M x k n (RP r)) (h : EA S Γ (e :: es) fun Γ' ss => Dats ss fun ds => r ds fun s => Q Γ' s) (hn : (e :: es).length = n := by rfl) (hk : k ≤ S.k := by first | decide | (dsimp only [DL.St0, DL.Stc.blk]; decide) | exact Nat.le_refl _) (hs : S.sc.names.lookup x = some .globalImplicit := by rfl) (hdb : (x == ("__debug__" : Str)) = false := by decide) (hst : ((e :: es).all noStar) = true := by rfl) :
    E S Γ (.Call (.Name x p) (e :: es) [] pos) Q := by
  intro X hX F G A σ H hl ok Q' kk
  refine WE.of (hf.pe hk hX hs hdb hst) ?_
  refine EA.run hX _ h hl ok fun Γ' ss vs H' hD hl' l1 l2 ok' => ?_
  obtain ⟨ds, e1, q⟩ := hD.out
  subst e1
  obtain ⟨F', G', ok1, back⟩ := ok'.frame
  show spG X.K n (RP r) (vs ++ []) H' Q' E0
  rw [List.append_nil]
  refine ⟨F', G', ds.map Sl.dat, fun ss' s => ss' = (ds.map fun _ => Sl.un) ∧ Q Γ' s, by omega, by rw [← l1, l2]; exact hn, ok1, ⟨ds, rfl, ?_⟩, fun ss' s v H2 ⟨e2, q2⟩ l3 ok2 => ?_⟩
  · have : (fun s => Q Γ' s) = (fun s => (List.map (fun _ => Sl.un) ds = List.map (fun _ => Sl.un) ds) ∧ Q Γ' s) := by
      funext s; simp
    rw [this] at q
    exact q
  · have ok3 := back _ _ ok2
    refine kk Γ' s v H2 q2 hl' ?_
    refine Ok.dropB (B := ss'.zip (vs.map some)) (ok3.perm ?_)
    exact (List.perm_middle (l₁ := ss'.zip (vs.map some)) (l₂ := A ++ Γ'.zip σ)).symm
/-- an own thing lent as the first argument, data behind it -/
theorem e_callO {Q : List Sl → Sl → Prop} {k n : Nat} {R : FR} (hf : Fnc S.M x k n R) (h : EA S Γ (e :: es) fun Γ' ss => BorDats ss fun a ds => ∃ (i : Nat) (R0 : PySem.W.Frag → Hp → List (Addr × HO) → Prop), Γ'[i]? = some (.own a R0) ∧
      R (.own a R0 :: ds.map Sl.dat) fun ss' s => ∃ R' tl, ss' = .own a R' :: tl ∧ Q (Γ'.set i (.own a R')) s) (hn : (e :: es).length = n := by rfl) (hk : k ≤ S.k := by first | decide | (dsimp only [DL.St0, DL.Stc.blk]; decide) | exact Nat.le_refl _) (hs : S.sc.names.lookup x = some .globalImplicit := by rfl) (hdb : (x == ("__debug__" : Str)) = false := by decide) (hst : ((e :: es).all noStar) = true := by rfl) :
    E S Γ (.Call (.Name x p) (e :: es) [] pos) Q := by
  intro X hX F G A σ H hl ok Q' kk
  refine WE.of (hf.pe hk hX hs hdb hst) ?_
  refine EA.run hX _ h hl ok fun Γ' ss vs H' hD hl' l1 l2 ok' => ?_
  obtain ⟨a, ds, e1, i, R0, hi, q⟩ := hD.out
  subst e1
  cases vs with
  | nil => simp at l1
  | cons v0 vs =>
    -- the own thing is taken out of its slot
    have okb : Ok X.K F G ((ds.map Sl.dat).zip (vs.map some) ++ (A ++ Γ'.zip σ)) H' := ok'.tail
    have hv0 : v0 = .ref a := by
      obtain ⟨Hb, fp, _, _, _, h4, _⟩ := ok'
      cases h4 with
      | cons q t => cases q; rfl
    subst hv0
    rw [← List.append_assoc] at okb
    obtain ⟨w, h1, h2, ok2⟩ := okb.at hl' hi
    have hw : w = some (.ref a) := by
      obtain ⟨Hb, fp, _, _, _, h4, _⟩ := ok2
      cases h4 with
      | cons q t => cases q; rfl
    subst hw
    have ok3 : Ok X.K F G (((Sl.own a R0 :: ds.map Sl.dat).zip ((V.ref a :: vs).map some)) ++ (A ++ (Γ'.zip σ).eraseIdx i)) H' := by
      rw [List.append_assoc] at ok2
      exact ok2
    obtain ⟨F', G', ok4, back⟩ := ok3.frame
    show spG X.K n R ((V.ref a :: vs) ++ []) H' Q' E0
    rw [List.append_nil]
    refine ⟨F', G', Sl.own a R0 :: ds.map Sl.dat, _, by omega, by rw [← hn, ← l2, l1]; simp, ok4, q, fun ss' s v H2 ⟨R', tl, e2, q2⟩ l3 ok5 => ?_⟩
    subst e2
    have ok6 := back _ _ ok5
    refine kk _ s v H2 q2 (by simpa using hl') ?_
    have ok7 : Ok X.K F G ([(s, some v)] ++ (Sl.own a R', some (V.ref a)) :: (A ++ (Γ'.zip σ).eraseIdx i)) H2 := by
      refine Ok.dropB (B := tl.zip (vs.map some)) (ok6.perm ?_)
      show ((s, some v) :: (Sl.own a R', some (V.ref a)) :: (tl.zip (vs.map some) ++ (A ++ (Γ'.zip σ).eraseIdx i))).Perm _
      have := (List.perm_append_comm (l₁ := [(s, some v), (Sl.own a R', some (V.ref a))]) (l₂ := tl.zip (vs.map some))).append_right (A ++ (Γ'.zip σ).eraseIdx i)
      simpa using this
    exact Ok.put (B := [(s, some v)]) (s := .own a R0) ok7 h2 h1
end
end DL
namespace DL
open PySem L2

/-! ### targets -/
inductive Tg where
  | name (i : Nat)
  | tup (ts : List Tg)
mutual
def tgG (K : PySem.W.Frag) : Tg → TG
  | .name i => gName i
  | .tup ts => gTup K ts.length (tgGs K ts)
def tgGs (K : PySem.W.Frag) : List Tg → TGs
  | [] => gNil
  | t :: ts => gCons (tgG K t) (tgGs K ts)
end
mutual
def Tg.ixs : Tg → List Nat
  | .name i => [i]
  | .tup ts => Tg.ixsAll ts
def Tg.ixsAll : List Tg → List Nat
  | [] => []
  | t :: ts => Tg.ixs t ++ Tg.ixsAll ts
end
mutual
def Tg.put : Tg → PyData → List Sl → (List Sl → Prop) → Prop
  | .name i, d, Γ, Q => Q (Γ.set i (.dat d))
  | .tup ts, d, Γ, Q => ∃ ds, d = .tuple ds ∧ ds.length = ts.length ∧ Tg.puts ts ds Γ Q
def Tg.puts : List Tg → List PyData → List Sl → (List Sl → Prop) → Prop
  | [], _, Γ, Q => Q Γ
  | _ :: _, [], _, _ => False
  | t :: ts, d :: ds, Γ, Q => Tg.put t d Γ fun Γ1 => Tg.puts ts ds Γ1 Q
end
mutual
inductive TgOk (S : Stc) : Expr → Tg → Prop
  | name {x pos} (i : Nat) (h1 : S.N[i]? = some x := by rfl) (h2 : Loc S.sc x := by first | exact Or.inl rfl | exact Or.inr rfl) (h3 : S.fn x = true ∨ S.sc.names.lookup x = some .local := by first | exact Or.inl rfl | exact Or.inr rfl) : TgOk S (.Name x pos) (.name i)
  | tup {es k pos ts} : TgsOk S es ts → TgOk S (.Tuple es k pos) (.tup ts)
inductive TgsOk (S : Stc) : List Expr → List Tg → Prop
  | nil : TgsOk S [] []
  | cons {e es t ts} : TgOk S e t → TgsOk S es ts → TgsOk S (e :: es) (t :: ts)
end
section
variable {S : Stc} {X : Cx}
theorem TgOk.ns {e t} (h : TgOk S e t) : noStar e = true := by cases h <;> rfl
theorem assignEach_cons {e : Expr} {es : List Expr} {env : Env} (h : noStar e = true) : assignEach (e :: es) env = (false, assign e env) :: assignEach es env := by
  cases e <;> first | rfl | cases h
theorem TgsOk.each {env : Env} : ∀ {es ts}, TgsOk S es ts → (assignEach es env).length = ts.length ∧ (assignEach es env).findIdx? (·.1) = none
  | _, _, .nil => ⟨rfl, rfl⟩
  | _, _, .cons h t => by
    obtain ⟨h1, h2⟩ := TgsOk.each (env := env) t
    rw [assignEach_cons h.ns]
    refine ⟨by simp [h1], ?_⟩
    rw [List.findIdx?_cons]
    simp [h2]
mutual
theorem TgOk.pg (hX : S.Ok X) : ∀ {e : Expr} {t : Tg}, TgOk S e t → PG X e (tgG X.K t)
  | _, _, .name i h1 h2 h3 => by
    exact pg_name (X := X) (i := i) hX.nd (by rw [hX.N]; exact h1) (by rw [hX.sc]; exact h2) (by rw [hX.fn, hX.sc]; exact h3)
  | _, _, .tup h => by
    have q := TgsOk.each (env := X.env) h
    exact pg_tup hX.calm (TgsOk.pgs hX h) q.1 q.2
theorem TgsOk.pgs (hX : S.Ok X) : ∀ {es : List Expr} {ts : List Tg}, TgsOk S es ts → PGs X es (tgGs X.K ts)
  | _, _, .nil => pgs_nil
  | _, _, .cons h t => pgs_cons (TgOk.pg hX h) (TgsOk.pgs hX t) (by rw [assignEach_cons h.ns]; rfl)
end
theorem wipe_set {σ : St} {v : Option V} : ∀ {ws : List Nat} {i : Nat}, i ∈ ws → wipe (σ.set i v) ws = wipe σ ws
  | [], i, h => by cases h
  | w :: ws, i, h => by
    unfold wipe
    by_cases hi : i ∈ ws
    · rw [wipe_set hi]
    · have e : i = w := by
        rcases List.mem_cons.mp h with e | e
        · exact e
        · exact absurd e hi
      subst e
      have key : ∀ (ws : List Nat), i ∉ ws → wipe (σ.set i v) ws = (wipe σ ws).set i v := by
        intro ws
        induction ws with
        | nil => intro _; rfl
        | cons w ws ih =>
          intro hn
          unfold wipe
          rw [ih (fun z => hn (List.mem_cons_of_mem _ z)), List.set_comm]
          exact fun e => hn (by rw [e]; exact List.mem_cons_self)
      rw [key ws hi, List.set_set]
mutual
theorem Tg.run {K : PySem.W.Frag} {F G H : Hp} : ∀ (t : Tg) {d : PyData} {Γ : List Sl} {σ : St} {A : Asn} {v : V} {Q : List Sl → Prop} {Q' : St → Hp → Prop}, t.put d Γ Q → σ.length = Γ.length → Ok K F G ((.dat d, some v) :: (A ++ Γ.zip σ)) H →
    (∀ Γ' σ', Q Γ' → σ'.length = σ.length → Γ'.length = σ.length → (∀ ws : List Nat, (∀ i ∈ t.ixs, i ∈ ws) → wipe σ' ws = wipe σ ws) → Ok K F G (A ++ Γ'.zip σ') H → Q' σ' H) → tgG K t v σ H Q'
  | .name i, d, Γ, σ, A, v, Q, Q', h, hl, ok, k => by
    refine k _ _ h (by simp) (by simp [hl]) (fun ws hw => wipe_set (hw i (by simp [Tg.ixs]))) ok.set
  | .tup ts, d, Γ, σ, A, v, Q, Q', h, hl, ok, k => by
    obtain ⟨ds, rfl, hn, h⟩ := h
    obtain ⟨a, xs, rfl, hs, ha, back⟩ := ok.tupD
    refine ⟨a, xs, rfl, SqT.of hs, by rw [DqAll.length ha, hn], ?_⟩
    refine Tg.runs ts (A := A) h hl (by rw [DqAll.length ha]) ?_ k hn
    -- the items, one by one, on the way
    obtain ⟨Hb, fp, h1, h2, h3, h4, h5, h6⟩ := ok
    cases h4 with
    | cons q t =>
      cases q with
      | dat q =>
        obtain ⟨a', xs', e, hs', ha'⟩ := Dq.of_tup q
        cases e
        have ex : xs' = xs := by
          have := (h2 _ _ hs').symm.trans hs
          injection this with this
          injection this
        subst ex
        exact ⟨Hb, _, h1, h2, h3, t, h5, h6, ha'⟩
theorem Tg.runs {K : PySem.W.Frag} {F G H : Hp} : ∀ (ts : List Tg) {ds : List PyData} {Γ : List Sl} {σ : St} {A : Asn} {vs : List V} {Q : List Sl → Prop} {Q' : St → Hp → Prop}, Tg.puts ts ds Γ Q → σ.length = Γ.length → vs.length = ds.length →
    (∃ Hb fp, Same F Hb ∧ Same Hb H ∧ (∀ b o, G b = some o → H b = some o ∧ Hb b = none) ∧ Sat K Hb (A ++ Γ.zip σ) fp ∧ (∀ p ∈ fp, Hb p.1 = none ∧ G p.1 = none ∧ H p.1 = some p.2) ∧ (fp.map (·.1)).Nodup ∧ DqAll K Hb vs ds) →
    (∀ Γ' σ', Q Γ' → σ'.length = σ.length → Γ'.length = σ.length → (∀ ws : List Nat, (∀ i ∈ Tg.ixsAll ts, i ∈ ws) → wipe σ' ws = wipe σ ws) → Ok K F G (A ++ Γ'.zip σ') H → Q' σ' H) → ds.length = ts.length → tgGs K ts vs σ H Q'
  | [], ds, Γ, σ, A, vs, Q, Q', h, hl, hv, ok, k, hn => by
    obtain ⟨Hb, fp, h1, h2, h3, h4, h5, h6, ha⟩ := ok
    have e : ds = [] := List.length_eq_zero_iff.mp hn
    subst e
    have e : vs = [] := List.length_eq_zero_iff.mp hv
    subst e
    exact ⟨rfl, k Γ σ h rfl hl.symm (fun _ _ => rfl) ⟨Hb, fp, h1, h2, h3, h4, h5, h6⟩⟩
  | t :: ts, [], Γ, σ, A, vs, Q, Q', h, hl, hv, ok, k, hn => False.elim h
  | t :: ts, d :: ds, Γ, σ, A, [], Q, Q', h, hl, hv, ok, k, hn => by simp at hv
  | t :: ts, d :: ds, Γ, σ, A, v :: vs, Q, Q', h, hl, hv, ok, k, hn => by
    refine ⟨v, vs, rfl, ?_⟩
    obtain ⟨Hb, fp, h1, h2, h3, h4, h5, h6, ha⟩ := ok
    cases ha with
    | cons hd ha =>
      have hv' : vs.length = ds.length := by simpa using hv
      have ok1 : Ok K F G ((.dat d, some v) :: (dz ds vs ++ A ++ Γ.zip σ)) H := by
        refine ⟨Hb, fp, h1, h2, h3, .cons (f := []) (.dat hd) ?_, h5, h6⟩
        rw [List.append_assoc]
        have hz : ∀ {ds : List PyData} {vs : List V}, DqAll K Hb vs ds → Sat K Hb (dz ds vs) [] := by
          intro ds
          induction ds with
          | nil => intro vs h; cases h; exact .nil
          | cons d ds ih => intro vs h; cases h with | cons h t => exact .cons (f := []) (.dat h) (ih t)
        exact Sat.append (hz ha) h4
      refine Tg.run t (A := dz ds vs ++ A) h hl ok1 fun Γ1 σ1 q1 l1 l2 w1 ok2 => ?_
      refine Tg.runs ts (A := A) q1 (by rw [l1, l2]) hv' ?_ (fun Γ' σ' q' l3 l4 w2 ok3 => k Γ' σ' q' (l3.trans l1) (l4.trans l1) (fun ws hw => ?_) ok3) (by simpa using hn)
      · rw [List.append_assoc] at ok2
        obtain ⟨Hb', fp', k1, k2, k3, k4, k5, k6⟩ := ok2
        obtain ⟨f1, f2, e, s1, s2⟩ := k4.split
        have ef : ∀ {ds : List PyData} {vs : List V} {f}, Sat K Hb' (dz ds vs) f → f = [] := by
          intro ds
          induction ds with
          | nil => intro vs f h; cases h; rfl
          | cons d ds ih =>
            intro vs f h
            cases vs with
            | nil => cases h; rfl
            | cons v vs => cases h with | cons q t => cases q; rw [ih t]; rfl
        have e1 := ef s1
        subst e1
        rw [List.nil_append] at e
        subst e
        exact ⟨Hb', _, k1, k2, k3, s2, k5, k6, dz_sat hv' s1⟩
      · rw [w2 ws fun i hi => hw i (by simp [Tg.ixsAll, hi]), w1 ws fun i hi => hw i (by simp [Tg.ixsAll, hi])]
end
end

/-! ### a comprehension's own slots -/
def wipeG : List Sl → List Nat → List Sl
  | Γ, [] => Γ
  | Γ, v :: vs => (wipeG Γ vs).set v .un
def restG : List Sl → List Nat → List Sl → List Sl
  | _, [], Γ' => Γ'
  | Γ, v :: vs, Γ' => (restG Γ vs Γ').set v (Γ.getD v .un)
def keptAt (Γ : List Sl) (σ : St) (vs : List Nat) : Asn := vs.map fun v => (Γ.getD v .un, σ.getD v none)
theorem wipeG_length (Γ : List Sl) : ∀ vs : List Nat, (wipeG Γ vs).length = Γ.length
  | [] => rfl
  | v :: vs => by unfold wipeG; rw [List.length_set, wipeG_length Γ vs]
theorem restG_length (Γ : List Sl) : ∀ (vs : List Nat) (Γ' : List Sl), (restG Γ vs Γ').length = Γ'.length
  | [], _ => rfl
  | v :: vs, Γ' => by unfold restG; rw [List.length_set, restG_length Γ vs Γ']
theorem wipeG_out {Γ : List Sl} {i : Nat} : ∀ {vs : List Nat}, i ∉ vs → (wipeG Γ vs)[i]? = Γ[i]?
  | [], _ => rfl
  | v :: vs, h => by
    have h1 : v ≠ i := fun e => h (by rw [e]; exact List.mem_cons_self)
    have h2 : i ∉ vs := fun m => h (List.mem_cons_of_mem _ m)
    unfold wipeG
    rw [List.getElem?_set_ne h1]
    exact wipeG_out h2
section
variable {K : PySem.W.Frag} {F G H : Hp} {A : Asn} {Γ Γ' : List Sl} {σ σ' : St}
theorem Ok.wipe (hl : σ.length = Γ.length) : ∀ {vs : List Nat}, vs.Nodup → Ok K F G (A ++ Γ.zip σ) H → Ok K F G ((keptAt Γ σ vs ++ A) ++ (wipeG Γ vs).zip (wipe σ vs)) H
  | [], _, h => h
  | v :: vs, nd, h => by
    obtain ⟨n1, n2⟩ := List.nodup_cons.mp nd
    have ih := Ok.wipe hl n2 h
    unfold wipeG L2.wipe
    have e1 : (wipeG Γ vs)[v]? = Γ[v]? := wipeG_out n1
    have e2 : (L2.wipe σ vs)[v]? = σ[v]? := wipe_out n1
    by_cases hv : v < Γ.length
    · have g1 : Γ[v]? = some Γ[v] := List.getElem?_eq_getElem hv
      have hv' : v < σ.length := by omega
      have g2 : σ[v]? = some σ[v] := List.getElem?_eq_getElem hv'
      have hl' : (L2.wipe σ vs).length = (wipeG Γ vs).length := by rw [wipe_length, wipeG_length, hl]
      obtain ⟨w, h1, h2, ok⟩ := ih.at hl' (e1.trans g1)
      have ew : w = σ[v] := by
        have := h1.symm.trans (e2.trans g2)
        exact Option.some.inj this
      subst ew
      have ok1 : Ok K F G ((Sl.un, none) :: (((Γ[v], σ[v]) :: (keptAt Γ σ vs ++ A)) ++ ((wipeG Γ vs).zip (L2.wipe σ vs)).eraseIdx v)) H := ok.pushUn
      have ez : ((wipeG Γ vs).set v .un).zip ((L2.wipe σ vs).set v none) = ((wipeG Γ vs).zip (L2.wipe σ vs)).set v (.un, none) := zip_set _ _ _ _ _
      have ek : keptAt Γ σ (v :: vs) = (Γ[v], σ[v]) :: keptAt Γ σ vs := by
        show (Γ.getD v .un, σ.getD v none) :: keptAt Γ σ vs = _
        rw [List.getD_eq_getElem?_getD, List.getD_eq_getElem?_getD, g1, g2]
        rfl
      rw [ez, ek]
      refine ok1.perm ?_
      have hlt : v < ((wipeG Γ vs).zip (L2.wipe σ vs)).length := (List.getElem?_eq_some_iff.mp h2).1
      refine (List.perm_middle.symm).trans ?_
      exact List.Perm.append_left _ (perm_set _ _ _ hlt).symm
    · have ek : keptAt Γ σ (v :: vs) = (.un, none) :: keptAt Γ σ vs := by
        show (Γ.getD v .un, σ.getD v none) :: keptAt Γ σ vs = _
        rw [List.getD_eq_getElem?_getD, List.getD_eq_getElem?_getD, List.getElem?_eq_none (by omega), List.getElem?_eq_none (by omega)]
        rfl
      rw [List.set_eq_of_length_le (by rw [wipeG_length]; omega), List.set_eq_of_length_le (by rw [wipe_length]; omega), ek]
      exact ih.pushUn
def restS : St → List Nat → St → St
  | _, [], σ' => σ'
  | σ, v :: vs, σ' => (restS σ vs σ').set v (σ.getD v none)
theorem restS_length (σ : St) : ∀ (vs : List Nat) (σ' : St), (restS σ vs σ').length = σ'.length
  | [], _ => rfl
  | v :: vs, σ' => by unfold restS; rw [List.length_set, restS_length σ vs σ']
theorem restS_get (σ : St) : ∀ (vs : List Nat) (σ' : St) (i : Nat), i < σ'.length → σ'.length = σ.length → (restS σ vs σ')[i]? = if i ∈ vs then σ[i]? else σ'[i]?
  | [], σ', i, h, e => by simp [restS]
  | v :: vs, σ', i, h, e => by
    unfold restS
    by_cases hi : v = i
    · subst hi
      rw [List.getElem?_set_self (by rw [restS_length]; exact h), if_pos List.mem_cons_self, List.getD_eq_getElem?_getD, List.getElem?_eq_getElem (by omega)]
      rfl
    · rw [List.getElem?_set_ne hi, restS_get σ vs σ' i h e]
      by_cases hm : i ∈ vs
      · rw [if_pos hm, if_pos (List.mem_cons_of_mem _ hm)]
      · rw [if_neg hm, if_neg]
        intro z
        rcases List.mem_cons.mp z with z | z
        · exact hi z.symm
        · exact hm z
theorem restS_eq {vs : List Nat} (h : L2.wipe σ' vs = L2.wipe σ vs) : restS σ vs σ' = σ := by
  have hl : σ'.length = σ.length := by
    have := congrArg List.length h
    rwa [wipe_length, wipe_length] at this
  refine List.ext_getElem? fun i => ?_
  by_cases hi : i < σ'.length
  · rw [restS_get σ vs σ' i hi hl]
    by_cases hm : i ∈ vs
    · rw [if_pos hm]
    · rw [if_neg hm]
      have := congrArg (fun l => l[i]?) h
      rwa [wipe_out hm, wipe_out hm] at this
  · rw [List.getElem?_eq_none (by rw [restS_length]; omega), List.getElem?_eq_none (by omega)]
theorem Ok.unwipe0 : ∀ {vs : List Nat} {A : Asn}, Ok K F G ((keptAt Γ σ vs ++ A) ++ Γ'.zip σ') H → Ok K F G (A ++ (restG Γ vs Γ').zip (restS σ vs σ')) H
  | [], A, h => h
  | v :: vs, A, h => by
    unfold restG restS
    have h1 : Ok K F G ((keptAt Γ σ vs ++ ((Γ.getD v .un, σ.getD v none) :: A)) ++ Γ'.zip σ') H := by
      refine h.perm ?_
      show ((((Γ.getD v .un, σ.getD v none) :: keptAt Γ σ vs) ++ A) ++ Γ'.zip σ').Perm _
      refine List.Perm.append_right _ ?_
      exact (List.perm_middle (l₁ := keptAt Γ σ vs) (l₂ := A)).symm
    have ih := Ok.unwipe0 h1
    exact Ok.set ih
theorem Ok.unwipe {vs : List Nat} (hw : L2.wipe σ' vs = L2.wipe σ vs) (h : Ok K F G ((keptAt Γ σ vs ++ A) ++ Γ'.zip σ') H) : Ok K F G (A ++ (restG Γ vs Γ').zip σ) H := by
  have := h.unwipe0
  rwa [restS_eq hw] at this
end
end DL
namespace DL
open PySem L2

section
variable {S : Stc} {Γ : List Sl} {a b c e tg it elt : Expr} {es : List Expr} {pos p p2 : Pos} {x : Str}

/-! ### what is walked -/
theorem ij_lst {Q : List Sl → List PyData → Prop} (h : E S Γ it fun Γ' s => ∃ ds, s = .dat (.list ds) ∧ Q Γ' ds) : IJ S Γ tg it Q := by
  intro X hX F G A σ H hl ok Q' k
  refine WI.of (pi_list WE.pe) (h.one hX hl ok fun Γ1 s1 v1 H1 ⟨ds, e1, q⟩ hl1 ok1 => ?_)
  subst e1
  obtain ⟨a, xs, rfl, hs, ha, _⟩ := ok1.lstD
  refine ⟨a, rfl, ⟨xs, SqL.of hs⟩, k Γ1 ds _ [(.dat (.list ds), some (.ref a))] H1 q hl1 ⟨fun A H i hi o => ?_, fun A H o => ?_, fun A H i x H' d hd o y => ?_⟩ ok1⟩
  · obtain ⟨a', xs', e, hs', ha', _⟩ := o.lstD
    cases e
    obtain ⟨v, hv, _⟩ := DqAll.get ha' (List.getElem?_eq_getElem hi)
    exact ⟨xs', v, SqL.of hs', hv⟩
  · obtain ⟨a', xs', e, hs', ha', _⟩ := o.lstD
    cases e
    exact ⟨xs', SqL.of hs', by rw [DqAll.length ha']; exact Nat.le_refl _⟩
  · obtain ⟨a', xs', e, hs', ha', back⟩ := o.lstD
    cases e
    obtain ⟨rfl, y⟩ := y
    have hv := y xs' (SqL.of hs')
    exact back x d fun Hb h => by
      obtain ⟨v, h1, h2⟩ := DqAll.get h hd
      rw [hv] at h1
      cases h1
      exact h2
theorem ij_tup {Q : List Sl → List PyData → Prop} (h : E S Γ it fun Γ' s => ∃ ds, s = .dat (.tuple ds) ∧ Q Γ' ds) : IJ S Γ tg it Q := by
  intro X hX F G A σ H hl ok Q' k
  refine WI.of (pi_tup WE.pe) (h.one hX hl ok fun Γ1 s1 v1 H1 ⟨ds, e1, q⟩ hl1 ok1 => ?_)
  subst e1
  obtain ⟨a, xs, rfl, hs, ha, _⟩ := ok1.tupD
  refine ⟨a, rfl, ⟨xs, SqT.of hs⟩, k Γ1 ds _ [(.dat (.tuple ds), some (.ref a))] H1 q hl1 ⟨fun A H i hi o => ?_, fun A H o => ?_, fun A H i x H' d hd o y => ?_⟩ ok1⟩
  · obtain ⟨a', xs', e, hs', ha', _⟩ := o.tupD
    cases e
    obtain ⟨v, hv, _⟩ := DqAll.get ha' (List.getElem?_eq_getElem hi)
    exact ⟨xs', v, SqT.of hs', hv⟩
  · obtain ⟨a', xs', e, hs', ha', _⟩ := o.tupD
    cases e
    exact ⟨xs', SqT.of hs', by rw [DqAll.length ha']; exact Nat.le_refl _⟩
  · obtain ⟨a', xs', e, hs', ha', back⟩ := o.tupD
    cases e
    obtain ⟨rfl, y⟩ := y
    have hv := y xs' (SqT.of hs')
    exact back x d fun Hb h => by
      obtain ⟨v, h1, h2⟩ := DqAll.get h hd
      rw [hv] at h1
      cases h1
      exact h2
/-- the upto from lo on, n of them -/
def upto (lo : Int) (n : Nat) : List PyData := (List.range n).map fun i : Nat => PyData.int (lo + (i : Int))
theorem upto_get {lo : Int} {n i : Nat} {d : PyData} (h : (upto lo n)[i]? = some d) : i < n ∧ d = .int (lo + (i : Int)) := by
  unfold upto at h
  rw [List.getElem?_map] at h
  cases e : (List.range n)[i]? with
  | none => rw [e] at h; cases h
  | some j =>
    rw [e] at h
    obtain ⟨h1, h2⟩ := List.getElem?_eq_some_iff.mp e
    rw [List.getElem_range] at h2
    subst h2
    rw [List.length_range] at h1
    exact ⟨h1, (Option.some.inj h).symm⟩
theorem upto_len {lo : Int} {n : Nat} : (upto lo n).length = n := by unfold upto; simp
theorem itd_range {K : PySem.W.Frag} {F G : Hp} (lo : Int) (n : Nat) : ItD K F G (Itr lo n) [] (upto lo n) := by
  refine ⟨fun A H i hi o => ?_, fun A H o => ?_, fun A H i x H' d hd o y => ?_⟩
  · rw [upto_len] at hi; exact hi
  · rw [upto_len]; exact Nat.le_refl _
  · obtain ⟨rfl, rfl⟩ := y
    obtain ⟨_, rfl⟩ := upto_get hd
    exact Ok.push o fun _ => .int _
theorem ij_range1 {Q : List Sl → List PyData → Prop} (hm : S.M.mg "range" = none) (h : E S Γ a fun Γ' s => ∃ n : Int, s = .dat (.int n) ∧ (-(2 ^ 62) ≤ n ∧ n < 2 ^ 62) ∧ Q Γ' (upto 0 n.toNat)) (hs : S.sc.names.lookup ("range" : Str) = some .globalImplicit := by rfl) (hst : noStar a = true := by rfl) : IJ S Γ tg (.Call (.Name "range" p) [a] [] pos) Q := by
  intro X hX F G A σ H hl ok Q' k
  refine WI.of (pi_range1 (by show X.env.scope.names.lookup _ = _; rw [hX.sc]; exact hs) (by rw [hX.mg]; exact hm) WA.pa (starEach_cons hst)) ?_
  have h1 : EA S Γ [a] fun Γ' ss => ∃ n : Int, ss = [.dat (.int n)] ∧ (-(2 ^ 62) ≤ n ∧ n < 2 ^ 62) ∧ Q Γ' (upto 0 n.toNat) := ⟨hst, h.mono fun Γ' s ⟨n, e, q⟩ => ⟨n, by rw [e], q⟩⟩
  refine EA.run hX _ h1 hl ok fun Γ' ss vs H' ⟨n, e1, ⟨b1, b2⟩, q⟩ hl' l1 l2 ok' => ?_
  subst e1
  cases vs with
  | nil => simp at l1
  | cons v vs =>
    cases vs with
    | cons _ _ => simp at l1
    | nil =>
      obtain ⟨w, e, hw⟩ := Ok.dat ok'
      cases e
      exact ⟨n, by rw [hw.flat_int], b1, b2, k Γ' _ _ [] H' q hl' (itd_range 0 n.toNat) (Ok.tail ok')⟩
theorem ij_range2 {Q : List Sl → List PyData → Prop} (hm : S.M.mg "range" = none) (h : E S Γ a fun Γ1 s1 => E S Γ1 b fun Γ' s => ∃ m n : Int, s1 = .dat (.int m) ∧ s = .dat (.int n) ∧ (-(2 ^ 62) ≤ m ∧ m < 2 ^ 62 ∧ -(2 ^ 62) ≤ n ∧ n < 2 ^ 62) ∧ Q Γ' (upto m (n - m).toNat)) (hs : S.sc.names.lookup ("range" : Str) = some .globalImplicit := by rfl) (hst : noStar a = true := by rfl) (hst2 : noStar b = true := by rfl) : IJ S Γ tg (.Call (.Name "range" p) [a, b] [] pos) Q := by
  intro X hX F G A σ H hl ok Q' k
  refine WI.of (pi_range2 (by show X.env.scope.names.lookup _ = _; rw [hX.sc]; exact hs) (by rw [hX.mg]; exact hm) WA.pa (by rw [starEach_cons hst, starEach_cons hst2]; rfl) (by rw [starEach_cons hst2]; rfl)) ?_
  have h1 : EA S Γ [a, b] fun Γ' ss => ∃ m n : Int, ss = [.dat (.int m), .dat (.int n)] ∧ (-(2 ^ 62) ≤ m ∧ m < 2 ^ 62 ∧ -(2 ^ 62) ≤ n ∧ n < 2 ^ 62) ∧ Q Γ' (upto m (n - m).toNat) := ⟨hst, h.mono fun Γ' s q => ⟨hst2, q.mono fun Γ2 s2 ⟨m, n, e1, e2, q⟩ => ⟨m, n, by rw [e1, e2], q⟩⟩⟩
  refine EA.run hX _ h1 hl ok fun Γ' ss vs H' ⟨m, n, e1, b1, q⟩ hl' l1 l2 ok' => ?_
  subst e1
  cases vs with
  | nil => simp at l1
  | cons v vs =>
    cases vs with
    | nil => simp at l1
    | cons w vs =>
      cases vs with
      | cons _ _ => simp at l1
      | nil =>
        obtain ⟨_, e, hw⟩ := Ok.dat ok'
        cases e
        obtain ⟨_, e, hw2⟩ := Ok.dat (Ok.tail ok')
        cases e
        exact ⟨m, n, by rw [hw.flat_int, hw2.flat_int], b1, k Γ' _ _ [] H' q hl' (itd_range m _) (Ok.tail (Ok.tail ok'))⟩
/-- zip of two tuples -/
def zipD (xs ys : List PyData) : List PyData := List.zipWith (fun x y => PyData.tuple [x, y]) xs ys
theorem zipD_len {xs ys : List PyData} : (zipD xs ys).length = min xs.length ys.length := by unfold zipD; simp
theorem zipD_get {xs ys : List PyData} {i : Nat} {d : PyData} (h : (zipD xs ys)[i]? = some d) : ∃ x y, xs[i]? = some x ∧ ys[i]? = some y ∧ d = .tuple [x, y] := by
  unfold zipD at h
  rw [List.getElem?_zipWith] at h
  cases e1 : xs[i]? with
  | none => rw [e1] at h; cases h
  | some x =>
    cases e2 : ys[i]? with
    | none => rw [e1, e2] at h; cases h
    | some y => rw [e1, e2] at h; exact ⟨x, y, rfl, rfl, (Option.some.inj h).symm⟩
theorem ij_zipT {Q : List Sl → List PyData → Prop} {elts : List Expr} {kk : Nat} {tpos : Pos} (hm : S.M.mg "zip" = none) (h : E S Γ a fun Γ1 s1 => E S Γ1 b fun Γ' s2 => ∃ xs ys, s1 = .dat (.tuple xs) ∧ s2 = .dat (.tuple ys) ∧ Q Γ' (zipD xs ys)) (hs : S.sc.names.lookup ("zip" : Str) = some .globalImplicit := by rfl) (hst : noStar a = true := by rfl) (hst2 : noStar b = true := by rfl) : IJ S Γ (.Tuple elts kk tpos) (.Call (.Name "zip" p) [a, b] [] pos) Q := by
  intro X hX F G A σ H hl ok Q' k
  refine WI.of (RZ.pi_zipA (by show X.env.scope.names.lookup _ = _; rw [hX.sc]; exact hs) (by rw [hX.mg]; exact hm) WA.pa (starEach_cons hst) (by rw [starEach_cons hst2]; rfl)) ?_
  have h1 : EA S Γ [a, b] fun Γ' ss => ∃ xs ys, ss = [.dat (.tuple xs), .dat (.tuple ys)] ∧ Q Γ' (zipD xs ys) := ⟨hst, h.mono fun Γ' s q => ⟨hst2, q.mono fun Γ2 s2 ⟨m, n, e1, e2, q⟩ => ⟨m, n, by rw [e1, e2], q⟩⟩⟩
  refine EA.run hX _ h1 hl ok fun Γ' ss vs H' ⟨xs, ys, e1, q⟩ hl' l1 l2 ok' => ?_
  subst e1
  cases vs with
  | nil => simp at l1
  | cons v vs =>
    cases vs with
    | nil => simp at l1
    | cons w vs =>
      cases vs with
      | cons _ _ => simp at l1
      | nil =>
        have okA : Ok X.K F G ((.dat (.tuple xs), some v) :: (.dat (.tuple ys), some w) :: (A ++ Γ'.zip σ)) H' := ok'
        obtain ⟨a1, us, rfl, hs1, ha1, _⟩ := okA.tupD
        obtain ⟨a2, ws, rfl, hs2, ha2, _⟩ := okA.tail.tupD
        refine ⟨a1, a2, us, ws, rfl, .inr ⟨SqT.of hs1, SqT.of hs2, k Γ' _ _ [(.dat (.tuple xs), some (.ref a1)), (.dat (.tuple ys), some (.ref a2))] H' q hl' ⟨fun A H i hi o => ?_, fun A H o => ?_, fun A H i x H' d hd o y => ?_⟩ okA⟩⟩
        all_goals (
          have o' : Ok X.K F G ((.dat (.tuple xs), some (V.ref a1)) :: (.dat (.tuple ys), some (V.ref a2)) :: A) H := o
          obtain ⟨_, us, e, hs1, ha1, _⟩ := o'.tupD
          cases e
          obtain ⟨_, ws, e, hs2, ha2, _⟩ := o'.tail.tupD
          cases e)
        · rw [zipD_len] at hi
          have i1 : i < xs.length := by omega
          have i2 : i < ys.length := by omega
          obtain ⟨v1, g1, _⟩ := DqAll.get ha1 (List.getElem?_eq_getElem i1)
          obtain ⟨v2, g2, _⟩ := DqAll.get ha2 (List.getElem?_eq_getElem i2)
          exact ⟨us, ws, v1, v2, SqT.of hs1, SqT.of hs2, g1, g2⟩
        · refine ⟨us, ws, SqT.of hs1, SqT.of hs2, ?_⟩
          rw [zipD_len, DqAll.length ha1, DqAll.length ha2]
          omega
        · obtain ⟨dx, dy, g1, g2, rfl⟩ := zipD_get hd
          obtain ⟨v1, e1, _⟩ := DqAll.get ha1 g1
          obtain ⟨v2, e2, _⟩ := DqAll.get ha2 g2
          obtain ⟨T, x1, x2, rfl, hT, rfl, f1, f2⟩ := (show ∃ (T : Addr) (x1 x2 : V), x = .ref T ∧ H T = none ∧ H' = upd H T (.tup [x1, x2]) ∧ (∀ us, SqT X.K H a1 us → us[i]? = some x1) ∧ ∀ ws, SqT X.K H a2 ws → ws[i]? = some x2 from y)
          refine Ok.newTup (B := [(.dat (.tuple xs), some (V.ref a1)), (.dat (.tuple ys), some (V.ref a2))]) o' hT fun Hb fp sm hB => ?_
          cases hB with
          | cons q t =>
            cases t with
            | cons q2 t =>
              cases q with
              | dat q =>
                cases q2 with
                | dat q2 =>
                  obtain ⟨_, u1, e, k1, k2⟩ := q.of_tup
                  cases e
                  obtain ⟨_, u2, e, k3, k4⟩ := q2.of_tup
                  cases e
                  obtain ⟨w1, r1, r2⟩ := DqAll.get k2 g1
                  obtain ⟨w2, r3, r4⟩ := DqAll.get k4 g2
                  have z1 := f1 u1 (SqT.of (sm _ _ k1))
                  have z2 := f2 u2 (SqT.of (sm _ _ k3))
                  rw [r1] at z1
                  rw [r3] at z2
                  cases z1
                  cases z2
                  exact .cons r2 (.cons r4 .nil)
end
end DL
namespace DL
open PySem L2

/-- a clause's tests: none or one -/
def Ts (S : Stc) (Γ : List Sl) : List Expr → (List Sl → Bool → Prop) → Prop
  | [], Q => Q Γ true
  | [c], Q => T S Γ c Q
  | _, _ => False
theorem blk_ok {S : Stc} {X : Cx} (hX : S.Ok X) {scope : Scope} {s : Shared} {H : Hp} {C : Addr} {cl : List (Str × Addr)} {fp : List Addr} : (S.blk scope).Ok (X.blk s H scope (compEnvC scope cl C X.env) fp) :=
  ⟨hX.prog, hX.w, hX.K, hX.mg, hX.base, hX.N, hX.nd, by
    show relS scope X.env.scope = relS scope S.sc
    rw [hX.sc], rfl, hX.calm, hX.room, PassesOwn.never⟩

section
variable {S : Stc} {Γ : List Sl} {a b c e tg it elt : Expr} {es ifs : List Expr} {body sts : List Stmt} {st : Stmt} {pos p p2 : Pos} {x : Str} {D : Po}

/-! ### a list comprehension -/
def CompI (S : Stc) (scope : Scope) (vs : List Nat) (t : Tg) (ifs : List Expr) (elt : Expr) (ds : List PyData) (I : Nat → List PyData → List Sl → Prop) : Prop :=
  ∀ i d acc Γ', ds[i]? = some d → I i acc Γ' → t.put d (wipeG Γ' vs) fun Γ2 => Ts (S.blk scope) Γ2 ifs fun Γ3 b =>
    if b = true then E (S.blk scope) Γ3 elt fun Γ4 s => ∃ y, s = .dat y ∧ acc.length < 1000000 ∧ I (i + 1) (acc ++ [y]) (restG Γ' vs Γ4) else I (i + 1) acc (restG Γ' vs Γ3)
theorem lc_walk {scope : Scope} {own : List (Str × Nat)} {t : Tg} {Q : List Sl → Sl → Prop} (nd : (own.map (·.2)).Nodup) (ht : ∀ i ∈ t.ixs, i ∈ own.map (·.2)) (hifs : ifs = [] ∨ ∃ c, ifs = [c])
    (h : IJ S Γ tg it fun Γ1 ds => ∃ I : Nat → List PyData → List Sl → Prop, I 0 [] Γ1 ∧ CompI S scope (own.map (·.2)) t ifs elt ds I ∧ ∀ acc Γ', I ds.length acc Γ' → ∀ a, Q Γ' (lst a acc))
    {X : Cx} (hX : S.Ok X) {F G : Hp} {A : Asn} {σ : St} {H : Hp} (hl : σ.length = Γ.length) (ok : Ok X.K F G (A ++ Γ.zip σ) H) {Q' : VK}
    (k : ∀ Γ' s v H', Q Γ' s → σ.length = Γ'.length → Ok X.K F G ((s, some v) :: (A ++ Γ'.zip σ)) H' → Q' v H') :
    tLc (WI X tg it) (tgG X.K t) (fun σ H Q => ∀ s H0 C cl fp, ∃ tt, PTs (X.blk s H0 scope (compEnvC scope cl C X.env) fp) ifs tt ∧ ∃ Q0, tt σ H Q0 ∧ ∀ b H', Q0 b H' → Q b H')
      (fun σ H Q => ∀ s H0 C cl fp, WE (X.blk s H0 scope (compEnvC scope cl C X.env) fp) elt σ H Q) (own.map (·.2)) σ H Q' := by
  refine h X hX F G A σ H hl ok _ fun Γ1 ds J R H1 ⟨I, i0, turn, fin⟩ hl1 itd ok1 => ?_
  intro Dn hD
  refine ⟨fun i m H => m = ds.length - i ∧ i ≤ ds.length ∧ ∃ acc Γ', I i acc Γ' ∧ σ.length = Γ'.length ∧ Ok X.K F G (R ++ ((lst Dn acc, some (.ref Dn)) :: (A ++ Γ'.zip σ))) H, ⟨ds.length, by simp, Nat.zero_le _, [], Γ1, i0, hl1, ?_⟩, ?_⟩
  · have ok2 := Ok.newLst (B := []) (vs := []) (ds := []) ok1 hD fun _ _ _ _ => .nil
    exact ok2.perm (List.perm_middle (l₁ := R)).symm
  rintro i m H2 ⟨rfl, hi, acc, Γ', iv, hl2, ok2⟩
  by_cases hlt : i < ds.length
  · refine .inr ⟨itd.go _ _ i hlt ok2, _, fun H' nx => nx, fun x H3 y => ?_⟩
    have hd : ds[i]? = some ds[i] := List.getElem?_eq_getElem hlt
    have ok3 := itd.yld _ _ i x H3 _ hd ok2 y
    have ok4 : Ok X.K F G (((.dat ds[i], some x) :: (R ++ ((lst Dn acc, some (.ref Dn)) :: A))) ++ Γ'.zip σ) H3 := by
      refine ok3.perm ?_
      simp
    have ok5 := Ok.wipe hl2 nd ok4
    have ok6 : Ok X.K F G ((.dat ds[i], some x) :: ((keptAt Γ' σ (own.map (·.2)) ++ (R ++ ((lst Dn acc, some (.ref Dn)) :: A))) ++ (wipeG Γ' (own.map (·.2))).zip (wipe σ (own.map (·.2))))) H3 := by
      have pm := (List.perm_middle (a := (Sl.dat ds[i], some x)) (l₁ := keptAt Γ' σ (own.map (·.2))) (l₂ := R ++ ((lst Dn acc, some (V.ref Dn)) :: A))).append_right ((wipeG Γ' (own.map (·.2))).zip (wipe σ (own.map (·.2))))
      exact ok5.perm pm
    refine Tg.run t (turn i ds[i] acc Γ' hd iv) (by rw [wipe_length, wipeG_length, hl2]) ok6 fun Γ2 σ2 q2 l2 l2' w2 ok7 => ?_
    have hw : wipe σ2 (own.map (·.2)) = wipe σ (own.map (·.2)) := by
      rw [w2 _ ht]
      have : ∀ vs : List Nat, vs.Nodup → wipe (wipe σ vs) vs = wipe σ vs := by
        intro vs hnd
        have e1 : ∀ (us : List Nat), (∀ u ∈ us, u ∈ vs) → wipe (wipe σ us) vs = wipe σ vs := by
          intro us
          induction us with
          | nil => intro _; rfl
          | cons u us ih =>
            intro hu
            have : wipe σ (u :: us) = (wipe σ us).set u none := rfl
            rw [this, wipe_set (hu u List.mem_cons_self), ih fun z hz => hu z (List.mem_cons_of_mem _ hz)]
        exact e1 vs fun _ h => h
      exact this _ nd
    refine ⟨hw, fun s H0 C cl fp => ?_⟩
    have l3 : σ2.length = Γ2.length := by rw [l2, l2']
    -- behind the tests
    have go : ∀ Γ3 b H4, (if b = true then E (S.blk scope) Γ3 elt fun Γ4 s => ∃ y, s = .dat y ∧ acc.length < 1000000 ∧ I (i + 1) (acc ++ [y]) (restG Γ' (own.map (·.2)) Γ4) else I (i + 1) acc (restG Γ' (own.map (·.2)) Γ3)) → σ2.length = Γ3.length →
        Ok X.K F G ((keptAt Γ' σ (own.map (·.2)) ++ (R ++ ((lst Dn acc, some (.ref Dn)) :: A))) ++ Γ3.zip σ2) H4 →
        (if b = true then (∀ s H0 C cl fp, WE (X.blk s H0 scope (compEnvC scope cl C X.env) fp) elt σ2 H4 fun y H5 => ∃ acc, H5 Dn = some (.lst acc) ∧ acc.length < sizeLine ∧
            ∃ m', m' < ds.length - i ∧ m' = ds.length - (i + 1) ∧ i + 1 ≤ ds.length ∧ ∃ acc' Γ', I (i + 1) acc' Γ' ∧ σ.length = Γ'.length ∧ Ok X.K F G (R ++ ((lst Dn acc', some (.ref Dn)) :: (A ++ Γ'.zip σ))) (upd H5 Dn (.lst (acc ++ [y]))))
          else ∃ m', m' < ds.length - i ∧ m' = ds.length - (i + 1) ∧ i + 1 ≤ ds.length ∧ ∃ acc' Γ', I (i + 1) acc' Γ' ∧ σ.length = Γ'.length ∧ Ok X.K F G (R ++ ((lst Dn acc', some (.ref Dn)) :: (A ++ Γ'.zip σ))) H4) := by
      intro Γ3 b H4 q3 l4 ok8
      cases b with
      | false =>
        rw [if_neg Bool.false_ne_true] at q3 ⊢
        have ok9 := Ok.unwipe hw ok8
        refine ⟨ds.length - (i + 1), by omega, rfl, hlt, acc, _, q3, by rw [restG_length, ← l4, l2, wipe_length], ok9.perm ?_⟩
        simp
      | true =>
        rw [if_pos rfl] at q3 ⊢
        intro s H0 C cl fp
        refine q3 (X.blk s H0 scope (compEnvC scope cl C X.env) fp) (blk_ok hX) F G _ σ2 H4 l4 ok8 _ fun Γ4 s5 v5 H5 ⟨y, e5, ha, q5⟩ l5 ok9 => ?_
        subst e5
        have ok10 : Ok X.K F G ((lst Dn acc, some (.ref Dn)) :: ([(.dat y, some v5)] ++ ((keptAt Γ' σ (own.map (·.2)) ++ (R ++ A)) ++ Γ4.zip σ2))) H5 := by
          refine Ok.perm ok9 ?_
          refine List.Perm.trans ?_ (List.Perm.swap _ _ _)
          refine List.Perm.cons _ ?_
          have h1 : (keptAt Γ' σ (own.map (·.2)) ++ (R ++ ((lst Dn acc, some (V.ref Dn)) :: A))).Perm ((lst Dn acc, some (V.ref Dn)) :: (keptAt Γ' σ (own.map (·.2)) ++ (R ++ A))) := by
            refine (List.Perm.append_left _ List.perm_middle).trans List.perm_middle
          exact List.Perm.append_right _ h1
        obtain ⟨_, us, hH, hlen, hda, put⟩ := Ok.lst ok10
        have ok11 := put (us ++ [v5]) (acc ++ [y]) [(.dat y, some v5)] _ rfl fun Hb fp _ hs hh => by
          cases hs with
          | cons q t =>
            cases q with
            | dat q => exact DqAll.append hh (.cons q .nil)
        refine ⟨us, hH, by rw [hlen, sizeLine_eq]; omega, ds.length - (i + 1), by omega, rfl, hlt, acc ++ [y], _, q5, by rw [restG_length, ← l5, l2, wipe_length], ?_⟩
        have ok12 : Ok X.K F G ((keptAt Γ' σ (own.map (·.2)) ++ ((lst Dn (acc ++ [y]), some (.ref Dn)) :: (R ++ A))) ++ Γ4.zip σ2) (upd H5 Dn (.lst (us ++ [v5]))) := by
          refine Ok.perm (Ok.dropB (B := [(.dat y, some v5)]) (ok11.perm (List.Perm.swap _ _ _))) ?_
          exact List.Perm.append_right _ List.perm_middle.symm
        have ok13 := Ok.unwipe hw ok12
        refine ok13.perm ?_
        refine List.Perm.trans ?_ (List.perm_middle (l₁ := R)).symm
        simp
    rcases hifs with rfl | ⟨c, rfl⟩
    · refine ⟨tYes, pts_nil, fun b H' => b = true ∧ H' = H3, ⟨rfl, rfl⟩, fun b H' ⟨e1, e2⟩ => ?_⟩
      subst e1 e2
      have z := go Γ2 true _ q2 l3 ok7
      rw [if_pos rfl] at z ⊢
      refine fun s H0 C cl fp => (z s H0 C cl fp).mono fun y H5 ⟨acc, h1, h2, m', m1, m2, m3, m4⟩ => ⟨acc, h1, h2, m', m1, m2, m3, m4⟩
    · refine ⟨_, pts_one WT.pt, _, ?_, fun b H' q => q⟩
      refine q2 (X.blk s H0 scope (compEnvC scope cl C X.env) fp) (blk_ok hX) F G _ σ2 H3 l3 ok7 _ fun Γ3 b H4 q3 l4 ok8 => ?_
      have z := go Γ3 b H4 q3 l4 ok8
      cases b with
      | false =>
        rw [if_neg Bool.false_ne_true] at z ⊢
        obtain ⟨m', m1, m2, m3, m4⟩ := z
        exact ⟨m', m1, m2, m3, m4⟩
      | true =>
        rw [if_pos rfl] at z ⊢
        exact fun s H0 C cl fp => (z s H0 C cl fp).mono fun y H5 ⟨acc, h1, h2, m', m1, m2, m3, m4⟩ => ⟨acc, h1, h2, m', m1, m2, m3, m4⟩
  · have e : i = ds.length := by omega
    subst e
    refine .inl ⟨itd.stop _ _ ok2, ?_⟩
    refine k Γ' _ _ _ (fin acc Γ' iv Dn) hl2 ?_
    refine Ok.dropB (B := R) (ok2.perm ?_)
    exact .refl _
theorem e_lc {scope : Scope} (own : List (Str × Nat)) {t : Tg} {Q : List Sl → Sl → Prop} (ht : TgOk (S.blk scope) tg t)
    (h : IJ S Γ tg it fun Γ1 ds => ∃ I : Nat → List PyData → List Sl → Prop, I 0 [] Γ1 ∧ CompI S scope (own.map (·.2)) t ifs elt ds I ∧ ∀ acc Γ', I ds.length acc Γ' → ∀ a, Q Γ' (lst a acc))
    (hb : blkC S.N S.sc scope own = true := by first | decide +kernel | (dsimp only [DL.St0, DL.Stc.blk]; decide +kernel)) (nd : (own.map (·.2)).Nodup := by decide) (hx : ∀ i ∈ t.ixs, i ∈ own.map (·.2) := by decide) (hifs : ifs = [] ∨ ∃ c, ifs = [c] := by first | exact .inl rfl | exact .inr ⟨_, rfl⟩)
    (hs : ∀ env x, foldedSetIterable it env x = pure x := by intro _ _; rfl) : E S Γ (.ListComp elt [⟨tg, it, ifs, 0⟩] scope pos) Q := by
  intro X hX F G A σ H hl ok Q' k
  refine WE.of (pe_lc (own := own) hX.calm hX.nd WI.pi (by rw [hX.N, hX.sc]; exact blkOk_by hb) (fun s H0 C cl fp => TgOk.pg (blk_ok hX) ht) (fun s H0 C cl fp => ⟨fun pins s' σ H Q I hw => ?_⟩) (fun s H0 C cl fp => ⟨fun pins s' σ H Q I hw => WE.pe.run pins s' σ H Q I (hw s H0 C cl fp)⟩) (fun _ => hs _ _)) (lc_walk nd hx hifs h hX hl ok k)
  obtain ⟨tt, h1, Q0, h2, h3⟩ := hw s H0 C cl fp
  exact thn (h1.run pins s' σ H Q0 I h2) fun b s2 ⟨H', I', q⟩ => ⟨H', I', h3 _ _ q⟩

/-! ### statements -/
theorem b_nil (h : D.nx Γ) : B S Γ [] D := by
  intro X hX F G A σ H hl ok D' hD
  exact WSs.of pss_nil (hD.nx Γ σ H h rfl hl.symm ok)
theorem b_cons (h : B1 S Γ st { D with nx := fun Γ' => B S Γ' sts D }) : B S Γ (st :: sts) D := by
  intro X hX F G A σ H hl ok D' hD
  refine WSs.of (pss_cons WS.ps WSs.pss) ?_
  exact h X hX F G A σ H hl ok _ ⟨fun Γ' σ' H' q l1 l2 ok' => q X hX F G A σ' H' (by rw [l1, l2]) ok' D' (by rw [l1]; exact hD), hD.rt, hD.bk, hD.ct⟩
/-- what holds between two statements is said -/
theorem b_cut (J : List Sl → Prop) (h : B1 S Γ st { D with nx := J }) (h2 : ∀ Γ', J Γ' → B S Γ' sts D) : B S Γ (st :: sts) D := by
  intro X hX F G A σ H hl ok D' hD
  refine WSs.of (pss_cons WS.ps WSs.pss) ?_
  exact h X hX F G A σ H hl ok _ ⟨fun Γ' σ' H' q l1 l2 ok' => h2 Γ' q X hX F G A σ' H' (by rw [l1, l2]) ok' D' (by rw [l1]; exact hD), hD.rt, hD.bk, hD.ct⟩
theorem b_ret (h : E S Γ e D.rt) : B1 S Γ (.Return (some e) pos) D := by
  intro X hX F G A σ H hl ok D' hD
  refine WS.of (ps_ret WE.pe) ?_
  exact h X hX F G A σ H hl ok _ fun Γ' s v H' q hl' ok' => hD.rt Γ' s v σ H' q rfl hl'.symm ok'
theorem b_expr (h : E S Γ e fun Γ' _ => D.nx Γ') (hs : ∀ env, swapsWith e none pos.line env = pure false := by intro _; rfl) : B1 S Γ (.Expr e pos) D := by
  intro X hX F G A σ H hl ok D' hD
  refine WS.of (ps_expr WE.pe (hs _)) ?_
  exact h X hX F G A σ H hl ok _ fun Γ' s v H' q hl' ok' => hD.nx Γ' σ H' q rfl hl'.symm ok'.tail
theorem b_if (h : T S Γ c fun Γ' t => if t = true then B S Γ' body D else B S Γ' sts D) : B1 S Γ (.If c body sts pos) D := by
  intro X hX F G A σ H hl ok D' hD
  refine WS.of (ps_if WT.pt WSs.pss WSs.pss) ?_
  refine h X hX F G A σ H hl ok _ fun Γ' t H' q hl' ok' => ?_
  cases t with
  | true => exact q X hX F G A σ H' hl' ok' D' hD
  | false => exact q X hX F G A σ H' hl' ok' D' hD
theorem b_set (i : Nat) (h : E S Γ e fun Γ' s => D.nx (Γ'.set i s)) (hN : S.N[i]? = some x := by rfl) (hx : Loc S.sc x := by first | exact Or.inl rfl | exact Or.inr rfl)
    (hf : S.fn x = true ∨ S.sc.names.lookup x = some .local := by first | exact Or.inl rfl | exact Or.inr rfl) (hs : ∀ env, swapsWith e (some (.Name x p)) pos.line env = pure false := by intro _; rfl) : B1 S Γ (.Assign [.Name x p] e pos) D := by
  intro X hX F G A σ H hl ok D' hD
  refine WS.of (ps_set (i := i) hX.nd (by rw [hX.N]; exact hN) (by rw [hX.sc]; exact hx) WE.pe (hs _) (by rw [hX.fn, hX.sc]; exact hf)) ?_
  exact h X hX F G A σ H hl ok _ fun Γ' s v H' q hl' ok' => hD.nx _ _ H' q (by simp) (by simp [hl']) ok'.set
/-- y = [..] -/
theorem b_setLc {scope : Scope} (i : Nat) (own : List (Str × Nat)) {t : Tg} {y : Str} {py spos : Pos} (ht : TgOk (S.blk scope) tg t)
    (h : IJ S Γ tg it fun Γ1 ds => ∃ I : Nat → List PyData → List Sl → Prop, I 0 [] Γ1 ∧ CompI S scope (own.map (·.2)) t ifs elt ds I ∧ ∀ acc Γ', I ds.length acc Γ' → ∀ a, D.nx (Γ'.set i (lst a acc)))
    (hb : blkC S.N S.sc scope own = true := by first | decide +kernel | (dsimp only [DL.St0, DL.Stc.blk]; decide +kernel)) (nd : (own.map (·.2)).Nodup := by decide) (hx : ∀ i ∈ t.ixs, i ∈ own.map (·.2) := by decide) (hifs : ifs = [] ∨ ∃ c, ifs = [c] := by first | exact .inl rfl | exact .inr ⟨_, rfl⟩)
    (hN : S.N[i]? = some y := by rfl) (hy : S.sc.names.lookup y = some .local := by rfl) (hk : S.sc.kind = .function := by rfl) (hline : (py.line == pos.line) = true := by rfl) (ha : (scope.names.any fun (n, k) => n == y && (k == .local || k == .cell)) = false := by decide +kernel)
    (hs : ∀ env x, foldedSetIterable it env x = pure x := by intro _ _; rfl) : B1 S Γ (.Assign [.Name y py] (.ListComp elt [⟨tg, it, ifs, 0⟩] scope pos) spos) D := by
  intro X hX F G A σ H hl ok D' hD
  refine WS.of (ps_setLc (i := i) (own := own) hX.calm hX.nd (by rw [hX.N]; exact hN) (by rw [hX.sc]; exact hy) (sw_true (by rw [hX.sc]; exact hk) (by rw [hX.sc]; exact hy) hline ha) WI.pi (by rw [hX.N, hX.sc]; exact blkOk_by hb) (fun s H0 C cl fp => TgOk.pg (blk_ok hX) ht) (fun s H0 C cl fp => ⟨fun pins s' σ H Q I hw => ?_⟩) (fun s H0 C cl fp => ⟨fun pins s' σ H Q I hw => WE.pe.run pins s' σ H Q I (hw s H0 C cl fp)⟩) (fun _ => hs _ _))
    (lc_walk (Q := fun Γ' s => D.nx (Γ'.set i s)) nd hx hifs h hX hl ok fun Γ' s v H' q hl' ok' => hD.nx _ _ H' q (by simp) (by simp [hl']) ok'.set)
  obtain ⟨tt, h1, Q0, h2, h3⟩ := hw s H0 C cl fp
  exact thn (h1.run pins s' σ H Q0 I h2) fun b s2 ⟨H', I', q⟩ => ⟨H', I', h3 _ _ q⟩
/-- target = e, the target of any form of names -/
theorem b_asg {t : Tg} (ht : TgOk S tg t) (h : E S Γ e fun Γ' s => ∃ d, s = .dat d ∧ t.put d Γ' D.nx) (hs : ∀ env, swapsWithSole [tg] e pos.line env = pure false := by intro _; rfl) (hw : ∀ env, swappedStores [tg] e env = pure none := by intro _; rfl) : B1 S Γ (.Assign [tg] e pos) D := by
  intro X hX F G A σ H hl ok D' hD
  refine WS.of (ps_asg WE.pe (TgOk.pg hX ht) (hs _) (hw _) (by rw [assignEach_cons ht.ns]; rfl)) ?_
  refine h X hX F G A σ H hl ok _ fun Γ' s v H' ⟨d, e1, q⟩ hl' ok' => ?_
  subst e1
  exact Tg.run t q hl' ok' fun Γ2 σ2 q2 l1 l2 _ ok2 => hD.nx Γ2 σ2 H' q2 l1 l2 ok2
theorem b_for {t : Tg} (ht : TgOk S tg t) (h : IJ S Γ tg it fun Γ1 ds => ∃ I : Nat → List Sl → Prop, I 0 Γ1 ∧ (∀ i d Γ', ds[i]? = some d → I i Γ' → t.put d Γ' fun Γ2 => B S Γ2 body { D with nx := I (i + 1), ct := I (i + 1), bk := D.nx }) ∧ ∀ Γ', I ds.length Γ' → D.nx Γ')
    (hs : ∀ env x, foldedSetIterable it env x = pure x := by intro _ _; rfl) : B1 S Γ (.For tg it body [] pos) D := by
  intro X hX F G A σ H hl ok D' hD
  refine WS.of (ps_for hX.pass hX.calm WI.pi (TgOk.pg hX ht) WSs.pss (fun _ => hs _ _)) ?_
  refine h X hX F G A σ H hl ok _ fun Γ1 ds J R H1 ⟨I, i0, turn, fin⟩ hl1 itd ok1 => ?_
  refine ⟨fun i m σ' H => m = ds.length - i ∧ i ≤ ds.length ∧ ∃ Γ', I i Γ' ∧ σ'.length = σ.length ∧ Γ'.length = σ.length ∧ Ok X.K F G (R ++ (A ++ Γ'.zip σ')) H, ⟨ds.length, by simp, Nat.zero_le _, Γ1, i0, rfl, hl1.symm, ok1⟩, ?_⟩
  rintro i m σ2 H2 ⟨rfl, hi, Γ', iv, l1, l2, ok2⟩
  by_cases hlt : i < ds.length
  · refine .inr ⟨itd.go _ _ i hlt ok2, fun σ' H' => ∃ Γ', I (i + 1) Γ' ∧ σ'.length = σ.length ∧ Γ'.length = σ.length ∧ Ok X.K F G (R ++ (A ++ Γ'.zip σ')) H', fun σ' H' q => ⟨ds.length - (i + 1), by omega, rfl, hlt, q⟩, fun x H3 y => ?_⟩
    have hd : ds[i]? = some ds[i] := List.getElem?_eq_getElem hlt
    have ok3 := itd.yld _ _ i x H3 _ hd ok2 y
    rw [← List.append_assoc] at ok3
    refine Tg.run t (turn i ds[i] Γ' hd iv) (by rw [l1, l2]) ok3 fun Γ2 σ3 q2 l3 l4 _ ok4 => ?_
    refine q2 X hX F G _ σ3 H3 (by rw [l3, l4]) ok4 _ ⟨fun Γ3 σ4 H4 q n1 n2 o => ?_, fun Γ3 s v σ4 H4 q n1 n2 o => ?_, fun Γ3 σ4 H4 q n1 n2 o => ?_, fun Γ3 σ4 H4 q n1 n2 o => ?_⟩
    · exact ⟨Γ3, q, by rw [n1, l3, l1], by rw [n2, l3, l1], by rw [← List.append_assoc]; exact o⟩
    · refine hD.rt Γ3 s v σ4 H4 q (by rw [n1, l3, l1]) (by rw [n2, l3, l1]) ?_
      refine Ok.dropB (B := R) (o.perm ?_)
      rw [List.append_assoc]
      exact List.perm_middle.symm
    · refine hD.nx Γ3 σ4 H4 q (by rw [n1, l3, l1]) (by rw [n2, l3, l1]) ?_
      rw [List.append_assoc] at o
      exact Ok.dropB (B := R) o
    · exact ⟨Γ3, q, by rw [n1, l3, l1], by rw [n2, l3, l1], by rw [← List.append_assoc]; exact o⟩
  · have e : i = ds.length := by omega
    subst e
    exact .inl ⟨itd.stop _ _ ok2, hD.nx Γ' σ2 H2 (fin Γ' iv) l1 l2 (Ok.dropB (B := R) ok2)⟩
theorem b_pass (h : D.nx Γ) : B1 S Γ (.Pass pos) D := by
  intro X hX F G A σ H hl ok D' hD
  exact WS.of ps_pass (hD.nx Γ σ H h rfl hl.symm ok)
theorem b_break (h : D.bk Γ) : B1 S Γ (.Break pos) D := by
  intro X hX F G A σ H hl ok D' hD
  exact WS.of ps_break (hD.bk Γ σ H h rfl hl.symm ok)
theorem b_cont (h : D.ct Γ) : B1 S Γ (.Continue pos) D := by
  intro X hX F G A σ H hl ok D' hD
  exact WS.of ps_continue (hD.ct Γ σ H h rfl hl.symm ok)
theorem b_while (c : Expr) (I : Nat → List Sl → Prop) (m0 : Nat) (i0 : I m0 Γ) (turn : ∀ m Γ', I m Γ' → T S Γ' c fun Γ2 t => if t = true then B S Γ2 body { D with nx := fun Γ3 => ∃ m', m' < m ∧ I m' Γ3, ct := fun Γ3 => ∃ m', m' < m ∧ I m' Γ3, bk := D.nx } else D.nx Γ2) : B1 S Γ (.While c body [] pos) D := by
  intro X hX F G A σ H hl ok D' hD
  refine WS.of (ps_while hX.pass WT.pt WSs.pss) ?_
  refine ⟨fun m σ' H' => ∃ Γ', I m Γ' ∧ σ'.length = σ.length ∧ Γ'.length = σ.length ∧ Ok X.K F G (A ++ Γ'.zip σ') H', ⟨m0, Γ, i0, rfl, hl.symm, ok⟩, ?_⟩
  rintro m σ2 H2 ⟨Γ', iv, l1, l2, ok2⟩
  refine turn m Γ' iv X hX F G A σ2 H2 (by rw [l1, l2]) ok2 _ fun Γ2 t H3 q hl3 ok3 => ?_
  cases t with
  | false => exact hD.nx Γ2 σ2 H3 q l1 (by rw [← hl3, l1]) ok3
  | true =>
    rw [if_pos rfl] at q ⊢
    refine ⟨fun σ' H' => ∃ m', m' < m ∧ ∃ Γ', I m' Γ' ∧ σ'.length = σ.length ∧ Γ'.length = σ.length ∧ Ok X.K F G (A ++ Γ'.zip σ') H', fun σ' H' ⟨m', h1, h2⟩ => ⟨m', h1, h2⟩, ?_⟩
    refine q X hX F G A σ2 H3 hl3 ok3 _ ⟨fun Γ3 σ4 H4 q n1 n2 o => ?_, fun Γ3 s v σ4 H4 q n1 n2 o => ?_, fun Γ3 σ4 H4 q n1 n2 o => ?_, fun Γ3 σ4 H4 q n1 n2 o => ?_⟩
    · obtain ⟨m', h1, h2⟩ := q
      exact ⟨m', h1, Γ3, h2, by rw [n1, l1], by rw [n2, l1], o⟩
    · exact hD.rt Γ3 s v σ4 H4 q (by rw [n1, l1]) (by rw [n2, l1]) o
    · exact hD.nx Γ3 σ4 H4 q (by rw [n1, l1]) (by rw [n2, l1]) o
    · obtain ⟨m', h1, h2⟩ := q
      exact ⟨m', h1, Γ3, h2, by rw [n1, l1], by rw [n2, l1], o⟩
theorem B.mono {D' : Po} (h : B S Γ sts D) (m1 : ∀ Γ, D.nx Γ → D'.nx Γ) (m2 : ∀ Γ s, D.rt Γ s → D'.rt Γ s) (m3 : ∀ Γ, D.bk Γ → D'.bk Γ) (m4 : ∀ Γ, D.ct Γ → D'.ct Γ) : B S Γ sts D' := fun X hX F G A σ H hl ok R hR =>
  h X hX F G A σ H hl ok R ⟨fun Γ' σ' H' q => hR.nx Γ' σ' H' (m1 _ q), fun Γ' s v σ' H' q => hR.rt Γ' s v σ' H' (m2 _ _ q), fun Γ' σ' H' q => hR.bk Γ' σ' H' (m3 _ q), fun Γ' σ' H' q => hR.ct Γ' σ' H' (m4 _ q)⟩
end
end DL
namespace DL
open PySem L2

section
variable {S : Stc} {Γ : List Sl} {a b c e o : Expr} {es : List Expr} {pos p p2 apos cpos : Pos} {x : Str}

/-! ### operators of ints -/
theorem bd_of {f : Value → Value → Sem Value} {r : R2} {g : Int → Int → PyData → Prop} (hr : ∀ X, S.Ok X → OpR X f r) (h : ∀ (H : Hp) (i j : Int) (d : PyData) (Q' : VK), g i j d → (∀ v, (∀ K Hb, Dq K Hb v d) → Q' v H) → r (.int i) (.int j) H Q') :
    BinD S f fun d1 d2 d => ∃ i j, d1 = .int i ∧ d2 = .int j ∧ g i j d := by
  intro X hX
  refine ⟨r, hr X hX, fun H x y d1 d2 d Q' h1 h2 ⟨i, j, e1, e2, e3⟩ k => ?_⟩
  subst e1 e2
  rw [h1.flat_int, h2.flat_int]
  exact h H i j d Q' e3 fun v hv => k v fun Hb => hv _ Hb
theorem bd_add : BinD S (binaryOp .Add) fun d1 d2 d => ∃ i j, d1 = .int i ∧ d2 = .int j ∧ d = .int (i + j) := bd_of (fun _ _ => op_add) fun H i j d Q' e k => ⟨i, j, rfl, rfl, k _ fun _ _ => e ▸ .int _⟩
theorem bd_sub : BinD S (binaryOp .Sub) fun d1 d2 d => ∃ i j, d1 = .int i ∧ d2 = .int j ∧ d = .int (i - j) := bd_of (fun _ _ => op_sub) fun H i j d Q' e k => ⟨i, j, rfl, rfl, k _ fun _ _ => e ▸ .int _⟩
theorem bd_mul : BinD S (binaryOp .Mult) fun d1 d2 d => ∃ i j, d1 = .int i ∧ d2 = .int j ∧ CMul i j ∧ d = .int (i * j) := bd_of (fun _ _ => op_mul) fun H i j d Q' e k => ⟨i, j, rfl, rfl, e.1, k _ fun _ _ => e.2 ▸ .int _⟩
theorem bd_mod : BinD S (binaryOp .Mod) fun d1 d2 d => ∃ i j, d1 = .int i ∧ d2 = .int j ∧ 0 < j ∧ d = .int (i % j) := bd_of (fun _ _ => op_mod) fun H i j d Q' e k => ⟨i, j, rfl, rfl, e.1, k _ fun _ _ => e.2 ▸ .int _⟩
theorem bd_fdiv : BinD S (binaryOp .FloorDiv) fun d1 d2 d => ∃ i j, d1 = .int i ∧ d2 = .int j ∧ CDiv i j ∧ d = .int (i / j) := bd_of (fun _ _ => op_fdiv) fun H i j d Q' e k => ⟨i, j, rfl, rfl, e.1, k _ fun _ _ => e.2 ▸ .int _⟩
theorem bd_pow : BinD S (binaryOp .Pow) fun d1 d2 d => ∃ i j, d1 = .int i ∧ d2 = .int j ∧ CPow i j ∧ d = .int (i ^ j.toNat) := bd_of (fun _ _ => op_pow) fun H i j d Q' e k => ⟨i, j, rfl, rfl, e.1, k _ fun _ _ => e.2 ▸ .int _⟩
theorem cd_of {f : Value → Value → Sem Value} {r : R2} {g : Int → Int → Bool} (hr : ∀ X, S.Ok X → OpR X f r) (h : ∀ (H : Hp) (i j : Int) (Q' : VK), Q' (.bl (g i j)) H → r (.int i) (.int j) H Q') :
    CmpD S f fun d1 d2 t => ∃ i j, d1 = .int i ∧ d2 = .int j ∧ t = g i j := by
  intro X hX
  refine ⟨r, hr X hX, fun H x y d1 d2 t Q' h1 h2 ⟨i, j, e1, e2, e3⟩ k => ?_⟩
  subst e1 e2 e3
  rw [h1.flat_int, h2.flat_int]
  exact h H i j Q' k
theorem cd_lt : CmpD S (compareOp .Lt) fun d1 d2 t => ∃ i j, d1 = .int i ∧ d2 = .int j ∧ t = decide (i < j) := cd_of (fun _ _ => op_lt) fun H i j Q' k => ⟨i, j, rfl, rfl, k⟩
theorem cd_le : CmpD S (compareOp .LtE) fun d1 d2 t => ∃ i j, d1 = .int i ∧ d2 = .int j ∧ t = decide (i ≤ j) := cd_of (fun _ _ => op_le) fun H i j Q' k => ⟨i, j, rfl, rfl, k⟩
theorem cd_gt : CmpD S (compareOp .Gt) fun d1 d2 t => ∃ i j, d1 = .int i ∧ d2 = .int j ∧ t = decide (j < i) := cd_of (fun _ _ => op_gt) fun H i j Q' k => ⟨i, j, rfl, rfl, k⟩
theorem cd_ge : CmpD S (compareOp .GtE) fun d1 d2 t => ∃ i j, d1 = .int i ∧ d2 = .int j ∧ t = decide (j ≤ i) := cd_of (fun _ _ => op_ge) fun H i j Q' k => ⟨i, j, rfl, rfl, k⟩

/-! ### ==, !=, in, is None of data -/
theorem cd_eq : CmpD S (compareOp .Eq) fun d1 d2 t => SeqAt.shaped d1 = true ∧ SeqAt.shaped d2 = true ∧ t = PyData.eqv d1 d2 := by
  intro X hX
  refine ⟨_, op_eqD hX.room.units, fun H x y d1 d2 t Q' h1 h2 ⟨s1, s2, e⟩ k => ⟨d1, d2, Dq.dp _ _ h1, Dq.dp _ _ h2, s1, s2, e ▸ k⟩⟩
theorem cd_ne : CmpD S (compareOp .NotEq) fun d1 d2 t => SeqAt.shaped d1 = true ∧ SeqAt.shaped d2 = true ∧ t = !PyData.eqv d1 d2 := by
  intro X hX
  refine ⟨_, op_neD hX.room.units, fun H x y d1 d2 t Q' h1 h2 ⟨s1, s2, e⟩ k => ⟨d1, d2, Dq.dp _ _ h1, Dq.dp _ _ h2, s1, s2, e ▸ k⟩⟩
def isNone : PyData → Bool
  | .none => true
  | _ => false
theorem non_of {K : PySem.W.Frag} {H : Hp} {v : V} {d : PyData} (h : Dq K H v d) : decide (v = .non) = isNone d := by
  cases h <;> rfl
theorem cd_is : CmpD S (compareOp .Is) fun d1 d2 t => d2 = .none ∧ t = isNone d1 := by
  intro X hX
  refine ⟨_, op_isN, fun H x y d1 d2 t Q' h1 h2 ⟨e1, e2⟩ k => ?_⟩
  subst e1 e2
  refine ⟨h2.flat_non, ?_⟩
  rw [non_of h1]
  exact k
theorem cd_isnot : CmpD S (compareOp .IsNot) fun d1 d2 t => d2 = .none ∧ t = !isNone d1 := by
  intro X hX
  refine ⟨_, op_notN, fun H x y d1 d2 t Q' h1 h2 ⟨e1, e2⟩ k => ?_⟩
  subst e1 e2
  refine ⟨h2.flat_non, ?_⟩
  rw [non_of h1]
  exact k
/-- the items of a list or tuple -/
def itemsOf : PyData → Option (List PyData)
  | .list ds => some ds
  | .tuple ds => some ds
  | _ => none
def rInA (K : PySem.W.Frag) (neg : Bool) : R2 := fun x y H Q => ∃ d e ds, Dp K H x d ∧ Dp K H y e ∧ itemsOf e = some ds ∧ SeqAt.shaped d = true ∧ SeqAt.shaped e = true ∧ Q (.bl (if neg then !(ds.any fun z => PyData.eqv z d) else ds.any fun z => PyData.eqv z d)) H
theorem shaped_items {e : PyData} {ds : List PyData} (h : itemsOf e = some ds) (s : SeqAt.shaped e = true) : PyData.canLayAll0 ds = true ∧ PyData.depthAll ds ≤ 64 := by
  cases e with
  | list xs =>
    cases h
    simp only [SeqAt.shaped, Bool.and_eq_true, decide_eq_true_eq] at s
    obtain ⟨s1, s2⟩ := s
    rw [PyData.depth] at s2
    rw [PyData.canLay0] at s1
    exact ⟨s1, by omega⟩
  | tuple xs =>
    cases h
    simp only [SeqAt.shaped, Bool.and_eq_true, decide_eq_true_eq] at s
    obtain ⟨s1, s2⟩ := s
    rw [PyData.depth] at s2
    rw [PyData.canLay0] at s1
    exact ⟨s1, by omega⟩
  | _ => cases h
theorem or_inA {X : Cx} (hu : X.A.units + 65 < cLine) : OpR X (compareOp .In) (rInA X.K false) := by
  intro pins s σ H x y v u Q I rx ry h
  obtain ⟨d, e, ds, hd, he, hi, sd, se, q⟩ := h
  obtain ⟨as, r1⟩ := Dp.reads I d x v hd rx
  obtain ⟨bs, r2⟩ := Dp.reads I e y u he ry
  obtain ⟨l1, l2⟩ := shaped_items hi se
  cases e with
  | list xs => cases hi; exact SeqAt.in_list_reads r2 r1 l1 (SeqAt.canLay_of_shaped sd) (PyProof.Rows.room_in_shaped sd hu) ⟨.bl _, H, I, rfl, q⟩
  | tuple xs => cases hi; exact SeqAt.in_tuple_reads r2 r1 l1 (SeqAt.canLay_of_shaped sd) (PyProof.Rows.room_in_shaped sd hu) ⟨.bl _, H, I, rfl, q⟩
  | _ => cases hi
theorem or_notinA {X : Cx} (hu : X.A.units + 65 < cLine) : OpR X (compareOp .NotIn) (rInA X.K true) := by
  intro pins s σ H x y v u Q I rx ry h
  obtain ⟨d, e, ds, hd, he, hi, sd, se, q⟩ := h
  obtain ⟨as, r1⟩ := Dp.reads I d x v hd rx
  obtain ⟨bs, r2⟩ := Dp.reads I e y u he ry
  obtain ⟨l1, l2⟩ := shaped_items hi se
  cases e with
  | list xs => cases hi; exact SeqAt.notIn_list_reads r2 r1 l1 (SeqAt.canLay_of_shaped sd) (PyProof.Rows.room_in_shaped sd hu) ⟨.bl _, H, I, rfl, q⟩
  | tuple xs => cases hi; exact SeqAt.notIn_tuple_reads r2 r1 l1 (SeqAt.canLay_of_shaped sd) (PyProof.Rows.room_in_shaped sd hu) ⟨.bl _, H, I, rfl, q⟩
  | _ => cases hi
theorem units65 {k : Nat} {A : Around} (r : Room k A) : A.units + 65 < cLine := by have := r.un; omega
theorem cd_in : CmpD S (compareOp .In) fun d1 d2 t => ∃ ds, itemsOf d2 = some ds ∧ SeqAt.shaped d1 = true ∧ SeqAt.shaped d2 = true ∧ t = ds.any fun z => PyData.eqv z d1 := by
  intro X hX
  refine ⟨_, or_inA (units65 hX.room), fun H x y d1 d2 t Q' h1 h2 ⟨ds, e, s1, s2, e3⟩ k => ⟨d1, d2, ds, Dq.dp _ _ h1, Dq.dp _ _ h2, e, s1, s2, e3 ▸ k⟩⟩
theorem cd_notin : CmpD S (compareOp .NotIn) fun d1 d2 t => ∃ ds, itemsOf d2 = some ds ∧ SeqAt.shaped d1 = true ∧ SeqAt.shaped d2 = true ∧ t = !ds.any fun z => PyData.eqv z d1 := by
  intro X hX
  refine ⟨_, or_notinA (units65 hX.room), fun H x y d1 d2 t Q' h1 h2 ⟨ds, e, s1, s2, e3⟩ k => ⟨d1, d2, ds, Dq.dp _ _ h1, Dq.dp _ _ h2, e, s1, s2, e3 ▸ k⟩⟩

/-! ### a op b op c -/
theorem chain_walk {op op' : CmpOp} {r2 r2' : PyData → PyData → Bool → Prop} {Q : List Sl → Bool → Prop} {X : Cx} (hX : S.Ok X) {r r' : R2}
    (hq : ∀ (H : Hp) (x y : V) (d1 d2 : PyData) (b : Bool) (Q' : VK), Dq X.K H x d1 → Dq X.K H y d2 → r2 d1 d2 b → Q' (.bl b) H → r x y H Q')
    (hq' : ∀ (H : Hp) (x y : V) (d1 d2 : PyData) (b : Bool) (Q' : VK), Dq X.K H x d1 → Dq X.K H y d2 → r2' d1 d2 b → Q' (.bl b) H → r' x y H Q')
    (h : E S Γ a fun Γ1 s1 => E S Γ1 b fun Γ2 s2 => ∃ d1 d2, s1 = .dat d1 ∧ s2 = .dat d2 ∧ ∃ t, r2 d1 d2 t ∧ if t = true then E S Γ2 c fun Γ3 s3 => ∃ d3, s3 = .dat d3 ∧ ∃ t', r2' d2 d3 t' ∧ Q Γ3 t' else Q Γ2 false)
    {F G : Hp} {A : Asn} {σ : St} {H : Hp} (hl : σ.length = Γ.length) (ok : Ok X.K F G (A ++ Γ.zip σ) H) {Q' : VK} (k : ∀ Γ' t H', Q Γ' t → σ.length = Γ'.length → Ok X.K F G (A ++ Γ'.zip σ) H' → Q' (.bl t) H') :
    tChain r r' (WE X a) (WE X b) (WE X c) σ H Q' := by
  refine E.two h hX hl ok fun Γ2 s1 s2 v1 v2 H2 ⟨d1, d2, e1, e2, t, q1, q2⟩ hl2 ok2 => ?_
  subst e1; subst e2
  obtain ⟨w2, e4, hw2⟩ := ok2.dat
  cases e4
  obtain ⟨w1, e3, hw1⟩ := ok2.tail.dat
  cases e3
  refine hq H2 v1 v2 d1 d2 t _ hw1 hw2 q1 ⟨t, rfl, ?_⟩
  cases t with
  | false => exact k Γ2 false H2 q2 hl2 ok2.tail.tail
  | true =>
    rw [if_pos rfl] at q2 ⊢
    refine q2 X hX F G ((.dat d2, some v2) :: (.dat d1, some v1) :: A) σ H2 hl2 ok2 _ fun Γ3 s3 v3 H3 ⟨d3, e3, t', q3, q4⟩ hl3 ok3 => ?_
    subst e3
    obtain ⟨w3, e5, hw3⟩ := ok3.dat
    cases e5
    obtain ⟨w2', e6, hw2'⟩ := ok3.tail.dat
    cases e6
    exact hq' H3 _ _ d2 d3 t' Q' hw2' hw3 q3 (k Γ3 t' H3 q4 hl3 ok3.tail.tail.tail)
theorem e_chain {op op' : CmpOp} {r2 r2' : PyData → PyData → Bool → Prop} {Q : List Sl → Sl → Prop} (hc : CmpD S (compareOp op) r2) (hc' : CmpD S (compareOp op') r2')
    (h : E S Γ a fun Γ1 s1 => E S Γ1 b fun Γ2 s2 => ∃ d1 d2, s1 = .dat d1 ∧ s2 = .dat d2 ∧ ∃ t, r2 d1 d2 t ∧ if t = true then E S Γ2 c fun Γ3 s3 => ∃ d3, s3 = .dat d3 ∧ ∃ t', r2' d2 d3 t' ∧ Q Γ3 (.dat (.bool t')) else Q Γ2 (.dat (.bool false)))
    (hm : lastMarks [op, op'] [b, c] = false := by with_unfolding_all rfl) : E S Γ (.Compare a [op, op'] [b, c] pos) Q := by
  intro X hX F G A σ H hl ok Q' k
  obtain ⟨r, hr, hq⟩ := hc X hX
  obtain ⟨r', hr', hq'⟩ := hc' X hX
  exact WE.of (pe_chain hr hr' WE.pe WE.pe WE.pe hm) (chain_walk (op := op) (op' := op') (Q := fun Γ' t => Q Γ' (.dat (.bool t))) hX hq hq' h hl ok fun Γ' t H' q hl' ok' => k Γ' _ _ H' q hl' (ok'.push fun _ => .bl _))
theorem t_chain {op op' : CmpOp} {r2 r2' : PyData → PyData → Bool → Prop} {Q : List Sl → Bool → Prop} (hc : CmpD S (compareOp op) r2) (hc' : CmpD S (compareOp op') r2')
    (h : E S Γ a fun Γ1 s1 => E S Γ1 b fun Γ2 s2 => ∃ d1 d2, s1 = .dat d1 ∧ s2 = .dat d2 ∧ ∃ t, r2 d1 d2 t ∧ if t = true then E S Γ2 c fun Γ3 s3 => ∃ d3, s3 = .dat d3 ∧ ∃ t', r2' d2 d3 t' ∧ Q Γ3 t' else Q Γ2 false)
    (hm : lastMarks [op, op'] [b, c] = false := by with_unfolding_all rfl) : T S Γ (.Compare a [op, op'] [b, c] pos) Q := by
  intro X hX F G A σ H hl ok Q' k
  obtain ⟨r, hr, hq⟩ := hc X hX
  obtain ⟨r', hr', hq'⟩ := hc' X hX
  exact WT.of (pt_chain hr hr' WE.pe WE.pe WE.pe hm) (chain_walk (op := op) (op' := op') hX hq hq' h hl ok fun Γ' t H' q hl' ok' => ⟨t, rfl, k Γ' t H' q hl' ok'⟩)

/-! ### items and slices -/
theorem ix_atI {K : PySem.W.Frag} {H : Hp} {vs : List V} {ds : List PyData} {i : Int} {d : PyData} (h : DqAll K H vs ds) (e : atI ds i = some d) : ∃ v : V, atI vs i = some v ∧ ∃ j : Nat, ds[j]? = some d ∧ vs[j]? = some v := by
  unfold atI at e ⊢
  cases q : ixN ds.length i with
  | none => rw [q] at e; cases e
  | some j =>
    rw [q] at e
    obtain ⟨v, h1, h2⟩ := DqAll.get h (show ds[j]? = some d from e)
    rw [DqAll.length h, q]
    exact ⟨v, h1, j, e, h1⟩
theorem e_ix {Q : List Sl → Sl → Prop} (h : E S Γ a fun Γ1 s1 => E S Γ1 b fun Γ2 s2 => ∃ d1 d2, s1 = .dat d1 ∧ s2 = .dat d2 ∧ ∃ ds i d, itemsOf d1 = some ds ∧ d2 = .int i ∧ atI ds i = some d ∧ Q Γ2 (.dat d)) (hs : PlainIx b := by intro _ _; rfl) : E S Γ (.Subscript a b pos) Q := by
  intro X hX F G A σ H hl ok Q' k
  refine WE.of (pe_ix ix_seq WE.pe WE.pe hs) (E.data2 h hX hl ok fun Γ2 d1 d2 v1 v2 H2 ⟨ds, i, d, q1, q2, q3, q4⟩ hl2 hd1 hd2 ok2 => ?_)
  subst q2
  have hi := hd2.flat_int
  subst hi
  cases d1 with
  | list xs =>
    cases q1
    obtain ⟨l, us, rfl, hs, ha, back⟩ := ok2.tail.lstD
    obtain ⟨v, g1, j, g2, g3⟩ := ix_atI ha q3
    refine .inl ⟨l, us, i, v, rfl, rfl, SqL.of hs, g1, k Γ2 _ v H2 q4 hl2 ?_⟩
    have := back v d fun Hb hh => by
      obtain ⟨v', z1, z2⟩ := DqAll.get hh g2
      rw [g3] at z1; cases z1; exact z2
    exact Ok.dropB (B := [(.dat (.list ds), some (V.ref l))]) (this.perm (List.Perm.swap _ _ _))
  | tuple xs =>
    cases q1
    obtain ⟨l, us, rfl, hs, ha, back⟩ := ok2.tail.tupD
    obtain ⟨v, g1, j, g2, g3⟩ := ix_atI ha q3
    refine .inr (.inl ⟨l, us, i, v, rfl, rfl, SqT.of hs, g1, k Γ2 _ v H2 q4 hl2 ?_⟩)
    have := back v d fun Hb hh => by
      obtain ⟨v', z1, z2⟩ := DqAll.get hh g2
      rw [g3] at z1; cases z1; exact z2
    exact Ok.dropB (B := [(.dat (.tuple ds), some (V.ref l))]) (this.perm (List.Perm.swap _ _ _))
  | _ => cases q1
/-- a part of a slice -/
def EO (S : Stc) (Γ : List Sl) : Option Expr → (List Sl → Option Int → Prop) → Prop
  | none, Q => Q Γ none
  | some e, Q => E S Γ e fun Γ' s => ∃ i, s = .dat (.int i) ∧ Q Γ' (some i)
def WO (X : Cx) (e : Option Expr) : TO := fun σ H Q => ∃ t, PO X e t ∧ t σ H Q
theorem WO.po {X : Cx} {e : Option Expr} : PO X e (WO X e) := ⟨fun pins s σ H Q I ⟨t, ht, h⟩ => ht.run pins s σ H Q I h⟩
theorem EO.run {X : Cx} (hX : S.Ok X) {F G : Hp} {A : Asn} {σ : St} {H : Hp} {o : Option Expr} {Q : List Sl → Option Int → Prop} (h : EO S Γ o Q) (hl : σ.length = Γ.length) (ok : Ok X.K F G (A ++ Γ.zip σ) H) {Q' : Option Int → Hp → Prop}
    (k : ∀ Γ' i H', Q Γ' i → σ.length = Γ'.length → Ok X.K F G (A ++ Γ'.zip σ) H' → Q' i H') : WO X o σ H Q' := by
  cases o with
  | none => exact ⟨_, po_none, k Γ none H h hl ok⟩
  | some e =>
    refine ⟨_, po_some WE.pe, ?_⟩
    refine E.one h hX hl ok fun Γ1 s1 v1 H1 ⟨i, e1, q⟩ hl1 ok1 => ?_
    subst e1
    obtain ⟨w, e2, hw⟩ := ok1.dat
    cases e2
    exact ⟨i, hw.flat_int, k Γ1 _ H1 q hl1 ok1.tail⟩
def cut {α : Type} (xs : List α) (lo hi : Option Int) : List α := (xs.drop (HT.sIx xs.length 0 lo)).take (HT.sIx xs.length xs.length hi - HT.sIx xs.length 0 lo)
theorem DqAll.cut {K : PySem.W.Frag} {H : Hp} {vs : List V} {ds : List PyData} (h : DqAll K H vs ds) (lo hi : Option Int) : DqAll K H (cutV vs lo hi) (DL.cut ds lo hi) := by
  unfold cutV DL.cut
  rw [DqAll.length h]
  exact DqAll.take _ (DqAll.drop _ h)
theorem cut_all {α : Type} {xs : List α} {lo hi : Option Int} (h : HT.sIx xs.length 0 lo = 0 ∧ HT.sIx xs.length xs.length hi = xs.length) : cut xs lo hi = xs := by
  unfold cut
  rw [h.1, h.2]
  simp
theorem e_slT {Q : List Sl → Sl → Prop} {lo hi : Option Expr} (h : E S Γ a fun Γ1 s1 => EO S Γ1 lo fun Γ2 i => EO S Γ2 hi fun Γ3 j => ∃ ds, s1 = .dat (.tuple ds) ∧ Q Γ3 (.dat (.tuple (cut ds i j)))) : E S Γ (.Subscript a (.Slice lo hi none p2) pos) Q := by
  intro X hX F G A σ H hl ok Q' k
  refine WE.of (pe_slice sl_tupA WE.pe WO.po WO.po) ?_
  refine E.one h hX hl ok fun Γ1 s1 v1 H1 q1 hl1 ok1 => ?_
  refine EO.run hX (A := (s1, some v1) :: A) q1 hl1 ok1 fun Γ2 i H2 q2 hl2 ok2 => ?_
  refine EO.run hX (A := (s1, some v1) :: A) q2 hl2 ok2 fun Γ3 j H3 ⟨ds, e1, q3⟩ hl3 ok3 => ?_
  subst e1
  obtain ⟨l, us, rfl, hs, ha, back⟩ := Ok.tupD (A := A ++ Γ3.zip σ) ok3
  refine ⟨l, us, rfl, SqT.of hs, fun hw => ?_, fun hw p hp => ?_⟩
  · rw [DqAll.length ha] at hw
    rw [cut_all hw] at q3
    exact k Γ3 _ _ H3 q3 hl3 ok3
  · refine k Γ3 _ _ _ q3 hl3 ?_
    have z := Ok.newTup (B := [(.dat (.tuple ds), some (V.ref l))]) (A := A ++ Γ3.zip σ) (vs := cutV us i j) (ds := cut ds i j) ok3 hp fun Hb fp sm hB => by
      cases hB with
      | cons q t =>
        cases q with
        | dat q =>
          obtain ⟨_, u1, e, k1, k2⟩ := Dq.of_tup q
          cases e
          have := (sm _ _ k1).symm.trans hs
          cases this
          exact DqAll.cut k2 _ _
    exact Ok.dropB (B := [(.dat (.tuple ds), some (V.ref l))]) (z.perm (List.Perm.swap _ _ _))
theorem e_slL {Q : List Sl → Sl → Prop} {lo hi : Option Expr} (h : E S Γ a fun Γ1 s1 => EO S Γ1 lo fun Γ2 i => EO S Γ2 hi fun Γ3 j => ∃ ds, s1 = .dat (.list ds) ∧ ∀ l, Q Γ3 (lst l (cut ds i j))) : E S Γ (.Subscript a (.Slice lo hi none p2) pos) Q := by
  intro X hX F G A σ H hl ok Q' k
  refine WE.of (pe_slice sl_list WE.pe WO.po WO.po) ?_
  refine E.one h hX hl ok fun Γ1 s1 v1 H1 q1 hl1 ok1 => ?_
  refine EO.run hX (A := (s1, some v1) :: A) q1 hl1 ok1 fun Γ2 i H2 q2 hl2 ok2 => ?_
  refine EO.run hX (A := (s1, some v1) :: A) q2 hl2 ok2 fun Γ3 j H3 ⟨ds, e1, q3⟩ hl3 ok3 => ?_
  subst e1
  obtain ⟨l, us, rfl, hs, ha, back⟩ := Ok.lstD (A := A ++ Γ3.zip σ) ok3
  refine ⟨l, us, rfl, SqL.of hs, fun p hp => ?_⟩
  refine k Γ3 _ _ _ (q3 p) hl3 ?_
  have z := Ok.newLst (B := [(.dat (.list ds), some (V.ref l))]) (A := A ++ Γ3.zip σ) (vs := cutV us i j) (ds := cut ds i j) ok3 hp fun Hb fp sm hB => by
    cases hB with
    | cons q t =>
      cases q with
      | dat q =>
        obtain ⟨_, u1, e, k1, k2⟩ := Dq.of_lst q
        cases e
        have := (sm _ _ k1).symm.trans hs
        cases this
        exact DqAll.cut k2 _ _
  exact Ok.dropB (B := [(.dat (.list ds), some (V.ref l))]) (z.perm (List.Perm.swap _ _ _))

/-! ### tuple + tuple, list + list -/
theorem e_catT {Q : List Sl → Sl → Prop} (h : E S Γ a fun Γ1 s1 => E S Γ1 b fun Γ2 s2 => ∃ xs ys, s1 = .dat (.tuple xs) ∧ s2 = .dat (.tuple ys) ∧ xs.length + ys.length ≤ 1000000 ∧ Q Γ2 (.dat (.tuple (xs ++ ys)))) : E S Γ (.BinOp a .Add b pos) Q := by
  intro X hX F G A σ H hl ok Q' k
  refine WE.of (pe_op op_catA WE.pe WE.pe) (E.two h hX hl ok fun Γ2 s1 s2 v1 v2 H2 ⟨xs, ys, e1, e2, hz, q⟩ hl2 ok2 => ?_)
  subst e1 e2
  obtain ⟨l2, us2, rfl, hs2, ha2, _⟩ := ok2.tupD
  obtain ⟨l1, us1, rfl, hs1, ha1, _⟩ := ok2.tail.tupD
  refine ⟨l1, l2, us1, us2, rfl, rfl, SqT.of hs1, SqT.of hs2, by rw [DqAll.length ha1, DqAll.length ha2, sizeLine_eq]; omega, fun e => ?_, fun n1 e => ?_, fun n1 n2 p hp => ?_⟩
  · subst e
    cases ha1
    exact k Γ2 _ _ H2 q hl2 (Ok.dropB (B := [(.dat (.tuple []), some (V.ref l1))]) (ok2.perm (List.Perm.swap _ _ _)))
  · subst e
    cases ha2
    rw [List.append_nil] at q
    exact k Γ2 _ _ H2 q hl2 ok2.tail
  · refine k Γ2 _ _ _ q hl2 ?_
    have z := Ok.newTup (B := [(.dat (.tuple ys), some (V.ref l2)), (.dat (.tuple xs), some (V.ref l1))]) (A := A ++ Γ2.zip σ) (vs := us1 ++ us2) (ds := xs ++ ys) ok2 hp fun Hb fp sm hB => by
      cases hB with
      | cons q t =>
        cases t with
        | cons q2 t =>
          cases q with
          | dat q =>
            cases q2 with
            | dat q2 =>
              obtain ⟨_, u1, e, k1, k2⟩ := Dq.of_tup q
              cases e
              obtain ⟨_, u2, e, k3, k4⟩ := Dq.of_tup q2
              cases e
              have := (sm _ _ k1).symm.trans hs2
              cases this
              have := (sm _ _ k3).symm.trans hs1
              cases this
              exact DqAll.append k4 k2
    exact Ok.dropB (B := [(.dat (.tuple ys), some (V.ref l2)), (.dat (.tuple xs), some (V.ref l1))]) (z.perm ((List.Perm.swap _ _ _).trans (List.Perm.cons _ (List.Perm.swap _ _ _))))
theorem e_catL {Q : List Sl → Sl → Prop} (h : E S Γ a fun Γ1 s1 => E S Γ1 b fun Γ2 s2 => ∃ xs ys, s1 = .dat (.list xs) ∧ s2 = .dat (.list ys) ∧ xs.length + ys.length ≤ 1000000 ∧ ∀ l, Q Γ2 (lst l (xs ++ ys))) : E S Γ (.BinOp a .Add b pos) Q := by
  intro X hX F G A σ H hl ok Q' k
  refine WE.of (pe_op op_cat WE.pe WE.pe) (E.two h hX hl ok fun Γ2 s1 s2 v1 v2 H2 ⟨xs, ys, e1, e2, hz, q⟩ hl2 ok2 => ?_)
  subst e1 e2
  obtain ⟨l2, us2, rfl, hs2, ha2, _⟩ := ok2.lstD
  obtain ⟨l1, us1, rfl, hs1, ha1, _⟩ := ok2.tail.lstD
  refine ⟨l1, l2, us1, us2, rfl, rfl, hs1, hs2, by rw [DqAll.length ha1, DqAll.length ha2, sizeLine_eq]; omega, fun p hp => ?_⟩
  refine k Γ2 _ _ _ (q p) hl2 ?_
  have z := Ok.newLst (B := [(.dat (.list ys), some (V.ref l2)), (.dat (.list xs), some (V.ref l1))]) (A := A ++ Γ2.zip σ) (vs := us1 ++ us2) (ds := xs ++ ys) ok2 hp fun Hb fp sm hB => by
    cases hB with
    | cons q t =>
      cases t with
      | cons q2 t =>
        cases q with
        | dat q =>
          cases q2 with
          | dat q2 =>
            obtain ⟨_, u1, e, k1, k2⟩ := Dq.of_lst q
            cases e
            obtain ⟨_, u2, e, k3, k4⟩ := Dq.of_lst q2
            cases e
            have := (sm _ _ k1).symm.trans hs2
            cases this
            have := (sm _ _ k3).symm.trans hs1
            cases this
            exact DqAll.append k4 k2
  exact Ok.dropB (B := [(.dat (.list ys), some (V.ref l2)), (.dat (.list xs), some (V.ref l1))]) (z.perm ((List.Perm.swap _ _ _).trans (List.Perm.cons _ (List.Perm.swap _ _ _))))
end
end DL
namespace DL
open PySem L2

section
variable {S : Stc} {Γ : List Sl} {a b c e o tg it : Expr} {es : List Expr} {body : List Stmt} {pos p p2 apos cpos : Pos} {x : Str} {D : Po}

/-! ### built-in functions of data -/
theorem bl_len : BltD S (.builtin "len") fun ds d => ∃ d1 its, ds = [d1] ∧ itemsOf d1 = some its ∧ d = .int its.length := by
  intro X hX
  refine ⟨_, call_len_seq, fun H vs ds d Q' h ⟨d1, its, e1, e2, e3⟩ k => ?_⟩
  subst e1 e3
  cases h with
  | cons h t =>
    cases t
    cases h with
    | lst hs ha => cases e2; exact ⟨_, _, rfl, .inl (SqL.of hs), k _ fun _ => by rw [DqAll.length ha]; exact .int _⟩
    | tup hs ha => cases e2; exact ⟨_, _, rfl, .inr (SqT.of hs), k _ fun _ => by rw [DqAll.length ha]; exact .int _⟩
    | _ => cases e2
theorem bl_abs : BltD S (.builtin "abs") fun ds d => ∃ i, ds = [.int i] ∧ d = .int (if i < 0 then -i else i) := by
  intro X hX
  refine ⟨_, call_abs, fun H vs ds d Q' h ⟨i, e1, e3⟩ k => ?_⟩
  subst e1 e3
  cases h with
  | cons h t =>
    cases t; cases h
    exact ⟨i, rfl, k _ fun _ => .int _⟩
theorem bl_int : BltD S (.type "int") fun ds d => (∃ i, ds = [.int i] ∧ d = .int i) ∨ ∃ t, ds = [.bool t] ∧ d = .int (if t = true then 1 else 0) := by
  intro X hX
  refine ⟨_, call_int1, fun H vs ds d Q' h hd k => ?_⟩
  rcases hd with ⟨i, e1, e2⟩ | ⟨i, e1, e2⟩
  · subst e1 e2
    cases h with
    | cons h t =>
      cases t; cases h
      exact .inl ⟨i, rfl, k _ fun _ => .int _⟩
  · subst e1 e2
    cases h with
    | cons h t =>
      cases t; cases h
      exact .inr ⟨i, rfl, k _ fun _ => .int _⟩
theorem bl_max2 : BltD S (.builtin "max") fun ds d => ∃ i j, ds = [.int i, .int j] ∧ d = .int (if j > i then j else i) := by
  intro X hX
  refine ⟨_, call_max2 hX.calm, fun H vs ds d Q' h ⟨i, j, e1, e3⟩ k => ?_⟩
  subst e1 e3
  cases h with
  | cons h t =>
    cases t with
    | cons h2 t =>
      cases t; cases h; cases h2
      exact ⟨i, j, rfl, k _ fun _ => .int _⟩
theorem bl_min2 : BltD S (.builtin "min") fun ds d => ∃ i j, ds = [.int i, .int j] ∧ d = .int (if j < i then j else i) := by
  intro X hX
  refine ⟨_, call_min2 hX.calm, fun H vs ds d Q' h ⟨i, j, e1, e3⟩ k => ?_⟩
  subst e1 e3
  cases h with
  | cons h t =>
    cases t with
    | cons h2 t =>
      cases t; cases h; cases h2
      exact ⟨i, j, rfl, k _ fun _ => .int _⟩
theorem bl_sum : BltD S (.builtin "sum") fun ds d => ∃ ns : List Int, ds = [.list (ns.map .int)] ∧ d = .int ns.sum := by
  intro X hX
  refine ⟨_, cr_sum hX.calm, fun H vs ds d Q' h ⟨ns, e1, e3⟩ k => ?_⟩
  subst e1 e3
  cases h with
  | cons h t =>
    cases t
    obtain ⟨l, us, rfl, hs, ha⟩ := Dq.of_lst h
    rw [DqAll.ints ha] at hs
    exact ⟨l, ns, rfl, SqL.of hs, k _ fun _ => .int _⟩
theorem bl_all : BltD S (.builtin "all") fun ds d => ∃ ns : List Bool, ds = [.list (ns.map .bool)] ∧ d = .bool (ns.all id) := by
  intro X hX
  refine ⟨_, cr_all hX.calm, fun H vs ds d Q' h ⟨ns, e1, e3⟩ k => ?_⟩
  subst e1 e3
  cases h with
  | cons h t =>
    cases t
    obtain ⟨l, us, rfl, hs, ha⟩ := Dq.of_lst h
    rw [DqAll.bls ha] at hs
    exact ⟨l, ns, rfl, SqL.of hs, k _ fun _ => .bl _⟩
theorem bl_any : BltD S (.builtin "any") fun ds d => ∃ ns : List Bool, ds = [.list (ns.map .bool)] ∧ d = .bool (ns.any id) := by
  intro X hX
  refine ⟨_, cr_any hX.calm, fun H vs ds d Q' h ⟨ns, e1, e3⟩ k => ?_⟩
  subst e1 e3
  cases h with
  | cons h t =>
    cases t
    obtain ⟨l, us, rfl, hs, ha⟩ := Dq.of_lst h
    rw [DqAll.bls ha] at hs
    exact ⟨l, ns, rfl, SqL.of hs, k _ fun _ => .bl _⟩
/-- max, min of one list of ints -/
theorem bl_maxL : BltD S (.builtin "max") fun ds d => ∃ ns : List Int, ds = [.list (ns.map .int)] ∧ 0 < ns.length ∧ ∃ m, m ∈ ns ∧ (∀ y ∈ ns, y ≤ m) ∧ d = .int m := by
  intro X hX
  refine ⟨_, cr_max hX.calm, fun H vs ds d Q' h ⟨ns, e1, h0, m, hm, hle, e3⟩ k => ?_⟩
  subst e1 e3
  cases h with
  | cons h t =>
    cases t
    obtain ⟨l, us, rfl, hs, ha⟩ := Dq.of_lst h
    rw [DqAll.ints ha] at hs
    refine ⟨l, ns, rfl, SqL.of hs, h0, fun m' h1 h2 => ?_⟩
    have : m' = m := by have := hle _ h1; have := h2 _ hm; omega
    subst this
    exact k _ fun _ => .int _
theorem bl_minL : BltD S (.builtin "min") fun ds d => ∃ ns : List Int, ds = [.list (ns.map .int)] ∧ 0 < ns.length ∧ ∃ m, m ∈ ns ∧ (∀ y ∈ ns, m ≤ y) ∧ d = .int m := by
  intro X hX
  refine ⟨_, cr_min hX.calm, fun H vs ds d Q' h ⟨ns, e1, h0, m, hm, hle, e3⟩ k => ?_⟩
  subst e1 e3
  cases h with
  | cons h t =>
    cases t
    obtain ⟨l, us, rfl, hs, ha⟩ := Dq.of_lst h
    rw [DqAll.ints ha] at hs
    refine ⟨l, ns, rfl, SqL.of hs, h0, fun m' h1 h2 => ?_⟩
    have : m' = m := by have := hle _ h1; have := h2 _ hm; omega
    subst this
    exact k _ fun _ => .int _

/-! ### built-ins that make a list, a tuple -/
/-- a call of a built-in type of one datum -/
theorem ty1 {id : String} {r : List V → Hp → VK → Prop} {Q : List Sl → Sl → Prop} (hr : ∀ X, S.Ok X → CallR X (.type id) r) (hs : S.sc.names.lookup x = some .globalImplicit) (hm : S.M.mg x = none) (hv : bootBuiltins x = some (.type id)) (hn : x ≠ "__name__") (hdb : (x == ("__debug__" : Str)) = false) (hst : noStar e = true)
    {q : List Sl → PyData → Prop} (h : E S Γ e fun Γ' s => ∃ d, s = .dat d ∧ q Γ' d)
    (hq : ∀ {X : Cx} {F G : Hp} {A : Asn} {σ : St} {H : Hp} {Γ' : List Sl} {v : V} {d : PyData} {Q' : VK}, S.Ok X → q Γ' d → σ.length = Γ'.length → Ok X.K F G ((.dat d, some v) :: (A ++ Γ'.zip σ)) H →
      (∀ Γ' s v H', Q Γ' s → σ.length = Γ'.length → Ok X.K F G ((s, some v) :: (A ++ Γ'.zip σ)) H' → Q' v H') → r [v] H Q') : E S Γ (.Call (.Name x p) [e] [] pos) Q := by
  intro X hX F G A σ H hl ok Q' k
  refine WE.of (pe_callTy (hr X hX) (by show X.env.scope.names.lookup x = _; rw [hX.sc]; exact hs) (by rw [hX.mg]; exact hm) hv WA.pa hn hdb (starEach_cons hst) (anyStar [] rfl)) ?_
  have h1 : EA S Γ [e] fun Γ' ss => ∃ d, ss = [.dat d] ∧ q Γ' d := ⟨hst, h.mono fun Γ' s ⟨d, e1, h1⟩ => ⟨d, by rw [e1], h1⟩⟩
  refine EA.run hX _ h1 hl ok fun Γ' ss vs H' ⟨d, e1, q1⟩ hl' l1 l2 ok' => ?_
  subst e1
  cases vs with
  | nil => simp at l1
  | cons v vs =>
    cases vs with
    | cons _ _ => simp at l1
    | nil => exact hq hX q1 hl' ok' k
theorem bt1 {id : String} {r : List V → Hp → VK → Prop} {Q : List Sl → Sl → Prop} (hr : ∀ X, S.Ok X → CallR X (.builtin id) r) (hs : S.sc.names.lookup x = some .globalImplicit) (hm : S.M.mg x = none) (hv : bootBuiltins x = some (.builtin id)) (hn : x ≠ "__name__") (hdb : (x == ("__debug__" : Str)) = false) (hst : noStar e = true)
    {q : List Sl → PyData → Prop} (h : E S Γ e fun Γ' s => ∃ d, s = .dat d ∧ q Γ' d)
    (hq : ∀ {X : Cx} {F G : Hp} {A : Asn} {σ : St} {H : Hp} {Γ' : List Sl} {v : V} {d : PyData} {Q' : VK}, S.Ok X → q Γ' d → σ.length = Γ'.length → Ok X.K F G ((.dat d, some v) :: (A ++ Γ'.zip σ)) H →
      (∀ Γ' s v H', Q Γ' s → σ.length = Γ'.length → Ok X.K F G ((s, some v) :: (A ++ Γ'.zip σ)) H' → Q' v H') → r [v] H Q') : E S Γ (.Call (.Name x p) [e] [] pos) Q := by
  intro X hX F G A σ H hl ok Q' k
  refine WE.of (pe_callB (hr X hX) (by show X.env.scope.names.lookup x = _; rw [hX.sc]; exact hs) (by rw [hX.mg]; exact hm) hv WA.pa hn hdb (starEach_cons hst) (anyStar [] rfl)) ?_
  have h1 : EA S Γ [e] fun Γ' ss => ∃ d, ss = [.dat d] ∧ q Γ' d := ⟨hst, h.mono fun Γ' s ⟨d, e1, h1⟩ => ⟨d, by rw [e1], h1⟩⟩
  refine EA.run hX _ h1 hl ok fun Γ' ss vs H' ⟨d, e1, q1⟩ hl' l1 l2 ok' => ?_
  subst e1
  cases vs with
  | nil => simp at l1
  | cons v vs =>
    cases vs with
    | cons _ _ => simp at l1
    | nil => exact hq hX q1 hl' ok' k
theorem e_tuple {Q : List Sl → Sl → Prop} (hm : S.M.mg "tuple" = none) (h : E S Γ e fun Γ' s => ∃ d, s = .dat d ∧ ∃ ds, itemsOf d = some ds ∧ Q Γ' (.dat (.tuple ds))) (hst : noStar e = true := by rfl) (hs : S.sc.names.lookup ("tuple" : Str) = some .globalImplicit := by rfl) : E S Γ (.Call (.Name "tuple" p) [e] [] pos) Q := by
  refine ty1 (id := "tuple") (r := fun xs H Q => ∃ (p : Addr) (ys : List V), xs = [.ref p] ∧ ((H p = some (.lst ys) ∧ ∀ l, H l = none → Q (.ref l) (upd H l (.tup ys))) ∨ (H p = some (.tup ys) ∧ Q (.ref p) H))) (fun X hX => ?_) hs hm (by decide +kernel) (by decide) (by decide) hst h ?_
  · intro pins s σ H xs us Q I r ⟨a, ys, e, h1⟩
    exact call_tuple_of pins s σ H xs us Q I r ⟨a, ys, e, h1.imp (fun z => ⟨SqL.of z.1, z.2⟩) fun z => ⟨SqT.of z.1, z.2⟩⟩
  intro X F G A σ H Γ' v d Q' hX ⟨ds, hi, q⟩ hl ok k
  cases d with
  | list xs =>
    cases hi
    obtain ⟨l, us, rfl, hs, ha, _⟩ := ok.lstD
    refine ⟨l, us, rfl, .inl ⟨hs, fun p hp => k Γ' _ _ _ q hl ?_⟩⟩
    have z := Ok.newTup (B := [(.dat (.list ds), some (V.ref l))]) (A := A ++ Γ'.zip σ) (vs := us) (ds := ds) ok hp fun Hb fp sm hB => by
      cases hB with
      | cons q t =>
        cases q with
        | dat q =>
          obtain ⟨_, u1, e, k1, k2⟩ := Dq.of_lst q
          cases e
          have := (sm _ _ k1).symm.trans hs
          cases this
          exact k2
    exact Ok.dropB (B := [(.dat (.list ds), some (V.ref l))]) (z.perm (List.Perm.swap _ _ _))
  | tuple xs =>
    cases hi
    obtain ⟨l, us, rfl, hs, ha, _⟩ := ok.tupD
    exact ⟨l, us, rfl, .inr ⟨hs, k Γ' _ _ H q hl ok⟩⟩
  | _ => cases hi
theorem e_list {Q : List Sl → Sl → Prop} (hm : S.M.mg "list" = none) (h : E S Γ e fun Γ' s => ∃ d, s = .dat d ∧ ∃ ds, itemsOf d = some ds ∧ ∀ l, Q Γ' (lst l ds)) (hst : noStar e = true := by rfl) (hs : S.sc.names.lookup ("list" : Str) = some .globalImplicit := by rfl) : E S Γ (.Call (.Name "list" p) [e] [] pos) Q := by
  refine ty1 (id := "list") (r := fun xs H Q => ∃ (p : Addr) (ys : List V), xs = [.ref p] ∧ (H p = some (.lst ys) ∨ H p = some (.tup ys)) ∧ ∀ l, H l = none → Q (.ref l) (upd H l (.lst ys))) (fun X hX => ?_) hs hm (by decide +kernel) (by decide) (by decide) hst h ?_
  · intro pins s σ H xs us Q I r ⟨a, ys, e, h1, h2⟩
    exact call_list_of pins s σ H xs us Q I r ⟨a, ys, e, h1.imp SqL.of SqT.of, h2⟩
  intro X F G A σ H Γ' v d Q' hX ⟨ds, hi, q⟩ hl ok k
  cases d with
  | list xs =>
    cases hi
    obtain ⟨l, us, rfl, hs, ha, _⟩ := ok.lstD
    refine ⟨l, us, rfl, .inl hs, fun p hp => k Γ' _ _ _ (q p) hl ?_⟩
    have z := Ok.newLst (B := [(.dat (.list ds), some (V.ref l))]) (A := A ++ Γ'.zip σ) (vs := us) (ds := ds) ok hp fun Hb fp sm hB => by
      cases hB with
      | cons q t =>
        cases q with
        | dat q =>
          obtain ⟨_, u1, e, k1, k2⟩ := Dq.of_lst q
          cases e
          have := (sm _ _ k1).symm.trans hs
          cases this
          exact k2
    exact Ok.dropB (B := [(.dat (.list ds), some (V.ref l))]) (z.perm (List.Perm.swap _ _ _))
  | tuple xs =>
    cases hi
    obtain ⟨l, us, rfl, hs, ha, _⟩ := ok.tupD
    refine ⟨l, us, rfl, .inr hs, fun p hp => k Γ' _ _ _ (q p) hl ?_⟩
    have z := Ok.newLst (B := [(.dat (.tuple ds), some (V.ref l))]) (A := A ++ Γ'.zip σ) (vs := us) (ds := ds) ok hp fun Hb fp sm hB => by
      cases hB with
      | cons q t =>
        cases q with
        | dat q =>
          obtain ⟨_, u1, e, k1, k2⟩ := Dq.of_tup q
          cases e
          have := (sm _ _ k1).symm.trans hs
          cases this
          exact k2
    exact Ok.dropB (B := [(.dat (.tuple ds), some (V.ref l))]) (z.perm (List.Perm.swap _ _ _))
  | _ => cases hi
/-- sorted(list of ints) -/
theorem e_sortedI {Q : List Sl → Sl → Prop} (hm : S.M.mg "sorted" = none) (h : E S Γ e fun Γ' s => ∃ d, s = .dat d ∧ ∃ ns : List Int, d = .list (ns.map .int) ∧ ∀ (ns' : List Int) l, ns'.Perm ns → ns'.Pairwise (· ≤ ·) → Q Γ' (lst l (ns'.map .int))) (hst : noStar e = true := by rfl) (hs : S.sc.names.lookup ("sorted" : Str) = some .globalImplicit := by rfl) : E S Γ (.Call (.Name "sorted" p) [e] [] pos) Q := by
  refine bt1 (id := "sorted") (r := fun vs H Q => ∃ (a : Addr) (ns : List Int), vs = [V.ref a] ∧ H a = some (.lst (ns.map V.int)) ∧ ∀ (ns' : List Int) (p : Addr), ns'.Perm ns → ns'.Pairwise (· ≤ ·) → H p = none → Q (.ref p) (upd H p (.lst (ns'.map V.int)))) (fun X hX => ?_) hs hm (by decide +kernel) (by decide) (by decide) hst h ?_
  · intro pins s σ H xs us Q I r ⟨a, ns, e, h1, q⟩
    exact cr_sortedI pins s σ H xs us Q I r ⟨a, ns, e, SqL.of h1, q⟩
  intro X F G A σ H Γ' v d Q' hX ⟨ns, hi, q⟩ hl ok k
  subst hi
  obtain ⟨l, us, rfl, hs, ha, _⟩ := ok.lstD
  rw [DqAll.ints ha] at hs
  refine ⟨l, ns, rfl, hs, fun ns' p h1 h2 hp => k Γ' _ _ _ (q ns' p h1 h2) hl ?_⟩
  exact Ok.newLst (B := []) (A := A ++ Γ'.zip σ) (vs := ns'.map V.int) (ds := ns'.map PyData.int) ok.tail hp fun Hb fp sm hB => DqAll.of_ints ns'

/-! ### isinstance of a datum -/
def tyN : PyData → String
  | .none => "NoneType"
  | .bool _ => "bool"
  | .int _ => "int"
  | .str _ => "str"
  | .list _ => "list"
  | .tuple _ => "tuple"
  | .dict _ => "dict"
theorem tyX_of {K : PySem.W.Frag} {H : Hp} {v : V} {d : PyData} (h : Dq K H v d) : TyX K H v (.type (tyN d)) := by
  cases h with
  | non => exact .base .non
  | bl b => exact .base (.bl b)
  | int i => exact .base (.int i)
  | str x => exact .base (.str x)
  | lst hs ha => exact .base (.lst hs)
  | tup hs ha => exact .base (.tup hs)
theorem e_isinst {Q : List Sl → Sl → Prop} {T : String} {tn : Str} (f : PyData → Bool) (hf : ∀ d, kitB (tyN d) T = some (f d)) (hm : S.M.mg "isinstance" = none) (hmT : S.M.mg tn = none) (hv : bootBuiltins tn = some (.type T)) (h : E S Γ e fun Γ' s => ∃ d, s = .dat d ∧ Q Γ' (.dat (.bool (f d))))
    (hst : noStar e = true := by rfl) (hs : S.sc.names.lookup ("isinstance" : Str) = some .globalImplicit := by rfl) (hsT : S.sc.names.lookup tn = some .globalImplicit := by rfl) (hn : tn ≠ "__name__" := by decide) (hd : (tn == ("__debug__" : Str)) = false := by decide) : E S Γ (.Call (.Name "isinstance" p) [e, .Name tn p2] [] pos) Q := by
  intro X hX F G A σ H hl ok Q' k
  have pT : PE X (.Name tn p2) (tC (.ty T)) := pe_bltn (u := .type T) (by show X.env.scope.names.lookup tn = _; rw [hX.sc]; exact hsT) (by rw [hX.mg]; exact hmT) hv rfl hn hd
  refine WE.of (pe_callB call_isi (by show X.env.scope.names.lookup _ = _; rw [hX.sc]; exact hs) (by rw [hX.mg]; exact hm) (by decide +kernel) (pa_cons WE.pe (pa_cons pT pa_nil) (starEach_cons hst)) (by decide) (by decide) (starEach_cons hst) rfl) ?_
  refine h.one hX hl ok fun Γ1 s1 v1 H1 ⟨d, e1, q⟩ hl1 ok1 => ?_
  subst e1
  obtain ⟨w, e2, hw⟩ := ok1.dat
  cases e2
  exact ⟨v1, .ty T, _, _, f d, rfl, .ty T, tyX_of hw, kit_ty (hf d), k Γ1 _ _ H1 q hl1 (ok1.tail.push fun _ => .bl _)⟩
def isTup : PyData → Bool
  | .tuple _ => true
  | _ => false
def isLst : PyData → Bool
  | .list _ => true
  | _ => false
def isStr : PyData → Bool
  | .str _ => true
  | _ => false
def isBool : PyData → Bool
  | .bool _ => true
  | _ => false
def isInt : PyData → Bool
  | .int _ => true
  | .bool _ => true
  | _ => false
theorem kb_tup : ∀ d, kitB (tyN d) "tuple" = some (isTup d) := by intro d; cases d <;> simp only [tyN, isTup] <;> decide +kernel
theorem kb_lst : ∀ d, kitB (tyN d) "list" = some (isLst d) := by intro d; cases d <;> simp only [tyN, isLst] <;> decide +kernel
theorem kb_str : ∀ d, kitB (tyN d) "str" = some (isStr d) := by intro d; cases d <;> simp only [tyN, isStr] <;> decide +kernel
theorem kb_bool : ∀ d, kitB (tyN d) "bool" = some (isBool d) := by intro d; cases d <;> simp only [tyN, isBool] <;> decide +kernel
theorem kb_int : ∀ d, kitB (tyN d) "int" = some (isInt d) := by intro d; cases d <;> simp only [tyN, isInt] <;> decide +kernel

/-! ### methods of own lists -/
theorem tyV_lst {K : PySem.W.Frag} {H : Hp} {l : Addr} {xs : List V} (h : H l = some (.lst xs)) : tyV K "list" (.ref l) H := Or.inl ⟨rfl, _, SqL.of h⟩
/-- the own list at l, in whatever slot -/
theorem own_at {X : Cx} {F G H : Hp} {A : Asn} {Γ : List Sl} {σ : St} {i : Nat} {l : Addr} {ds : List PyData} (hl : σ.length = Γ.length) (hi : Γ[i]? = some (lst l ds)) (ok : Ok X.K F G (A ++ Γ.zip σ) H) :
    ∃ us, H l = some (.lst us) ∧ us.length = ds.length ∧ DqAll X.K H us ds := by
  obtain ⟨v, h1, h2, h3⟩ := ok.at hl hi
  obtain ⟨_, us, hH, hlen, hda, _⟩ := h3.lst
  exact ⟨us, hH, hlen, hda⟩
theorem own_put {X : Cx} {F G H : Hp} {A : Asn} {Γ : List Sl} {σ : St} {i : Nat} {l : Addr} {ds ds' : List PyData} {us us' : List V} {B : Asn} (hl : σ.length = Γ.length) (hi : Γ[i]? = some (lst l ds)) (ok : Ok X.K F G (B ++ (A ++ Γ.zip σ)) H) (hH : H l = some (.lst us))
    (hd : ∀ Hb fp, Same Hb H → Sat X.K Hb B fp → DqAll X.K Hb us ds → DqAll X.K Hb us' ds') : Ok X.K F G (A ++ (Γ.set i (lst l ds')).zip σ) (upd H l (.lst us')) := by
  rw [← List.append_assoc] at ok
  obtain ⟨v, h1, h2, h3⟩ := ok.at hl hi
  rw [List.append_assoc] at h3
  obtain ⟨_, us0, hH0, hlen, hda, put⟩ := h3.lst
  rw [hH] at hH0
  cases hH0
  have h4 := put us' ds' B _ rfl hd
  have h5 : Ok X.K F G ((lst l ds', v) :: (A ++ (Γ.zip σ).eraseIdx i)) (upd H l (.lst us')) := by
    refine Ok.dropB (B := B) (h4.perm ?_)
    exact List.perm_middle.symm
  exact Ok.put (B := []) (s := lst l ds) h5 h2 h1
theorem e_append {Q : List Sl → Sl → Prop} (h : E S Γ o fun Γ1 s0 => ∃ l, s0 = .bor l ∧ (∃ (i : Nat) (ds : List PyData), Γ1[i]? = some (lst l ds)) ∧ E S Γ1 e fun Γ2 s => ∃ d, s = .dat d ∧ ∃ (i : Nat) (ds : List PyData), Γ2[i]? = some (lst l ds) ∧ ds.length < 1000000 ∧ Q (Γ2.set i (lst l (ds ++ [d]))) (.dat .none))
    (hbase : ∀ env, attributeBase o "append" env (eval o env) = eval o env := by intro _; rfl) (hline : (apos.endLine == cpos.line) = true := by rfl) (hst : noStar e = true := by rfl) : E S Γ (.Call (.Attribute o "append" apos) [e] [] cpos) Q := by
  intro X hX F G A σ H hl ok Q' k
  have few : ((backTo cpos (starEach [e] X.env)).all (fun x => !x.1) && (backToKw cpos (keywordEach [] X.env)).all (fun x => x.1.isSome) && decide (([e] : List Expr).length + ([] : List Keyword).length + (if ([] : List Keyword).isEmpty then 0 else 1) < 30)) = true := by
    rw [starEach_cons hst]; rfl
  refine WE.of (pe_bm PySem.F.plainAttrs_list PySem.F.slot_list_append PySem.F.type_list_append mt_append WE.pe WA.pa (hbase _) few hline (starEach_cons hst) (anyStar [] rfl)) ?_
  refine E.one h hX hl ok fun Γ1 s1 v1 H1 ⟨l, e1, ⟨i, ds, hi⟩, q⟩ hl1 ok1 => ?_
  subst e1
  have hv1 : v1 = .ref l := by
    obtain ⟨Hb, fp, _, _, _, h4, _⟩ := ok1
    cases h4 with
    | cons q t => cases q; rfl
  subst hv1
  obtain ⟨us, hH, _, _⟩ := own_at hl1 hi ok1.tail
  refine ⟨tyV_lst hH, ?_⟩
  have h1 : EA S Γ1 [e] fun Γ2 ss => ∃ d, ss = [.dat d] ∧ ∃ (i : Nat) (ds : List PyData), Γ2[i]? = some (lst l ds) ∧ ds.length < 1000000 ∧ Q (Γ2.set i (lst l (ds ++ [d]))) (.dat .none) := ⟨hst, q.mono fun Γ' s ⟨d, e1, h1⟩ => ⟨d, by rw [e1], h1⟩⟩
  refine EA.run hX _ h1 hl1 ok1.tail fun Γ2 ss vs H2 ⟨d, e1, i, ds, hi, hz, q⟩ hl2 l1 l2 ok2 => ?_
  subst e1
  cases vs with
  | nil => simp at l1
  | cons v vs =>
    cases vs with
    | cons _ _ => simp at l1
    | nil =>
      have ok2' : Ok X.K F G ([(.dat d, some v)] ++ (A ++ Γ2.zip σ)) H2 := ok2
      obtain ⟨us, hH, hlen, hda⟩ := own_at hl2 hi (Ok.tail ok2)
      refine ⟨l, us, v, rfl, rfl, hH, by rw [hlen, sizeLine_eq]; omega, ?_⟩
      refine k _ _ _ _ q (by simpa using hl2) (Ok.push (own_put hl2 hi ok2' hH fun Hb fp _ hB hh => ?_) fun _ => .non)
      cases hB with
      | cons q t => cases q with | dat q => exact DqAll.append hh (.cons q .nil)
/-- xs.extend(ys), ys a list of data -/
theorem e_extend {Q : List Sl → Sl → Prop} (h : E S Γ o fun Γ1 s0 => ∃ l, s0 = .bor l ∧ (∃ (i : Nat) (ds : List PyData), Γ1[i]? = some (lst l ds)) ∧ E S Γ1 e fun Γ2 s => ∃ es, s = .dat (.list es) ∧ ∃ (i : Nat) (ds : List PyData), Γ2[i]? = some (lst l ds) ∧ ds.length + es.length ≤ 1000000 ∧ Q (Γ2.set i (lst l (ds ++ es))) (.dat .none))
    (hbase : ∀ env, attributeBase o "extend" env (eval o env) = eval o env := by intro _; rfl) (hline : (apos.endLine == cpos.line) = true := by rfl) (hst : noStar e = true := by rfl) : E S Γ (.Call (.Attribute o "extend" apos) [e] [] cpos) Q := by
  intro X hX F G A σ H hl ok Q' k
  have few : ((backTo cpos (starEach [e] X.env)).all (fun x => !x.1) && (backToKw cpos (keywordEach [] X.env)).all (fun x => x.1.isSome) && decide (([e] : List Expr).length + ([] : List Keyword).length + (if ([] : List Keyword).isEmpty then 0 else 1) < 30)) = true := by
    rw [starEach_cons hst]; rfl
  refine WE.of (pe_bm PySem.F.plainAttrs_list PySem.F.slot_list_extend PySem.F.type_list_extend mt_extend WE.pe WA.pa (hbase _) few hline (starEach_cons hst) (anyStar [] rfl)) ?_
  refine E.one h hX hl ok fun Γ1 s1 v1 H1 ⟨l, e1, ⟨i, ds, hi⟩, q⟩ hl1 ok1 => ?_
  subst e1
  have hv1 : v1 = .ref l := by
    obtain ⟨Hb, fp, _, _, _, h4, _⟩ := ok1
    cases h4 with
    | cons q t => cases q; rfl
  subst hv1
  obtain ⟨us, hH, _, _⟩ := own_at hl1 hi ok1.tail
  refine ⟨tyV_lst hH, ?_⟩
  have h1 : EA S Γ1 [e] fun Γ2 ss => ∃ es, ss = [.dat (.list es)] ∧ ∃ (i : Nat) (ds : List PyData), Γ2[i]? = some (lst l ds) ∧ ds.length + es.length ≤ 1000000 ∧ Q (Γ2.set i (lst l (ds ++ es))) (.dat .none) := ⟨hst, q.mono fun Γ' s ⟨d, e1, h1⟩ => ⟨d, by rw [e1], h1⟩⟩
  refine EA.run hX _ h1 hl1 ok1.tail fun Γ2 ss vs H2 ⟨es, e1, i, ds, hi, hz, q⟩ hl2 l1 l2 ok2 => ?_
  subst e1
  cases vs with
  | nil => simp at l1
  | cons v vs =>
    cases vs with
    | cons _ _ => simp at l1
    | nil =>
      have ok2' : Ok X.K F G ([(.dat (.list es), some v)] ++ (A ++ Γ2.zip σ)) H2 := ok2
      obtain ⟨lb, ws, rfl, hs2, ha2, _⟩ := Ok.lstD (A := A ++ Γ2.zip σ) ok2
      obtain ⟨us, hH, hlen, hda⟩ := own_at hl2 hi (Ok.tail ok2)
      refine ⟨l, lb, us, ws, rfl, rfl, hH, hs2, by rw [hlen, DqAll.length ha2, sizeLine_eq]; omega, ?_⟩
      refine k _ _ _ _ q (by simpa using hl2) (Ok.push (own_put hl2 hi ok2' hH fun Hb fp sm hB hh => ?_) fun _ => .non)
      cases hB with
      | cons q t =>
        cases q with
        | dat q =>
          obtain ⟨_, u1, e, k1, k2⟩ := Dq.of_lst q
          cases e
          have := (sm _ _ k1).symm.trans hs2
          cases this
          exact DqAll.append hh k2
/-- len(xs) of an own list -/
theorem e_lenO {Q : List Sl → Sl → Prop} (hm : S.M.mg "len" = none) (h : E S Γ e fun Γ' s => ∃ l, s = .bor l ∧ ∃ (i : Nat) (ds : List PyData), Γ'[i]? = some (lst l ds) ∧ Q Γ' (.dat (.int ds.length))) (hst : noStar e = true := by rfl) (hs : S.sc.names.lookup ("len" : Str) = some .globalImplicit := by rfl) : E S Γ (.Call (.Name "len" p) [e] [] pos) Q := by
  intro X hX F G A σ H hl ok Q' k
  refine WE.of (pe_callB call_len_seq (by show X.env.scope.names.lookup _ = _; rw [hX.sc]; exact hs) (by rw [hX.mg]; exact hm) (by decide +kernel) WA.pa (by decide) (by decide) (starEach_cons hst) (anyStar [] rfl)) ?_
  have h1 : EA S Γ [e] fun Γ' ss => ∃ l, ss = [.bor l] ∧ ∃ (i : Nat) (ds : List PyData), Γ'[i]? = some (lst l ds) ∧ Q Γ' (.dat (.int ds.length)) := ⟨hst, h.mono fun Γ' s ⟨d, e1, h1⟩ => ⟨d, by rw [e1], h1⟩⟩
  refine EA.run hX _ h1 hl ok fun Γ' ss vs H' ⟨l, e1, i, ds, hi, q⟩ hl' l1 l2 ok' => ?_
  subst e1
  cases vs with
  | nil => simp at l1
  | cons v vs =>
    cases vs with
    | cons _ _ => simp at l1
    | nil =>
      have hv1 : v = .ref l := by
        obtain ⟨Hb, fp, _, _, _, h4, _⟩ := ok'
        cases h4 with
        | cons q t => cases q; rfl
      subst hv1
      have ok2 : Ok X.K F G (A ++ Γ'.zip σ) H' := Ok.tail ok'
      obtain ⟨us, hH, hlen, hda⟩ := own_at hl' hi ok2
      exact ⟨l, us, rfl, .inl (SqL.of hH), k Γ' _ _ H' q hl' (ok2.push fun _ => by rw [hlen]; exact .int _)⟩
end
end DL
namespace DL
open PySem L2

/-! ### a def of the text -/
def finS : Sl → Sl → Sl
  | .own a _, .own b R' => if a = b then .own b R' else .un
  | _, _ => .un
def fin (ss Γ : List Sl) : List Sl := List.zipWith finS ss Γ
theorem finS_cases (s g : Sl) : finS s g = .un ∨ ∃ a R R', s = .own a R ∧ g = .own a R' ∧ finS s g = .own a R' := by
  cases s <;> cases g <;> first | exact .inl rfl | skip
  rename_i a R b R'
  unfold finS
  by_cases e : a = b
  · subst e
    exact .inr ⟨a, R, R', rfl, rfl, if_pos rfl⟩
  · exact .inl (if_neg e)
theorem Ok.fin {K : PySem.W.Frag} {F G H : Hp} : ∀ {ss Γ : List Sl} {σ : St} {vs : List V} {B : Asn}, (∀ (i : Nat) a R, ss[i]? = some (.own a R) → vs[i]? = some (.ref a)) → ss.length = vs.length → σ.length = Γ.length → Ok K F G (B ++ Γ.zip σ) H → Ok K F G (B ++ (DL.fin ss Γ).zip (vs.map some)) H
  | [], Γ, σ, vs, B, hv, hl, hg, h => by
    have : Ok K F G B H := Ok.dropB (h.perm List.perm_append_comm)
    simpa [DL.fin] using this
  | s :: ss, [], σ, vs, B, hv, hl, hg, h => by simpa [DL.fin] using h
  | s :: ss, g :: Γ, [], vs, B, hv, hl, hg, h => by simp at hg
  | s :: ss, g :: Γ, w :: σ, [], B, hv, hl, hg, h => by simp at hl
  | s :: ss, g :: Γ, w :: σ, v :: vs, B, hv, hl, hg, h => by
    have h1 : Ok K F G ((g, w) :: (B ++ Γ.zip σ)) H := h.perm (List.perm_middle (l₁ := B) (a := (g, w)) (l₂ := Γ.zip σ))
    have ih : ∀ B', Ok K F G (B' ++ Γ.zip σ) H → Ok K F G (B' ++ (DL.fin ss Γ).zip (vs.map some)) H := fun B' h' => Ok.fin (fun i a R e => by simpa using hv (i + 1) a R (by simpa using e)) (by simpa using hl) (by simpa using hg) h'
    show Ok K F G (B ++ (finS s g, some v) :: (DL.fin ss Γ).zip (vs.map some)) H
    rcases finS_cases s g with q | ⟨a, R, R', e1, e2, q⟩
    · rw [q]
      have h2 : Ok K F G (((.un, some v) :: B) ++ Γ.zip σ) H := h1.tail.pushUn
      exact (ih _ h2).perm (List.perm_middle (l₁ := B)).symm
    · rw [q]
      subst e1 e2
      have ew : w = some (.ref a) := by
        obtain ⟨Hb, fp, _, _, _, h4, _⟩ := h1
        cases h4 with
        | cons q t => cases q; rfl
      have ev : v = .ref a := by
        have := hv 0 a R rfl
        simpa using this
      subst ew ev
      exact (ih ((.own a R', some (.ref a)) :: B) h1).perm (List.perm_middle (l₁ := B)).symm
theorem own_val {K : PySem.W.Frag} {F G H : Hp} : ∀ {ss : List Sl} {vs : List V} {B : Asn}, ss.length = vs.length → Ok K F G (B ++ ss.zip (vs.map some)) H → ∀ (i : Nat) a R, ss[i]? = some (.own a R) → vs[i]? = some (.ref a)
  | [], _, _, _, _, i, a, R, e => by simp at e
  | s :: ss, [], _, hl, _, _, _, _, _ => by simp at hl
  | s :: ss, v :: vs, B, hl, h, i, a, R, e => by
    have h1 : Ok K F G ((s, some v) :: (B ++ ss.zip (vs.map some))) H := h.perm (List.perm_middle (l₁ := B) (a := (s, some v)) (l₂ := ss.zip (vs.map some)))
    cases i with
    | zero =>
      have e' : s = .own a R := by simpa using e
      subst e'
      obtain ⟨Hb, fp, _, _, _, h4, _⟩ := h1
      cases h4 with
      | cons q t => cases q; rfl
    | succ i =>
      have := own_val (B := B) (by simpa using hl) h1.tail i a R (by simpa using e)
      simpa using this
theorem zip_app {α β : Type} : ∀ {l1 : List α} {m1 : List β} {l2 : List α} {m2 : List β}, l1.length = m1.length → (l1 ++ l2).zip (m1 ++ m2) = l1.zip m1 ++ l2.zip m2
  | [], [], _, _, _ => rfl
  | [], _ :: _, _, _, h => by simp at h
  | _ :: _, [], _, _, h => by simp at h
  | a :: l1, b :: m1, l2, m2, h => by
    show (a, b) :: (l1 ++ l2).zip (m1 ++ m2) = (a, b) :: (l1.zip m1 ++ l2.zip m2)
    rw [zip_app (by simpa using h)]
theorem Ok.uns {K : PySem.W.Frag} {F G H : Hp} {A : Asn} (h : Ok K F G A H) : ∀ n : Nat, Ok K F G (A ++ (List.replicate n Sl.un).zip (List.replicate n (none : Option V))) H
  | 0 => by simpa using h
  | n + 1 => by
    have := (Ok.uns h n).pushUn (w := none)
    exact this.perm (List.perm_middle (l₁ := A)).symm
abbrev St0 (M : Mdl) (N : List Str) (st : Stmt) (k : Nat) : Stc := ⟨M, N, defScope st, fun _ => true, k⟩
theorem fn_raw {M : Mdl} {x qual : Str} {st : Stmt} {f : Addr} {fd : FuncData} {N ps : List Str} {k : Nat} {R : FR} (Fd : Fun M.K x qual st f fd) (hm : M.mg x = some (.ref f)) (hb : Binds M.K fd ps []) (Sc : FnScope N ps (defScope st))
    (body : ∀ ss Qd, R ss Qd → ss.length = ps.length → B (St0 M N st k) (ss ++ List.replicate (N.length - ps.length) .un) (defBody st) { nx := fun Γ' => N.length = Γ'.length → Qd (fin ss Γ') (.dat .none), rt := fun Γ' s => N.length = Γ'.length → Qd (fin ss Γ') s }) : FnOk M.P M.w M.K M.mg M.base CX0 (k + 1) f fd ps (spG M.K ps.length R) := by
  have hpl : ps.length ≤ N.length := by
    have := congrArg List.length Sc.pre
    rw [List.length_take] at this
    omega
  refine Fd.ok Sc (fun vs H Q E ⟨_, _, _, _, h, _⟩ => h) fun cdv A outer s H vs Q E hr ⟨F, G, ss, Qd, l1, l2, ok, hR, kk⟩ => ?_
  have hX : (St0 M N st k).Ok (cxOf CX0 M.P M.w M.K M.mg M.base N qual (defScope st) f cdv A outer s H E).nox :=
    ⟨rfl, rfl, rfl, rfl, rfl, rfl, Sc.nd, rfl, rfl, rfl, hr, PassesOwn.never⟩
  have hl : (L2.start N vs).length = (ss ++ List.replicate (N.length - ps.length) Sl.un).length := by
    unfold L2.start
    simp only [List.length_append, List.length_map, List.length_replicate]
    omega
  have e0 : (ss ++ List.replicate (N.length - ps.length) Sl.un).zip (L2.start N vs) = ss.zip (vs.map some) ++ (List.replicate (N.length - ps.length) Sl.un).zip (List.replicate (N.length - ps.length) (none : Option V)) := by
    unfold L2.start
    rw [l1]
    exact zip_app (by simp; omega)
  have ok0 : Ok M.K F G ([] ++ (ss ++ List.replicate (N.length - ps.length) Sl.un).zip (L2.start N vs)) H := by
    rw [e0]
    exact ok.uns _
  have hv := own_val (B := []) (by rw [l1, l2]) ok
  refine ⟨_, WSs.pss, body ss Qd hR l2 _ hX F G [] (L2.start N vs) H hl ok0 _ ⟨fun Γ' σ' H' q n1 n2 o => ?_, fun Γ' t v σ' H' q n1 n2 o => ?_, fun _ _ _ q => q.elim, fun _ _ _ q => q.elim⟩⟩
  · have nn : N.length = Γ'.length := by
      rw [n2, hl, List.length_append, List.length_replicate, l2]
      omega
    have o1 : Ok M.K F G ((.dat .none, some .non) :: Γ'.zip σ') H' := Ok.push o fun _ => .non
    have o2 := Ok.fin (B := [(.dat .none, some .non)]) hv (by rw [l1, l2]) (by rw [n1, n2]) o1
    refine kk _ _ _ _ (q nn) ?_ o2
    unfold DL.fin
    rw [List.length_zipWith, ← nn]
    omega
  · have nn : N.length = Γ'.length := by
      rw [n2, hl, List.length_append, List.length_replicate, l2]
      omega
    have o2 := Ok.fin (B := [(t, some v)]) hv (by rw [l1, l2]) (by rw [n1, n2]) o
    refine kk _ _ _ _ (q nn) ?_ o2
    unfold DL.fin
    rw [List.length_zipWith, ← nn]
    omega
theorem fn_ok {M : Mdl} {x qual : Str} {st : Stmt} {f : Addr} {fd : FuncData} {N ps : List Str} {k : Nat} {R : FR} (Fd : Fun M.K x qual st f fd) (hm : M.mg x = some (.ref f)) (hb : Binds M.K fd ps []) (Sc : FnScope N ps (defScope st))
    (body : ∀ ss Qd, R ss Qd → ss.length = ps.length → B (St0 M N st k) (ss ++ List.replicate (N.length - ps.length) .un) (defBody st) { nx := fun Γ' => N.length = Γ'.length → Qd (fin ss Γ') (.dat .none), rt := fun Γ' s => N.length = Γ'.length → Qd (fin ss Γ') s }) : Fnc M x (k + 1) ps.length R :=
  ⟨f, fd, ps, rfl, fn_raw Fd hm hb Sc body, hm, Fd.kp, hb⟩
/-- data in, data out -/
theorem fn_P {M : Mdl} {x qual : Str} {st : Stmt} {f : Addr} {fd : FuncData} {N ps : List Str} {k : Nat} {r : List PyData → (Sl → Prop) → Prop} (Fd : Fun M.K x qual st f fd) (hm : M.mg x = some (.ref f)) (hb : Binds M.K fd ps []) (Sc : FnScope N ps (defScope st))
    (body : ∀ ds q, r ds q → ds.length = ps.length → B (St0 M N st k) (ds.map Sl.dat ++ List.replicate (N.length - ps.length) .un) (defBody st) { nx := fun _ => q (.dat .none), rt := fun _ s => q s }) : Fnc M x (k + 1) ps.length (RP r) := by
  refine fn_ok Fd hm hb Sc fun ss Qd ⟨ds, e, h⟩ hl => ?_
  subst e
  have hf : ∀ (ds : List PyData) (Γ : List Sl), ds.length ≤ Γ.length → fin (ds.map Sl.dat) Γ = ds.map fun _ => Sl.un := by
    intro ds
    induction ds with
    | nil => intro Γ _; cases Γ <;> rfl
    | cons d ds ih =>
      intro Γ hΓ
      cases Γ with
      | nil => simp at hΓ
      | cons g Γ =>
        show finS (.dat d) g :: fin (ds.map Sl.dat) Γ = Sl.un :: ds.map fun _ => Sl.un
        rw [ih Γ (by simpa using hΓ)]
        cases g <;> rfl
  have hpl : ps.length ≤ N.length := by
    have := congrArg List.length Sc.pre
    rw [List.length_take] at this
    omega
  have hl' : ds.length = ps.length := by simpa using hl
  refine (body ds _ h hl').mono (fun Γ q hn => ?_) (fun Γ s q hn => ?_) (fun _ q => q) fun _ q => q
  · rw [hf ds Γ (by omega)]; exact q
  · rw [hf ds Γ (by omega)]; exact q
end DL
namespace DL
open PySem L2

/-! ### own things of any make -/
section
variable {K : PySem.W.Frag} {F G H : Hp} {A : Asn} {a : Addr} {v : Option V} {R : PySem.W.Frag → Hp → List (Addr × HO) → Prop}
theorem Ok.own (h : Ok K F G ((.own a R, v) :: A) H) : v = some (.ref a) ∧ ∃ Hb fp, Mono (R K) ∧ R K Hb fp ∧ Same Hb H ∧ (∀ p ∈ fp, H p.1 = some p.2) ∧
    ∀ (R' : PySem.W.Frag → Hp → List (Addr × HO) → Prop) (fp' : List (Addr × HO)) (H' : Hp), Mono (R' K) → R' K Hb fp' → fp'.map (·.1) = fp.map (·.1) → (∀ p ∈ fp', H' p.1 = some p.2) → (∀ b, b ∉ fp.map (·.1) → H' b = H b) → Ok K F G ((.own a R', v) :: A) H' := by
  obtain ⟨Hb, fp, h1, h2, h3, h4, h5, h6⟩ := h
  cases h4 with
  | @cons _ _ f _ fr q t =>
    cases q with
    | own m r =>
      refine ⟨rfl, Hb, f, m, r, h2, fun p hp => (h5 p (List.mem_append_left _ hp)).2.2, fun R' fp' H' m' r' e hp hb => ?_⟩
      have nm : ∀ b o, Hb b = some o → b ∉ f.map (·.1) := fun b o e hm => by
        obtain ⟨p, hp, rfl⟩ := List.mem_map.mp hm
        rw [(h5 p (List.mem_append_left _ hp)).1] at e
        cases e
      refine ⟨Hb, fp' ++ fr, h1, fun b o e => ?_, fun b o e => ?_, .cons (.own m' r') t, fun p hp' => ?_, ?_⟩
      · rw [hb b (nm b o e)]; exact h2 b o e
      · obtain ⟨e1, e2⟩ := h3 b o e
        refine ⟨?_, e2⟩
        rw [hb b]
        · exact e1
        · intro hm
          obtain ⟨p, hp, rfl⟩ := List.mem_map.mp hm
          rw [(h5 p (List.mem_append_left _ hp)).2.1] at e
          cases e
      · rcases List.mem_append.mp hp' with hp' | hp'
        · have hm : p.1 ∈ f.map (·.1) := by rw [← e]; exact List.mem_map_of_mem hp'
          obtain ⟨p0, hp0, e0⟩ := List.mem_map.mp hm
          obtain ⟨z1, z2, _⟩ := h5 p0 (List.mem_append_left _ hp0)
          rw [e0] at z1 z2
          exact ⟨z1, z2, hp p hp'⟩
        · obtain ⟨z1, z2, z3⟩ := h5 p (List.mem_append_right _ hp')
          refine ⟨z1, z2, ?_⟩
          rw [hb p.1]
          · exact z3
          · intro hm
            rw [List.map_append] at h6
            exact (List.nodup_append.mp h6).2.2 p.1 hm p.1 (List.mem_map_of_mem hp') rfl
      · rw [List.map_append, e, ← List.map_append]
        exact h6
end

/-! ### the law's draws: a dict of a list and a place -/
def wK (l : Addr) (n : Int) : List (L2.Key × V) := [(Sum.inr ("draws" : Str), V.ref l), (Sum.inr ("at" : Str), V.int n)]
theorem wK_draws (l : Addr) (n : Int) : valV (wK l n) (Sum.inr ("draws" : Str)) = some (.ref l) := by
  unfold wK
  exact valV_pos rfl
theorem wK_at (l : Addr) (n : Int) : valV (wK l n) (Sum.inr ("at" : Str)) = some (.int n) := by
  unfold wK
  rw [valV_neg (show ¬ (Sum.inr ("draws" : Str) : L2.Key) = Sum.inr ("at" : Str) by decide +kernel)]
  exact valV_pos rfl
theorem wK_put (l : Addr) (n m : Int) : putK (wK l n) (Sum.inr ("at" : Str)) (.int m) = wK l m := by
  have h : ((wK l n).any fun kv => decide (kv.1 = (Sum.inr ("at" : Str) : L2.Key))) = true := by
    rw [valV_any, wK_at]; rfl
  unfold putK
  rw [if_pos h]
  unfold wK
  show [if (Sum.inr ("draws" : Str) : L2.Key) = Sum.inr ("at" : Str) then _ else _, if (Sum.inr ("at" : Str) : L2.Key) = Sum.inr ("at" : Str) then _ else _] = _
  rw [if_neg (by decide +kernel), if_pos rfl]
def isW (a : Addr) : PySem.W.Frag → Hp → List (Addr × HO) → Prop := fun _ _ fp => ∃ (l : Addr) (n : Int) (ns : List Int), fp = [(a, .dK (wK l n)), (l, .lst (ns.map V.int))] ∧ 0 ≤ n ∧ (∀ x ∈ ns, 0 ≤ x ∧ x < 997) ∧ a ≠ l
theorem isW_mono (K : PySem.W.Frag) (a : Addr) : Mono (isW a K) := fun _ _ _ _ h => h
abbrev wS (a : Addr) : Sl := .own a (isW a)
/-- what a draw does -/
def RNext : FR := fun ss Qd => ∃ a m, ss = [wS a, .dat (.int m)] ∧ 0 < m ∧ ∀ n : Int, 0 ≤ n → n < m → Qd [wS a, .un] (.dat (.int n))
theorem b_next {S : Stc} {a : Addr} {m : Int} {D : Po} {p1 p2 p3 p4 p5 p6 p7 p8 p9 p10 p11 p12 p13 p14 p15 p16 p17 p18 p19 p20 p21 p22 p23 p24 p25 p26 p27 p28 p29 p30 p31 : Pos} {j1 j2 j3 j4 j5 j6 j7 j8}
    (hm : 0 < m) (hN : S.N = [("w" : Str), ("many" : Str)]) (hw : S.sc.names.lookup ("w" : Str) = some .local) (hma : S.sc.names.lookup ("many" : Str) = some .local) (gL : S.sc.names.lookup ("len" : Str) = some .globalImplicit) (gI : S.sc.names.lookup ("int" : Str) = some .globalImplicit) (zL : S.M.mg "len" = none) (zI : S.M.mg "int" = none)
    (h : ∀ n : Int, 0 ≤ n → n < m → D.rt [wS a, .dat (.int m)] (.dat (.int n))) :
    B S [wS a, .dat (.int m)] [.AugAssign (.Subscript (.Name "w" p1) (.Constant (.str "at") j1 p2) p3) .Add (.Constant (.int 1) j2 p4) p5,
      .If (.Compare (.Subscript (.Name "w" p6) (.Constant (.str "at") j3 p7) p8) [.Gt] [.Call (.Name "len" p9) [.Subscript (.Name "w" p10) (.Constant (.str "draws") j4 p11) p12] [] p13] p14) [.Return (some (.Constant (.int 0) j5 p15)) p16] [] p17,
      .Return (some (.BinOp (.Call (.Name "int" p18) [.Subscript (.Subscript (.Name "w" p19) (.Constant (.str "draws") j6 p20) p21) (.BinOp (.Subscript (.Name "w" p22) (.Constant (.str "at") j7 p23) p24) .Sub (.Constant (.int 1) j8 p25) p26) p27] [] p28) .Mod (.Name "many" p29) p30)) p31] D := by
  intro X hX F G A σ H hl ok D' hD
  -- the slots
  obtain ⟨v0, v1, rfl⟩ : ∃ v0 v1, σ = [v0, v1] := by
    match σ, hl with
    | [v0, v1], _ => exact ⟨v0, v1, rfl⟩
  have ok1 : Ok X.K F G ((wS a, v0) :: (.dat (.int m), v1) :: A) H := by
    refine ok.perm ?_
    exact List.perm_append_comm
  obtain ⟨e0, Hb, fp, mo, ⟨l, n, ns, rfl, hn, hns, hal⟩, sm, hp, put⟩ := ok1.own
  subst e0
  obtain ⟨w1, e1, hw1⟩ := ok1.tail.dat
  subst e1
  have ew := hw1.flat_int
  subst ew
  have ha : H a = some (.dK (wK l n)) := hp (a, .dK (wK l n)) List.mem_cons_self
  have hlst : H l = some (.lst (ns.map V.int)) := hp (l, .lst (ns.map V.int)) (List.mem_cons_of_mem _ List.mem_cons_self)
  have hu : X.A.units + 1 < cLine := hu_of hX.room
  have pw : ∀ {pos : Pos}, PE X (.Name "w" pos) (tVar 0) := fun {pos} => pe_var (i := 0) (by rw [hX.N, hN]; rfl) (by rw [hX.sc]; exact .inl hw)
  have pm : ∀ {pos : Pos}, PE X (.Name "many" pos) (tVar 1) := fun {pos} => pe_var (i := 1) (by rw [hX.N, hN]; rfl) (by rw [hX.sc]; exact .inl hma)
  have gL' : Gl X "len" := by show X.env.scope.names.lookup _ = _; rw [hX.sc]; exact gL
  have gI' : Gl X "int" := by show X.env.scope.names.lookup _ = _; rw [hX.sc]; exact gI
  -- the heap behind w["at"] += 1
  have okn : Ok X.K F G (A ++ [(wS a, some (V.ref a)), (Sl.dat (.int m), some (V.int m))]) (upd H a (.dK (wK l (n + 1)))) := by
    have := put (isW a) [(a, .dK (wK l (n + 1))), (l, .lst (ns.map V.int))] (upd H a (.dK (wK l (n + 1)))) (isW_mono _ _) ⟨l, n + 1, ns, rfl, by omega, hns, hal⟩ rfl (fun p hp' => ?_) fun b hb => ?_
    · exact this.perm (List.perm_append_comm (l₁ := [(wS a, some (V.ref a)), (Sl.dat (.int m), some (V.int m))]) (l₂ := A))
    · rcases List.mem_cons.mp hp' with rfl | hp'
      · exact upd_same
      · rw [List.mem_singleton] at hp'
        subst hp'
        rw [upd_ne (Ne.symm hal)]
        exact hlst
    · exact upd_ne fun e => hb (by rw [e]; exact List.mem_cons_self)
  have ha1 : upd H a (.dK (wK l (n + 1))) a = some (.dK (wK l (n + 1))) := upd_same
  have hl1 : upd H a (.dK (wK l (n + 1))) l = some (.lst (ns.map V.int)) := by rw [upd_ne (Ne.symm hal)]; exact hlst
  have ret : ∀ k : Int, 0 ≤ k → k < m → D'.rt (.int k) (upd H a (.dK (wK l (n + 1)))) := fun k h1 h2 =>
    hD.rt [wS a, .dat (.int m)] (.dat (.int k)) (.int k) [some (V.ref a), some (V.int m)] _ (h k h1 h2) rfl rfl (okn.push fun _ => .int _)
  refine WSs.of (pss_cons (ps_daug hu pw pe_str pe_int in_add (fun _ _ _ => rfl)) (pss_cons (ps_if (pt_cmpR op_gt (pe_dget hu pw pe_str (fun _ _ => rfl)) (pe_callB call_len_seq gL' (by rw [hX.mg]; exact zL) PySem.boot_len (pa_cons (pe_dget hu pw pe_str (fun _ _ => rfl)) pa_nil)) (nomark _)) (pss_one (ps_ret pe_int)) pss_nil)
    (pss_one (ps_ret (pe_op op_mod (pe_callTy call_int1 gI' (by rw [hX.mg]; exact zI) (by decide +kernel) (pa_cons (pe_ix ix_list (pe_dget hu pw pe_str (fun _ _ => rfl)) (pe_op op_sub (pe_dget hu pw pe_str (fun _ _ => rfl)) pe_int) (fun _ _ => rfl)) pa_nil)) pm))))) ?_
  refine ⟨.ref a, rfl, a, .int n, rfl, ?_, n, 1, rfl, rfl, _, DPut.k (k := Sum.inr ("at" : Str)) ha (by rw [sizeLine_eq]; show 2 < 16777216; decide), ?_⟩
  · rw [← wK_at l n]; exact DGet.k (k := Sum.inr ("at" : Str)) ha
  rw [wK_put]
  refine ⟨.ref a, rfl, a, .int (n + 1), rfl, ?_, .ref a, rfl, a, .ref l, rfl, ?_, l, ns.map V.int, rfl, .inl (SqL.of hl1), n + 1, _, rfl, rfl, _, rfl, ?_⟩
  · rw [← wK_at l (n + 1)]; exact DGet.k (k := Sum.inr ("at" : Str)) ha1
  · rw [← wK_draws l (n + 1)]; exact DGet.k (k := Sum.inr ("draws" : Str)) ha1
  rw [List.length_map]
  by_cases hc : (ns.length : Int) < n + 1
  · rw [decide_eq_true hc]
    refine iteT ?_
    exact ret 0 (Int.le_refl 0) hm
  · rw [decide_eq_false hc]
    refine iteF ?_
    have hlt : n.toNat < ns.length := by omega
    have en : n + 1 - 1 = ((n.toNat : Nat) : Int) := by omega
    refine ⟨.ref a, rfl, a, .ref l, rfl, ?_, .ref a, rfl, a, .int (n + 1), rfl, ?_, n + 1, 1, rfl, rfl, l, ns.map V.int, n + 1 - 1, .int ns[n.toNat], rfl, rfl, SqL.of hl1, ?_, .inl ⟨ns[n.toNat], rfl, .int m, rfl, ns[n.toNat], m, rfl, rfl, hm, ?_⟩⟩
    · rw [← wK_draws l (n + 1)]; exact DGet.k (k := Sum.inr ("draws" : Str)) ha1
    · rw [← wK_at l (n + 1)]; exact DGet.k (k := Sum.inr ("at" : Str)) ha1
    · rw [en]
      refine atI_nat ?_
      rw [List.getElem?_map, List.getElem?_eq_getElem hlt]
      rfl
    · exact ret _ (Int.emod_nonneg _ (by omega)) (Int.emod_lt_of_pos _ hm)
end DL
namespace DL
open PySem L2

/-! ### the script -/
def scrR (a : Addr) (ns : List Int) : PySem.W.Frag → Hp → List (Addr × HO) → Prop := fun K _ fp =>
  (∃ u, (u = HO.lst (ns.map V.int) ∨ ∃ o, u = HO.frz o (.lst (ns.map V.int))) ∧ fp = [(a, u)]) ∨ (fp = [] ∧ ∀ H, SqL K H a (ns.map V.int))
abbrev scrS (a : Addr) (ns : List Int) : Sl := .own a (scrR a ns)
theorem scr_start {K : PySem.W.Frag} {H : Hp} {a : Addr} {ns : List Int} (h : SqL K H a (ns.map V.int)) : Ok K (fun _ => none) (fun _ => none) [(scrS a ns, some (.ref a))] H := by
  have sm : Same (fun _ => none) H := fun _ _ e => by cases e
  have go : ∀ u, H a = some u → (u = HO.lst (ns.map V.int) ∨ ∃ o, u = HO.frz o (.lst (ns.map V.int))) → Ok K (fun _ => none) (fun _ => none) [(scrS a ns, some (.ref a))] H := fun u hu hk =>
    ⟨fun _ => none, [(a, u)] ++ [], Same.refl _, sm, (fun _ _ e => by cases e), .cons (.own (fun _ _ _ _ h => h) (.inl ⟨u, hk, rfl⟩)) .nil, fun p hp => by
      rw [List.append_nil, List.mem_singleton] at hp
      subst hp
      exact ⟨rfl, rfl, hu⟩, by simp⟩
  rcases h with (h | ⟨o, h⟩) | h
  · exact go _ h (.inl rfl)
  · exact go _ h (.inr ⟨o, rfl⟩)
  · exact ⟨fun _ => none, [] ++ [], Same.refl _, sm, (fun _ _ e => by cases e), .cons (.own (fun _ _ _ _ h => h) (.inr ⟨rfl, fun _ => .inr h⟩)) .nil, (fun p hp => by simp at hp), by simp⟩
theorem scr_at {K : PySem.W.Frag} {F G H : Hp} {A : Asn} {a : Addr} {ns : List Int} {v : Option V} (h : Ok K F G ((scrS a ns, v) :: A) H) : SqL K H a (ns.map V.int) := by
  obtain ⟨_, Hb, fp, _, hR, _, hp, _⟩ := h.own
  rcases hR with ⟨u, hu, rfl⟩ | ⟨_, h⟩
  · have e := hp (a, u) List.mem_cons_self
    rcases hu with rfl | ⟨o, rfl⟩
    · exact .inl (.inl e)
    · exact .inl (.inr ⟨o, e⟩)
  · exact h H
section
variable {S : Stc} {Γ : List Sl} {a b c e o tg it : Expr} {es : List Expr} {body : List Stmt} {pos p p2 apos cpos : Pos} {x : Str} {D : Po}
theorem e_lenScr {Q : List Sl → Sl → Prop} (hm : S.M.mg "len" = none) (h : E S Γ e fun Γ' s => ∃ l, s = .bor l ∧ ∃ (i : Nat) (ns : List Int), Γ'[i]? = some (scrS l ns) ∧ Q Γ' (.dat (.int ns.length))) (hst : noStar e = true := by rfl) (hs : S.sc.names.lookup ("len" : Str) = some .globalImplicit := by rfl) : E S Γ (.Call (.Name "len" p) [e] [] pos) Q := by
  intro X hX F G A σ H hl ok Q' k
  refine WE.of (pe_callB call_len_seq (by show X.env.scope.names.lookup _ = _; rw [hX.sc]; exact hs) (by rw [hX.mg]; exact hm) (by decide +kernel) WA.pa (by decide) (by decide) (starEach_cons hst) (anyStar [] rfl)) ?_
  have h1 : EA S Γ [e] fun Γ' ss => ∃ l, ss = [.bor l] ∧ ∃ (i : Nat) (ns : List Int), Γ'[i]? = some (scrS l ns) ∧ Q Γ' (.dat (.int ns.length)) := ⟨hst, h.mono fun Γ' s ⟨d, e1, h1⟩ => ⟨d, by rw [e1], h1⟩⟩
  refine EA.run hX _ h1 hl ok fun Γ' ss vs H' ⟨l, e1, i, ds, hi, q⟩ hl' l1 l2 ok' => ?_
  subst e1
  cases vs with
  | nil => simp at l1
  | cons v vs =>
    cases vs with
    | cons _ _ => simp at l1
    | nil =>
      have hv1 : v = .ref l := by
        obtain ⟨Hb, fp, _, _, _, h4, _⟩ := ok'
        cases h4 with
        | cons q t => cases q; rfl
      subst hv1
      have ok2 : Ok X.K F G (A ++ Γ'.zip σ) H' := Ok.tail ok'
      obtain ⟨w, h1, h2, h3⟩ := ok2.at hl' hi
      refine ⟨l, ds.map V.int, rfl, .inl (scr_at h3), k Γ' _ _ H' q hl' (ok2.push fun _ => by rw [List.length_map]; exact .int _)⟩
theorem e_ixScr {Q : List Sl → Sl → Prop} (h : E S Γ a fun Γ1 s1 => E S Γ1 b fun Γ2 s2 => ∃ l, s1 = .bor l ∧ ∃ (j : Int) (i : Nat) (ns : List Int), s2 = .dat (.int j) ∧ Γ2[i]? = some (scrS l ns) ∧ ∃ n, atI ns j = some n ∧ Q Γ2 (.dat (.int n))) (hs : PlainIx b := by intro _ _; rfl) : E S Γ (.Subscript a b pos) Q := by
  intro X hX F G A σ H hl ok Q' k
  refine WE.of (pe_ix ix_list WE.pe WE.pe hs) (E.two h hX hl ok fun Γ2 s1 s2 v1 v2 H2 ⟨l, e1, j, i, ns, e2, hi, n, hn, q⟩ hl2 ok2 => ?_)
  subst e1 e2
  obtain ⟨w2, e2, hw2⟩ := ok2.dat
  cases e2
  have hv1 : v1 = .ref l := by
    obtain ⟨Hb, fp, _, _, _, h4, _⟩ := ok2.tail
    cases h4 with
    | cons q t => cases q; rfl
  subst hv1
  have ok3 := ok2.tail.tail
  obtain ⟨w, h1, h2, h3⟩ := ok3.at hl2 hi
  refine ⟨l, ns.map V.int, j, .int n, rfl, hw2.flat_int, scr_at h3, ?_, k Γ2 _ _ H2 q hl2 (ok3.push fun _ => .int _)⟩
  unfold atI at hn ⊢
  rw [List.length_map]
  cases q : ixN ns.length j with
  | none => rw [q] at hn; cases hn
  | some j' =>
    rw [q] at hn
    show (ns.map V.int)[j']? = _
    rw [List.getElem?_map, show ns[j']? = some n from hn]
    rfl
/-- {"draws": e, "at": 0} -/
theorem e_wdict {Q : List Sl → Sl → Prop} {j1 j2 j3} {p1 p3 p4 : Pos} (h : E S Γ e fun Γ1 s => ∃ (l : Addr) (ns : List Int), s = lst l (ns.map PyData.int) ∧ (∀ x ∈ ns, 0 ≤ x ∧ x < 997) ∧ ∀ a, Q Γ1 (wS a)) : E S Γ (.Dict [some (.Constant (.str "draws") j1 p1), some (.Constant (.str "at") j2 p3)] [e, .Constant (.int 0) j3 p4] pos) Q := by
  intro X hX F G A σ H hl ok Q' k
  refine WE.of (pe_disp (pps_cons pe_str WE.pe (pps_cons pe_str pe_int pps_nil)) (by rfl) (by rfl) (fun z => by cases z) (by show 2 ≤ 15; decide)) fun p hp => ?_
  let R0 : PySem.W.Frag → Hp → List (Addr × HO) → Prop := fun _ _ fp => fp = [(p, .dK [])]
  have ok0 : Ok X.K F G ((.own p R0, some (V.ref p)) :: (A ++ Γ.zip σ)) (upd H p (.dK [])) := by
    obtain ⟨Hb, fp, h1, h2, h3, h4, h5, h6⟩ := ok
    have nb : Hb p = none := h2.free hp
    refine ⟨Hb, [(p, .dK [])] ++ fp, h1, fun b o e => by rw [upd_ne (ne_of_none e nb)]; exact h2 b o e, fun b o e => ?_, .cons (.own (fun _ _ _ _ h => h) rfl) h4, fun q hq => ?_, ?_⟩
    · obtain ⟨e2, e3⟩ := h3 b o e
      exact ⟨by rw [upd_ne (ne_of_none e2 hp)]; exact e2, e3⟩
    · rcases List.mem_append.mp hq with hq | hq
      · rw [List.mem_singleton] at hq
        subst hq
        refine ⟨nb, ?_, upd_same⟩
        cases e : G p with
        | none => rfl
        | some o => rw [(h3 p o e).1] at hp; cases hp
      · obtain ⟨q1, q2, q3⟩ := h5 q hq
        exact ⟨q1, q2, by rw [upd_ne (ne_of_none q3 hp)]; exact q3⟩
    · show (p :: fp.map (·.1)).Nodup
      rw [List.nodup_cons]
      refine ⟨fun hm => ?_, h6⟩
      obtain ⟨q, hq, e⟩ := List.mem_map.mp hm
      have := (h5 q hq).2.2
      rw [show q.1 = p from e, hp] at this
      cases this
  show tPairs _ σ _ _
  refine h X hX F G ((.own p R0, some (V.ref p)) :: A) σ _ hl ok0 _ fun Γ1 s v H1 ⟨l, ns, e1, hns, q⟩ hl1 ok1 => ?_
  subst e1
  obtain ⟨Hb, fp, h1, h2, h3, h4, h5, h6⟩ := ok1
  cases h4 with
  | @cons _ _ f1 _ f2 z t =>
    cases t with
    | @cons _ _ f3 _ f4 z2 t =>
      cases z with
      | own m r =>
        cases z2 with
        | own m2 r2 =>
          have r2' : f3 = [(p, .dK [])] := r2
          subst r2'
          obtain ⟨us, rfl, hus⟩ := r
          have eus := DqAll.ints hus
          subst eus
          obtain ⟨b1, g1, a1⟩ := h5 (l, .lst (ns.map V.int)) (by simp)
          obtain ⟨b2, g2, a2⟩ := h5 (p, .dK []) (by simp)
          have hpl : p ≠ l := ne_of a2 a1 (by intro z; cases z)
          refine ⟨a2, [(Sum.inr ("draws" : Str), V.ref l), (Sum.inr ("at" : Str), V.int 0)], rfl, (by show 2 ≤ 15; decide), ?_⟩
          have em : mergeK [] [((Sum.inr ("draws" : Str) : L2.Key), V.ref l), (Sum.inr ("at" : Str), V.int 0)] = wK l 0 := by
            show putK (putK ([] : List (L2.Key × V)) (Sum.inr ("draws" : Str)) (V.ref l)) (Sum.inr ("at" : Str)) (V.int 0) = _
            have e0 : putK ([] : List (L2.Key × V)) (Sum.inr ("draws" : Str)) (V.ref l) = [(Sum.inr ("draws" : Str), V.ref l)] := rfl
            rw [e0]
            have : (([(Sum.inr ("draws" : Str), V.ref l)] : List (L2.Key × V)).any fun kv => decide (kv.1 = (Sum.inr ("at" : Str) : L2.Key))) = false := by
              rw [List.any_cons, List.any_nil, decide_eq_false (show ¬ (Sum.inr ("draws" : Str) : L2.Key) = Sum.inr ("at" : Str) by decide +kernel)]
              rfl
            unfold putK
            rw [if_neg (by rw [this]; exact Bool.false_ne_true)]
            rfl
          rw [em]
          refine k Γ1 _ _ _ (q p) hl1 ⟨Hb, [(p, .dK (wK l 0)), (l, .lst (ns.map V.int))] ++ f4, h1, fun b o e => ?_, fun b o e => ?_, .cons (.own (isW_mono _ _) ⟨l, 0, ns, rfl, Int.le_refl 0, hns, hpl⟩) t, fun w hw => ?_, ?_⟩
          · rw [upd_ne (ne_of_none e b2)]; exact h2 b o e
          · obtain ⟨e2, e3⟩ := h3 b o e
            refine ⟨?_, e3⟩
            rw [upd_ne (fun z => by rw [z, g2] at e; cases e)]
            exact e2
          · rcases List.mem_append.mp hw with hw | hw
            · rcases List.mem_cons.mp hw with rfl | hw
              · exact ⟨b2, g2, upd_same⟩
              · rw [List.mem_singleton] at hw
                subst hw
                exact ⟨b1, g1, by rw [upd_ne (Ne.symm hpl)]; exact a1⟩
            · obtain ⟨q1, q2, q3⟩ := h5 w (by simp [hw])
              refine ⟨q1, q2, ?_⟩
              rw [upd_ne]
              · exact q3
              · intro z
                have nd : (l :: p :: f4.map (·.1)).Nodup := by simpa using h6
                have n2 := (List.nodup_cons.mp (List.nodup_cons.mp nd).2).1
                exact n2 (by rw [← z]; exact List.mem_map_of_mem hw)
          · have nd : (l :: p :: f4.map (·.1)).Nodup := by simpa using h6
            show (p :: l :: f4.map (·.1)).Nodup
            exact (List.Perm.swap l p (f4.map (·.1))).nodup_iff.mpr nd
end
end DL
namespace DL
open PySem L2

section
variable {S : Stc} {Γ : List Sl} {a b c e o tg it elt : Expr} {es ifs : List Expr} {body sts : List Stmt} {pos p p2 apos cpos : Pos} {x : Str} {D : Po}

/-! ### comprehensions and loops over what is known as a list of one's own type -/
theorem takes {α : Type} {zs : List α} {i : Nat} {z : α} (h : zs[i]? = some z) : ∃ pre post, zs = pre ++ z :: post ∧ zs.take i = pre ∧ zs.take (i + 1) = pre ++ [z] := by
  obtain ⟨hi, e⟩ := List.getElem?_eq_some_iff.mp h
  refine ⟨zs.take i, zs.drop (i + 1), ?_, rfl, ?_⟩
  · rw [← e, ← List.drop_eq_getElem_cons hi, List.take_append_drop]
  · rw [List.take_add_one, h]; rfl
/-- what one turn of a comprehension is to do: p whether it keeps the item, g what it makes of it -/
def CompF {α : Type} (S : Stc) (scope : Scope) (vs : List Nat) (t : Tg) (ifs : List Expr) (elt : Expr) (Γ1 : List Sl) (zs : List α) (enc : α → PyData) (p : α → Bool) (g : α → PyData) : Prop :=
  ∀ z ∈ zs, t.put (enc z) (wipeG Γ1 vs) fun Γ2 => Ts (S.blk scope) Γ2 ifs fun Γ3 b => b = p z ∧
    if b = true then E (S.blk scope) Γ3 elt fun Γ4 s => s = .dat (g z) ∧ restG Γ1 vs Γ4 = Γ1 else restG Γ1 vs Γ3 = Γ1
mutual
theorem Tg.put_mono : ∀ (t : Tg) {d : PyData} {Γ : List Sl} {Q Q' : List Sl → Prop}, t.put d Γ Q → (∀ Γ, Q Γ → Q' Γ) → t.put d Γ Q'
  | .name i, d, Γ, Q, Q', h, m => m _ h
  | .tup ts, d, Γ, Q, Q', h, m => by
    obtain ⟨ds, h1, h2, h3⟩ := h
    exact ⟨ds, h1, h2, Tg.puts_mono ts h3 m⟩
theorem Tg.puts_mono : ∀ (ts : List Tg) {ds : List PyData} {Γ : List Sl} {Q Q' : List Sl → Prop}, Tg.puts ts ds Γ Q → (∀ Γ, Q Γ → Q' Γ) → Tg.puts ts ds Γ Q'
  | [], ds, Γ, Q, Q', h, m => m _ h
  | t :: ts, [], Γ, Q, Q', h, m => h.elim
  | t :: ts, d :: ds, Γ, Q, Q', h, m => Tg.put_mono t h fun Γ q => Tg.puts_mono ts q m
end
theorem IJ.mono {Q Q' : List Sl → List PyData → Prop} (h : IJ S Γ tg it Q) (m : ∀ Γ' ds, Q Γ' ds → Q' Γ' ds) : IJ S Γ tg it Q' := fun X hX F G A σ H hl ok R k =>
  h X hX F G A σ H hl ok R fun Γ1 ds J R H' q => k Γ1 ds J R H' (m _ _ q)
theorem Ts.mono {ifs : List Expr} {Q Q' : List Sl → Bool → Prop} (h : Ts S Γ ifs Q) (m : ∀ Γ b, Q Γ b → Q' Γ b) : Ts S Γ ifs Q' := by
  match ifs, h with
  | [], h => exact m _ _ h
  | [c], h => exact T.mono h m
theorem CompF.to {α : Type} {scope : Scope} {vs : List Nat} {t : Tg} {Γ1 : List Sl} {zs : List α} {enc : α → PyData} {p : α → Bool} {g : α → PyData} (hz : zs.length ≤ 1000000) (h : CompF S scope vs t ifs elt Γ1 zs enc p g) :
    CompI S scope vs t ifs elt (zs.map enc) fun i acc Γ' => Γ' = Γ1 ∧ acc = ((zs.take i).filter p).map g := by
  intro i d acc Γ' hd ⟨e1, e2⟩
  subst e1
  rw [List.getElem?_map] at hd
  cases e : zs[i]? with
  | none => rw [e] at hd; cases hd
  | some z =>
    rw [e] at hd
    cases hd
    obtain ⟨pre, post, hs, h1, h2⟩ := takes e
    refine Tg.put_mono t (h z (by rw [hs]; simp)) fun Γ2 q => Ts.mono q fun Γ3 b ⟨eb, q⟩ => ?_
    subst eb
    rw [h1] at e2
    cases hp : p z with
    | false =>
      rw [hp] at q
      refine ⟨q, ?_⟩
      rw [h2, e2, List.filter_append]
      simp [hp]
    | true =>
      rw [hp, if_pos rfl] at q
      rw [if_pos rfl]
      refine E.mono q fun Γ4 s ⟨es, q⟩ => ⟨g z, es, ?_, q, ?_⟩
      · have l1 : acc.length ≤ pre.length := by rw [e2, List.length_map]; exact List.length_filter_le _ _
        have l2 : pre.length < zs.length := by rw [hs]; simp
        omega
      · rw [h2, e2, List.filter_append]
        simp [hp]
theorem e_lcF {α : Type} {scope : Scope} (own : List (Str × Nat)) {t : Tg} {Q : List Sl → Sl → Prop} (enc : α → PyData) (p : α → Bool) (g : α → PyData) (ht : TgOk (S.blk scope) tg t)
    (h : IJ S Γ tg it fun Γ1 ds => ∃ zs : List α, ds = zs.map enc ∧ zs.length ≤ 1000000 ∧ CompF S scope (own.map (·.2)) t ifs elt Γ1 zs enc p g ∧ ∀ a, Q Γ1 (lst a ((zs.filter p).map g)))
    (hb : blkC S.N S.sc scope own = true := by first | decide +kernel | (dsimp only [DL.St0, DL.Stc.blk]; decide +kernel)) (nd : (own.map (·.2)).Nodup := by decide) (hx : ∀ i ∈ t.ixs, i ∈ own.map (·.2) := by decide) (hifs : ifs = [] ∨ ∃ c, ifs = [c] := by first | exact .inl rfl | exact .inr ⟨_, rfl⟩)
    (hs : ∀ env x, foldedSetIterable it env x = pure x := by intro _ _; rfl) : E S Γ (.ListComp elt [⟨tg, it, ifs, 0⟩] scope pos) Q := by
  refine e_lc own ht (h.mono fun Γ1 ds ⟨zs, e, hz, hc, q⟩ => ⟨fun i acc Γ' => Γ' = Γ1 ∧ acc = ((zs.take i).filter p).map g, ⟨rfl, rfl⟩, ?_, fun acc Γ' ⟨e1, e2⟩ a => ?_⟩) hb nd hx hifs hs
  · rw [e]; exact hc.to hz
  · subst e1 e2 e
    rw [List.length_map, List.take_length]
    exact q a
theorem b_setLcF {α : Type} {scope : Scope} (i : Nat) (own : List (Str × Nat)) {t : Tg} {y : Str} {py spos : Pos} (enc : α → PyData) (p : α → Bool) (g : α → PyData) (ht : TgOk (S.blk scope) tg t)
    (h : IJ S Γ tg it fun Γ1 ds => ∃ zs : List α, ds = zs.map enc ∧ zs.length ≤ 1000000 ∧ CompF S scope (own.map (·.2)) t ifs elt Γ1 zs enc p g ∧ ∀ a, D.nx (Γ1.set i (lst a ((zs.filter p).map g))))
    (hb : blkC S.N S.sc scope own = true := by first | decide +kernel | (dsimp only [DL.St0, DL.Stc.blk]; decide +kernel)) (nd : (own.map (·.2)).Nodup := by decide) (hx : ∀ i ∈ t.ixs, i ∈ own.map (·.2) := by decide) (hifs : ifs = [] ∨ ∃ c, ifs = [c] := by first | exact .inl rfl | exact .inr ⟨_, rfl⟩)
    (hN : S.N[i]? = some y := by rfl) (hy : S.sc.names.lookup y = some .local := by rfl) (hk : S.sc.kind = .function := by rfl) (hline : (py.line == pos.line) = true := by rfl) (ha : (scope.names.any fun (n, k) => n == y && (k == .local || k == .cell)) = false := by decide +kernel)
    (hs : ∀ env x, foldedSetIterable it env x = pure x := by intro _ _; rfl) : B1 S Γ (.Assign [.Name y py] (.ListComp elt [⟨tg, it, ifs, 0⟩] scope pos) spos) D := by
  refine b_setLc i own ht (h.mono fun Γ1 ds ⟨zs, e, hz, hc, q⟩ => ⟨fun i acc Γ' => Γ' = Γ1 ∧ acc = ((zs.take i).filter p).map g, ⟨rfl, rfl⟩, ?_, fun acc Γ' ⟨e1, e2⟩ a => ?_⟩) hb nd hx hifs hN hy hk hline ha hs
  · rw [e]; exact hc.to hz
  · subst e1 e2 e
    rw [List.length_map, List.take_length]
    exact q a
/-! ### loops that forget slots between the turns -/
theorem Ok.forget {K : PySem.W.Frag} {F G H : Hp} {A : Asn} {σ : St} : ∀ {vs : List Nat} {Γ : List Sl}, σ.length = Γ.length → Ok K F G (A ++ Γ.zip σ) H → Ok K F G (A ++ (wipeG Γ vs).zip σ) H
  | [], Γ, _, h => h
  | v :: vs, Γ, hl, h => by
    have ih := Ok.forget (vs := vs) hl h
    unfold wipeG
    by_cases hv : v < Γ.length
    · have hv' : v < (wipeG Γ vs).length := by rw [wipeG_length]; exact hv
      obtain ⟨w, h1, h2, h3⟩ := ih.at (by rw [wipeG_length]; exact hl) (List.getElem?_eq_getElem hv')
      exact Ok.put (B := []) (s := (wipeG Γ vs)[v]) (s' := .un) (Ok.weak h3) h2 h1
    · rw [List.set_eq_of_length_le (by rw [wipeG_length]; omega)]
      exact ih
theorem B.forget (vs : List Nat) (h : B S (wipeG Γ vs) sts D) : B S Γ sts D := fun X hX F G A σ H hl ok D' hD =>
  h X hX F G A σ H (by rw [wipeG_length]; exact hl) (Ok.forget hl ok) D' hD
theorem B1.forget {st : Stmt} (vs : List Nat) (h : B1 S (wipeG Γ vs) st D) : B1 S Γ st D := fun X hX F G A σ H hl ok D' hD =>
  h X hX F G A σ H (by rw [wipeG_length]; exact hl) (Ok.forget hl ok) D' hD
/-- behind a block slots are forgotten -/
theorem B.forgets (vs : List Nat) (h : B S Γ sts { D with nx := fun Γ' => D.nx (wipeG Γ' vs), ct := fun Γ' => D.ct (wipeG Γ' vs) }) : B S Γ sts D := fun X hX F G A σ H hl ok D' hD =>
  h X hX F G A σ H hl ok D' ⟨fun Γ' σ' H' q l1 l2 o => hD.nx _ σ' H' q l1 (by rw [wipeG_length]; exact l2) (Ok.forget (by rw [l1, l2]) o), hD.rt, hD.bk, fun Γ' σ' H' q l1 l2 o => hD.ct _ σ' H' q l1 (by rw [wipeG_length]; exact l2) (Ok.forget (by rw [l1, l2]) o)⟩
theorem b_forW (vs : List Nat) {t : Tg} (ht : TgOk S tg t) (h : IJ S Γ tg it fun Γ1 ds => ∃ I : Nat → List Sl → Prop, I 0 (wipeG Γ1 vs) ∧ (∀ i d Γ', ds[i]? = some d → I i Γ' → t.put d Γ' fun Γ2 => B S Γ2 body { D with nx := fun Γ3 => I (i + 1) (wipeG Γ3 vs), ct := fun Γ3 => I (i + 1) (wipeG Γ3 vs), bk := D.nx }) ∧ ∀ Γ', I ds.length Γ' → D.nx Γ')
    (hs : ∀ env x, foldedSetIterable it env x = pure x := by intro _ _; rfl) : B1 S Γ (.For tg it body [] pos) D := by
  refine b_for ht (fun X hX F G A σ H hl ok Q' k => h X hX F G A σ H hl ok Q' fun Γ1 ds J R H' ⟨I, i0, turn, fin⟩ hl1 itd ok1 => ?_) hs
  refine k (wipeG Γ1 vs) ds J R H' ⟨I, i0, fun i d Γ' hd iv => Tg.put_mono t (turn i d Γ' hd iv) fun Γ2 q => ?_, fin⟩ (by rw [wipeG_length]; exact hl1) itd ?_
  · exact B.forgets vs q
  · rw [← List.append_assoc] at ok1 ⊢
    exact Ok.forget hl1 ok1
/-- a fold: what is known is a function of what was taken -/
theorem b_forF {α : Type} (vs : List Nat) (enc : α → PyData) {t : Tg} (ht : TgOk S tg t) (h : IJ S Γ tg it fun Γ1 ds => ∃ (zs : List α) (env : List α → List Sl), ds = zs.map enc ∧ env [] = wipeG Γ1 vs ∧
      (∀ pre z post, zs = pre ++ z :: post → t.put (enc z) (env pre) fun Γ2 => B S Γ2 body { D with nx := fun Γ3 => wipeG Γ3 vs = env (pre ++ [z]), ct := fun Γ3 => wipeG Γ3 vs = env (pre ++ [z]), bk := D.nx }) ∧ D.nx (env zs))
    (hs : ∀ env x, foldedSetIterable it env x = pure x := by intro _ _; rfl) : B1 S Γ (.For tg it body [] pos) D := by
  refine b_forW vs ht (h.mono fun Γ1 ds ⟨zs, env, e, e0, turn, fin⟩ => ⟨fun i Γ' => Γ' = env (zs.take i), by rw [← e0]; rfl, fun i d Γ' hd iv => ?_, fun Γ' iv => ?_⟩) hs
  · subst iv e
    rw [List.getElem?_map] at hd
    cases e : zs[i]? with
    | none => rw [e] at hd; cases hd
    | some z =>
      rw [e] at hd
      cases hd
      obtain ⟨pre, post, hs, h1, h2⟩ := takes e
      rw [h1]
      dsimp only
      rw [h2]
      exact turn pre z post hs
  · subst iv e
    rw [List.length_map, List.take_length]
    exact fin
end
end DL
namespace DL
open PySem PySem.Spec PyProof.Rows L2
section
variable {S : Stc} {Γ : List Sl} {a b e : Expr} {pos : Pos} {D : Po}

/-! ### x op= e, on numbers -/
theorem b_aug (i : Nat) {x : Str} {px : Pos} {op : Operator} {f : Int → Int → Int} (ho : ∀ {X : Cx}, PIp X op (ipI f)) {n : Int} (hg : Γ[i]? = some (.dat (.int n)))
    (h : E S Γ e fun Γ' s => ∃ m : Int, s = .dat (.int m) ∧ D.nx (Γ'.set i (.dat (.int (f n m))))) (hN : S.N[i]? = some x := by rfl) (hx : Loc S.sc x := by first | exact Or.inl rfl | exact Or.inr rfl)
    (hf : S.fn x = true ∨ S.sc.names.lookup x = some .local := by first | exact Or.inl rfl | exact Or.inr rfl) : B1 S Γ (.AugAssign (.Name x px) op e pos) D := by
  intro X hX F G A σ H hl ok D' hD
  refine WS.of (ps_aug (i := i) hX.nd (by rw [hX.N]; exact hN) (by rw [hX.sc]; exact hx) WE.pe ho (by rw [hX.fn, hX.sc]; exact hf)) ?_
  obtain ⟨v, hv, _, ok0⟩ := ok.at hl hg
  obtain ⟨w, ew, hw⟩ := ok0.dat
  subst ew
  have ei := hw.flat_int
  subst ei
  refine ⟨.int n, hv, ?_⟩
  refine h X hX F G A σ H hl ok _ fun Γ' s v' H' ⟨m, e1, q⟩ hl' ok' => ?_
  subst e1
  obtain ⟨w', e2, hw'⟩ := ok'.dat
  cases e2
  have e3 := hw'.flat_int
  subst e3
  refine ⟨n, m, rfl, rfl, ?_⟩
  refine hD.nx _ _ H' q (by simp) (by simp [hl']) ?_
  exact Ok.set (ok'.tail.push fun _ => .int _)
theorem b_augA (i : Nat) {x : Str} {px : Pos} {n : Int} (hg : Γ[i]? = some (.dat (.int n)))
    (h : E S Γ e fun Γ' s => ∃ m : Int, s = .dat (.int m) ∧ D.nx (Γ'.set i (.dat (.int (n + m))))) (hN : S.N[i]? = some x := by rfl) (hx : Loc S.sc x := by first | exact Or.inl rfl | exact Or.inr rfl)
    (hf : S.fn x = true ∨ S.sc.names.lookup x = some .local := by first | exact Or.inl rfl | exact Or.inr rfl) : B1 S Γ (.AugAssign (.Name x px) .Add e pos) D :=
  b_aug i ip_add hg h hN hx hf

/-! ### x, y = a, b -/
theorem b_par (i j : Nat) {x y : Str} {px py pt pt2 : Pos} {kt k2} (h : E S Γ a fun Γ1 s1 => E S Γ1 b fun Γ2 s2 => D.nx ((Γ2.set i s1).set j s2)) (hij : i ≠ j := by decide)
    (hi : S.N[i]? = some x := by rfl) (hj : S.N[j]? = some y := by rfl) (hx : S.sc.names.lookup x = some .local := by rfl) (hy : S.sc.names.lookup y = some .local := by rfl)
    (na : noStar a = true := by rfl) (nb : noStar b = true := by rfl)
    (hw : ∀ env : Env, env.scope = S.sc → swappedStores [.Tuple [.Name x px, .Name y py] kt pt] (.Tuple [a, b] k2 pt2) env = pure (some [x, y]) := by intro env he; cases env; cases he; rfl)
    (hs : ∀ env, swapsWithSole [.Tuple [.Name x px, .Name y py] kt pt] (.Tuple [a, b] k2 pt2) pos.line env = pure false := by intro _; rfl) : B1 S Γ (.Assign [.Tuple [.Name x px, .Name y py] kt pt] (.Tuple [a, b] k2 pt2) pos) D := by
  intro X hX F G A σ H hl ok D' hD
  refine WS.of (ps_par (i := i) (j := j) hX.calm hX.nd (by rw [hX.N]; exact hi) (by rw [hX.N]; exact hj) hij (by rw [hX.sc]; exact hx) (by rw [hX.sc]; exact hy) WA.pa (hw _ hX.sc) (hs _)) ?_
  have hA : EA S Γ [a, b] fun Γ2 ss => ∃ s1 s2, ss = [s1, s2] ∧ D.nx ((Γ2.set i s1).set j s2) := ea_cons (E.mono h fun Γ1 s1 q => ea_cons (E.mono q fun Γ2 s2 q2 => ⟨s1, s2, rfl, q2⟩) nb) na
  refine EA.run hX _ hA hl ok fun Γ2 ss vs H2 ⟨s1, s2, e1, q⟩ hl2 hss _ ok2 => ?_
  subst e1
  obtain ⟨v1, v2, rfl⟩ : ∃ v1 v2, vs = [v1, v2] := by
    match vs, hss with
    | [v1, v2], _ => exact ⟨v1, v2, rfl⟩
  · refine ⟨v1, v2, rfl, ?_⟩
    have z : Ok X.K F G ((s2, some v2) :: (A ++ (Γ2.set i s1).zip (σ.set i (some v1)))) H2 := by
      have z1 : Ok X.K F G ((s1, some v1) :: (((s2, some v2) :: A) ++ Γ2.zip σ)) H2 := ok2
      exact z1.set
    exact hD.nx _ _ H2 q (by simp) (by simp [hl2]) z.set
end
end DL
namespace DL
open PySem PySem.Spec PyProof.Rows L2

/-! ### t[::-1] of a tuple -/
section
variable {prog : Program} {w : World} {A : Around} {E : Value → Shared → Prop} {s : Shared}
theorem rev_adjust (n : Nat) : Builtin.Slice.sliceAdjust none none (-1) (n : Int) = ((n : Int) - 1, -1) := by
  unfold Builtin.Slice.sliceAdjust; rfl
theorem rev_places (n : Nat) : Builtin.Slice.slicePlaces ((n : Int) - 1) (-1) (-1) = n := by
  have h1 : ¬ ((-1 : Int) > 0) := by decide
  unfold Builtin.Slice.slicePlaces
  rw [if_neg h1]
  by_cases h : n = 0
  · subst h; rfl
  · rw [if_pos (by omega), show (- -1 : Int) = 1 from rfl, Int.ediv_one]; omega
theorem rev_pick (xs : Array Value) : ((List.range xs.size).filterMap fun (m : Nat) => xs[(((xs.size : Int) - 1) + (m : Int) * (-1)).toNat]?).toArray = xs.toList.reverse.toArray := by
  have e : ∀ m ∈ List.range xs.size, xs[(((xs.size : Int) - 1) + (m : Int) * (-1)).toNat]? = (fun k => xs[k]?) (xs.size - 1 - m) := fun m hm => by
    have := List.mem_range.mp hm
    have e2 : (((xs.size : Int) - 1) + (m : Int) * (-1)).toNat = xs.size - 1 - m := by omega
    rw [e2]
  have e1 : ∀ (f : Nat → Option Value) (l : List Nat), l.filterMap f = (l.map f).filterMap id := fun f l => by rw [List.filterMap_map]; rfl
  rw [e1, List.map_congr_left e, show (List.range xs.size).map (fun m => (fun k => xs[k]?) (xs.size - 1 - m)) = ((List.range xs.size).map fun m => xs.size - 1 - m).map fun k => xs[k]? from by rw [List.map_map]; rfl]
  rw [PySem.W.krv_range, ← e1, List.filterMap_reverse, PySem.W.krv_all]
theorem rev_applied {sl : Addr} {vs : Value} {n : Nat} {Q : Int × Int × Nat → Shared → Prop} (hsl : s.heap.IsSliceOf sl .none .none vs) (p : IsPart vs (some (-1)))
    (h : Q ((n : Int) - 1, -1, n) s) : wpAny (model prog w) A (Builtin.Slice.sliceApplied (.ref sl) (pure (n : Int))) Q E s := by
  obtain ⟨ob, hob, cl, dt⟩ := id hsl
  unfold Builtin.Slice.sliceApplied
  unfold Builtin.Slice.sliceFields
  refine wpAny_bind (wpAny_bind (wpAny_field hob dt (x := .none) rfl (wpAny_bind (wpAny_field hob dt (x := .none) rfl (wpAny_bind (wpAny_field hob dt (x := vs) rfl (wpAny_pure ?_)))))))
  refine wpAny_bind (HT.slicePart_ p ?_)
  show wpAny _ _ (if ((-1 : Int) == 0) = true then _ else _) _ _ s
  rw [if_neg (by decide)]
  refine wpAny_bind (slicePart_none (wpAny_bind (slicePart_none (wpAny_bind (wpAny_pure ?_)))))
  show wpAny _ _ (match Builtin.Slice.sliceAdjust none none (-1) (n : Int) with | (i, j) => pure (i, (-1 : Int), Builtin.Slice.slicePlaces i j (-1))) _ _ s
  rw [rev_adjust n]
  show wpAny _ _ (pure ((n : Int) - 1, (-1 : Int), Builtin.Slice.slicePlaces ((n : Int) - 1) (-1) (-1))) _ _ s
  rw [rev_places]
  exact wpAny_pure h
theorem rev_tuple {t sl : Addr} {xs : Array Value} {vs : Value} {Q : Value → Shared → Prop} (ht : IsTup s.heap t xs) (hsl : s.heap.IsSliceOf sl .none .none vs) (p : IsPart vs (some (-1)))
    (h : Q (.ref s.heap.objs.size) { s with heap := s.heap.push { cls := .type "tuple", data := .seq xs.toList.reverse.toArray } }) (hz : xs.size ≤ sizeLine) : wpAny (model prog w) A (getItem (.ref t) (.ref sl)) Q E s := by
  have fits : sizeOk (.seq xs.toList.reverse.toArray) := by
    show xs.toList.reverse.toArray.size ≤ sizeLine
    rw [List.size_toArray, List.length_reverse, Array.length_toList]; exact hz
  obtain ⟨ob, hob, cl, dt⟩ := id hsl
  have ty : s.TypeIs (.ref sl) "slice" := ⟨ob, hob, cl⟩
  unfold getItem
  try (with_reducible refine wpAny_holding ?_)
  first | (refine wpAny_bind (wpAny_pure ?_)) | skip
  refine wpAny_bind (wpAny_sequenceKey ht.typeIs (by decide) (wpAny_bind ?_))
  refine wpAny_callSpecial?_slot (name := Str.ofString "__getitem__") ht.typeIs PyProof.Rows.slot_tuple_getitem (wpAny_call_entry PyProof.Rows.slot_tuple_getitem ht.typeIs entry_tuple_getitem ?_ (args_tuple_getitem _ _))
  show wpAny _ _ (Builtin.Tuple.tupleItemsOf (.ref t) >>= _) _ _ s
  refine wpAny_bind (tupleItemsOf_ ht (wpAny_bind (wpAny_typeOf ty ?_)))
  rw [if_pos (by decide)]
  refine wpAny_bind (rev_applied (n := xs.size) hsl p ?_)
  have no : ¬ ((((xs.size : Int) - 1) == 0 && (-1 : Int) == 1 && xs.size == xs.size) = true) := by
    rw [show ((-1 : Int) == 1) = false from rfl, Bool.and_false, Bool.false_and]; decide
  show wpAny _ _ (if (((xs.size : Int) - 1) == 0 && (-1 : Int) == 1 && xs.size == xs.size) = true then _ else _) _ _ s
  rw [if_neg no, rev_pick]
  exact wpAny_bind (m := Builtin.Tuple.tupleExact _) (wpAny_newObj_type (wpAny_pure ⟨_, rfl, wpAny_pure h⟩) fits)
end
section
variable {X : Cx}
def tRevT (K : PySem.W.Frag) (te : TE) : TE := fun σ H Q => te σ H fun x H1 => ∃ a xs, x = .ref a ∧ H1 a = some (.tup xs) ∧ ∀ p, H1 p = none → Q (.ref p) (upd H1 p (.tup xs.reverse))
theorem pe_revT {e : Expr} {te : TE} {k : Nat} {p1 p2 p3 pos : Pos} (he : PE X e te) : PE X (.Subscript e (.Slice none none (some (.UnaryOp .USub (.Constant (.int 1) k p1) p2)) p3) pos) (tRevT X.K te) := by
  refine ⟨fun pins s σ H Q I h => Subscript_ (thn (he.run pins s σ H _ I h) fun v s1 ⟨x, H1, I1, r1, a, xs, ex, hx, q⟩ => ?_)⟩
  subst ex
  cases r1
  have step : PO X (some (.UnaryOp .USub (.Constant (.int 1) k p1) p2)) (tPart (tUn (rU fun i => .int (-i)) (tC (.int 1)))) := po_some (pe_un un_neg pe_int)
  refine wpAny_Slice (thn (po_none.run pins s1 σ H1 (fun o H' => o = none ∧ H' = H1) I1 ⟨rfl, rfl⟩) fun vl s2 ⟨l, H2, I2, pl, el, e2⟩ => ?_)
  subst el e2
  refine thn (po_none.run pins s2 σ H2 (fun o H' => o = none ∧ H' = H2) I2 ⟨rfl, rfl⟩) fun vu s3 ⟨u, H3, I3, pu, eu, e3⟩ => ?_
  subst eu e3
  refine thn (step.run pins s3 σ H3 (fun o H' => o = some (-1) ∧ H' = H3) I3 ⟨1, rfl, -1, rfl, rfl, rfl⟩) fun vs s4 ⟨o, H4, I4, ps, eo, e4⟩ => ?_
  subst eo e4
  have nl : vl = .none := by cases pl; rfl
  have nu : vu = .none := by cases pu; rfl
  subst nl nu
  have I5 : Inv X pins σ H4 { s4 with heap := s4.heap.push { cls := .type "slice", data := .fields #[.none, .none, vs] } } := I4.kept (t' := s4.toks) fun b ob q => Heap.get?_push_of_some _ q
  obtain ⟨its, r, ht, hz⟩ := I5.tuple (SqT.of hx)
  have tup : IsTup (s4.heap.push { cls := .type "slice", data := .fields #[.none, .none, vs] }) a its.toArray := ht
  show wpAny (model X.prog X.w) X.A (subscriptTail e (.Slice none none (some (.UnaryOp .USub (.Constant (.int 1) k p1) p2)) p3) (.ref a) (.ref s4.heap.objs.size)) (EP X pins σ Q) X.xe { s4 with heap := s4.heap.push { cls := .type "slice", data := .fields #[.none, .none, vs] } }
  refine tail_any (ops := [.ref a, .ref s4.heap.objs.size]) tup.typeIs (PyProof.Rows.slot_tuple_getitem.lookup) ?_ (by with_unfolding_all rfl)
  refine rev_tuple tup (Heap.IsSliceOf.new _ .none .none vs) ps ?_ (by rw [List.size_toArray, ← r.length]; exact hz)
  refine ⟨.ref _, _, I5.laid (t' := s4.toks) (o := .tup xs.reverse) (fun b ob q => Heap.get?_push_of_some _ q) (Nat.le_refl _) ?_, rfl, q _ (I5.hok.fresh (Nat.le_refl _))⟩
  exact ⟨by rw [List.length_reverse]; exact hz, _, r.reverse, IsTup.new _ _⟩
end
section
variable {S : Stc} {Γ : List Sl} {a : Expr} {pos : Pos}
theorem DqAll.rev {K : PySem.W.Frag} {H : Hp} : ∀ {vs : List V} {ds : List PyData}, DqAll K H vs ds → DqAll K H vs.reverse ds.reverse
  | _, _, .nil => .nil
  | _, _, .cons h t => by
    rw [List.reverse_cons, List.reverse_cons]
    exact DqAll.append (DqAll.rev t) (.cons h .nil)
theorem e_revT {Q : List Sl → Sl → Prop} {k : Nat} {p1 p2 p3 : Pos} (h : E S Γ a fun Γ1 s1 => ∃ ds, s1 = .dat (.tuple ds) ∧ Q Γ1 (.dat (.tuple ds.reverse))) : E S Γ (.Subscript a (.Slice none none (some (.UnaryOp .USub (.Constant (.int 1) k p1) p2)) p3) pos) Q := by
  intro X hX F G A σ H hl ok Q' kk
  refine WE.of (pe_revT WE.pe) ?_
  refine E.one h hX hl ok fun Γ1 s1 v1 H1 ⟨ds, e1, q⟩ hl1 ok1 => ?_
  subst e1
  obtain ⟨l, us, rfl, hs, ha, back⟩ := Ok.tupD (A := A ++ Γ1.zip σ) ok1
  refine ⟨l, us, rfl, hs, fun p hp => ?_⟩
  refine kk Γ1 _ _ _ q hl1 ?_
  have z := Ok.newTup (B := [(.dat (.tuple ds), some (V.ref l))]) (A := A ++ Γ1.zip σ) (vs := us.reverse) (ds := ds.reverse) ok1 hp fun Hb fp sm hB => by
    cases hB with
    | cons q t =>
      cases q with
      | dat q =>
        obtain ⟨_, u1, e, k1, k2⟩ := Dq.of_tup q
        cases e
        have := (sm _ _ k1).symm.trans hs
        cases this
        exact DqAll.rev k2
  exact Ok.dropB (B := [(.dat (.tuple ds), some (V.ref l))]) (z.perm (List.Perm.swap _ _ _))
end
end DL
namespace DL
open PySem PySem.Spec PyProof.Rows L2
/-! ### set(list of ints) -/
abbrev newSet (w : World) : Obj := { cls := .type "set", dict := none, data := .set #[] 0 (.fresh 0 0 (!w.params.followText "set-order")) }
section
variable {P : Program} {w : World} {A : Around} {z : Shared}
/-- set.__init__ of the new set and the list -/
theorem set_init_list {l : Addr} {its : Array Value} (ks : List Int) {R : Result → Shared → Prop} (hh : A.handled = none) (hl : z.heap.IsList l its) (hi : IntsAre its.toList ks) (hb : ks.length + 1 < scanBound)
    (h : ∀ (g : Heap) (tk c : Nat), SetR w g z.heap.objs.size (fun j => decide (j ∈ ks)) c → c ≤ ks.length → (∀ b o, z.heap.get? b = some o → g.get? b = some o) → R (.ok (.ret .none)) { z with heap := g, toks := tk }) :
    codeAny (model P w) A (.call (.builtin "set.__init__") ⟨[.ref z.heap.objs.size, .ref l], []⟩) R { z with heap := z.heap.push (newSet w) } := by
  have sz : its.size = ks.length := by have q := IntsAre.length hi; rw [Array.length_toList] at q; exact q
  have isS : (z.heap.push (newSet w)).get? z.heap.objs.size = some (newSet w) := Heap.get?_push_size _ rfl
  have ty : Shared.TypeIs { z with heap := z.heap.push (newSet w) } (.ref z.heap.objs.size) "set" := ⟨_, isS, rfl⟩
  refine codeAny_mono (codeAny_call_builtin (R := wants (fun r y => r = .none ∧ ∃ g tk c, y = { z with heap := g, toks := tk } ∧ SetR w g z.heap.objs.size (fun j => decide (j ∈ ks)) c ∧ c ≤ ks.length ∧ (∀ b o, z.heap.get? b = some o → g.get? b = some o)) fun _ _ => False)
    F.called_set.init.plain F.entry_set_init (check_set_init_1 ty ?_)) fun r2 y2 hr2 => ?_
  · obtain ⟨⟨oc, od, oD, os⟩, gl, cl, n0, dl⟩ := hl
    simp only at cl dl
    subst cl; subst dl
    have gl2 : (z.heap.push (newSet w)).get? l = some { cls := .type "list", dict := od, data := .seq its n0, slots := os } := Heap.get?_push_of_some _ gl
    have f1 := F.sub_list_set; have f2 := F.sub_list_frozenset
    have nq : (Value.type "list" == Value.type "dict") = false := by decide
    have ls1 : (z.heap.push (newSet w)).IsList l its := ⟨_, gl2, rfl, n0, rfl⟩
    unfold Builtin.«set.__init__» noKeywords Builtin.Frozenset.updateFrom; generalize hPI : pyIter = PI
    wp_walk
    subst hPI
    refine wpAny_pyIter_list ls1 (wpAny_bind (wpAny_runValue ?_))
    have lt : l < z.heap.objs.size := Heap.lt_size gl
    have up : (z.heap.push (newSet w)).objs.size = z.heap.objs.size + 1 := Heap.size_push ..
    have ne : l ≠ (z.heap.push (newSet w)).objs.size := by rw [up]; exact Nat.ne_of_lt (Nat.lt_succ_of_lt lt)
    have out : z.heap.objs.size ∉ [(z.heap.push (newSet w)).objs.size, l] := by
      rw [up, List.mem_cons, List.mem_singleton]; exact fun q => q.elim (fun q => Nat.ne_of_lt (Nat.lt_succ_self _) q) fun q => Nat.ne_of_gt lt q
    have vals : ∀ (i : Nat) (v : Value), its[i]? = some v → ∃ k t, ks[i]? = some k ∧ v = .int k t := fun i v hv => by
      have hlt : i < ks.length := by rw [← sz]; exact (Array.getElem?_eq_some_iff.mp hv).1
      obtain ⟨t, e⟩ := IntsAre.int_at hi i v (by rw [Array.getElem?_toList]; exact hv)
      refine ⟨ks[i], t, List.getElem?_eq_getElem hlt, ?_⟩
      rw [e, List.getD_eq_getElem?_getD, List.getElem?_eq_getElem hlt] <;> rfl
    have got : ((z.heap.push (newSet w)).push { cls := .type "list_iterator", data := .fields #[.ref l, .int 0 0] }).get? z.heap.objs.size = some (newSet w) := Heap.get?_push_of_some _ isS
    refine set_update_ints ((Walks.list ?hd _ l ne its).toS) z.heap.objs.size out ks sz hb vals (its.size - 0) 0 _ (by omega) (Nat.zero_le _) ⟨⟨_, Heap.get?_push_size _ rfl, rfl, rfl⟩, ls1.push _⟩ ?first ?_
    case hd => simp [hh]
    case first => exact ⟨0, Nat.le_refl 0, setR_new_at got⟩
    rintro ⟨g, g2, d2, tk2, os2⟩ c2 hm hc hS
    have eg : g2 = z.gens := hm.gens
    have ed : d2 = z.drawn := hm.drawn
    have eo : os2 = z.os := hm.os
    subst eg ed eo
    show wpAny _ _ _ _ _ _
    refine wpAny_pure ?_
    show wpAny _ _ (ret Value.none) _ _ _
    rw [sz] at hc
    refine wpAny_pure ⟨rfl, g, tk2, c2, rfl, hS, hc, fun b o e => hm.heap b o ?_ (Heap.get?_push_of_some _ (Heap.get?_push_of_some _ e))⟩
    have hlt := Heap.lt_size e
    rw [up, List.mem_cons, List.mem_singleton]
    exact fun q => q.elim (fun q => Nat.ne_of_lt hlt q) fun q => Nat.ne_of_lt (Nat.lt_succ_of_lt hlt) q
  · match r2, hr2 with
    | .ok (.ret r), ⟨e1, g, tk, c, e2, h1, h2, h3⟩ =>
      subst e1 e2
      exact h g tk c h1 h2 h3
    | .error e, q => exact q.elim
set_option maxHeartbeats 8000000 in
theorem set_list_ints {E : Value → Shared → Prop} {l : Addr} {its : Array Value} (ks : List Int) {Q : Value → Shared → Prop} (hh : A.handled = none) (hl : z.heap.IsList l its) (hi : IntsAre its.toList ks) (hb : ks.length + 1 < scanBound)
    (h : ∀ (g : Heap) (tk c : Nat), SetR w g z.heap.objs.size (fun j => decide (j ∈ ks)) c → c ≤ ks.length → (∀ b o, z.heap.get? b = some o → g.get? b = some o) → Q (.ref z.heap.objs.size) { z with heap := g, toks := tk }) :
    wpAny (model P w) A (call (.type "set") [.ref l]) Q E z := by
  obtain ⟨c, tl, mro1⟩ := F.called_set.mro
  have mad := F.called_set.made; have sbc := F.called_set.sub
  refine wpAny_call (codeAny_of_tree (show wpAny _ _ (callAny (.type "set") _) _ _ _ from wpAny_pure ⟨Code.quiet_builtin _ (by decide +kernel), codeAny_builtin F.entry_type_call ?_⟩))
  rw [Around.under_plain (weight_type_call_type "set" [.ref l] []) rfl]
  have h1 := F.called_set.notType; have h2 := F.called_set.canCreate; have hct := F.typeCall_set_1 (.ref l)
  repeat (any_goals first | assumption | wp_step)
  refine codeAny_mono (code_set_led1 (s := z) (.ref l) (E := E) (Q₁ := fun obj y => obj = .ref z.heap.objs.size ∧ y = { z with heap := z.heap.push (newSet w) }) ⟨rfl, rfl⟩) fun r y hr => ?_
  match r, hr with
  | .error e, hr => exact hr
  | .ok (.ret obj), ⟨e1, e2⟩ =>
    subst e1 e2
    have isS : (z.heap.push (newSet w)).get? z.heap.objs.size = some (newSet w) := Heap.get?_push_size _ rfl
    have ty : Shared.TypeIs { z with heap := z.heap.push (newSet w) } (.ref z.heap.objs.size) "set" := ⟨_, isS, rfl⟩
    have lk := F.called_set.init.lookup; have bd := F.called_set.init.bind (.ref z.heap.objs.size)
    repeat (any_goals first | assumption | wp_step)
    refine set_init_list ks (by simpa using hh) hl hi hb fun g tk c h1 h2 h3 => ?_
    repeat (any_goals first | assumption | wp_step)
    exact h _ _ _ h1 h2 h3
end
end DL
namespace DL
open PySem PySem.Spec PyProof.Rows L2
/-! ### the sorted list of the different ones -/
def insU (x : Int) : List Int → List Int
  | [] => [x]
  | y :: ys => if x < y then x :: y :: ys else if x = y then y :: ys else y :: insU x ys
def sortU (ns : List Int) : List Int := ns.foldr insU []
theorem mem_insU {x k : Int} : ∀ {l : List Int}, k ∈ insU x l ↔ k = x ∨ k ∈ l
  | [] => by unfold insU; simp
  | y :: ys => by
    unfold insU
    split
    · simp
    · split
      · rename_i h1 h2; subst h2; simp
      · rw [List.mem_cons, mem_insU, List.mem_cons]
        constructor
        · rintro (h | h | h)
          · exact .inr (.inl h)
          · exact .inl h
          · exact .inr (.inr h)
        · rintro (h | h | h)
          · exact .inr (.inl h)
          · exact .inl h
          · exact .inr (.inr h)
theorem insU_sorted {x : Int} : ∀ {l : List Int}, l.Pairwise (· < ·) → (insU x l).Pairwise (· < ·)
  | [], _ => by unfold insU; simp
  | y :: ys, h => by
    unfold insU
    have h' := List.pairwise_cons.mp h
    split
    · rename_i h1
      refine List.pairwise_cons.mpr ⟨fun z hz => ?_, h⟩
      rcases List.mem_cons.mp hz with rfl | hz
      · exact h1
      · exact Int.lt_trans h1 (h'.1 z hz)
    · split
      · exact h
      · rename_i h1 h2
        refine List.pairwise_cons.mpr ⟨fun z hz => ?_, insU_sorted h'.2⟩
        rcases mem_insU.mp hz with rfl | hz
        · omega
        · exact h'.1 z hz
theorem sortU_sorted : ∀ (ns : List Int), (sortU ns).Pairwise (· < ·)
  | [] => List.Pairwise.nil
  | _ :: ns => insU_sorted (sortU_sorted ns)
theorem mem_sortU {k : Int} : ∀ {ns : List Int}, k ∈ sortU ns ↔ k ∈ ns
  | [] => Iff.rfl
  | n :: ns => by
    show k ∈ insU n (sortU ns) ↔ _
    rw [mem_insU, mem_sortU, List.mem_cons]
theorem sorted_eq : ∀ {l m : List Int}, l.Pairwise (· < ·) → m.Pairwise (· < ·) → (∀ k, k ∈ l ↔ k ∈ m) → l = m
  | [], [], _, _, _ => rfl
  | [], y :: _, _, _, h => by have := (h y).mpr List.mem_cons_self; cases this
  | x :: _, [], _, _, h => by have := (h x).mp List.mem_cons_self; cases this
  | x :: xs, y :: ys, h1, h2, h => by
    have a1 := List.pairwise_cons.mp h1
    have a2 := List.pairwise_cons.mp h2
    have e : x = y := by
      rcases List.mem_cons.mp ((h x).mp List.mem_cons_self) with e | e
      · exact e
      · rcases List.mem_cons.mp ((h y).mpr List.mem_cons_self) with e2 | e2
        · exact e2.symm
        · have := a1.1 y e2; have := a2.1 x e; omega
    subst e
    congr 1
    refine sorted_eq a1.2 a2.2 fun k => ⟨fun hk => ?_, fun hk => ?_⟩
    · rcases List.mem_cons.mp ((h k).mp (List.mem_cons_of_mem _ hk)) with e | e
      · subst e; have := a1.1 k hk; omega
      · exact e
    · rcases List.mem_cons.mp ((h k).mpr (List.mem_cons_of_mem _ hk)) with e | e
      · subst e; have := a2.1 k hk; omega
      · exact e
theorem sortU_eq {l ns : List Int} (h : l.Pairwise (· < ·)) (hm : ∀ k, k ∈ l ↔ k ∈ ns) : l = sortU ns := sorted_eq h (sortU_sorted ns) fun k => by rw [hm, mem_sortU]
theorem nodup_len : ∀ {l m : List Int}, l.Nodup → (∀ k ∈ l, k ∈ m) → l.length ≤ m.length
  | [], _, _, _ => Nat.zero_le _
  | x :: xs, m, hn, h => by
    have h' := List.nodup_cons.mp hn
    have hx := h x List.mem_cons_self
    have e := (List.perm_cons_erase hx).length_eq
    have ih := nodup_len (m := m.erase x) h'.2 fun k hk => (List.mem_erase_of_ne (fun e => h'.1 (by rw [← e]; exact hk))).mpr (h k (List.mem_cons_of_mem _ hk))
    rw [e, List.length_cons, List.length_cons]
    omega
theorem sortU_nodup (ns : List Int) : (sortU ns).Nodup := (sortU_sorted ns).imp fun h => by omega
theorem sortU_len (ns : List Int) : (sortU ns).length ≤ ns.length := nodup_len (sortU_nodup ns) fun _ h => mem_sortU.mp h
theorem setR_len {w : World} {h : Heap} {a : Addr} {ns : List Int} {c : Nat} (R : SetR w h a (fun j => decide (j ∈ ns)) c) : c = (sortU ns).length := by
  obtain ⟨o, es, ep, t, _, _, _, _, nd, mm, _, _, e, _⟩ := R
  have l1 : (es.toList.map keyOf).length = c := by rw [List.length_map, Array.length_toList, e]
  have hm : ∀ k, k ∈ es.toList.map keyOf ↔ k ∈ sortU ns := fun k => by rw [mem_sortU, ← mm, decide_eq_true_eq]
  have u1 := nodup_len nd fun k hk => (hm k).mp hk
  have u2 := nodup_len (sortU_nodup ns) fun k hk => (hm k).mpr hk
  omega

section
variable {X : Cx}
def rSetI (K : PySem.W.Frag) (w : World) : List V → Hp → VK → Prop := fun vs H Q => ∃ a ns, vs = [V.ref a] ∧ (H a = some (.lst (ns.map V.int)) ∨ H a = some (.tup (ns.map V.int))) ∧ ns.length + 1 < 4096 ∧
  ∀ p, H p = none → Q (.ref p) (upd H p (SetO w p (fun j => decide (j ∈ ns)) (sortU ns).length))
theorem cr_setI (hc : X.calm = true) : CallR X (.type "set") (rSetI X.K X.w) := by
  intro pins s σ H vs us Q I r ⟨a, ns, e, ha, hn, q⟩
  subst e
  rw [Vals.ref1 r]
  have free : H s.heap.objs.size = none := I.hok.fresh (Nat.le_refl _)
  have fin : ∀ (g : Heap) (tk c : Nat), SetR X.w g s.heap.objs.size (fun j => decide (j ∈ ns)) c → (∀ b o, s.heap.get? b = some o → g.get? b = some o) → EP X pins σ Q (.ref s.heap.objs.size) { s with heap := g, toks := tk } := fun g tk c R k => by
    have ec := setR_len R
    subst ec
    exact ⟨.ref _, _, I.laid (t' := tk) k (Nat.le_refl _) (setO_new R), rfl, q _ free⟩
  rcases ha with ha | ha
  · obtain ⟨its, rv, pl, hz⟩ := I.list (SqL.of ha)
    exact set_list_ints ns (I.ok.hd hc) pl.isList (by simpa using ints_of_vals rv) (by unfold scanBound; omega) fun g tk c R _ k => fin g tk c R k
  · obtain ⟨its, rv, pl, hz⟩ := I.tuple (SqT.of ha)
    exact call_set_tupI ns (I.ok.hd hc) pl (by simpa using ints_of_vals rv) (by unfold scanBound; omega) fun g tk c R _ k => fin g tk c R k
end
/-! ### a set of ints that one slot owns -/
def isSet (w : World) (a : Addr) (ns : List Int) : PySem.W.Frag → Hp → List (Addr × HO) → Prop := fun _ _ fp => fp = [(a, SetO w a (fun j => decide (j ∈ ns)) (sortU ns).length)]
abbrev setS (w : World) (a : Addr) (ns : List Int) : Sl := .own a (isSet w a ns)
theorem isSet_mono (w : World) (K : PySem.W.Frag) (a : Addr) (ns : List Int) : Mono (isSet w a ns K) := fun _ _ _ _ h => h
variable {K : PySem.W.Frag} {F G H : Hp} {A B : Asn}
theorem Ok.newOwn {p : Addr} {o : HO} {R : PySem.W.Frag → Hp → List (Addr × HO) → Prop} (h : Ok K F G A H) (hp : H p = none) (mo : Mono (R K)) (hr : ∀ Hb, Same Hb H → R K Hb [(p, o)]) : Ok K F G ((.own p R, some (.ref p)) :: A) (upd H p o) := by
  obtain ⟨Hb, fp, h1, h2, h3, h4, h5, h6⟩ := h
  have nb : Hb p = none := h2.free hp
  refine ⟨Hb, (p, o) :: fp, h1, fun b u e => ?_, fun b u e => ?_, .cons (f := [(p, o)]) (.own mo (hr Hb h2)) h4, fun q hq => ?_, ?_⟩
  · rw [upd_ne (ne_of_none e nb)]; exact h2 b u e
  · have hb : b ≠ p := fun z => by have := (h3 b u e).1; rw [z, hp] at this; cases this
    rw [upd_ne hb]; exact h3 b u e
  · rcases List.mem_cons.mp hq with rfl | hq
    · refine ⟨nb, ?_, upd_same⟩
      cases e : G p with
      | none => rfl
      | some u => have := (h3 p u e).1; rw [hp] at this; cases this
    · have hb : q.1 ≠ p := fun z => by have := (h5 q hq).2.2; rw [z, hp] at this; cases this
      rw [upd_ne hb]; exact h5 q hq
  · refine List.nodup_cons.mpr ⟨fun hm => ?_, h6⟩
    obtain ⟨q, hq, e⟩ := List.mem_map.mp hm
    have := (h5 q hq).2.2
    rw [e, hp] at this
    cases this
section
variable {S : Stc} {Γ : List Sl} {e : Expr} {pos p : Pos}
theorem ownEl {a : Addr} {R} {v : Option V} (h : Ok K F G ((.own a R, v) :: A) H) : v = some (.ref a) ∧ ∃ Hb fp, R K Hb fp ∧ Same Hb H ∧ ∀ p ∈ fp, H p.1 = some p.2 := by
  obtain ⟨e, Hb, fp, mo, hr, sm, hp, _⟩ := Ok.own h
  exact ⟨e, Hb, fp, hr, sm, hp⟩
theorem e_setI {Q : List Sl → Sl → Prop} (hm : S.M.mg "set" = none) (h : E S Γ e fun Γ' s => ∃ d, s = .dat d ∧ ∃ ns : List Int, itemsOf d = some (ns.map .int) ∧ ns.length + 1 < 4096 ∧ ∀ a, Q Γ' (setS S.M.w a ns)) (hst : noStar e = true := by rfl) (hs : S.sc.names.lookup ("set" : Str) = some .globalImplicit := by rfl) : E S Γ (.Call (.Name "set" p) [e] [] pos) Q := by
  refine ty1 (id := "set") (r := rSetI default S.M.w) (fun X hX => ?_) hs hm (by decide +kernel) (by decide) (by decide) hst h ?_
  · have := cr_setI (X := X) hX.calm
    rw [hX.w] at this
    exact this
  intro X F G A σ H Γ' v d Q' hX ⟨ns, hi, hl2, q⟩ hl ok k
  have done : ∀ a, v = .ref a → (H a = some (.lst (ns.map V.int)) ∨ H a = some (.tup (ns.map V.int))) → rSetI default S.M.w [v] H Q' := fun a ev ha => by
    refine ⟨a, ns, by rw [ev], ha, hl2, fun p' hp => k Γ' _ _ _ (q p') hl ?_⟩
    exact Ok.newOwn ok.tail hp (isSet_mono _ _ _ _) fun _ _ => rfl
  cases d with
  | list xs =>
    cases hi
    obtain ⟨l, us, ew, hs, ha, _⟩ := ok.lstD
    rw [DqAll.ints ha] at hs
    exact done l ew (.inl hs)
  | tuple xs =>
    cases hi
    obtain ⟨l, us, ew, hs, ha, _⟩ := ok.tupD
    rw [DqAll.ints ha] at hs
    exact done l ew (.inr hs)
  | _ => cases hi
theorem e_sortedS {Q : List Sl → Sl → Prop} {x : Str} (hx : x = "sorted") (hm : S.M.mg "sorted" = none) (h : E S Γ e fun Γ' s => ∃ a ns, s = setS S.M.w a ns ∧ (sortU ns).length < 64 ∧ ∀ l, Q Γ' (lst l ((sortU ns).map .int))) (hst : noStar e = true := by rfl) (hs : S.sc.names.lookup ("sorted" : Str) = some .globalImplicit := by rfl) : E S Γ (.Call (.Name x p) [e] [] pos) Q := by
  subst hx
  intro X hX F G A σ H hl ok Q' k
  refine WE.of (pe_callB (cr_sortedSet hX.calm) (by show X.env.scope.names.lookup _ = _; rw [hX.sc]; exact hs) (by rw [hX.mg]; exact hm) (by decide +kernel) WA.pa (by decide) (by decide) (starEach_cons hst) (anyStar [] rfl)) ?_
  have h1 : EA S Γ [e] fun Γ' ss => ∃ s, ss = [s] ∧ ∃ a ns, s = setS S.M.w a ns ∧ (sortU ns).length < 64 ∧ ∀ l, Q Γ' (lst l ((sortU ns).map .int)) := ⟨hst, h.mono fun Γ' s q => ⟨s, rfl, q⟩⟩
  refine EA.run hX _ h1 hl ok fun Γ' ss vs H' ⟨s, e1, a, ns, e2, hl2, q⟩ hl' l1 l2 ok' => ?_
  subst e1 e2
  obtain ⟨v, rfl⟩ : ∃ v, vs = [v] := by
    match vs, l1 with
    | [v], _ => exact ⟨v, rfl⟩
  have ok2 : Ok X.K F G ((setS S.M.w a ns, some v) :: (A ++ Γ'.zip σ)) H' := ok'
  obtain ⟨ev, Hb, fp, hfp, _, hh⟩ := ownEl ok2
  cases ev
  have ha : H' a = some (SetO X.w a (fun j => decide (j ∈ ns)) (sortU ns).length) := by
    have := hh (a, SetO S.M.w a (fun j => decide (j ∈ ns)) (sortU ns).length) (by rw [show fp = _ from hfp]; exact List.mem_cons_self)
    rw [hX.w]
    exact this
  refine ⟨a, _, _, rfl, ha, hl2, fun ks p hs hm hl3 hp => k Γ' _ _ _ (q p) hl' ?_⟩
  have ek : ks = sortU ns := sortU_eq hs fun j => by rw [hm, decide_eq_true_eq]
  subst ek
  exact Ok.newLst (B := []) (A := A ++ Γ'.zip σ) (vs := (sortU ns).map V.int) (ds := (sortU ns).map PyData.int) ok2.tail hp fun Hb fp sm hB => DqAll.of_ints _
end
end DL
namespace DL
open PySem L2
section
variable {S : Stc} {Γ : List Sl} {a b c e o tg it elt : Expr} {es ifs : List Expr} {body sts : List Stmt} {pos p p2 : Pos} {x : Str} {D : Po}
/-- a loop over typed members, what is known after some of them a relation -/
theorem b_forI {α : Type} (vs : List Nat) (enc : α → PyData) {t : Tg} (ht : TgOk S tg t) (h : IJ S Γ tg it fun Γ1 ds => ∃ (zs : List α) (I : List α → List Sl → Prop), ds = zs.map enc ∧ I [] (wipeG Γ1 vs) ∧
      (∀ pre z post Γ', zs = pre ++ z :: post → I pre Γ' → t.put (enc z) Γ' fun Γ2 => B S Γ2 body { D with nx := fun Γ3 => I (pre ++ [z]) (wipeG Γ3 vs), ct := fun Γ3 => I (pre ++ [z]) (wipeG Γ3 vs), bk := D.nx }) ∧ ∀ Γ', I zs Γ' → D.nx Γ')
    (hs : ∀ env x, foldedSetIterable it env x = pure x := by intro _ _; rfl) : B1 S Γ (.For tg it body [] pos) D := by
  refine b_forW vs ht (h.mono fun Γ1 ds ⟨zs, I, e, e0, turn, fin⟩ => ⟨fun i Γ' => I (zs.take i) Γ', e0, fun i d Γ' hd iv => ?_, fun Γ' iv => ?_⟩) hs
  · subst e
    rw [List.getElem?_map] at hd
    cases e : zs[i]? with
    | none => rw [e] at hd; cases hd
    | some z =>
      rw [e] at hd
      cases hd
      obtain ⟨pre, post, hs, h1, h2⟩ := takes e
      dsimp only at iv ⊢
      rw [h1] at iv
      rw [h2]
      exact turn pre z post Γ' hs iv
  · subst e
    rw [List.length_map, List.take_length] at iv
    exact fin Γ' iv
/-- a list comprehension with no condition -/
def CompM {α : Type} (S : Stc) (scope : Scope) (vs : List Nat) (t : Tg) (elt : Expr) (Γ1 : List Sl) (zs : List α) (enc : α → PyData) (g : α → PyData) : Prop :=
  ∀ z ∈ zs, t.put (enc z) (wipeG Γ1 vs) fun Γ2 => E (S.blk scope) Γ2 elt fun Γ3 s => s = .dat (g z) ∧ restG Γ1 vs Γ3 = Γ1
theorem e_lcM {α : Type} {scope : Scope} (own : List (Str × Nat)) {t : Tg} {Q : List Sl → Sl → Prop} (enc : α → PyData) (g : α → PyData) (ht : TgOk (S.blk scope) tg t)
    (h : IJ S Γ tg it fun Γ1 ds => ∃ zs : List α, ds = zs.map enc ∧ zs.length ≤ 1000000 ∧ CompM S scope (own.map (·.2)) t elt Γ1 zs enc g ∧ ∀ a, Q Γ1 (lst a (zs.map g)))
    (hb : blkC S.N S.sc scope own = true := by first | decide +kernel | (dsimp only [DL.St0, DL.Stc.blk]; decide +kernel)) (nd : (own.map (·.2)).Nodup := by decide) (hx : ∀ i ∈ t.ixs, i ∈ own.map (·.2) := by decide)
    (hs : ∀ env x, foldedSetIterable it env x = pure x := by intro _ _; rfl) : E S Γ (.ListComp elt [⟨tg, it, [], 0⟩] scope pos) Q := by
  refine e_lcF own enc (fun _ => true) g ht (h.mono fun Γ1 ds ⟨zs, e, hz, hc, q⟩ => ⟨zs, e, hz, ?_, fun a => ?_⟩) hb nd hx (.inl rfl) hs
  · intro z hz'
    refine Tg.put_mono t (hc z hz') fun Γ2 q => ?_
    show (true = (fun _ => true) z ∧ if true = true then _ else _)
    exact ⟨rfl, by rw [if_pos rfl]; exact q⟩
  · rw [List.filter_eq_self.mpr fun _ _ => rfl]; exact q a
/-- range of a natural number -/
theorem upto0 (n : Nat) : upto 0 n = (List.range n).map fun k : Nat => PyData.int (k : Int) := by
  unfold upto
  exact List.map_congr_left fun k _ => by rw [Int.zero_add]
theorem ij_rangeN {Q : List Sl → List PyData → Prop} (hm : S.M.mg "range" = none) (h : E S Γ a fun Γ' s => ∃ n : Nat, s = .dat (.int (n : Int)) ∧ n ≤ 1000000 ∧ Q Γ' ((List.range n).map fun k : Nat => .int (k : Int))) (hs : S.sc.names.lookup ("range" : Str) = some .globalImplicit := by rfl) (hst : noStar a = true := by rfl) : IJ S Γ tg (.Call (.Name "range" p) [a] [] pos) Q :=
  ij_range1 hm (E.mono h fun Γ' s ⟨n, e, hn, q⟩ => ⟨n, e, ⟨by omega, by omega⟩, by rw [Int.toNat_natCast, upto0]; exact q⟩) hs hst
theorem ij_rangeLen {Q : List Sl → List PyData → Prop} {p1 p0 : Pos} (hm : S.M.mg "range" = none) (hl : S.M.mg "len" = none) (h : E S Γ a fun Γ' s => ∃ d ds, s = .dat d ∧ itemsOf d = some ds ∧ ds.length ≤ 1000000 ∧ Q Γ' ((List.range ds.length).map fun k : Nat => .int (k : Int))) (hs : S.sc.names.lookup ("range" : Str) = some .globalImplicit := by rfl) (hs2 : S.sc.names.lookup ("len" : Str) = some .globalImplicit := by rfl) (hst : noStar a = true := by rfl) :
    IJ S Γ tg (.Call (.Name "range" p) [.Call (.Name "len" p1) [a] [] p0] [] pos) Q := by
  refine ij_rangeN hm (e_blt bl_len (ea_cons (E.mono h fun Γ' s ⟨d, ds, e, hi, hn, q⟩ => ?_) hst) hs2 hl (by decide +kernel) (hst := by show (noStar a && true) = true; rw [hst]; rfl)) hs
  subst e
  exact ea_nil ⟨_, ⟨_, _, rfl, hi, rfl⟩, _, rfl, hn, q⟩
theorem range_split {n k : Nat} {pre post : List Nat} (h : List.range n = pre ++ k :: post) : pre.length = k ∧ k < n := by
  have hl := congrArg List.length h
  rw [List.length_range, List.length_append, List.length_cons] at hl
  have e : (List.range n)[pre.length]? = some k := by rw [h, List.getElem?_append_right (Nat.le_refl _), Nat.sub_self]; rfl
  have hlt : pre.length < n := by omega
  rw [List.getElem?_range hlt] at e
  cases e
  exact ⟨rfl, hlt⟩
theorem atI_map {α β : Type} {zs : List α} {g : α → β} {k : Nat} {z : α} (h : zs[k]? = some z) : atI (zs.map g) (k : Int) = some (g z) := atI_nat (by rw [List.getElem?_map, h]; rfl)
/-- a datum by its place, the items of one kind -/
theorem e_ixM {α : Type} {Q : List Sl → Sl → Prop} (h : E S Γ a fun Γ1 s1 => E S Γ1 b fun Γ2 s2 => ∃ (d : PyData) (zs : List α) (g : α → PyData) (k : Nat) (z : α), s1 = .dat d ∧ s2 = .dat (.int (k : Int)) ∧ itemsOf d = some (zs.map g) ∧ zs[k]? = some z ∧ Q Γ2 (.dat (g z))) (hs : PlainIx b := by intro _ _; rfl) : E S Γ (.Subscript a b pos) Q :=
  e_ix (E.mono h fun Γ1 s1 q => E.mono q fun Γ2 s2 ⟨d, zs, g, k, z, e1, e2, hi, hz, q⟩ => ⟨d, _, e1, e2, _, _, _, hi, rfl, atI_map hz, q⟩) hs
/-- a datum by a place that stands in the text -/
theorem e_ixC {Q : List Sl → Sl → Prop} {k : Nat} {j} {p1 : Pos} (h : E S Γ a fun Γ1 s1 => ∃ (d : PyData) (ds : List PyData) (z : PyData), s1 = .dat d ∧ itemsOf d = some ds ∧ ds[k]? = some z ∧ Q Γ1 (.dat z)) : E S Γ (.Subscript a (.Constant (.int (k : Int)) j p1) pos) Q :=
  e_ix (E.mono h fun Γ1 s1 ⟨d, ds, z, e1, hi, hz, q⟩ => e_int ⟨d, _, e1, rfl, _, _, _, hi, rfl, atI_nat hz, q⟩) (by intro _ _; rfl)
end
/-! ### slices by natural numbers -/
theorem cut_drop {α : Type} {xs : List α} {k : Nat} : cut xs (some (k : Int)) none = xs.drop k := by
  unfold cut HT.sIx
  have h1 : ¬ ((k : Int) < 0) := by omega
  simp only [h1, if_false, Int.toNat_natCast]
  by_cases h : k ≤ xs.length
  · rw [Nat.min_eq_left h, List.take_of_length_le (by rw [List.length_drop]; exact Nat.le_refl _)]
  · rw [Nat.min_eq_right (by omega), List.drop_of_length_le (Nat.le_refl _), List.drop_of_length_le (by omega), List.take_nil]
theorem cut_take {α : Type} {xs : List α} {k : Nat} : cut xs none (some (k : Int)) = xs.take k := by
  unfold cut HT.sIx
  have h1 : ¬ ((k : Int) < 0) := by omega
  simp only [h1, if_false, Int.toNat_natCast, List.drop_zero, Nat.sub_zero]
  by_cases h : k ≤ xs.length
  · rw [Nat.min_eq_left h]
  · rw [Nat.min_eq_right (by omega), List.take_of_length_le (Nat.le_refl _), List.take_of_length_le (by omega)]
theorem cut_init {α : Type} {xs : List α} : cut xs none (some (-1)) = xs.dropLast := by
  show (xs.drop 0).take ((if (-1 : Int) < 0 then ((-1 : Int) + (xs.length : Int)).toNat else min (-1 : Int).toNat xs.length) - 0) = _
  have e : ((-1 : Int) + (xs.length : Int)).toNat = xs.length - 1 := by omega
  rw [if_pos (by decide), List.dropLast_eq_take, e]; rfl
/-! ### data that == takes -/
def Shp (n : Nat) (d : PyData) : Prop := d.canLay0 = true ∧ d.depth ≤ n
theorem Shp.shaped {n : Nat} {d : PyData} (h : Shp n d) (hn : n ≤ 64 := by decide) : SeqAt.shaped d = true := by
  unfold SeqAt.shaped
  rw [h.1, Bool.true_and, decide_eq_true_eq]
  exact Nat.le_trans h.2 hn
theorem Shp.all {n : Nat} : ∀ {xs : List PyData}, (∀ x ∈ xs, Shp n x) → PyData.canLayAll0 xs = true ∧ PyData.depthAll xs ≤ n
  | [], _ => by
    rw [PyData.canLayAll0, PyData.depthAll]
    exact ⟨rfl, Nat.zero_le _⟩
  | x :: xs, h => by
    obtain ⟨h1, h2⟩ := Shp.all fun y hy => h y (List.mem_cons_of_mem _ hy)
    obtain ⟨h3, h4⟩ := h x List.mem_cons_self
    rw [PyData.canLayAll0, PyData.depthAll, h1, h3]
    exact ⟨rfl, Nat.max_le.mpr ⟨h4, h2⟩⟩
theorem Shp.tup {n : Nat} {xs : List PyData} (h : ∀ x ∈ xs, Shp n x) : Shp (n + 1) (.tuple xs) := by
  obtain ⟨h1, h2⟩ := Shp.all h
  unfold Shp
  rw [PyData.canLay0, PyData.depth]
  exact ⟨h1, by omega⟩
theorem Shp.lst {n : Nat} {xs : List PyData} (h : ∀ x ∈ xs, Shp n x) : Shp (n + 1) (.list xs) := by
  obtain ⟨h1, h2⟩ := Shp.all h
  unfold Shp
  rw [PyData.canLay0, PyData.depth]
  exact ⟨h1, by omega⟩
theorem Shp.int {n : Nat} (i : Int) : Shp n (.int i) := by
  unfold Shp
  rw [PyData.canLay0, PyData.depth]
  exact ⟨rfl, Nat.zero_le _⟩
theorem Shp.bool {n : Nat} (i : Bool) : Shp n (.bool i) := by
  unfold Shp
  rw [PyData.canLay0, PyData.depth]
  exact ⟨rfl, Nat.zero_le _⟩
theorem Shp.none {n : Nat} : Shp n .none := by
  unfold Shp
  rw [PyData.canLay0, PyData.depth]
  exact ⟨rfl, Nat.zero_le _⟩
theorem Shp.str {n : Nat} {x : Str} (h : PyData.strOk x = true) : Shp n (.str x) := by
  unfold Shp
  rw [PyData.canLay0, PyData.depth]
  exact ⟨h, Nat.zero_le _⟩
theorem Shp.mono {n m : Nat} {d : PyData} (h : Shp n d) (hm : n ≤ m) : Shp m d := ⟨h.1, Nat.le_trans h.2 hm⟩
theorem Shp.ints {n : Nat} (ns : List Int) : ∀ x ∈ ns.map PyData.int, Shp n x := fun x hx => by
  obtain ⟨i, _, e⟩ := List.mem_map.mp hx
  rw [← e]; exact Shp.int i
theorem eqv_str (a b : Str) : PyData.eqv (.str a) (.str b) = (a == b) := by rw [PyData.eqv]
theorem eqv_int (a b : Int) : PyData.eqv (.int a) (.int b) = (a == b) := by rw [PyData.eqv]
theorem eqv_bool (a b : Bool) : PyData.eqv (.bool a) (.bool b) = (a == b) := by rw [PyData.eqv]
theorem eqv_lst (a b : List PyData) : PyData.eqv (.list a) (.list b) = PyData.eqvAll a b := by rw [PyData.eqv]
theorem eqv_tup (a b : List PyData) : PyData.eqv (.tuple a) (.tuple b) = PyData.eqvAll a b := by rw [PyData.eqv]
theorem eqvAll_map {α : Type} (g : α → PyData) (he : ∀ a b, PyData.eqv (g a) (g b) = true ↔ a = b) : ∀ xs ys : List α, PyData.eqvAll (xs.map g) (ys.map g) = true ↔ xs = ys
  | [], [] => by rw [List.map_nil, PyData.eqvAll]; simp
  | [], y :: ys => by rw [List.map_nil, List.map_cons, PyData.eqvAll]; simp
  | x :: xs, [] => by rw [List.map_nil, List.map_cons, PyData.eqvAll]; simp
  | x :: xs, y :: ys => by
    rw [List.map_cons, List.map_cons, PyData.eqvAll, Bool.and_eq_true, he, eqvAll_map g he xs ys, List.cons.injEq]
theorem eqvAll_ints (xs ys : List Int) : PyData.eqvAll (xs.map .int) (ys.map .int) = true ↔ xs = ys :=
  eqvAll_map _ (fun a b => by rw [eqv_int, beq_iff_eq]) xs ys
theorem eqv_nil_lst (xs : List PyData) : PyData.eqv (.list xs) (.list []) = xs.isEmpty := by
  rw [eqv_lst]
  cases xs <;> rw [PyData.eqvAll] <;> rfl
end DL
namespace DL
open PySem L2
section
variable {S : Stc} {Γ : List Sl} {a b c e o tg it elt : Expr} {es ifs : List Expr} {body sts : List Stmt} {pos p p2 : Pos} {x : Str} {D : Po}
theorem e_addI {Q : List Sl → Sl → Prop} (h : E S Γ a fun Γ1 s1 => E S Γ1 b fun Γ2 s2 => ∃ i j : Int, s1 = .dat (.int i) ∧ s2 = .dat (.int j) ∧ Q Γ2 (.dat (.int (i + j)))) : E S Γ (.BinOp a .Add b pos) Q :=
  e_bin bd_add (E.mono h fun Γ1 s1 q => E.mono q fun Γ2 s2 ⟨i, j, e1, e2, q⟩ => ⟨_, _, e1, e2, _, ⟨i, j, rfl, rfl, rfl⟩, q⟩)
theorem e_subI {Q : List Sl → Sl → Prop} (h : E S Γ a fun Γ1 s1 => E S Γ1 b fun Γ2 s2 => ∃ i j : Int, s1 = .dat (.int i) ∧ s2 = .dat (.int j) ∧ Q Γ2 (.dat (.int (i - j)))) : E S Γ (.BinOp a .Sub b pos) Q :=
  e_bin bd_sub (E.mono h fun Γ1 s1 q => E.mono q fun Γ2 s2 ⟨i, j, e1, e2, q⟩ => ⟨_, _, e1, e2, _, ⟨i, j, rfl, rfl, rfl⟩, q⟩)
theorem e_mulI {Q : List Sl → Sl → Prop} (h : E S Γ a fun Γ1 s1 => E S Γ1 b fun Γ2 s2 => ∃ i j : Int, s1 = .dat (.int i) ∧ s2 = .dat (.int j) ∧ CMul i j ∧ Q Γ2 (.dat (.int (i * j)))) : E S Γ (.BinOp a .Mult b pos) Q :=
  e_bin bd_mul (E.mono h fun Γ1 s1 q => E.mono q fun Γ2 s2 ⟨i, j, e1, e2, hm, q⟩ => ⟨_, _, e1, e2, _, ⟨i, j, rfl, rfl, hm, rfl⟩, q⟩)
theorem e_modI {Q : List Sl → Sl → Prop} (h : E S Γ a fun Γ1 s1 => E S Γ1 b fun Γ2 s2 => ∃ i j : Int, s1 = .dat (.int i) ∧ s2 = .dat (.int j) ∧ 0 < j ∧ Q Γ2 (.dat (.int (i % j)))) : E S Γ (.BinOp a .Mod b pos) Q :=
  e_bin bd_mod (E.mono h fun Γ1 s1 q => E.mono q fun Γ2 s2 ⟨i, j, e1, e2, hm, q⟩ => ⟨_, _, e1, e2, _, ⟨i, j, rfl, rfl, hm, rfl⟩, q⟩)
theorem e_divI {Q : List Sl → Sl → Prop} (h : E S Γ a fun Γ1 s1 => E S Γ1 b fun Γ2 s2 => ∃ i j : Int, s1 = .dat (.int i) ∧ s2 = .dat (.int j) ∧ CDiv i j ∧ Q Γ2 (.dat (.int (i / j)))) : E S Γ (.BinOp a .FloorDiv b pos) Q :=
  e_bin bd_fdiv (E.mono h fun Γ1 s1 q => E.mono q fun Γ2 s2 ⟨i, j, e1, e2, hm, q⟩ => ⟨_, _, e1, e2, _, ⟨i, j, rfl, rfl, hm, rfl⟩, q⟩)
/-- int(e) of an int -/
theorem e_intI {Q : List Sl → Sl → Prop} (hm : S.M.mg "int" = none) (h : E S Γ e fun Γ' s => ∃ i : Int, s = .dat (.int i) ∧ Q Γ' (.dat (.int i))) (hst : noStar e = true := by rfl) (hs : S.sc.names.lookup ("int" : Str) = some .globalImplicit := by rfl) : E S Γ (.Call (.Name "int" p) [e] [] pos) Q := by
  refine e_bty bl_int (ea_cons (E.mono h fun Γ' s ⟨i, e1, q⟩ => ?_) hst) hs hm (by decide +kernel) (hst := by show (noStar e && true) = true; rw [hst]; rfl)
  subst e1
  exact ea_nil ⟨_, .inl ⟨i, rfl, rfl⟩, q⟩
theorem e_intB {Q : List Sl → Sl → Prop} (hm : S.M.mg "int" = none) (h : E S Γ e fun Γ' s => ∃ t : Bool, s = .dat (.bool t) ∧ Q Γ' (.dat (.int (if t = true then 1 else 0)))) (hst : noStar e = true := by rfl) (hs : S.sc.names.lookup ("int" : Str) = some .globalImplicit := by rfl) : E S Γ (.Call (.Name "int" p) [e] [] pos) Q := by
  refine e_bty bl_int (ea_cons (E.mono h fun Γ' s ⟨i, e1, q⟩ => ?_) hst) hs hm (by decide +kernel) (hst := by show (noStar e && true) = true; rw [hst]; rfl)
  subst e1
  exact ea_nil ⟨_, .inr ⟨i, rfl, rfl⟩, q⟩
/-- len(e) of a list or tuple -/
theorem e_len {Q : List Sl → Sl → Prop} (hm : S.M.mg "len" = none) (h : E S Γ e fun Γ' s => ∃ d ds, s = .dat d ∧ itemsOf d = some ds ∧ Q Γ' (.dat (.int (ds.length : Nat)))) (hst : noStar e = true := by rfl) (hs : S.sc.names.lookup ("len" : Str) = some .globalImplicit := by rfl) : E S Γ (.Call (.Name "len" p) [e] [] pos) Q := by
  refine e_blt bl_len (ea_cons (E.mono h fun Γ' s ⟨d, ds, e1, hi, q⟩ => ?_) hst) hs hm (by decide +kernel) (hst := by show (noStar e && true) = true; rw [hst]; rfl)
  subst e1
  exact ea_nil ⟨_, ⟨_, _, rfl, hi, rfl⟩, q⟩
theorem atI_mem {α : Type} {xs : List α} {n : Int} (h0 : 0 ≤ n) (h1 : n < (xs.length : Nat)) : ∃ v, atI xs n = some v ∧ v ∈ xs := by
  obtain ⟨k, e⟩ := Int.eq_ofNat_of_zero_le h0
  subst e
  have hlt : k < xs.length := by omega
  exact ⟨xs[k], atI_nat (List.getElem?_eq_getElem hlt), List.getElem_mem hlt⟩
theorem snoc_ind {α : Type} {P : List α → Prop} (h0 : P []) (h1 : ∀ l x, P l → P (l ++ [x])) (l : List α) : P l := by
  have h : ∀ m : List α, P m.reverse := fun m => by
    induction m with
    | nil => exact h0
    | cons x m ih => rw [List.reverse_cons]; exact h1 _ x ih
  have := h l.reverse
  rw [List.reverse_reverse] at this
  exact this
/-! ### functions of w and of data -/
/-- w first, data behind it -/
def RW (r : List PyData → (Sl → Prop) → Prop) : FR := fun ss Qd => ∃ a ds, ss = wS a :: ds.map Sl.dat ∧ r ds fun s => Qd (wS a :: ds.map fun _ => Sl.un) s
theorem finS_own {a : Addr} {R R'} : finS (.own a R) (.own a R') = .own a R' := by unfold finS; exact if_pos rfl
theorem fin_dats : ∀ (ds : List PyData) (Γ : List Sl), ds.length ≤ Γ.length → fin (ds.map Sl.dat) Γ = ds.map fun _ => Sl.un
  | [], Γ, _ => by cases Γ <;> rfl
  | d :: ds, [], h => by simp at h
  | d :: ds, g :: Γ, h => by
    show finS (.dat d) g :: fin (ds.map Sl.dat) Γ = Sl.un :: ds.map fun _ => Sl.un
    rw [fin_dats ds Γ (by simpa using h)]
    cases g <;> rfl
theorem fn_W {M : Mdl} {x qual : Str} {st : Stmt} {f : Addr} {fd : FuncData} {N ps : List Str} {k : Nat} {r : List PyData → (Sl → Prop) → Prop} (Fd : Fun M.K x qual st f fd) (hm : M.mg x = some (.ref f)) (hb : Binds M.K fd ps []) (Sc : FnScope N ps (defScope st))
    (body : ∀ a ds q, r ds q → ds.length + 1 = ps.length → B (St0 M N st k) ((wS a :: ds.map Sl.dat) ++ List.replicate (N.length - ps.length) .un) (defBody st) { nx := fun Γ' => Γ'[0]? = some (wS a) ∧ q (.dat .none), rt := fun Γ' s => Γ'[0]? = some (wS a) ∧ q s }) : Fnc M x (k + 1) ps.length (RW r) := by
  refine fn_ok Fd hm hb Sc fun ss Qd ⟨a, ds, e, h⟩ hl => ?_
  subst e
  have hpl : ps.length ≤ N.length := by
    have := congrArg List.length Sc.pre
    rw [List.length_take] at this
    omega
  have hl' : ds.length + 1 = ps.length := by simpa using hl
  have hf : ∀ Γ : List Sl, N.length = Γ.length → Γ[0]? = some (wS a) → fin (wS a :: ds.map Sl.dat) Γ = wS a :: ds.map fun _ => Sl.un := fun Γ hΓ h0 => by
    cases Γ with
    | nil => cases h0
    | cons g Γ =>
      cases h0
      show finS (wS a) (wS a) :: fin (ds.map Sl.dat) Γ = _
      rw [finS_own, fin_dats ds Γ (by rw [List.length_cons] at hΓ; omega)]
  refine (body a ds _ h hl').mono (fun Γ ⟨h0, q⟩ hn => ?_) (fun Γ s ⟨h0, q⟩ hn => ?_) (fun _ q => q) fun _ q => q
  · rw [hf Γ hn h0]; exact q
  · rw [hf Γ hn h0]; exact q
/-- a call that is lent w -/
theorem e_callW {Q : List Sl → Sl → Prop} {k n : Nat} {r : List PyData → (Sl → Prop) → Prop} (hf : Fnc S.M x k n (RW r)) (h : EA S Γ (e :: es) fun Γ' ss => BorDats ss fun a ds => ∃ i : Nat, Γ'[i]? = some (wS a) ∧ r ds fun s => Q Γ' s) (hn : (e :: es).length = n := by rfl)
    (hk : k ≤ S.k := by first | decide | (dsimp only [DL.St0, DL.Stc.blk]; decide) | exact Nat.le_refl _) (hs : S.sc.names.lookup x = some .globalImplicit := by rfl) (hdb : (x == ("__debug__" : Str)) = false := by decide) (hst : ((e :: es).all noStar) = true := by rfl) :
    E S Γ (.Call (.Name x p) (e :: es) [] pos) Q := by
  refine e_callO hf (EA.mono h fun Γ' ss q => ?_) hn hk hs hdb hst
  match ss, q with
  | .bor a :: ss, q =>
    obtain ⟨ds, e1, i, hi, q2⟩ := Dats.out (ss := ss) q
    subst e1
    have dats : ∀ (ds : List PyData) {Q : List PyData → Prop}, Q ds → Dats (ds.map Sl.dat) Q := by
      intro ds
      induction ds with
      | nil => exact fun h => h
      | cons d ds ih => exact fun h => ih h
    refine dats ds ⟨i, isW a, hi, a, ds, rfl, ?_⟩
    have : (fun s => ∃ R' tl, (wS a :: ds.map fun _ => Sl.un) = Sl.own a R' :: tl ∧ Q (Γ'.set i (.own a R')) s) = fun s => Q Γ' s := by
      funext s
      refine propext ⟨fun ⟨R', tl, e, q⟩ => ?_, fun q => ⟨isW a, _, rfl, ?_⟩⟩
      · cases e
        rw [set_same hi] at q
        exact q
      · rw [set_same hi]; exact q
    rw [this]
    exact q2
/-! ### what the law draws -/
def rNext : List PyData → (Sl → Prop) → Prop := fun ds q => ∃ m, ds = [.int m] ∧ 0 < m ∧ ∀ n : Int, 0 ≤ n → n < m → q (.dat (.int n))
/-- some member of a list that is not empty -/
def rPick : List PyData → (Sl → Prop) → Prop := fun ds q => ∃ xs, ds = [.list xs] ∧ 0 < xs.length ∧ ∀ d ∈ xs, q (.dat d)
/-- the list of drawn numbers -/
def RDraws : FR := fun ss Qd => ∃ a ns many, ss = [scrS a ns, .dat (.int ((many : Nat) : Int))] ∧ ns.length ≤ 1000 ∧ many ≤ 1000 ∧ ∀ l (ds : List Int), (∀ x ∈ ds, 0 ≤ x ∧ x < 997) → Qd [scrS a ns, .un] (lst l (ds.map .int))
end
end DL
namespace DL
open PySem PySem.Spec PyProof.Rows L2
/-! ### what the top has written -/
/-- a def of the top stands in the written part -/
def IsDef (K : PySem.W.Frag) (x : Str) (st : Stmt) : Prop := ∃ (f : Addr) (oc : Value) (od : Option Addr) (osl : Array (Option Value)) (kV doc pm : Value) (an : Option Addr) (cdv ct : Value),
  PySem.W.nsIn K mainGlobals x = some (some (.ref f)) ∧ K.lookup f = some ⟨oc, od, .func (PySem.W.fnOf x x (defArgs st) (defBody st) (defScope st) .none kV doc pm an cdv ct), osl⟩ ∧ PySem.W.codeIn K cdv x = true ∧ PySem.W.keepIn K (.ref f) = true
theorem IsDef.make {K : PySem.W.Frag} {x : Str} {st : Stmt} {f : Addr} {oc : Value} {od : Option Addr} {osl : Array (Option Value)} {kV doc pm : Value} {an : Option Addr} {cdv ct : Value}
    (a : PySem.W.nsIn K mainGlobals x = some (some (.ref f))) (l : K.lookup f = some ⟨oc, od, .func (PySem.W.fnOf x x (defArgs st) (defBody st) (defScope st) .none kV doc pm an cdv ct), osl⟩) (c : PySem.W.codeIn K cdv x = true) (k : PySem.W.keepIn K (.ref f) = true) : IsDef K x st :=
  ⟨f, oc, od, osl, kV, doc, pm, an, cdv, ct, a, l, c, k⟩
def BindOk (x : Str) (st : Stmt) (ps : List Str) : Prop := ∀ (kV doc pm : Value) (an : Option Addr) (cdv ct : Value) (us : List Value), us.length = ps.length → bindArgs (PySem.W.fnOf x x (defArgs st) (defBody st) (defScope st) .none kV doc pm an cdv ct) ⟨us, []⟩ = pure (ps.zip us)
theorem IsDef.use {K : PySem.W.Frag} {x : Str} {st : Stmt} {h : Heap} {mg : Str → Option Value} {ps : List Str} (d : IsDef K x st) (X : K.In h) (G : h.Ns mainGlobals mg) (b : BindOk x st ps) : ∃ f fd, Fun K x x st f fd ∧ mg x = some (.ref f) ∧ Binds K fd ps [] := by
  obtain ⟨f, oc, od, osl, kV, doc, pm, an, cdv, ct, h1, h2, h3, h4⟩ := d
  have F := fun_mk h2 h3 h4
  exact ⟨f, _, F, PySem.W.mg_of X G h1, F.binds b⟩
/-- the law itself, called with the script -/
theorem law_end {R : FR} {K : PySem.W.Frag} (hR : ∀ (a : Addr) (ns : List Int) (Qd : List Sl → Sl → Prop), ns.length ≤ 1000 → (∀ ss, Qd ss (.dat (.bool true))) → R [scrS a ns] Qd) {n : Nat} (hn : n ≤ 1000)
    (H : Hp) (a : Addr) (ns : List Int) (hl : ns.length ≤ n) (hS : SqL K H a (ns.map V.int)) : spG K 1 R [.ref a] H (fun v _ => v = .bl true) fun _ _ _ => False := by
  refine ⟨_, _, [scrS a ns], fun _ s => s = .dat (.bool true), rfl, rfl, scr_start hS, hR a ns _ (Nat.le_trans hl hn) fun _ => rfl, fun ss' s v H' e _ ok => ?_⟩
  subst e
  obtain ⟨w, e, hw⟩ := ok.dat
  cases e
  cases hw with
  | bl => rfl
end DL
namespace DL
open PySem L2
/-! ### what is read of a list that a slot owns -/
/-- s is seen as d now -/
def Vw (Γ : List Sl) (s : Sl) (d : PyData) : Prop := s = .dat d ∨ (∃ (l : Addr) (i : Nat) (ds : List PyData), s = .bor l ∧ Γ[i]? = some (lst l ds) ∧ d = .list ds) ∨ ∃ (l : Addr) (ds : List PyData), s = lst l ds ∧ d = .list ds
theorem Vw.dat {Γ : List Sl} {d : PyData} : Vw Γ (.dat d) d := .inl rfl
theorem Vw.bor {Γ : List Sl} {l : Addr} (i : Nat) {ds : List PyData} (h : Γ[i]? = some (lst l ds)) : Vw Γ (.bor l) (.list ds) := .inr (.inl ⟨l, i, ds, rfl, h, rfl⟩)
theorem Vw.own {Γ : List Sl} {l : Addr} {ds : List PyData} : Vw Γ (lst l ds) (.list ds) := .inr (.inr ⟨l, ds, rfl, rfl⟩)
section
variable {S : Stc} {Γ : List Sl} {a b e o ix : Expr} {pos p p2 apos : Pos} {D : Po}
theorem borV {K : PySem.W.Frag} {F G H : Hp} {A : Asn} {l : Addr} {v : Option V} (h : Ok K F G ((.bor l, v) :: A) H) : v = some (.ref l) := by
  obtain ⟨Hb, fp, _, _, _, h4, _⟩ := h
  cases h4 with
  | cons q t => cases q; rfl
theorem Vw.see {X : Cx} {F G H : Hp} {A : Asn} {Γ : List Sl} {σ : St} {s : Sl} {d : PyData} {v : V} (h : Vw Γ s d) (hl : σ.length = Γ.length) (ok : Ok X.K F G ((s, some v) :: (A ++ Γ.zip σ)) H) : Dq X.K H v d := by
  rcases h with e | ⟨l, i, ds, e, hi, ed⟩ | ⟨l, ds, e, ed⟩
  · subst e
    obtain ⟨w, e, hw⟩ := ok.dat
    cases e
    exact hw
  · subst e ed
    have := borV ok
    cases this
    obtain ⟨us, hH, _, hda⟩ := own_at hl hi ok.tail
    exact .lst hH hda
  · subst e ed
    obtain ⟨ev, us, hH, _, hda, _⟩ := ok.lst
    cases ev
    exact .lst hH hda
theorem E.see2 {Q : List Sl → PyData → PyData → Prop} (ha : E S Γ a fun Γ1 s1 => E S Γ1 b fun Γ2 s2 => ∃ d1 d2, Vw Γ2 s1 d1 ∧ Vw Γ2 s2 d2 ∧ Q Γ2 d1 d2) {X : Cx} (hX : S.Ok X) {F G : Hp} {A : Asn} {σ : St} {H : Hp} (hl : σ.length = Γ.length) (ok : Ok X.K F G (A ++ Γ.zip σ) H) {R : V → V → Hp → Prop}
    (k : ∀ Γ2 d1 d2 v1 v2 H2, Q Γ2 d1 d2 → σ.length = Γ2.length → Dq X.K H2 v1 d1 → Dq X.K H2 v2 d2 → Ok X.K F G (A ++ Γ2.zip σ) H2 → R v1 v2 H2) : WE X a σ H fun v1 H1 => WE X b σ H1 fun v2 H2 => R v1 v2 H2 :=
  E.two ha hX hl ok fun Γ2 s1 s2 v1 v2 H2 ⟨d1, d2, h1, h2, q⟩ hl2 ok2 => by
    have o1 : Ok X.K F G ((s1, some v1) :: ((s2, some v2) :: A ++ Γ2.zip σ)) H2 := ok2.perm (List.Perm.swap _ _ _)
    exact k Γ2 d1 d2 v1 v2 H2 q hl2 (h1.see (A := (s2, some v2) :: A) hl2 o1) (h2.see (A := (s1, some v1) :: A) hl2 ok2) ok2.tail.tail
theorem t_cmpV {Q : List Sl → Bool → Prop} {op : CmpOp} {r2} (hc : CmpD S (compareOp op) r2) (hm : behindInMarks op b = false := by rfl) (h : E S Γ a fun Γ1 s1 => E S Γ1 b fun Γ2 s2 => ∃ d1 d2, Vw Γ2 s1 d1 ∧ Vw Γ2 s2 d2 ∧ ∃ t, r2 d1 d2 t ∧ Q Γ2 t) : T S Γ (.Compare a [op] [b] pos) Q := by
  intro X hX F G A σ H hl ok Q' k
  obtain ⟨r, hr, hq⟩ := hc X hX
  refine WT.of (pt_cmpR hr WE.pe WE.pe hm) (E.see2 h hX hl ok fun Γ2 d1 d2 v1 v2 H2 ⟨t, q1, q2⟩ hl2 hd1 hd2 ok2 => ?_)
  exact hq H2 v1 v2 d1 d2 t _ hd1 hd2 q1 ⟨t, rfl, k Γ2 t H2 q2 hl2 ok2⟩
theorem e_cmpV {Q : List Sl → Sl → Prop} {op : CmpOp} {r2} (hc : CmpD S (compareOp op) r2) (hm : behindInMarks op b = false := by rfl) (h : E S Γ a fun Γ1 s1 => E S Γ1 b fun Γ2 s2 => ∃ d1 d2, Vw Γ2 s1 d1 ∧ Vw Γ2 s2 d2 ∧ ∃ t, r2 d1 d2 t ∧ Q Γ2 (.dat (.bool t))) : E S Γ (.Compare a [op] [b] pos) Q := by
  intro X hX F G A σ H hl ok Q' k
  obtain ⟨r, hr, hq⟩ := hc X hX
  refine WE.of (pe_cmpR hr WE.pe WE.pe hm) (E.see2 h hX hl ok fun Γ2 d1 d2 v1 v2 H2 ⟨t, q1, q2⟩ hl2 hd1 hd2 ok2 => ?_)
  exact hq H2 v1 v2 d1 d2 t Q' hd1 hd2 q1 (k Γ2 _ _ H2 q2 hl2 (ok2.push fun _ => .bl _))
/-- -e -/
theorem e_neg {Q : List Sl → Sl → Prop} (h : E S Γ a fun Γ' s => ∃ i : Int, s = .dat (.int i) ∧ Q Γ' (.dat (.int (-i)))) : E S Γ (.UnaryOp .USub a pos) Q := by
  intro X hX F G A σ H hl ok Q' k
  refine WE.of (pe_un un_neg WE.pe) ?_
  refine h X hX F G A σ H hl ok _ fun Γ' s v H' ⟨i, e, q⟩ hl' ok' => ?_
  subst e
  obtain ⟨w, e, hw⟩ := ok'.dat
  cases e
  exact ⟨i, hw.flat_int, k Γ' _ _ H' q hl' (ok'.tail.push fun _ => .int _)⟩
theorem Ok.peek {K : PySem.W.Frag} {F G H : Hp} {A : Asn} {l : Addr} {ds : List PyData} {v : Option V} {us : List V} (h : Ok K F G ((DL.lst l ds, v) :: A) H) (hu : H l = some (.lst us)) {j : Nat} {d : PyData} {w : V} (hd : ds[j]? = some d) (hw : us[j]? = some w) : Ok K F G ((.dat d, some w) :: (DL.lst l ds, v) :: A) H := by
  obtain ⟨Hb, fp, h1, h2, h3, h4, h5, h6⟩ := h
  have h4' := h4
  cases h4 with
  | cons q t =>
    cases q with
    | own m r =>
      obtain ⟨vs, e, hda⟩ := r
      subst e
      have hl := (h5 (l, .lst vs) List.mem_cons_self).2.2
      rw [hu] at hl
      cases hl
      obtain ⟨w', z1, z2⟩ := DqAll.get hda hd
      rw [hw] at z1
      cases z1
      exact ⟨Hb, _, h1, h2, h3, .cons (f := []) (.dat z2) h4', h5, h6⟩
/-- xs[i] of a list that a slot owns -/
theorem e_ixO {Q : List Sl → Sl → Prop} (h : E S Γ a fun Γ1 s1 => E S Γ1 b fun Γ2 s2 => ∃ (l : Addr) (i : Nat) (ds : List PyData) (k : Int) (d : PyData), s1 = .bor l ∧ s2 = .dat (.int k) ∧ Γ2[i]? = some (lst l ds) ∧ atI ds k = some d ∧ Q Γ2 (.dat d)) (hs : PlainIx b := by intro _ _; rfl) : E S Γ (.Subscript a b pos) Q := by
  intro X hX F G A σ H hl ok Q' k
  refine WE.of (pe_ix ix_list WE.pe WE.pe hs) (E.two h hX hl ok fun Γ2 s1 s2 v1 v2 H2 ⟨l, i, ds, n, d, e1, e2, hi, hd, q⟩ hl2 ok2 => ?_)
  subst e1 e2
  obtain ⟨w2, e2, hw2⟩ := ok2.dat
  cases e2
  have hv := borV ok2.tail
  cases hv
  have ok3 := ok2.tail.tail
  obtain ⟨us, hH, hlen, hda⟩ := own_at hl2 hi ok3
  obtain ⟨v, g1, j, g2, g3⟩ := ix_atI hda hd
  obtain ⟨w, h1, h2, h3⟩ := ok3.at hl2 hi
  refine ⟨l, us, n, v, rfl, hw2.flat_int, SqL.of hH, g1, k Γ2 _ v H2 q hl2 ?_⟩
  exact Ok.back (B := [(.dat d, some v)]) (Ok.peek h3 hH g2 g3) h2
/-- xs[i] = e, a slot owns xs -/
theorem b_setIx {tpos : Pos} (h : E S Γ e fun Γ1 s => E S Γ1 o fun Γ2 s0 => E S Γ2 ix fun Γ3 s3 => ∃ (d : PyData) (l : Addr) (k : Int) (j sl : Nat) (ds : List PyData), s = .dat d ∧ s0 = .bor l ∧ s3 = .dat (.int k) ∧ Γ3[sl]? = some (lst l ds) ∧ ixN ds.length k = some j ∧ D.nx (Γ3.set sl (lst l (ds.set j d))))
    (hs : ∀ env, swapsWithSole [.Subscript o ix tpos] e pos.line env = pure false := by intro _; rfl) (hw : ∀ env, swappedStores [.Subscript o ix tpos] e env = pure none := by intro _; rfl)
    (hA : ∀ (env : Env) v, assign (.Subscript o ix tpos) env v = (do
      let ov ← holding [v] (eval o env)
      let iv ← holding [v, ov] (eval ix env)
      standAt tpos
      holding [v, ov, iv] (setItem ov iv v)
      release [v, ov, iv] []) := by intro _ _; rfl) : B1 S Γ (.Assign [.Subscript o ix tpos] e pos) D := by
  intro X hX F G A σ H hl ok D' hD
  refine WS.of (ps_asg WE.pe (pg_sub WE.pe WE.pe set_list (hA X.env)) (hs _) (hw _) (by rfl)) ?_
  refine h X hX F G A σ H hl ok _ fun Γ1 s v H1 p1 hl1 ok1 => ?_
  refine p1 X hX F G ((s, some v) :: A) σ H1 hl1 ok1 _ fun Γ2 s0 v0 H2 p2 hl2 ok2 => ?_
  refine p2 X hX F G ((s0, some v0) :: (s, some v) :: A) σ H2 hl2 ok2 _ fun Γ3 s3 v3 H3 ⟨d, l, k, j, sl, ds, e1, e2, e3, hi, hj, p3⟩ hl3 ok3 => ?_
  subst e1 e2 e3
  obtain ⟨w3, e, hw3⟩ := ok3.dat
  cases e
  have hv := borV ok3.tail
  cases hv
  have ok4 : Ok X.K F G ([(.dat d, some v)] ++ (A ++ Γ3.zip σ)) H3 := ok3.tail.tail
  obtain ⟨us, hH, hlen, hda⟩ := own_at hl3 hi ok3.tail.tail.tail
  refine ⟨l, us, k, j, rfl, hw3.flat_int, hH, by rw [hlen]; exact hj, ?_⟩
  refine hD.nx _ _ _ p3 rfl (by simp [hl3]) (own_put hl3 hi ok4 hH fun Hb fp _ hB hh => ?_)
  cases hB with
  | cons q t => cases q with | dat q => exact DqAll.set q j hh
end
end DL
namespace DL
open PySem L2
section
variable {S : Stc} {Γ : List Sl} {a b c e tg it elt : Expr} {ifs : List Expr} {pos : Pos} {D : Po}
/-- x = [..] where x is no plain local name -/
theorem b_setE (i : Nat) {x : Str} {p : Pos} (h : E S Γ e fun Γ' s => D.nx (Γ'.set i s)) (hN : S.N[i]? = some x := by rfl) (hx : Loc S.sc x := by first | exact Or.inl rfl | exact Or.inr rfl)
    (hf : S.fn x = true ∨ S.sc.names.lookup x = some .local := by first | exact Or.inl rfl | exact Or.inr rfl) (hs : ∀ env : Env, env.scope = S.sc → swapsWith e (some (.Name x p)) pos.line env = pure false := by intro env he; cases env; cases he; rfl) : B1 S Γ (.Assign [.Name x p] e pos) D := by
  intro X hX F G A σ H hl ok D' hD
  refine WS.of (ps_set (i := i) hX.nd (by rw [hX.N]; exact hN) (by rw [hX.sc]; exact hx) WE.pe (hs _ hX.sc) (by rw [hX.fn, hX.sc]; exact hf)) ?_
  exact h X hX F G A σ H hl ok _ fun Γ' s v H' q hl' ok' => hD.nx _ _ H' q (by simp) (by simp [hl']) ok'.set
theorem b_asgE {t : Tg} (ht : TgOk S tg t) (h : E S Γ e fun Γ' s => ∃ d, s = .dat d ∧ t.put d Γ' D.nx) (hs : ∀ env, swapsWithSole [tg] e pos.line env = pure false := by intro _; rfl) (hw : ∀ env : Env, env.scope = S.sc → swappedStores [tg] e env = pure none := by intro env he; cases env; cases he; rfl) : B1 S Γ (.Assign [tg] e pos) D := by
  intro X hX F G A σ H hl ok D' hD
  refine WS.of (ps_asg WE.pe (TgOk.pg hX ht) (hs _) (hw _ hX.sc) (by rw [assignEach_cons ht.ns]; rfl)) ?_
  refine h X hX F G A σ H hl ok _ fun Γ' s v H' ⟨d, e1, q⟩ hl' ok' => ?_
  subst e1
  exact Tg.run t q hl' ok' fun Γ2 σ2 q2 l1 l2 _ ok2 => hD.nx Γ2 σ2 H' q2 l1 l2 ok2
/-- x, y, z = a, b, c -/
theorem b_par3 (i j l : Nat) {x y z : Str} {px py pz pt pt2 : Pos} {kt k2} (h : E S Γ a fun Γ1 s1 => E S Γ1 b fun Γ2 s2 => E S Γ2 c fun Γ3 s3 => D.nx (((Γ3.set i s1).set j s2).set l s3)) (hij : i ≠ j := by decide) (hil : i ≠ l := by decide) (hjl : j ≠ l := by decide)
    (hi : S.N[i]? = some x := by rfl) (hj : S.N[j]? = some y := by rfl) (hl : S.N[l]? = some z := by rfl) (hx : S.sc.names.lookup x = some .local := by rfl) (hy : S.sc.names.lookup y = some .local := by rfl) (hz : S.sc.names.lookup z = some .local := by rfl)
    (na : noStar a = true := by rfl) (nb : noStar b = true := by rfl) (nc : noStar c = true := by rfl)
    (hw : ∀ env : Env, env.scope = S.sc → swappedStores [.Tuple [.Name x px, .Name y py, .Name z pz] kt pt] (.Tuple [a, b, c] k2 pt2) env = pure (some [x, y, z]) := by intro env he; cases env; cases he; rfl)
    (hs : ∀ env, swapsWithSole [.Tuple [.Name x px, .Name y py, .Name z pz] kt pt] (.Tuple [a, b, c] k2 pt2) pos.line env = pure false := by intro _; rfl) : B1 S Γ (.Assign [.Tuple [.Name x px, .Name y py, .Name z pz] kt pt] (.Tuple [a, b, c] k2 pt2) pos) D := by
  intro X hX F G A σ H hsl ok D' hD
  refine WS.of (ps_par3 (i := i) (j := j) (l := l) hX.calm hX.nd (by rw [hX.N]; exact hi) (by rw [hX.N]; exact hj) (by rw [hX.N]; exact hl) hij hil hjl (by rw [hX.sc]; exact hx) (by rw [hX.sc]; exact hy) (by rw [hX.sc]; exact hz) WA.pa (hw _ hX.sc) (hs _)) ?_
  have hA : EA S Γ [a, b, c] fun Γ3 ss => ∃ s1 s2 s3, ss = [s1, s2, s3] ∧ D.nx (((Γ3.set i s1).set j s2).set l s3) := ea_cons (E.mono h fun Γ1 s1 q => ea_cons (E.mono q fun Γ2 s2 q2 => ea_cons (E.mono q2 fun Γ3 s3 q3 => ⟨s1, s2, s3, rfl, q3⟩) nc) nb) na
  refine EA.run hX _ hA hsl ok fun Γ3 ss vs H2 ⟨s1, s2, s3, e1, q⟩ hl2 hss _ ok2 => ?_
  subst e1
  obtain ⟨v1, v2, v3, rfl⟩ : ∃ v1 v2 v3, vs = [v1, v2, v3] := by
    match vs, hss with
    | [v1, v2, v3], _ => exact ⟨v1, v2, v3, rfl⟩
  refine ⟨v1, v2, v3, rfl, ?_⟩
  have z1 : Ok X.K F G ((s1, some v1) :: (((s2, some v2) :: (s3, some v3) :: A) ++ Γ3.zip σ)) H2 := ok2
  have z2 : Ok X.K F G ((s2, some v2) :: (((s3, some v3) :: A) ++ (Γ3.set i s1).zip (σ.set i (some v1)))) H2 := z1.set
  have z3 : Ok X.K F G ((s3, some v3) :: (A ++ ((Γ3.set i s1).set j s2).zip ((σ.set i (some v1)).set j (some v2)))) H2 := z2.set
  exact hD.nx _ _ H2 q (by simp) (by simp [hl2]) z3.set
/-- a comprehension over typed members, what is known a relation -/
theorem e_lcI {α : Type} {scope : Scope} (own : List (Str × Nat)) {t : Tg} {Q : List Sl → Sl → Prop} (enc : α → PyData) (ht : TgOk (S.blk scope) tg t)
    (h : IJ S Γ tg it fun Γ1 ds => ∃ (zs : List α) (I : List α → List PyData → List Sl → Prop), ds = zs.map enc ∧ I [] [] Γ1 ∧
      (∀ pre z post acc Γ', zs = pre ++ z :: post → I pre acc Γ' → t.put (enc z) (wipeG Γ' (own.map (·.2))) fun Γ2 => Ts (S.blk scope) Γ2 ifs fun Γ3 k =>
        if k = true then E (S.blk scope) Γ3 elt fun Γ4 s => ∃ y, s = .dat y ∧ acc.length < 1000000 ∧ I (pre ++ [z]) (acc ++ [y]) (restG Γ' (own.map (·.2)) Γ4) else I (pre ++ [z]) acc (restG Γ' (own.map (·.2)) Γ3)) ∧
      ∀ acc Γ', I zs acc Γ' → ∀ a, Q Γ' (lst a acc))
    (hb : blkC S.N S.sc scope own = true := by first | decide +kernel | (dsimp only [DL.St0, DL.Stc.blk]; decide +kernel)) (nd : (own.map (·.2)).Nodup := by decide) (hx : ∀ i ∈ t.ixs, i ∈ own.map (·.2) := by decide) (hifs : ifs = [] ∨ ∃ c, ifs = [c] := by first | exact .inl rfl | exact .inr ⟨_, rfl⟩)
    (hs : ∀ env x, foldedSetIterable it env x = pure x := by intro _ _; rfl) : E S Γ (.ListComp elt [⟨tg, it, ifs, 0⟩] scope pos) Q := by
  refine e_lc own ht (h.mono fun Γ1 ds ⟨zs, I, e, i0, turn, fin⟩ => ⟨fun i acc Γ' => I (zs.take i) acc Γ', i0, ?_, fun acc Γ' iv a => ?_⟩) hb nd hx hifs hs
  · intro i d acc Γ' hd iv
    subst e
    rw [List.getElem?_map] at hd
    cases e : zs[i]? with
    | none => rw [e] at hd; cases hd
    | some z =>
      rw [e] at hd
      cases hd
      obtain ⟨pre, post, hz, h1, h2⟩ := takes e
      dsimp only at iv ⊢
      rw [h1] at iv
      rw [h2]
      exact turn pre z post acc Γ' hz iv
  · subst e
    rw [List.length_map, List.take_length] at iv
    exact fin acc Γ' iv a
end
theorem ixN_end {n : Nat} (h : 0 < n) : ixN n (-1) = some (n - 1) := by
  unfold ixN
  rw [if_neg (by decide), if_pos (by omega)]
  congr 1
  omega
theorem atI_end {α : Type} {xs : List α} {x : α} (h : xs ≠ []) (e : xs.getLast h = x) : atI xs (-1) = some x := by
  have := atI_last xs.dropLast (xs.getLast h)
  rw [List.dropLast_concat_getLast, e] at this
  exact this
end DL
namespace DL
open PySem L2
/-- Γ' knows of each slot as much as Γ or nothing -/
inductive Wk : List Sl → List Sl → Prop
  | nil : Wk [] []
  | same {s Γ Γ'} : Wk Γ Γ' → Wk (s :: Γ) (s :: Γ')
  | un {s Γ Γ'} : Wk Γ Γ' → Wk (s :: Γ) (.un :: Γ')
theorem Wk.length {Γ Γ' : List Sl} (h : Wk Γ Γ') : Γ'.length = Γ.length := by
  induction h with
  | nil => rfl
  | same _ ih => rw [List.length_cons, List.length_cons, ih]
  | un _ ih => rw [List.length_cons, List.length_cons, ih]
theorem Wk.refl : ∀ Γ : List Sl, Wk Γ Γ
  | [] => .nil
  | _ :: Γ => .same (Wk.refl Γ)
section
variable {K : PySem.W.Frag} {F G H : Hp}
theorem Ok.wk {Γ Γ' : List Sl} (h : Wk Γ Γ') : ∀ {A : Asn} {σ : St}, σ.length = Γ.length → Ok K F G (A ++ Γ.zip σ) H → Ok K F G (A ++ Γ'.zip σ) H := by
  induction h with
  | nil => intro A σ _ ok; exact ok
  | @same s Γ Γ' _ ih =>
    intro A σ hl ok
    match σ, hl with
    | v :: σ, hl =>
      have e : A ++ (s :: Γ).zip (v :: σ) = (A ++ [(s, v)]) ++ Γ.zip σ := by simp
      rw [e] at ok
      have := ih (A := A ++ [(s, v)]) (by simpa using hl) ok
      have e2 : A ++ (s :: Γ').zip (v :: σ) = (A ++ [(s, v)]) ++ Γ'.zip σ := by simp
      rw [e2]; exact this
  | @un s Γ Γ' _ ih =>
    intro A σ hl ok
    match σ, hl with
    | v :: σ, hl =>
      have e : A ++ (s :: Γ).zip (v :: σ) = A ++ (s, v) :: Γ.zip σ := by simp
      rw [e] at ok
      have o1 : Ok K F G ((s, v) :: (A ++ Γ.zip σ)) H := ok.perm List.perm_middle
      have o2 : Ok K F G ((.un, v) :: (A ++ Γ.zip σ)) H := Ok.weak o1
      have o3 : Ok K F G ((A ++ [(.un, v)]) ++ Γ.zip σ) H := o2.perm (by
        have : (A ++ [(Sl.un, v)]) ++ Γ.zip σ = A ++ (Sl.un, v) :: Γ.zip σ := by simp
        rw [this]; exact List.perm_middle.symm)
      have := ih (A := A ++ [(.un, v)]) (by simpa using hl) o3
      have e2 : A ++ (.un :: Γ').zip (v :: σ) = (A ++ [(.un, v)]) ++ Γ'.zip σ := by simp
      rw [e2]; exact this
end
section
variable {S : Stc} {Γ : List Sl} {tg it : Expr} {body sts : List Stmt} {pos : Pos} {D : Po}
theorem B.wk {Γ' : List Sl} (h : B S Γ' sts D) (w : Wk Γ Γ') : B S Γ sts D := fun X hX F G A σ H hl ok D' hD =>
  h X hX F G A σ H (by rw [w.length]; exact hl) (Ok.wk w hl ok) D' hD
theorem B1.wk {Γ' : List Sl} {st : Stmt} (h : B1 S Γ' st D) (w : Wk Γ Γ') : B1 S Γ st D := fun X hX F G A σ H hl ok D' hD =>
  h X hX F G A σ H (by rw [w.length]; exact hl) (Ok.wk w hl ok) D' hD
/-- what stands behind may know less -/
theorem B.out {I J : List Sl → Prop} (h : B S Γ sts { D with nx := fun Γ' => ∃ Γ'', I Γ'' ∧ Wk Γ' Γ'', ct := fun Γ' => ∃ Γ'', J Γ'' ∧ Wk Γ' Γ'' }) : B S Γ sts { D with nx := I, ct := J } := fun X hX F G A σ H hl ok D' hD =>
  h X hX F G A σ H hl ok D' ⟨fun Γ' σ' H' ⟨Γ'', q, w⟩ l1 l2 o => hD.nx Γ'' σ' H' q l1 (by rw [w.length]; exact l2) (Ok.wk w (by rw [l1, l2]) o), hD.rt, hD.bk, fun Γ' σ' H' ⟨Γ'', q, w⟩ l1 l2 o => hD.ct Γ'' σ' H' q l1 (by rw [w.length]; exact l2) (Ok.wk w (by rw [l1, l2]) o)⟩
theorem ts_nil {Q : List Sl → Bool → Prop} (h : Q Γ true) : Ts S Γ [] Q := h
/-- a point in a block: from here on this is all that is known -/
theorem B.at {Γ' : List Sl} (h : B S Γ' sts D) (w : Wk Γ Γ') : B S Γ sts D := h.wk w
theorem b_forK {α : Type} (enc : α → PyData) {t : Tg} (ht : TgOk S tg t) (h : IJ S Γ tg it fun Γ1 ds => ∃ (zs : List α) (I : List α → List Sl → Prop), ds = zs.map enc ∧ (∃ Γ0, I [] Γ0 ∧ Wk Γ1 Γ0) ∧
      (∀ pre z post Γ', zs = pre ++ z :: post → I pre Γ' → t.put (enc z) Γ' fun Γ2 => B S Γ2 body { D with nx := fun Γ3 => ∃ Γ4, I (pre ++ [z]) Γ4 ∧ Wk Γ3 Γ4, ct := fun Γ3 => ∃ Γ4, I (pre ++ [z]) Γ4 ∧ Wk Γ3 Γ4, bk := D.nx }) ∧ ∀ Γ', I zs Γ' → D.nx Γ')
    (hs : ∀ env x, foldedSetIterable it env x = pure x := by intro _ _; rfl) : B1 S Γ (.For tg it body [] pos) D := by
  refine b_for ht (fun X hX F G A σ H hl ok Q' k => h X hX F G A σ H hl ok Q' fun Γ1 ds J R H' ⟨zs, I, e, ⟨Γ0, i0, w0⟩, turn, fin⟩ hl1 itd ok1 => ?_) hs
  refine k Γ0 ds J R H' ⟨fun i Γ' => I (zs.take i) Γ', i0, fun i d Γ' hd iv => ?_, fun Γ' iv => ?_⟩ (by rw [w0.length]; exact hl1) itd ?_
  · subst e
    rw [List.getElem?_map] at hd
    cases e : zs[i]? with
    | none => rw [e] at hd; cases hd
    | some z =>
      rw [e] at hd
      cases hd
      obtain ⟨pre, post, hz, h1, h2⟩ := takes e
      dsimp only at iv ⊢
      rw [h1] at iv
      rw [h2]
      exact Tg.put_mono t (turn pre z post Γ' hz iv) fun Γ2 q => B.out (D := { D with bk := D.nx }) (I := I (pre ++ [z])) (J := I (pre ++ [z])) q
  · subst e
    rw [List.length_map, List.take_length] at iv
    exact fin Γ' iv
  · rw [← List.append_assoc] at ok1 ⊢
    exact Ok.wk w0 hl1 ok1
end
end DL
namespace K61
open PySem L2 DL
def top (i : Nat) : Stmt := PySem.Challenge.pw_grantwarrant_k61_ranges_of_great_numbers.main.body.getD i (.Pass ⟨0, 0, 0, 0⟩)
abbrev s_set_of : Stmt := top 1
abbrev n_set_of : List Str := ["things"]
theorem sc_set_of : FnScope n_set_of ["things"] (defScope s_set_of) := ⟨rfl, rfl, rfl, by decide +kernel, rfl, by decide +kernel, by decide +kernel⟩
abbrev s_falls_under : Stmt := top 3
abbrev n_falls_under : List Str := ["ask", "spans", "number", "low", "high"]
theorem sc_falls_under : FnScope n_falls_under ["ask", "spans"] (defScope s_falls_under) := ⟨rfl, rfl, rfl, by decide +kernel, rfl, by decide +kernel, by decide +kernel⟩
abbrev s_place_of : Stmt := top 4
abbrev n_place_of : List Str := ["rules", "ask", "k"]
theorem sc_place_of : FnScope n_place_of ["rules", "ask"] (defScope s_place_of) := ⟨rfl, rfl, rfl, by decide +kernel, rfl, by decide +kernel, by decide +kernel⟩
abbrev s_range_told : Stmt := top 5
abbrev n_range_told : List Str := ["rules", "ask", "k"]
theorem sc_range_told : FnScope n_range_told ["rules", "ask"] (defScope s_range_told) := ⟨rfl, rfl, rfl, by decide +kernel, rfl, by decide +kernel, by decide +kernel⟩
abbrev s_cuts_of : Stmt := top 6
abbrev n_cuts_of : List Str := ["sizes", "rules", "field", "found", "_", "spans", "low", "high", "number"]
theorem sc_cuts_of : FnScope n_cuts_of ["sizes", "rules", "field"] (defScope s_cuts_of) := ⟨rfl, rfl, rfl, by decide +kernel, rfl, by decide +kernel, by decide +kernel⟩
abbrev s_blocks_of : Stmt := top 7
abbrev n_blocks_of : List Str := ["sizes", "rules", "found", "field", "cuts", "ends", "longer", "ask", "spans", "low", "end"]
theorem sc_blocks_of : FnScope n_blocks_of ["sizes", "rules"] (defScope s_blocks_of) := ⟨rfl, rfl, rfl, by decide +kernel, rfl, by decide +kernel, by decide +kernel⟩
abbrev s_first_differing : Stmt := top 8
abbrev n_first_differing : List Str := ["sizes", "one", "other", "ask", "_"]
theorem sc_first_differing : FnScope n_first_differing ["sizes", "one", "other"] (defScope s_first_differing) := ⟨rfl, rfl, rfl, by decide +kernel, rfl, by decide +kernel, by decide +kernel⟩
abbrev s_count_in : Stmt := top 9
abbrev n_count_in : List Str := ["spans", "found", "low", "high"]
theorem sc_count_in : FnScope n_count_in ["spans"] (defScope s_count_in) := ⟨rfl, rfl, rfl, by decide +kernel, rfl, by decide +kernel, by decide +kernel⟩
abbrev s_count_yes : Stmt := top 10
abbrev n_count_yes : List Str := ["sizes", "rules", "ask", "spans"]
theorem sc_count_yes : FnScope n_count_yes ["sizes", "rules"] (defScope s_count_yes) := ⟨rfl, rfl, rfl, by decide +kernel, rfl, by decide +kernel, by decide +kernel⟩
abbrev s_never_first : Stmt := top 11
abbrev n_never_first : List Str := ["sizes", "rules", "places", "ask", "_", "k"]
theorem sc_never_first : FnScope n_never_first ["sizes", "rules"] (defScope s_never_first) := ⟨rfl, rfl, rfl, by decide +kernel, rfl, by decide +kernel, by decide +kernel⟩
abbrev s_boxes_yes : Stmt := top 12
abbrev n_boxes_yes : List Str := ["sizes", "rules", "found", "ask", "spans"]
theorem sc_boxes_yes : FnScope n_boxes_yes ["sizes", "rules"] (defScope s_boxes_yes) := ⟨rfl, rfl, rfl, by decide +kernel, rfl, by decide +kernel, by decide +kernel⟩
abbrev s_is_next : Stmt := top 13
abbrev n_is_next : List Str := ["spans", "other"]
theorem sc_is_next : FnScope n_is_next ["spans", "other"] (defScope s_is_next) := ⟨rfl, rfl, rfl, by decide +kernel, rfl, by decide +kernel, by decide +kernel⟩
abbrev s_draws : Stmt := top 15
abbrev n_draws : List Str := ["script", "many", "draws", "mixed", "k", "cell", "rest", "turn"]
theorem sc_draws : FnScope n_draws ["script", "many"] (defScope s_draws) := ⟨rfl, rfl, rfl, by decide +kernel, rfl, by decide +kernel, by decide +kernel⟩
abbrev s_next : Stmt := top 16
abbrev n_next : List Str := ["w", "many"]
theorem sc_next : FnScope n_next ["w", "many"] (defScope s_next) := ⟨rfl, rfl, rfl, by decide +kernel, rfl, by decide +kernel, by decide +kernel⟩
abbrev s_pick : Stmt := top 17
abbrev n_pick : List Str := ["w", "rows"]
theorem sc_pick : FnScope n_pick ["w", "rows"] (defScope s_pick) := ⟨rfl, rfl, rfl, by decide +kernel, rfl, by decide +kernel, by decide +kernel⟩
abbrev s_says : Stmt := top 18
abbrev n_says : List Str := ["seen", "due"]
theorem sc_says : FnScope n_says ["seen", "due"] (defScope s_says) := ⟨rfl, rfl, rfl, by decide +kernel, rfl, by decide +kernel, by decide +kernel⟩
abbrev s_same : Stmt := top 19
abbrev n_same : List Str := ["seen", "due", "k"]
theorem sc_same : FnScope n_same ["seen", "due"] (defScope s_same) := ⟨rfl, rfl, rfl, by decide +kernel, rfl, by decide +kernel, by decide +kernel⟩
abbrev s_rules : Stmt := top 20
abbrev n_rules : List Str := ["w", "sizes", "found", "k", "spans", "size", "low"]
theorem sc_rules : FnScope n_rules ["w", "sizes"] (defScope s_rules) := ⟨rfl, rfl, rfl, by decide +kernel, rfl, by decide +kernel, by decide +kernel⟩
abbrev s_asks : Stmt := top 21
abbrev n_asks : List Str := ["sizes", "found", "size", "longer", "ask", "number"]
theorem sc_asks : FnScope n_asks ["sizes"] (defScope s_asks) := ⟨rfl, rfl, rfl, by decide +kernel, rfl, by decide +kernel, by decide +kernel⟩
abbrev s_place : Stmt := top 22
abbrev n_place : List Str := ["rules", "ask", "able", "k", "number", "span"]
theorem sc_place : FnScope n_place ["rules", "ask"] (defScope s_place) := ⟨rfl, rfl, rfl, by decide +kernel, rfl, by decide +kernel, by decide +kernel⟩
abbrev s_answer : Stmt := top 23
abbrev n_answer : List Str := ["rules", "ask", "k"]
theorem sc_answer : FnScope n_answer ["rules", "ask"] (defScope s_answer) := ⟨rfl, rfl, rfl, by decide +kernel, rfl, by decide +kernel, by decide +kernel⟩
abbrev s_sizes : Stmt := top 24
abbrev n_sizes : List Str := ["w"]
theorem sc_sizes : FnScope n_sizes ["w"] (defScope s_sizes) := ⟨rfl, rfl, rfl, by decide +kernel, rfl, by decide +kernel, by decide +kernel⟩
abbrev s_great : Stmt := top 25
abbrev n_great : List Str := ["rules", "by", "found", "word", "spans", "low", "high"]
theorem sc_great : FnScope n_great ["rules", "by"] (defScope s_great) := ⟨rfl, rfl, rfl, by decide +kernel, rfl, by decide +kernel, by decide +kernel⟩
abbrev s_law : Stmt := top 26
abbrev n_law : List Str := ["script", "w", "turn", "sizes", "by", "one", "other", "great", "first", "second", "yes", "unlike", "volume", "ask", "far", "size", "due", "firsts", "whole", "box", "inside", "low", "high", "number", "k"]
theorem sc_law : FnScope n_law ["script"] (defScope s_law) := ⟨rfl, rfl, rfl, by decide +kernel, rfl, by decide +kernel, by decide +kernel⟩
structure Bt (M : Mdl) : Prop where
  abs : M.mg "abs" = none
  all : M.mg "all" = none
  bool : M.mg "bool" = none
  int : M.mg "int" = none
  isinst : M.mg "isinstance" = none
  len : M.mg "len" = none
  range : M.mg "range" = none
  set : M.mg "set" = none
  sorted : M.mg "sorted" = none
  str : M.mg "str" = none
  sum : M.mg "sum" = none
  tuple : M.mg "tuple" = none
  zip : M.mg "zip" = none
abbrev Bt2 := Bt
abbrev Bt3 := Bt
end K61
namespace K61
open PySem L2 DL
/-! ### data -/
abbrev Span := Int × Int
abbrev eSpan (s : Span) : PyData := .tuple [.int s.1, .int s.2]
abbrev eAsk (a : List Int) : PyData := .tuple (a.map .int)
abbrev eSpans (s : List Span) : PyData := .tuple (s.map eSpan)
structure Rule where
  word : Str
  spans : List Span
abbrev eRule (r : Rule) : PyData := .tuple [.str r.word, eSpans r.spans]
abbrev eRules (rs : List Rule) : PyData := .tuple (rs.map eRule)
def under (ask : List Int) (spans : List Span) : Bool := (ask.zip spans).all fun p => decide (p.2.1 ≤ p.1) && decide (p.1 ≤ p.2.2)
theorem zipD_ask (ask : List Int) (spans : List Span) : zipD (ask.map .int) (spans.map eSpan) = (ask.zip spans).map fun p => .tuple [.int p.1, eSpan p.2] := by
  unfold zipD
  rw [List.zipWith_map, List.zip, List.map_zipWith]
def rUnder : List PyData → (Sl → Prop) → Prop := fun ds q => ∃ ask spans, ds = [eAsk ask, eSpans spans] ∧ spans.length ≤ 1000 ∧ q (.dat (.bool (under ask spans)))
theorem falls_under_ok {M : Mdl} {f fd} (T : Bt M) (Fd : Fun M.K "falls_under" "falls_under" s_falls_under f fd) (hm : M.mg "falls_under" = some (.ref f)) (hb : Binds M.K fd ["ask", "spans"] []) : Fnc M "falls_under" 1 2 (RP rUnder) := by
  refine fn_P Fd hm hb sc_falls_under fun ds q ⟨ask, spans, e, hl, hq⟩ _ => ?_
  subst e
  show B _ [.dat (eAsk ask), .dat (eSpans spans), .un, .un, .un] _ _
  refine b_cons (b_ret ?_)
  refine e_blt bl_all (ea_cons (e_frz ?_)) rfl T.all (by decide +kernel)
  refine e_lcM (α := Int × Span) [("number", 2), ("low", 3), ("high", 4)] (fun p => .tuple [.int p.1, eSpan p.2]) (fun p => .bool (decide (p.2.1 ≤ p.1) && decide (p.1 ≤ p.2.2))) (t := .tup [.name 2, .tup [.name 3, .name 4]]) (.tup (.cons (.name 2) (.cons (.tup (.cons (.name 3) (.cons (.name 4) .nil))) .nil))) ?_
  refine ij_zipT T.zip (e_var 0 rfl (e_var 1 rfl ⟨_, _, rfl, rfl, ask.zip spans, zipD_ask ask spans, ?_, fun z hz => ?_, fun a => ?_⟩))
  · rw [List.length_zip]; omega
  · refine ⟨_, rfl, rfl, _, rfl, rfl, ?_⟩
    refine e_chain cd_le cd_le (e_var 3 rfl (e_var 2 rfl ⟨_, _, rfl, rfl, _, ⟨_, _, rfl, rfl, rfl⟩, ?_⟩))
    cases h1 : decide (z.2.1 ≤ z.1) with
    | true => exact iteT (e_var 4 rfl ⟨_, rfl, _, ⟨_, _, rfl, rfl, rfl⟩, by simp only [h1, Bool.true_and], rfl⟩)
    | false => exact iteF ⟨by simp only [h1, Bool.false_and], rfl⟩
  · refine ⟨a, _, rfl, _, ⟨(ask.zip spans).map fun p => decide (p.2.1 ≤ p.1) && decide (p.1 ≤ p.2.2), ?_, rfl⟩, ?_⟩
    · rw [List.map_map]; rfl
    · have e : (((ask.zip spans).map fun p => decide (p.2.1 ≤ p.1) && decide (p.1 ≤ p.2.2)).all id) = under ask spans := by
        unfold under
        rw [List.all_map]; rfl
      rw [e]
      exact hq
/-- what set_of is asked -/
def rSetOf : List PyData → (Sl → Prop) → Prop := fun ds q => ∃ d ns, ds = [d] ∧ itemsOf d = some (ns.map .int) ∧ ns.length + 1 < 4096 ∧ (sortU ns).length < 64 ∧ q (.dat (.tuple ((sortU ns).map .int)))
theorem set_of_ok {M : Mdl} {f fd} (T : Bt2 M) (Fd : Fun M.K "set_of" "set_of" s_set_of f fd) (hm : M.mg "set_of" = some (.ref f)) (hb : Binds M.K fd ["things"] []) : Fnc M "set_of" 1 1 (RP rSetOf) := by
  refine fn_P Fd hm hb sc_set_of fun ds q ⟨d, ns, e, hi, hl, hl2, hq⟩ _ => ?_
  subst e
  show B _ [.dat d] _ _
  refine b_cons (b_ret (e_tuple T.tuple (e_frz ?_)))
  refine e_sortedS rfl T.sorted (e_setI T.set (e_var 0 rfl ⟨d, rfl, ns, hi, hl, fun a => ⟨a, ns, rfl, hl2, fun l => ⟨l, _, rfl, ⟨_, rfl, _, rfl, hq⟩⟩⟩⟩))
/-! ### place_of -/
def placeOf (rules : List Rule) (ask : List Int) : Option Nat := rules.findIdx? fun r => under ask r.spans
def eOpt : Option Nat → PyData
  | none => .none
  | some k => .int k
def rPlace : List PyData → (Sl → Prop) → Prop := fun ds q => ∃ rules ask, ds = [eRules rules, eAsk ask] ∧ rules.length ≤ 1000 ∧ (∀ r ∈ rules, r.spans.length ≤ 1000) ∧ q (.dat (eOpt (placeOf rules ask)))
theorem findIdx_take {α : Type} (p : α → Bool) (pre : List α) (z : α) (post : List α) (h : ∀ x ∈ pre, p x = false) (hz : p z = true) : (pre ++ z :: post).findIdx? p = some pre.length := by
  rw [List.findIdx?_append, List.findIdx?_eq_none_iff.mpr fun x hx => by rw [h x hx], List.findIdx?_cons, hz]
  simp
theorem place_of_ok {M : Mdl} {f fd} (T : Bt M) (hu : Fnc M "falls_under" 1 2 (RP rUnder)) (Fd : Fun M.K "place_of" "place_of" s_place_of f fd) (hm : M.mg "place_of" = some (.ref f)) (hb : Binds M.K fd ["rules", "ask"] []) : Fnc M "place_of" 2 2 (RP rPlace) := by
  refine fn_P Fd hm hb sc_place_of fun ds q ⟨rules, ask, e, hl, hs, hq⟩ _ => ?_
  subst e
  show B _ [.dat (eRules rules), .dat (eAsk ask), .un] _ _
  refine b_cons (b_forI [2] (fun k : Nat => .int (k : Int)) (t := .name 2) (.name 2) ?_)
  refine ij_rangeLen T.range T.len (e_var 0 rfl ⟨_, _, rfl, rfl, by rw [List.length_map]; omega, List.range rules.length, fun pre Γ' => Γ' = [.dat (eRules rules), .dat (eAsk ask), .un] ∧ ∀ j < pre.length, ∀ r, rules[j]? = some r → under ask r.spans = false, by rw [List.length_map], ⟨rfl, fun _ h => nomatch h⟩, ?_, ?_⟩)
  · rintro pre k post Γ' hz ⟨e, inv⟩
    subst e
    obtain ⟨hk, hlt⟩ := range_split hz
    have hr : rules[k]? = some rules[k] := List.getElem?_eq_getElem hlt
    refine b_cons (b_if (t_val (e_call hu (ea_cons (e_var 1 rfl (ea_cons (e_ixC (e_ixM (e_var 0 rfl (e_var 2 rfl ⟨_, rules, eRule, k, _, rfl, rfl, rfl, hr, _, _, _, rfl, rfl, rfl, ?_⟩))))))))))
    refine ⟨ask, rules[k].spans, rfl, hs _ (List.getElem_mem hlt), _, rfl, ?_⟩
    cases hc : under ask rules[k].spans with
    | true =>
      refine iteT (b_cons (b_ret (e_var 2 rfl ?_)))
      have : placeOf rules ask = some k := by
        unfold placeOf
        rw [List.findIdx?_eq_some_iff_getElem]
        refine ⟨hlt, by simpa using hc, fun j hj => ?_⟩
        have := inv j (by omega) _ (List.getElem?_eq_getElem (by omega))
        simp [this]
      rw [this] at hq
      exact hq
    | false =>
      refine iteF (b_nil (b_nil ⟨rfl, fun j hj r hjr => ?_⟩))
      rw [List.length_append] at hj
      by_cases e : j = k
      · subst e; rw [hr] at hjr; cases hjr; exact hc
      · exact inv j (by have : j < pre.length + 1 := hj; omega) r hjr
  · rintro Γ' ⟨e, inv⟩
    subst e
    refine b_cons (b_ret (e_non ?_))
    have : placeOf rules ask = none := by
      unfold placeOf
      rw [List.findIdx?_eq_none_iff]
      intro r hr
      obtain ⟨j, hj, e⟩ := List.getElem_of_mem hr
      exact inv j (by rw [List.length_range]; exact hj) r (by rw [← e]; exact List.getElem?_eq_getElem hj)
    rw [this] at hq
    exact hq
/-! ### range_told -/
def told (rules : List Rule) (ask : List Int) : Str := match rules.find? fun r => under ask r.spans with
  | none => "no"
  | some r => r.word
def RulesOk (rules : List Rule) : Prop := rules.length ≤ 1000 ∧ (∀ r ∈ rules, r.spans.length ≤ 1000) ∧ ∀ r ∈ rules, PyData.strOk r.word = true
def rTold : List PyData → (Sl → Prop) → Prop := fun ds q => ∃ rules ask, ds = [eRules rules, eAsk ask] ∧ RulesOk rules ∧ q (.dat (.str (told rules ask)))
theorem told_ok {rules : List Rule} {ask : List Int} (h : ∀ r ∈ rules, PyData.strOk r.word = true) : SeqAt.shaped (.str (told rules ask)) = true := by
  refine Shp.shaped (n := 0) (Shp.str ?_)
  unfold told
  split
  · decide +kernel
  · rename_i r e
    exact h r (List.mem_of_find?_eq_some e)
theorem place_told {rules : List Rule} {ask : List Int} : (placeOf rules ask = none ∧ told rules ask = "no") ∨ ∃ k r, placeOf rules ask = some k ∧ rules[k]? = some r ∧ told rules ask = r.word := by
  unfold placeOf told
  induction rules with
  | nil => exact .inl ⟨rfl, rfl⟩
  | cons r rs ih =>
    rw [List.findIdx?_cons, List.find?_cons]
    cases h : under ask r.spans with
    | true => exact .inr ⟨0, r, rfl, rfl, rfl⟩
    | false =>
      rcases ih with ⟨h1, h2⟩ | ⟨k, r', h1, h2, h3⟩
      · refine .inl ⟨?_, h2⟩
        rw [h1]; rfl
      · refine .inr ⟨k + 1, r', ?_, h2, h3⟩
        rw [h1]; rfl
theorem range_told_ok {M : Mdl} {f fd} (T : Bt M) (hp : Fnc M "place_of" 2 2 (RP rPlace)) (Fd : Fun M.K "range_told" "range_told" s_range_told f fd) (hm : M.mg "range_told" = some (.ref f)) (hb : Binds M.K fd ["rules", "ask"] []) : Fnc M "range_told" 3 2 (RP rTold) := by
  refine fn_P Fd hm hb sc_range_told fun ds q ⟨rules, ask, e, ⟨hl, hs, _⟩, hq⟩ _ => ?_
  subst e
  show B _ [.dat (eRules rules), .dat (eAsk ask), .un] _ _
  refine b_cons (b_set 2 (e_call hp (ea_cons (e_var 0 rfl (ea_cons (e_var 1 rfl (ea_nil ⟨rules, ask, rfl, hl, hs, ?_⟩)))))))
  refine b_cons (b_ret (e_ifExp (t_cmp cd_is rfl (e_var 2 rfl (e_non ⟨_, _, rfl, rfl, _, ⟨rfl, rfl⟩, ?_⟩)))))
  rcases place_told (rules := rules) (ask := ask) with ⟨h1, h2⟩ | ⟨k, r, h1, h2, h3⟩
  · rw [h1]
    rw [h2] at hq
    exact iteT (e_str hq)
  · rw [h1]
    rw [h3] at hq
    exact iteF (e_ixC (e_ixM (e_var 0 rfl (e_var 2 rfl ⟨_, rules, eRule, k, r, rfl, rfl, rfl, h2, _, _, _, rfl, rfl, rfl, hq⟩))))
/-! ### cuts_of -/
abbrev eSizes (sizes : List Int) : PyData := .tuple (sizes.map .int)
def cutR (f : Nat) (size : Int) (r : Rule) : List Int := match r.spans[f]? with
  | some s => [s.1, s.2 + 1].filter fun n => decide (n < size)
  | none => []
def cutNums (rules : List Rule) (f : Nat) (size : Int) : List Int := 0 :: rules.flatMap (cutR f size)
def cuts (rules : List Rule) (f : Nat) (size : Int) : List Int := sortU (cutNums rules f size)
def rCuts : List PyData → (Sl → Prop) → Prop := fun ds q => ∃ sizes rules f size, ds = [eSizes sizes, eRules rules, .int ((f : Nat) : Int)] ∧ sizes[f]? = some size ∧ rules.length ≤ 20 ∧ (∀ r ∈ rules, ∃ s, r.spans[f]? = some s) ∧ q (.dat (.tuple ((cuts rules f size).map .int)))
theorem cutR_len {f : Nat} {size : Int} {r : Rule} : (cutR f size r).length ≤ 2 := by
  unfold cutR
  split
  · exact List.length_filter_le _ _
  · exact Nat.zero_le _
theorem cutNums_len {f : Nat} {size : Int} : ∀ {rules : List Rule}, (rules.flatMap (cutR f size)).length ≤ 2 * rules.length
  | [] => Nat.zero_le _
  | r :: rs => by
    rw [List.flatMap_cons, List.length_append, List.length_cons]
    have := cutNums_len (f := f) (size := size) (rules := rs)
    have := cutR_len (f := f) (size := size) (r := r)
    omega
theorem cuts_of_ok {M : Mdl} {f fd} (hset : Fnc M "set_of" 1 1 (RP rSetOf)) (Fd : Fun M.K "cuts_of" "cuts_of" s_cuts_of f fd) (hm : M.mg "cuts_of" = some (.ref f)) (hb : Binds M.K fd ["sizes", "rules", "field"] []) : Fnc M "cuts_of" 2 3 (RP rCuts) := by
  refine fn_P Fd hm hb sc_cuts_of fun ds q ⟨sizes, rules, fl, size, e, hsz, hl, hs, hq⟩ _ => ?_
  subst e
  show B _ [.dat (eSizes sizes), .dat (eRules rules), .dat (.int (fl : Int)), .un, .un, .un, .un, .un, .un] _ _
  refine b_cons (b_set 3 (e_lst (ea_cons (e_int (ea_nil fun a => ?_)))))
  refine b_cons (b_forI (α := Rule) [4, 5, 6, 7] eRule (t := .tup [.name 4, .name 5]) (.tup (.cons (.name 4) (.cons (.name 5) .nil))) ?_)
  refine ij_tup (e_var 1 rfl ⟨_, rfl, rules, fun pre Γ' => Γ' = [.dat (eSizes sizes), .dat (eRules rules), .dat (.int (fl : Int)), lst a ((0 :: pre.flatMap (cutR fl size)).map .int), .un, .un, .un, .un, .un], rfl, rfl, ?_, ?_⟩)
  · rintro pre r post Γ' hz e
    subst e
    obtain ⟨s, hsp⟩ := hs r (by rw [hz]; simp)
    have hlen : pre.length < 20 := by rw [hz, List.length_append, List.length_cons] at hl; omega
    have hcr : cutR fl size r = [s.1, s.2 + 1].filter fun n => decide (n < size) := by unfold cutR; rw [hsp]
    refine ⟨_, rfl, rfl, ?_⟩
    refine b_cons (b_asg (t := .tup [.name 6, .name 7]) (.tup (.cons (.name 6) (.cons (.name 7) .nil))) (e_ixM (e_var 5 rfl (e_var 2 rfl ⟨_, r.spans, eSpan, fl, s, rfl, rfl, rfl, hsp, _, rfl, ⟨_, rfl, rfl, ?_⟩⟩))))
    refine b_cons (b_expr (e_extend (e_bor 3 rfl ⟨_, rfl, ⟨3, _, rfl⟩, e_frz ?_⟩)))
    refine e_lcF (α := Int) [("number", 8)] .int (fun n => decide (n < size)) .int (t := .name 8) (.name 8) ?_
    refine ij_tup (e_tup (ea_cons (e_var 6 rfl (ea_cons (e_bin bd_add (e_var 7 rfl (e_int ⟨_, _, rfl, rfl, _, ⟨_, _, rfl, rfl, rfl⟩, ea_nil ⟨_, rfl, [s.1, s.2 + 1], rfl, (by show 2 ≤ 1000000; decide), ?_, fun b => ?_⟩⟩)))))))
    · intro n hn
      refine t_cmp cd_lt rfl (e_var 8 rfl (e_ixM (e_var 0 rfl (e_var 2 rfl ⟨_, sizes, .int, fl, size, rfl, rfl, rfl, hsz, _, _, rfl, rfl, _, ⟨_, _, rfl, rfl, rfl⟩, rfl, ?_⟩))))
      cases hc : decide (n < size) with
      | true => exact iteT (e_var 8 rfl ⟨rfl, rfl⟩)
      | false => exact iteF rfl
    · refine ⟨b, _, rfl, _, rfl, 3, _, rfl, ?_, ?_⟩
      · have l1 := cutNums_len (f := fl) (size := size) (rules := pre)
        have l2 : (([s.1, s.2 + 1].filter fun n => decide (n < size)).length) ≤ 2 := List.length_filter_le _ _
        rw [List.length_map, List.length_map, List.length_cons]
        omega
      · refine b_nil ?_
        have e : ((0 :: pre.flatMap (cutR fl size)).map PyData.int) ++ (([s.1, s.2 + 1].filter fun n => decide (n < size)).map PyData.int) = (0 :: (pre ++ [r]).flatMap (cutR fl size)).map PyData.int := by
          rw [← List.map_append, List.cons_append, List.flatMap_append, ← hcr]
          simp
        show [Sl.dat (eSizes sizes), .dat (eRules rules), .dat (.int (fl : Int)), lst a (((0 :: pre.flatMap (cutR fl size)).map PyData.int) ++ (([s.1, s.2 + 1].filter fun n => decide (n < size)).map PyData.int)), .un, .un, .un, .un, .un] = _
        rw [e]
  · rintro Γ' e
    subst e
    refine b_cons (b_ret (e_call hset (ea_cons (e_varF 3 rfl (ea_nil ⟨_, cutNums rules fl size, rfl, rfl, ?_, ?_, hq⟩)))))
    · have l1 := cutNums_len (f := fl) (size := size) (rules := rules)
      show (cutNums rules fl size).length + 1 < 4096
      unfold cutNums; rw [List.length_cons]; omega
    · have l1 := cutNums_len (f := fl) (size := size) (rules := rules)
      refine Nat.lt_of_le_of_lt (sortU_len _) ?_
      unfold cutNums; rw [List.length_cons]; omega
/-! ### blocks -/
abbrev Blk := List (Int × Int)
def corner (b : Blk) : List Int := b.map (·.1)
def spansOf (b : Blk) : List Span := b.map fun p => (p.1, p.2 - 1)
abbrev eBlk (b : Blk) : PyData := .tuple [eAsk (corner b), eSpans (spansOf b)]
def fieldB (rules : List Rule) (f : Nat) (size : Int) : Blk := (cuts rules f size).zip ((cuts rules f size).tail ++ [size])
def addField (found : List Blk) (fb : Blk) : List Blk := found.flatMap fun b => fb.map fun p => b ++ [p]
def blocksN (sizes : List Int) (rules : List Rule) (n : Nat) : List Blk := (List.range n).foldl (fun acc f => addField acc (fieldB rules f (sizes.getD f 0))) [[]]
def BoxOk (sizes : List Int) (rules : List Rule) : Prop := sizes.length ≤ 3 ∧ rules.length ≤ 20 ∧ ∀ r ∈ rules, r.spans.length = sizes.length
def rBlocks : List PyData → (Sl → Prop) → Prop := fun ds q => ∃ sizes rules, ds = [eSizes sizes, eRules rules] ∧ BoxOk sizes rules ∧ q (.dat (.list ((blocksN sizes rules sizes.length).map eBlk)))
theorem cuts_len {rules : List Rule} {f : Nat} {size : Int} (h : rules.length ≤ 20) : (cuts rules f size).length ≤ 41 := by
  have l1 := cutNums_len (f := f) (size := size) (rules := rules)
  refine Nat.le_trans (sortU_len _) ?_
  unfold cutNums; rw [List.length_cons]; omega
theorem fieldB_len {rules : List Rule} {f : Nat} {size : Int} (h : rules.length ≤ 20) : (fieldB rules f size).length ≤ 41 := by
  unfold fieldB
  rw [List.length_zip]
  exact Nat.le_trans (Nat.min_le_left _ _) (cuts_len h)
theorem addField_len {found : List Blk} {fb : Blk} : (addField found fb).length = found.length * fb.length := by
  unfold addField
  induction found with
  | nil => simp
  | cons b bs ih => rw [List.flatMap_cons, List.length_append, ih, List.length_map, List.length_cons, Nat.succ_mul, Nat.add_comm]
theorem blocksN_succ {sizes : List Int} {rules : List Rule} {n : Nat} : blocksN sizes rules (n + 1) = addField (blocksN sizes rules n) (fieldB rules n (sizes.getD n 0)) := by
  unfold blocksN
  rw [List.range_succ, List.foldl_append]; rfl
theorem blocksN_len {sizes : List Int} {rules : List Rule} (h : rules.length ≤ 20) : ∀ n : Nat, (blocksN sizes rules n).length ≤ 41 ^ n
  | 0 => Nat.le_refl 1
  | n + 1 => by
    rw [blocksN_succ, addField_len, Nat.pow_succ]
    exact Nat.mul_le_mul (blocksN_len h n) (fieldB_len h)
theorem blocksN_width {sizes : List Int} {rules : List Rule} : ∀ (n : Nat), ∀ b ∈ blocksN sizes rules n, b.length = n
  | 0, b, hb => by
    have e : b = [] := List.mem_singleton.mp hb
    rw [e]; rfl
  | n + 1, b, hb => by
    rw [blocksN_succ] at hb
    unfold addField at hb
    obtain ⟨b0, h0, hb⟩ := List.mem_flatMap.mp hb
    obtain ⟨p, _, e⟩ := List.mem_map.mp hb
    rw [← e, List.length_append, blocksN_width n b0 h0]; rfl
theorem zipD_ints (as bs : List Int) : zipD (as.map .int) (bs.map .int) = (as.zip bs).map fun p => .tuple [.int p.1, .int p.2] := by
  unfold zipD
  rw [List.zipWith_map, List.zip, List.map_zipWith]
theorem blocks_of_ok {M : Mdl} {f fd} (T : Bt M) (hc : Fnc M "cuts_of" 2 3 (RP rCuts)) (Fd : Fun M.K "blocks_of" "blocks_of" s_blocks_of f fd) (hm : M.mg "blocks_of" = some (.ref f)) (hb : Binds M.K fd ["sizes", "rules"] []) : Fnc M "blocks_of" 3 2 (RP rBlocks) := by
  refine fn_P Fd hm hb sc_blocks_of fun ds q ⟨sizes, rules, e, ⟨hn, hl, hs⟩, hq⟩ _ => ?_
  subst e
  show B _ [.dat (eSizes sizes), .dat (eRules rules), .un, .un, .un, .un, .un, .un, .un, .un, .un] _ _
  refine b_cons (b_set 2 (e_frz (e_lst (ea_cons (e_tup (ea_cons (e_tup (ea_nil (ea_cons (e_tup (ea_nil (ea_nil (ea_nil fun a => ⟨a, _, rfl, ?_⟩)))))))))))))
  refine b_cons (b_forI (α := Nat) [3, 4, 5, 6, 7, 8] (fun k : Nat => .int (k : Int)) (t := .name 3) (.name 3) ?_)
  refine ij_rangeLen T.range T.len (e_var 0 rfl ⟨_, _, rfl, rfl, by rw [List.length_map]; omega, List.range sizes.length, fun pre Γ' => Γ' = [.dat (eSizes sizes), .dat (eRules rules), .dat (.list ((blocksN sizes rules pre.length).map eBlk)), .un, .un, .un, .un, .un, .un, .un, .un], by rw [List.length_map], rfl, ?_, ?_⟩)
  · rintro pre k post Γ' hz e
    subst e
    obtain ⟨hk, hlt⟩ := range_split hz
    have hsz : sizes[k]? = some (sizes.getD k 0) := by rw [List.getD_eq_getElem?_getD, List.getElem?_eq_getElem hlt]; rfl
    rw [hk]
    refine b_cons (b_set 4 (e_call hc (ea_cons (e_var 0 rfl (ea_cons (e_var 1 rfl (ea_cons (e_var 3 rfl (ea_nil ⟨sizes, rules, k, sizes.getD k 0, rfl, hsz, hl, ?_, ?_⟩)))))))))
    · intro r hr
      have : k < r.spans.length := by rw [hs r hr]; exact hlt
      exact ⟨_, List.getElem?_eq_getElem this⟩
    generalize hcs : cuts rules k (sizes.getD k 0) = cs
    have hcl : cs.length ≤ 41 := by rw [← hcs]; exact cuts_len hl
    refine b_cons (b_set 5 (e_catT (e_slT (e_var 4 rfl (e_int ⟨_, rfl, _, rfl, ?_⟩)))))
    refine e_tup (ea_cons (e_ixM (e_var 0 rfl (e_var 3 rfl ⟨_, sizes, .int, k, _, rfl, rfl, rfl, hsz, ea_nil ⟨_, _, rfl, rfl, ?_, ?_⟩⟩))))
    · rw [show (1 : Int) = ((1 : Nat) : Int) from rfl, cut_drop, List.length_drop, List.length_map]
      show cs.length - 1 + 1 ≤ 1000000
      omega
    have ends : cut (cs.map PyData.int) (some 1) none ++ [.int (sizes.getD k 0)] = (cs.tail ++ [sizes.getD k 0]).map PyData.int := by
      rw [show (1 : Int) = ((1 : Nat) : Int) from rfl, cut_drop, List.map_append, List.drop_one, List.map_tail]; rfl
    rw [ends]
    refine b_cons (b_set 6 (e_lst (ea_nil fun a => ?_)))
    refine b_cons (b_forI (α := Blk) [7, 8] eBlk (t := .tup [.name 7, .name 8]) (.tup (.cons (.name 7) (.cons (.name 8) .nil))) ?_)
    have hfb : cs.zip (cs.tail ++ [sizes.getD k 0]) = fieldB rules k (sizes.getD k 0) := by unfold fieldB; rw [hcs]
    have hnk : 41 ^ k ≤ 41 ^ 2 := Nat.pow_le_pow_right (by decide) (by omega)
    have hbl := blocksN_len (sizes := sizes) hl k
    refine ij_lst (e_var 2 rfl ⟨_, rfl, blocksN sizes rules k, fun pre Γ' => Γ' = [.dat (eSizes sizes), .dat (eRules rules), .dat (.list ((blocksN sizes rules k).map eBlk)), .dat (.int (k : Int)), .dat (.tuple (cs.map .int)), .dat (.tuple ((cs.tail ++ [sizes.getD k 0]).map .int)), lst a ((addField pre (fieldB rules k (sizes.getD k 0))).map eBlk), .un, .un, .un, .un], rfl, rfl, ?_, ?_⟩)
    · rintro pre b post Γ' hz e
      subst e
      refine ⟨_, rfl, rfl, ?_⟩
      have hw : b.length = k := blocksN_width k b (by rw [hz]; simp)
      have hpl : pre.length < 41 ^ 2 := by
        have : (blocksN sizes rules k).length = pre.length + (post.length + 1) := by rw [hz, List.length_append, List.length_cons]
        omega
      refine b_cons (b_expr (e_extend (e_bor 6 rfl ⟨_, rfl, ⟨6, _, rfl⟩, e_frz ?_⟩)))
      refine e_lcM (α := Int × Int) [("low", 9), ("end", 10)] (fun p => .tuple [.int p.1, .int p.2]) (fun p => eBlk (b ++ [p])) (t := .tup [.name 9, .name 10]) (.tup (.cons (.name 9) (.cons (.name 10) .nil))) ?_
      refine ij_zipT T.zip (e_var 4 rfl (e_var 5 rfl ⟨_, _, rfl, rfl, cs.zip (cs.tail ++ [sizes.getD k 0]), zipD_ints _ _, ?_, ?_, fun c => ?_⟩))
      · rw [List.length_zip]; omega
      · intro p hp
        refine ⟨_, rfl, rfl, ?_⟩
        have l1 : ((corner b).map PyData.int).length = k := by unfold corner; rw [List.length_map, List.length_map, hw]
        have l2 : ((spansOf b).map eSpan).length = k := by unfold spansOf; rw [List.length_map, List.length_map, hw]
        refine e_tup (ea_cons (e_catT (e_var 7 rfl (e_tup (ea_cons (e_var 9 rfl (ea_nil ⟨_, _, rfl, rfl, ?_, ?_⟩)))))))
        · rw [l1]; show k + 1 ≤ 1000000; omega
        refine ea_cons (e_catT (e_var 8 rfl (e_tup (ea_cons (e_tup (ea_cons (e_var 9 rfl (ea_cons (e_bin bd_sub (e_var 10 rfl (e_int ⟨_, _, rfl, rfl, _, ⟨_, _, rfl, rfl, rfl⟩, ea_nil (ea_nil ⟨_, _, rfl, rfl, ?_, ea_nil ⟨?_, rfl⟩⟩)⟩)))))))))))
        · rw [l2]; show k + 1 ≤ 1000000; omega
        · show Sl.dat (.tuple [.tuple ((corner b).map .int ++ [.int p.1]), .tuple ((spansOf b).map eSpan ++ [eSpan (p.1, p.2 - 1)])]) = Sl.dat (eBlk (b ++ [p]))
          unfold eBlk corner spansOf eAsk eSpans
          simp only [List.map_append, List.map_cons, List.map_nil]
      · refine ⟨c, _, rfl, _, rfl, 6, _, rfl, ?_, ?_⟩
        · rw [List.length_map, List.length_map, addField_len, List.length_zip]
          have h1 : (fieldB rules k (sizes.getD k 0)).length ≤ 41 := fieldB_len hl
          have h2 := Nat.mul_le_mul (Nat.le_of_lt hpl) h1
          have h3 : min cs.length (cs.tail ++ [sizes.getD k 0]).length ≤ 41 := Nat.le_trans (Nat.min_le_left _ _) hcl
          omega
        · refine b_nil ?_
          have e : (addField pre (fieldB rules k (sizes.getD k 0))).map eBlk ++ (cs.zip (cs.tail ++ [sizes.getD k 0])).map (fun p => eBlk (b ++ [p])) = (addField (pre ++ [b]) (fieldB rules k (sizes.getD k 0))).map eBlk := by
            unfold addField
            rw [List.flatMap_append, List.map_append, hfb]
            simp
          show [Sl.dat (eSizes sizes), .dat (eRules rules), .dat (.list ((blocksN sizes rules k).map eBlk)), .dat (.int (k : Int)), .dat (.tuple (cs.map .int)), .dat (.tuple ((cs.tail ++ [sizes.getD k 0]).map .int)), lst a ((addField pre (fieldB rules k (sizes.getD k 0))).map eBlk ++ (cs.zip (cs.tail ++ [sizes.getD k 0])).map (fun p => eBlk (b ++ [p]))), .un, .un, .un, .un] = _
          rw [e]
    · rintro Γ' e
      subst e
      refine b_cons (b_set 2 (e_varF 6 rfl (b_nil ?_)))
      show [Sl.dat (eSizes sizes), .dat (eRules rules), .dat (.list ((addField (blocksN sizes rules k) (fieldB rules k (sizes.getD k 0))).map eBlk)), .un, .un, .un, .un, .un, .un, .un, .un] = _
      rw [← blocksN_succ, List.length_append, hk]; rfl
  · rintro Γ' e
    subst e
    rw [List.length_range]
    exact b_cons (b_ret (e_var 2 rfl hq))
/-! ### first_differing, same_ranges -/
def cornersOf (sizes : List Int) (rules : List Rule) : List (List Int) := (blocksN sizes rules sizes.length).map corner
def firstDiff (sizes : List Int) (one other : List Rule) : Option (List Int) := (cornersOf sizes (one ++ other)).find? fun a => told one a != told other a
def eOptAsk : Option (List Int) → PyData
  | none => .none
  | some a => eAsk a
def TwoOk (sizes : List Int) (one other : List Rule) : Prop := RulesOk one ∧ RulesOk other ∧ BoxOk sizes (one ++ other)
def rFirst : List PyData → (Sl → Prop) → Prop := fun ds q => ∃ sizes one other, ds = [eSizes sizes, eRules one, eRules other] ∧ TwoOk sizes one other ∧ q (.dat (eOptAsk (firstDiff sizes one other)))
theorem find_here {α : Type} {p : α → Bool} {pre post : List α} {z : α} (h : ∀ x ∈ pre, p x = false) (hz : p z = true) : (pre ++ z :: post).find? p = some z := by
  rw [List.find?_append, List.find?_eq_none.mpr fun x hx => by rw [h x hx]; exact Bool.false_ne_true, List.find?_cons, hz]; rfl
theorem yes_ok : SeqAt.shaped (.str ("yes" : Str)) = true := by decide +kernel
theorem first_differing_ok {M : Mdl} {f fd} (hbk : Fnc M "blocks_of" 3 2 (RP rBlocks)) (ht : Fnc M "range_told" 3 2 (RP rTold)) (Fd : Fun M.K "first_differing" "first_differing" s_first_differing f fd) (hm : M.mg "first_differing" = some (.ref f)) (hb : Binds M.K fd ["sizes", "one", "other"] []) : Fnc M "first_differing" 4 3 (RP rFirst) := by
  refine fn_P Fd hm hb sc_first_differing fun ds q ⟨sizes, one, other, e, ⟨h1, h2, h3⟩, hq⟩ _ => ?_
  subst e
  show B _ [.dat (eSizes sizes), .dat (eRules one), .dat (eRules other), .un, .un] _ _
  have hl3 := h3.2.1
  rw [List.length_append] at hl3
  refine b_cons (b_forI (α := Blk) [3, 4] eBlk (t := .tup [.name 3, .name 4]) (.tup (.cons (.name 3) (.cons (.name 4) .nil))) ?_)
  refine ij_lst (e_call hbk (ea_cons (e_var 0 rfl (ea_cons (e_catT (e_var 1 rfl (e_var 2 rfl ⟨_, _, rfl, rfl, by rw [List.length_map, List.length_map]; omega, ea_nil ⟨sizes, one ++ other, by rw [← List.map_append], h3, _, rfl, _, fun pre Γ' => Γ' = [.dat (eSizes sizes), .dat (eRules one), .dat (eRules other), .un, .un] ∧ ∀ b ∈ pre, told one (corner b) = told other (corner b), rfl, ⟨rfl, fun _ h => nomatch h⟩, ?_, ?_⟩⟩)))))))
  · rintro pre b post Γ' hz ⟨e, inv⟩
    subst e
    refine ⟨_, rfl, rfl, ?_⟩
    refine b_cons (b_if (t_cmp cd_ne rfl (e_call ht (ea_cons (e_var 1 rfl (ea_cons (e_var 3 rfl (ea_nil ⟨one, corner b, rfl, h1, ?_⟩)))))))) 
    refine e_call ht (ea_cons (e_var 2 rfl (ea_cons (e_var 3 rfl (ea_nil ⟨other, corner b, rfl, h2, _, _, rfl, rfl, _, ⟨told_ok h1.2.2, told_ok h2.2.2, rfl⟩, ?_⟩)))))
    rw [eqv_str]
    by_cases hc : told one (corner b) = told other (corner b)
    · rw [if_neg (by simp [hc])]
      refine b_nil (b_nil ⟨rfl, fun b' hb' => ?_⟩)
      rcases List.mem_append.mp hb' with hb' | hb'
      · exact inv b' hb'
      · rw [List.mem_singleton] at hb'; subst hb'; exact hc
    · rw [if_pos (by simpa using hc)]
      refine b_cons (b_ret (e_var 3 rfl ?_))
      have : firstDiff sizes one other = some (corner b) := by
        unfold firstDiff cornersOf
        rw [hz, List.map_append, List.map_cons]
        refine find_here (fun x hx => ?_) (by simpa using hc)
        obtain ⟨b', hb', e⟩ := List.mem_map.mp hx
        rw [← e]
        simp [inv b' hb']
      rw [this] at hq
      exact hq
  · rintro Γ' ⟨e, inv⟩
    subst e
    refine b_cons (b_ret (e_non ?_))
    have : firstDiff sizes one other = none := by
      unfold firstDiff cornersOf
      rw [List.find?_eq_none]
      intro x hx
      obtain ⟨b', hb', e⟩ := List.mem_map.mp hx
      rw [← e]
      simp [inv b' hb']
    rw [this] at hq
    exact hq
/-! ### count_in, count_yes -/
def countIn (spans : List Span) : Int := spans.foldl (fun n s => n * (s.2 - s.1 + 1)) 1
def Small (spans : List Span) : Prop := ∀ s ∈ spans, -(2 ^ 64) < s.2 - s.1 + 1 ∧ s.2 - s.1 + 1 < 2 ^ 64
def rCount : List PyData → (Sl → Prop) → Prop := fun ds q => ∃ spans, ds = [eSpans spans] ∧ Small spans ∧ q (.dat (.int (countIn spans)))
theorem count_in_ok {M : Mdl} {f fd} (Fd : Fun M.K "count_in" "count_in" s_count_in f fd) (hm : M.mg "count_in" = some (.ref f)) (hb : Binds M.K fd ["spans"] []) : Fnc M "count_in" 1 1 (RP rCount) := by
  refine fn_P Fd hm hb sc_count_in fun ds q ⟨spans, e, hs, hq⟩ _ => ?_
  subst e
  show B _ [.dat (eSpans spans), .un, .un, .un] _ _
  refine b_cons (b_set 1 (e_int ?_))
  refine b_cons (b_forI (α := Span) [2, 3] eSpan (t := .tup [.name 2, .name 3]) (.tup (.cons (.name 2) (.cons (.name 3) .nil))) ?_)
  refine ij_tup (e_var 0 rfl ⟨_, rfl, spans, fun pre Γ' => Γ' = [.dat (eSpans spans), .dat (.int (countIn pre)), .un, .un], rfl, rfl, ?_, ?_⟩)
  · rintro pre s post Γ' hz e
    subst e
    refine ⟨_, rfl, rfl, ?_⟩
    refine b_cons (b_set 1 (e_bin bd_mul (e_var 1 rfl (e_bin bd_add (e_bin bd_sub (e_var 3 rfl (e_var 2 rfl ⟨_, _, rfl, rfl, _, ⟨_, _, rfl, rfl, rfl⟩, e_int ⟨_, _, rfl, rfl, _, ⟨_, _, rfl, rfl, rfl⟩, _, _, rfl, rfl, _, ⟨_, _, rfl, rfl, ?_, rfl⟩, b_nil ?_⟩⟩)))))))
    · exact .inr (hs s (by rw [hz]; simp))
    · show [Sl.dat (eSpans spans), .dat (.int (countIn pre * (s.2 - s.1 + 1))), .un, .un] = [Sl.dat (eSpans spans), .dat (.int (countIn (pre ++ [s]))), .un, .un]
      have : countIn (pre ++ [s]) = countIn pre * (s.2 - s.1 + 1) := by unfold countIn; rw [List.foldl_append]; rfl
      rw [this]
  · rintro Γ' e
    subst e
    exact b_cons (b_ret (e_var 1 rfl hq))
def countYes (sizes : List Int) (rules : List Rule) : Int := (((blocksN sizes rules sizes.length).filter fun b => told rules (corner b) == "yes").map fun b => countIn (spansOf b)).sum
def rYes : List PyData → (Sl → Prop) → Prop := fun ds q => ∃ sizes rules, ds = [eSizes sizes, eRules rules] ∧ RulesOk rules ∧ BoxOk sizes rules ∧ (∀ b ∈ blocksN sizes rules sizes.length, Small (spansOf b)) ∧ q (.dat (.int (countYes sizes rules)))
theorem count_yes_ok {M : Mdl} {f fd} (T : Bt2 M) (hbk : Fnc M "blocks_of" 3 2 (RP rBlocks)) (ht : Fnc M "range_told" 3 2 (RP rTold)) (hc : Fnc M "count_in" 1 1 (RP rCount)) (Fd : Fun M.K "count_yes" "count_yes" s_count_yes f fd) (hm : M.mg "count_yes" = some (.ref f)) (hb : Binds M.K fd ["sizes", "rules"] []) : Fnc M "count_yes" 4 2 (RP rYes) := by
  refine fn_P Fd hm hb sc_count_yes fun ds q ⟨sizes, rules, e, h1, h3, hs, hq⟩ _ => ?_
  subst e
  show B _ [.dat (eSizes sizes), .dat (eRules rules), .un, .un] _ _
  have hbl := blocksN_len (sizes := sizes) h3.2.1 sizes.length
  have hpw : 41 ^ sizes.length ≤ 41 ^ 3 := Nat.pow_le_pow_right (by decide) h3.1
  refine b_cons (b_ret (e_blt bl_sum (ea_cons (e_frz ?_)) rfl T.sum (by decide +kernel)))
  refine e_lcF (α := Blk) [("ask", 2), ("spans", 3)] eBlk (fun b => told rules (corner b) == "yes") (fun b => .int (countIn (spansOf b))) (t := .tup [.name 2, .name 3]) (.tup (.cons (.name 2) (.cons (.name 3) .nil))) ?_
  refine ij_lst (e_call hbk (ea_cons (e_var 0 rfl (ea_cons (e_var 1 rfl (ea_nil ⟨sizes, rules, rfl, h3, _, rfl, _, rfl, by omega, fun b hb => ?_, fun a => ?_⟩))))))
  · refine ⟨_, rfl, rfl, ?_⟩
    refine t_cmp cd_eq rfl (e_call ht (ea_cons (e_var 1 rfl (ea_cons (e_var 2 rfl (ea_nil ⟨rules, corner b, rfl, h1, e_str ⟨_, _, rfl, rfl, _, ⟨told_ok h1.2.2, yes_ok, rfl⟩, ?_⟩⟩))))))
    refine ⟨eqv_str _ _, ?_⟩
    rw [eqv_str]
    cases hcc : (told rules (corner b) == "yes") with
    | true => exact iteT (e_call hc (ea_cons (e_var 3 rfl (ea_nil ⟨_, rfl, hs b hb, rfl, rfl⟩))))
    | false => exact iteF rfl
  · refine ⟨a, _, rfl, _, ⟨((blocksN sizes rules sizes.length).filter fun b => told rules (corner b) == "yes").map fun b => countIn (spansOf b), by rw [List.map_map]; rfl, rfl⟩, hq⟩
end K61
namespace K61
open PySem L2 DL
theorem next_ok {M : Mdl} {f fd} (T : Bt3 M) (Fd : Fun M.K "_law_next" "_law_next" s_next f fd) (hm : M.mg "_law_next" = some (.ref f)) (hb : Binds M.K fd ["w", "many"] []) : Fnc M "_law_next" 1 2 (RW rNext) := by
  refine fn_W Fd hm hb sc_next fun a ds q ⟨m, e, hm0, hq⟩ _ => ?_
  subst e
  exact b_next hm0 rfl rfl rfl rfl rfl T.len T.int fun n h1 h2 => ⟨rfl, hq n h1 h2⟩
theorem pick_ok {M : Mdl} {f fd} (T : Bt3 M) (hn : Fnc M "_law_next" 1 2 (RW rNext)) (Fd : Fun M.K "_law_pick" "_law_pick" s_pick f fd) (hm : M.mg "_law_pick" = some (.ref f)) (hb : Binds M.K fd ["w", "rows"] []) : Fnc M "_law_pick" 2 2 (RW rPick) := by
  refine fn_W Fd hm hb sc_pick fun a ds q ⟨xs, e, h0, hq⟩ _ => ?_
  subst e
  show B _ [wS a, .dat (.list xs)] _ _
  refine b_cons (b_ret (e_ix (e_var 1 rfl (e_callW hn (ea_cons (e_bor 0 rfl (ea_cons (e_len T.len (e_var 1 rfl ⟨_, xs, rfl, rfl, ea_nil ⟨0, rfl, _, rfl, by omega, fun n n0 n1 => ?_⟩⟩)))))))))
  obtain ⟨v, hv, hm⟩ := atI_mem n0 n1
  exact ⟨_, _, rfl, rfl, xs, n, v, rfl, rfl, hv, rfl, hq _ hm⟩
theorem says_ok {M : Mdl} {f fd} (T : Bt3 M) (Fd : Fun M.K "_law_says" "_law_says" s_says f fd) (hm : M.mg "_law_says" = some (.ref f)) (hb : Binds M.K fd ["seen", "due"] []) : Fnc M "_law_says" 1 2 (RP fun ds q => ∃ a b : Bool, ds = [.bool a, .bool b] ∧ q (.dat (.bool (a == b)))) := by
  refine fn_P Fd hm hb sc_says fun ds q ⟨a, b, e, hq⟩ _ => ?_
  subst e
  show B _ [.dat (.bool a), .dat (.bool b)] _ _
  refine b_cons (b_ret (e_and (e_isinst isBool kb_bool T.isinst T.bool (by decide +kernel) (e_var 0 rfl ⟨_, rfl, _, rfl, ?_⟩))))
  refine iteT (e_one (e_cmp cd_eq rfl (e_var 0 rfl (e_var 1 rfl ⟨_, _, rfl, rfl, _, ⟨Shp.shaped (n := 0) (Shp.bool _), Shp.shaped (n := 0) (Shp.bool _), eqv_bool _ _⟩, hq⟩))))
/-- what _law_same is asked: the same datum twice -/
inductive Pl : Nat → PyData → Prop
  | none {n} : Pl n .none
  | bool {n} (b) : Pl n (.bool b)
  | int {n} (b) : Pl n (.int b)
  | str {n} {b} : PyData.strOk b = true → Pl n (.str b)
  | tup {n} {xs} : xs.length ≤ 1000000 → (∀ x ∈ xs, Pl n x) → Pl (n + 1) (.tuple xs)
def rSame (n : Nat) : List PyData → (Sl → Prop) → Prop := fun ds q => ∃ d, ds = [d, d] ∧ Pl n d ∧ q (.dat (.bool true))
theorem same_step {M : Mdl} {f fd} (T : Bt3 M) (Fd : Fun M.K "_law_same" "_law_same" s_same f fd) (hm : M.mg "_law_same" = some (.ref f)) (hb : Binds M.K fd ["seen", "due"] []) (n k : Nat) (ih : ∀ m, n = m + 1 → Fnc M "_law_same" k 2 (RP (rSame m))) : Fnc M "_law_same" (k + 1) 2 (RP (rSame n)) := by
  refine fn_P Fd hm hb sc_same fun ds q ⟨d, e, hd, hq⟩ _ => ?_
  subst e
  show B _ [.dat d, .dat d, .un] _ _
  refine b_cons (b_if (t_val (e_isinst isTup kb_tup T.isinst T.tuple (by decide +kernel) (e_var 1 rfl ⟨_, rfl, _, rfl, ?_⟩))))
  cases hd with
  | @tup m xs hl hx =>
    refine iteT (b_cons (b_if (t_w (tw_or (t_not (t_val (e_isinst isTup kb_tup T.isinst T.tuple (by decide +kernel) (e_var 0 rfl ⟨_, rfl, _, rfl, ?_⟩))))))))
    refine iteF (tw_or1 (t_cmp cd_ne rfl (e_len T.len (e_var 0 rfl ⟨_, _, rfl, rfl, ?_⟩))))
    refine e_len T.len (e_var 1 rfl ⟨_, _, rfl, rfl, _, _, rfl, rfl, _, ⟨Shp.shaped (n := 0) (Shp.int _), Shp.shaped (n := 0) (Shp.int _), rfl⟩, ?_⟩)
    rw [eqv_int, beq_self_eq_true]
    refine iteF (b_nil (b_cons (b_ret (e_cmp cd_eq rfl (e_frz ?_)))))
    refine e_lcF (α := Nat) [("k", 2)] (fun k : Nat => .int (k : Int)) (fun _ => false) (fun k => .int (k : Int)) (t := .name 2) (.name 2) ?_
    refine ij_rangeLen T.range T.len (e_var 1 rfl ⟨_, _, rfl, rfl, hl, List.range xs.length, rfl, by rw [List.length_range]; exact hl, fun k hk => ?_, fun a => ⟨a, _, rfl, ?_⟩⟩)
    · have hlt := List.mem_range.mp hk
      have hz : xs[k]? = some xs[k] := List.getElem?_eq_getElem hlt
      have am : atI xs (k : Int) = some xs[k] := atI_nat hz
      refine t_not (t_val (e_call (ih m rfl) (ea_cons (e_ix (e_var 0 rfl (e_var 2 rfl ⟨_, _, rfl, rfl, xs, _, _, rfl, rfl, am, ?_⟩)))) rfl (Nat.le_refl _)))
      refine ea_cons (e_ix (e_var 1 rfl (e_var 2 rfl ⟨_, _, rfl, rfl, xs, _, _, rfl, rfl, am, ea_nil ⟨_, rfl, hx _ (List.getElem_mem hlt), _, rfl, rfl, ?_⟩⟩)))
      exact iteF rfl
    · refine e_frz (e_lst (ea_nil fun b => ⟨b, _, rfl, _, _, rfl, rfl, _, ⟨?_, Shp.shaped (n := 1) (Shp.lst fun _ h => nomatch h), rfl⟩, ?_⟩))
      · exact Shp.shaped (n := 1) (Shp.lst fun x hx => by
          obtain ⟨i, _, e⟩ := List.mem_map.mp hx
          rw [← e]; exact Shp.int _)
      · rw [List.filter_eq_nil_iff.mpr fun _ _ => Bool.false_ne_true, List.map_nil, eqv_nil_lst]
        exact hq
  | none =>
    refine iteF (b_nil (b_cons (b_if (t_cmp cd_is rfl (e_var 1 rfl (e_non ⟨_, _, rfl, rfl, _, ⟨rfl, rfl⟩, ?_⟩))))))
    exact iteT (b_cons (b_ret (e_cmp cd_is rfl (e_var 0 rfl (e_non ⟨_, _, rfl, rfl, _, ⟨rfl, rfl⟩, hq⟩)))))
  | str h =>
    refine iteF (b_nil (b_cons (b_if (t_cmp cd_is rfl (e_var 1 rfl (e_non ⟨_, _, rfl, rfl, _, ⟨rfl, rfl⟩, ?_⟩))))))
    refine iteF (b_nil (b_cons (b_if (t_val (e_isinst isStr kb_str T.isinst T.str (by decide +kernel) (e_var 1 rfl ⟨_, rfl, _, rfl, ?_⟩))))))
    refine iteT (b_cons (b_ret (e_and (e_isinst isStr kb_str T.isinst T.str (by decide +kernel) (e_var 0 rfl ⟨_, rfl, _, rfl, ?_⟩)))))
    refine iteT (e_one (e_cmp cd_eq rfl (e_var 0 rfl (e_var 1 rfl ⟨_, _, rfl, rfl, _, ⟨Shp.shaped (n := 0) (Shp.str h), Shp.shaped (n := 0) (Shp.str h), rfl⟩, ?_⟩))))
    rw [eqv_str, beq_self_eq_true]; exact hq
  | int b =>
    refine iteF (b_nil (b_cons (b_if (t_cmp cd_is rfl (e_var 1 rfl (e_non ⟨_, _, rfl, rfl, _, ⟨rfl, rfl⟩, ?_⟩))))))
    refine iteF (b_nil (b_cons (b_if (t_val (e_isinst isStr kb_str T.isinst T.str (by decide +kernel) (e_var 1 rfl ⟨_, rfl, _, rfl, ?_⟩))))))
    refine iteF (b_nil (b_cons (b_ret (e_and (e_isinst isInt kb_int T.isinst T.int (by decide +kernel) (e_var 0 rfl ⟨_, rfl, _, rfl, ?_⟩))))))
    refine iteT (e_and (e_cmp cd_eq rfl (e_isinst isBool kb_bool T.isinst T.bool (by decide +kernel) (e_var 0 rfl ⟨_, rfl, ?_⟩))))
    refine e_isinst isBool kb_bool T.isinst T.bool (by decide +kernel) (e_var 1 rfl ⟨_, rfl, _, _, rfl, rfl, _, ⟨Shp.shaped (n := 0) (Shp.bool _), Shp.shaped (n := 0) (Shp.bool _), rfl⟩, _, rfl, ?_⟩)
    rw [eqv_bool, beq_self_eq_true]
    refine iteT (e_one (e_cmp cd_eq rfl (e_var 0 rfl (e_var 1 rfl ⟨_, _, rfl, rfl, _, ⟨Shp.shaped (n := 0) (Shp.int _), Shp.shaped (n := 0) (Shp.int _), rfl⟩, ?_⟩))))
    rw [eqv_int, beq_self_eq_true]; exact hq
  | bool b =>
    refine iteF (b_nil (b_cons (b_if (t_cmp cd_is rfl (e_var 1 rfl (e_non ⟨_, _, rfl, rfl, _, ⟨rfl, rfl⟩, ?_⟩))))))
    refine iteF (b_nil (b_cons (b_if (t_val (e_isinst isStr kb_str T.isinst T.str (by decide +kernel) (e_var 1 rfl ⟨_, rfl, _, rfl, ?_⟩))))))
    refine iteF (b_nil (b_cons (b_ret (e_and (e_isinst isInt kb_int T.isinst T.int (by decide +kernel) (e_var 0 rfl ⟨_, rfl, _, rfl, ?_⟩))))))
    refine iteT (e_and (e_cmp cd_eq rfl (e_isinst isBool kb_bool T.isinst T.bool (by decide +kernel) (e_var 0 rfl ⟨_, rfl, ?_⟩))))
    refine e_isinst isBool kb_bool T.isinst T.bool (by decide +kernel) (e_var 1 rfl ⟨_, rfl, _, _, rfl, rfl, _, ⟨Shp.shaped (n := 0) (Shp.bool _), Shp.shaped (n := 0) (Shp.bool _), rfl⟩, _, rfl, ?_⟩)
    rw [eqv_bool, beq_self_eq_true]
    refine iteT (e_one (e_cmp cd_eq rfl (e_var 0 rfl (e_var 1 rfl ⟨_, _, rfl, rfl, _, ⟨Shp.shaped (n := 0) (Shp.bool _), Shp.shaped (n := 0) (Shp.bool _), rfl⟩, ?_⟩))))
    rw [eqv_bool, beq_self_eq_true]; exact hq
theorem same_ok {M : Mdl} {f fd} (T : Bt3 M) (Fd : Fun M.K "_law_same" "_law_same" s_same f fd) (hm : M.mg "_law_same" = some (.ref f)) (hb : Binds M.K fd ["seen", "due"] []) : ∀ n : Nat, Fnc M "_law_same" (n + 1) 2 (RP (rSame n))
  | 0 => same_step T Fd hm hb 0 0 fun m e => by cases e
  | n + 1 => same_step T Fd hm hb (n + 1) (n + 1) fun m e => by cases e; exact same_ok T Fd hm hb n
theorem draws_ok {M : Mdl} {f fd} (T : Bt3 M) (Fd : Fun M.K "_law_draws" "_law_draws" s_draws f fd) (hm : M.mg "_law_draws" = some (.ref f)) (hb : Binds M.K fd ["script", "many"] []) : Fnc M "_law_draws" 1 2 RDraws := by
  refine fn_ok Fd hm hb sc_draws fun ss Qd ⟨a, ns, many, e, hn, hmany, hq⟩ _ => ?_
  subst e
  show B _ [scrS a ns, .dat (.int (many : Int)), .un, .un, .un, .un, .un, .un] _ _
  refine b_cons (b_set 2 (e_lst (ea_nil fun l => ?_)))
  refine b_cons (b_set 3 (e_int ?_))
  refine b_cons (b_forI (α := Nat) [4, 5, 6, 7] (fun k : Nat => .int (k : Int)) (t := .name 4) (.name 4) ?_)
  refine ij_rangeN T.range (e_lenScr T.len (e_bor 0 rfl ⟨a, rfl, 0, ns, rfl, ns.length, rfl, by omega, List.range ns.length, fun pre Γ' => ∃ (ds : List Int) (mixed : Int), ds.length ≤ 62 * pre.length ∧ (∀ x ∈ ds, 0 ≤ x ∧ x < 997) ∧ Γ' = [scrS a ns, .dat (.int (many : Int)), lst l (ds.map .int), .dat (.int mixed), .un, .un, .un, .un], rfl, ⟨[], 7, Nat.zero_le _, (fun _ h => nomatch h), rfl⟩, ?_, ?_⟩))
  · rintro pre k post Γ' hz ⟨ds, mixed, hdl, hds, e⟩
    subst e
    obtain ⟨hk, hlt⟩ := range_split hz
    refine b_cons (b_set 5 (e_blt bl_abs (ea_cons (e_intI T.int (e_ixScr (e_bor 0 rfl (e_var 4 rfl ⟨a, rfl, (k : Int), 0, ns, rfl, rfl, ns[k], atI_nat (List.getElem?_eq_getElem hlt), _, rfl, ea_nil ⟨_, ⟨_, rfl, rfl⟩, ?_⟩⟩))))) rfl T.abs (by decide +kernel)))
    generalize (if ns[k] < 0 then -ns[k] else ns[k]) = cell
    refine b_cons (b_set 3 ?_)
    refine e_modI (e_intI T.int (e_addI (e_addI (e_mulI ?_))))
    refine e_var 3 rfl (e_int ⟨_, _, rfl, rfl, .inr (by decide), ?_⟩)
    refine e_modI (e_var 5 rfl (e_int ⟨_, _, rfl, rfl, by decide, _, _, rfl, rfl, ?_⟩))
    refine e_var 4 rfl ⟨_, _, rfl, rfl, _, rfl, ?_⟩
    refine e_int ⟨_, _, rfl, rfl, by decide, ?_⟩
    generalize (mixed * 48271 + cell % 1000003 + (k : Int)) % 65537 = mixed2
    refine b_cons (b_set 6 (e_int ?_))
    refine (b_cut (fun Γ' => ∃ (ds : List Int) (rest : Int), ds.length ≤ 62 * pre.length + 2 ∧ (∀ x ∈ ds, 0 ≤ x ∧ x < 997) ∧ Γ' = [scrS a ns, .dat (.int (many : Int)), lst l (ds.map .int), .dat (.int mixed2), .dat (.int (k : Int)), .dat (.int cell), .dat (.int rest), .un]) ?_ ?_)
    · refine b_if (t_cmp cd_ge rfl (e_var 5 rfl ?_))
      refine e_bin bd_pow (e_int (e_int ⟨_, _, rfl, rfl, _, ⟨_, _, rfl, rfl, ⟨by decide, by decide, by decide⟩, rfl⟩, ?_⟩))
      refine ⟨_, _, rfl, rfl, _, ⟨_, _, rfl, rfl, rfl⟩, ?_⟩
      cases hc : decide ((10 : Int) ^ (18 : Int).toNat ≤ cell) with
      | true => exact iteT (b_cons (b_set 6 (e_var 5 rfl (b_nil ⟨ds, cell, by omega, hds, rfl⟩))))
      | false =>
        refine iteF (b_cons (b_expr (e_append (e_bor 2 rfl ⟨l, rfl, ⟨2, _, rfl⟩, ?_⟩))))
        refine e_modI (e_intI T.int (e_var 5 rfl ⟨_, rfl, ?_⟩))
        refine e_int ⟨_, _, rfl, rfl, by decide, _, rfl, 2, _, rfl, ?_, ?_⟩
        · rw [List.length_map]; omega
        refine b_cons (b_expr (e_append (e_bor 2 rfl ⟨l, rfl, ⟨2, _, rfl⟩, ?_⟩)))
        refine e_modI (e_modI (e_intI T.int (e_addI (e_mulI ?_))))
        refine e_var 3 rfl (e_int ⟨_, _, rfl, rfl, .inr (by decide), ?_⟩)
        refine e_int ⟨_, _, rfl, rfl, _, rfl, ?_⟩
        refine e_int ⟨_, _, rfl, rfl, by decide, ?_⟩
        refine e_int ⟨_, _, rfl, rfl, by decide, _, rfl, 2, _, rfl, ?_, ?_⟩
        · rw [List.length_append, List.length_map]; show ds.length + 1 < 1000000; omega
        refine b_nil ⟨ds ++ [cell % 997, (mixed2 * 69621 + 5) % 65521 % 997], 0, by rw [List.length_append]; show ds.length + 2 ≤ _; omega, fun x hx => ?_, ?_⟩
        · rcases List.mem_append.mp hx with hx | hx
          · exact hds x hx
          · rcases List.mem_cons.mp hx with e | hx
            · subst e; exact ⟨Int.emod_nonneg _ (by decide), Int.emod_lt_of_pos _ (by decide)⟩
            · rw [List.mem_singleton] at hx
              subst hx
              exact ⟨Int.emod_nonneg _ (by decide), Int.emod_lt_of_pos _ (by decide)⟩
        · rw [List.map_append]
          show [_, _, lst l ((ds.map PyData.int ++ [_]) ++ [_]), _, _, _, _, _] = _
          rw [List.append_assoc]; rfl
    · rintro Γ' ⟨ds2, rest, hl2, hds2, e⟩
      subst e
      refine b_cons (b_forI (α := Nat) [7] (fun k : Nat => .int (k : Int)) (t := .name 7) (.name 7) ?_)
      refine ij_rangeN T.range (e_int ⟨60, rfl, by decide, List.range 60, fun pre2 Γ' => ∃ (ds3 : List Int) (rest : Int), ds3.length ≤ 62 * pre.length + 2 + pre2.length ∧ (∀ x ∈ ds3, 0 ≤ x ∧ x < 997) ∧ Γ' = [scrS a ns, .dat (.int (many : Int)), lst l (ds3.map .int), .dat (.int mixed2), .dat (.int (k : Int)), .dat (.int cell), .dat (.int rest), .un], rfl, ⟨ds2, rest, hl2, hds2, rfl⟩, ?_, ?_⟩)
      · rintro pre2 t post2 Γ' hz2 ⟨ds3, rest, hl3, hds3, e⟩
        subst e
        obtain ⟨ht, htl⟩ := range_split hz2
        refine b_cons (b_if (t_cmp cd_gt rfl (e_var 6 rfl (e_int ⟨_, _, rfl, rfl, _, ⟨_, _, rfl, rfl, rfl⟩, ?_⟩))))
        cases hc : decide ((0 : Int) < rest) with
        | false => exact iteF (b_nil (b_nil ⟨ds3, rest, by rw [List.length_append]; omega, hds3, rfl⟩))
        | true =>
          refine iteT (b_cons (b_expr (e_append (e_bor 2 rfl ⟨l, rfl, ⟨2, _, rfl⟩, ?_⟩))))
          refine e_modI (e_intI T.int (e_var 6 rfl ⟨_, rfl, ?_⟩))
          refine e_int ⟨_, _, rfl, rfl, by decide, _, rfl, 2, _, rfl, ?_, ?_⟩
          · rw [List.length_map]; omega
          refine b_cons (b_set 6 (e_divI (e_var 6 rfl (e_int ⟨_, _, rfl, rfl, ⟨by decide, by decide⟩, ?_⟩))))
          refine b_nil (b_nil ⟨ds3 ++ [rest % 997], rest / 997, by rw [List.length_append, List.length_append]; show ds3.length + 1 ≤ _ + (_ + 1); omega, fun x hx => ?_, ?_⟩)
          · rcases List.mem_append.mp hx with hx | hx
            · exact hds3 x hx
            · rw [List.mem_singleton] at hx
              subst hx
              exact ⟨Int.emod_nonneg _ (by decide), Int.emod_lt_of_pos _ (by decide)⟩
          · rw [List.map_append]; rfl
      · rintro Γ' ⟨ds3, rest, hl3, hds3, e⟩
        subst e
        refine b_nil ⟨ds3, mixed2, ?_, hds3, rfl⟩
        rw [List.length_range] at hl3
        rw [List.length_append]; show ds3.length ≤ 62 * (pre.length + 1); omega
  · rintro Γ' ⟨ds, mixed, hdl, hds, e⟩
    subst e
    rw [List.length_range] at hdl
    refine b_cons (b_forI (α := Nat) [4] (fun k : Nat => .int (k : Int)) (t := .name 4) (.name 4) ?_)
    refine ij_rangeN T.range (e_var 1 rfl ⟨many, rfl, by omega, List.range many, fun pre Γ' => ∃ (ds2 : List Int) (mixed : Int), ds2.length ≤ ds.length + pre.length ∧ (∀ x ∈ ds2, 0 ≤ x ∧ x < 997) ∧ Γ' = [scrS a ns, .dat (.int (many : Int)), lst l (ds2.map .int), .dat (.int mixed), .un, .un, .un, .un], rfl, ⟨ds, mixed, Nat.le_refl _, hds, rfl⟩, ?_, ?_⟩)
    · rintro pre k post Γ' hz ⟨ds2, mixed, hl2, hds2, e⟩
      subst e
      obtain ⟨hk, hlt⟩ := range_split hz
      refine b_cons (b_set 3 (e_modI (e_intI T.int (e_addI (e_addI (e_mulI ?_))))))
      refine e_var 3 rfl (e_int ⟨_, _, rfl, rfl, .inr (by decide), ?_⟩)
      refine e_var 4 rfl ⟨_, _, rfl, rfl, ?_⟩
      refine e_int ⟨_, _, rfl, rfl, _, rfl, ?_⟩
      refine e_int ⟨_, _, rfl, rfl, by decide, ?_⟩
      refine b_cons (b_expr (e_append (e_bor 2 rfl ⟨l, rfl, ⟨2, _, rfl⟩, ?_⟩)))
      refine e_modI (e_intI T.int (e_var 3 rfl ⟨_, rfl, ?_⟩))
      refine e_int ⟨_, _, rfl, rfl, by decide, _, rfl, 2, _, rfl, ?_, ?_⟩
      · rw [List.length_map]; omega
      refine b_nil ⟨ds2 ++ [(mixed * 16807 + (k : Int) + 1) % 65537 % 997], (mixed * 16807 + (k : Int) + 1) % 65537, by rw [List.length_append, List.length_append]; show ds2.length + 1 ≤ _ + (_ + 1); omega, fun x hx => ?_, ?_⟩
      · rcases List.mem_append.mp hx with hx | hx
        · exact hds2 x hx
        · rw [List.mem_singleton] at hx
          subst hx
          exact ⟨Int.emod_nonneg _ (by decide), Int.emod_lt_of_pos _ (by decide)⟩
      · rw [List.map_append]; rfl
    · rintro Γ' ⟨ds2, mixed, hl2, hds2, e⟩
      subst e
      refine b_cons (b_ret (e_slL (e_varF 2 rfl (e_var 1 rfl ⟨_, rfl, _, rfl, fun l2 => ?_⟩))))
      intro _
      rw [cut_take, ← List.map_take]
      show Qd [finS (scrS a ns) (scrS a ns), .un] _
      rw [finS_own]
      exact hq l2 (ds2.take many) fun x hx => hds2 x (List.mem_of_mem_take hx)
end K61
namespace K61
open PySem L2 DL
/-! ### the law's rules -/
def SpanOk (sizes : List Int) (sp : List Span) : Prop := ∀ (i : Nat) (s : Span) (n : Int), sp[i]? = some s → sizes[i]? = some n → 0 ≤ s.1 ∧ s.1 ≤ s.2 ∧ s.2 < n
def RuleGood (sizes : List Int) (r : Rule) : Prop := (r.word = "yes" ∨ r.word = "no") ∧ r.spans.length = sizes.length ∧ SpanOk sizes r.spans
def rRules : List PyData → (Sl → Prop) → Prop := fun ds q => ∃ sizes, ds = [eSizes sizes] ∧ sizes.length ≤ 3 ∧ (∀ s ∈ sizes, 0 < s) ∧ ∀ rs : List Rule, rs.length ≤ 4 → (∀ r ∈ rs, RuleGood sizes r) → q (.dat (eRules rs))
theorem int_mem {d : PyData} {l : List Int} {lo hi : Int} (h : d ∈ l.map PyData.int) (hl : ∀ x ∈ l, lo ≤ x ∧ x < hi) : ∃ i, d = .int i ∧ lo ≤ i ∧ i < hi := by
  obtain ⟨i, hi, e⟩ := List.mem_map.mp h
  exact ⟨i, e.symm, hl i hi⟩
theorem rules_ok {M : Mdl} {f fd} (T : Bt3 M) (hn : Fnc M "_law_next" 1 2 (RW rNext)) (hp : Fnc M "_law_pick" 2 2 (RW rPick)) (Fd : Fun M.K "_law_rules" "_law_rules" s_rules f fd) (hm : M.mg "_law_rules" = some (.ref f)) (hb : Binds M.K fd ["w", "sizes"] []) : Fnc M "_law_rules" 3 2 (RW rRules) := by
  refine fn_W Fd hm hb sc_rules fun a ds q ⟨sizes, e, hsl, hpos, hq⟩ _ => ?_
  subst e
  show B _ [wS a, .dat (eSizes sizes), .un, .un, .un, .un, .un] _ _
  refine b_cons (b_set 2 (e_lst (ea_nil fun l => ?_)))
  refine b_cons (b_forI (α := Nat) [3, 4, 5, 6] (fun k : Nat => .int (k : Int)) (t := .name 3) (.name 3) ?_)
  refine ij_rangeN T.range (e_callW hn (ea_cons (e_bor 0 rfl (ea_cons (e_int (ea_nil ⟨0, rfl, 5, rfl, by decide, fun m m0 m1 => ?_⟩))))))
  refine ⟨m.toNat, by rw [Int.toNat_of_nonneg m0], by omega, List.range m.toNat, fun pre Γ' => ∃ rs : List Rule, rs.length = pre.length ∧ (∀ r ∈ rs, RuleGood sizes r) ∧ Γ' = [wS a, .dat (eSizes sizes), lst l (rs.map eRule), .un, .un, .un, .un], rfl, ⟨[], rfl, (fun _ h => nomatch h), rfl⟩, ?_, ?_⟩
  · rintro pre k post Γ' hz ⟨rs, hrl, hrs, e⟩
    subst e
    have hk := range_split hz
    refine b_cons (b_set 4 (e_lst (ea_nil fun l2 => ?_)))
    refine b_cons (b_forI (α := Int) [5, 6] .int (t := .name 5) (.name 5) ?_)
    refine ij_tup (e_var 1 rfl ⟨_, rfl, sizes, fun pre2 Γ' => ∃ sp : List Span, sp.length = pre2.length ∧ SpanOk sizes sp ∧ Γ' = [wS a, .dat (eSizes sizes), lst l (rs.map eRule), .dat (.int (k : Int)), lst l2 (sp.map eSpan), .un, .un], rfl, ⟨[], rfl, (fun i s n h => by simp at h), rfl⟩, ?_, ?_⟩)
    · rintro pre2 size post2 Γ' hz2 ⟨sp, hspl, hsp, e⟩
      subst e
      have hps : 0 < size := hpos size (by rw [hz2]; simp)
      have hsi : sizes[sp.length]? = some size := by rw [hspl, hz2, List.getElem?_append_right (Nat.le_refl _), Nat.sub_self]; rfl
      refine b_cons <| b_set 6 <| e_callW hp <| ea_cons <| e_bor 0 rfl <| ea_cons <| e_frz <| e_lst ?_
      refine ea_cons <| e_int <| ea_cons <| e_callW hn <| ea_cons <| e_bor 0 rfl <| ea_cons <| e_var 5 rfl <| ea_nil ⟨0, rfl, size, rfl, hps, fun n1 a1 b1 => ?_⟩
      refine ea_cons <| e_callW hn <| ea_cons <| e_bor 0 rfl <| ea_cons <| e_var 5 rfl <| ea_nil ⟨0, rfl, size, rfl, hps, fun n2 a2 b2 => ?_⟩
      refine ea_nil fun l3 => ⟨l3, _, rfl, ea_nil ⟨0, rfl, _, rfl, Nat.zero_lt_succ _, fun d hd => ?_⟩⟩
      obtain ⟨low, e, h0, h1⟩ := int_mem (l := [0, n1, n2]) (lo := 0) (hi := size) hd fun x hx => by
        simp only [List.mem_cons, List.not_mem_nil, or_false] at hx
        omega
      subst e
      refine b_cons <| b_expr <| e_append <| e_bor 4 rfl ⟨l2, rfl, ⟨4, _, rfl⟩, ?_⟩
      refine e_tup <| ea_cons <| e_var 6 rfl <| ea_cons <| e_addI <| e_var 6 rfl ?_
      refine e_callW hp <| ea_cons <| e_bor 0 rfl <| ea_cons <| e_frz <| e_lst ?_
      refine ea_cons <| e_int <| ea_cons <| e_callW hn <| ea_cons <| e_bor 0 rfl <| ea_cons <| e_subI <| e_var 5 rfl <| e_var 6 rfl ⟨_, _, rfl, rfl, ?_⟩
      refine ea_nil ⟨0, rfl, size - low, rfl, by omega, fun n3 a3 b3 => ?_⟩
      refine ea_cons <| e_subI <| e_subI <| e_var 5 rfl <| e_var 6 rfl ⟨_, _, rfl, rfl, e_int ⟨_, _, rfl, rfl, ?_⟩⟩
      refine ea_nil fun l4 => ⟨l4, _, rfl, ea_nil ⟨0, rfl, _, rfl, Nat.zero_lt_succ _, fun d hd => ?_⟩⟩
      obtain ⟨more, e, h2, h3⟩ := int_mem (l := [0, n3, size - low - 1]) (lo := 0) (hi := size - low) hd fun x hx => by
        simp only [List.mem_cons, List.not_mem_nil, or_false] at hx
        omega
      subst e
      refine ⟨_, _, rfl, rfl, ea_nil ⟨_, rfl, 4, _, rfl, ?_, ?_⟩⟩
      · rw [List.length_map]
        have : pre2.length < sizes.length := by rw [hz2]; simp
        omega
      · refine b_nil ⟨sp ++ [(low, low + more)], by rw [List.length_append, List.length_append, hspl]; rfl, fun i s n hi hn => ?_, by rw [List.map_append]; rfl⟩
        by_cases hlt : i < sp.length
        · rw [List.getElem?_append_left hlt] at hi
          exact hsp i s n hi hn
        · rw [List.getElem?_append_right (by omega)] at hi
          have e : i = sp.length := by
            by_cases e : i = sp.length
            · exact e
            · rw [List.getElem?_eq_none (by show 1 ≤ i - sp.length; omega)] at hi; cases hi
          subst e
          rw [Nat.sub_self] at hi
          rw [hsi] at hn
          cases hi
          cases hn
          show 0 ≤ low ∧ low ≤ low + more ∧ low + more < size
          omega
    · rintro Γ' ⟨sp, hspl, hsp, e⟩
      subst e
      refine b_cons <| b_expr <| e_append <| e_bor 2 rfl ⟨l, rfl, ⟨2, _, rfl⟩, e_tup <| ea_cons ?_⟩
      refine e_callW hp <| ea_cons <| e_bor 0 rfl <| ea_cons <| e_frz <| e_lst <| ea_cons <| e_str <| ea_cons <| e_str <| ea_cons <| e_str <| ea_nil fun l3 => ?_
      refine ⟨l3, _, rfl, ea_nil ⟨0, rfl, _, rfl, Nat.zero_lt_succ _, fun d hd => ?_⟩⟩
      obtain ⟨word, e, hw⟩ : ∃ word : Str, d = .str word ∧ (word = "yes" ∨ word = "no") := by
        simp only [List.mem_cons, List.not_mem_nil, or_false] at hd
        rcases hd with hd | hd | hd
        · exact ⟨_, hd, .inl rfl⟩
        · exact ⟨_, hd, .inr rfl⟩
        · exact ⟨_, hd, .inl rfl⟩
      subst e
      refine ea_cons (e_tuple T.tuple (e_varF 4 rfl ⟨_, rfl, _, rfl, ea_nil ⟨_, rfl, 2, _, rfl, ?_, ?_⟩⟩))
      · rw [List.length_map]
        have := hk.2
        omega
      · refine b_nil ⟨rs ++ [⟨word, sp⟩], by rw [List.length_append, List.length_append, hrl]; rfl, fun r hr => ?_, by rw [List.map_append]; rfl⟩
        rcases List.mem_append.mp hr with hr | hr
        · exact hrs r hr
        · rw [List.mem_singleton] at hr
          subst hr
          exact ⟨hw, hspl, hsp⟩
  · rintro Γ' ⟨rs, hrl, hrs, e⟩
    subst e
    rw [List.length_range] at hrl
    exact b_cons (b_ret (e_tuple T.tuple (e_varF 2 rfl ⟨_, rfl, _, rfl, ⟨rfl, hq rs (by omega) hrs⟩⟩)))
/-! ### the law's asks -/
def rng (n : Int) : List Int := (List.range n.toNat).map fun k : Nat => (k : Int)
def addAll (found : List (List Int)) (s : Int) : List (List Int) := found.flatMap fun a => (rng s).map fun n => a ++ [n]
def asksL (sizes : List Int) : List (List Int) := sizes.foldl addAll [[]]
theorem rng_len (n : Int) : (rng n).length = n.toNat := by unfold rng; rw [List.length_map, List.length_range]
theorem addAll_len {found : List (List Int)} {s : Int} : (addAll found s).length = found.length * s.toNat := by
  unfold addAll
  induction found with
  | nil => simp
  | cons b bs ih => rw [List.flatMap_cons, List.length_append, ih, List.length_map, List.length_cons, Nat.succ_mul, Nat.add_comm, rng_len]
theorem asksL_snoc {pre : List Int} {s : Int} : asksL (pre ++ [s]) = addAll (asksL pre) s := by unfold asksL; rw [List.foldl_append]; rfl
theorem asksL_len {sizes : List Int} (h : ∀ s ∈ sizes, s ≤ 20) (pre : List Int) : ∀ post : List Int, sizes = pre ++ post → (asksL pre).length ≤ 20 ^ pre.length := by
  refine snoc_ind (P := fun pre => ∀ post : List Int, sizes = pre ++ post → (asksL pre).length ≤ 20 ^ pre.length) (fun _ _ => Nat.le_refl 1) (fun pre s ih post e => ?_) pre
  rw [asksL_snoc, addAll_len, List.length_append]
  have h1 := ih (s :: post) (by rw [e]; simp)
  have h2 := h s (by rw [e]; simp)
  show _ ≤ 20 ^ pre.length * 20
  exact Nat.mul_le_mul h1 (by omega)
theorem asksL_width (sizes : List Int) : ∀ a ∈ asksL sizes, a.length = sizes.length := by
  refine snoc_ind (P := fun sizes => ∀ a ∈ asksL sizes, a.length = sizes.length) (fun a ha => by rw [List.mem_singleton.mp ha]) (fun pre s ih a ha => ?_) sizes
  rw [asksL_snoc] at ha
  obtain ⟨b, hb, ha⟩ := List.mem_flatMap.mp ha
  obtain ⟨n, _, e⟩ := List.mem_map.mp ha
  rw [← e, List.length_append, List.length_append, ih b hb, List.length_singleton, List.length_singleton]
def rAsks : List PyData → (Sl → Prop) → Prop := fun ds q => ∃ sizes, ds = [eSizes sizes] ∧ sizes.length ≤ 3 ∧ (∀ s ∈ sizes, 0 ≤ s ∧ s ≤ 20) ∧ q (.dat (.list ((asksL sizes).map eAsk)))
theorem asks_ok {M : Mdl} {f fd} (T : Bt3 M) (Fd : Fun M.K "_law_asks" "_law_asks" s_asks f fd) (hm : M.mg "_law_asks" = some (.ref f)) (hb : Binds M.K fd ["sizes"] []) : Fnc M "_law_asks" 1 1 (RP rAsks) := by
  refine fn_P Fd hm hb sc_asks fun ds q ⟨sizes, e, hl, hs, hq⟩ _ => ?_
  subst e
  show B _ [.dat (eSizes sizes), .un, .un, .un, .un, .un] _ _
  refine b_cons <| b_set 1 <| e_frz <| e_lst <| ea_cons <| e_tup <| ea_nil <| ea_nil fun l => ⟨l, _, rfl, ?_⟩
  refine b_cons (b_forI (α := Int) [2, 3, 4] .int (t := .name 2) (.name 2) ?_)
  refine ij_tup <| e_var 0 rfl ⟨_, rfl, sizes, fun pre Γ' => Γ' = [.dat (eSizes sizes), .dat (.list ((asksL pre).map eAsk)), .un, .un, .un, .un], rfl, rfl, ?_, ?_⟩
  · rintro pre s post Γ' hz e
    subst e
    have hsl := hs s (by rw [hz]; simp)
    have hal := asksL_len (fun s h => (hs s h).2) pre _ hz
    have hpl : pre.length ≤ 2 := by rw [hz, List.length_append, List.length_cons] at hl; omega
    have hpw : 20 ^ pre.length ≤ 20 ^ 2 := Nat.pow_le_pow_right (by decide) hpl
    refine b_cons <| b_set 3 <| e_frz <| e_lst <| ea_nil fun l => ⟨l, _, rfl, ?_⟩
    refine b_cons (b_forI (α := List Int) [4] eAsk (t := .name 4) (.name 4) ?_)
    refine ij_lst <| e_var 1 rfl ⟨_, rfl, asksL pre, fun pre2 Γ' => Γ' = [.dat (eSizes sizes), .dat (.list ((asksL pre).map eAsk)), .dat (.int s), .dat (.list ((addAll pre2 s).map eAsk)), .un, .un], rfl, rfl, ?_, ?_⟩
    · rintro pre2 ask post2 Γ' hz2 e
      subst e
      have hal2 : ask.length = pre.length := asksL_width pre ask (by rw [hz2]; simp)
      have hp2 : pre2.length < (asksL pre).length := by rw [hz2, List.length_append, List.length_cons]; omega
      refine b_cons <| b_set 3 <| e_frz <| e_catL <| e_var 3 rfl <| e_frz ?_
      refine e_lcM (α := Nat) [("number", 5)] (fun n : Nat => .int (n : Int)) (fun n => eAsk (ask ++ [(n : Int)])) (t := .name 5) (.name 5) ?_
      refine ij_range1 T.range <| e_var 2 rfl ⟨s, rfl, ⟨by omega, by omega⟩, List.range s.toNat, upto0 _, by rw [List.length_range]; omega, fun n hn => ?_, fun l2 => ⟨l2, _, rfl, _, _, rfl, rfl, ?_, fun l3 => ⟨l3, _, rfl, b_nil ?_⟩⟩⟩
      · refine e_catT <| e_var 4 rfl <| e_tup <| ea_cons <| e_var 5 rfl <| ea_nil ⟨_, _, rfl, rfl, ?_, ?_, rfl⟩
        · rw [List.length_map, hal2]; show pre.length + 1 ≤ 1000000; omega
        · show Sl.dat (.tuple (ask.map .int ++ [.int (n : Int)])) = Sl.dat (eAsk (ask ++ [(n : Int)]))
          unfold eAsk
          rw [List.map_append]; rfl
      · rw [List.length_map, List.length_map, addAll_len, List.length_range]
        have h2 : pre2.length * s.toNat ≤ 400 * 20 := Nat.mul_le_mul (by omega) (by omega)
        omega
      · have e : (addAll pre2 s).map eAsk ++ (List.range s.toNat).map (fun n : Nat => eAsk (ask ++ [(n : Int)])) = (addAll (pre2 ++ [ask]) s).map eAsk := by
          unfold addAll rng
          rw [List.flatMap_append, List.map_append]
          simp
        show [Sl.dat (eSizes sizes), .dat (.list ((asksL pre).map eAsk)), .dat (.int s), .dat (.list ((addAll pre2 s).map eAsk ++ (List.range s.toNat).map (fun n : Nat => eAsk (ask ++ [(n : Int)])))), .un, .un] = _
        rw [e]
    · rintro Γ' e
      subst e
      refine b_cons <| b_set 1 <| e_var 3 rfl <| b_nil ?_
      show [Sl.dat (eSizes sizes), .dat (.list ((addAll (asksL pre) s).map eAsk)), .un, .un, .un, .un] = [Sl.dat (eSizes sizes), .dat (.list ((asksL (pre ++ [s])).map eAsk)), .un, .un, .un, .un]
      rw [asksL_snoc]
  · rintro Γ' e
    subst e
    exact b_cons <| b_ret <| e_var 1 rfl hq
/-! ### the law's answers -/
theorem head_find {α : Type} {l : List α} {p : α → Bool} : (l.filter p)[0]? = l.find? p := by
  induction l with
  | nil => rfl
  | cons x xs ih =>
    rw [List.filter_cons, List.find?_cons]
    cases p x with
    | true => rfl
    | false => exact ih
def ableL (rules : List Rule) (ask : List Int) : List Nat := (List.range rules.length).filter fun k => under ask (rules.getD k ⟨"", []⟩).spans
theorem able_place {rules : List Rule} {ask : List Int} : (ableL rules ask)[0]? = placeOf rules ask := by
  unfold ableL
  rw [head_find]
  cases h : placeOf rules ask with
  | none =>
    unfold placeOf at h
    rw [List.findIdx?_eq_none_iff] at h
    rw [List.find?_eq_none]
    intro k hk
    have hlt := List.mem_range.mp hk
    rw [List.getD_eq_getElem?_getD, List.getElem?_eq_getElem hlt]
    simpa using h _ (List.getElem_mem hlt)
  | some k =>
    unfold placeOf at h
    rw [List.findIdx?_eq_some_iff_getElem] at h
    obtain ⟨hlt, h1, h2⟩ := h
    rw [List.find?_range_eq_some]
    refine ⟨?_, List.mem_range.mpr hlt, fun j hj => ?_⟩
    · rw [List.getD_eq_getElem?_getD, List.getElem?_eq_getElem hlt]; exact h1
    · rw [List.getD_eq_getElem?_getD, List.getElem?_eq_getElem (Nat.lt_trans hj hlt)]
      simpa using h2 j hj
theorem place2_ok {M : Mdl} {f fd} (T : Bt3 M) (Fd : Fun M.K "_law_place" "_law_place" s_place f fd) (hm : M.mg "_law_place" = some (.ref f)) (hb : Binds M.K fd ["rules", "ask"] []) : Fnc M "_law_place" 1 2 (RP rPlace) := by
  refine fn_P Fd hm hb sc_place fun ds q ⟨rules, ask, e, hl, hs, hq⟩ _ => ?_
  subst e
  show B _ [.dat (eRules rules), .dat (eAsk ask), .un, .un, .un, .un] _ _
  refine b_cons <| b_setLcF (α := Nat) 2 [("k", 3)] (fun k : Nat => .int (k : Int)) (fun k => under ask (rules.getD k ⟨"", []⟩).spans) (fun k : Nat => .int (k : Int)) (t := .name 3) (.name 3) ?_
  refine ij_rangeLen T.range T.len <| e_var 0 rfl ⟨_, _, rfl, rfl, by rw [List.length_map]; omega, List.range rules.length, by rw [List.length_map], by rw [List.length_range]; omega, fun k hk => ?_, fun l => ?_⟩
  · have hlt := List.mem_range.mp hk
    have hz : rules[k]? = some (rules.getD k ⟨"", []⟩) := by rw [List.getD_eq_getElem?_getD, List.getElem?_eq_getElem hlt]; rfl
    have hsl : (rules.getD k ⟨"", []⟩).spans.length ≤ 1000 := hs _ (List.mem_of_getElem? hz)
    generalize hr : rules.getD k ⟨"", []⟩ = r at hz hsl ⊢
    refine t_cmp cd_eq rfl <| e_frz ?_
    refine e_lcF (α := Int × Span) [("number", 4), ("span", 5)] (fun p => .tuple [.int p.1, eSpan p.2]) (fun p => !(decide (p.2.1 ≤ p.1) && decide (p.1 ≤ p.2.2))) (fun _ => .int 1) (t := .tup [.name 4, .name 5]) (.tup (.cons (.name 4) (.cons (.name 5) .nil))) ?_
    refine ij_zipT T.zip <| e_var 1 rfl <| e_ixC <| e_ixM <| e_var 0 rfl <| e_var 3 rfl ⟨_, rules, eRule, k, r, rfl, rfl, rfl, hz, _, _, _, rfl, rfl, rfl, ?_⟩
    refine ⟨_, _, rfl, rfl, ask.zip r.spans, zipD_ask ask r.spans, ?_, fun z hz2 => ?_, fun l2 => ⟨l2, _, rfl, ?_⟩⟩
    · rw [List.length_zip]; omega
    · refine ⟨_, rfl, rfl, ?_⟩
      refine t_not <| t_chain cd_le cd_le <| e_ixC <| e_var 5 rfl ⟨_, _, _, rfl, rfl, rfl, e_var 4 rfl ⟨_, _, rfl, rfl, _, ⟨_, _, rfl, rfl, rfl⟩, ?_⟩⟩
      cases h1 : decide (z.2.1 ≤ z.1) with
      | true =>
        refine iteT <| e_ixC <| e_var 5 rfl ⟨_, _, _, rfl, rfl, rfl, _, rfl, _, ⟨_, _, rfl, rfl, rfl⟩, ?_, ?_⟩
        · simp only [h1, Bool.true_and]
        · cases h2 : decide (z.1 ≤ z.2.2) with
          | true => exact iteF rfl
          | false => exact iteT <| e_int ⟨rfl, rfl⟩
      | false => exact iteF ⟨by simp only [h1, Bool.false_and], iteT <| e_int ⟨rfl, rfl⟩⟩
    · refine e_frz <| e_lst <| ea_nil fun l3 => ⟨l3, _, rfl, _, _, rfl, rfl, _, ⟨?_, Shp.shaped (n := 1) (Shp.lst fun _ h => nomatch h), rfl⟩, ?_, ?_⟩
      · exact Shp.shaped (n := 1) (Shp.lst fun x hx => by
          obtain ⟨i, _, e⟩ := List.mem_map.mp hx
          rw [← e]; exact Shp.int _)
      · rw [eqv_nil_lst]
        show _ = under ask (rules.getD k ⟨"", []⟩).spans
        rw [hr]
        unfold under
        generalize ask.zip r.spans = l
        induction l with
        | nil => rfl
        | cons x xs ih =>
          rw [List.filter_cons, List.all_cons]
          cases h : (decide (x.2.1 ≤ x.1) && decide (x.1 ≤ x.2.2)) with
          | true => simpa using ih
          | false => rfl
      · rw [eqv_nil_lst]
        split
        · exact e_var 3 rfl ⟨rfl, rfl⟩
        · rfl
  · refine b_cons <| b_ret <| e_ifExp <| t_cmp cd_ne rfl <| e_varF 2 rfl <| e_frz <| e_lst <| ea_nil fun l3 => ⟨l3, _, rfl, _, _, rfl, rfl, _, ⟨?_, Shp.shaped (n := 1) (Shp.lst fun _ h => nomatch h), rfl⟩, ?_⟩
    · exact Shp.shaped (n := 1) (Shp.lst fun x hx => by
        obtain ⟨i, _, e⟩ := List.mem_map.mp hx
        rw [← e]; exact Shp.int _)
    have hap := able_place (rules := rules) (ask := ask)
    rw [eqv_nil_lst]
    cases hc : ableL rules ask with
    | nil =>
      rw [hc] at hap
      unfold ableL at hc
      rw [hc]
      refine iteF <| e_non ?_
      rw [← hap] at hq
      exact hq
    | cons k ks =>
      rw [hc] at hap
      unfold ableL at hc
      rw [hc]
      refine iteT <| e_ixC <| e_var 2 rfl ⟨_, _, _, rfl, rfl, rfl, ?_⟩
      rw [← hap] at hq
      exact hq
theorem answer_ok {M : Mdl} {f fd} (T : Bt3 M) (hp : Fnc M "_law_place" 1 2 (RP rPlace)) (Fd : Fun M.K "_law_answer" "_law_answer" s_answer f fd) (hm : M.mg "_law_answer" = some (.ref f)) (hb : Binds M.K fd ["rules", "ask"] []) : Fnc M "_law_answer" 2 2 (RP rTold) := by
  refine fn_P Fd hm hb sc_answer fun ds q ⟨rules, ask, e, ⟨hl, hs, _⟩, hq⟩ _ => ?_
  subst e
  show B _ [.dat (eRules rules), .dat (eAsk ask), .un] _ _
  refine b_cons <| b_set 2 <| e_call hp <| ea_cons <| e_var 0 rfl <| ea_cons <| e_var 1 rfl <| ea_nil ⟨rules, ask, rfl, hl, hs, ?_⟩
  refine b_cons <| b_ret <| e_ifExp <| t_cmp cd_is rfl <| e_var 2 rfl <| e_non ⟨_, _, rfl, rfl, _, ⟨rfl, rfl⟩, ?_⟩
  rcases place_told (rules := rules) (ask := ask) with ⟨h1, h2⟩ | ⟨k, r, h1, h2, h3⟩
  · rw [h1]
    rw [h2] at hq
    exact iteT (e_str hq)
  · rw [h1]
    rw [h3] at hq
    exact iteF <| e_ixC <| e_ixM <| e_var 0 rfl <| e_var 2 rfl ⟨_, rules, eRule, k, r, rfl, rfl, rfl, h2, _, _, _, rfl, rfl, rfl, hq⟩
def sizesL : List (List Int) := [[7], [3, 4], [5, 3], [2, 3, 2], [9], [4, 4]]
theorem sizes_ok {M : Mdl} {f fd} (hp : Fnc M "_law_pick" 2 2 (RW rPick)) (Fd : Fun M.K "_law_sizes" "_law_sizes" s_sizes f fd) (hm : M.mg "_law_sizes" = some (.ref f)) (hb : Binds M.K fd ["w"] []) : Fnc M "_law_sizes" 3 1 (RW fun ds q => ds = [] ∧ ∀ sizes ∈ sizesL, q (.dat (eSizes sizes))) := by
  refine fn_W Fd hm hb sc_sizes fun a ds q ⟨e, hq⟩ _ => ?_
  subst e
  show B _ [wS a] _ _
  refine b_cons <| b_ret <| e_callW hp <| ea_cons <| e_bor 0 rfl <| ea_cons <| e_frz <| e_lst ?_
  refine ea_cons <| e_tup <| ea_cons <| e_int <| ea_nil ?_
  refine ea_cons <| e_tup <| ea_cons <| e_int <| ea_cons <| e_int <| ea_nil ?_
  refine ea_cons <| e_tup <| ea_cons <| e_int <| ea_cons <| e_int <| ea_nil ?_
  refine ea_cons <| e_tup <| ea_cons <| e_int <| ea_cons <| e_int <| ea_cons <| e_int <| ea_nil ?_
  refine ea_cons <| e_tup <| ea_cons <| e_int <| ea_nil ?_
  refine ea_cons <| e_tup <| ea_cons <| e_int <| ea_cons <| e_int <| ea_nil ?_
  refine ea_nil fun l => ⟨l, _, rfl, ea_nil ⟨0, rfl, _, rfl, by decide, fun d hd => ?_⟩⟩
  have hd2 : d ∈ sizesL.map eSizes := hd
  obtain ⟨sizes, h1, e⟩ := List.mem_map.mp hd2
  subst e
  exact ⟨rfl, hq sizes h1⟩
end K61
namespace K61
open PySem L2 DL
/-! ### a line cut into parts -/
/-- bl cuts [lo, n) into parts that are not empty -/
inductive Part : Int → Int → Blk → Prop
  | one {lo n} : lo < n → Part lo n [(lo, n)]
  | cons {lo d n bl} : lo < d → Part d n bl → Part lo n ((lo, d) :: bl)
def seg (lo n : Int) : List Int := (List.range (n - lo).toNat).map fun k : Nat => lo + (k : Int)
theorem seg_rng (n : Int) : seg 0 n = rng n := by
  unfold seg rng
  rw [Int.sub_zero]
  exact List.map_congr_left fun k _ => by rw [Int.zero_add]
theorem seg_app {lo d n : Int} (h1 : lo ≤ d) (h2 : d ≤ n) : seg lo n = seg lo d ++ seg d n := by
  unfold seg
  have e : (n - lo).toNat = (d - lo).toNat + (n - d).toNat := by omega
  rw [e, List.range_add, List.map_append, List.map_map]
  congr 1
  exact List.map_congr_left fun k _ => by show lo + (((d - lo).toNat + k : Nat) : Int) = d + (k : Int); omega
theorem mem_seg {lo n x : Int} : x ∈ seg lo n ↔ lo ≤ x ∧ x < n := by
  unfold seg
  rw [List.mem_map]
  constructor
  · rintro ⟨k, hk, e⟩
    have := List.mem_range.mp hk
    omega
  · intro ⟨h1, h2⟩
    exact ⟨(x - lo).toNat, List.mem_range.mpr (by omega), by omega⟩
theorem seg_cons {lo n : Int} (h : lo < n) : ∃ r, seg lo n = lo :: r := by
  have e := seg_app (lo := lo) (d := lo + 1) (n := n) (by omega) (by omega)
  have e2 : seg lo (lo + 1) = [lo] := by
    unfold seg
    have : (lo + 1 - lo).toNat = 1 := by omega
    rw [this]
    show [lo + ((0 : Nat) : Int)] = [lo]
    simp
  rw [e2] at e
  exact ⟨_, e⟩
theorem Part.lt {lo n : Int} {bl : Blk} (h : Part lo n bl) : lo < n := by
  induction h with
  | one h => exact h
  | cons h1 _ ih => omega
def sumOf {α : Type} (f : α → Int) (l : List α) : Int := (l.map f).sum
theorem sumOf_append {α : Type} (f : α → Int) (l m : List α) : sumOf f (l ++ m) = sumOf f l + sumOf f m := by
  unfold sumOf; rw [List.map_append, List.sum_append]
theorem sumOf_congr {α : Type} {f g : α → Int} {l : List α} (h : ∀ x ∈ l, f x = g x) : sumOf f l = sumOf g l := by
  unfold sumOf; rw [List.map_congr_left h]
theorem sumOf_const {α : Type} (c : Int) : ∀ l : List α, sumOf (fun _ => c) l = (l.length : Int) * c
  | [] => by unfold sumOf; simp
  | x :: xs => by
    have := sumOf_const c xs
    unfold sumOf at this ⊢
    rw [List.map_cons, List.sum_cons, this, List.length_cons, Int.natCast_add, Int.add_mul]
    show c + _ = _ + 1 * c
    omega
theorem seg_len (lo n : Int) : ((seg lo n).length : Int) = if lo ≤ n then n - lo else 0 := by
  unfold seg
  rw [List.length_map, List.length_range]
  split <;> omega
theorem sum_part {lo n : Int} {bl : Blk} (h : Part lo n bl) {f : Int → Int} (hf : ∀ p ∈ bl, ∀ x, p.1 ≤ x → x < p.2 → f x = f p.1) : sumOf f (seg lo n) = sumOf (fun p : Int × Int => (p.2 - p.1) * f p.1) bl := by
  have one : ∀ lo n : Int, lo < n → (∀ x, lo ≤ x → x < n → f x = f lo) → sumOf f (seg lo n) = (n - lo) * f lo := fun lo n h hf => by
    rw [sumOf_congr (g := fun _ => f lo) fun x hx => by
      obtain ⟨h1, h2⟩ := mem_seg.mp hx
      exact hf x h1 h2]
    rw [sumOf_const, seg_len, if_pos (by omega)]
  induction h with
  | @one lo n h =>
    rw [one lo n h fun x h1 h2 => hf (lo, n) List.mem_cons_self x h1 h2]
    unfold sumOf; simp
  | @cons lo d n bl h1 h2 ih =>
    have h3 := h2.lt
    rw [seg_app (d := d) (by omega) (by omega), sumOf_append, one lo d h1 fun x a b => hf (lo, d) List.mem_cons_self x a b, ih fun p hp => hf p (List.mem_cons_of_mem _ hp)]
    unfold sumOf; simp
theorem find_part {β : Type} {lo n : Int} {bl : Blk} (h : Part lo n bl) {f : Int → Option β} (hf : ∀ p ∈ bl, ∀ x, p.1 ≤ x → x < p.2 → f p.1 = none → f x = none) : (seg lo n).findSome? f = bl.findSome? fun p => f p.1 := by
  have one : ∀ lo n : Int, lo < n → (∀ x, lo ≤ x → x < n → f lo = none → f x = none) → (seg lo n).findSome? f = f lo := fun lo n h hf => by
    obtain ⟨r, e⟩ := seg_cons h
    rw [e, List.findSome?_cons]
    cases hc : f lo with
    | some b => rfl
    | none =>
      show r.findSome? f = none
      rw [List.findSome?_eq_none_iff]
      intro x hx
      have : x ∈ seg lo n := by rw [e]; exact List.mem_cons_of_mem _ hx
      obtain ⟨h1, h2⟩ := mem_seg.mp this
      exact hf x h1 h2 hc
  induction h with
  | @one lo n h =>
    rw [one lo n h fun x h1 h2 => hf (lo, n) List.mem_cons_self x h1 h2, List.findSome?_cons]
    cases f lo <;> rfl
  | @cons lo d n bl h1 h2 ih =>
    have h3 := h2.lt
    rw [seg_app (d := d) (by omega) (by omega), List.findSome?_append, one lo d h1 fun x a b => hf (lo, d) List.mem_cons_self x a b, ih fun p hp => hf p (List.mem_cons_of_mem _ hp), List.findSome?_cons]
    cases f lo <;> rfl
theorem part_mem {lo n : Int} {bl : Blk} (h : Part lo n bl) {x : Int} (h1 : lo ≤ x) (h2 : x < n) : ∃ p ∈ bl, p.1 ≤ x ∧ x < p.2 := by
  induction h with
  | @one lo n h => exact ⟨_, List.mem_cons_self, h1, h2⟩
  | @cons lo d n bl h3 h4 ih =>
    by_cases hx : x < d
    · exact ⟨_, List.mem_cons_self, h1, hx⟩
    · obtain ⟨p, hp, q⟩ := ih (by omega) h2
      exact ⟨p, List.mem_cons_of_mem _ hp, q⟩
theorem part_ne {lo n : Int} {bl : Blk} (h : Part lo n bl) : ∀ p ∈ bl, p.1 < p.2 ∧ p.2 ≤ n := by
  induction h with
  | @one lo n h => intro p hp; rw [List.mem_singleton.mp hp]; exact ⟨h, Int.le_refl _⟩
  | @cons lo d n bl h3 h4 ih =>
    intro p hp
    rcases List.mem_cons.mp hp with e | hp
    · subst e; exact ⟨h3, Int.le_of_lt h4.lt⟩
    · exact ih p hp
/-! ### products -/
def prodR {α : Type} : List (List α) → List (List α)
  | [] => [[]]
  | l :: ls => l.flatMap fun x => (prodR ls).map (x :: ·)
def addP {α : Type} (acc : List (List α)) (l : List α) : List (List α) := acc.flatMap fun a => l.map fun x => a ++ [x]
theorem flatMap_cg {α β : Type} {f g : α → List β} : ∀ {l : List α}, (∀ x ∈ l, f x = g x) → l.flatMap f = l.flatMap g
  | [], _ => rfl
  | x :: xs, h => by rw [List.flatMap_cons, List.flatMap_cons, h x List.mem_cons_self, flatMap_cg fun y hy => h y (List.mem_cons_of_mem _ hy)]
theorem foldl_addP {α : Type} : ∀ (ls : List (List α)) (acc : List (List α)), ls.foldl addP acc = acc.flatMap fun a => (prodR ls).map (a ++ ·)
  | [], acc => by
    show acc = acc.flatMap fun a => [a ++ []]
    simp
  | l :: ls, acc => by
    rw [List.foldl_cons, foldl_addP ls]
    unfold addP
    rw [List.flatMap_assoc]
    refine flatMap_cg fun a _ => ?_
    show (l.map fun x => a ++ [x]).flatMap _ = (l.flatMap fun x => (prodR ls).map (x :: ·)).map (a ++ ·)
    rw [List.flatMap_map, List.map_flatMap]
    refine flatMap_cg fun x _ => ?_
    rw [List.map_map]
    exact List.map_congr_left fun r _ => by simp
theorem asksL_eq (sizes : List Int) : asksL sizes = prodR (sizes.map rng) := by
  have h : asksL sizes = (sizes.map rng).foldl addP [[]] := by unfold asksL; rw [List.foldl_map]; rfl
  rw [h, foldl_addP]
  simp
theorem blocksN_eq (sizes : List Int) (rules : List Rule) (n : Nat) : blocksN sizes rules n = prodR ((List.range n).map fun f => fieldB rules f (sizes.getD f 0)) := by
  have h : blocksN sizes rules n = ((List.range n).map fun f => fieldB rules f (sizes.getD f 0)).foldl addP [[]] := by unfold blocksN; rw [List.foldl_map]; rfl
  rw [h, foldl_addP]
  simp
inductive InB : List Int → Blk → Prop
  | nil : InB [] []
  | cons {x a p b} : p.1 ≤ x → x < p.2 → InB a b → InB (x :: a) (p :: b)
inductive Parts : List Blk → List Int → Prop
  | nil : Parts [] []
  | cons {bl n bls ns} : Part 0 n bl → Parts bls ns → Parts (bl :: bls) (n :: ns)
def cnt : Blk → Int
  | [] => 1
  | p :: b => (p.2 - p.1) * cnt b
theorem corner_in {bls : List Blk} {ns : List Int} (h : Parts bls ns) : ∀ b ∈ prodR bls, InB (corner b) b := by
  induction h with
  | nil => intro b hb; rw [List.mem_singleton.mp hb]; exact .nil
  | @cons bl n bls ns hp _ ih =>
    intro b hb
    obtain ⟨p, h1, hb⟩ := List.mem_flatMap.mp hb
    obtain ⟨b', h2, e⟩ := List.mem_map.mp hb
    subst e
    exact .cons (Int.le_refl _) (part_ne hp p h1).1 (ih b' h2)
theorem sumOf_flatMap {α β : Type} (f : β → Int) (g : α → List β) : ∀ l : List α, sumOf f (l.flatMap g) = sumOf (fun x => sumOf f (g x)) l
  | [] => rfl
  | x :: xs => by
    rw [List.flatMap_cons, sumOf_append, sumOf_flatMap f g xs]; rfl
theorem sumOf_map {α β : Type} (f : β → Int) (g : α → β) (l : List α) : sumOf f (l.map g) = sumOf (fun x => f (g x)) l := by
  unfold sumOf; rw [List.map_map]; rfl
theorem sumOf_mul {α : Type} (c : Int) (f : α → Int) : ∀ l : List α, sumOf (fun x => c * f x) l = c * sumOf f l
  | [] => by unfold sumOf; simp
  | x :: xs => by
    have := sumOf_mul c f xs
    unfold sumOf at this ⊢
    rw [List.map_cons, List.sum_cons, this, List.map_cons, List.sum_cons, Int.mul_add]
theorem sum_prod {bls : List Blk} {ns : List Int} (h : Parts bls ns) : ∀ f : List Int → Int, (∀ a, ∀ b ∈ prodR bls, InB a b → f a = f (corner b)) → sumOf f (prodR (ns.map rng)) = sumOf (fun b => cnt b * f (corner b)) (prodR bls) := by
  induction h with
  | nil => intro f _; show (f [] + 0 : Int) = 1 * f [] + 0; omega
  | @cons bl n bls ns hp hps ih =>
    intro f hf
    have inv : ∀ p ∈ bl, ∀ x, p.1 ≤ x → x < p.2 → ∀ b ∈ prodR bls, ∀ a, InB a b → f (x :: a) = f (p.1 :: corner b) := fun p hpm x h1 h2 b hb a hab =>
      hf (x :: a) (p :: b) (List.mem_flatMap.mpr ⟨p, hpm, List.mem_map.mpr ⟨b, hb, rfl⟩⟩) (.cons h1 h2 hab)
    show sumOf f ((rng n).flatMap fun x => (prodR (ns.map rng)).map (x :: ·)) = sumOf _ (bl.flatMap fun p => (prodR bls).map (p :: ·))
    rw [sumOf_flatMap, sumOf_flatMap, ← seg_rng]
    have e1 : sumOf (fun x => sumOf f ((prodR (ns.map rng)).map (x :: ·))) (seg 0 n) = sumOf (fun x => sumOf (fun b => cnt b * f (x :: corner b)) (prodR bls)) (seg 0 n) := sumOf_congr fun x hx => by
      obtain ⟨h1, h2⟩ := mem_seg.mp hx
      obtain ⟨p, hpm, h3, h4⟩ := part_mem hp h1 h2
      rw [sumOf_map]
      exact ih (fun a => f (x :: a)) fun a b hb hab => by
        rw [inv p hpm x h3 h4 b hb a hab, inv p hpm x h3 h4 b hb _ (corner_in hps b hb)]
    rw [e1, sum_part hp (f := fun x => sumOf (fun b => cnt b * f (x :: corner b)) (prodR bls)) fun p hpm x h3 h4 => sumOf_congr fun b hb => by
      rw [inv p hpm x h3 h4 b hb _ (corner_in hps b hb)]]
    refine sumOf_congr fun p _ => ?_
    rw [sumOf_map, ← sumOf_mul]
    refine sumOf_congr fun b _ => ?_
    show _ = ((p.2 - p.1) * cnt b) * f (p.1 :: corner b)
    rw [Int.mul_assoc]
theorem find_prod {bls : List Blk} {ns : List Int} (h : Parts bls ns) : ∀ D : List Int → Bool, (∀ a, ∀ b ∈ prodR bls, InB a b → D a = D (corner b)) → (prodR (ns.map rng)).find? D = ((prodR bls).map corner).find? D := by
  induction h with
  | nil => intro D _; rfl
  | @cons bl n bls ns hp hps ih =>
    intro D hD
    have inv : ∀ p ∈ bl, ∀ x, p.1 ≤ x → x < p.2 → ∀ b ∈ prodR bls, ∀ a, InB a b → D (x :: a) = D (p.1 :: corner b) := fun p hpm x h1 h2 b hb a hab =>
      hD (x :: a) (p :: b) (List.mem_flatMap.mpr ⟨p, hpm, List.mem_map.mpr ⟨b, hb, rfl⟩⟩) (.cons h1 h2 hab)
    show ((rng n).flatMap fun x => (prodR (ns.map rng)).map (x :: ·)).find? D = ((bl.flatMap fun p => (prodR bls).map (p :: ·)).map corner).find? D
    rw [List.map_flatMap, List.find?_flatMap, List.find?_flatMap, ← seg_rng]
    have e1 : ∀ x, 0 ≤ x → x < n → ((prodR (ns.map rng)).map (x :: ·)).find? D = (((prodR bls).map corner).find? fun a => D (x :: a)).map (x :: ·) := fun x h1 h2 => by
      obtain ⟨p, hpm, h3, h4⟩ := part_mem hp h1 h2
      rw [List.find?_map]
      congr 1
      exact ih (fun a => D (x :: a)) fun a b hb hab => by
        rw [inv p hpm x h3 h4 b hb a hab, inv p hpm x h3 h4 b hb _ (corner_in hps b hb)]
    have e2 : (seg 0 n).findSome? (fun x => ((prodR (ns.map rng)).map (x :: ·)).find? D) = (seg 0 n).findSome? fun x => (((prodR bls).map corner).find? fun a => D (x :: a)).map (x :: ·) := by
      have : ∀ l : List Int, (∀ x ∈ l, 0 ≤ x ∧ x < n) → l.findSome? (fun x => ((prodR (ns.map rng)).map (x :: ·)).find? D) = l.findSome? fun x => (((prodR bls).map corner).find? fun a => D (x :: a)).map (x :: ·) := fun l => by
        induction l with
        | nil => intro _; rfl
        | cons x xs ihx =>
          intro hx
          have hx0 := hx x List.mem_cons_self
          rw [List.findSome?_cons, List.findSome?_cons, e1 x hx0.1 hx0.2, ihx fun y hy => hx y (List.mem_cons_of_mem _ hy)]
      exact this _ fun x hx => mem_seg.mp hx
    rw [e2, find_part hp (f := fun x => (((prodR bls).map corner).find? fun a => D (x :: a)).map (x :: ·)) fun p hpm x h3 h4 hn => ?_]
    · have : ∀ l : Blk, l.findSome? (fun p => (((prodR bls).map corner).find? fun a => D (p.1 :: a)).map (p.1 :: ·)) = l.findSome? fun p => (((prodR bls).map (p :: ·)).map corner).find? D := fun l => by
        induction l with
        | nil => rfl
        | cons p ps ihp =>
          rw [List.findSome?_cons, List.findSome?_cons, ihp]
          have : (((prodR bls).map (p :: ·)).map corner).find? D = (((prodR bls).map corner).find? fun a => D (p.1 :: a)).map (p.1 :: ·) := by
            have e : ((prodR bls).map (p :: ·)).map corner = ((prodR bls).map corner).map (p.1 :: ·) := by
              rw [List.map_map, List.map_map]; rfl
            rw [e, List.find?_map]; rfl
          rw [this]
      exact this bl
    · rw [Option.map_eq_none_iff, List.find?_eq_none] at hn ⊢
      intro c hc
      obtain ⟨b, hb, e⟩ := List.mem_map.mp hc
      subst e
      rw [inv p hpm x h3 h4 b hb _ (corner_in hps b hb)]
      exact hn _ hc
/-! ### the parts that the rules make -/
def SzOk (sizes : List Int) : Prop := sizes.length ≤ 3 ∧ ∀ s ∈ sizes, 0 < s ∧ s < 1099511627776
theorem part_zip {n : Int} : ∀ {c : Int} {cs : List Int}, (c :: cs).Pairwise (· < ·) → (∀ x ∈ c :: cs, x < n) → Part c n ((c :: cs).zip (cs ++ [n]))
  | c, [], _, h => .one (h c List.mem_cons_self)
  | c, d :: cs, hp, h => by
    have hp' := List.pairwise_cons.mp hp
    exact .cons (hp'.1 d List.mem_cons_self) (part_zip hp'.2 fun x hx => h x (List.mem_cons_of_mem _ hx))
theorem zip_gap {n : Int} : ∀ {c : Int} {cs : List Int}, (c :: cs).Pairwise (· < ·) → (∀ x ∈ c :: cs, x < n) → ∀ p ∈ (c :: cs).zip (cs ++ [n]), ∀ k ∈ c :: cs, k ≤ p.1 ∨ p.2 ≤ k
  | c, [], _, h, p, hp, k, hk => by
    rw [List.mem_singleton.mp hp, List.mem_singleton.mp hk]
    exact .inl (Int.le_refl _)
  | c, d :: cs, hp, h, p, hpm, k, hk => by
    have hp' := List.pairwise_cons.mp hp
    have hpart := part_zip hp'.2 fun x hx => h x (List.mem_cons_of_mem _ hx)
    rcases List.mem_cons.mp hpm with e | hpm2
    · subst e
      rcases List.mem_cons.mp hk with e | hk
      · subst e; exact .inl (Int.le_refl _)
      · rcases List.mem_cons.mp hk with e | hk
        · subst e; exact .inr (Int.le_refl _)
        · exact .inr (Int.le_of_lt ((List.pairwise_cons.mp hp'.2).1 k hk))
    · rcases List.mem_cons.mp hk with e | hk
      · subst e
        have : d ≤ p.1 := by
          have hz : ∀ {lo n : Int} {bl : Blk}, Part lo n bl → ∀ p ∈ bl, lo ≤ p.1 := fun h => by
            induction h with
            | one h => intro p hp; rw [List.mem_singleton.mp hp]; exact Int.le_refl _
            | cons h1 h2 ih =>
              intro p hp
              rcases List.mem_cons.mp hp with e | hp
              · subst e; exact Int.le_refl _
              · have := ih p hp; omega
          exact hz hpart p hpm2
        have h2 := hp'.1 d List.mem_cons_self
        exact .inl (by omega)
      · exact zip_gap hp'.2 (fun x hx => h x (List.mem_cons_of_mem _ hx)) p hpm2 k hk
theorem mem_cutNums {rules : List Rule} {f : Nat} {size k : Int} : k ∈ cutNums rules f size ↔ k = 0 ∨ ∃ r ∈ rules, ∃ s, r.spans[f]? = some s ∧ (k = s.1 ∨ k = s.2 + 1) ∧ k < size := by
  unfold cutNums
  rw [List.mem_cons, List.mem_flatMap]
  refine or_congr Iff.rfl ⟨fun ⟨r, hr, h⟩ => ?_, fun ⟨r, hr, s, hs, h1, h2⟩ => ⟨r, hr, ?_⟩⟩
  · unfold cutR at h
    cases hs : r.spans[f]? with
    | none => rw [hs] at h; cases h
    | some s =>
      rw [hs] at h
      obtain ⟨h1, h2⟩ := List.mem_filter.mp h
      refine ⟨r, hr, s, hs, ?_, of_decide_eq_true h2⟩
      simpa using h1
  · unfold cutR
    rw [hs]
    refine List.mem_filter.mpr ⟨by simpa using h1, decide_eq_true h2⟩
theorem cuts_shape {sizes : List Int} {rules : List Rule} {f : Nat} {size : Int} (hz : sizes[f]? = some size) (hpos : 0 < size) (hr : ∀ r ∈ rules, RuleGood sizes r) : ∃ cs, cuts rules f size = 0 :: cs ∧ ∀ x ∈ 0 :: cs, x < size := by
  have hm : ∀ k, k ∈ cuts rules f size ↔ k ∈ cutNums rules f size := fun k => mem_sortU
  have hall : ∀ k ∈ cuts rules f size, 0 ≤ k ∧ k < size := fun k hk => by
    rcases mem_cutNums.mp ((hm k).mp hk) with e | ⟨r, hrm, s, hs, h1, h2⟩
    · subst e; exact ⟨Int.le_refl _, hpos⟩
    · have := (hr r hrm).2.2 f s size hs hz
      refine ⟨?_, h2⟩
      omega
  have hs : (cuts rules f size).Pairwise (· < ·) := sortU_sorted _
  have h0 : (0 : Int) ∈ cuts rules f size := (hm 0).mpr (mem_cutNums.mpr (.inl rfl))
  cases hc : cuts rules f size with
  | nil => rw [hc] at h0; cases h0
  | cons c cs =>
    rw [hc] at h0 hs hall
    have hp := List.pairwise_cons.mp hs
    have : c = 0 := by
      rcases List.mem_cons.mp h0 with e | h
      · exact e.symm
      · have := hp.1 0 h
        have := hall c List.mem_cons_self
        omega
    subst this
    exact ⟨cs, rfl, fun x hx => (hall x hx).2⟩
theorem fieldB_part {sizes : List Int} {rules : List Rule} {f : Nat} {size : Int} (hz : sizes[f]? = some size) (hpos : 0 < size) (hr : ∀ r ∈ rules, RuleGood sizes r) : Part 0 size (fieldB rules f size) := by
  obtain ⟨cs, e, h⟩ := cuts_shape hz hpos hr
  have hs : (cuts rules f size).Pairwise (· < ·) := sortU_sorted _
  unfold fieldB
  rw [e] at hs ⊢
  exact part_zip hs h
theorem fieldB_gap {sizes : List Int} {rules : List Rule} {f : Nat} {size : Int} (hz : sizes[f]? = some size) (hpos : 0 < size) (hr : ∀ r ∈ rules, RuleGood sizes r) : ∀ p ∈ fieldB rules f size, ∀ k ∈ cutNums rules f size, k ≤ p.1 ∨ p.2 ≤ k := by
  obtain ⟨cs, e, h⟩ := cuts_shape hz hpos hr
  have hs : (cuts rules f size).Pairwise (· < ·) := sortU_sorted _
  intro p hp k hk
  have hk2 : k ∈ cuts rules f size := mem_sortU.mpr hk
  unfold fieldB at hp
  rw [e] at hs hp hk2
  exact zip_gap hs h p hp k hk2
theorem parts_of : ∀ (sizes : List Int) (g : Nat → Blk), (∀ i n, sizes[i]? = some n → Part 0 n (g i)) → Parts ((List.range sizes.length).map g) sizes
  | [], g, _ => .nil
  | n :: ns, g, h => by
    rw [List.length_cons, List.range_succ_eq_map, List.map_cons, List.map_map]
    exact .cons (h 0 n rfl) (parts_of ns (g ∘ Nat.succ) fun i m hi => h (i + 1) m hi)
theorem box_parts {sizes : List Int} {rules : List Rule} (hs : SzOk sizes) (hr : ∀ r ∈ rules, RuleGood sizes r) : Parts ((List.range sizes.length).map fun f => fieldB rules f (sizes.getD f 0)) sizes := by
  refine parts_of sizes _ fun i n hi => ?_
  have e : sizes.getD i 0 = n := by rw [List.getD_eq_getElem?_getD, hi]; rfl
  rw [e]
  exact fieldB_part hi (hs.2 n (List.mem_of_getElem? hi)).1 hr
theorem prodR_get {α : Type} : ∀ {ls : List (List α)} {b : List α}, b ∈ prodR ls → ∀ {i : Nat} {p : α}, b[i]? = some p → ∃ l, ls[i]? = some l ∧ p ∈ l
  | [], b, hb, i, p, hi => by
    rw [List.mem_singleton.mp hb] at hi
    cases hi
  | l :: ls, b, hb, i, p, hi => by
    obtain ⟨x, hx, hb⟩ := List.mem_flatMap.mp hb
    obtain ⟨b', hb', e⟩ := List.mem_map.mp hb
    subst e
    cases i with
    | zero => cases hi; exact ⟨l, rfl, hx⟩
    | succ i => exact prodR_get hb' hi
theorem InB.get {a : List Int} {b : Blk} (h : InB a b) : ∀ {i : Nat} {x : Int}, a[i]? = some x → ∃ p, b[i]? = some p ∧ (corner b)[i]? = some p.1 ∧ p.1 ≤ x ∧ x < p.2 := by
  induction h with
  | nil => intro i x h; cases h
  | @cons y a p b h1 h2 _ ih =>
    intro i x hi
    cases i with
    | zero => cases hi; exact ⟨p, rfl, rfl, h1, h2⟩
    | succ i => exact ih hi
theorem InB.len {a : List Int} {b : Blk} (h : InB a b) : a.length = b.length := by
  induction h with
  | nil => rfl
  | cons _ _ _ ih => rw [List.length_cons, List.length_cons, ih]
theorem under_congr : ∀ {a c : List Int} {sp : List Span}, a.length = c.length → (∀ (i : Nat) x y s, a[i]? = some x → c[i]? = some y → sp[i]? = some s → (s.1 ≤ x ↔ s.1 ≤ y) ∧ (x ≤ s.2 ↔ y ≤ s.2)) → under a sp = under c sp
  | [], [], sp, _, _ => rfl
  | x :: a, y :: c, [], _, _ => by unfold under; rw [List.zip_nil_right, List.zip_nil_right]
  | x :: a, y :: c, s :: sp, hl, h => by
    have ih := under_congr (a := a) (c := c) (sp := sp) (by simpa using hl) fun i x y s h1 h2 h3 => h (i + 1) x y s h1 h2 h3
    obtain ⟨e1, e2⟩ := h 0 x y s rfl rfl rfl
    unfold under at ih ⊢
    rw [List.zip_cons_cons, List.zip_cons_cons, List.all_cons, List.all_cons, ih, decide_eq_decide.mpr e1, decide_eq_decide.mpr e2]
  | [], _ :: _, _, hl, _ => by cases hl
  | _ :: _, [], _, hl, _ => by cases hl
theorem told_congr {a c : List Int} : ∀ {rules : List Rule}, (∀ r ∈ rules, under a r.spans = under c r.spans) → told rules a = told rules c := by
  intro rules h
  unfold told
  have : (rules.find? fun r => under a r.spans) = rules.find? fun r => under c r.spans := by
    induction rules with
    | nil => rfl
    | cons r rs ih =>
      rw [List.find?_cons, List.find?_cons, h r List.mem_cons_self, ih fun r hr => h r (List.mem_cons_of_mem _ hr)]
  rw [this]
theorem under_corner {sizes : List Int} {rules : List Rule} (hs : SzOk sizes) (hr : ∀ r ∈ rules, RuleGood sizes r) {a : List Int} {b : Blk} (hb : b ∈ prodR ((List.range sizes.length).map fun f => fieldB rules f (sizes.getD f 0))) (hab : InB a b) : ∀ r ∈ rules, under a r.spans = under (corner b) r.spans := by
  intro r hrm
  refine under_congr (by rw [hab.len]; unfold corner; rw [List.length_map]) fun i x y s hx hy hsp => ?_
  obtain ⟨p, hp, hc, h1, h2⟩ := hab.get hx
  rw [hc] at hy
  cases hy
  obtain ⟨l, hl, hpl⟩ := prodR_get hb hp
  rw [List.getElem?_map] at hl
  have hlt : i < sizes.length := by
    have : i < r.spans.length := (List.getElem?_eq_some_iff.mp hsp).1
    rw [(hr r hrm).2.1] at this
    exact this
  rw [List.getElem?_range hlt] at hl
  cases hl
  have hz : sizes[i]? = some (sizes.getD i 0) := by rw [List.getD_eq_getElem?_getD, List.getElem?_eq_getElem hlt]; rfl
  have hpos := (hs.2 _ (List.mem_of_getElem? hz)).1
  have good := (hr r hrm).2.2 i s _ hsp hz
  have gap := fieldB_gap hz hpos hr p hpl
  have pn := part_ne (fieldB_part hz hpos hr) p hpl
  have g1 := gap s.1 (mem_cutNums.mpr (.inr ⟨r, hrm, s, hsp, .inl rfl, by omega⟩))
  constructor
  · omega
  · by_cases hh : s.2 + 1 < sizes.getD i 0
    · have g2 := gap (s.2 + 1) (mem_cutNums.mpr (.inr ⟨r, hrm, s, hsp, .inr rfl, hh⟩))
      omega
    · omega
theorem told_corner {sizes : List Int} {rules sub : List Rule} (hs : SzOk sizes) (hr : ∀ r ∈ rules, RuleGood sizes r) (hsub : ∀ r ∈ sub, r ∈ rules) {a : List Int} {b : Blk} (hb : b ∈ prodR ((List.range sizes.length).map fun f => fieldB rules f (sizes.getD f 0))) (hab : InB a b) : told sub a = told sub (corner b) :=
  told_congr fun r hrs => under_corner hs hr hb hab r (hsub r hrs)
theorem place_congr {a c : List Int} : ∀ {rules : List Rule}, (∀ r ∈ rules, under a r.spans = under c r.spans) → placeOf rules a = placeOf rules c := by
  intro rules h
  unfold placeOf
  induction rules with
  | nil => rfl
  | cons r rs ih => rw [List.findIdx?_cons, List.findIdx?_cons, h r List.mem_cons_self, ih fun r hr => h r (List.mem_cons_of_mem _ hr)]
theorem cover {bls : List Blk} {ns : List Int} (h : Parts bls ns) : ∀ a ∈ prodR (ns.map rng), ∃ b ∈ prodR bls, InB a b := by
  induction h with
  | nil => intro a ha; rw [List.mem_singleton.mp ha]; exact ⟨[], List.mem_singleton.mpr rfl, .nil⟩
  | @cons bl n bls ns hp _ ih =>
    intro a ha
    obtain ⟨x, hx, ha⟩ := List.mem_flatMap.mp ha
    obtain ⟨a', ha', e⟩ := List.mem_map.mp ha
    subst e
    rw [← seg_rng] at hx
    obtain ⟨h1, h2⟩ := mem_seg.mp hx
    obtain ⟨p, hpm, h3, h4⟩ := part_mem hp h1 h2
    obtain ⟨b, hb, hab⟩ := ih a' ha'
    exact ⟨p :: b, List.mem_flatMap.mpr ⟨p, hpm, List.mem_map.mpr ⟨b, hb, rfl⟩⟩, .cons h3 h4 hab⟩
theorem part_lo {lo n : Int} {bl : Blk} (h : Part lo n bl) : ∀ p ∈ bl, lo ≤ p.1 := by
  induction h with
  | one h => intro p hp; rw [List.mem_singleton.mp hp]; exact Int.le_refl _
  | cons h1 h2 ih =>
    intro p hp
    rcases List.mem_cons.mp hp with e | hp
    · subst e; exact Int.le_refl _
    · have := ih p hp; omega
theorem inb_mem {bls : List Blk} {ns : List Int} (h : Parts bls ns) : ∀ b ∈ prodR bls, ∀ a, InB a b → a ∈ prodR (ns.map rng) := by
  induction h with
  | nil => intro b hb a hab; rw [List.mem_singleton.mp hb] at hab; cases hab; exact List.mem_singleton.mpr rfl
  | @cons bl n bls ns hp _ ih =>
    intro b hb a hab
    obtain ⟨p, h1, hb⟩ := List.mem_flatMap.mp hb
    obtain ⟨b', h2, e⟩ := List.mem_map.mp hb
    subst e
    cases hab with
    | @cons x a' _ _ h3 h4 h5 =>
      refine List.mem_flatMap.mpr ⟨x, ?_, List.mem_map.mpr ⟨a', ih b' h2 a' h5, rfl⟩⟩
      rw [← seg_rng]
      have := part_lo hp p h1
      have := part_ne hp p h1
      exact mem_seg.mpr ⟨by omega, by omega⟩
theorem mem_neverBy {n : Nat} {ps qs : List (Option Nat)} (h : ∀ k, some k ∈ ps ↔ some k ∈ qs) : (List.range n).filter (fun k => !decide (some k ∈ ps)) = (List.range n).filter fun k => !decide (some k ∈ qs) := by
  refine List.filter_congr fun k _ => ?_
  rw [decide_eq_decide.mpr (h k)]
theorem first_law {sizes : List Int} {one other : List Rule} (hs : SzOk sizes) (h1 : ∀ r ∈ one, RuleGood sizes r) (h2 : ∀ r ∈ other, RuleGood sizes r) : firstDiff sizes one other = (asksL sizes).find? fun a => told one a != told other a := by
  have h12 : ∀ r ∈ one ++ other, RuleGood sizes r := fun r hr => (List.mem_append.mp hr).elim (h1 r) (h2 r)
  unfold firstDiff cornersOf
  rw [asksL_eq, blocksN_eq]
  refine (find_prod (box_parts hs h12) (fun a => told one a != told other a) fun a b hb hab => ?_).symm
  rw [told_corner hs h12 (fun r h => List.mem_append_left _ h) hb hab, told_corner hs h12 (fun r h => List.mem_append_right _ h) hb hab]
theorem countIn_cnt (b : Blk) : countIn (spansOf b) = cnt b := by
  have h : ∀ (b : Blk) (n : Int), (spansOf b).foldl (fun n s => n * (s.2 - s.1 + 1)) n = n * cnt b := fun b => by
    induction b with
    | nil => intro n; show n = n * 1; omega
    | cons p b ih =>
      intro n
      show (spansOf b).foldl _ (n * ((p.2 - 1) - p.1 + 1)) = n * ((p.2 - p.1) * cnt b)
      rw [ih, Int.mul_assoc]
      congr 2
      omega
  unfold countIn
  rw [h, Int.one_mul]
theorem sum_filter {α : Type} (p : α → Bool) (f : α → Int) : ∀ l : List α, ((l.filter p).map f).sum = sumOf (fun x => f x * if p x = true then 1 else 0) l
  | [] => rfl
  | x :: xs => by
    have := sum_filter p f xs
    unfold sumOf at this ⊢
    rw [List.map_cons, List.sum_cons, ← this, List.filter_cons]
    cases p x with
    | true => simp
    | false => simp
def yesOf (rules : List Rule) (asks : List (List Int)) : Int := sumOf (fun a => if (told rules a == "yes") = true then 1 else 0) asks
theorem count_law {sizes : List Int} {one : List Rule} (hs : SzOk sizes) (h1 : ∀ r ∈ one, RuleGood sizes r) : countYes sizes one = yesOf one (asksL sizes) := by
  unfold countYes yesOf
  rw [sum_filter, asksL_eq, blocksN_eq]
  rw [sum_prod (box_parts hs h1) (fun a => if (told one a == "yes") = true then 1 else 0) fun a b hb hab => by
    rw [told_corner hs h1 (fun r h => h) hb hab]]
  exact sumOf_congr fun b _ => by rw [countIn_cnt]
theorem good_ok {sizes : List Int} {rules : List Rule} (hs : SzOk sizes) (hl : rules.length ≤ 20) (h : ∀ r ∈ rules, RuleGood sizes r) : RulesOk rules ∧ BoxOk sizes rules := by
  refine ⟨⟨by omega, fun r hr => ?_, fun r hr => ?_⟩, hs.1, hl, fun r hr => (h r hr).2.1⟩
  · rw [(h r hr).2.1]; have := hs.1; omega
  · rcases (h r hr).1 with e | e <;> rw [e] <;> decide +kernel
theorem small_ok {sizes : List Int} {rules : List Rule} (hs : SzOk sizes) (h : ∀ r ∈ rules, RuleGood sizes r) : ∀ b ∈ blocksN sizes rules sizes.length, Small (spansOf b) := by
  intro b hb s hm
  rw [blocksN_eq] at hb
  obtain ⟨p, hp, e⟩ := List.mem_map.mp hm
  obtain ⟨i, hi, e2⟩ := List.getElem_of_mem hp
  obtain ⟨l, hl, hpl⟩ := prodR_get hb (i := i) (p := p) (by rw [← e2]; exact List.getElem?_eq_getElem hi)
  rw [List.getElem?_map] at hl
  have hlt : i < sizes.length := by
    by_cases hlt : i < sizes.length
    · exact hlt
    · rw [List.getElem?_eq_none (by rw [List.length_range]; omega)] at hl; cases hl
  rw [List.getElem?_range hlt] at hl
  cases hl
  have hz : sizes[i]? = some (sizes.getD i 0) := by rw [List.getD_eq_getElem?_getD, List.getElem?_eq_getElem hlt]; rfl
  have hpos := hs.2 _ (List.mem_of_getElem? hz)
  have pn := part_ne (fieldB_part hz hpos.1 h) p hpl
  have hlo : 0 ≤ p.1 := by
    have hzz : ∀ {lo n : Int} {bl : Blk}, Part lo n bl → ∀ p ∈ bl, lo ≤ p.1 := fun h => by
      induction h with
      | one h => intro p hp; rw [List.mem_singleton.mp hp]; exact Int.le_refl _
      | cons h1 h2 ih =>
        intro p hp
        rcases List.mem_cons.mp hp with e | hp
        · subst e; exact Int.le_refl _
        · have := ih p hp; omega
    exact hzz (fieldB_part hz hpos.1 h) p hpl
  rw [← e]
  show -(2 ^ 64) < (p.2 - 1) - p.1 + 1 ∧ (p.2 - 1) - p.1 + 1 < 2 ^ 64
  omega
theorem pl_str {rules : List Rule} {a : List Int} (h : ∀ r ∈ rules, PyData.strOk r.word = true) : Pl 1 (.str (told rules a)) := by
  refine .str ?_
  unfold told
  split
  · decide +kernel
  · rename_i r e
    exact h r (List.mem_of_find?_eq_some e)
end K61
namespace K61
open PySem L2 DL
/-! ### never_first -/
def neverBy (n : Nat) (ps : List (Option Nat)) : List Nat := (List.range n).filter fun k => !decide (some k ∈ ps)
theorem eqv_opt (p : Option Nat) (k : Nat) : PyData.eqv (eOpt p) (.int (k : Int)) = decide (p = some k) := by
  cases p with
  | none =>
    show PyData.eqv .none (.int (k : Int)) = _
    rw [PyData.eqv]; rfl
  | some j =>
    show PyData.eqv (.int (j : Int)) (.int (k : Int)) = _
    rw [eqv_int]
    by_cases h : j = k
    · subst h; simp
    · have : ¬ ((j : Int) = (k : Int)) := by omega
      simp [h, this]
theorem any_opt (ps : List (Option Nat)) (k : Nat) : ((ps.map eOpt).any fun z => PyData.eqv z (.int (k : Int))) = decide (some k ∈ ps) := by
  induction ps with
  | nil => rfl
  | cons p ps ih =>
    rw [List.map_cons, List.any_cons, ih, eqv_opt]
    by_cases h : p = some k
    · subst h; simp
    · have h2 : ¬ (some k = p) := fun e => h e.symm
      simp [h, h2]
theorem shp_opt (p : Option Nat) : Shp 0 (eOpt p) := by
  cases p with
  | none => exact Shp.none
  | some k => exact Shp.int _
theorem shp_opts (ps : List (Option Nat)) : SeqAt.shaped (.list (ps.map eOpt)) = true := Shp.shaped (n := 1) (Shp.lst fun x hx => by
  obtain ⟨p, _, e⟩ := List.mem_map.mp hx
  rw [← e]; exact shp_opt p)
def neverOf (sizes : List Int) (rules : List Rule) : List Nat := neverBy rules.length ((cornersOf sizes rules).map (placeOf rules))
abbrev eNats (ks : List Nat) : PyData := .tuple (ks.map fun k : Nat => .int (k : Int))
def rNever : List PyData → (Sl → Prop) → Prop := fun ds q => ∃ sizes rules, ds = [eSizes sizes, eRules rules] ∧ RulesOk rules ∧ BoxOk sizes rules ∧ q (.dat (eNats (neverOf sizes rules)))
theorem blocks_many {sizes : List Int} {rules : List Rule} (h : BoxOk sizes rules) : (blocksN sizes rules sizes.length).length ≤ 100000 := by
  have h1 := blocksN_len (sizes := sizes) h.2.1 sizes.length
  have h2 : 41 ^ sizes.length ≤ 41 ^ 3 := Nat.pow_le_pow_right (by decide) h.1
  omega
theorem never_first_ok {M : Mdl} {f fd} (T : Bt M) (hbk : Fnc M "blocks_of" 3 2 (RP rBlocks)) (hp : Fnc M "place_of" 2 2 (RP rPlace)) (Fd : Fun M.K "never_first" "never_first" s_never_first f fd) (hm : M.mg "never_first" = some (.ref f)) (hb : Binds M.K fd ["sizes", "rules"] []) : Fnc M "never_first" 4 2 (RP rNever) := by
  refine fn_P Fd hm hb sc_never_first fun ds q ⟨sizes, rules, e, h1, h3, hq⟩ _ => ?_
  subst e
  show B _ [.dat (eSizes sizes), .dat (eRules rules), .un, .un, .un, .un] _ _
  have hbl := blocks_many h3
  refine b_cons <| b_setE 2 <| e_lcF (α := Blk) [("ask", 3), ("_", 4)] eBlk (fun _ => true) (fun b => eOpt (placeOf rules (corner b))) (t := .tup [.name 3, .name 4]) (.tup (.cons (.name 3) (.cons (.name 4) .nil))) ?_
  refine ij_lst <| e_call hbk <| ea_cons <| e_var 0 rfl <| ea_cons <| e_var 1 rfl <| ea_nil ⟨sizes, rules, rfl, h3, _, rfl, _, rfl, by omega, fun b hb => ?_, fun l => ?_⟩
  · exact ⟨_, rfl, rfl, rfl, iteT <| e_call hp <| ea_cons <| e_var 1 rfl <| ea_cons <| e_var 3 rfl <| ea_nil ⟨rules, corner b, rfl, h1.1, h1.2.1, rfl, rfl⟩⟩
  have ep : ((blocksN sizes rules sizes.length).filter fun _ => true).map (fun b => eOpt (placeOf rules (corner b))) = ((cornersOf sizes rules).map (placeOf rules)).map eOpt := by
    unfold cornersOf
    rw [List.filter_eq_self.mpr fun _ _ => rfl, List.map_map, List.map_map]; rfl
  rw [ep]
  refine b_cons <| b_ret <| e_tuple T.tuple <| e_frz ?_
  refine e_lcF (α := Nat) [("k", 5)] (fun k : Nat => .int (k : Int)) (fun k => !decide (some k ∈ (cornersOf sizes rules).map (placeOf rules))) (fun k : Nat => .int (k : Int)) (t := .name 5) (.name 5) ?_
  have hrl := h3.2.1
  refine ij_rangeLen T.range T.len <| e_var 1 rfl ⟨_, _, rfl, rfl, by rw [List.length_map]; omega, List.range rules.length, by rw [List.length_map], by rw [List.length_range]; omega, fun k hk => ?_, fun l2 => ⟨l2, _, rfl, _, rfl, _, rfl, hq⟩⟩
  refine t_cmpV cd_notin rfl <| e_var 5 rfl <| e_bor 2 rfl ⟨_, _, .dat, .bor 2 rfl, _, ⟨_, rfl, Shp.shaped (n := 0) (Shp.int _), shp_opts _, rfl⟩, ?_, ?_⟩
  · rw [any_opt]
  · rw [any_opt]
    split
    · exact e_var 5 rfl ⟨rfl, rfl⟩
    · rfl
/-! ### is_next, boxes_yes -/
def lastS (l : List Span) : Span := l.getLastD (0, 0)
theorem snoc_of {l : List Span} (h : l ≠ []) : l = l.dropLast ++ [lastS l] := by
  unfold lastS
  rw [List.getLastD_eq_getLast?, List.getLast?_eq_getLast h]
  exact (List.dropLast_concat_getLast h).symm
def isNextB (a b : List Span) : Bool := decide (a.dropLast = b.dropLast) && decide ((lastS a).2 + 1 = (lastS b).1)
theorem atI_lastS {l : List Span} (h : l ≠ []) : atI (l.map eSpan) (-1) = some (eSpan (lastS l)) := by
  have e := snoc_of h
  rw [e, List.map_append]
  refine (atI_last _ _).trans ?_
  rw [← e]
theorem eqv_span (a b : Span) : PyData.eqv (eSpan a) (eSpan b) = true ↔ a = b := by
  rw [eqv_tup]
  have := eqvAll_ints [a.1, a.2] [b.1, b.2]
  refine this.trans ⟨fun e => ?_, fun e => by rw [e]⟩
  injection e with e1 e2
  injection e2 with e3 _
  exact Prod.ext e1 e3
theorem eqv_spans (a b : List Span) : PyData.eqv (eSpans a) (eSpans b) = decide (a = b) := by
  have := eqvAll_map eSpan eqv_span a b
  rw [eqv_tup]
  by_cases h : a = b
  · rw [decide_eq_true h, this.mpr h]
  · rw [decide_eq_false h]
    cases hc : PyData.eqvAll (a.map eSpan) (b.map eSpan) with
    | true => exact absurd (this.mp hc) h
    | false => rfl
theorem shp_spans (a : List Span) : Shp 2 (eSpans a) := Shp.tup fun x hx => by
  obtain ⟨s, _, e⟩ := List.mem_map.mp hx
  rw [← e]
  exact Shp.tup (Shp.ints [s.1, s.2])
theorem init_spans (a : List Span) : cut (a.map eSpan) none (some (-1)) = a.dropLast.map eSpan := by rw [cut_init, List.map_dropLast]
def rIsNext : List PyData → (Sl → Prop) → Prop := fun ds q => ∃ a b, ds = [eSpans a, eSpans b] ∧ a ≠ [] ∧ b ≠ [] ∧ q (.dat (.bool (isNextB a b)))
theorem is_next_ok {M : Mdl} {f fd} (Fd : Fun M.K "is_next" "is_next" s_is_next f fd) (hm : M.mg "is_next" = some (.ref f)) (hb : Binds M.K fd ["spans", "other"] []) : Fnc M "is_next" 1 2 (RP rIsNext) := by
  refine fn_P Fd hm hb sc_is_next fun ds q ⟨a, b, e, ha, hb0, hq⟩ _ => ?_
  subst e
  show B _ [.dat (eSpans a), .dat (eSpans b)] _ _
  refine b_cons <| b_ret <| e_and <| e_cmp cd_eq rfl <| e_slT <| e_var 0 rfl <| e_neg <| e_int ⟨_, rfl, _, rfl, _, rfl, ?_⟩
  refine e_slT <| e_var 1 rfl <| e_neg <| e_int ⟨_, rfl, _, rfl, _, rfl, ?_⟩
  rw [init_spans, init_spans]
  refine ⟨_, _, rfl, rfl, _, ⟨Shp.shaped (shp_spans _), Shp.shaped (shp_spans _), (eqv_spans _ _).symm⟩, _, rfl, ?_⟩
  unfold isNextB at hq
  cases hc : decide (a.dropLast = b.dropLast) with
  | false =>
    rw [hc] at hq
    exact iteF hq
  | true =>
    rw [hc, Bool.true_and] at hq
    refine iteT <| e_one <| e_cmp cd_eq rfl <| e_addI <| e_ixC <| e_ix <| e_var 0 rfl <| e_neg <| e_int ⟨_, rfl, _, _, rfl, rfl, _, _, _, rfl, rfl, atI_lastS ha, _, _, _, rfl, rfl, rfl, ?_⟩
    refine e_int ⟨_, _, rfl, rfl, ?_⟩
    refine e_ixC <| e_ix <| e_var 1 rfl <| e_neg <| e_int ⟨_, rfl, _, _, rfl, rfl, _, _, _, rfl, rfl, atI_lastS hb0, _, _, _, rfl, rfl, rfl, ?_⟩
    refine ⟨_, _, rfl, rfl, _, ⟨Shp.shaped (n := 0) (Shp.int _), Shp.shaped (n := 0) (Shp.int _), rfl⟩, ?_⟩
    rw [eqv_int]
    have : ((lastS a).2 + 1 == (lastS b).1) = decide ((lastS a).2 + 1 = (lastS b).1) := rfl
    rw [this]
    exact hq
/-- what one block does to the boxes found -/
def boxStep (found : List (List Span)) (sp : List Span) : List (List Span) := match found.getLast? with
  | none => [sp]
  | some l => if sp ≠ [] ∧ isNextB l sp = true then found.dropLast ++ [l.dropLast ++ [((lastS l).1, (lastS sp).2)]] else found ++ [sp]
def yesBlks (sizes : List Int) (rules : List Rule) (bs : List Blk) : List (List Span) := (bs.filter fun b => told rules (corner b) == "yes").map spansOf
def boxesOf (sizes : List Int) (rules : List Rule) : List (List Span) := (yesBlks sizes rules (blocksN sizes rules sizes.length)).foldl boxStep []
def rBoxes : List PyData → (Sl → Prop) → Prop := fun ds q => ∃ sizes rules, ds = [eSizes sizes, eRules rules] ∧ 0 < sizes.length ∧ RulesOk rules ∧ BoxOk sizes rules ∧ q (.dat (.tuple ((boxesOf sizes rules).map eSpans)))
theorem boxStep_len {found : List (List Span)} {sp : List Span} : (boxStep found sp).length ≤ found.length + 1 := by
  unfold boxStep
  split
  · simp
  · split
    · rw [List.length_append, List.length_dropLast]; show _ + 1 ≤ _; omega
    · rw [List.length_append]; exact Nat.le_refl _
theorem boxStep_wide {n : Nat} (hn : 0 < n) {found : List (List Span)} {sp : List Span} (h : ∀ b ∈ found, b.length = n) (hs : sp.length = n) : ∀ b ∈ boxStep found sp, b.length = n := by
  unfold boxStep
  split
  · intro b hb; rw [List.mem_singleton.mp hb]; exact hs
  · rename_i l e
    have hl := h l (List.mem_of_getLast? e)
    split
    · intro b hb
      rcases List.mem_append.mp hb with hb | hb
      · exact h b (List.dropLast_subset _ hb)
      · rw [List.mem_singleton.mp hb, List.length_append, List.length_dropLast, hl]; show n - 1 + 1 = n; omega
    · intro b hb
      rcases List.mem_append.mp hb with hb | hb
      · exact h b hb
      · rw [List.mem_singleton.mp hb]; exact hs
def foundOf (sizes : List Int) (rules : List Rule) (bs : List Blk) : List (List Span) := (yesBlks sizes rules bs).foldl boxStep []
def invB (sizes : List Int) (rules : List Rule) (l : Addr) (found : List (List Span)) (n : Nat) (Γ' : List Sl) : Prop := Γ' = [.dat (eSizes sizes), .dat (eRules rules), lst l (found.map eSpans), .un, .un] ∧ found.length ≤ n ∧ ∀ b ∈ found, b.length = sizes.length
theorem boxes_yes_ok {M : Mdl} {f fd} (T : Bt M) (hbk : Fnc M "blocks_of" 3 2 (RP rBlocks)) (ht : Fnc M "range_told" 3 2 (RP rTold)) (hn : Fnc M "is_next" 1 2 (RP rIsNext)) (Fd : Fun M.K "boxes_yes" "boxes_yes" s_boxes_yes f fd) (hm : M.mg "boxes_yes" = some (.ref f)) (hb : Binds M.K fd ["sizes", "rules"] []) : Fnc M "boxes_yes" 4 2 (RP rBoxes) := by
  refine fn_P Fd hm hb sc_boxes_yes fun ds q ⟨sizes, rules, e, hpos, h1, h3, hq⟩ _ => ?_
  subst e
  show B _ [.dat (eSizes sizes), .dat (eRules rules), .un, .un, .un] _ _
  have hbl := blocks_many h3
  refine b_cons <| b_set 2 <| e_lst <| ea_nil fun l => ?_
  refine b_cons (b_forI (α := Blk) [3, 4] eBlk (t := .tup [.name 3, .name 4]) (.tup (.cons (.name 3) (.cons (.name 4) .nil))) ?_)
  refine ij_lst <| e_call hbk <| ea_cons <| e_var 0 rfl <| ea_cons <| e_var 1 rfl <| ea_nil ⟨sizes, rules, rfl, h3, _, rfl, _, fun pre Γ' => invB sizes rules l (foundOf sizes rules pre) pre.length Γ', rfl, ⟨rfl, Nat.le_refl _, fun _ h => nomatch h⟩, ?_, ?_⟩
  · rintro pre b post Γ' hz ⟨e, hfl, hfw⟩
    subst e
    refine ⟨_, rfl, rfl, ?_⟩
    have hpl : pre.length < 100000 := by rw [hz, List.length_append, List.length_cons] at hbl; omega
    have hbw : (spansOf b).length = sizes.length := by unfold spansOf; rw [List.length_map]; exact blocksN_width _ b (by rw [hz]; simp)
    have hne : spansOf b ≠ [] := fun e => by rw [e] at hbw; simp at hbw; omega
    refine b_cons <| b_if <| t_cmp cd_eq rfl <| e_call ht <| ea_cons <| e_var 1 rfl <| ea_cons <| e_var 3 rfl <| ea_nil ⟨rules, corner b, rfl, h1, e_str ⟨_, _, rfl, rfl, _, ⟨told_ok h1.2.2, yes_ok, (eqv_str _ _).symm⟩, ?_⟩⟩
    cases hc : (told rules (corner b) == "yes") with
    | false =>
      have e : foundOf sizes rules (pre ++ [b]) = foundOf sizes rules pre := by unfold foundOf yesBlks; rw [List.filter_append]; simp [hc]
      refine iteF <| b_nil <| b_nil ?_
      show invB sizes rules l (foundOf sizes rules (pre ++ [b])) (pre ++ [b]).length _
      rw [e]
      exact ⟨rfl, by rw [List.length_append]; omega, hfw⟩
    | true =>
      have e : foundOf sizes rules (pre ++ [b]) = boxStep (foundOf sizes rules pre) (spansOf b) := by
        unfold foundOf yesBlks; rw [List.filter_append, List.map_append, List.foldl_append]; simp [hc]
      have done : ∀ F Γ', boxStep (foundOf sizes rules pre) (spansOf b) = F → Γ' = [.dat (eSizes sizes), .dat (eRules rules), lst l (F.map eSpans), .un, .un] → invB sizes rules l (foundOf sizes rules (pre ++ [b])) (pre ++ [b]).length Γ' := fun F Γ' e1 e2 => by
        rw [e, e1]
        refine ⟨e2, ?_, ?_⟩
        · rw [List.length_append, ← e1]; exact Nat.le_trans boxStep_len (by show _ ≤ pre.length + 1; omega)
        · rw [← e1]; exact boxStep_wide hpos hfw hbw
      have done2 : ∀ F Γ', boxStep (foundOf sizes rules pre) (spansOf b) = F → Γ' = [.dat (eSizes sizes), .dat (eRules rules), lst l (F.map eSpans), .un, .un] → (fun pre Γ' => invB sizes rules l (foundOf sizes rules pre) pre.length Γ') (pre ++ [b]) Γ' := done
      generalize hfo : foundOf sizes rules pre = found at hfl hfw done2 ⊢
      have shf : SeqAt.shaped (.list (found.map eSpans)) = true := Shp.shaped (n := 3) (Shp.lst fun x hx => by
        obtain ⟨s, _, e⟩ := List.mem_map.mp hx
        rw [← e]; exact shp_spans s)
      have shn : SeqAt.shaped (.list []) = true := Shp.shaped (n := 1) (Shp.lst fun _ h => nomatch h)
      have shnt : SeqAt.shaped (.tuple []) = true := Shp.shaped (n := 1) (Shp.tup fun _ h => nomatch h)
      refine iteT <| b_cons <| b_if <| t_w <| tw_and <| t_cmpV cd_ne rfl <| e_bor 2 rfl <| e_lst <| ea_nil fun l2 => ⟨_, _, .bor 2 rfl, .own, _, ⟨shf, shn, rfl⟩, ?_⟩
      rw [eqv_nil_lst]
      by_cases hf : found = []
      · subst hf
        exact iteF <| iteF <| b_cons <| b_expr <| e_append <| e_bor 2 rfl ⟨l, rfl, ⟨2, _, rfl⟩, e_var 4 rfl ⟨_, rfl, 2, _, rfl, by decide, b_nil <| b_nil <| b_nil <| done2 [spansOf b] _ rfl rfl⟩⟩
      · have he : (found.map eSpans).isEmpty = false := by cases found with
          | nil => exact absurd rfl hf
          | cons _ _ => rfl
        rw [he]
        have hlast := List.getLast?_eq_getLast hf
        generalize hL : found.getLast hf = L at hlast
        have hLw : L.length = sizes.length := hfw L (List.mem_of_getLast? hlast)
        have hLne : L ≠ [] := fun e => by rw [e] at hLw; simp at hLw; omega
        have hneM : found.map eSpans ≠ [] := fun e => hf (List.map_eq_nil_iff.mp e)
        have atL : atI (found.map eSpans) (-1) = some (eSpans L) := atI_end hneM (by rw [List.getLast_map]; rw [hL])
        have e2 : boxStep found (spansOf b) = if isNextB L (spansOf b) = true then found.dropLast ++ [L.dropLast ++ [((lastS L).1, (lastS (spansOf b)).2)]] else found ++ [spansOf b] := by
          unfold boxStep
          rw [hlast]
          simp [hne]
        refine iteT <| tw_and <| t_cmp cd_ne rfl <| e_var 4 rfl <| e_tup <| ea_nil ⟨_, _, rfl, rfl, _, ⟨Shp.shaped (shp_spans _), shnt, rfl⟩, ?_⟩
        have ev : PyData.eqv (eSpans (spansOf b)) (.tuple []) = false := by
          have := eqv_spans (spansOf b) []
          rw [decide_eq_false hne] at this
          exact this
        rw [ev]
        refine iteT <| tw_and1 <| t_val <| e_call hn <| ea_cons <| e_ixO <| e_bor 2 rfl <| e_neg <| e_int ⟨_, rfl, l, 2, _, _, _, rfl, rfl, rfl, atL, ?_⟩
        refine ea_cons <| e_var 4 rfl <| ea_nil ⟨L, spansOf b, rfl, hLne, hne, _, rfl, ?_⟩
        cases hx : isNextB L (spansOf b) with
        | false =>
          rw [hx] at e2
          refine iteF <| b_cons <| b_expr <| e_append <| e_bor 2 rfl ⟨l, rfl, ⟨2, _, rfl⟩, e_var 4 rfl ⟨_, rfl, 2, _, rfl, by rw [List.length_map]; omega, b_nil <| b_nil <| b_nil <| done2 _ _ e2 ?_⟩⟩
          show [Sl.dat (eSizes sizes), .dat (eRules rules), lst l (found.map eSpans ++ [eSpans (spansOf b)]), .un, .un] = [Sl.dat (eSizes sizes), .dat (eRules rules), lst l ((found ++ [spansOf b]).map eSpans), .un, .un]
          rw [List.map_append]; rfl
        | true =>
          rw [hx] at e2
          refine iteT <| b_cons <| b_setIx ?_
          refine e_catT <| e_slT <| e_ixO <| e_bor 2 rfl <| e_neg <| e_int ⟨_, rfl, l, 2, _, _, _, rfl, rfl, rfl, atL, ?_⟩
          refine e_neg <| e_int ⟨_, rfl, _, rfl, _, rfl, ?_⟩
          rw [init_spans]
          refine e_tup <| ea_cons <| e_tup <| ea_cons <| e_ixC <| e_ix <| e_ixO <| e_bor 2 rfl <| e_neg <| e_int ⟨_, rfl, l, 2, _, _, _, rfl, rfl, rfl, atL, ?_⟩
          refine e_neg <| e_int ⟨_, rfl, _, _, rfl, rfl, _, _, _, rfl, rfl, atI_lastS hLne, _, _, _, rfl, rfl, rfl, ?_⟩
          refine ea_cons <| e_ixC <| e_ix <| e_var 4 rfl <| e_neg <| e_int ⟨_, rfl, _, _, rfl, rfl, _, _, _, rfl, rfl, atI_lastS hne, _, _, _, rfl, rfl, rfl, ?_⟩
          refine ea_nil <| ea_nil ⟨_, _, rfl, rfl, ?_, ?_⟩
          · rw [List.length_map, List.length_dropLast, hLw]
            have := h3.1
            show _ + 1 ≤ 1000000
            omega
          have hj : ixN (found.map eSpans).length (-1) = some (found.length - 1) := by
            rw [List.length_map]
            exact ixN_end (List.length_pos_iff.mpr hf)
          refine e_bor 2 rfl <| e_neg <| e_int ⟨_, rfl, _, l, _, _, 2, _, rfl, rfl, rfl, rfl, hj, b_nil <| b_nil <| b_nil <| done2 _ _ e2 ?_⟩
          show [Sl.dat (eSizes sizes), .dat (eRules rules), lst l ((found.map eSpans).set (found.length - 1) (.tuple (L.dropLast.map eSpan ++ [eSpan ((lastS L).1, (lastS (spansOf b)).2)]))), .un, .un] = [Sl.dat (eSizes sizes), .dat (eRules rules), lst l ((found.dropLast ++ [L.dropLast ++ [((lastS L).1, (lastS (spansOf b)).2)]]).map eSpans), .un, .un]
          have ef : found = found.dropLast ++ [L] := by rw [← hL]; exact (List.dropLast_concat_getLast hf).symm
          have es : (found.map eSpans).set (found.length - 1) (.tuple (L.dropLast.map eSpan ++ [eSpan ((lastS L).1, (lastS (spansOf b)).2)])) = (found.dropLast ++ [L.dropLast ++ [((lastS L).1, (lastS (spansOf b)).2)]]).map eSpans := by
            have e1 : found.length - 1 = (found.dropLast.map eSpans).length := by rw [List.length_map, List.length_dropLast]
            rw [e1]
            have e3 : found.map eSpans = found.dropLast.map eSpans ++ [eSpans L] := by
              rw [← List.map_singleton, ← List.map_append, ← ef]
            rw [e3, List.set_append_right _ _ (Nat.le_refl _), Nat.sub_self, List.map_append]
            show _ = _ ++ [PyData.tuple ((L.dropLast ++ [((lastS L).1, (lastS (spansOf b)).2)]).map eSpan)]
            rw [List.map_append]; rfl
          rw [es]
  · rintro Γ' ⟨e, hfl, hfw⟩
    subst e
    exact b_cons <| b_ret <| e_tuple T.tuple <| e_varF 2 rfl ⟨_, rfl, _, rfl, hq⟩
end K61
namespace K61
open PySem L2 DL
/-! ### great numbers made of small ones -/
def greatR (by_ : Int) (r : Rule) : Rule := ⟨r.word, r.spans.map fun s => (s.1 * by_, s.2 * by_ + by_ - 1)⟩
def greatL (by_ : Int) (rs : List Rule) : List Rule := rs.map (greatR by_)
def scale (by_ : Int) (a : List Int) : List Int := a.map (· * by_)
def cellP (by_ : Int) (x : Int) : Int × Int := (x * by_, (x + 1) * by_)
def cell (by_ n : Int) : Blk := (rng n).map (cellP by_)
theorem mul_lt {a b c : Int} (hc : 0 < c) : a * c < b * c ↔ a < b := Int.mul_lt_mul_right hc
theorem mul_le {a b c : Int} (hc : 0 < c) : a * c ≤ b * c ↔ a ≤ b := Int.mul_le_mul_right hc
theorem cell_part {by_ n : Int} (hb : 0 < by_) (hn : 0 < n) : Part 0 (n * by_) (cell by_ n) := by
  have h : ∀ k m : Nat, Part ((m : Int) * by_) (((m + (k + 1) : Nat) : Int) * by_) ((List.range' m (k + 1)).map fun x : Nat => cellP by_ (x : Int)) := fun k => by
    induction k with
    | zero =>
      intro m
      show Part _ _ [cellP by_ (m : Int)]
      have e : cellP by_ (m : Int) = ((m : Int) * by_, ((m + 1 : Nat) : Int) * by_) := rfl
      rw [e]
      exact .one ((mul_lt hb).mpr (by omega))
    | succ k ih =>
      intro m
      rw [List.range'_succ, List.map_cons]
      have e : cellP by_ (m : Int) = ((m : Int) * by_, ((m + 1 : Nat) : Int) * by_) := rfl
      rw [e]
      have := ih (m + 1)
      rw [show m + 1 + (k + 1) = m + (k + 1 + 1) by omega] at this
      exact .cons ((mul_lt hb).mpr (by omega)) this
  have e : cell by_ n = (List.range' 0 (n.toNat - 1 + 1)).map fun x : Nat => cellP by_ (x : Int) := by
    unfold cell rng
    rw [List.map_map, ← List.range_eq_range', show n.toNat - 1 + 1 = n.toNat by omega]; rfl
  have h1 := h (n.toNat - 1) 0
  rw [e]
  have e2 : (((0 + (n.toNat - 1 + 1) : Nat)) : Int) = n := by omega
  rw [e2] at h1
  have e3 : ((0 : Nat) : Int) * by_ = 0 := by simp
  rw [e3] at h1
  exact h1
theorem cell_parts {by_ : Int} (hb : 0 < by_) : ∀ {sizes : List Int}, (∀ s ∈ sizes, 0 < s) → Parts (sizes.map (cell by_)) (scale by_ sizes)
  | [], _ => .nil
  | s :: ss, h => .cons (cell_part hb (h s List.mem_cons_self)) (cell_parts hb fun x hx => h x (List.mem_cons_of_mem _ hx))
theorem prodR_map {α β : Type} (g : α → β) : ∀ ls : List (List α), prodR (ls.map fun l => l.map g) = (prodR ls).map fun a => a.map g
  | [] => rfl
  | l :: ls => by
    show (l.map g).flatMap (fun x => (prodR (ls.map fun l => l.map g)).map (x :: ·)) = (l.flatMap fun x => (prodR ls).map (x :: ·)).map fun a => a.map g
    rw [prodR_map g ls, List.flatMap_map, List.map_flatMap]
    refine flatMap_cg fun x _ => ?_
    rw [List.map_map, List.map_map]; rfl
theorem cells_eq (by_ : Int) (sizes : List Int) : prodR (sizes.map (cell by_)) = (prodR (sizes.map rng)).map fun a => a.map (cellP by_) := by
  have e : sizes.map (cell by_) = (sizes.map rng).map fun l => l.map (cellP by_) := by rw [List.map_map]; rfl
  rw [e, prodR_map]
theorem corner_cells (by_ : Int) (a : List Int) : corner (a.map (cellP by_)) = scale by_ a := by
  unfold corner scale
  rw [List.map_map]; rfl
theorem under_great {by_ : Int} (hb : 0 < by_) {r : Rule} : ∀ {a : List Int} {ask : List Int} {sp : List Span}, InB a (ask.map (cellP by_)) → under a (sp.map fun s => (s.1 * by_, s.2 * by_ + by_ - 1)) = under ask sp
  | _, [], sp, h => by cases h; unfold under; rw [List.zip_nil_left, List.zip_nil_left]
  | _, x :: ask, [], h => by unfold under; rw [List.map_nil, List.zip_nil_right, List.zip_nil_right]
  | _, x :: ask, s :: sp, h => by
    cases h with
    | @cons y a' _ _ h1 h2 h3 =>
      have ih := under_great hb (r := r) (sp := sp) h3
      unfold under at ih ⊢
      rw [List.map_cons, List.zip_cons_cons, List.zip_cons_cons, List.all_cons, List.all_cons, ih]
      have h1' : x * by_ ≤ y := h1
      have h2' : y < (x + 1) * by_ := h2
      have e1 : s.1 * by_ ≤ y ↔ s.1 ≤ x := by
        constructor
        · intro h
          have : s.1 * by_ < (x + 1) * by_ := by omega
          have := (mul_lt hb).mp this
          omega
        · intro h
          have := (mul_le hb).mpr h
          omega
      have e2 : y ≤ s.2 * by_ + by_ - 1 ↔ x ≤ s.2 := by
        have e3 : (s.2 + 1) * by_ = s.2 * by_ + by_ := by rw [Int.add_mul, Int.one_mul]
        constructor
        · intro h
          have : x * by_ < (s.2 + 1) * by_ := by omega
          have := (mul_lt hb).mp this
          omega
        · intro h
          have : (x + 1) * by_ ≤ (s.2 + 1) * by_ := (mul_le hb).mpr (by omega)
          omega
      show (decide (s.1 * by_ ≤ y) && decide (y ≤ s.2 * by_ + by_ - 1) && _) = _
      rw [decide_eq_decide.mpr e1, decide_eq_decide.mpr e2]
theorem told_great {by_ : Int} (hb : 0 < by_) {a ask : List Int} (h : InB a (ask.map (cellP by_))) : ∀ rules : List Rule, told (greatL by_ rules) a = told rules ask := by
  intro rules
  unfold told greatL
  induction rules with
  | nil => rfl
  | cons r rs ih =>
    rw [List.map_cons, List.find?_cons, List.find?_cons]
    have e : under a (greatR by_ r).spans = under ask r.spans := under_great hb (r := r) h
    rw [e]
    cases under ask r.spans with
    | true => rfl
    | false => exact ih
theorem place_great {by_ : Int} (hb : 0 < by_) {a ask : List Int} (h : InB a (ask.map (cellP by_))) : ∀ rules : List Rule, placeOf (greatL by_ rules) a = placeOf rules ask := by
  intro rules
  unfold placeOf greatL
  induction rules with
  | nil => rfl
  | cons r rs ih =>
    rw [List.map_cons, List.findIdx?_cons, List.findIdx?_cons]
    have e : under a (greatR by_ r).spans = under ask r.spans := under_great hb (r := r) h
    rw [e, ih]
theorem great_good {by_ : Int} (hb : 0 < by_) {sizes : List Int} {rules : List Rule} (h : ∀ r ∈ rules, RuleGood sizes r) : ∀ r ∈ greatL by_ rules, RuleGood (scale by_ sizes) r := by
  intro r hr
  obtain ⟨q, hq, e⟩ := List.mem_map.mp hr
  subst e
  obtain ⟨h1, h2, h3⟩ := h q hq
  refine ⟨h1, ?_, fun i s n hi hn => ?_⟩
  · show (q.spans.map _).length = (sizes.map _).length
    rw [List.length_map, List.length_map, h2]
  · have hi' : (q.spans.map fun s => (s.1 * by_, s.2 * by_ + by_ - 1))[i]? = some s := hi
    have hn' : (sizes.map (· * by_))[i]? = some n := hn
    rw [List.getElem?_map] at hi' hn'
    cases ei : q.spans[i]? with
    | none => rw [ei] at hi'; cases hi'
    | some s0 =>
      cases en : sizes[i]? with
      | none => rw [en] at hn'; cases hn'
      | some n0 =>
        rw [ei] at hi'
        rw [en] at hn'
        cases hi'
        cases hn'
        obtain ⟨g1, g2, g3⟩ := h3 i s0 n0 ei en
        have a1 : 0 ≤ s0.1 * by_ := Int.mul_nonneg g1 (Int.le_of_lt hb)
        have a2 : s0.1 * by_ ≤ s0.2 * by_ := (mul_le hb).mpr g2
        have a3 : (s0.2 + 1) * by_ ≤ n0 * by_ := (mul_le hb).mpr (by omega)
        rw [Int.add_mul, Int.one_mul] at a3
        show 0 ≤ s0.1 * by_ ∧ s0.1 * by_ ≤ s0.2 * by_ + by_ - 1 ∧ s0.2 * by_ + by_ - 1 < n0 * by_
        omega
def powL (by_ : Int) (sizes : List Int) : Int := sizes.foldl (fun v _ => v * by_) 1
theorem foldl_pow (by_ : Int) : ∀ (l : List Int) (v : Int), l.foldl (fun v _ => v * by_) v = v * l.foldl (fun v _ => v * by_) 1
  | [], v => by show v = v * 1; omega
  | x :: xs, v => by
    show xs.foldl _ (v * by_) = v * xs.foldl _ (1 * by_)
    rw [foldl_pow by_ xs (v * by_), foldl_pow by_ xs (1 * by_), Int.one_mul, Int.mul_assoc]
theorem cnt_cells {by_ : Int} : ∀ {a sizes : List Int}, a.length = sizes.length → cnt (a.map (cellP by_)) = powL by_ sizes
  | [], [], _ => rfl
  | x :: a, s :: ss, h => by
    show ((x + 1) * by_ - x * by_) * cnt (a.map (cellP by_)) = ss.foldl (fun v _ => v * by_) (1 * by_)
    rw [cnt_cells (by_ := by_) (a := a) (sizes := ss) (by simpa using h), foldl_pow, Int.one_mul, Int.add_mul, Int.one_mul, show x * by_ + by_ - x * by_ = by_ by omega]; rfl
  | [], _ :: _, h => by cases h
  | _ :: _, [], h => by cases h
theorem cell_inv {by_ : Int} (hb : 0 < by_) {sizes : List Int} (hp : ∀ s ∈ sizes, 0 < s) {β : Type} (f : List Int → β) (g : List Int → β) (hf : ∀ a ask, InB a (ask.map (cellP by_)) → f a = g ask) : ∀ a, ∀ b ∈ prodR (sizes.map (cell by_)), InB a b → f a = f (corner b) := by
  intro a b hbm hab
  have hc := corner_in (cell_parts hb hp) b hbm
  rw [cells_eq] at hbm
  obtain ⟨ask, _, e⟩ := List.mem_map.mp hbm
  subst e
  rw [hf a ask hab, hf _ ask hc]
theorem corner_f {by_ : Int} (hb : 0 < by_) {sizes : List Int} (hp : ∀ s ∈ sizes, 0 < s) {β : Type} (f : List Int → β) (g : List Int → β) (hf : ∀ a ask, InB a (ask.map (cellP by_)) → f a = g ask) : ∀ ask ∈ prodR (sizes.map rng), f (scale by_ ask) = g ask := by
  intro ask hask
  have hbm : ask.map (cellP by_) ∈ prodR (sizes.map (cell by_)) := by rw [cells_eq]; exact List.mem_map.mpr ⟨ask, hask, rfl⟩
  have hc := corner_in (cell_parts hb hp) _ hbm
  rw [corner_cells] at hc
  exact hf _ ask hc
theorem great_sz {by_ : Int} (hb : 0 < by_) (hb2 : by_ ≤ 1000000) {sizes : List Int} (hs : sizes.length ≤ 3) (hp : ∀ s ∈ sizes, 0 < s ∧ s ≤ 20) : SzOk (scale by_ sizes) := by
  refine ⟨by unfold scale; rw [List.length_map]; exact hs, fun s hm => ?_⟩
  obtain ⟨n, hn, e⟩ := List.mem_map.mp hm
  subst e
  have := hp n hn
  have h1 : n * by_ ≤ 20 * by_ := (mul_le hb).mpr this.2
  exact ⟨Int.mul_pos this.1 hb, by show n * by_ < 1099511627776; omega⟩
theorem count_great {by_ : Int} (hb : 0 < by_) (hb2 : by_ ≤ 1000000) {sizes : List Int} (hs : sizes.length ≤ 3) (hp : ∀ s ∈ sizes, 0 < s ∧ s ≤ 20) {one : List Rule} (h1 : ∀ r ∈ one, RuleGood sizes r) : countYes (scale by_ sizes) (greatL by_ one) = yesOf one (asksL sizes) * powL by_ sizes := by
  have hp0 : ∀ s ∈ sizes, 0 < s := fun s h => (hp s h).1
  rw [count_law (great_sz hb hb2 hs hp) (great_good hb h1)]
  unfold yesOf
  rw [asksL_eq, asksL_eq]
  have hf : ∀ a ask, InB a (ask.map (cellP by_)) → (if (told (greatL by_ one) a == "yes") = true then (1 : Int) else 0) = if (told one ask == "yes") = true then 1 else 0 := fun a ask h => by rw [told_great hb h]
  have := sum_prod (cell_parts hb hp0) (fun a => if (told (greatL by_ one) a == "yes") = true then (1 : Int) else 0) (cell_inv hb hp0 _ (fun ask => if (told one ask == "yes") = true then (1 : Int) else 0) hf)
  rw [this, cells_eq, sumOf_map]
  have : ∀ ask ∈ prodR (sizes.map rng), cnt (ask.map (cellP by_)) * (if (told (greatL by_ one) (corner (ask.map (cellP by_))) == "yes") = true then (1 : Int) else 0) = powL by_ sizes * if (told one ask == "yes") = true then 1 else 0 := fun ask hask => by
    have hl : ask.length = sizes.length := by rw [← asksL_eq] at hask; exact asksL_width sizes ask hask
    rw [cnt_cells hl, corner_cells]
    congr 1
    exact corner_f hb hp0 (fun a => if (told (greatL by_ one) a == "yes") = true then (1 : Int) else 0) (fun ask => if (told one ask == "yes") = true then (1 : Int) else 0) hf ask hask
  rw [sumOf_congr this, sumOf_mul, Int.mul_comm]
theorem first_great {by_ : Int} (hb : 0 < by_) (hb2 : by_ ≤ 1000000) {sizes : List Int} (hs : sizes.length ≤ 3) (hp : ∀ s ∈ sizes, 0 < s ∧ s ≤ 20) {one other : List Rule} (h1 : ∀ r ∈ one, RuleGood sizes r) (h2 : ∀ r ∈ other, RuleGood sizes r) : firstDiff (scale by_ sizes) (greatL by_ one) (greatL by_ other) = ((asksL sizes).find? fun a => told one a != told other a).map (scale by_) := by
  have hp0 : ∀ s ∈ sizes, 0 < s := fun s h => (hp s h).1
  rw [first_law (great_sz hb hb2 hs hp) (great_good hb h1) (great_good hb h2), asksL_eq, asksL_eq]
  have hf : ∀ a ask, InB a (ask.map (cellP by_)) → (told (greatL by_ one) a != told (greatL by_ other) a) = (told one ask != told other ask) := fun a ask h => by rw [told_great hb h, told_great hb h]
  have := find_prod (cell_parts hb hp0) (fun a => told (greatL by_ one) a != told (greatL by_ other) a) (cell_inv hb hp0 _ (fun ask => told one ask != told other ask) hf)
  rw [this, cells_eq, List.map_map]
  have e : (prodR (sizes.map rng)).map (corner ∘ fun a => a.map (cellP by_)) = (prodR (sizes.map rng)).map (scale by_) := List.map_congr_left fun a _ => corner_cells by_ a
  rw [e, List.find?_map]
  congr 1
  have hc := corner_f hb hp0 (fun a => told (greatL by_ one) a != told (greatL by_ other) a) (fun ask => told one ask != told other ask) hf
  have : ∀ l : List (List Int), (∀ ask ∈ l, ask ∈ prodR (sizes.map rng)) → l.find? ((fun a => told (greatL by_ one) a != told (greatL by_ other) a) ∘ scale by_) = l.find? fun a => told one a != told other a := fun l => by
    induction l with
    | nil => intro _; rfl
    | cons x xs ih =>
      intro hx
      rw [List.find?_cons, List.find?_cons, ih fun y hy => hx y (List.mem_cons_of_mem _ hy)]
      have := hc x (hx x List.mem_cons_self)
      show (match (told (greatL by_ one) (scale by_ x) != told (greatL by_ other) (scale by_ x)) with | true => _ | false => _) = _
      rw [this]
      cases (told one x != told other x) <;> rfl
  exact this _ fun _ h => h
theorem never_great {by_ : Int} (hb : 0 < by_) (hb2 : by_ ≤ 1000000) {sizes : List Int} (hs : sizes.length ≤ 3) (hp : ∀ s ∈ sizes, 0 < s ∧ s ≤ 20) {one : List Rule} (h1 : ∀ r ∈ one, RuleGood sizes r) : neverOf (scale by_ sizes) (greatL by_ one) = neverBy one.length ((asksL sizes).map (placeOf one)) := by
  have hp0 : ∀ s ∈ sizes, 0 < s := fun s h => (hp s h).1
  have hz := great_sz hb hb2 hs hp
  have hg := great_good hb h1
  have pb := box_parts hz hg
  have pc := cell_parts hb hp0
  unfold neverOf neverBy
  have el : (greatL by_ one).length = one.length := by unfold greatL; rw [List.length_map]
  rw [el]
  refine mem_neverBy fun k => ?_
  rw [List.mem_map, List.mem_map]
  unfold cornersOf
  rw [blocksN_eq, asksL_eq]
  constructor
  · rintro ⟨c, hc, e⟩
    obtain ⟨b, hbm, e2⟩ := List.mem_map.mp hc
    subst e2
    have hin := inb_mem pb b hbm _ (corner_in pb b hbm)
    obtain ⟨b2, hb2m, hab⟩ := cover pc _ hin
    rw [cells_eq] at hb2m
    obtain ⟨ask, hask, e3⟩ := List.mem_map.mp hb2m
    subst e3
    exact ⟨ask, hask, by rw [← e, place_great hb hab]⟩
  · rintro ⟨ask, hask, e⟩
    have hbm : ask.map (cellP by_) ∈ prodR (sizes.map (cell by_)) := by rw [cells_eq]; exact List.mem_map.mpr ⟨ask, hask, rfl⟩
    have hc := corner_in pc _ hbm
    have hin := inb_mem pc _ hbm _ hc
    obtain ⟨b, hb3, hab⟩ := cover pb _ hin
    refine ⟨corner b, List.mem_map.mpr ⟨b, hb3, rfl⟩, ?_⟩
    rw [← place_congr (under_corner hz hg hb3 hab), place_great hb hc, e]
/-! ### the boxes hold as many asks as the blocks -/
theorem countIn_snoc (l : List Span) (s : Span) : countIn (l ++ [s]) = countIn l * (s.2 - s.1 + 1) := by
  unfold countIn; rw [List.foldl_append]; rfl
def volume (found : List (List Span)) : Int := sumOf countIn found
theorem boxStep_vol {found : List (List Span)} {sp : List Span} (h : ∀ b ∈ found, b ≠ []) : volume (boxStep found sp) = volume found + countIn sp := by
  unfold boxStep
  split
  · rename_i e
    have : found = [] := by
      cases found with
      | nil => rfl
      | cons x xs => rw [List.getLast?_eq_getLast (List.cons_ne_nil x xs)] at e; cases e
    subst this
    unfold volume sumOf; simp
  · rename_i l e
    have hne : found ≠ [] := fun e2 => by rw [e2] at e; cases e
    have el : found = found.dropLast ++ [l] := by
      rw [List.getLast?_eq_getLast hne] at e
      have := List.dropLast_concat_getLast hne
      rw [Option.some.inj e] at this
      exact this.symm
    split
    · rename_i hc
      obtain ⟨h1, h2⟩ := hc
      unfold isNextB at h2
      rw [Bool.and_eq_true, decide_eq_true_eq, decide_eq_true_eq] at h2
      have hl := snoc_of (h l (List.mem_of_getLast? e))
      have hs := snoc_of h1
      have v1 : countIn l = countIn l.dropLast * ((lastS l).2 - (lastS l).1 + 1) := by
        have := countIn_snoc l.dropLast (lastS l)
        rw [← hl] at this
        exact this
      have v2 : countIn sp = countIn l.dropLast * ((lastS sp).2 - (lastS sp).1 + 1) := by
        have := countIn_snoc sp.dropLast (lastS sp)
        rw [← hs, ← h2.1] at this
        exact this
      have vf : volume found = volume found.dropLast + countIn l := by
        have : volume (found.dropLast ++ [l]) = volume found.dropLast + countIn l := by
          unfold volume; rw [sumOf_append]; unfold sumOf; simp
        rw [← el] at this
        exact this
      have vg : volume (found.dropLast ++ [l.dropLast ++ [((lastS l).1, (lastS sp).2)]]) = volume found.dropLast + countIn l.dropLast * ((lastS sp).2 - (lastS l).1 + 1) := by
        unfold volume; rw [sumOf_append]
        rw [← countIn_snoc l.dropLast ((lastS l).1, (lastS sp).2)]
        unfold sumOf; simp
      rw [vg, vf, v1, v2, Int.add_assoc, ← Int.mul_add]
      congr 2
      omega
    · unfold volume; rw [sumOf_append]; unfold sumOf; simp
def Bnd (b : List Span) : Prop := ∀ s ∈ b, -1125899906842624 < s.1 ∧ s.1 < 1125899906842624 ∧ -1125899906842624 < s.2 ∧ s.2 < 1125899906842624
theorem lastS_mem {l : List Span} (h : l ≠ []) : lastS l ∈ l := by
  have := snoc_of h
  rw [this]
  exact List.mem_append_right _ (by rw [← this]; exact List.mem_singleton.mpr rfl)
theorem boxStep_bnd {found : List (List Span)} {sp : List Span} (hne : ∀ b ∈ found, b ≠ []) (h : ∀ b ∈ found, Bnd b) (hs : Bnd sp) : ∀ b ∈ boxStep found sp, Bnd b := by
  unfold boxStep
  split
  · intro b hb; rw [List.mem_singleton.mp hb]; exact hs
  · rename_i l e
    have hl := h l (List.mem_of_getLast? e)
    have hln := hne l (List.mem_of_getLast? e)
    split
    · rename_i hc
      intro b hb
      rcases List.mem_append.mp hb with hb | hb
      · exact h b (List.dropLast_subset _ hb)
      · rw [List.mem_singleton.mp hb]
        intro s hm
        rcases List.mem_append.mp hm with hm | hm
        · exact hl s (List.dropLast_subset _ hm)
        · rw [List.mem_singleton.mp hm]
          have a1 := hl _ (lastS_mem hln)
          have a2 := hs _ (lastS_mem hc.1)
          exact ⟨a1.1, a1.2.1, a2.2.2.1, a2.2.2.2⟩
    · intro b hb
      rcases List.mem_append.mp hb with hb | hb
      · exact h b hb
      · rw [List.mem_singleton.mp hb]; exact hs
theorem boxes_fold {n : Nat} (hn : 0 < n) : ∀ (sps : List (List Span)) (found : List (List Span)), (∀ b ∈ found, b.length = n ∧ Bnd b) → (∀ b ∈ sps, b.length = n ∧ Bnd b) → volume (sps.foldl boxStep found) = volume found + sumOf countIn sps ∧ ∀ b ∈ sps.foldl boxStep found, Bnd b
  | [], found, h, _ => ⟨by show volume found = volume found + 0; omega, fun b hb => (h b hb).2⟩
  | sp :: sps, found, h, hs => by
    have ne : ∀ b ∈ found, b ≠ [] := fun b hb e => by have := (h b hb).1; rw [e] at this; simp at this; omega
    have s0 := hs sp List.mem_cons_self
    have hw := boxStep_wide hn (fun b hb => (h b hb).1) s0.1
    have hbd := boxStep_bnd ne (fun b hb => (h b hb).2) s0.2
    obtain ⟨h1, h2⟩ := boxes_fold hn sps (boxStep found sp) (fun b hb => ⟨hw b hb, hbd b hb⟩) fun b hb => hs b (List.mem_cons_of_mem _ hb)
    refine ⟨?_, h2⟩
    show volume (sps.foldl boxStep (boxStep found sp)) = _
    rw [h1, boxStep_vol ne]
    unfold sumOf
    rw [List.map_cons, List.sum_cons]
    omega
theorem boxes_vol {sizes : List Int} {rules : List Rule} (hz : SzOk sizes) (hpos : 0 < sizes.length) (hr : ∀ r ∈ rules, RuleGood sizes r) : volume (boxesOf sizes rules) = countYes sizes rules ∧ ∀ b ∈ boxesOf sizes rules, Bnd b := by
  have pb := box_parts hz hr
  have hall : ∀ b ∈ yesBlks sizes rules (blocksN sizes rules sizes.length), b.length = sizes.length ∧ Bnd b := fun sp hsp => by
    obtain ⟨b, hb, e⟩ := List.mem_map.mp hsp
    subst e
    have hbm := (List.mem_filter.mp hb).1
    refine ⟨by unfold spansOf; rw [List.length_map]; exact blocksN_width _ b hbm, fun s hs => ?_⟩
    rw [blocksN_eq] at hbm
    obtain ⟨p, hp, e⟩ := List.mem_map.mp hs
    obtain ⟨i, hi, e2⟩ := List.getElem_of_mem hp
    obtain ⟨l, hl, hpl⟩ := prodR_get hbm (i := i) (p := p) (by rw [← e2]; exact List.getElem?_eq_getElem hi)
    rw [List.getElem?_map] at hl
    have hlt : i < sizes.length := by
      by_cases hlt : i < sizes.length
      · exact hlt
      · rw [List.getElem?_eq_none (by rw [List.length_range]; omega)] at hl; cases hl
    rw [List.getElem?_range hlt] at hl
    cases hl
    have hz2 : sizes[i]? = some (sizes.getD i 0) := by rw [List.getD_eq_getElem?_getD, List.getElem?_eq_getElem hlt]; rfl
    have hps := hz.2 _ (List.mem_of_getElem? hz2)
    have pp := fieldB_part hz2 hps.1 hr
    have a1 := part_ne pp p hpl
    have a2 := part_lo pp p hpl
    rw [← e]
    show -1125899906842624 < p.1 ∧ p.1 < 1125899906842624 ∧ -1125899906842624 < p.2 - 1 ∧ p.2 - 1 < 1125899906842624
    omega
  obtain ⟨h1, h2⟩ := boxes_fold hpos (yesBlks sizes rules (blocksN sizes rules sizes.length)) [] (fun _ h => nomatch h) hall
  refine ⟨?_, h2⟩
  show volume ((yesBlks sizes rules (blocksN sizes rules sizes.length)).foldl boxStep []) = _
  rw [h1]
  unfold countYes yesBlks
  rw [sumOf_map]
  show 0 + sumOf _ _ = sumOf _ _
  omega
end K61
namespace K61
open PySem L2 DL
def rGreat : List PyData → (Sl → Prop) → Prop := fun ds q => ∃ rules by_, ds = [eRules rules, .int by_] ∧ rules.length ≤ 1000 ∧ (∀ r ∈ rules, r.spans.length ≤ 1000) ∧ 0 < by_ ∧ by_ ≤ 1000000 ∧ q (.dat (eRules (greatL by_ rules)))
theorem great_ok {M : Mdl} {f fd} (T : Bt M) (Fd : Fun M.K "_law_great" "_law_great" s_great f fd) (hm : M.mg "_law_great" = some (.ref f)) (hb : Binds M.K fd ["rules", "by"] []) : Fnc M "_law_great" 1 2 (RP rGreat) := by
  refine fn_P Fd hm hb sc_great fun ds q ⟨rules, by_, e, hl, hsl, h0, h1, hq⟩ _ => ?_
  subst e
  show B _ [.dat (eRules rules), .dat (.int by_), .un, .un, .un, .un, .un] _ _
  have cm : ∀ i : Int, CMul i by_ := fun i => .inr ⟨by omega, by omega⟩
  refine b_cons <| b_set 2 <| e_lst <| ea_nil fun l => ?_
  refine b_cons (b_forI (α := Rule) [3, 4] eRule (t := .tup [.name 3, .name 4]) (.tup (.cons (.name 3) (.cons (.name 4) .nil))) ?_)
  refine ij_tup <| e_var 0 rfl ⟨_, rfl, rules, fun pre Γ' => Γ' = [.dat (eRules rules), .dat (.int by_), lst l ((greatL by_ pre).map eRule), .un, .un, .un, .un], rfl, rfl, ?_, ?_⟩
  · rintro pre r post Γ' hz e
    subst e
    refine ⟨_, rfl, rfl, ?_⟩
    have hpl : pre.length < 1000 := by rw [hz, List.length_append, List.length_cons] at hl; omega
    refine b_cons <| b_expr <| e_append <| e_bor 2 rfl ⟨l, rfl, ⟨2, _, rfl⟩, e_tup <| ea_cons <| e_var 3 rfl <| ea_cons <| e_tuple T.tuple <| e_frz ?_⟩
    refine e_lcM (α := Span) [("low", 5), ("high", 6)] eSpan (fun s => eSpan (s.1 * by_, s.2 * by_ + by_ - 1)) (t := .tup [.name 5, .name 6]) (.tup (.cons (.name 5) (.cons (.name 6) .nil))) ?_
    refine ij_tup <| e_var 4 rfl ⟨_, rfl, r.spans, rfl, by have := hsl r (by rw [hz]; simp); omega, fun s hs => ?_, fun l2 => ⟨l2, _, rfl, _, rfl, _, rfl, ea_nil ⟨_, rfl, 2, _, rfl, ?_, b_nil ?_⟩⟩⟩
    · refine ⟨_, rfl, rfl, ?_⟩
      refine e_tup <| ea_cons <| e_mulI <| e_var 5 rfl <| e_var 1 rfl ⟨_, _, rfl, rfl, cm _, ?_⟩
      refine ea_cons <| e_subI <| e_addI <| e_mulI <| e_var 6 rfl <| e_var 1 rfl ⟨_, _, rfl, rfl, cm _, ?_⟩
      exact e_var 1 rfl ⟨_, _, rfl, rfl, e_int ⟨_, _, rfl, rfl, ea_nil ⟨rfl, rfl⟩⟩⟩
    · unfold greatL; rw [List.length_map, List.length_map]; omega
    · have e : (greatL by_ (pre ++ [r])).map eRule = (greatL by_ pre).map eRule ++ [.tuple [.str r.word, .tuple (r.spans.map fun s => eSpan (s.1 * by_, s.2 * by_ + by_ - 1))]] := by
        unfold greatL
        rw [List.map_append, List.map_append]
        show _ ++ [PyData.tuple [.str r.word, .tuple ((r.spans.map fun s => (s.1 * by_, s.2 * by_ + by_ - 1)).map eSpan)]] = _
        have e4 : (r.spans.map fun s => (s.1 * by_, s.2 * by_ + by_ - 1)).map eSpan = r.spans.map fun s => eSpan (s.1 * by_, s.2 * by_ + by_ - 1) := by rw [List.map_map]; rfl
        rw [e4]
      show [Sl.dat (eRules rules), .dat (.int by_), lst l ((greatL by_ pre).map eRule ++ [.tuple [.str r.word, .tuple (r.spans.map fun s => eSpan (s.1 * by_, s.2 * by_ + by_ - 1))]]), .un, .un, .un, .un] = [Sl.dat (eRules rules), .dat (.int by_), lst l ((greatL by_ (pre ++ [r])).map eRule), .un, .un, .un, .un]
      rw [e]
  · rintro Γ' e
    subst e
    exact b_cons <| b_ret <| e_tuple T.tuple <| e_varF 2 rfl ⟨_, rfl, _, rfl, hq⟩
abbrev KLAW : Nat := 6
def RLaw : FR := fun ss Qd => ∃ a ns, ss = [scrS a ns] ∧ ns.length ≤ 1000 ∧ Qd [scrS a ns] (.dat (.bool true))
structure Fns (M : Mdl) : Prop where
  draws : Fnc M "_law_draws" 1 2 RDraws
  next : Fnc M "_law_next" 1 2 (RW rNext)
  pick : Fnc M "_law_pick" 2 2 (RW rPick)
  same : Fnc M "_law_same" 2 2 (RP (rSame 1))
  rules : Fnc M "_law_rules" 3 2 (RW rRules)
  asks : Fnc M "_law_asks" 1 1 (RP rAsks)
  place : Fnc M "_law_place" 1 2 (RP rPlace)
  answer : Fnc M "_law_answer" 2 2 (RP rTold)
  sizes : Fnc M "_law_sizes" 3 1 (RW fun ds q => ds = [] ∧ ∀ sizes ∈ sizesL, q (.dat (eSizes sizes)))
  great : Fnc M "_law_great" 1 2 (RP rGreat)
  told : Fnc M "range_told" 3 2 (RP rTold)
  yes : Fnc M "count_yes" 4 2 (RP rYes)
  first : Fnc M "first_differing" 4 3 (RP rFirst)
  never : Fnc M "never_first" 4 2 (RP rNever)
  boxes : Fnc M "boxes_yes" 4 2 (RP rBoxes)
theorem sizesL_ok {sizes : List Int} (h : sizes ∈ sizesL) : (sizes.length ≤ 3 ∧ ∀ s ∈ sizes, 0 < s ∧ s ≤ 20) ∧ 0 < sizes.length := by
  have : ∀ s ∈ sizesL, (s.length ≤ 3 ∧ ∀ x ∈ s, 0 < x ∧ x ≤ 20) ∧ 0 < s.length := by decide
  exact this sizes h
abbrev envA (a : Addr) (ns : List Int) (b : Addr) (turn : Nat) (sizes : List Int) (by_ : Int) (one other : List Rule) (ys un : List (List Int)) (v : Int) (s13 s14 s16 s17 s18 s19 s20 : Sl) : List Sl :=
  [scrS a ns, wS b, .dat (.int (turn : Int)), .dat (eSizes sizes), .dat (.int by_), .dat (eRules one), .dat (eRules other), .dat (eSizes (scale by_ sizes)), .dat (eRules (greatL by_ one)), .dat (eRules (greatL by_ other)), .dat (.list (ys.map eAsk)), .dat (.list (un.map eAsk)), .dat (.int v), s13, s14, .un, s16, s17, s18, s19, s20, .un, .un, .un, .un]
def unl (one other : List Rule) (l : List (List Int)) : List (List Int) := l.filter fun x => told one x != told other x
def yel (one : List Rule) (l : List (List Int)) : List (List Int) := l.filter fun x => told one x == "yes"
theorem InB.snoc {a : List Int} {c : Blk} (h : InB a c) {x : Int} {p : Int × Int} (h1 : p.1 ≤ x) (h2 : x < p.2) : InB (a ++ [x]) (c ++ [p]) := by
  induction h with
  | nil => exact .cons h1 h2 .nil
  | cons h3 h4 _ ih => exact .cons h3 h4 ih
theorem yel_len (one : List Rule) (l : List (List Int)) : (((yel one l).map eAsk).length : Int) = yesOf one l := by
  unfold yel yesOf
  rw [List.length_map]
  induction l with
  | nil => rfl
  | cons x xs ih =>
    unfold sumOf at ih ⊢
    rw [List.filter_cons, List.map_cons, List.sum_cons, ← ih]
    cases (told one x == "yes") with
    | true => rw [if_pos rfl, if_pos rfl, List.length_cons]; omega
    | false => simp
theorem law_ok {M : Mdl} {f fd} (T : Bt M) (N : Fns M) (Fd : Fun M.K "law" "law" s_law f fd) (hm : M.mg "law" = some (.ref f)) (hb : Binds M.K fd ["script"] []) : FnOk M.P M.w M.K M.mg M.base CX0 KLAW f fd ["script"] (spG M.K 1 RLaw) := by
  refine fn_raw (ps := ["script"]) Fd hm hb sc_law fun ss Qd ⟨a, ns, e, hns, hq⟩ _ => ?_
  subst e
  show B _ [scrS a ns, .un, .un, .un, .un, .un, .un, .un, .un, .un, .un, .un, .un, .un, .un, .un, .un, .un, .un, .un, .un, .un, .un, .un, .un] _ _
  refine b_cons <| b_set 1 <| e_wdict <| e_callO N.draws <| ea_cons <| e_bor 0 rfl <| ea_cons <| e_int <| ea_nil ⟨0, _, rfl, a, ns, 500, rfl, hns, by decide, fun l ds hds => ⟨_, _, rfl, l, ds, rfl, hds, fun b => ?_⟩⟩
  refine b_cons (b_forK (α := Nat) (fun k : Nat => .int (k : Int)) (t := .name 2) (.name 2) ?_)
  refine ij_rangeN T.range <| e_int ⟨4, rfl, by decide, List.range 4, fun pre Γ' => Γ' = [scrS a ns, wS b, .un, .un, .un, .un, .un, .un, .un, .un, .un, .un, .un, .un, .un, .un, .un, .un, .un, .un, .un, .un, .un, .un, .un], rfl, ⟨_, rfl, ?_⟩, ?_, ?_⟩
  · repeat (first | exact Wk.nil | refine Wk.same ?_ | refine Wk.un ?_)
  · rintro pre turn post Γ' hz e
    subst e
    refine b_cons <| b_asgE (t := .tup [.name 3, .name 4]) (.tup (.cons (.name 3) (.cons (.name 4) .nil))) <| e_tup <| ea_cons <| e_callW N.sizes <| ea_cons <| e_bor 1 rfl <| ea_nil ⟨1, rfl, rfl, fun sizes hsm => ?_⟩
    have hs := (sizesL_ok hsm).1
    have hs0 := (sizesL_ok hsm).2
    have hpos : ∀ s ∈ sizes, 0 < s := fun s h => (hs.2 s h).1
    refine ea_cons <| e_addI <| e_int <| e_mulI <| e_callW N.next <| ea_cons <| e_bor 1 rfl <| ea_cons <| e_int <| ea_nil ⟨1, rfl, 997, rfl, by decide, fun m m0 m1 => ?_⟩
    refine e_int ⟨_, _, rfl, rfl, .inr (by decide), _, _, rfl, rfl, ea_nil ⟨_, rfl, _, rfl, rfl, ?_⟩⟩
    obtain ⟨by_, hby, hb0, hb1⟩ : ∃ by_ : Int, 1 + m * 1000 = by_ ∧ 0 < by_ ∧ by_ ≤ 1000000 := ⟨_, rfl, by omega, by omega⟩
    rw [hby]
    refine b_cons <| b_asgE (t := .tup [.name 5, .name 6]) (.tup (.cons (.name 5) (.cons (.name 6) .nil))) <| e_tup <| ea_cons <| e_callW N.rules <| ea_cons <| e_bor 1 rfl <| ea_cons <| e_var 3 rfl <| ea_nil ⟨1, rfl, sizes, rfl, hs.1, hpos, fun one hol ho => ?_⟩
    refine ea_cons <| e_callW N.rules <| ea_cons <| e_bor 1 rfl <| ea_cons <| e_var 3 rfl <| ea_nil ⟨1, rfl, sizes, rfl, hs.1, hpos, fun other hotl hot => ?_⟩
    refine ea_nil ⟨_, rfl, _, rfl, rfl, ?_⟩
    have hl1 : one.length ≤ 20 := by omega
    have hsz : SzOk sizes := ⟨hs.1, fun s h => ⟨(hs.2 s h).1, by have := (hs.2 s h).2; omega⟩⟩
    have g1 := good_ok hsz hl1 ho
    have g2 := good_ok hsz (by omega) hot
    have gz := great_sz hb0 hb1 hs.1 hs.2
    have gl : ∀ rs : List Rule, (greatL by_ rs).length = rs.length := fun rs => by unfold greatL; rw [List.length_map]
    have gg1 := good_ok gz (by rw [gl]; exact hl1) (great_good hb0 ho)
    have gg2 := good_ok gz (by rw [gl]; omega) (great_good hb0 hot)
    have gg3 := good_ok (rules := greatL by_ one ++ greatL by_ other) gz (by rw [List.length_append, gl, gl]; omega) fun r hr => (List.mem_append.mp hr).elim (great_good hb0 ho r) (great_good hb0 hot r)
    have cm : ∀ i : Int, CMul i by_ := fun i => .inr ⟨by omega, by omega⟩
    refine b_cons <| b_par3 7 8 9 <| e_tuple T.tuple <| e_frz <| e_lcM (α := Int) [("size", 15)] .int (fun s => .int (s * by_)) (t := .name 15) (.name 15) <| ij_tup <| e_var 3 rfl ⟨_, rfl, sizes, rfl, by omega, fun s hm => ?_, fun l2 => ⟨l2, _, rfl, _, rfl, _, rfl, ?_⟩⟩
    · exact e_mulI <| e_var 15 rfl <| e_var 4 rfl ⟨_, _, rfl, rfl, cm _, rfl, rfl⟩
    have esc : sizes.map (fun s => PyData.int (s * by_)) = (scale by_ sizes).map .int := by unfold scale; rw [List.map_map]; rfl
    rw [esc]
    refine e_call N.great <| ea_cons <| e_var 5 rfl <| ea_cons <| e_var 4 rfl <| ea_nil ⟨one, by_, rfl, g1.1.1, g1.1.2.1, hb0, hb1, ?_⟩
    refine e_call N.great <| ea_cons <| e_var 6 rfl <| ea_cons <| e_var 4 rfl <| ea_nil ⟨other, by_, rfl, g2.1.1, g2.1.2.1, hb0, hb1, ?_⟩
    refine b_cons <| b_par3 10 11 12 <| e_frz <| e_lst <| ea_nil fun l3 => ⟨l3, _, rfl, e_frz <| e_lst <| ea_nil fun l4 => ⟨l4, _, rfl, e_int ?_⟩⟩
    refine B.at (Γ' := envA a ns b turn sizes by_ one other [] [] 1 .un .un .un .un .un .un .un) ?_ (by repeat (first | exact Wk.nil | refine Wk.same ?_ | refine Wk.un ?_))
    -- the small asks
    refine b_cons (b_forK (α := List Int) eAsk (t := .name 13) (.name 13) ?_)
    refine ij_lst <| e_call N.asks <| ea_cons <| e_var 3 rfl <| ea_nil ⟨sizes, rfl, hs.1, fun s h => ⟨Int.le_of_lt (hs.2 s h).1, (hs.2 s h).2⟩, _, rfl, asksL sizes, fun pre2 Γ' => Γ' = envA a ns b turn sizes by_ one other (yel one pre2) (unl one other pre2) 1 .un .un .un .un .un .un .un, rfl, ⟨_, rfl, Wk.refl _⟩, ?_, ?_⟩
    · rintro pre2 ask post2 Γ' hz2 e
      subst e
      have hal := asksL_len (sizes := sizes) (fun s h => (hs.2 s h).2) sizes [] (by simp)
      have hpw : 20 ^ sizes.length ≤ 20 ^ 3 := Nat.pow_le_pow_right (by decide) hs.1
      have hpl : pre2.length < (asksL sizes).length := by rw [hz2, List.length_append, List.length_cons]; omega
      have hask : ask.length = sizes.length := asksL_width sizes ask (by rw [hz2]; simp)
      have yl : (yel one pre2).length ≤ pre2.length := List.length_filter_le _ _
      have ul : (unl one other pre2).length ≤ pre2.length := List.length_filter_le _ _
      refine b_cut (fun Γ' => Γ' = envA a ns b turn sizes by_ one other (yel one (pre2 ++ [ask])) (unl one other pre2) 1 (.dat (eAsk ask)) .un .un .un .un .un .un) ?_ ?_
      · refine b_set 10 <| e_frz <| e_catL <| e_var 10 rfl <| e_frz <| e_ifExp <| t_cmp cd_eq rfl <| e_call N.answer <| ea_cons <| e_var 5 rfl <| ea_cons <| e_var 13 rfl <| ea_nil ⟨one, ask, rfl, g1.1, e_str ⟨_, _, rfl, rfl, _, ⟨told_ok g1.1.2.2, yes_ok, (eqv_str _ _).symm⟩, ?_⟩⟩
        cases hc : (told one ask == "yes") with
        | true =>
          have e : yel one (pre2 ++ [ask]) = yel one pre2 ++ [ask] := by unfold yel; rw [List.filter_append]; simp [hc]
          refine iteT <| e_lst <| ea_cons <| e_var 13 rfl <| ea_nil fun l5 => ⟨l5, _, rfl, _, _, rfl, rfl, ?_, fun l6 => ⟨l6, _, rfl, ?_⟩⟩
          · rw [List.length_map]; show _ + 1 ≤ 1000000; omega
          · rw [e]
            show _ = envA a ns b turn sizes by_ one other (yel one pre2 ++ [ask]) (unl one other pre2) 1 (.dat (eAsk ask)) .un .un .un .un .un .un
            unfold envA
            rw [List.map_append]; rfl
        | false =>
          have e : yel one (pre2 ++ [ask]) = yel one pre2 := by unfold yel; rw [List.filter_append]; simp [hc]
          refine iteF <| e_lst <| ea_nil fun l5 => ⟨l5, _, rfl, _, _, rfl, rfl, ?_, fun l6 => ⟨l6, _, rfl, ?_⟩⟩
          · rw [List.length_map]; show _ + 0 ≤ 1000000; omega
          · rw [e, List.append_nil]; rfl
      rintro Γ' e
      subst e
      refine b_cut (fun Γ' => Γ' = envA a ns b turn sizes by_ one other (yel one (pre2 ++ [ask])) (unl one other (pre2 ++ [ask])) 1 (.dat (eAsk ask)) .un .un .un .un .un .un) ?_ ?_
      · refine b_set 11 <| e_frz <| e_catL <| e_var 11 rfl <| e_frz <| e_ifExp <| t_cmp cd_ne rfl <| e_call N.answer <| ea_cons <| e_var 5 rfl <| ea_cons <| e_var 13 rfl <| ea_nil ⟨one, ask, rfl, g1.1, ?_⟩
        refine e_call N.answer <| ea_cons <| e_var 6 rfl <| ea_cons <| e_var 13 rfl <| ea_nil ⟨other, ask, rfl, g2.1, _, _, rfl, rfl, _, ⟨told_ok g1.1.2.2, told_ok g2.1.2.2, rfl⟩, ?_⟩
        rw [eqv_str]
        by_cases hc : told one ask = told other ask
        · rw [if_neg (by simp [hc])]
          have e : unl one other (pre2 ++ [ask]) = unl one other pre2 := by unfold unl; rw [List.filter_append]; simp [hc]
          refine e_lst <| ea_nil fun l5 => ⟨l5, _, rfl, _, _, rfl, rfl, ?_, fun l6 => ⟨l6, _, rfl, ?_⟩⟩
          · rw [List.length_map]; show _ + 0 ≤ 1000000; omega
          · rw [e, List.append_nil]; rfl
        · rw [if_pos (by simpa using hc)]
          have e : unl one other (pre2 ++ [ask]) = unl one other pre2 ++ [ask] := by unfold unl; rw [List.filter_append]; simp [hc]
          refine e_lst <| ea_cons <| e_var 13 rfl <| ea_nil fun l5 => ⟨l5, _, rfl, _, _, rfl, rfl, ?_, fun l6 => ⟨l6, _, rfl, ?_⟩⟩
          · rw [List.length_map]; show _ + 1 ≤ 1000000; omega
          · rw [e]
            show _ = envA a ns b turn sizes by_ one other (yel one (pre2 ++ [ask])) (unl one other pre2 ++ [ask]) 1 (.dat (eAsk ask)) .un .un .un .un .un .un
            unfold envA
            rw [List.map_append]; rfl
      rintro Γ' e
      subst e
      refine b_cons <| b_set 14 <| e_tuple T.tuple <| e_frz <| e_lcI (α := Int) [("number", 23)] .int (t := .name 23) (.name 23) <| ij_tup <| e_var 13 rfl ⟨_, rfl, ask, fun pre3 acc Γ' => Γ' = envA a ns b turn sizes by_ one other (yel one (pre2 ++ [ask])) (unl one other (pre2 ++ [ask])) 1 (.dat (eAsk ask)) .un .un .un .un .un .un ∧ ∃ fs : List Int, acc = fs.map .int ∧ InB fs (pre3.map (cellP by_)), rfl, ⟨rfl, [], rfl, .nil⟩, ?_, ?_⟩
      · rintro pre3 x post3 acc Γ' hz3 ⟨e, fs, e2, hin⟩
        subst e e2
        have hfl : fs.length ≤ 3 := by
          have h1 := hin.len
          rw [List.length_map] at h1
          have h2 : pre3.length ≤ ask.length := by rw [hz3, List.length_append]; omega
          rw [hask] at h2
          have := hs.1
          omega
        dsimp only [DL.Ts, DL.Tg.put]
        refine iteT ?_
        refine e_addI <| e_mulI <| e_var 23 rfl <| e_var 4 rfl ⟨_, _, rfl, rfl, cm _, ?_⟩
        refine e_callW N.pick <| ea_cons <| e_bor 1 rfl <| ea_cons <| e_frz <| e_lst <| ea_cons <| e_int <| ea_cons <| e_subI <| e_var 4 rfl <| e_int ⟨_, _, rfl, rfl, ea_nil fun l5 => ⟨l5, _, rfl, ea_nil ⟨1, rfl, _, rfl, Nat.zero_lt_succ _, fun d hd => ?_⟩⟩⟩
        obtain ⟨j, e, j0, j1⟩ := int_mem (l := [0, by_ - 1]) (lo := 0) (hi := by_) hd fun y hy => by
          simp only [List.mem_cons, List.not_mem_nil, or_false] at hy
          omega
        subst e
        refine ⟨_, _, rfl, rfl, _, rfl, by rw [List.length_map]; omega, rfl, fs ++ [x * by_ + j], by rw [List.map_append]; rfl, ?_⟩
        rw [List.map_append]
        refine InB.snoc hin ?_ ?_
        · show x * by_ ≤ x * by_ + j; omega
        · show x * by_ + j < (x + 1) * by_
          rw [Int.add_mul, Int.one_mul]; omega
      rintro acc Γ' ⟨e, fs, e2, hin⟩ l7
      subst e e2
      refine ⟨l7, _, rfl, _, rfl, _, rfl, ?_⟩
      refine b_cons <| b_if <| t_not <| t_val <| e_call N.same <| ea_cons <| e_call N.told <| ea_cons <| e_var 8 rfl <| ea_cons <| e_var 14 rfl <| ea_nil ⟨greatL by_ one, fs, rfl, gg1.1, ?_⟩
      rw [told_great hb0 hin]
      refine ea_cons <| e_call N.answer <| ea_cons <| e_var 5 rfl <| ea_cons <| e_var 13 rfl <| ea_nil ⟨one, ask, rfl, g1.1, ea_nil ⟨_, rfl, pl_str g1.1.2.2, _, rfl, ?_⟩⟩
      exact iteF <| b_nil <| b_nil ⟨_, rfl, (by repeat (first | exact Wk.nil | refine Wk.same ?_ | refine Wk.un ?_))⟩
    · rintro Γ' e
      subst e
      have hnx : ∀ i : Int, CMul i (powL by_ sizes) := fun i => .inr <| by
        have h0 : ∀ l : List Int, l.length ≤ 3 → 0 ≤ powL by_ l ∧ powL by_ l ≤ 1000000 ^ l.length := fun l => by
          refine snoc_ind (P := fun l => l.length ≤ 3 → 0 ≤ powL by_ l ∧ powL by_ l ≤ 1000000 ^ l.length) (fun _ => ⟨(by show (0 : Int) ≤ 1; decide), (by show (1 : Int) ≤ 1; decide)⟩) (fun l x ih hl => ?_) l
          rw [List.length_append] at hl
          obtain ⟨h1, h2⟩ := ih (by have : l.length + 1 ≤ 3 := hl; omega)
          have e : powL by_ (l ++ [x]) = powL by_ l * by_ := by unfold powL; rw [List.foldl_append]; rfl
          rw [e, List.length_append]
          refine ⟨Int.mul_nonneg h1 (Int.le_of_lt hb0), ?_⟩
          show powL by_ l * by_ ≤ 1000000 ^ (l.length + 1)
          rw [Int.pow_succ]
          exact Int.mul_le_mul h2 hb1 (Int.le_of_lt hb0) (by exact Int.le_trans h1 h2)
        obtain ⟨h1, h2⟩ := h0 sizes hs.1
        have h3 : (1000000 : Int) ^ sizes.length ≤ 1000000000000000000 := by
          have h5 := hs.1
          have : sizes.length = 0 ∨ sizes.length = 1 ∨ sizes.length = 2 ∨ sizes.length = 3 := by omega
          rcases this with e | e | e | e <;> rw [e] <;> decide
        exact ⟨Int.lt_of_lt_of_le (by decide) h1, Int.lt_of_le_of_lt (Int.le_trans h2 h3) (by decide)⟩
      refine b_cons (b_forK (α := Int) .int (t := .name 15) (.name 15) ?_)
      refine ij_tup <| e_var 3 rfl ⟨_, rfl, sizes, fun pre2 Γ' => Γ' = envA a ns b turn sizes by_ one other (yel one (asksL sizes)) (unl one other (asksL sizes)) (powL by_ pre2) .un .un .un .un .un .un .un, rfl, ⟨_, rfl, Wk.refl _⟩, ?_, ?_⟩
      · rintro pre2 x post2 Γ' hz2 e
        subst e
        refine b_cons <| b_set 12 <| e_mulI <| e_var 12 rfl <| e_var 4 rfl ⟨_, _, rfl, rfl, cm _, b_nil ⟨_, rfl, ?_⟩⟩
        have e : powL by_ (pre2 ++ [x]) = powL by_ pre2 * by_ := by unfold powL; rw [List.foldl_append]; rfl
        rw [e]
        exact (by repeat (first | exact Wk.nil | refine Wk.same ?_ | refine Wk.un ?_))
      rintro Γ' e
      subst e
      have ec := count_great hb0 hb1 hs.1 hs.2 ho
      have ef := first_great hb0 hb1 hs.1 hs.2 ho hot
      have en := never_great hb0 hb1 hs.1 hs.2 ho
      refine b_cons <| b_if <| t_not <| t_val <| e_call N.same <| ea_cons <| e_call N.yes <| ea_cons <| e_var 7 rfl <| ea_cons <| e_var 8 rfl <| ea_nil ⟨scale by_ sizes, greatL by_ one, rfl, gg1.1, gg1.2, small_ok gz (great_good hb0 ho), ?_⟩
      rw [ec]
      refine ea_cons <| e_mulI <| e_len T.len <| e_var 10 rfl ⟨_, _, rfl, rfl, e_var 12 rfl ⟨_, _, rfl, rfl, hnx _, ea_nil ⟨.int (yesOf one (asksL sizes) * powL by_ sizes), ?_, .int _, _, rfl, ?_⟩⟩⟩
      · rw [yel_len]
      refine iteF <| b_nil ?_
      have efd : ((asksL sizes).find? fun x => told one x != told other x) = (unl one other (asksL sizes))[0]? := head_find.symm
      rw [efd] at ef
      have shp : ∀ l : List (List Int), SeqAt.shaped (.list (l.map eAsk)) = true := fun l => Shp.shaped (n := 2) (Shp.lst fun x hx => by
        obtain ⟨i, _, e⟩ := List.mem_map.mp hx
        rw [← e]; exact Shp.tup (Shp.ints _))
      have shn : SeqAt.shaped (.list []) = true := shp []
      have uw : ∀ u ∈ unl one other (asksL sizes), u.length ≤ 3 := fun u hu => by
        rw [asksL_width sizes u (List.mem_filter.mp hu).1]; exact hs.1
      refine b_cut (fun Γ' => Γ' = envA a ns b turn sizes by_ one other (yel one (asksL sizes)) (unl one other (asksL sizes)) (powL by_ sizes) .un .un (.dat (eOptAsk (firstDiff (scale by_ sizes) (greatL by_ one) (greatL by_ other)))) .un .un .un .un) ?_ ?_
      · refine b_set 16 <| e_ifExp <| t_cmp cd_ne rfl <| e_var 11 rfl <| e_frz <| e_lst <| ea_nil fun l5 => ⟨l5, _, rfl, _, _, rfl, rfl, _, ⟨shp _, shn, rfl⟩, ?_⟩
        rw [eqv_nil_lst, ef]
        cases hu : unl one other (asksL sizes) with
        | nil => exact iteF <| e_non rfl
        | cons u us =>
          have hul : u.length ≤ 3 := uw u (by rw [hu]; exact List.mem_cons_self)
          refine iteT <| e_tuple T.tuple <| e_frz <| e_lcM (α := Int) [("number", 23)] .int (fun x => .int (x * by_)) (t := .name 23) (.name 23) <| ij_tup <| e_ixC <| e_var 11 rfl ⟨_, _, _, rfl, rfl, rfl, _, rfl, u, rfl, by omega, fun x hx => ?_, fun l6 => ⟨l6, _, rfl, _, rfl, _, rfl, ?_⟩⟩
          · exact e_mulI <| e_var 23 rfl <| e_var 4 rfl ⟨_, _, rfl, rfl, cm _, rfl, rfl⟩
          · have e : u.map (fun x => PyData.int (x * by_)) = (scale by_ u).map .int := by unfold scale; rw [List.map_map]; rfl
            rw [e]; rfl
      rintro Γ' e
      subst e
      refine b_cons <| b_if <| t_not <| t_val <| e_call N.same <| ea_cons <| e_call N.first <| ea_cons <| e_var 7 rfl <| ea_cons <| e_var 8 rfl <| ea_cons <| e_var 9 rfl <| ea_nil ⟨scale by_ sizes, greatL by_ one, greatL by_ other, rfl, ⟨gg1.1, gg2.1, gg3.2⟩, ?_⟩
      refine ea_cons <| e_var 16 rfl <| ea_nil ⟨_, rfl, ?_, _, rfl, ?_⟩
      · rw [ef]
        cases hu : unl one other (asksL sizes) with
        | nil => exact .none
        | cons u us =>
          have hul : u.length ≤ 3 := uw u (by rw [hu]; exact List.mem_cons_self)
          refine .tup (by rw [List.length_map]; unfold scale; rw [List.length_map]; omega) fun x hx => ?_
          obtain ⟨i, _, e⟩ := List.mem_map.mp hx
          rw [← e]; exact .int _
      refine iteF <| b_nil ?_
      refine b_cons <| b_setE 17 <| e_lcM (α := List Int) [("ask", 13)] eAsk (fun ask => eOpt (placeOf one ask)) (t := .name 13) (.name 13) <| ij_lst <| e_call N.asks <| ea_cons <| e_var 3 rfl <| ea_nil ⟨sizes, rfl, hs.1, fun s h => ⟨Int.le_of_lt (hs.2 s h).1, (hs.2 s h).2⟩, _, rfl, asksL sizes, rfl, ?_, fun ask hm => ?_, fun l6 => ?_⟩
      · have hal := asksL_len (sizes := sizes) (fun s h => (hs.2 s h).2) sizes [] (by simp)
        have hpw : 20 ^ sizes.length ≤ 20 ^ 3 := Nat.pow_le_pow_right (by decide) hs.1
        omega
      · exact e_call N.place <| ea_cons <| e_var 5 rfl <| ea_cons <| e_var 13 rfl <| ea_nil ⟨one, ask, rfl, g1.1.1, g1.1.2.1, rfl, rfl⟩
      have efi : (asksL sizes).map (fun ask => eOpt (placeOf one ask)) = ((asksL sizes).map (placeOf one)).map eOpt := by rw [List.map_map]; rfl
      rw [efi]
      refine b_cons <| b_if <| t_not <| t_val <| e_call N.same <| ea_cons <| e_call N.never <| ea_cons <| e_var 7 rfl <| ea_cons <| e_var 8 rfl <| ea_nil ⟨scale by_ sizes, greatL by_ one, rfl, gg1.1, gg1.2, ?_⟩
      rw [en]
      refine ea_cons <| e_tuple T.tuple <| e_frz <| e_lcF (α := Nat) [("k", 24)] (fun k : Nat => .int (k : Int)) (fun k => !decide (some k ∈ (asksL sizes).map (placeOf one))) (fun k : Nat => .int (k : Int)) (t := .name 24) (.name 24) ?_
      refine ij_rangeLen T.range T.len <| e_var 5 rfl ⟨_, _, rfl, rfl, by rw [List.length_map]; omega, List.range one.length, by rw [List.length_map], by rw [List.length_range]; omega, fun k hk => ?_, fun l7 => ⟨l7, _, rfl, _, rfl, _, rfl, ea_nil ⟨_, rfl, ?_, _, rfl, ?_⟩⟩⟩
      · refine t_cmpV cd_notin rfl <| e_var 24 rfl <| e_bor 17 rfl ⟨_, _, .dat, .bor 17 rfl, _, ⟨_, rfl, Shp.shaped (n := 0) (Shp.int _), shp_opts _, rfl⟩, ?_, ?_⟩
        · rw [any_opt]
        · rw [any_opt]
          split
          · exact e_var 24 rfl ⟨rfl, rfl⟩
          · rfl
      · refine .tup ?_ fun x hx => ?_
        · rw [List.length_map]
          refine Nat.le_trans (List.length_filter_le _ _) ?_
          rw [List.length_range]; omega
        · obtain ⟨i, _, e⟩ := List.mem_map.mp hx
          rw [← e]; exact .int _
      refine iteF <| b_nil ?_
      have ev := boxes_vol gz (by unfold scale; rw [List.length_map]; exact hs0) (great_good hb0 ho)
      rw [ec] at ev
      refine b_cons <| b_set 18 <| e_int ?_
      refine B.at (Γ' := envA a ns b turn sizes by_ one other (yel one (asksL sizes)) (unl one other (asksL sizes)) (powL by_ sizes) .un .un .un .un (.dat (.int (volume []))) .un .un) ?_ (by repeat (first | exact Wk.nil | refine Wk.same ?_ | refine Wk.un ?_))
      refine b_cons (b_forK (α := List Span) eSpans (t := .name 19) (.name 19) ?_)
      refine ij_tup <| e_call N.boxes <| ea_cons <| e_var 7 rfl <| ea_cons <| e_var 8 rfl <| ea_nil ⟨scale by_ sizes, greatL by_ one, rfl, by unfold scale; rw [List.length_map]; exact hs0, gg1.1, gg1.2, _, rfl, boxesOf (scale by_ sizes) (greatL by_ one), fun pre2 Γ' => Γ' = envA a ns b turn sizes by_ one other (yel one (asksL sizes)) (unl one other (asksL sizes)) (powL by_ sizes) .un .un .un .un (.dat (.int (volume pre2))) .un .un, rfl, ⟨_, rfl, Wk.refl _⟩, ?_, ?_⟩
      · rintro pre2 box post2 Γ' hz2 e
        subst e
        have hbd := ev.2 box (by rw [hz2]; simp)
        refine b_cons <| b_set 20 <| e_int ?_
        refine b_cons (b_forK (α := Span) eSpan (t := .tup [.name 21, .name 22]) (.tup (.cons (.name 21) (.cons (.name 22) .nil))) ?_)
        refine ij_tup <| e_var 19 rfl ⟨_, rfl, box, fun pre3 Γ' => Γ' = envA a ns b turn sizes by_ one other (yel one (asksL sizes)) (unl one other (asksL sizes)) (powL by_ sizes) .un .un .un .un (.dat (.int (volume pre2))) (.dat (eSpans box)) (.dat (.int (countIn pre3))), rfl, ⟨_, rfl, (by repeat (first | exact Wk.nil | refine Wk.same ?_ | refine Wk.un ?_))⟩, ?_, ?_⟩
        · rintro pre3 s post3 Γ' hz3 e
          subst e
          refine ⟨_, rfl, rfl, ?_⟩
          have hb4 := hbd s (by rw [hz3]; simp)
          refine b_cons <| b_set 20 <| e_mulI <| e_var 20 rfl <| e_addI <| e_subI <| e_var 22 rfl <| e_var 21 rfl ⟨_, _, rfl, rfl, e_int ⟨_, _, rfl, rfl, _, _, rfl, rfl, .inr ⟨by omega, by omega⟩, b_nil ⟨_, rfl, ?_⟩⟩⟩
          rw [countIn_snoc]
          exact (by repeat (first | exact Wk.nil | refine Wk.same ?_ | refine Wk.un ?_))
        rintro Γ' e
        subst e
        refine b_cons <| b_augA 18 rfl <| e_var 20 rfl ⟨_, rfl, b_nil ⟨_, rfl, ?_⟩⟩
        have e : volume (pre2 ++ [box]) = volume pre2 + countIn box := by unfold volume; rw [sumOf_append]; unfold sumOf; simp
        rw [e]
        exact (by repeat (first | exact Wk.nil | refine Wk.same ?_ | refine Wk.un ?_))
      rintro Γ' e
      subst e
      rw [ev.1]
      refine b_cons <| b_if <| t_cmp cd_ne rfl <| e_var 18 rfl <| e_mulI <| e_len T.len <| e_var 10 rfl ⟨_, _, rfl, rfl, e_var 12 rfl ⟨_, _, rfl, rfl, hnx _, _, _, rfl, rfl, _, ⟨Shp.shaped (n := 0) (Shp.int _), Shp.shaped (n := 0) (Shp.int _), rfl⟩, ?_⟩⟩
      rw [eqv_int, yel_len, beq_self_eq_true]
      exact iteF <| b_nil <| b_nil ⟨_, rfl, (by repeat (first | exact Wk.nil | refine Wk.same ?_ | refine Wk.un ?_))⟩
  · rintro Γ' e
    subst e
    refine b_cons <| b_ret <| e_bl fun _ => ?_
    show Qd [finS (scrS a ns) (scrS a ns)] _
    rw [finS_own]
    exact hq
end K61
namespace K61
open PySem L2 DL PyProof.Rows
theorem all_of {l : PySem.W.OpenLaw} {w : World} {K : PySem.W.Frag} {h : Heap} {mg : Str → Option Value} {fa fl : Addr} (X : K.In h) (G : h.Ns mainGlobals mg) (hfa : mg "law" = some (.ref fa))
    {oc : Value} {od : Option Addr} {osl : Array (Option Value)} {kV doc pm : Value} {an : Option Addr} {cdv ct : Value} (a : PySem.W.nsIn K mainGlobals "law" = some (some (.ref fl)))
    (l1 : K.lookup fl = some ⟨oc, od, .func (PySem.W.fnOf "law" "law" (defArgs s_law) (defBody s_law) (defScope s_law) .none kV doc pm an cdv ct), osl⟩) (c : PySem.W.codeIn K cdv "law" = true) (k : PySem.W.keepIn K (.ref fl) = true)
    (d_set_of : IsDef K "set_of" s_set_of)
    (d_falls_under : IsDef K "falls_under" s_falls_under)
    (d_place_of : IsDef K "place_of" s_place_of)
    (d_range_told : IsDef K "range_told" s_range_told)
    (d_cuts_of : IsDef K "cuts_of" s_cuts_of)
    (d_blocks_of : IsDef K "blocks_of" s_blocks_of)
    (d_first_differing : IsDef K "first_differing" s_first_differing)
    (d_count_in : IsDef K "count_in" s_count_in)
    (d_count_yes : IsDef K "count_yes" s_count_yes)
    (d_never_first : IsDef K "never_first" s_never_first)
    (d_boxes_yes : IsDef K "boxes_yes" s_boxes_yes)
    (d_is_next : IsDef K "is_next" s_is_next)
    (d_draws : IsDef K "_law_draws" s_draws)
    (d_next : IsDef K "_law_next" s_next)
    (d_pick : IsDef K "_law_pick" s_pick)
    (d_same : IsDef K "_law_same" s_same)
    (d_rules : IsDef K "_law_rules" s_rules)
    (d_asks : IsDef K "_law_asks" s_asks)
    (d_place : IsDef K "_law_place" s_place)
    (d_answer : IsDef K "_law_answer" s_answer)
    (d_sizes : IsDef K "_law_sizes" s_sizes)
    (d_great : IsDef K "_law_great" s_great)
    (z_abs : PySem.W.nsIn K mainGlobals "abs" = some none)
    (z_all : PySem.W.nsIn K mainGlobals "all" = some none)
    (z_bool : PySem.W.nsIn K mainGlobals "bool" = some none)
    (z_int : PySem.W.nsIn K mainGlobals "int" = some none)
    (z_isinstance : PySem.W.nsIn K mainGlobals "isinstance" = some none)
    (z_len : PySem.W.nsIn K mainGlobals "len" = some none)
    (z_range : PySem.W.nsIn K mainGlobals "range" = some none)
    (z_set : PySem.W.nsIn K mainGlobals "set" = some none)
    (z_sorted : PySem.W.nsIn K mainGlobals "sorted" = some none)
    (z_str : PySem.W.nsIn K mainGlobals "str" = some none)
    (z_sum : PySem.W.nsIn K mainGlobals "sum" = some none)
    (z_tuple : PySem.W.nsIn K mainGlobals "tuple" = some none)
    (z_zip : PySem.W.nsIn K mainGlobals "zip" = some none)
    : ∃ fd : FuncData, (∀ (s : Shared) (v : Value), BindsTo s fd ⟨[v], []⟩ [("script", v)]) ∧ ∀ base : Heap, K.In base → base.Ns mainGlobals mg → FnOk l.prog w K mg base CX0 KLAW fa fd ["script"] (spG K 1 RLaw) := by
  have e := hfa.symm.trans (PySem.W.mg_of X G a)
  cases e
  refine ⟨PySem.W.fnOf "law" "law" (defArgs s_law) (defBody s_law) (defScope s_law) .none kV doc pm an cdv ct, fun s v => .of_eq rfl, fun base _ _ => ?_⟩
  have FL := fun_mk (st := s_law) l1 c k
  have bL : Binds K _ ["script"] [] := FL.binds (ps := ["script"]) fun _ _ _ _ _ _ us hl => match us, hl with | [_], _ => rfl
  obtain ⟨f_set_of, g_set_of, F_set_of, m_set_of, b_set_of⟩ := d_set_of.use X G (ps := ["things"]) fun _ _ _ _ _ _ us hl => match us, hl with | [_], _ => rfl
  obtain ⟨f_falls_under, g_falls_under, F_falls_under, m_falls_under, b_falls_under⟩ := d_falls_under.use X G (ps := ["ask", "spans"]) fun _ _ _ _ _ _ us hl => match us, hl with | [_, _], _ => rfl
  obtain ⟨f_place_of, g_place_of, F_place_of, m_place_of, b_place_of⟩ := d_place_of.use X G (ps := ["rules", "ask"]) fun _ _ _ _ _ _ us hl => match us, hl with | [_, _], _ => rfl
  obtain ⟨f_range_told, g_range_told, F_range_told, m_range_told, b_range_told⟩ := d_range_told.use X G (ps := ["rules", "ask"]) fun _ _ _ _ _ _ us hl => match us, hl with | [_, _], _ => rfl
  obtain ⟨f_cuts_of, g_cuts_of, F_cuts_of, m_cuts_of, b_cuts_of⟩ := d_cuts_of.use X G (ps := ["sizes", "rules", "field"]) fun _ _ _ _ _ _ us hl => match us, hl with | [_, _, _], _ => rfl
  obtain ⟨f_blocks_of, g_blocks_of, F_blocks_of, m_blocks_of, b_blocks_of⟩ := d_blocks_of.use X G (ps := ["sizes", "rules"]) fun _ _ _ _ _ _ us hl => match us, hl with | [_, _], _ => rfl
  obtain ⟨f_first_differing, g_first_differing, F_first_differing, m_first_differing, b_first_differing⟩ := d_first_differing.use X G (ps := ["sizes", "one", "other"]) fun _ _ _ _ _ _ us hl => match us, hl with | [_, _, _], _ => rfl
  obtain ⟨f_count_in, g_count_in, F_count_in, m_count_in, b_count_in⟩ := d_count_in.use X G (ps := ["spans"]) fun _ _ _ _ _ _ us hl => match us, hl with | [_], _ => rfl
  obtain ⟨f_count_yes, g_count_yes, F_count_yes, m_count_yes, b_count_yes⟩ := d_count_yes.use X G (ps := ["sizes", "rules"]) fun _ _ _ _ _ _ us hl => match us, hl with | [_, _], _ => rfl
  obtain ⟨f_never_first, g_never_first, F_never_first, m_never_first, b_never_first⟩ := d_never_first.use X G (ps := ["sizes", "rules"]) fun _ _ _ _ _ _ us hl => match us, hl with | [_, _], _ => rfl
  obtain ⟨f_boxes_yes, g_boxes_yes, F_boxes_yes, m_boxes_yes, b_boxes_yes⟩ := d_boxes_yes.use X G (ps := ["sizes", "rules"]) fun _ _ _ _ _ _ us hl => match us, hl with | [_, _], _ => rfl
  obtain ⟨f_is_next, g_is_next, F_is_next, m_is_next, b_is_next⟩ := d_is_next.use X G (ps := ["spans", "other"]) fun _ _ _ _ _ _ us hl => match us, hl with | [_, _], _ => rfl
  obtain ⟨f_draws, g_draws, F_draws, m_draws, b_draws⟩ := d_draws.use X G (ps := ["script", "many"]) fun _ _ _ _ _ _ us hl => match us, hl with | [_, _], _ => rfl
  obtain ⟨f_next, g_next, F_next, m_next, b_next⟩ := d_next.use X G (ps := ["w", "many"]) fun _ _ _ _ _ _ us hl => match us, hl with | [_, _], _ => rfl
  obtain ⟨f_pick, g_pick, F_pick, m_pick, b_pick⟩ := d_pick.use X G (ps := ["w", "rows"]) fun _ _ _ _ _ _ us hl => match us, hl with | [_, _], _ => rfl
  obtain ⟨f_same, g_same, F_same, m_same, b_same⟩ := d_same.use X G (ps := ["seen", "due"]) fun _ _ _ _ _ _ us hl => match us, hl with | [_, _], _ => rfl
  obtain ⟨f_rules, g_rules, F_rules, m_rules, b_rules⟩ := d_rules.use X G (ps := ["w", "sizes"]) fun _ _ _ _ _ _ us hl => match us, hl with | [_, _], _ => rfl
  obtain ⟨f_asks, g_asks, F_asks, m_asks, b_asks⟩ := d_asks.use X G (ps := ["sizes"]) fun _ _ _ _ _ _ us hl => match us, hl with | [_], _ => rfl
  obtain ⟨f_place, g_place, F_place, m_place, b_place⟩ := d_place.use X G (ps := ["rules", "ask"]) fun _ _ _ _ _ _ us hl => match us, hl with | [_, _], _ => rfl
  obtain ⟨f_answer, g_answer, F_answer, m_answer, b_answer⟩ := d_answer.use X G (ps := ["rules", "ask"]) fun _ _ _ _ _ _ us hl => match us, hl with | [_, _], _ => rfl
  obtain ⟨f_sizes, g_sizes, F_sizes, m_sizes, b_sizes⟩ := d_sizes.use X G (ps := ["w"]) fun _ _ _ _ _ _ us hl => match us, hl with | [_], _ => rfl
  obtain ⟨f_great, g_great, F_great, m_great, b_great⟩ := d_great.use X G (ps := ["rules", "by"]) fun _ _ _ _ _ _ us hl => match us, hl with | [_, _], _ => rfl
  have NB := fun {x : Str} (z : PySem.W.nsIn K mainGlobals x = some none) => PySem.W.mg_none_of X G z
  let M : Mdl := ⟨l.prog, w, K, mg, base⟩
  have T : Bt M := ⟨NB z_abs, NB z_all, NB z_bool, NB z_int, NB z_isinstance, NB z_len, NB z_range, NB z_set, NB z_sorted, NB z_str, NB z_sum, NB z_tuple, NB z_zip⟩
  have r1 := set_of_ok (M := M) T F_set_of m_set_of b_set_of
  have r2 := falls_under_ok (M := M) T F_falls_under m_falls_under b_falls_under
  have r3 := place_of_ok (M := M) T r2 F_place_of m_place_of b_place_of
  have r4 := range_told_ok (M := M) T r3 F_range_told m_range_told b_range_told
  have r5 := cuts_of_ok (M := M) r1 F_cuts_of m_cuts_of b_cuts_of
  have r6 := blocks_of_ok (M := M) T r5 F_blocks_of m_blocks_of b_blocks_of
  have r7 := first_differing_ok (M := M) r6 r4 F_first_differing m_first_differing b_first_differing
  have r8 := never_first_ok (M := M) T r6 r3 F_never_first m_never_first b_never_first
  have r9 := count_in_ok (M := M) F_count_in m_count_in b_count_in
  have r10 := count_yes_ok (M := M) T r6 r4 r9 F_count_yes m_count_yes b_count_yes
  have r11 := draws_ok (M := M) T F_draws m_draws b_draws
  have r12 := next_ok (M := M) T F_next m_next b_next
  have r13 := pick_ok (M := M) T r12 F_pick m_pick b_pick
  have r15 := same_ok (M := M) T F_same m_same b_same
  have r16 := rules_ok (M := M) T r12 r13 F_rules m_rules b_rules
  have r17 := asks_ok (M := M) T F_asks m_asks b_asks
  have r18 := place2_ok (M := M) T F_place m_place b_place
  have r19 := answer_ok (M := M) T r18 F_answer m_answer b_answer
  have r20 := sizes_ok (M := M) r13 F_sizes m_sizes b_sizes
  have r21 := is_next_ok (M := M) F_is_next m_is_next b_is_next
  have r22 := boxes_yes_ok (M := M) T r6 r4 r21 F_boxes_yes m_boxes_yes b_boxes_yes
  have r23 := great_ok (M := M) T F_great m_great b_great
  exact law_ok (M := M) T ⟨r11, r12, r13, r15 1, r16, r17, r18, r19, r20, r23, r4, r10, r7, r8, r22⟩ FL hfa bL
end K61
open PySem PySem.W PyProof.Rows
set_option maxHeartbeats 0 in
theorem PySem.Challenge.cw_grantwarrant_k61_ranges_of_great_numbers_holds : PySem.Challenge.rw_grantwarrant_k61_ranges_of_great_numbers.Holds := by
  w_on; o_law; k_head; (case hw => w_witness2)
  k_fill
  refine L2.walk_of (l := PySem.Challenge.rw_grantwarrant_k61_ranges_of_great_numbers) (n := 63) (k := K61.KLAW) (x := "script") (CX := fun _ => L2.CX0) (sp := fun w => DL.spG _ 1 K61.RLaw) rfl (by decide) rfl ⟨rfl, by decide, by decide⟩ (fun w h Y => PySem.W.kIn_of Y) ?F (fun w H a ns hl _ hS => DL.law_end (fun a ns Qd h1 h2 => ⟨a, ns, rfl, h1, h2 _⟩) (by decide) H a ns hl hS) (fun _ _ _ _ _ h => h)
  case F =>
    intro w mg fa h KX G hmg
    refine' K61.all_of KX G hmg ?a ?l ?c ?k (DL.IsDef.make ?a0 ?l0 ?c0 ?k0) (DL.IsDef.make ?a1 ?l1 ?c1 ?k1) (DL.IsDef.make ?a2 ?l2 ?c2 ?k2) (DL.IsDef.make ?a3 ?l3 ?c3 ?k3) (DL.IsDef.make ?a4 ?l4 ?c4 ?k4) (DL.IsDef.make ?a5 ?l5 ?c5 ?k5) (DL.IsDef.make ?a6 ?l6 ?c6 ?k6) (DL.IsDef.make ?a7 ?l7 ?c7 ?k7) (DL.IsDef.make ?a8 ?l8 ?c8 ?k8) (DL.IsDef.make ?a9 ?l9 ?c9 ?k9) (DL.IsDef.make ?a10 ?l10 ?c10 ?k10) (DL.IsDef.make ?a11 ?l11 ?c11 ?k11) (DL.IsDef.make ?a12 ?l12 ?c12 ?k12) (DL.IsDef.make ?a13 ?l13 ?c13 ?k13) (DL.IsDef.make ?a14 ?l14 ?c14 ?k14) (DL.IsDef.make ?a15 ?l15 ?c15 ?k15) (DL.IsDef.make ?a16 ?l16 ?c16 ?k16) (DL.IsDef.make ?a17 ?l17 ?c17 ?k17) (DL.IsDef.make ?a18 ?l18 ?c18 ?k18) (DL.IsDef.make ?a19 ?l19 ?c19 ?k19) (DL.IsDef.make ?a20 ?l20 ?c20 ?k20) (DL.IsDef.make ?a21 ?l21 ?c21 ?k21) ?z0 ?z1 ?z2 ?z3 ?z4 ?z5 ?z6 ?z7 ?z8 ?z9 ?z10 ?z11 ?z12
    (case a => k_is)
    (case l => k_is)
    (case c => k_is)
    (case k => k_is)
    (case a0 => k_is)
    (case l0 => k_is)
    (case c0 => k_is)
    (case k0 => k_is)
    (case a1 => k_is)
    (case l1 => k_is)
    (case c1 => k_is)
    (case k1 => k_is)
    (case a2 => k_is)
    (case l2 => k_is)
    (case c2 => k_is)
    (case k2 => k_is)
    (case a3 => k_is)
    (case l3 => k_is)
    (case c3 => k_is)
    (case k3 => k_is)
    (case a4 => k_is)
    (case l4 => k_is)
    (case c4 => k_is)
    (case k4 => k_is)
    (case a5 => k_is)
    (case l5 => k_is)
    (case c5 => k_is)
    (case k5 => k_is)
    (case a6 => k_is)
    (case l6 => k_is)
    (case c6 => k_is)
    (case k6 => k_is)
    (case a7 => k_is)
    (case l7 => k_is)
    (case c7 => k_is)
    (case k7 => k_is)
    (case a8 => k_is)
    (case l8 => k_is)
    (case c8 => k_is)
    (case k8 => k_is)
    (case a9 => k_is)
    (case l9 => k_is)
    (case c9 => k_is)
    (case k9 => k_is)
    (case a10 => k_is)
    (case l10 => k_is)
    (case c10 => k_is)
    (case k10 => k_is)
    (case a11 => k_is)
    (case l11 => k_is)
    (case c11 => k_is)
    (case k11 => k_is)
    (case a12 => k_is)
    (case l12 => k_is)
    (case c12 => k_is)
    (case k12 => k_is)
    (case a13 => k_is)
    (case l13 => k_is)
    (case c13 => k_is)
    (case k13 => k_is)
    (case a14 => k_is)
    (case l14 => k_is)
    (case c14 => k_is)
    (case k14 => k_is)
    (case a15 => k_is)
    (case l15 => k_is)
    (case c15 => k_is)
    (case k15 => k_is)
    (case a16 => k_is)
    (case l16 => k_is)
    (case c16 => k_is)
    (case k16 => k_is)
    (case a17 => k_is)
    (case l17 => k_is)
    (case c17 => k_is)
    (case k17 => k_is)
    (case a18 => k_is)
    (case l18 => k_is)
    (case c18 => k_is)
    (case k18 => k_is)
    (case a19 => k_is)
    (case l19 => k_is)
    (case c19 => k_is)
    (case k19 => k_is)
    (case a20 => k_is)
    (case l20 => k_is)
    (case c20 => k_is)
    (case k20 => k_is)
    (case a21 => k_is)
    (case l21 => k_is)
    (case c21 => k_is)
    (case k21 => k_is)
    (case z0 => k_is)
    (case z1 => k_is)
    (case z2 => k_is)
    (case z3 => k_is)
    (case z4 => k_is)
    (case z5 => k_is)
    (case z6 => k_is)
    (case z7 => k_is)
    (case z8 => k_is)
    (case z9 => k_is)
    (case z10 => k_is)
    (case z11 => k_is)
    (case z12 => k_is)
