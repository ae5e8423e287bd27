import PyProof.Rows.All
import Wide.All
import OpenK.AllK
import Wide.FinOn
import HandS.ForMost
import HandS.ForExc
import HandS.IsInst
import HandS.Defaults
import HandS.CallLocal
import HandS.Style
import HandS.Deep
import HandS.DictComp
import HandS.Conv
import HandS.Walk
import HandS.Zip
import HandS.TupAny
import HandS.More
import HandS.SetKeys
import KE.GoesEnum
import KE.KUnpackStar
import HandS.Strs
import PyProof.FactsAll.list_3
import KE.KStateDown
import HandS.Head2
import HandS.HeadEnd
import HandS.HeadHook4
import HandS.MakeKwOnly
import PySem.Challenge.RW_watchedrun_k59_whole_papers_of_rows
set_option Elab.async false
set_option linter.all false
set_option maxRecDepth 100000
section
set_option maxHeartbeats 4000000
/-! A second layer over HandS: data (PyData) in place of addresses; an abstract store M of what may change. -/
namespace Wr
open PySem PySem.Spec PyProof.Rows L2
/-! ### heaps -/
def Ex (H H' : Hp) : Prop := ∀ a o, H a = some o → H' a = some o
theorem Ex.refl (H : Hp) : Ex H H := fun _ _ h => h
theorem Ex.trans {H H1 H2 : Hp} (a : Ex H H1) (b : Ex H1 H2) : Ex H H2 := fun x o h => b x o (a x o h)
theorem Ex.new {H : Hp} {p : Addr} {o : HO} (h : H p = none) : Ex H (upd H p o) := fun a u e => by
  rw [upd_ne (ne_of_none e h)]
  exact e
theorem Ex.seqT {K : PySem.W.Frag} {H H' : Hp} {a : Addr} {xs : List V} (e : Ex H H') (h : SqT K H a xs) : SqT K H' a xs := by
  rcases h with (h | ⟨o, h⟩) | h
  · exact .inl (.inl (e _ _ h))
  · exact .inl (.inr ⟨o, e _ _ h⟩)
  · exact .inr h
theorem Ex.seqL {K : PySem.W.Frag} {H H' : Hp} {a : Addr} {xs : List V} (e : Ex H H') (h : SqL K H a xs) : SqL K H' a xs := by
  rcases h with (h | ⟨o, h⟩) | h
  · exact .inl (.inl (e _ _ h))
  · exact .inl (.inr ⟨o, e _ _ h⟩)
  · exact .inr h
theorem Ex.fresh {H H' : Hp} (e : Ex H H') {a : Addr} (h : H' a = none) : H a = none := by
  cases q : H a with
  | none => rfl
  | some o =>
    rw [e a o q] at h
    cases h
/-! ### data laid in a part G of the heap -/
mutual
inductive Dq (K : PySem.W.Frag) (G : Hp) : V → PyData → Prop
  | non : Dq K G .non .none
  | bl (b : Bool) : Dq K G (.bl b) (.bool b)
  | int (i : Int) : Dq K G (.int i) (.int i)
  | str (x : Str) : Dq K G (.str x) (.str x)
  | lst {a : Addr} {xs : List V} {ds : List PyData} : G a = some (.lst xs) → DqAll K G xs ds → Dq K G (.ref a) (.list ds)
  | tup {a : Addr} {xs : List V} {ds : List PyData} : SqT K G a xs → DqAll K G xs ds → Dq K G (.ref a) (.tuple ds)
inductive DqAll (K : PySem.W.Frag) (G : Hp) : List V → List PyData → Prop
  | nil : DqAll K G [] []
  | cons {v : V} {vs : List V} {d : PyData} {ds : List PyData} : Dq K G v d → DqAll K G vs ds → DqAll K G (v :: vs) (d :: ds)
end
section
variable {K : PySem.W.Frag} {G G' H : Hp}
mutual
theorem Dq.mono (e : Ex G G') : ∀ (d : PyData) (v : V), Dq K G v d → Dq K G' v d
  | .none, _, h => by cases h; exact .non
  | .bool b, _, h => by cases h; exact .bl b
  | .int i, _, h => by cases h; exact .int i
  | .str x, _, h => by cases h; exact .str x
  | .list ds, _, h => by
    cases h with
    | lst h1 h2 => exact .lst (e _ _ h1) (DqAll.mono e ds _ h2)
  | .tuple ds, _, h => by
    cases h with
    | tup h1 h2 => exact .tup (e.seqT h1) (DqAll.mono e ds _ h2)
  | .dict _, _, h => by cases h
theorem DqAll.mono (e : Ex G G') : ∀ (ds : List PyData) (vs : List V), DqAll K G vs ds → DqAll K G' vs ds
  | [], _, h => by cases h; exact .nil
  | d :: ds, _, h => by
    cases h with
    | cons h1 h2 => exact .cons (Dq.mono e d _ h1) (DqAll.mono e ds _ h2)
end
mutual
theorem Dq.dp (e : Ex G H) : ∀ (d : PyData) (v : V), Dq K G v d → Dp K H v d
  | .none, _, h => by cases h; exact .non
  | .bool b, _, h => by cases h; exact .bl b
  | .int i, _, h => by cases h; exact .int i
  | .str x, _, h => by cases h; exact .str x
  | .list ds, _, h => by
    cases h with
    | lst h1 h2 => exact .lst (.inl (.inl (e _ _ h1))) (DqAll.dp e ds _ h2)
  | .tuple ds, _, h => by
    cases h with
    | tup h1 h2 => exact .tup (e.seqT h1) (DqAll.dp e ds _ h2)
  | .dict _, _, h => by cases h
theorem DqAll.dp (e : Ex G H) : ∀ (ds : List PyData) (vs : List V), DqAll K G vs ds → DpAll K H vs ds
  | [], _, h => by cases h; exact .nil
  | d :: ds, _, h => by
    cases h with
    | cons h1 h2 => exact .cons (Dq.dp e d _ h1) (DqAll.dp e ds _ h2)
end
theorem DqAll.length : ∀ {vs : List V} {ds : List PyData}, DqAll K G vs ds → vs.length = ds.length
  | _, _, .nil => rfl
  | _, _, .cons _ t => congrArg Nat.succ (DqAll.length t)
theorem DqAll.get : ∀ {vs : List V} {ds : List PyData} {i : Nat} {d : PyData}, DqAll K G vs ds → ds[i]? = some d → ∃ v, vs[i]? = some v ∧ Dq K G v d
  | _, _, i, d, .nil, h => by simp at h
  | _, _, 0, d, .cons h1 _, h => by
    simp at h
    subst h
    exact ⟨_, rfl, h1⟩
  | _, _, i + 1, d, .cons _ t, h => by
    obtain ⟨v, h1, h2⟩ := DqAll.get (i := i) (d := d) t (by simpa using h)
    exact ⟨v, by simpa using h1, h2⟩
theorem DqAll.getv : ∀ {vs : List V} {ds : List PyData} {i : Nat} {v : V}, DqAll K G vs ds → vs[i]? = some v → ∃ d, ds[i]? = some d ∧ Dq K G v d
  | _, _, i, d, .nil, h => by simp at h
  | _, _, 0, d, .cons h1 _, h => by
    simp at h
    subst h
    exact ⟨_, rfl, h1⟩
  | _, _, i + 1, d, .cons _ t, h => by
    obtain ⟨v, h1, h2⟩ := DqAll.getv (i := i) t (by simpa using h)
    exact ⟨v, by simpa using h1, h2⟩
theorem DqAll.append : ∀ {vs us : List V} {ds es : List PyData}, DqAll K G vs ds → DqAll K G us es → DqAll K G (vs ++ us) (ds ++ es)
  | _, _, _, _, .nil, h => h
  | _, _, _, _, .cons a t, h => .cons a (DqAll.append t h)
theorem DqAll.take : ∀ {vs : List V} {ds : List PyData} (n : Nat), DqAll K G vs ds → DqAll K G (vs.take n) (ds.take n)
  | _, _, 0, _ => .nil
  | _, _, _ + 1, .nil => .nil
  | _, _, n + 1, .cons a t => .cons a (DqAll.take n t)
theorem DqAll.drop : ∀ {vs : List V} {ds : List PyData} (n : Nat), DqAll K G vs ds → DqAll K G (vs.drop n) (ds.drop n)
  | _, _, 0, h => h
  | _, _, _ + 1, .nil => .nil
  | _, _, n + 1, .cons _ t => DqAll.drop n t
theorem DqAll.reverse : ∀ {vs : List V} {ds : List PyData}, DqAll K G vs ds → DqAll K G vs.reverse ds.reverse
  | _, _, .nil => .nil
  | _, _, .cons a t => by
    rw [List.reverse_cons, List.reverse_cons]
    exact DqAll.append (DqAll.reverse t) (.cons a .nil)
theorem DqAll.ints : ∀ {vs : List V} {ns : List Int}, DqAll K G vs (ns.map PyData.int) → vs = ns.map V.int
  | _, [], .nil => rfl
  | _, n :: ns, .cons h t => by
    cases h
    rw [DqAll.ints t]
    rfl
theorem dqInts : ∀ (ns : List Int), DqAll K G (ns.map V.int) (ns.map PyData.int)
  | [] => .nil
  | n :: ns => .cons (.int n) (dqInts ns)
theorem DqAll.bls : ∀ {vs : List V} {bs : List Bool}, DqAll K G vs (bs.map PyData.bool) → vs = bs.map V.bl
  | _, [], .nil => rfl
  | _, n :: ns, .cons h t => by
    cases h
    rw [DqAll.bls t]
    rfl
theorem DqAll.strs : ∀ {vs : List V} {bs : List Str}, DqAll K G vs (bs.map PyData.str) → vs = bs.map V.str
  | _, [], .nil => rfl
  | _, n :: ns, .cons h t => by
    cases h
    rw [DqAll.strs t]
    rfl
end
/-! ### what a slot holds; what may change -/
inductive S0 where
  | dat (d : PyData) | raw (v : V)
inductive Sd where
  | dat (d : PyData) | raw (v : V) | tup (xs : List S0) | obj (C : Addr) (fs : List (Str × S0)) | seq (ns : List Int)
def S0.sd : S0 → Sd
  | .dat d => .dat d
  | .raw v => .raw v
def S0V (K : PySem.W.Frag) (G : Hp) (v : V) : S0 → Prop
  | .dat d => Dq K G v d
  | .raw w => v = w
abbrev FsV (K : PySem.W.Frag) (G : Hp) : List (Str × V) → List (Str × S0) → Prop := Paired fun p q => p.1 = q.1 ∧ S0V K G p.2 q.2
abbrev KsV (K : PySem.W.Frag) (G : Hp) : List (Key × V) → List (Key × S0) → Prop := Paired fun p q => p.1 = q.1 ∧ S0V K G p.2 q.2
def SdV (K : PySem.W.Frag) (G : Hp) (v : V) : Sd → Prop
  | .dat d => Dq K G v d
  | .raw w => v = w
  | .tup xs => ∃ a vs, v = .ref a ∧ SqT K G a vs ∧ Paired (S0V K G) vs xs
  | .obj C fs => ∃ a dx us, v = .ref a ∧ G a = some (.ins C dx us) ∧ FsV K G us fs
  | .seq ns => ∃ a, v = .ref a ∧ SqL K G a (ns.map V.int)
inductive MO where
  | lst (xs : List S0) | ins (C dx : Addr) (fs : List (Str × S0)) | dK (kvs : List (Key × S0))
def MoOk (K : PySem.W.Frag) (G : Hp) : MO → HO → Prop
  | .lst xs, .lst vs => Paired (S0V K G) vs xs
  | .ins C dx fs, .ins C' dx' us => C' = C ∧ dx' = dx ∧ FsV K G us fs
  | .dK kvs, .dK us => KsV K G us kvs
  | _, _ => False
abbrev AM := Addr → Option MO
def setM (M : AM) (a : Addr) (m : MO) : AM := fun b => if b = a then some m else M b
def delM (M : AM) (a : Addr) : AM := fun b => if b = a then none else M b
theorem setM_same {M : AM} {a : Addr} {m : MO} : setM M a m a = some m := by unfold setM; rw [if_pos rfl]
theorem setM_ne {M : AM} {a b : Addr} {m : MO} (h : b ≠ a) : setM M a m b = M b := by unfold setM; rw [if_neg h]
theorem delM_same {M : AM} {a : Addr} : delM M a a = none := by unfold delM; rw [if_pos rfl]
theorem delM_ne {M : AM} {a b : Addr} (h : b ≠ a) : delM M a b = M b := by unfold delM; rw [if_neg h]
section
variable {K : PySem.W.Frag} {G G' : Hp}
theorem S0V.mono (e : Ex G G') {v : V} {r : S0} (h : S0V K G v r) : S0V K G' v r := by
  cases r with
  | dat d => exact Dq.mono e d v h
  | raw w => exact h
theorem S0V.sd {v : V} {r : S0} (h : S0V K G v r) : SdV K G v r.sd := by
  cases r with
  | dat d => exact h
  | raw w => exact h
theorem SdV.mono (e : Ex G G') {v : V} {r : Sd} (h : SdV K G v r) : SdV K G' v r := by
  cases r with
  | dat d => exact Dq.mono e d v h
  | raw w => exact h
  | tup xs =>
    obtain ⟨a, vs, e1, e2, e3⟩ := h
    exact ⟨a, vs, e1, e.seqT e2, Paired.mapP e3 fun _ _ z => S0V.mono e z⟩
  | obj C fs =>
    obtain ⟨a, dx, us, e1, e2, e3⟩ := h
    exact ⟨a, dx, us, e1, e _ _ e2, Paired.mapP e3 fun _ _ z => ⟨z.1, S0V.mono e z.2⟩⟩
  | seq ns =>
    obtain ⟨a, e1, e2⟩ := h
    exact ⟨a, e1, e.seqL e2⟩
theorem MoOk.mono (e : Ex G G') {m : MO} {o : HO} (h : MoOk K G m o) : MoOk K G' m o := by
  cases m with
  | lst xs => cases o with
    | lst vs => exact Paired.mapP (show Paired (S0V K G) vs xs from h) fun _ _ z => S0V.mono e z
    | _ => cases h
  | ins C dx fs => cases o with
    | ins C' dx' us =>
      obtain ⟨h1, h2, h3⟩ := h
      exact ⟨h1, h2, Paired.mapP h3 fun _ _ z => ⟨z.1, S0V.mono e z.2⟩⟩
    | _ => cases h
  | dK kvs => cases o with
    | dK us => exact Paired.mapP (show KsV K G us kvs from h) fun _ _ z => ⟨z.1, S0V.mono e z.2⟩
    | _ => cases h
theorem paired_dats : ∀ {vs : List V} {ds : List PyData}, Paired (S0V K G) vs (ds.map S0.dat) → DqAll K G vs ds
  | _, [], .nil => .nil
  | _, d :: ds, .cons h t => .cons h (paired_dats t)
theorem dats_paired : ∀ {vs : List V} {ds : List PyData}, DqAll K G vs ds → Paired (S0V K G) vs (ds.map S0.dat)
  | _, _, .nil => .nil
  | _, _, .cons h t => .cons h (dats_paired t)
end
/-- the store: G stands in H, what M tells stands in H outside G -/
structure Sto (K : PySem.W.Frag) (M : AM) (G H : Hp) : Prop where
  gh : Ex G H
  mh : ∀ a m, M a = some m → ∃ o, H a = some o ∧ MoOk K G m o
  dj : ∀ a m, M a = some m → G a = none
/-- from one point to a later one -/
structure Fw (M M' : AM) (G H G' H' : Hp) : Prop where
  g : Ex G G'
  fr : ∀ a o, H a = some o → M a = none → H' a = some o
  nw : ∀ a, G a = none → G' a ≠ none → H a = none ∨ M a ≠ none
  mm : ∀ a, M' a ≠ none → M a ≠ none ∨ H a = none
abbrev Sl := List (Option Sd)
structure Slt (K : PySem.W.Frag) (δ : Sl) (σ : L2.St) (G : Hp) : Prop where
  len : σ.length = δ.length
  at_ : ∀ (i : Nat) (r : Sd), δ[i]? = some (some r) → ∃ v, σ[i]? = some (some v) ∧ SdV K G v r
section
variable {K : PySem.W.Frag} {M M' M'' : AM} {G H G' H' G'' H'' : Hp} {δ : Sl} {σ : L2.St} {p : Addr}
theorem Fw.refl : Fw M M G H G H := ⟨Ex.refl _, fun _ _ h _ => h, fun _ h h' => absurd h h', fun _ h => .inl h⟩
theorem Fw.trans (a : Fw M M' G H G' H') (b : Fw M' M'' G' H' G'' H'') : Fw M M'' G H G'' H'' := by
  have back : ∀ x, H' x = none → M x = none → H x = none := fun x h hm => by
    cases q : H x with
    | none => rfl
    | some o =>
      rw [a.fr x o q hm] at h
      cases h
  refine ⟨a.g.trans b.g, fun x o h hm => ?_, fun x h h' => ?_, fun x h => ?_⟩
  · refine b.fr x o (a.fr x o h hm) ?_
    cases q : M' x with
    | none => rfl
    | some m =>
      rcases a.mm x (by rw [q]; simp) with z | z
      · exact absurd hm z
      · rw [z] at h
        cases h
  · by_cases q : G' x = none
    · rcases b.nw x q h' with z | z
      · by_cases hm : M x = none
        · exact .inl (back x z hm)
        · exact .inr hm
      · rcases a.mm x z with y | y
        · exact .inr y
        · exact .inl y
    · exact a.nw x h q
  · rcases b.mm x h with z | z
    · exact a.mm x z
    · by_cases hm : M x = none
      · exact .inr (back x z hm)
      · exact .inl hm
theorem Slt.mono (s : Slt K δ σ G) (e : Ex G G') : Slt K δ σ G' := ⟨s.len, fun i r h => by
  obtain ⟨v, h1, h2⟩ := s.at_ i r h
  exact ⟨v, h1, h2.mono e⟩⟩
theorem Sto.fresh (s : Sto K M G H) (h : H p = none) : G p = none ∧ M p = none := by
  refine ⟨s.gh.fresh h, ?_⟩
  cases q : M p with
  | none => rfl
  | some m =>
    obtain ⟨o, h1, _⟩ := s.mh p m q
    rw [h1] at h
    cases h
/-- a new object that stays as it is -/
theorem Sto.lay (s : Sto K M G H) (h : H p = none) (o : HO) : Sto K M (upd G p o) (upd H p o) ∧ Fw M M G H (upd G p o) (upd H p o) := by
  obtain ⟨hg, hm⟩ := s.fresh h
  have eg : Ex G (upd G p o) := Ex.new hg
  refine ⟨⟨fun a u e => ?_, fun a m e => ?_, fun a m e => ?_⟩, eg, fun a u e _ => Ex.new h a u e, fun a e e' => ?_, fun a e => .inl e⟩
  · by_cases q : a = p
    · subst q
      rw [upd_same] at e ⊢
      exact e
    · rw [upd_ne q] at e ⊢
      exact s.gh a u e
  · obtain ⟨u, e1, e2⟩ := s.mh a m e
    exact ⟨u, Ex.new h a u e1, e2.mono eg⟩
  · have q : a ≠ p := fun z => by
      rw [z, hm] at e
      cases e
    rw [upd_ne q]
    exact s.dj a m e
  · by_cases q : a = p
    · subst q
      exact .inl h
    · rw [upd_ne q] at e'
      exact absurd e e'
/-- a new object that may change -/
theorem Sto.layM (s : Sto K M G H) (h : H p = none) {o : HO} {m : MO} (ok : MoOk K G m o) : Sto K (setM M p m) G (upd H p o) ∧ Fw M (setM M p m) G H G (upd H p o) := by
  obtain ⟨hg, hm⟩ := s.fresh h
  refine ⟨⟨fun a u e => Ex.new h a u (s.gh a u e), fun a m' e => ?_, fun a m' e => ?_⟩, Ex.refl _, fun a u e _ => Ex.new h a u e, fun a e e' => absurd e e', fun a e => ?_⟩
  · by_cases q : a = p
    · subst q
      rw [setM_same] at e
      cases e
      exact ⟨o, upd_same, ok⟩
    · rw [setM_ne q] at e
      obtain ⟨u, e1, e2⟩ := s.mh a m' e
      exact ⟨u, Ex.new h a u e1, e2⟩
  · by_cases q : a = p
    · subst q
      exact hg
    · rw [setM_ne q] at e
      exact s.dj a m' e
  · by_cases q : a = p
    · subst q
      exact .inr h
    · rw [setM_ne q] at e
      exact .inl e
/-- a change of what may change -/
theorem Sto.put (s : Sto K M G H) {m0 : MO} (h : M p = some m0) {o : HO} {m : MO} (ok : MoOk K G m o) : Sto K (setM M p m) G (upd H p o) ∧ Fw M (setM M p m) G H G (upd H p o) := by
  have hg : G p = none := s.dj p m0 h
  refine ⟨⟨fun a u e => ?_, fun a m' e => ?_, fun a m' e => ?_⟩, Ex.refl _, fun a u e e' => ?_, fun a e e' => absurd e e', fun a e => ?_⟩
  · have q : a ≠ p := fun z => by
      rw [z, hg] at e
      cases e
    rw [upd_ne q]
    exact s.gh a u e
  · by_cases q : a = p
    · subst q
      rw [setM_same] at e
      cases e
      exact ⟨o, upd_same, ok⟩
    · rw [setM_ne q] at e
      obtain ⟨u, e1, e2⟩ := s.mh a m' e
      exact ⟨u, by rw [upd_ne q]; exact e1, e2⟩
  · by_cases q : a = p
    · subst q
      exact hg
    · rw [setM_ne q] at e
      exact s.dj a m' e
  · have q : a ≠ p := fun z => by
      rw [z, h] at e'
      cases e'
    rw [upd_ne q]
    exact e
  · by_cases q : a = p
    · subst q
      exact .inl (by rw [h]; simp)
    · rw [setM_ne q] at e
      exact .inl e
/-- what may change is from now on left as it is -/
theorem Sto.freeze (s : Sto K M G H) {m : MO} {o : HO} (h : M p = some m) (ho : H p = some o) : Sto K (delM M p) (upd G p o) H ∧ Fw M (delM M p) G H (upd G p o) H := by
  have hg : G p = none := s.dj p m h
  have eg : Ex G (upd G p o) := Ex.new hg
  refine ⟨⟨fun a u e => ?_, fun a m' e => ?_, fun a m' e => ?_⟩, eg, fun a u e _ => e, fun a e e' => ?_, fun a e => ?_⟩
  · by_cases q : a = p
    · subst q
      rw [upd_same] at e
      cases e
      exact ho
    · rw [upd_ne q] at e
      exact s.gh a u e
  · by_cases q : a = p
    · subst q
      rw [delM_same] at e
      cases e
    · rw [delM_ne q] at e
      obtain ⟨u, e1, e2⟩ := s.mh a m' e
      exact ⟨u, e1, e2.mono eg⟩
  · by_cases q : a = p
    · subst q
      rw [delM_same] at e
      cases e
    · rw [delM_ne q] at e
      rw [upd_ne q]
      exact s.dj a m' e
  · by_cases q : a = p
    · subst q
      exact .inr (by rw [h]; simp)
    · rw [upd_ne q] at e'
      exact absurd e e'
  · by_cases q : a = p
    · subst q
      rw [delM_same] at e
      exact absurd rfl e
    · rw [delM_ne q] at e
      exact .inl e
/-- what may change is forgotten -/
theorem Sto.forget (s : Sto K M G H) (h : ∀ a m, M' a = some m → M a = some m) : Sto K M' G H ∧ Fw M M' G H G H := by
  refine ⟨⟨s.gh, fun a m e => s.mh a m (h a m e), fun a m e => s.dj a m (h a m e)⟩, Ex.refl _, fun a u e _ => e, fun a e e' => absurd e e', fun a e => .inl ?_⟩
  cases q : M' a with
  | none => exact absurd q e
  | some m => rw [h a m q]; simp
end
/-! ### the judgements: what an expression, a test, a list of arguments, a statement comes to -/
abbrev XP := Sd → AM → Prop
def canE (X : Cx) (e : Expr) : TE := fun σ H Q => ∀ pins s, Inv X pins σ H s → wpAny (model X.prog X.w) X.A (eval e X.env) (EP X pins σ Q) X.xe s
def canT (X : Cx) (e : Expr) : TT := fun σ H Q => ∀ pins s, Inv X pins σ H s → wpAny (model X.prog X.w) X.A (isTrue e X.env (eval e X.env)) (TP X pins σ Q) X.xe s
def canW (X : Cx) (e : Expr) : TT := fun σ H Q => ∀ whole pins s, Inv X pins σ H s → wpAny (model X.prog X.w) X.A (isTrue e X.env whole) (TP X pins σ Q) X.xe s
def canA (X : Cx) (es : List Expr) : TA := fun σ H Q => ∀ pos pins s, Inv X pins σ H s → wpAny (model X.prog X.w) X.A (spliced (backTo pos (starEach es X.env))) (AP X pins σ Q) X.xe s
def canS (X : Cx) (st : Stmt) : TS := fun D σ H => ∀ pins s, Inv X pins σ H s → wpAny (model X.prog X.w) X.A (exec st X.env) (SP X pins D) X.xe s
def canB (X : Cx) (sts : List Stmt) : TS := fun D σ H => ∀ pins s, Inv X pins σ H s → wpAny (model X.prog X.w) X.A (execs sts X.env) (SP X pins D) X.xe s
def canI (X : Cx) (tg iter : Expr) : TI := fun σ H R => ∀ pins s, Inv X pins σ H s → wpAny (model X.prog X.w) X.A (eval iter X.env) (fun v s1 => wpAny (model X.prog X.w) X.A (pyIter v) (PIE X pins σ tg R) X.xe s1) X.xe s
section
variable {X : Cx} {e tg : Expr} {es : List Expr} {st : Stmt} {sts : List Stmt} {te : TE} {tt : TT} {ta : TA} {ts : TS} {ti : TI} {σ : L2.St} {H : Hp}
theorem pe_can : PE X e (canE X e) := ⟨fun pins s _ _ _ I h => h pins s I⟩
theorem pt_can : PT X e (canT X e) := ⟨fun pins s _ _ _ I h => h pins s I⟩
theorem pw_can : PW X e (canW X e) := ⟨fun w pins s _ _ _ I h => h w pins s I⟩
theorem pa_can : PA X es (canA X es) := ⟨fun pos pins s _ _ _ I h => h pos pins s I⟩
theorem ps_can : PS X st (canS X st) := ⟨fun pins s _ _ _ I h => h pins s I⟩
theorem pss_can : PSs X sts (canB X sts) := ⟨fun pins s _ _ _ I h => h pins s I⟩
theorem pi_can : PI X tg e (canI X tg e) := ⟨fun pins s _ _ _ I h => h pins s I⟩
theorem ofE (h : PE X e te) {Q : VK} (q : te σ H Q) : canE X e σ H Q := fun pins s I => h.run pins s σ H Q I q
theorem ofT (h : PT X e tt) {Q : Bool → Hp → Prop} (q : tt σ H Q) : canT X e σ H Q := fun pins s I => h.run pins s σ H Q I q
theorem ofW (h : PW X e tt) {Q : Bool → Hp → Prop} (q : tt σ H Q) : canW X e σ H Q := fun w pins s I => h.run w pins s σ H Q I q
theorem ofA (h : PA X es ta) {Q : List V → Hp → Prop} (q : ta σ H Q) : canA X es σ H Q := fun pos pins s I => h.run pos pins s σ H Q I q
theorem ofS (h : PS X st ts) {D : Ends} (q : ts D σ H) : canS X st D σ H := fun pins s I => h.run pins s σ H D I q
theorem ofB (h : PSs X sts ts) {D : Ends} (q : ts D σ H) : canB X sts D σ H := fun pins s I => h.run pins s σ H D I q
theorem ofI (h : PI X tg e ti) {R : It → Hp → Prop} (q : ti σ H R) : canI X tg e σ H R := fun pins s I => h.run pins s σ H R I q
end
def EvX (X : Cx) (e : Expr) (δ : Sl) (M : AM) (P : XP) : Prop := ∀ (σ : L2.St) (G H : Hp) (Q : VK), Sto X.K M G H → Slt X.K δ σ G →
  (∀ v r M' G' H', Sto X.K M' G' H' → Fw M M' G H G' H' → SdV X.K G' v r → P r M' → Q v H') → canE X e σ H Q
def TvX (X : Cx) (e : Expr) (δ : Sl) (M : AM) (P : Bool → AM → Prop) : Prop := ∀ (σ : L2.St) (G H : Hp) (Q : Bool → Hp → Prop), Sto X.K M G H → Slt X.K δ σ G →
  (∀ b M' G' H', Sto X.K M' G' H' → Fw M M' G H G' H' → P b M' → Q b H') → canT X e σ H Q
def WvX (X : Cx) (e : Expr) (δ : Sl) (M : AM) (P : Bool → AM → Prop) : Prop := ∀ (σ : L2.St) (G H : Hp) (Q : Bool → Hp → Prop), Sto X.K M G H → Slt X.K δ σ G →
  (∀ b M' G' H', Sto X.K M' G' H' → Fw M M' G H G' H' → P b M' → Q b H') → canW X e σ H Q
def AvX (X : Cx) (es : List Expr) (δ : Sl) (M : AM) (P : List Sd → AM → Prop) : Prop := ∀ (σ : L2.St) (G H : Hp) (Q : List V → Hp → Prop), Sto X.K M G H → Slt X.K δ σ G →
  (∀ vs rs M' G' H', Sto X.K M' G' H' → Fw M M' G H G' H' → Paired (SdV X.K G') vs rs → P rs M' → Q vs H') → canA X es σ H Q
/-- what follows a statement -/
structure KS (K : PySem.W.Frag) (M : AM) (G H : Hp) (D : Ends) (N : Sl → AM → Prop) (R : XP) : Prop where
  nx : ∀ δ' M' σ' G' H', Sto K M' G' H' → Slt K δ' σ' G' → Fw M M' G H G' H' → N δ' M' → D.nx σ' H'
  rt : ∀ v r M' G' H', Sto K M' G' H' → Fw M M' G H G' H' → SdV K G' v r → R r M' → D.rt v H'
def SvX (X : Cx) (st : Stmt) (δ : Sl) (M : AM) (N : Sl → AM → Prop) (R : XP) : Prop := ∀ (σ : L2.St) (G H : Hp) (D : Ends), Sto X.K M G H → Slt X.K δ σ G → KS X.K M G H D N R → canS X st D σ H
def BvX (X : Cx) (sts : List Stmt) (δ : Sl) (M : AM) (N : Sl → AM → Prop) (R : XP) : Prop := ∀ (σ : L2.St) (G H : Hp) (D : Ends), Sto X.K M G H → Slt X.K δ σ G → KS X.K M G H D N R → canB X sts D σ H
theorem KS.fw {K : PySem.W.Frag} {M M1 : AM} {G H G1 H1 : Hp} {D : Ends} {N : Sl → AM → Prop} {R : XP} (k : KS K M G H D N R) (f : Fw M M1 G H G1 H1) : KS K M1 G1 H1 D N R :=
  ⟨fun δ' M' σ' G' H' s l f' n => k.nx δ' M' σ' G' H' s l (f.trans f') n, fun v r M' G' H' s f' h n => k.rt v r M' G' H' s (f.trans f') h n⟩
/-! ### statements -/
section
variable {X : Cx} {e : Expr} {st : Stmt} {rest : List Stmt} {δ : Sl} {M : AM} {N : Sl → AM → Prop} {R : XP} {pos : Pos}
theorem BvX.nil (h : N δ M) : BvX X [] δ M N R := fun σ G H D s l k => ofB pss_nil (k.nx δ M σ G H s l Fw.refl h)
theorem BvX.cons (h : SvX X st δ M (fun δ1 M1 => BvX X rest δ1 M1 N R) R) : BvX X (st :: rest) δ M N R := fun σ G H D s l k => by
  refine ofB (pss_cons ps_can pss_can) ?_
  refine h σ G H _ s l ⟨fun δ' M' σ' G' H' s' l' f' n => ?_, k.rt⟩
  exact n σ' G' H' D s' l' (k.fw f')
theorem BvX.one (h : SvX X st δ M N R) : BvX X [st] δ M N R := .cons (fun σ G H D s l k => h σ G H D s l ⟨fun δ' M' σ' G' H' s' l' f' n => k.nx δ' M' σ' G' H' s' l' f' (.nil n), k.rt⟩)
theorem SvX.ret (h : EvX X e δ M R) : SvX X (.Return (some e) pos) δ M N R := fun σ G H D s l k => ofS (ps_ret pe_can) (h σ G H _ s l k.rt)
theorem SvX.expr (h : EvX X e δ M (fun _ M1 => N δ M1)) (hs : swapsWith e none pos.line X.env = pure false := by rfl) : SvX X (.Expr e pos) δ M N R := fun σ G H D s l k =>
  ofS (ps_expr pe_can hs) (h σ G H _ s l fun _ _ M' G' H' s' f' _ n => k.nx δ M' σ G' H' s' (l.mono f'.g) f' n)
theorem SvX.iff {c : Expr} {a b : List Stmt} (h : TvX X c δ M (fun q M1 => if q = true then BvX X a δ M1 N R else BvX X b δ M1 N R)) : SvX X (.If c a b pos) δ M N R := fun σ G H D s l k => by
  refine ofS (ps_if pt_can pss_can pss_can) ?_
  refine h σ G H _ s l fun q M' G' H' s' f' n => ?_
  cases q with
  | true => exact n σ G' H' D s' (l.mono f'.g) (k.fw f')
  | false => exact n σ G' H' D s' (l.mono f'.g) (k.fw f')
theorem Slt.set {K : PySem.W.Frag} {σ : L2.St} {G : Hp} (l : Slt K δ σ G) (i : Nat) {v : V} {r : Sd} (h : SdV K G v r) : Slt K (δ.set i (some r)) (σ.set i (some v)) G := by
  refine ⟨by rw [List.length_set, List.length_set, l.len], fun j q e => ?_⟩
  by_cases z : i = j
  · subst z
    have hj : i < δ.length := by
      have := (List.getElem?_eq_some_iff.mp e).1
      rwa [List.length_set] at this
    rw [List.getElem?_set_self hj] at e
    cases e
    exact ⟨v, by rw [List.getElem?_set_self (by rw [l.len]; exact hj)], h⟩
  · rw [List.getElem?_set_ne z] at e
    obtain ⟨w, h1, h2⟩ := l.at_ j q e
    exact ⟨w, by rw [List.getElem?_set_ne z]; exact h1, h2⟩
theorem SvX.set {i : Nat} {x : Str} {pos' : Pos} (hN : X.N.Nodup) (hi : X.N[i]? = some x) (hx : Loc X.env.scope x) (h : EvX X e δ M (fun r M1 => N (δ.set i (some r)) M1)) (hs : swapsWith e (some (.Name x pos')) pos.line X.env = pure false := by rfl)
    (hf : X.fn x = true ∨ X.env.scope.names.lookup x = some .local := by first | exact .inl rfl | exact .inr rfl | assumption) : SvX X (.Assign [.Name x pos'] e pos) δ M N R := fun σ G H D s l k =>
  ofS (ps_set hN hi hx pe_can hs hf) (h σ G H _ s l fun v r M' G' H' s' f' sv n => k.nx _ M' _ G' H' s' ((l.mono f'.g).set i sv) f' n)
end
end Wr
end
section
set_option maxHeartbeats 4000000
namespace Wr
open PySem PySem.Spec PyProof.Rows L2
section
variable {X : Cx} {e a b c : Expr} {es : List Expr} {δ : Sl} {M : AM} {P : XP} {pos : Pos}
theorem svInt {K : PySem.W.Frag} {G : Hp} (i : Int) : SdV K G (.int i) (.dat (.int i)) := Dq.int i
theorem svBl {K : PySem.W.Frag} {G : Hp} (i : Bool) : SdV K G (.bl i) (.dat (.bool i)) := Dq.bl i
theorem svStr {K : PySem.W.Frag} {G : Hp} (i : Str) : SdV K G (.str i) (.dat (.str i)) := Dq.str i
theorem svNon {K : PySem.W.Frag} {G : Hp} : SdV K G .non (.dat .none) := Dq.non
theorem svRaw {K : PySem.W.Frag} {G : Hp} (v : V) : SdV K G v (.raw v) := rfl
theorem svDat {K : PySem.W.Frag} {G : Hp} {v : V} {d : PyData} (h : Dq K G v d) : SdV K G v (.dat d) := h
/-! ### names, constants -/
theorem EvX.name (i : Nat) {x : Str} {r : Sd} (h : P r M) (hN : X.N[i]? = some x := by rfl) (hδ : δ[i]? = some (some r) := by rfl) (hv : Vis X.env.scope x := by first | exact Or.inl rfl | exact Or.inr (Or.inl rfl) | exact Or.inr (Or.inr rfl))
    (hd : (x == ("__debug__" : Str)) = false := by decide) (hcd : (x == ("__classdict__" : Str)) = false := by decide) : EvX X (.Name x pos) δ M P := fun σ G H Q s l k => by
  obtain ⟨v, h1, h2⟩ := l.at_ i r hδ
  exact ofE (pe_var hN hv hd hcd) ⟨v, h1, k v r M G H s Fw.refl h2 h⟩
theorem EvX.int {i : Int} {j : Nat} (h : P (.dat (.int i)) M) : EvX X (.Constant (.int i) j pos) δ M P := fun σ G H Q s l k => ofE pe_int (k _ _ M G H s Fw.refl (svInt i) h)
theorem EvX.bl {i : Bool} {j : Nat} (h : P (.dat (.bool i)) M) : EvX X (.Constant (.bool i) j pos) δ M P := fun σ G H Q s l k => ofE pe_bl (k _ _ M G H s Fw.refl (svBl i) h)
theorem EvX.str {i : Str} {j : Nat} (h : P (.dat (.str i)) M) : EvX X (.Constant (.str i) j pos) δ M P := fun σ G H Q s l k => ofE pe_str (k _ _ M G H s Fw.refl (svStr i) h)
theorem EvX.non {j : Nat} (h : P (.dat .none) M) : EvX X (.Constant .none j pos) δ M P := fun σ G H Q s l k => ofE pe_non (k _ _ M G H s Fw.refl svNon h)
/-- a name of the module whose value is known everywhere -/
def Kn (K : PySem.W.Frag) (u : Value) (r : Sd) : Prop := ∃ v, RelV v u ∧ ∀ G, SdV K G v r
theorem EvX.glob {x : Str} {u : Value} {r : Sd} (hg : Gl X x) (hm : X.mg x = some u) (hk : Kn X.K u r) (h : P r M) (hd : (x == ("__debug__" : Str)) = false := by decide) : EvX X (.Name x pos) δ M P := fun σ G H Q s l k => by
  obtain ⟨v, rv, sv⟩ := hk
  exact ofE (pe_glob hg hm rv hd) (k v r M G H s Fw.refl (sv G) h)
theorem EvX.bltn {x : Str} {u : Value} {v : V} (hg : Gl X x) (hm : X.mg x = none) (hv : bootBuiltins x = some u) (r : RelV v u) (h : P (.raw v) M) (hn : x ≠ "__name__" := by decide) (hd : (x == ("__debug__" : Str)) = false := by decide) : EvX X (.Name x pos) δ M P := fun σ G H Q s l k =>
  ofE (pe_bltn hg hm hv r hn hd) (k v (.raw v) M G H s Fw.refl rfl h)
/-! ### operations on two values -/
abbrev KF (K : PySem.W.Frag) (M : AM) (G H : Hp) (P : XP) (Q : VK) : Prop := ∀ v r M' G' H', Sto K M' G' H' → Fw M M' G H G' H' → SdV K G' v r → P r M' → Q v H'
def VOp (X : Cx) (f : Value → Value → Sem Value) (r1 r2 : Sd) (M : AM) (P : XP) : Prop := ∀ (v1 v2 : V) (u1 u2 : Value) (G H : Hp) (Q : VK) (pins : List (Addr × Obj)) (s : Shared) (σ : L2.St), Sto X.K M G H → SdV X.K G v1 r1 → SdV X.K G v2 r2 →
  KF X.K M G H P Q → Inv X pins σ H s → RelV v1 u1 → RelV v2 u2 → wpAny (model X.prog X.w) X.A (f u1 u2) (EP X pins σ Q) X.xe s
theorem VOp.of {f : Value → Value → Sem Value} {r1 r2 : Sd} {r : R2} (ho : OpR X f r) (h : ∀ v1 v2 G H Q, Sto X.K M G H → SdV X.K G v1 r1 → SdV X.K G v2 r2 → KF X.K M G H P Q → r v1 v2 H Q) : VOp X f r1 r2 M P :=
  fun v1 v2 u1 u2 G H Q pins s σ st h1 h2 k I q1 q2 => ho pins s σ H v1 v2 u1 u2 Q I q1 q2 (h v1 v2 G H Q st h1 h2 k)
def canO (X : Cx) (f : Value → Value → Sem Value) : R2 := fun x y H Q => ∀ pins s σ v u, Inv X pins σ H s → RelV x v → RelV y u → wpAny (model X.prog X.w) X.A (f v u) (EP X pins σ Q) X.xe s
theorem opR_can {f : Value → Value → Sem Value} : OpR X f (canO X f) := fun pins s σ H x y v u Q I rx ry h => h pins s σ v u I rx ry
theorem VOp.use {f : Value → Value → Sem Value} {r1 r2 : Sd} (h : VOp X f r1 r2 M P) {v1 v2 : V} {G H : Hp} {Q : VK} (st : Sto X.K M G H) (h1 : SdV X.K G v1 r1) (h2 : SdV X.K G v2 r2) (k : KF X.K M G H P Q) : canO X f v1 v2 H Q :=
  fun pins s σ u1 u2 I q1 q2 => h v1 v2 u1 u2 G H Q pins s σ st h1 h2 k I q1 q2
theorem KF.fw {K : PySem.W.Frag} {M M1 : AM} {G H G1 H1 : Hp} {Q : VK} {P : XP} (k : KF K M G H P Q) (f : Fw M M1 G H G1 H1) : KF K M1 G1 H1 P Q := fun v r M' G' H' s f' h n => k v r M' G' H' s (f.trans f') h n
theorem EvX.binop {op : Operator} (h : EvX X a δ M fun r1 M1 => EvX X b δ M1 fun r2 M2 => VOp X (binaryOp op) r1 r2 M2 P) : EvX X (.BinOp a op b pos) δ M P := fun σ G H Q s l k =>
  ofE (pe_op opR_can pe_can pe_can) (h σ G H _ s l fun v1 r1 M1 G1 H1 s1 f1 sv1 h1 => h1 σ G1 H1 _ s1 (l.mono f1.g) fun v2 r2 M2 G2 H2 s2 f2 sv2 h2 => h2.use s2 (sv1.mono f2.g) sv2 (KF.fw k (f1.trans f2)))
theorem EvX.cmp {op : CmpOp} (h : EvX X a δ M fun r1 M1 => EvX X b δ M1 fun r2 M2 => VOp X (compareOp op) r1 r2 M2 P) (hm : behindInMarks op b = false := by first | exact nomark _ (by decide) (by decide) | rfl) : EvX X (.Compare a [op] [b] pos) δ M P := fun σ G H Q s l k =>
  ofE (pe_cmpR opR_can pe_can pe_can hm) (h σ G H _ s l fun v1 r1 M1 G1 H1 s1 f1 sv1 h1 => h1 σ G1 H1 _ s1 (l.mono f1.g) fun v2 r2 M2 G2 H2 s2 f2 sv2 h2 => h2.use s2 (sv1.mono f2.g) sv2 (KF.fw k (f1.trans f2)))
theorem SdV.bool {K : PySem.W.Frag} {G : Hp} {v : V} {q : Bool} (h : SdV K G v (.dat (.bool q))) : v = .bl q := by
  cases h
  rfl
theorem SdV.int {K : PySem.W.Frag} {G : Hp} {v : V} {q : Int} (h : SdV K G v (.dat (.int q))) : v = .int q := by
  cases h
  rfl
theorem SdV.str {K : PySem.W.Frag} {G : Hp} {v : V} {q : Str} (h : SdV K G v (.dat (.str q))) : v = .str q := by
  cases h
  rfl
theorem SdV.non {K : PySem.W.Frag} {G : Hp} {v : V} (h : SdV K G v (.dat .none)) : v = .non := by
  cases h
  rfl
theorem EvX.chain {op op' : CmpOp} (h : EvX X a δ M fun r1 M1 => EvX X b δ M1 fun r2 M2 => VOp X (compareOp op) r1 r2 M2 fun r3 M3 => ∃ q, r3 = .dat (.bool q) ∧ if q = true then EvX X c δ M3 fun r4 M4 => VOp X (compareOp op') r2 r4 M4 P else P (.dat (.bool false)) M3)
    (hm : lastMarks [op, op'] [b, c] = false := by with_unfolding_all rfl) : EvX X (.Compare a [op, op'] [b, c] pos) δ M P := fun σ G H Q s l k =>
  ofE (pe_chain opR_can opR_can pe_can pe_can pe_can hm) (h σ G H _ s l fun v1 r1 M1 G1 H1 s1 f1 sv1 h1 => h1 σ G1 H1 _ s1 (l.mono f1.g) fun v2 r2 M2 G2 H2 s2 f2 sv2 h2 => h2.use s2 (sv1.mono f2.g) sv2
    fun v3 r3 M3 G3 H3 s3 f3 sv3 h3 => by
      obtain ⟨q, rfl, h3⟩ := h3
      refine ⟨q, sv3.bool, ?_⟩
      have f03 := (f1.trans f2).trans f3
      cases q with
      | false => exact k _ _ M3 G3 H3 s3 f03 (svBl false) h3
      | true => exact h3 σ G3 H3 _ s3 (l.mono f03.g) fun v4 r4 M4 G4 H4 s4 f4 sv4 h4 => h4.use s4 ((sv2.mono f3.g).mono f4.g) sv4 (KF.fw k (f03.trans f4)))
/-! ### tests -/
variable {PB : Bool → AM → Prop}
theorem TvX.val (h : EvX X e δ M fun r M1 => ∃ q, r = .dat (.bool q) ∧ PB q M1) (he : ∀ whole, isTrue e X.env whole = (do let v ← whole; standAt e.pos; holding [v] (truthy v)) := by intro _; rfl) : TvX X e δ M PB := fun σ G H Q s l k =>
  ofT (pt_val pe_can he) (h σ G H _ s l fun v r M1 G1 H1 s1 f1 sv1 h1 => by
    obtain ⟨q, rfl, h1⟩ := h1
    exact ⟨q, sv1.bool, k q M1 G1 H1 s1 f1 h1⟩)
theorem TvX.cmp {op : CmpOp} (h : EvX X a δ M fun r1 M1 => EvX X b δ M1 fun r2 M2 => VOp X (compareOp op) r1 r2 M2 fun r M3 => ∃ q, r = .dat (.bool q) ∧ PB q M3) (hm : behindInMarks op b = false := by first | exact nomark _ (by decide) (by decide) | rfl) : TvX X (.Compare a [op] [b] pos) δ M PB := fun σ G H Q s l k =>
  ofT (pt_cmpR opR_can pe_can pe_can hm) (h σ G H _ s l fun v1 r1 M1 G1 H1 s1 f1 sv1 h1 => h1 σ G1 H1 _ s1 (l.mono f1.g) fun v2 r2 M2 G2 H2 s2 f2 sv2 h2 => h2.use s2 (sv1.mono f2.g) sv2 fun v3 r3 M3 G3 H3 s3 f3 sv3 h3 => by
    obtain ⟨q, rfl, h3⟩ := h3
    exact ⟨q, sv3.bool, k q M3 G3 H3 s3 ((f1.trans f2).trans f3) h3⟩)
theorem TvX.chain {op op' : CmpOp} (h : EvX X a δ M fun r1 M1 => EvX X b δ M1 fun r2 M2 => VOp X (compareOp op) r1 r2 M2 fun r3 M3 => ∃ q, r3 = .dat (.bool q) ∧ if q = true then EvX X c δ M3 fun r4 M4 => VOp X (compareOp op') r2 r4 M4 (fun r M5 => ∃ q, r = .dat (.bool q) ∧ PB q M5) else PB false M3)
    (hm : lastMarks [op, op'] [b, c] = false := by with_unfolding_all rfl) : TvX X (.Compare a [op, op'] [b, c] pos) δ M PB := fun σ G H Q s l k =>
  ofT (pt_chain opR_can opR_can pe_can pe_can pe_can hm) (h σ G H _ s l fun v1 r1 M1 G1 H1 s1 f1 sv1 h1 => h1 σ G1 H1 _ s1 (l.mono f1.g) fun v2 r2 M2 G2 H2 s2 f2 sv2 h2 => h2.use s2 (sv1.mono f2.g) sv2
    fun v3 r3 M3 G3 H3 s3 f3 sv3 h3 => by
      obtain ⟨q, rfl, h3⟩ := h3
      refine ⟨q, sv3.bool, ?_⟩
      have f03 := (f1.trans f2).trans f3
      cases q with
      | false => exact ⟨false, rfl, k false M3 G3 H3 s3 f03 h3⟩
      | true =>
        exact h3 σ G3 H3 _ s3 (l.mono f03.g) fun v4 r4 M4 G4 H4 s4 f4 sv4 h4 => h4.use s4 ((sv2.mono f3.g).mono f4.g) sv4 fun v5 r5 M5 G5 H5 s5 f5 sv5 h5 => by
          obtain ⟨q, rfl, h5⟩ := h5
          exact ⟨q, sv5.bool, k q M5 G5 H5 s5 ((f03.trans f4).trans f5) h5⟩)
theorem TvX.w (h : WvX X e δ M PB) : TvX X e δ M PB := fun σ G H Q s l k => ofT (PW.pt pw_can) (h σ G H Q s l k)
variable {rest : List Expr}
theorem WvX.and1 (h : TvX X a δ M PB) : WvX X (.BoolOp .And [a] pos) δ M PB := fun σ G H Q s l k => ofW (pw_and1 pt_can) (h σ G H Q s l k)
theorem WvX.or1 (h : TvX X a δ M PB) : WvX X (.BoolOp .Or [a] pos) δ M PB := fun σ G H Q s l k => ofW (pw_or1 pt_can) (h σ G H Q s l k)
theorem WvX.and (h : TvX X a δ M fun q M1 => if q = true then WvX X (.BoolOp .And (b :: rest) pos) δ M1 PB else PB false M1) : WvX X (.BoolOp .And (a :: b :: rest) pos) δ M PB := fun σ G H Q s l k =>
  ofW (pw_and pt_can pw_can) (h σ G H _ s l fun q M1 G1 H1 s1 f1 h1 => by
    cases q with
    | true => exact h1 σ G1 H1 _ s1 (l.mono f1.g) fun b M' G' H' s' f' h' => k b M' G' H' s' (f1.trans f') h'
    | false => exact k false M1 G1 H1 s1 f1 h1)
theorem WvX.or (h : TvX X a δ M fun q M1 => if q = true then PB true M1 else WvX X (.BoolOp .Or (b :: rest) pos) δ M1 PB) : WvX X (.BoolOp .Or (a :: b :: rest) pos) δ M PB := fun σ G H Q s l k =>
  ofW (pw_or pt_can pw_can) (h σ G H _ s l fun q M1 G1 H1 s1 f1 h1 => by
    cases q with
    | false => exact h1 σ G1 H1 _ s1 (l.mono f1.g) fun b M' G' H' s' f' h' => k b M' G' H' s' (f1.trans f') h'
    | true => exact k true M1 G1 H1 s1 f1 h1)
theorem TvX.not (h : TvX X a δ M fun q M1 => PB (!q) M1) : TvX X (.UnaryOp .Not a pos) δ M PB := fun σ G H Q s l k => ofT (pt_not pt_can) (h σ G H _ s l fun b M' G' H' s' f' h' => k _ M' G' H' s' f' h')
/-! ### the same as values -/
theorem EvX.one {op : BoolOp} (h : EvX X a δ M P) : EvX X (.BoolOp op [a] pos) δ M P := fun σ G H Q s l k => ofE (pe_one pe_can) (h σ G H Q s l k)
theorem EvX.and (h : EvX X a δ M fun r M1 => ∃ q, r = .dat (.bool q) ∧ if q = true then EvX X (.BoolOp .And (b :: rest) pos) δ M1 P else P (.dat (.bool false)) M1) : EvX X (.BoolOp .And (a :: b :: rest) pos) δ M P := fun σ G H Q s l k =>
  ofE (pe_and pe_can pe_can) (h σ G H _ s l fun v r M1 G1 H1 s1 f1 sv1 h1 => by
    obtain ⟨q, rfl, h1⟩ := h1
    refine ⟨q, sv1.bool, ?_⟩
    cases q with
    | true => exact h1 σ G1 H1 _ s1 (l.mono f1.g) (KF.fw k f1)
    | false => exact k _ _ M1 G1 H1 s1 f1 (svBl false) h1)
theorem EvX.or (h : EvX X a δ M fun r M1 => ∃ q, r = .dat (.bool q) ∧ if q = true then P (.dat (.bool true)) M1 else EvX X (.BoolOp .Or (b :: rest) pos) δ M1 P) : EvX X (.BoolOp .Or (a :: b :: rest) pos) δ M P := fun σ G H Q s l k =>
  ofE (pe_or pe_can pe_can) (h σ G H _ s l fun v r M1 G1 H1 s1 f1 sv1 h1 => by
    obtain ⟨q, rfl, h1⟩ := h1
    refine ⟨q, sv1.bool, ?_⟩
    cases q with
    | false => exact h1 σ G1 H1 _ s1 (l.mono f1.g) (KF.fw k f1)
    | true => exact k _ _ M1 G1 H1 s1 f1 (svBl true) h1)
theorem EvX.not (h : EvX X a δ M fun r M1 => ∃ q, r = .dat (.bool q) ∧ P (.dat (.bool (!q))) M1) : EvX X (.UnaryOp .Not a pos) δ M P := fun σ G H Q s l k =>
  ofE (pe_not pe_can) (h σ G H _ s l fun v r M1 G1 H1 s1 f1 sv1 h1 => by
    obtain ⟨q, rfl, h1⟩ := h1
    exact ⟨q, sv1.bool, k _ _ M1 G1 H1 s1 f1 (svBl _) h1⟩)
theorem EvX.ifx (h : TvX X c δ M fun q M1 => if q = true then EvX X a δ M1 P else EvX X b δ M1 P) : EvX X (.IfExp c a b pos) δ M P := fun σ G H Q s l k =>
  ofE (pe_ifExp pt_can pe_can pe_can) (h σ G H _ s l fun q M1 G1 H1 s1 f1 h1 => by
    cases q with
    | true => exact h1 σ G1 H1 _ s1 (l.mono f1.g) (KF.fw k f1)
    | false => exact h1 σ G1 H1 _ s1 (l.mono f1.g) (KF.fw k f1))
/-! ### lists of arguments, displays -/
variable {PL : List Sd → AM → Prop}
theorem AvX.nil (h : PL [] M) : AvX X [] δ M PL := fun σ G H Q s l k => ofA pa_nil (k [] [] M G H s Fw.refl .nil h)
theorem sds_mono {K : PySem.W.Frag} {G G' : Hp} (e : Ex G G') {vs : List V} {rs : List Sd} (h : Paired (SdV K G) vs rs) : Paired (SdV K G') vs rs := Paired.mapP h fun _ _ z => SdV.mono e z
theorem AvX.cons (h : EvX X e δ M fun r M1 => AvX X es δ M1 fun rs M2 => PL (r :: rs) M2) (hs : starEach (e :: es) X.env = (false, eval e X.env) :: starEach es X.env := by rfl) : AvX X (e :: es) δ M PL := fun σ G H Q s l k =>
  ofA (pa_cons pe_can pa_can hs) (h σ G H _ s l fun v r M1 G1 H1 s1 f1 sv1 h1 => h1 σ G1 H1 _ s1 (l.mono f1.g) fun vs rs M2 G2 H2 s2 f2 sv2 h2 => k _ _ M2 G2 H2 s2 (f1.trans f2) (.cons (sv1.mono f2.g) sv2) h2)
theorem dats_of {K : PySem.W.Frag} {G : Hp} : ∀ {vs : List V} {ds : List PyData}, Paired (SdV K G) vs (ds.map Sd.dat) → DqAll K G vs ds
  | _, [], .nil => .nil
  | _, _ :: _, .cons h t => .cons h (dats_of t)
theorem s0s_of {K : PySem.W.Frag} {G : Hp} : ∀ {vs : List V} {rs : List S0}, Paired (SdV K G) vs (rs.map S0.sd) → Paired (S0V K G) vs rs
  | _, [], .nil => .nil
  | _, .dat d :: _, .cons h t => .cons h (s0s_of t)
  | _, .raw w :: _, .cons h t => .cons h (s0s_of t)
/-- (a, b, ..) -/
theorem EvX.tup {k : Nat} (h : AvX X es δ M fun rs M1 => ∃ ds, rs = ds.map Sd.dat ∧ ds.length ≤ sizeLine ∧ P (.dat (.tuple ds)) M1) : EvX X (.Tuple es k pos) δ M P := fun σ G H Q s l k =>
  ofE (pe_tup pa_can) (h σ G H _ s l fun vs rs M1 G1 H1 s1 f1 sv1 h1 => by
    obtain ⟨ds, rfl, hz, h1⟩ := h1
    have dq := dats_of sv1
    refine ⟨by rw [dq.length]; exact hz, fun p hp => ?_⟩
    obtain ⟨s2, f2⟩ := s1.lay hp (.tup vs)
    exact k _ _ M1 _ _ s2 (f1.trans f2) (svDat (Dq.tup (.inl (.inl upd_same)) (DqAll.mono f2.g _ _ dq))) h1)
/-- .. of any things -/
theorem EvX.tupS {k : Nat} (h : AvX X es δ M fun rs M1 => ∃ ds, rs = ds.map S0.sd ∧ ds.length ≤ sizeLine ∧ P (.tup ds) M1) : EvX X (.Tuple es k pos) δ M P := fun σ G H Q s l k =>
  ofE (pe_tup pa_can) (h σ G H _ s l fun vs rs M1 G1 H1 s1 f1 sv1 h1 => by
    obtain ⟨ds, rfl, hz, h1⟩ := h1
    have dq := s0s_of sv1
    refine ⟨by rw [Paired.length dq]; exact hz, fun p hp => ?_⟩
    obtain ⟨s2, f2⟩ := s1.lay hp (.tup vs)
    exact k _ (.tup ds) M1 _ _ s2 (f1.trans f2) ⟨p, vs, rfl, .inl (.inl upd_same), Paired.mapP dq fun _ _ z => S0V.mono f2.g z⟩ h1)
/-- [a, b, ..], never changed -/
theorem EvX.lst (h : AvX X es δ M fun rs M1 => ∃ ds, rs = ds.map Sd.dat ∧ ds.length ≤ sizeLine ∧ P (.dat (.list ds)) M1) : EvX X (.List es pos) δ M P := fun σ G H Q s l k =>
  ofE (pe_lst pa_can) (h σ G H _ s l fun vs rs M1 G1 H1 s1 f1 sv1 h1 => by
    obtain ⟨ds, rfl, hz, h1⟩ := h1
    have dq := dats_of sv1
    refine ⟨by rw [dq.length]; exact hz, fun p hp => ?_⟩
    obtain ⟨s2, f2⟩ := s1.lay hp (.lst vs)
    exact k _ _ M1 _ _ s2 (f1.trans f2) (svDat (Dq.lst upd_same (DqAll.mono f2.g _ _ dq))) h1)
/-- [a, b, ..], that may change -/
theorem EvX.lstM (h : AvX X es δ M fun rs M1 => ∃ ds, rs = ds.map S0.sd ∧ ds.length ≤ sizeLine ∧ ∀ p, M1 p = none → P (.raw (.ref p)) (setM M1 p (.lst ds))) : EvX X (.List es pos) δ M P := fun σ G H Q s l k =>
  ofE (pe_lst pa_can) (h σ G H _ s l fun vs rs M1 G1 H1 s1 f1 sv1 h1 => by
    obtain ⟨ds, rfl, hz, h1⟩ := h1
    have dq := s0s_of sv1
    refine ⟨by rw [Paired.length dq]; exact hz, fun p hp => ?_⟩
    obtain ⟨s2, f2⟩ := s1.layM (o := .lst vs) (m := .lst ds) hp dq
    exact k _ _ _ _ _ s2 (f1.trans f2) (svRaw _) (h1 p (s1.fresh hp).2))
end
end Wr
end
section
set_option maxHeartbeats 4000000
namespace Wr
open PySem PySem.Spec PyProof.Rows L2
/-! ### the operations, by data -/
section
variable {X : Cx} {δ : Sl} {M : AM} {P : XP}
theorem VOp.pureI {f : Value → Value → Sem Value} {C : Int → Int → Prop} {g : Int → Int → Int} {i j : Int} (ho : OpR X f (rI C fun i j => .int (g i j))) (hc : C i j) (h : P (.dat (.int (g i j))) M) : VOp X f (.dat (.int i)) (.dat (.int j)) M P :=
  VOp.of ho fun v1 v2 G H Q s h1 h2 k => ⟨i, j, h1.int, h2.int, hc, k _ _ M G H s Fw.refl (svInt _) h⟩
theorem VOp.pureI0 {f : Value → Value → Sem Value} {g : Int → Int → Int} {i j : Int} (ho : OpR X f (rI0 fun i j => .int (g i j))) (h : P (.dat (.int (g i j))) M) : VOp X f (.dat (.int i)) (.dat (.int j)) M P :=
  VOp.of ho fun v1 v2 G H Q s h1 h2 k => ⟨i, j, h1.int, h2.int, k _ _ M G H s Fw.refl (svInt _) h⟩
theorem VOp.pureB0 {f : Value → Value → Sem Value} {g : Int → Int → Bool} {i j : Int} (ho : OpR X f (rI0 fun i j => .bl (g i j))) (h : P (.dat (.bool (g i j))) M) : VOp X f (.dat (.int i)) (.dat (.int j)) M P :=
  VOp.of ho fun v1 v2 G H Q s h1 h2 k => ⟨i, j, h1.int, h2.int, k _ _ M G H s Fw.refl (svBl _) h⟩
theorem VOp.add {i j : Int} (h : P (.dat (.int (i + j))) M) : VOp X (binaryOp .Add) (.dat (.int i)) (.dat (.int j)) M P := VOp.pureI0 op_add h
theorem VOp.sub {i j : Int} (h : P (.dat (.int (i - j))) M) : VOp X (binaryOp .Sub) (.dat (.int i)) (.dat (.int j)) M P := VOp.pureI0 op_sub h
theorem VOp.mul {i j : Int} (hc : CMul i j) (h : P (.dat (.int (i * j))) M) : VOp X (binaryOp .Mult) (.dat (.int i)) (.dat (.int j)) M P := VOp.pureI op_mul hc h
theorem VOp.fdiv {i j : Int} (hc : CDiv i j) (h : P (.dat (.int (i / j))) M) : VOp X (binaryOp .FloorDiv) (.dat (.int i)) (.dat (.int j)) M P := VOp.pureI op_fdiv hc h
theorem VOp.mod {i j : Int} (hc : 0 < j) (h : P (.dat (.int (i % j))) M) : VOp X (binaryOp .Mod) (.dat (.int i)) (.dat (.int j)) M P := VOp.pureI op_mod hc h
theorem VOp.pow {i j : Int} (hc : CPow i j) (h : P (.dat (.int (i ^ j.toNat))) M) : VOp X (binaryOp .Pow) (.dat (.int i)) (.dat (.int j)) M P := VOp.pureI op_pow hc h
theorem VOp.lt {i j : Int} (h : P (.dat (.bool (decide (i < j)))) M) : VOp X (compareOp .Lt) (.dat (.int i)) (.dat (.int j)) M P := VOp.pureB0 op_lt h
theorem VOp.le {i j : Int} (h : P (.dat (.bool (decide (i ≤ j)))) M) : VOp X (compareOp .LtE) (.dat (.int i)) (.dat (.int j)) M P := VOp.pureB0 op_le h
theorem VOp.gt {i j : Int} (h : P (.dat (.bool (decide (j < i)))) M) : VOp X (compareOp .Gt) (.dat (.int i)) (.dat (.int j)) M P := VOp.pureB0 op_gt h
theorem VOp.ge {i j : Int} (h : P (.dat (.bool (decide (j ≤ i)))) M) : VOp X (compareOp .GtE) (.dat (.int i)) (.dat (.int j)) M P := VOp.pureB0 op_ge h
theorem VOp.eq {d e : PyData} (hu : X.A.units + 64 < cLine) (h1 : SeqAt.shaped d = true) (h2 : SeqAt.shaped e = true) (h : P (.dat (.bool (PyData.eqv d e))) M) : VOp X (compareOp .Eq) (.dat d) (.dat e) M P :=
  VOp.of (op_eqD hu) fun v1 v2 G H Q s q1 q2 k => ⟨d, e, Dq.dp s.gh d v1 q1, Dq.dp s.gh e v2 q2, h1, h2, k _ _ M G H s Fw.refl (svBl _) h⟩
theorem VOp.ne {d e : PyData} (hu : X.A.units + 64 < cLine) (h1 : SeqAt.shaped d = true) (h2 : SeqAt.shaped e = true) (h : P (.dat (.bool (!PyData.eqv d e))) M) : VOp X (compareOp .NotEq) (.dat d) (.dat e) M P :=
  VOp.of (op_neD hu) fun v1 v2 G H Q s q1 q2 k => ⟨d, e, Dq.dp s.gh d v1 q1, Dq.dp s.gh e v2 q2, h1, h2, k _ _ M G H s Fw.refl (svBl _) h⟩
theorem VOp.eqI {i j : Int} (h : P (.dat (.bool (decide (i = j)))) M) : VOp X (compareOp .Eq) (.dat (.int i)) (.dat (.int j)) M P :=
  VOp.of op_eq fun v1 v2 G H Q s q1 q2 k => by
    rw [q1.int, q2.int]
    exact ⟨rfl, k _ _ M G H s Fw.refl (svBl _) (by rw [show decide (V.int i = V.int j) = decide (i = j) by simp]; exact h)⟩
theorem VOp.eqS {i j : Str} (h : P (.dat (.bool (decide (i = j)))) M) : VOp X (compareOp .Eq) (.dat (.str i)) (.dat (.str j)) M P :=
  VOp.of op_eq fun v1 v2 G H Q s q1 q2 k => by
    rw [q1.str, q2.str]
    exact ⟨rfl, k _ _ M G H s Fw.refl (svBl _) (by rw [show decide (V.str i = V.str j) = decide (i = j) by simp]; exact h)⟩
theorem VOp.neI {i j : Int} (h : P (.dat (.bool (!decide (i = j)))) M) : VOp X (compareOp .NotEq) (.dat (.int i)) (.dat (.int j)) M P :=
  VOp.of op_ne fun v1 v2 G H Q s q1 q2 k => by
    rw [q1.int, q2.int]
    exact ⟨rfl, k _ _ M G H s Fw.refl (svBl _) (by rw [show decide (V.int i = V.int j) = decide (i = j) by simp]; exact h)⟩
theorem VOp.neS {i j : Str} (h : P (.dat (.bool (!decide (i = j)))) M) : VOp X (compareOp .NotEq) (.dat (.str i)) (.dat (.str j)) M P :=
  VOp.of op_ne fun v1 v2 G H Q s q1 q2 k => by
    rw [q1.str, q2.str]
    exact ⟨rfl, k _ _ M G H s Fw.refl (svBl _) (by rw [show decide (V.str i = V.str j) = decide (i = j) by simp]; exact h)⟩
def isN : Sd → Bool
  | .dat .none => true
  | .raw v => decide (v = .non)
  | _ => false
theorem isN_ok {K : PySem.W.Frag} {G : Hp} {v : V} : ∀ {r : Sd}, SdV K G v r → decide (v = .non) = isN r
  | .raw w, h => by
    have e : v = w := h
    rw [e]
    rfl
  | .tup xs, h => by
    obtain ⟨a, vs, rfl, _⟩ := h
    rfl
  | .obj C fs, h => by
    obtain ⟨a, dx, us, rfl, _⟩ := h
    rfl
  | .seq ns, h => by
    obtain ⟨a, rfl, _⟩ := h
    rfl
  | .dat d, h => by
    have h : Dq K G v d := h
    cases h <;> rfl
theorem VOp.isN {r : Sd} (h : P (.dat (.bool (Wr.isN r))) M) : VOp X (compareOp .Is) r (.dat .none) M P :=
  VOp.of op_isN fun v1 v2 G H Q s q1 q2 k => ⟨q2.non, by rw [isN_ok q1]; exact k _ _ M G H s Fw.refl (svBl _) h⟩
theorem VOp.notN {r : Sd} (h : P (.dat (.bool (!Wr.isN r))) M) : VOp X (compareOp .IsNot) r (.dat .none) M P :=
  VOp.of op_notN fun v1 v2 G H Q s q1 q2 k => ⟨q2.non, by rw [isN_ok q1]; exact k _ _ M G H s Fw.refl (svBl _) h⟩
theorem VOp.isB {a b : Bool} (h : P (.dat (.bool (decide (a = b)))) M) : VOp X (compareOp .Is) (.dat (.bool a)) (.dat (.bool b)) M P :=
  VOp.of op_isBl fun v1 v2 G H Q s q1 q2 k => ⟨a, b, q1.bool, q2.bool, k _ _ M G H s Fw.refl (svBl _) h⟩
theorem VOp.isnotB {a b : Bool} (h : P (.dat (.bool (!decide (a = b)))) M) : VOp X (compareOp .IsNot) (.dat (.bool a)) (.dat (.bool b)) M P :=
  VOp.of op_notBl fun v1 v2 G H Q s q1 q2 k => ⟨a, b, q1.bool, q2.bool, k _ _ M G H s Fw.refl (svBl _) h⟩
/-! texts, lists, tuples joined -/
theorem VOp.addS {a b : Str} (hz : a.length + b.length ≤ sizeLine) (h : P (.dat (.str (a ++ b))) M) : VOp X (binaryOp .Add) (.dat (.str a)) (.dat (.str b)) M P :=
  VOp.of op_add_str fun v1 v2 G H Q s q1 q2 k => ⟨a, b, q1.str, q2.str, hz, k _ _ M G H s Fw.refl (svStr _) h⟩
theorem SdV.list {K : PySem.W.Frag} {G : Hp} {v : V} {ds : List PyData} (h : SdV K G v (.dat (.list ds))) : ∃ a xs, v = .ref a ∧ G a = some (.lst xs) ∧ DqAll K G xs ds := by
  cases (show Dq K G v (.list ds) from h) with
  | lst h1 h2 => exact ⟨_, _, rfl, h1, h2⟩
theorem SdV.tuple {K : PySem.W.Frag} {G : Hp} {v : V} {ds : List PyData} (h : SdV K G v (.dat (.tuple ds))) : ∃ a xs, v = .ref a ∧ SqT K G a xs ∧ DqAll K G xs ds := by
  cases (show Dq K G v (.tuple ds) from h) with
  | tup h1 h2 => exact ⟨_, _, rfl, h1, h2⟩
theorem VOp.addL {a b : List PyData} (hz : a.length + b.length ≤ sizeLine) (h : P (.dat (.list (a ++ b))) M) : VOp X (binaryOp .Add) (.dat (.list a)) (.dat (.list b)) M P :=
  VOp.of op_cat fun v1 v2 G H Q s q1 q2 k => by
    obtain ⟨p, xs, rfl, e1, e2⟩ := q1.list
    obtain ⟨q, ys, rfl, e3, e4⟩ := q2.list
    refine ⟨p, q, xs, ys, rfl, rfl, s.gh _ _ e1, s.gh _ _ e3, by rw [e2.length, e4.length]; exact hz, fun l hl => ?_⟩
    obtain ⟨s2, f2⟩ := s.lay hl (.lst (xs ++ ys))
    exact k _ _ M _ _ s2 f2 (svDat (Dq.lst upd_same (DqAll.mono f2.g _ _ (e2.append e4)))) h
theorem VOp.repL {a : List PyData} {i : Int} (h0 : 0 ≤ i) (h1 : i < 2 ^ 63) (hz : a.length * i.toNat ≤ sizeLine) (h : P (.dat (.list (List.replicate i.toNat a).flatten)) M) : VOp X (binaryOp .Mult) (.dat (.list a)) (.dat (.int i)) M P :=
  VOp.of op_rep fun v1 v2 G H Q s q1 q2 k => by
    obtain ⟨p, xs, rfl, e1, e2⟩ := q1.list
    refine ⟨p, i, xs, rfl, q2.int, s.gh _ _ e1, by omega, h1, by rw [e2.length]; exact hz, fun l hl => ?_⟩
    obtain ⟨s2, f2⟩ := s.lay hl (.lst (List.replicate i.toNat xs).flatten)
    have hr : ∀ n : Nat, DqAll X.K G (List.replicate n xs).flatten (List.replicate n a).flatten := fun n => by
      induction n with
      | zero => exact .nil
      | succ n ih =>
        rw [List.replicate_succ, List.replicate_succ, List.flatten_cons, List.flatten_cons]
        exact e2.append ih
    exact k _ _ M _ _ s2 f2 (svDat (Dq.lst upd_same (DqAll.mono f2.g _ _ (hr _)))) h
theorem VOp.addT {a b : List PyData} (hz : a.length + b.length ≤ sizeLine) (h : P (.dat (.tuple (a ++ b))) M) : VOp X (binaryOp .Add) (.dat (.tuple a)) (.dat (.tuple b)) M P :=
  VOp.of op_catA fun v1 v2 G H Q s q1 q2 k => by
    obtain ⟨p, xs, rfl, e1, e2⟩ := q1.tuple
    obtain ⟨q, ys, rfl, e3, e4⟩ := q2.tuple
    refine ⟨p, q, xs, ys, rfl, rfl, s.gh.seqT e1, s.gh.seqT e3, by rw [e2.length, e4.length]; exact hz, fun z => ?_, fun _ z => ?_, fun _ _ l hl => ?_⟩
    · subst z
      cases e2
      exact k _ _ M G H s Fw.refl (svDat (Dq.tup e3 e4)) h
    · subst z
      cases e4
      rw [List.append_nil] at h
      exact k _ _ M G H s Fw.refl (svDat (Dq.tup e1 e2)) h
    · obtain ⟨s2, f2⟩ := s.lay hl (.tup (xs ++ ys))
      exact k _ _ M _ _ s2 f2 (svDat (Dq.tup (.inl (.inl upd_same)) (DqAll.mono f2.g _ _ (e2.append e4)))) h
/-! in, not in -/
def flatD : PyData → Bool
  | .none => true
  | .bool _ => true
  | .int _ => true
  | .str _ => true
  | _ => false
theorem flat_of {K : PySem.W.Frag} {G : Hp} {v : V} {d : PyData} (h : Dq K G v d) (f : flatD d = true) : flatV v = true := by
  cases h <;> first | rfl | cases f
theorem eqV_of {K : PySem.W.Frag} {G : Hp} {v w : V} {d e : PyData} (h : Dq K G v d) (h' : Dq K G w e) (f : flatD d = true) (f' : flatD e = true) : eqV v w = PyData.eqv d e := by
  cases h <;> cases h' <;> first | (cases f; done) | (cases f'; done) | rfl | (simp only [eqV, PyData.eqv])
def inD (x : PyData) (xs : List PyData) : Bool := xs.any fun y => PyData.eqv y x
theorem inV_of {K : PySem.W.Frag} {G : Hp} {v : V} {d : PyData} (h : Dq K G v d) (f : flatD d = true) : ∀ {vs : List V} {ds : List PyData}, DqAll K G vs ds → ds.all flatD = true → inV v vs = inD d ds ∧ vs.all flatV = true
  | _, _, .nil, _ => ⟨rfl, rfl⟩
  | _, _, .cons a t, q => by
    have q2 := Bool.and_eq_true_iff.mp (show (flatD _ && List.all _ flatD) = true from q)
    obtain ⟨h1, h2⟩ := inV_of h f t q2.2
    refine ⟨?_, ?_⟩
    · show (eqV _ _ || inV _ _) = (PyData.eqv _ _ || inD _ _)
      rw [h1, eqV_of a h q2.1 f]
    · show (flatV _ && List.all _ flatV) = true
      rw [h2, flat_of a q2.1]
      rfl
theorem VOp.inT {d : PyData} {ds : List PyData} (f : flatD d = true) (f' : ds.all flatD = true) (h : P (.dat (.bool (Wr.inD d ds))) M) : VOp X (compareOp .In) (.dat d) (.dat (.tuple ds)) M P :=
  VOp.of op_in_seq fun v1 v2 G H Q s q1 q2 k => by
    obtain ⟨p, xs, rfl, e1, e2⟩ := q2.tuple
    obtain ⟨i1, i2⟩ := inV_of q1 f e2 f'
    refine ⟨p, xs, rfl, .inr (s.gh.seqT e1), flat_of q1 f, i2, ?_⟩
    show Q (.bl (inV v1 xs)) H
    rw [i1]
    exact k _ _ M G H s Fw.refl (svBl _) h
theorem VOp.ninT {d : PyData} {ds : List PyData} (f : flatD d = true) (f' : ds.all flatD = true) (h : P (.dat (.bool (!Wr.inD d ds))) M) : VOp X (compareOp .NotIn) (.dat d) (.dat (.tuple ds)) M P :=
  VOp.of op_notIn_seq fun v1 v2 G H Q s q1 q2 k => by
    obtain ⟨p, xs, rfl, e1, e2⟩ := q2.tuple
    obtain ⟨i1, i2⟩ := inV_of q1 f e2 f'
    refine ⟨p, xs, rfl, .inr (s.gh.seqT e1), flat_of q1 f, i2, ?_⟩
    show Q (.bl (!inV v1 xs)) H
    rw [i1]
    exact k _ _ M G H s Fw.refl (svBl _) h
theorem VOp.inL {d : PyData} {ds : List PyData} (f : flatD d = true) (f' : ds.all flatD = true) (h : P (.dat (.bool (Wr.inD d ds))) M) : VOp X (compareOp .In) (.dat d) (.dat (.list ds)) M P :=
  VOp.of op_in_seq fun v1 v2 G H Q s q1 q2 k => by
    obtain ⟨p, xs, rfl, e1, e2⟩ := q2.list
    obtain ⟨i1, i2⟩ := inV_of q1 f e2 f'
    refine ⟨p, xs, rfl, .inl (.inl (.inl (s.gh _ _ e1))), flat_of q1 f, i2, ?_⟩
    show Q (.bl (inV v1 xs)) H
    rw [i1]
    exact k _ _ M G H s Fw.refl (svBl _) h
theorem VOp.ninD {d : PyData} {ds : List PyData} (hu : X.A.units + 65 < cLine) (h1 : SeqAt.shaped d = true) (h2 : SeqAt.shaped (.list ds) = true) (h : P (.dat (.bool (!Wr.inD d ds))) M) : VOp X (compareOp .NotIn) (.dat d) (.dat (.list ds)) M P :=
  VOp.of (op_notInD hu) fun v1 v2 G H Q s q1 q2 k => ⟨d, ds, Dq.dp s.gh d v1 q1, Dq.dp s.gh _ v2 q2, h1, h2, k _ _ M G H s Fw.refl (svBl _) h⟩
theorem VOp.inSign {c : Nat} {z : Str} (h : P (.dat (.bool (decide (c ∈ z.cps.toList)))) M) : VOp X (compareOp .In) (.dat (.str ⟨#[c]⟩)) (.dat (.str z)) M P :=
  VOp.of op_in_sign fun v1 v2 G H Q s q1 q2 k => ⟨c, z, q1.str, q2.str, k _ _ M G H s Fw.refl (svBl _) h⟩
end
/-! ### items -/
section
variable {X : Cx} {e a b : Expr} {es : List Expr} {δ : Sl} {M : AM} {P : XP} {pos : Pos}
def IOp (X : Cx) (r1 r2 : Sd) (M : AM) (P : XP) : Prop := ∀ v1 v2 G H (Q : VK), Sto X.K M G H → SdV X.K G v1 r1 → SdV X.K G v2 r2 → KF X.K M G H P Q →
  ∀ (value slice : Expr) (pins : List (Addr × Obj)) (s : Shared) (σ : L2.St) (v u : Value), Inv X pins σ H s → RelV v1 v → RelV v2 u → subscripted slice false v u = operate [v, u] (getItem v u) → wpAny (model X.prog X.w) X.A (subscriptTail value slice v u) (EP X pins σ Q) X.xe s
def canIx (X : Cx) : R2 := fun x y H Q => ∀ (value slice : Expr) (pins : List (Addr × Obj)) (s : Shared) (σ : L2.St) (v u : Value), Inv X pins σ H s → RelV x v → RelV y u → subscripted slice false v u = operate [v, u] (getItem v u) → wpAny (model X.prog X.w) X.A (subscriptTail value slice v u) (EP X pins σ Q) X.xe s
theorem ixR_can : IxR X (canIx X) := fun value slice pins s σ H x y v u Q I rx ry h hs => h value slice pins s σ v u I rx ry hs
theorem IOp.of {r1 r2 : Sd} {r : R2} (ho : IxR X r) (h : ∀ v1 v2 G H Q, Sto X.K M G H → SdV X.K G v1 r1 → SdV X.K G v2 r2 → KF X.K M G H P Q → r v1 v2 H Q) : IOp X r1 r2 M P :=
  fun v1 v2 G H Q st h1 h2 k value slice pins s σ v u I q1 q2 hs => ho value slice pins s σ H v1 v2 v u Q I q1 q2 (h v1 v2 G H Q st h1 h2 k) hs
theorem EvX.ix (h : EvX X a δ M fun r1 M1 => EvX X b δ M1 fun r2 M2 => IOp X r1 r2 M2 P) (hs : PlainIx b := by exact fun _ _ => rfl) : EvX X (.Subscript a b pos) δ M P := fun σ G H Q s l k =>
  ofE (pe_ix ixR_can pe_can pe_can hs) (h σ G H _ s l fun v1 r1 M1 G1 H1 s1 f1 sv1 h1 => h1 σ G1 H1 _ s1 (l.mono f1.g) fun v2 r2 M2 G2 H2 s2 f2 sv2 h2 => h2 v1 v2 G2 H2 Q s2 (sv1.mono f2.g) sv2 (KF.fw k (f1.trans f2)))
theorem ixN_len {α β : Type} {xs : List α} {ds : List β} (e : xs.length = ds.length) {i : Int} {d : β} (h : atI ds i = some d) : ∃ j : Nat, ixN xs.length i = some j ∧ ds[j]? = some d := by
  unfold atI at h
  rw [e]
  cases q : ixN ds.length i with
  | none =>
    rw [q] at h
    cases h
  | some j =>
    rw [q] at h
    exact ⟨j, rfl, h⟩
theorem atI_of {α : Type} {xs : List α} {i : Int} {j : Nat} {v : α} (h : ixN xs.length i = some j) (h' : xs[j]? = some v) : atI xs i = some v := by
  unfold atI
  rw [h]
  exact h'
theorem IOp.lst {ds : List PyData} {i : Int} {d : PyData} (hd : atI ds i = some d) (h : P (.dat d) M) : IOp X (.dat (.list ds)) (.dat (.int i)) M P :=
  IOp.of ix_list fun v1 v2 G H Q s q1 q2 k => by
    obtain ⟨p, xs, rfl, e1, e2⟩ := q1.list
    obtain ⟨j, h1, h2⟩ := ixN_len e2.length hd
    obtain ⟨v, h3, h4⟩ := e2.get h2
    exact ⟨p, xs, i, v, rfl, q2.int, .inl (.inl (s.gh _ _ e1)), atI_of h1 h3, k _ _ M G H s Fw.refl (svDat h4) h⟩
theorem IOp.tup {ds : List PyData} {i : Int} {d : PyData} (hd : atI ds i = some d) (h : P (.dat d) M) : IOp X (.dat (.tuple ds)) (.dat (.int i)) M P :=
  IOp.of ix_tup fun v1 v2 G H Q s q1 q2 k => by
    obtain ⟨p, xs, rfl, e1, e2⟩ := q1.tuple
    obtain ⟨j, h1, h2⟩ := ixN_len e2.length hd
    obtain ⟨v, h3, h4⟩ := e2.get h2
    exact ⟨p, xs, i, v, rfl, q2.int, s.gh.seqT e1, atI_of h1 h3, k _ _ M G H s Fw.refl (svDat h4) h⟩
theorem paired_get {α β : Type} {F : α → β → Prop} : ∀ {l₁ : List α} {l₂ : List β} {i : Nat} {b : β}, Paired F l₁ l₂ → l₂[i]? = some b → ∃ a, l₁[i]? = some a ∧ F a b
  | _, _, i, _, .nil, h => by simp at h
  | _, _, 0, _, .cons h1 _, h => by
    simp at h
    subst h
    exact ⟨_, rfl, h1⟩
  | _, _, i + 1, b, .cons _ t, h => by
    obtain ⟨v, h1, h2⟩ := paired_get (i := i) (b := b) t (by simpa using h)
    exact ⟨v, by simpa using h1, h2⟩
theorem IOp.tupS {ds : List S0} {i : Int} {d : S0} (hd : atI ds i = some d) (h : P d.sd M) : IOp X (.tup ds) (.dat (.int i)) M P :=
  IOp.of ix_tup fun v1 v2 G H Q s q1 q2 k => by
    obtain ⟨p, xs, rfl, e1, e2⟩ := q1
    obtain ⟨j, h1, h2⟩ := ixN_len (Paired.length e2) hd
    obtain ⟨v, h3, h4⟩ := paired_get e2 h2
    exact ⟨p, xs, i, v, rfl, q2.int, s.gh.seqT e1, atI_of h1 h3, k _ _ M G H s Fw.refl h4.sd h⟩
theorem Sto.lstM {K : PySem.W.Frag} {G H : Hp} (s : Sto K M G H) {l : Addr} {xs : List S0} (h : M l = some (.lst xs)) : ∃ vs, H l = some (.lst vs) ∧ Paired (S0V K G) vs xs := by
  obtain ⟨o, h1, h2⟩ := s.mh l _ h
  cases o with
  | lst vs => exact ⟨vs, h1, h2⟩
  | _ => cases h2
theorem IOp.lstM {l : Addr} {xs : List S0} {i : Int} {d : S0} (hl : M l = some (.lst xs)) (hd : atI xs i = some d) (h : P d.sd M) : IOp X (.raw (.ref l)) (.dat (.int i)) M P :=
  IOp.of ix_list fun v1 v2 G H Q s q1 q2 k => by
    obtain ⟨vs, e1, e2⟩ := s.lstM hl
    obtain ⟨j, h1, h2⟩ := ixN_len (Paired.length e2) hd
    obtain ⟨v, h3, h4⟩ := paired_get e2 h2
    exact ⟨l, vs, i, v, q1, q2.int, .inl (.inl e1), atI_of h1 h3, k _ _ M G H s Fw.refl h4.sd h⟩
theorem IOp.str {z : Str} {i : Int} {c : Nat} (hz : z.length ≤ sizeLine) (hd : atI z.cps.toList i = some c) (h : P (.dat (.str ⟨#[c]⟩)) M) : IOp X (.dat (.str z)) (.dat (.int i)) M P :=
  IOp.of ix_str fun v1 v2 G H Q s q1 q2 k => ⟨z, i, c, q1.str, q2.int, hz, hd, k _ _ M G H s Fw.refl (svStr _) h⟩
theorem IOp.kd {p : Addr} {z : Str} {v : V} {r : Sd} (hk : KDct X.K X.w p z v) (hv : ∀ G, SdV X.K G v r) (h : P r M) : IOp X (.raw (.ref p)) (.dat (.str z)) M P :=
  IOp.of ix_kdict fun v1 v2 G H Q s q1 q2 k => ⟨p, z, v, q1, q2.str, hk, k _ _ M G H s Fw.refl (hv G) h⟩
/-- d[k] of a dict that may change -/
theorem Sto.dictM {K : PySem.W.Frag} {G H : Hp} (s : Sto K M G H) {l : Addr} {xs : List (Key × S0)} (h : M l = some (.dK xs)) : ∃ vs, H l = some (.dK vs) ∧ KsV K G vs xs := by
  obtain ⟨o, h1, h2⟩ := s.mh l _ h
  cases o with
  | dK vs => exact ⟨vs, h1, h2⟩
  | _ => cases h2
def kD : Key → PyData
  | .inl i => .int i
  | .inr x => .str x
theorem kD_v {K : PySem.W.Frag} {G : Hp} {v : V} {k : Key} (h : SdV K G v (.dat (kD k))) : v = kV k := by
  cases k with
  | inl i => exact h.int
  | inr x => exact h.str
/-- the value of the first entry at a key -/
def at0 (xs : List (Key × S0)) (k : Key) : Option S0 := (xs.find? fun kv => decide (kv.1 = k)).map (·.2)
theorem val_at0 {K : PySem.W.Frag} {G : Hp} {k : Key} : ∀ {vs : List (Key × V)} {xs : List (Key × S0)}, KsV K G vs xs → (valV vs k = none ∧ at0 xs k = none) ∨ ∃ v r, valV vs k = some v ∧ at0 xs k = some r ∧ S0V K G v r
  | _, _, .nil => .inl ⟨rfl, rfl⟩
  | _, _, .cons (a := p) (b := q) (l₁ := vs) (l₂ := xs) h t => by
    by_cases e : p.1 = k
    · refine .inr ⟨p.2, q.2, valV_pos e, ?_, h.2⟩
      unfold at0
      rw [List.find?_cons_of_pos (by simp [← h.1, e])]
      rfl
    · have e1 : valV (p :: vs) k = valV vs k := valV_neg e
      have e2 : at0 (q :: xs) k = at0 xs k := by
        unfold at0
        rw [List.find?_cons_of_neg (by simp [← h.1, e])]
      rw [e1, e2]
      exact val_at0 t
def DOp (X : Cx) (r1 r2 : Sd) (M : AM) (P : XP) : Prop := ∀ v1 v2 G H (Q : VK), Sto X.K M G H → SdV X.K G v1 r1 → SdV X.K G v2 r2 → KF X.K M G H P Q → ∃ a v, v1 = .ref a ∧ DGet H a v2 (some v) ∧ Q v H
theorem DOp.dk {d : Addr} {xs : List (Key × S0)} {k : Key} {r : S0} (hl : M d = some (.dK xs)) (hd : at0 xs k = some r) (h : P r.sd M) : DOp X (.raw (.ref d)) (.dat (kD k)) M P := fun v1 v2 G H Q s q1 q2 kf => by
  obtain ⟨vs, e1, e2⟩ := s.dictM hl
  rcases val_at0 (k := k) e2 with ⟨_, z⟩ | ⟨v, r', h1, h2, h3⟩
  · rw [z] at hd
    cases hd
  · rw [h2] at hd
    cases hd
    refine ⟨d, v, q1, ?_, kf _ _ M G H s Fw.refl h3.sd h⟩
    rw [kD_v q2, ← h1]
    exact DGet.k e1
theorem EvX.dix (hu : X.A.units + 1 < cLine) (h : EvX X a δ M fun r1 M1 => EvX X b δ M1 fun r2 M2 => DOp X r1 r2 M2 P) (hs : NoSl b := by exact fun _ _ => rfl) : EvX X (.Subscript a b pos) δ M P := fun σ G H Q s l k =>
  ofE (pe_dget hu pe_can pe_can hs) (h σ G H _ s l fun v1 r1 M1 G1 H1 s1 f1 sv1 h1 => h1 σ G1 H1 _ s1 (l.mono f1.g) fun v2 r2 M2 G2 H2 s2 f2 sv2 h2 => h2 v1 v2 G2 H2 Q s2 (sv1.mono f2.g) sv2 (KF.fw k (f1.trans f2)))
/-! ### slices -/
def PoX (X : Cx) (e : Option Expr) (δ : Sl) (M : AM) (P : Option Int → AM → Prop) : Prop := match e with
  | none => P none M
  | some e => EvX X e δ M fun r M1 => ∃ i, r = .dat (.int i) ∧ P (some i) M1
def canPo (X : Cx) (e : Option Expr) : TO := fun σ H Q => ∀ pins s, Inv X pins σ H s → wpAny (model X.prog X.w) X.A (evalPart e X.env) (fun u s' => ∃ o H', Inv X pins σ H' s' ∧ IsPart u o ∧ Q o H') X.xe s
theorem po_can {e : Option Expr} : PO X e (canPo X e) := ⟨fun pins s _ _ _ I h => h pins s I⟩
theorem PoX.use {e : Option Expr} {PI : Option Int → AM → Prop} (h : PoX X e δ M PI) {σ : L2.St} {G H : Hp} {Q : Option Int → Hp → Prop} (s : Sto X.K M G H) (l : Slt X.K δ σ G)
    (k : ∀ o M' G' H', Sto X.K M' G' H' → Fw M M' G H G' H' → PI o M' → Q o H') : canPo X e σ H Q := by
  cases e with
  | none => exact fun pins sh I => po_none.run pins sh σ H Q I (k none M G H s Fw.refl h)
  | some e => exact fun pins sh I => (po_some pe_can).run pins sh σ H Q I ((show EvX X e δ M _ from h) σ G H _ s l fun v r M1 G1 H1 s1 f1 sv1 h1 => by
      obtain ⟨i, rfl, h1⟩ := h1
      exact ⟨i, sv1.int, k _ M1 G1 H1 s1 f1 h1⟩)
def SOp (X : Cx) (r : Sd) (lo hi : Option Int) (M : AM) (P : XP) : Prop := ∀ v G H (Q : VK), Sto X.K M G H → SdV X.K G v r → KF X.K M G H P Q →
  ∀ (pins : List (Addr × Obj)) (s : Shared) (σ : L2.St) (u vl vu : Value) (sl : Addr), Inv X pins σ H s → RelV v u → s.heap.IsSliceOf sl vl vu .none → IsPart vl lo → IsPart vu hi →
    ∃ T id, typeLookup (.type T) "__getitem__" = pure (some (.builtin id)) ∧ s.TypeIs u T ∧ wpAny (model X.prog X.w) X.A (getItem u (.ref sl)) (EP X pins σ Q) X.xe s
def canSl (X : Cx) : V → Option Int → Option Int → Hp → VK → Prop := fun x lo hi H Q => ∀ (pins : List (Addr × Obj)) (s : Shared) (σ : L2.St) (u vl vu : Value) (sl : Addr), Inv X pins σ H s → RelV x u → s.heap.IsSliceOf sl vl vu .none → IsPart vl lo → IsPart vu hi →
    ∃ T id, typeLookup (.type T) "__getitem__" = pure (some (.builtin id)) ∧ s.TypeIs u T ∧ wpAny (model X.prog X.w) X.A (getItem u (.ref sl)) (EP X pins σ Q) X.xe s
theorem slR_can : SlR X (canSl X) := fun pins s σ H x v vl vu lo hi sl Q I rx hs pl pu h => h pins s σ v vl vu sl I rx hs pl pu
theorem SOp.of {r : Sd} {lo hi : Option Int} {rr : V → Option Int → Option Int → Hp → VK → Prop} (ho : SlR X rr) (h : ∀ v G H Q, Sto X.K M G H → SdV X.K G v r → KF X.K M G H P Q → rr v lo hi H Q) : SOp X r lo hi M P :=
  fun v G H Q st h1 k pins s σ u vl vu sl I rx hs pl pu => ho pins s σ H v u vl vu lo hi sl Q I rx hs pl pu (h v G H Q st h1 k)
theorem EvX.slice {lo hi : Option Expr} {p2 : Pos} (h : EvX X e δ M fun r M1 => PoX X lo δ M1 fun l M2 => PoX X hi δ M2 fun u M3 => SOp X r l u M3 P) : EvX X (.Subscript e (.Slice lo hi none p2) pos) δ M P := fun σ G H Q s l k =>
  ofE (pe_slice slR_can pe_can po_can po_can) (h σ G H _ s l fun v1 r1 M1 G1 H1 s1 f1 sv1 h1 => h1.use s1 (l.mono f1.g) fun lo' M2 G2 H2 s2 f2 h2 => h2.use s2 (l.mono (f1.trans f2).g) fun hi' M3 G3 H3 s3 f3 h3 =>
    h3 v1 G3 H3 Q s3 ((sv1.mono f2.g).mono f3.g) (KF.fw k ((f1.trans f2).trans f3)))
def cutD (xs : List PyData) (lo hi : Option Int) : List PyData := (xs.drop (HT.sIx xs.length 0 lo)).take (HT.sIx xs.length xs.length hi - HT.sIx xs.length 0 lo)
theorem DqAll.cut {K : PySem.W.Frag} {G : Hp} {vs : List V} {ds : List PyData} (h : DqAll K G vs ds) (lo hi : Option Int) : DqAll K G (cutV vs lo hi) (cutD ds lo hi) := by
  unfold cutV cutD
  rw [h.length]
  exact (h.drop _).take _
theorem SOp.lst {ds : List PyData} {lo hi : Option Int} (h : P (.dat (.list (cutD ds lo hi))) M) : SOp X (.dat (.list ds)) lo hi M P :=
  SOp.of sl_list fun v G H Q s q1 k => by
    obtain ⟨p, xs, rfl, e1, e2⟩ := q1.list
    refine ⟨p, xs, rfl, .inl (.inl (s.gh _ _ e1)), fun l hl => ?_⟩
    obtain ⟨s2, f2⟩ := s.lay hl (.lst (cutV xs lo hi))
    exact k _ _ M _ _ s2 f2 (svDat (Dq.lst upd_same (DqAll.mono f2.g _ _ (e2.cut lo hi)))) h
theorem SOp.tup {ds : List PyData} {lo hi : Option Int} (h : P (.dat (.tuple (cutD ds lo hi))) M) : SOp X (.dat (.tuple ds)) lo hi M P :=
  SOp.of sl_tupA fun v G H Q s q1 k => by
    obtain ⟨p, xs, rfl, e1, e2⟩ := q1.tuple
    refine ⟨p, xs, rfl, s.gh.seqT e1, fun z => ?_, fun _ l hl => ?_⟩
    · have e : cutV xs lo hi = xs := by
        unfold cutV
        rw [z.1, z.2, List.drop_zero, Nat.sub_zero, List.take_length]
      have c := e2.cut lo hi
      rw [e] at c
      exact k _ _ M G H s Fw.refl (svDat (Dq.tup e1 c)) h
    · obtain ⟨s2, f2⟩ := s.lay hl (.tup (cutV xs lo hi))
      exact k _ _ M _ _ s2 f2 (svDat (Dq.tup (.inl (.inl upd_same)) (DqAll.mono f2.g _ _ (e2.cut lo hi)))) h
theorem SOp.str {z : Str} {lo hi : Option Int} (hz : z.length ≤ sizeLine) (h : P (.dat (.str (cutS z lo hi))) M) : SOp X (.dat (.str z)) lo hi M P :=
  SOp.of sl_str fun v G H Q s q1 k => ⟨z, q1.str, hz, k _ _ M G H s Fw.refl (svStr _) h⟩
def cut0 (xs : List S0) (lo hi : Option Int) : List S0 := (xs.drop (HT.sIx xs.length 0 lo)).take (HT.sIx xs.length xs.length hi - HT.sIx xs.length 0 lo)
theorem paired_drop {α β : Type} {F : α → β → Prop} : ∀ {l₁ : List α} {l₂ : List β} (n : Nat), Paired F l₁ l₂ → Paired F (l₁.drop n) (l₂.drop n)
  | _, _, 0, h => h
  | _, _, _ + 1, .nil => .nil
  | _, _, n + 1, .cons _ t => paired_drop n t
theorem paired_take {α β : Type} {F : α → β → Prop} : ∀ {l₁ : List α} {l₂ : List β} (n : Nat), Paired F l₁ l₂ → Paired F (l₁.take n) (l₂.take n)
  | _, _, 0, _ => .nil
  | _, _, _ + 1, .nil => .nil
  | _, _, n + 1, .cons h t => .cons h (paired_take n t)
theorem paired_append {α β : Type} {F : α → β → Prop} : ∀ {l₁ m₁ : List α} {l₂ m₂ : List β}, Paired F l₁ l₂ → Paired F m₁ m₂ → Paired F (l₁ ++ m₁) (l₂ ++ m₂)
  | _, _, _, _, .nil, h => h
  | _, _, _, _, .cons a t, h => .cons a (paired_append t h)
theorem SOp.tupS {ds : List S0} {lo hi : Option Int} (h : P (.tup (cut0 ds lo hi)) M) : SOp X (.tup ds) lo hi M P :=
  SOp.of sl_tupA fun v G H Q s q1 k => by
    obtain ⟨p, xs, rfl, e1, e2⟩ := q1
    have c : Paired (S0V X.K G) (cutV xs lo hi) (cut0 ds lo hi) := by
      unfold cutV cut0
      rw [Paired.length e2]
      exact paired_take _ (paired_drop _ e2)
    refine ⟨p, xs, rfl, s.gh.seqT e1, fun z => ?_, fun _ l hl => ?_⟩
    · have e : cutV xs lo hi = xs := by
        unfold cutV
        rw [z.1, z.2, List.drop_zero, Nat.sub_zero, List.take_length]
      rw [e] at c
      exact k _ (.tup _) M G H s Fw.refl ⟨p, xs, rfl, e1, c⟩ h
    · obtain ⟨s2, f2⟩ := s.lay hl (.tup (cutV xs lo hi))
      exact k _ (.tup _) M _ _ s2 f2 ⟨l, _, rfl, .inl (.inl upd_same), Paired.mapP c fun _ _ z => S0V.mono f2.g z⟩ h
theorem EvX.rev {k0 : Nat} {p1 p2 p3 : Pos} (h : EvX X e δ M fun r M1 => ∃ ds, r = .dat (.list ds) ∧ P (.dat (.list ds.reverse)) M1) : EvX X (.Subscript e (.Slice none none (some (.UnaryOp .USub (.Constant (.int 1) k0 p1) p2)) p3) pos) δ M P := fun σ G H Q s l k =>
  ofE (pe_revL pe_can) (h σ G H _ s l fun v1 r1 M1 G1 H1 s1 f1 sv1 h1 => by
    obtain ⟨ds, rfl, h1⟩ := h1
    obtain ⟨p, xs, rfl, e1, e2⟩ := sv1.list
    refine ⟨p, xs, rfl, .inl (.inl (s1.gh _ _ e1)), fun q hq => ?_⟩
    obtain ⟨s2, f2⟩ := s1.lay hq (.lst xs.reverse)
    exact k _ _ M1 _ _ s2 (f1.trans f2) (svDat (Dq.lst upd_same (DqAll.mono f2.g _ _ e2.reverse))) h1)
theorem EvX.neg (h : EvX X e δ M fun r M1 => ∃ i, r = .dat (.int i) ∧ P (.dat (.int (-i))) M1) : EvX X (.UnaryOp .USub e pos) δ M P := fun σ G H Q s l k =>
  ofE (pe_un un_neg pe_can) (h σ G H _ s l fun v1 r1 M1 G1 H1 s1 f1 sv1 h1 => by
    obtain ⟨i, rfl, h1⟩ := h1
    exact ⟨i, sv1.int, k _ _ M1 G1 H1 s1 f1 (svInt _) h1⟩)
end
end Wr
end
section
set_option maxHeartbeats 4000000
namespace Wr
open PySem PySem.Spec PyProof.Rows L2
/-! ### calls of built-ins -/
section
variable {X : Cx} {e a b : Expr} {es : List Expr} {δ : Sl} {M : AM} {P : XP} {pos : Pos}
def COp (X : Cx) (f : Value) (rs : List Sd) (M : AM) (P : XP) : Prop := ∀ vs G H (Q : VK), Sto X.K M G H → Paired (SdV X.K G) vs rs → KF X.K M G H P Q →
  ∀ (pins : List (Addr × Obj)) (s : Shared) (σ : L2.St) (us : List Value), Inv X pins σ H s → Vals vs us → wpAny (model X.prog X.w) X.A (call f us) (EP X pins σ Q) X.xe s
def canC (X : Cx) (f : Value) : List V → Hp → VK → Prop := fun xs H Q => ∀ (pins : List (Addr × Obj)) (s : Shared) (σ : L2.St) (us : List Value), Inv X pins σ H s → Vals xs us → wpAny (model X.prog X.w) X.A (call f us) (EP X pins σ Q) X.xe s
theorem callR_can {f : Value} : CallR X f (canC X f) := fun pins s σ H xs us Q I r h => h pins s σ us I r
theorem COp.of {f : Value} {rs : List Sd} {r : List V → Hp → VK → Prop} (ho : CallR X f r) (h : ∀ vs G H Q, Sto X.K M G H → Paired (SdV X.K G) vs rs → KF X.K M G H P Q → r vs H Q) : COp X f rs M P :=
  fun vs G H Q st h1 k pins s σ us I q1 => ho pins s σ H vs us Q I q1 (h vs G H Q st h1 k)
theorem EvX.callB {x : Str} {p : Pos} {id : String} (h : AvX X (e :: es) δ M fun rs M1 => COp X (.builtin id) rs M1 P) (hg : Gl X x) (hm : X.mg x = none) (hv : bootBuiltins x = some (.builtin id)) (hn : x ≠ "__name__" := by decide) (hdb : (x == ("__debug__" : Str)) = false := by decide)
    (he : starEach (e :: es) X.env = (false, eval e X.env) :: starEach es X.env := by rfl) (hpl : (backTo pos (starEach es X.env)).any (·.1) = false := by rfl) : EvX X (.Call (.Name x p) (e :: es) [] pos) δ M P := fun σ G H Q s l k =>
  ofE (pe_callB callR_can hg hm hv pa_can hn hdb he hpl) (h σ G H _ s l fun vs rs M1 G1 H1 s1 f1 sv1 h1 => h1 vs G1 H1 Q s1 sv1 (KF.fw k f1))
theorem EvX.callTy {x : Str} {p : Pos} {T : String} (h : AvX X (e :: es) δ M fun rs M1 => COp X (.type T) rs M1 P) (hg : Gl X x) (hm : X.mg x = none) (hv : bootBuiltins x = some (.type T)) (hn : x ≠ "__name__" := by decide) (hdb : (x == ("__debug__" : Str)) = false := by decide)
    (he : starEach (e :: es) X.env = (false, eval e X.env) :: starEach es X.env := by rfl) (hpl : (backTo pos (starEach es X.env)).any (·.1) = false := by rfl) : EvX X (.Call (.Name x p) (e :: es) [] pos) δ M P := fun σ G H Q s l k =>
  ofE (pe_callTy callR_can hg hm hv pa_can hn hdb he hpl) (h σ G H _ s l fun vs rs M1 G1 H1 s1 f1 sv1 h1 => h1 vs G1 H1 Q s1 sv1 (KF.fw k f1))
theorem one_of {K : PySem.W.Frag} {G : Hp} {vs : List V} {r : Sd} (h : Paired (SdV K G) vs [r]) : ∃ v, vs = [v] ∧ SdV K G v r := by
  cases h with
  | cons h t =>
    cases t
    exact ⟨_, rfl, h⟩
theorem two_of {K : PySem.W.Frag} {G : Hp} {vs : List V} {r r' : Sd} (h : Paired (SdV K G) vs [r, r']) : ∃ v v', vs = [v, v'] ∧ SdV K G v r ∧ SdV K G v' r' := by
  cases h with
  | cons h t =>
    obtain ⟨v, rfl, q⟩ := one_of t
    exact ⟨_, _, rfl, h, q⟩
theorem COp.lenL {ds : List PyData} (h : P (.dat (.int ds.length)) M) : COp X (.builtin "len") [.dat (.list ds)] M P := COp.of call_len_seq fun vs G H Q s q0 k => by
  obtain ⟨v, rfl, q⟩ := one_of q0
  obtain ⟨p, xs, rfl, e1, e2⟩ := q.list
  exact ⟨p, xs, rfl, .inl (.inl (.inl (s.gh _ _ e1))), by rw [e2.length]; exact k _ _ M G H s Fw.refl (svInt _) h⟩
theorem COp.lenT {ds : List PyData} (h : P (.dat (.int ds.length)) M) : COp X (.builtin "len") [.dat (.tuple ds)] M P := COp.of call_len_seq fun vs G H Q s q0 k => by
  obtain ⟨v, rfl, q⟩ := one_of q0
  obtain ⟨p, xs, rfl, e1, e2⟩ := q.tuple
  exact ⟨p, xs, rfl, .inr (s.gh.seqT e1), by rw [e2.length]; exact k _ _ M G H s Fw.refl (svInt _) h⟩
theorem COp.lenTS {ds : List S0} (h : P (.dat (.int ds.length)) M) : COp X (.builtin "len") [.tup ds] M P := COp.of call_len_seq fun vs G H Q s q0 k => by
  obtain ⟨v, rfl, q⟩ := one_of q0
  obtain ⟨p, xs, rfl, e1, e2⟩ := q
  exact ⟨p, xs, rfl, .inr (s.gh.seqT e1), by rw [Paired.length e2]; exact k _ _ M G H s Fw.refl (svInt _) h⟩
theorem COp.lenM {l : Addr} {ds : List S0} (hl : M l = some (.lst ds)) (h : P (.dat (.int ds.length)) M) : COp X (.builtin "len") [.raw (.ref l)] M P := COp.of call_len_seq fun vs G H Q s q0 k => by
  obtain ⟨v, rfl, q⟩ := one_of q0
  obtain ⟨xs, e1, e2⟩ := s.lstM hl
  exact ⟨l, xs, by rw [show v = .ref l from q], .inl (.inl (.inl e1)), by rw [Paired.length e2]; exact k _ _ M G H s Fw.refl (svInt _) h⟩
/-- a list of the caller's own, known outside the store -/
theorem COp.lenK {l : Addr} {xs : List V} (hl : ∀ G H, Sto X.K M G H → SqL X.K H l xs) (h : P (.dat (.int xs.length)) M) : COp X (.builtin "len") [.raw (.ref l)] M P := COp.of call_len_seq fun vs G H Q s q0 k => by
  obtain ⟨v, rfl, q⟩ := one_of q0
  exact ⟨l, xs, by rw [show v = .ref l from q], .inl (hl G H s), k _ _ M G H s Fw.refl (svInt _) h⟩
theorem COp.lenS {z : Str} (hz : z.length ≤ sizeLine) (h : P (.dat (.int z.length)) M) : COp X (.builtin "len") [.dat (.str z)] M P := COp.of call_len_str fun vs G H Q s q0 k => by
  obtain ⟨v, rfl, q⟩ := one_of q0
  exact ⟨z, by rw [q.str], hz, k _ _ M G H s Fw.refl (svInt _) h⟩
theorem COp.abs {i : Int} (h : P (.dat (.int (if i < 0 then -i else i))) M) : COp X (.builtin "abs") [.dat (.int i)] M P := COp.of call_abs fun vs G H Q s q0 k => by
  obtain ⟨v, rfl, q⟩ := one_of q0
  exact ⟨i, by rw [q.int], k _ _ M G H s Fw.refl (svInt _) h⟩
theorem COp.intB {i : Bool} (h : P (.dat (.int (if i then 1 else 0))) M) : COp X (.type "int") [.dat (.bool i)] M P := COp.of call_int1 fun vs G H Q s q0 k => by
  obtain ⟨v, rfl, q⟩ := one_of q0
  exact .inr ⟨i, by rw [q.bool], k _ _ M G H s Fw.refl (svInt _) h⟩
theorem COp.max2 {i j : Int} (hc : X.calm = true) (h : P (.dat (.int (if j > i then j else i))) M) : COp X (.builtin "max") [.dat (.int i), .dat (.int j)] M P := COp.of (call_max2 hc) fun vs G H Q s q0 k => by
  obtain ⟨v, v', rfl, q, q'⟩ := two_of q0
  exact ⟨i, j, by rw [q.int, q'.int], k _ _ M G H s Fw.refl (svInt _) h⟩
theorem COp.min2 {i j : Int} (hc : X.calm = true) (h : P (.dat (.int (if j < i then j else i))) M) : COp X (.builtin "min") [.dat (.int i), .dat (.int j)] M P := COp.of (call_min2 hc) fun vs G H Q s q0 k => by
  obtain ⟨v, v', rfl, q, q'⟩ := two_of q0
  exact ⟨i, j, by rw [q.int, q'.int], k _ _ M G H s Fw.refl (svInt _) h⟩
theorem COp.all {bs : List Bool} (hc : X.calm = true) (h : P (.dat (.bool (bs.all id))) M) : COp X (.builtin "all") [.dat (.list (bs.map .bool))] M P := COp.of (cr_all hc) fun vs G H Q s q0 k => by
  obtain ⟨v, rfl, q⟩ := one_of q0
  obtain ⟨p, xs, rfl, e1, e2⟩ := q.list
  have e3 := e2.bls
  subst e3
  exact ⟨p, bs, rfl, .inl (.inl (s.gh _ _ e1)), k _ _ M G H s Fw.refl (svBl _) h⟩
theorem COp.sorted {ns : List Int} (hz : ns.length < 64) (h : ∀ ms : List Int, ms.Perm ns → ms.Pairwise (· ≤ ·) → P (.dat (.list (ms.map .int))) M) : COp X (.builtin "sorted") [.dat (.list (ns.map .int))] M P := COp.of cr_sorted fun vs G H Q s q0 k => by
  obtain ⟨v, rfl, q⟩ := one_of q0
  obtain ⟨p, xs, rfl, e1, e2⟩ := q.list
  have e3 := e2.ints
  subst e3
  refine ⟨p, ns, rfl, .inl (.inl (s.gh _ _ e1)), hz, fun ms l hp hs hl => ?_⟩
  obtain ⟨s2, f2⟩ := s.lay hl (.lst (ms.map V.int))
  exact k _ _ M _ _ s2 f2 (svDat (Dq.lst upd_same (dqInts ms))) (h ms hp hs)
theorem COp.listL {ds : List PyData} (h : P (.dat (.list ds)) M) : COp X (.type "list") [.dat (.list ds)] M P := COp.of call_list_of fun vs G H Q s q0 k => by
  obtain ⟨v, rfl, q⟩ := one_of q0
  obtain ⟨p, xs, rfl, e1, e2⟩ := q.list
  refine ⟨p, xs, rfl, .inl (.inl (.inl (s.gh _ _ e1))), fun l hl => ?_⟩
  obtain ⟨s2, f2⟩ := s.lay hl (.lst xs)
  exact k _ _ M _ _ s2 f2 (svDat (Dq.lst upd_same (DqAll.mono f2.g _ _ e2))) h
theorem COp.listLM {ds : List PyData} (h : ∀ p, M p = none → P (.raw (.ref p)) (setM M p (.lst (ds.map .dat)))) : COp X (.type "list") [.dat (.list ds)] M P := COp.of call_list_of fun vs G H Q s q0 k => by
  obtain ⟨v, rfl, q⟩ := one_of q0
  obtain ⟨p, xs, rfl, e1, e2⟩ := q.list
  refine ⟨p, xs, rfl, .inl (.inl (.inl (s.gh _ _ e1))), fun l hl => ?_⟩
  obtain ⟨s2, f2⟩ := s.layM (o := .lst xs) (m := .lst (ds.map .dat)) hl (dats_paired e2)
  exact k _ _ _ _ _ s2 f2 (svRaw _) (h l (s.fresh hl).2)
theorem COp.listMo {l0 : Addr} {ds : List PyData} (hm : M l0 = some (.lst (ds.map .dat))) (h : P (.dat (.list ds)) M) : COp X (.type "list") [.raw (.ref l0)] M P := COp.of call_list_of fun vs G H Q s q0 k => by
  obtain ⟨v, rfl, q⟩ := one_of q0
  obtain ⟨xs, e1, e2⟩ := s.lstM hm
  refine ⟨l0, xs, by rw [show v = .ref l0 from q], .inl (.inl (.inl e1)), fun l hl => ?_⟩
  obtain ⟨s2, f2⟩ := s.lay hl (.lst xs)
  exact k _ _ M _ _ s2 f2 (svDat (Dq.lst upd_same (DqAll.mono f2.g _ _ (paired_dats e2)))) h
theorem COp.listT {ds : List PyData} (h : P (.dat (.list ds)) M) : COp X (.type "list") [.dat (.tuple ds)] M P := COp.of call_list_of fun vs G H Q s q0 k => by
  obtain ⟨v, rfl, q⟩ := one_of q0
  obtain ⟨p, xs, rfl, e1, e2⟩ := q.tuple
  refine ⟨p, xs, rfl, .inr (s.gh.seqT e1), fun l hl => ?_⟩
  obtain ⟨s2, f2⟩ := s.lay hl (.lst xs)
  exact k _ _ M _ _ s2 f2 (svDat (Dq.lst upd_same (DqAll.mono f2.g _ _ e2))) h
theorem ks_keys {K : PySem.W.Frag} {G : Hp} : ∀ {vs : List (Key × V)} {xs : List (Key × S0)}, KsV K G vs xs → DqAll K G (vs.map fun kv => kV kv.1) (xs.map fun kv => kD kv.1)
  | _, _, .nil => .nil
  | _, _, .cons (a := p) (b := q) h t => by
    refine .cons ?_ (ks_keys t)
    show Dq K G (kV p.1) (kD q.1)
    rw [h.1]
    cases q.1 with
    | inl i => exact .int i
    | inr x => exact .str x
theorem COp.listD {d : Addr} {xs : List (Key × S0)} (hc : X.calm = true) (hm : M d = some (.dK xs)) (h : P (.dat (.list (xs.map fun kv => kD kv.1))) M) : COp X (.type "list") [.raw (.ref d)] M P := COp.of (call_list_dK hc) fun vs G H Q s q0 k => by
  obtain ⟨v, rfl, q⟩ := one_of q0
  obtain ⟨us, e1, e2⟩ := s.dictM hm
  refine ⟨d, us, by rw [show v = .ref d from q], e1, fun l hl => ?_⟩
  obtain ⟨s2, f2⟩ := s.lay hl (.lst (us.map fun kv => kV kv.1))
  exact k _ _ M _ _ s2 f2 (svDat (Dq.lst upd_same (DqAll.mono f2.g _ _ (ks_keys e2)))) h
theorem COp.tupL {ds : List PyData} (h : P (.dat (.tuple ds)) M) : COp X (.type "tuple") [.dat (.list ds)] M P := COp.of call_tuple_of fun vs G H Q s q0 k => by
  obtain ⟨v, rfl, q⟩ := one_of q0
  obtain ⟨p, xs, rfl, e1, e2⟩ := q.list
  refine ⟨p, xs, rfl, .inl ⟨.inl (.inl (s.gh _ _ e1)), fun l hl => ?_⟩⟩
  obtain ⟨s2, f2⟩ := s.lay hl (.tup xs)
  exact k _ _ M _ _ s2 f2 (svDat (Dq.tup (.inl (.inl upd_same)) (DqAll.mono f2.g _ _ e2))) h
/-! isinstance -/
def tyD : PyData → String
  | .none => "NoneType"
  | .bool _ => "bool"
  | .int _ => "int"
  | .str _ => "str"
  | .list _ => "list"
  | .tuple _ => "tuple"
  | .dict _ => "dict"
theorem tyx_of {K : PySem.W.Frag} {G H : Hp} (g : Ex G H) {v : V} {d : PyData} (h : Dq K G v d) : TyX K H v (.type (tyD d)) := by
  cases h with
  | non => exact .base .non
  | bl b => exact .base (.bl b)
  | int i => exact .base (.int i)
  | str x => exact .base (.str x)
  | lst h1 _ => exact .base (.lst (g _ _ h1))
  | tup h1 _ =>
    rcases h1 with (h1 | ⟨o, h1⟩) | ⟨o, its, n, h1, h2, _⟩
    · exact .base (.tup (g _ _ h1))
    · exact .fTuple (g _ _ h1)
    · exact .kTuple h1 h2
theorem COp.isi {d : PyData} {T : String} {r : Bool} (hb : kitB (tyD d) T = some r) (h : P (.dat (.bool r)) M) : COp X (.builtin "isinstance") [.dat d, .raw (.ty T)] M P := COp.of call_isi fun vs G H Q s q0 k => by
  obtain ⟨v, v', rfl, q, q'⟩ := two_of q0
  exact ⟨v, v', .type (tyD d), .type T, r, rfl, by rw [show v' = .ty T from q']; exact .ty T, tyx_of s.gh q, kit_ty hb, k _ _ M G H s Fw.refl (svBl _) h⟩
theorem COp.isiTS {ds : List S0} (h : P (.dat (.bool true)) M) : COp X (.builtin "isinstance") [.tup ds, .raw (.ty "tuple")] M P := COp.of call_isi fun vs G H Q s q0 k => by
  obtain ⟨v, v', rfl, q, q'⟩ := two_of q0
  obtain ⟨p, xs, rfl, h1, _⟩ := q
  have t : TyX X.K H (.ref p) (.type "tuple") := by
    rcases h1 with (h1 | ⟨o, h1⟩) | ⟨o, its, n, h1, h2, _⟩
    · exact .base (.tup (s.gh _ _ h1))
    · exact .fTuple (s.gh _ _ h1)
    · exact .kTuple h1 h2
  exact ⟨_, v', .type "tuple", .type "tuple", true, rfl, by rw [show v' = .ty "tuple" from q']; exact .ty _, t, kit_ty (by decide +kernel), k _ _ M G H s Fw.refl (svBl _) h⟩
theorem kit_int : ∀ d : PyData, kitB (tyD d) "int" = some (match d with
  | .int _ => true
  | .bool _ => true
  | _ => false)
  | .none => (by decide +kernel : kitB "NoneType" "int" = some false)
  | .bool _ => (by decide +kernel : kitB "bool" "int" = some true)
  | .int _ => (by decide +kernel : kitB "int" "int" = some true)
  | .str _ => (by decide +kernel : kitB "str" "int" = some false)
  | .list _ => (by decide +kernel : kitB "list" "int" = some false)
  | .tuple _ => (by decide +kernel : kitB "tuple" "int" = some false)
  | .dict _ => (by decide +kernel : kitB "dict" "int" = some false)
theorem kit_bool : ∀ d : PyData, kitB (tyD d) "bool" = some (match d with
  | .bool _ => true
  | _ => false)
  | .none => (by decide +kernel : kitB "NoneType" "bool" = some false)
  | .bool _ => (by decide +kernel : kitB "bool" "bool" = some true)
  | .int _ => (by decide +kernel : kitB "int" "bool" = some false)
  | .str _ => (by decide +kernel : kitB "str" "bool" = some false)
  | .list _ => (by decide +kernel : kitB "list" "bool" = some false)
  | .tuple _ => (by decide +kernel : kitB "tuple" "bool" = some false)
  | .dict _ => (by decide +kernel : kitB "dict" "bool" = some false)
theorem kit_str : ∀ d : PyData, kitB (tyD d) "str" = some (match d with
  | .str _ => true
  | _ => false)
  | .none => (by decide +kernel : kitB "NoneType" "str" = some false)
  | .bool _ => (by decide +kernel : kitB "bool" "str" = some false)
  | .int _ => (by decide +kernel : kitB "int" "str" = some false)
  | .str _ => (by decide +kernel : kitB "str" "str" = some true)
  | .list _ => (by decide +kernel : kitB "list" "str" = some false)
  | .tuple _ => (by decide +kernel : kitB "tuple" "str" = some false)
  | .dict _ => (by decide +kernel : kitB "dict" "str" = some false)
theorem kit_list : ∀ d : PyData, kitB (tyD d) "list" = some (match d with
  | .list _ => true
  | _ => false)
  | .none => (by decide +kernel : kitB "NoneType" "list" = some false)
  | .bool _ => (by decide +kernel : kitB "bool" "list" = some false)
  | .int _ => (by decide +kernel : kitB "int" "list" = some false)
  | .str _ => (by decide +kernel : kitB "str" "list" = some false)
  | .list _ => (by decide +kernel : kitB "list" "list" = some true)
  | .tuple _ => (by decide +kernel : kitB "tuple" "list" = some false)
  | .dict _ => (by decide +kernel : kitB "dict" "list" = some false)
theorem kit_tuple : ∀ d : PyData, kitB (tyD d) "tuple" = some (match d with
  | .tuple _ => true
  | _ => false)
  | .none => (by decide +kernel : kitB "NoneType" "tuple" = some false)
  | .bool _ => (by decide +kernel : kitB "bool" "tuple" = some false)
  | .int _ => (by decide +kernel : kitB "int" "tuple" = some false)
  | .str _ => (by decide +kernel : kitB "str" "tuple" = some false)
  | .list _ => (by decide +kernel : kitB "list" "tuple" = some false)
  | .tuple _ => (by decide +kernel : kitB "tuple" "tuple" = some true)
  | .dict _ => (by decide +kernel : kitB "dict" "tuple" = some false)
end
/-! ### own defs -/
abbrev ASp := List Sd → AM → XP → Prop
def conc (K : PySem.W.Frag) (a : ASp) : Sp := fun vs H Q _ => ∃ rs M G P, Sto K M G H ∧ Paired (SdV K G) vs rs ∧ a rs M P ∧ KF K M G H P Q
/-- the def of the module's name x keeps the promise a -/
structure Df (P : Program) (w : World) (K : PySem.W.Frag) (mg : Str → Option Value) (base : Heap) (k : Nat) (x : Str) (ps : List Str) (a : ASp) : Prop where
  ex : ∃ (f : Addr) (fd : FuncData), FnOk P w K mg base CX0 k f fd ps (conc K a) ∧ mg x = some (.ref f) ∧ PySem.W.keepIn K (.ref f) = true ∧ Binds K fd ps []
def startD (N : List Str) (rs : List Sd) : Sl := rs.map some ++ List.replicate (N.length - rs.length) none
theorem slt_start {K : PySem.W.Frag} {G : Hp} {N : List Str} {vs : List V} {rs : List Sd} (h : Paired (SdV K G) vs rs) : Slt K (startD N rs) (L2.start N vs) G := by
  have hl := Paired.length h
  unfold startD L2.start
  refine ⟨by simp [hl], fun i r e => ?_⟩
  by_cases hi : i < rs.length
  · rw [List.getElem?_append_left (by simpa using hi)] at e
    rw [List.getElem?_map] at e
    cases q : rs[i]? with
    | none =>
      rw [q] at e
      cases e
    | some r' =>
      rw [q] at e
      have e' : r' = r := by simpa using e
      subst e'
      obtain ⟨v, h1, h2⟩ := paired_get h q
      refine ⟨v, ?_, h2⟩
      rw [List.getElem?_append_left (by rw [List.length_map, hl]; exact hi), List.getElem?_map, h1]
      rfl
  · rw [List.getElem?_append_right (by simpa using hi)] at e
    rw [List.getElem?_replicate] at e
    split at e <;> simp at e
abbrev bX (P : Program) (w : World) (K : PySem.W.Frag) (mg : Str → Option Value) (base : Heap) (N : List Str) (qual : Str) (st : Stmt) (f : Addr) (cdv : Value) (A : Around) (outer : List Env) (s : Shared) (H : Hp) (E : XK) : Cx :=
  (cxOf CX0 P w K mg base N qual (defScope st) f cdv A outer s H E).nox
abbrev FnS (K : PySem.W.Frag) (x qual : Str) (st : Stmt) (f : Addr) (fd : FuncData) : Prop := FunD K x qual (defArgs st) (defBody st) (defScope st) [] [] f fd
section
variable {P : Program} {w : World} {K : PySem.W.Frag} {mg : Str → Option Value} {base : Heap}
/-- THE RULE: a def by its body -/
theorem fnok_of {x qual : Str} {st : Stmt} {N ps : List Str} {k : Nat} {a : ASp} {f : Addr} {fd : FuncData} {dvs : List V} {kws : List (Str × V)} (F : FunD K x qual (defArgs st) (defBody st) (defScope st) dvs kws f fd) (S : FnScope N ps (defScope st)) (len : ∀ rs M P, a rs M P → rs.length = ps.length)
    (body : ∀ (cdv : Value) (A : Around) (outer : List Env) (s : Shared) (H : Hp) (E : XK), Room k (A.deeper (envOfC qual (defScope st) s.heap.objs.size f cdv)) → ∀ rs M PP, a rs M PP →
      BvX (bX P w K mg base N qual st f cdv A outer s H E) (defBody st) (startD N rs) M (fun _ M' => PP (.dat .none) M') PP) : FnOk P w K mg base CX0 (k + 1) f fd ps (conc K a) := by
  refine F.ok S (fun vs H Q E h => ?_) (fun cdv A outer s H vs Q E hr h => ?_)
  · obtain ⟨rs, M, G, PP, _, h1, h2, _⟩ := h
    rw [Paired.length h1]
    exact len _ _ _ h2
  · obtain ⟨rs, M, G, PP, s0, h1, h2, h3⟩ := h
    refine ⟨canB (bX P w K mg base N qual st f cdv A outer s H E) (defBody st), PSs.nox pss_can, ?_⟩
    exact body cdv A outer s H E hr rs M PP h2 (L2.start N vs) G H _ s0 (slt_start h1) ⟨fun δ' M' σ' G' H' s' l' f' n => h3 .non _ M' G' H' s' f' svNon n, fun v r M' G' H' s' f' sv n => h3 v r M' G' H' s' f' sv n⟩
theorem df_of {x : Str} {st : Stmt} {N ps : List Str} {k : Nat} {a : ASp} (F : ∃ f fd, FnS K x x st f fd ∧ mg x = some (.ref f) ∧ Binds K fd ps []) (S : FnScope N ps (defScope st)) (len : ∀ rs M P, a rs M P → rs.length = ps.length)
    (body : ∀ (f : Addr) (cdv : Value) (A : Around) (outer : List Env) (s : Shared) (H : Hp) (E : XK), Room k (A.deeper (envOfC x (defScope st) s.heap.objs.size f cdv)) → ∀ rs M PP, a rs M PP →
      BvX (bX P w K mg base N x st f cdv A outer s H E) (defBody st) (startD N rs) M (fun _ M' => PP (.dat .none) M') PP) : Df P w K mg base (k + 1) x ps a := by
  obtain ⟨f, fd, F, g, b⟩ := F
  exact ⟨f, fd, fnok_of F S len (body f), g, F.kp, b⟩
end
section
variable {X : Cx} {e a b : Expr} {es : List Expr} {δ : Sl} {M : AM} {P : XP} {pos : Pos}
theorem EvX.call {x : Str} {p : Pos} {k : Nat} {ps : List Str} {a : ASp} (D : Df X.prog X.w X.K X.mg X.base k x ps a) (hr : Room k X.A) (h : AvX X (e :: es) δ M fun rs M1 => a rs M1 P) (hg : Gl X x := by rfl) (hdb : (x == ("__debug__" : Str)) = false := by decide)
    (he : starEach (e :: es) X.env = (false, eval e X.env) :: starEach es X.env := by rfl) (hpl : (backTo pos (starEach es X.env)).any (·.1) = false := by rfl) : EvX X (.Call (.Name x p) (e :: es) [] pos) δ M P := fun σ G H Q s l k => by
  obtain ⟨f, fd, F, g, kp, bd⟩ := D.ex
  refine ofE (pe_call F hr hg g kp bd .nil pass0 pa_can hdb he hpl) (h σ G H _ s l fun vs rs M1 G1 H1 s1 f1 sv1 h1 => ?_)
  rw [List.append_nil]
  exact ⟨rs, M1, G1, P, s1, sv1, h1, KF.fw k f1⟩
theorem EvX.call0 {x : Str} {p : Pos} {k : Nat} {ps : List Str} {a : ASp} (D : Df X.prog X.w X.K X.mg X.base k x ps a) (hr : Room k X.A) (h : a [] M P) (hg : Gl X x := by rfl) (hdb : (x == ("__debug__" : Str)) = false := by decide) : EvX X (.Call (.Name x p) [] [] pos) δ M P := fun σ G H Q s l k => by
  obtain ⟨f, fd, F, g, kp, bd⟩ := D.ex
  refine ofE (pe_call0 F hr hg g kp bd .nil pass0 hdb) ?_
  exact ⟨[], M, G, P, s, .nil, h, k⟩
/-! ### methods of lists -/
def MOp (X : Cx) (id : String) (r : Sd) (rs : List Sd) (M : AM) (P : XP) : Prop := ∀ v vs G H (Q : VK), Sto X.K M G H → SdV X.K G v r → Paired (SdV X.K G) vs rs → KF X.K M G H P Q →
  ∀ (pins : List (Addr × Obj)) (s : Shared) (σ : L2.St) (u : Value) (us : List Value), Inv X pins σ H s → RelV v u → Vals vs us → wpAny (model X.prog X.w) X.A (call (.builtin id) (u :: us)) (EP X pins σ Q) X.xe s
def canM (X : Cx) (id : String) : V → List V → Hp → VK → Prop := fun x xs H Q => ∀ (pins : List (Addr × Obj)) (s : Shared) (σ : L2.St) (u : Value) (us : List Value), Inv X pins σ H s → RelV x u → Vals xs us → wpAny (model X.prog X.w) X.A (call (.builtin id) (u :: us)) (EP X pins σ Q) X.xe s
theorem mtR_can {id : String} : MtR X id (canM X id) := fun pins s σ H x xs v us Q I r1 r2 h => h pins s σ v us I r1 r2
theorem MOp.of {id : String} {r : Sd} {rs : List Sd} {rr : V → List V → Hp → VK → Prop} (ho : MtR X id rr) (h : ∀ v vs G H Q, Sto X.K M G H → SdV X.K G v r → Paired (SdV X.K G) vs rs → KF X.K M G H P Q → rr v vs H Q) : MOp X id r rs M P :=
  fun v vs G H Q st h1 h2 k pins s σ u us I q1 q2 => ho pins s σ H v vs u us Q I q1 q2 (h v vs G H Q st h1 h2 k)
def isMList (M : AM) (r : Sd) : Prop := ∃ l xs, r = .raw (.ref l) ∧ M l = some (.lst xs)
variable {o : Expr} {name : Str} {apos cpos : Pos} {id : String}
theorem EvX.lm (slot : Slot "list" name id) (hty : typeOf (.builtin id) = pure (.type "method_descriptor")) (h : EvX X o δ M fun r M1 => isMList M1 r ∧ AvX X (e :: es) δ M1 fun rs M2 => MOp X id r rs M2 P)
    (hbase : attributeBase o name X.env (eval o X.env) = eval o X.env := by rfl)
    (hfew : ((backTo cpos (starEach (e :: es) X.env)).all (fun x => !x.1) && (backToKw cpos (keywordEach [] X.env)).all (fun x => x.1.isSome)
      && decide ((e :: es).length + ([] : List Keyword).length + (if ([] : List Keyword).isEmpty then 0 else 1) < 30)) = true := by rfl)
    (hline : (apos.endLine == cpos.line) = true := by rfl) (hs : starEach (e :: es) X.env = (false, eval e X.env) :: starEach es X.env := by rfl) (hplain : (backTo cpos (starEach es X.env)).any (·.1) = false := by rfl) :
    EvX X (.Call (.Attribute o name apos) (e :: es) [] cpos) δ M P := fun σ G H Q s l k =>
  ofE (pe_bm PySem.F.plainAttrs_list slot hty mtR_can pe_can pa_can hbase hfew hline hs hplain) (h σ G H _ s l fun v r M1 G1 H1 s1 f1 sv1 h1 => by
    obtain ⟨⟨a, xs, rfl, hl⟩, h1⟩ := h1
    obtain ⟨ys, e1, e2⟩ := s1.lstM hl
    refine ⟨by rw [show v = .ref a from sv1]; exact .inl ⟨rfl, _, .inl (.inl e1)⟩, h1 σ G1 H1 _ s1 (l.mono f1.g) fun vs rs M2 G2 H2 s2 f2 sv2 h2 => h2 v vs G2 H2 Q s2 sv1 sv2 (KF.fw k (f1.trans f2))⟩)
theorem EvX.lm0 (slot : Slot "list" name id) (hty : typeOf (.builtin id) = pure (.type "method_descriptor")) (h : EvX X o δ M fun r M1 => isMList M1 r ∧ MOp X id r [] M1 P)
    (hbase : attributeBase o name X.env (eval o X.env) = eval o X.env := by rfl)
    (hline : (apos.endLine == cpos.line) = true := by rfl) :
    EvX X (.Call (.Attribute o name apos) [] [] cpos) δ M P := fun σ G H Q s l k =>
  ofE (pe_bm0 PySem.F.plainAttrs_list slot hty mtR_can pe_can hbase (hline := hline)) (h σ G H _ s l fun v r M1 G1 H1 s1 f1 sv1 h1 => by
    obtain ⟨⟨a, xs, rfl, hl⟩, h1⟩ := h1
    obtain ⟨ys, e1, e2⟩ := s1.lstM hl
    exact ⟨by rw [show v = .ref a from sv1]; exact .inl ⟨rfl, _, .inl (.inl e1)⟩, h1 v [] G1 H1 Q s1 sv1 .nil (KF.fw k f1)⟩)
theorem s0_of {K : PySem.W.Frag} {G : Hp} {v : V} {r : S0} (h : SdV K G v r.sd) : S0V K G v r := by
  cases r with
  | dat d => exact h
  | raw w => exact h
theorem MOp.append {l : Addr} {xs : List S0} {r : S0} (hl : M l = some (.lst xs)) (hz : xs.length < sizeLine) (h : P (.dat .none) (setM M l (.lst (xs ++ [r])))) : MOp X "list.append" (.raw (.ref l)) [r.sd] M P :=
  MOp.of mt_append fun v vs G H Q s q1 q2 k => by
    obtain ⟨w', rfl, q3⟩ := one_of q2
    obtain ⟨ys, e1, e2⟩ := s.lstM hl
    have e3 : Paired (S0V X.K G) (ys ++ [w']) (xs ++ [r]) := paired_append e2 (.cons (s0_of q3) .nil)
    obtain ⟨s2, f2⟩ := s.put (o := .lst (ys ++ [w'])) (m := .lst (xs ++ [r])) hl e3
    exact ⟨l, ys, w', q1, rfl, e1, by rw [Paired.length e2]; exact hz, k _ _ _ _ _ s2 f2 svNon h⟩
theorem paired_erase {α β : Type} {F : α → β → Prop} : ∀ {l₁ : List α} {l₂ : List β} (n : Nat), Paired F l₁ l₂ → Paired F (l₁.eraseIdx n) (l₂.eraseIdx n)
  | _, _, _, .nil => .nil
  | _, _, 0, .cons _ t => t
  | _, _, n + 1, .cons h t => .cons h (paired_erase n t)
theorem MOp.popAt {l : Addr} {xs : List S0} {i : Int} {j : Nat} {r : S0} (hl : M l = some (.lst xs)) (h0 : -(2 ^ 63) ≤ i) (h1 : i < 2 ^ 63) (hj : seqIndex? i xs.length = some j) (hr : xs[j]? = some r) (h : P r.sd (setM M l (.lst (xs.eraseIdx j)))) :
    MOp X "list.pop" (.raw (.ref l)) [.dat (.int i)] M P :=
  MOp.of mt_popAt fun v vs G H Q s q1 q2 k => by
    obtain ⟨w', rfl, q3⟩ := one_of q2
    obtain ⟨ys, e1, e2⟩ := s.lstM hl
    obtain ⟨y, h2, h3⟩ := paired_get e2 hr
    obtain ⟨s2, f2⟩ := s.put (o := .lst (ys.eraseIdx j)) (m := .lst (xs.eraseIdx j)) hl (paired_erase j e2)
    exact ⟨l, ys, i, j, y, q1, by rw [q3.int], e1, h0, h1, by rw [Paired.length e2]; exact hj, h2, k _ _ _ _ _ s2 f2 h3.sd h⟩
theorem paired_dropLast {α β : Type} {F : α → β → Prop} {l₁ : List α} {l₂ : List β} (h : Paired F l₁ l₂) : Paired F l₁.dropLast l₂.dropLast := by
  rw [List.dropLast_eq_take, List.dropLast_eq_take, Paired.length h]
  exact paired_take _ h
theorem MOp.pop {l : Addr} {xs : List S0} {r : S0} (hl : M l = some (.lst xs)) (hr : xs[xs.length - 1]? = some r) (h : P r.sd (setM M l (.lst xs.dropLast))) : MOp X "list.pop" (.raw (.ref l)) [] M P :=
  MOp.of mt_pop fun v vs G H Q s q1 q2 k => by
    cases q2
    obtain ⟨ys, e1, e2⟩ := s.lstM hl
    obtain ⟨y, h2, h3⟩ := paired_get e2 hr
    obtain ⟨s2, f2⟩ := s.put (o := .lst ys.dropLast) (m := .lst xs.dropLast) hl (paired_dropLast e2)
    exact ⟨l, ys, y, q1, rfl, e1, by rw [Paired.length e2]; exact h2, k _ _ _ _ _ s2 f2 h3.sd h⟩
/-! ### xs[i] = e, d[k] = e -/
theorem paired_set {α β : Type} {F : α → β → Prop} {a : α} {b : β} (h : F a b) : ∀ {l₁ : List α} {l₂ : List β} (n : Nat), Paired F l₁ l₂ → Paired F (l₁.set n a) (l₂.set n b)
  | _, _, _, .nil => .nil
  | _, _, 0, .cons _ t => .cons h t
  | _, _, n + 1, .cons q t => .cons q (paired_set h n t)
variable {N : Sl → AM → Prop} {R : XP}
def canSet (X : Cx) : V → V → V → Hp → (Hp → Prop) → Prop := rSetL
theorem SvX.setIx {i : Expr} {tpos : Pos} (h : EvX X e δ M fun r M1 => EvX X o δ M1 fun ro M2 => EvX X i δ M2 fun ri M3 => ∃ l xs j q s0, ro = .raw (.ref l) ∧ M3 l = some (.lst xs) ∧ ri = .dat (.int j) ∧ ixN xs.length j = some q ∧ r = S0.sd s0 ∧ N δ (setM M3 l (.lst (xs.set q s0))))
    (ha : ∀ v, assign (.Subscript o i tpos) X.env v = (do
      let ov ← holding [v] (eval o X.env)
      let iv ← holding [v, ov] (eval i X.env)
      standAt tpos
      holding [v, ov, iv] (setItem ov iv v)
      release [v, ov, iv] []) := by intro _; rfl) (hs : swapsWithSole [.Subscript o i tpos] e pos.line X.env = pure false := by rfl) (hw : swappedStores [.Subscript o i tpos] e X.env = pure none := by rfl) : SvX X (.Assign [.Subscript o i tpos] e pos) δ M N R := fun σ G H D s l k =>
  ofS (ps_asg pe_can (pg_sub pe_can pe_can set_list ha) hs hw) (h σ G H _ s l fun v1 r1 M1 G1 H1 s1 f1 sv1 h1 => h1 σ G1 H1 _ s1 (l.mono f1.g) fun v2 r2 M2 G2 H2 s2 f2 sv2 h2 => h2 σ G2 H2 _ s2 (l.mono (f1.trans f2).g) fun v3 r3 M3 G3 H3 s3 f3 sv3 h3 => by
    obtain ⟨l0, xs, j, q, s0, rfl, hl, rfl, hj, rfl, hn⟩ := h3
    obtain ⟨ys, e1, e2⟩ := s3.lstM hl
    have sv0 := s0_of ((sv1.mono f2.g).mono f3.g)
    obtain ⟨s4, f4⟩ := s3.put (o := .lst (ys.set q v1)) (m := .lst (xs.set q s0)) hl (paired_set sv0 q e2)
    refine ⟨l0, ys, j, q, sv2, sv3.int, e1, by rw [Paired.length e2]; exact hj, ?_⟩
    exact k.nx δ _ σ _ _ s4 (l.mono (((f1.trans f2).trans f3).trans f4).g) (((f1.trans f2).trans f3).trans f4) hn)
def put0 (xs : List (Key × S0)) (k : Key) (v : S0) : List (Key × S0) := if (xs.any fun kv => decide (kv.1 = k)) = true then xs.map fun kv => if kv.1 = k then (kv.1, v) else kv else xs ++ [(k, v)]
end
end Wr
end
section
set_option maxHeartbeats 4000000
/-! Rules of the base layer that were lacking: enumerate over a tuple, a starred target behind one name, a field as a target. -/
namespace Wr
open PySem PySem.Spec PyProof.Rows L2
/-! ### enumerate(t), t a tuple -/
theorem enumNew1 {v : Value} {o : Obj} {HP : Heap → Prop} (B : Begins v o HP) : Meets (Builtin.«enumerate.__new__» ⟨[.type "enumerate", v], []⟩) (fun _ R s => HP s.heap ∧
    R (.ok (.ret (.ref (s.heap.push o).objs.size))) { s with heap := (s.heap.push o).push { cls := .type "enumerate", data := .fields #[.none, .bool false, .ref s.heap.objs.size, rawInt 0, .none, .none] } }) :=
  .of_wp fun prog w A R s h => by
    obtain ⟨hp, g, d, tk, os⟩ := s
    obtain ⟨h1, h2⟩ := h
    have se := sub_enumerate
    have it1 : ∀ {A' : Around} {E Q : Value → Shared → Prop}, Q (.ref hp.objs.size) ⟨hp.push o, g, d, tk, os⟩ → wpAny (model prog w) A' (pyIter v) Q E ⟨hp, g, d, tk, os⟩ := fun q => B.iter prog w _ _ ⟨hp, g, d, tk, os⟩ _ h1 q
    wp_walk using it1
    refine wpAny_stack_any fun st => wpAny_pure ?_
    split
    · rename_i c _ _ _ _ _
      cases (c == Value.type "enumerate")
      · wp_walk using it1
        exact ⟨_, rfl, h2⟩
      · wp_walk using it1
        exact ⟨_, rfl, h2⟩
    · wp_walk using it1
      exact ⟨_, rfl, h2⟩
section
variable {prog : Program} {w : World} {A : Around} {E : Value → Shared → Prop} {s : Shared}
theorem enumCall1 {v : Value} {o : Obj} {HP : Heap → Prop} {Q : Value → Shared → Prop} (B : Begins v o HP) (h1 : HP s.heap)
    (h : ∀ h', IsEnum h' (s.heap.objs.size + 1) s.heap.objs.size 0 .none → h'.get? s.heap.objs.size = some o → (∀ b q, s.heap.get? b = some q → h'.get? b = some q) → Q (.ref (s.heap.objs.size + 1)) { s with heap := h' }) :
    wpAny (model prog w) A (call (.type "enumerate") [v]) Q E s := by
  refine callType_new F.called_enumerate (by decide) (F.typeCall_enumerate_1 _) (F.newCall_enumerate_1 _) (fun ob => F.args_object_init_2 ob _) F.entry_enumerate_new (enumNew1 B) ⟨h1, ?_⟩
  have sz : (s.heap.push o).objs.size = s.heap.objs.size + 1 := Heap.size_push ..
  show _ ∧ _
  rw [sz]
  have ie : IsEnum ((s.heap.push o).push { cls := .type "enumerate", data := .fields #[.none, .bool false, .ref s.heap.objs.size, rawInt 0, .none, .none] }) (s.heap.objs.size + 1) s.heap.objs.size 0 .none := by
    have z := Heap.get?_push_size (s.heap.push o) (o := { cls := .type "enumerate", data := .fields #[.none, .bool false, .ref s.heap.objs.size, rawInt 0, .none, .none] }) rfl
    rw [sz] at z
    exact z
  exact ⟨⟨_, ie, rfl⟩, h _ ie (Heap.get?_push_of_some _ (Heap.get?_push_size _ B.free)) fun b q x => Heap.get?_push_of_some _ (Heap.get?_push_of_some _ x)⟩
end
/-- the tuple at a, each item in a new pair with its place -/
def ItE (K : PySem.W.Frag) (a : Addr) : It :=
  ⟨fun i H => ∃ (xs : List V) (x : V), SqT K H a xs ∧ xs[i]? = some x, fun i H v H' => ∃ T x, v = .ref T ∧ H T = none ∧ H' = upd H T (.tup [.int (i : Nat), x]) ∧ ∀ xs, SqT K H a xs → xs[i]? = some x,
    fun i H => ∃ xs : List V, SqT K H a xs ∧ xs.length = i⟩
theorem tupApart {h : Heap} {a e it : Addr} {i : Nat} {items : Array Value} {c : Int} {old : Value} (p : IsTup h a items) (he : IsEnum h e it c old) (hi : h.IsTupleIter it a i) : a ≠ e ∧ a ≠ it := by
  obtain ⟨o, ho, hc, _⟩ := p
  obtain ⟨oi, hoi, hci, _⟩ := hi
  refine ⟨fun z => ?_, fun z => ?_⟩
  · subst z
    have he' : h.get? a = some _ := he
    rw [he'] at ho
    cases ho
    simp at hc
  · subst z
    rw [hoi] at ho
    cases ho
    rw [hci] at hc
    simp at hc
theorem turnE {P : Program} {w : World} {K : PySem.W.Frag} {elts : List Expr} {kk : Nat} {tpos : Pos} (a e it : Addr) :
    Turn P w K (.Tuple elts kk tpos) (ItE K a) [e, it] e (fun i h => (∃ old, IsEnum h e it ((i : Nat) : Int) old) ∧ h.IsTupleIter it a i ∧ e ≠ it) where
  mem := by simp
  obj := fun i h st b hb => by
    obtain ⟨⟨old, he⟩, ⟨o, ho, hc, hd⟩, _⟩ := st
    rcases (show b = e ∨ b = it by simpa using hb) with z | z
    · rw [z]
      exact ⟨_, he, fun v q => nomatch q⟩
    · rw [z]
      exact ⟨o, ho, fun v q => by rw [hd] at q; cases q⟩
  keep := fun i h h' st k => by
    obtain ⟨⟨old, he⟩, hi, hne⟩ := st
    exact ⟨⟨old, k e (by simp) _ he⟩, hi.at fun o q => k it (by simp) o q, hne⟩
  item := by
    intro X hP hw hK hc i pins s σ H E I hf st hg
    subst hP hw hK
    obtain ⟨⟨old, he⟩, hit, hne⟩ := st
    obtain ⟨xs, x, hq, hx⟩ := hg
    obtain ⟨its, rv, p, hz⟩ := I.tuple hq
    obtain ⟨u, hu, ru⟩ := rv.get hx
    have lt_e : e < s.heap.objs.size := Heap.lt_size he
    have lt_i : it < s.heap.objs.size := by
      obtain ⟨_, q, _⟩ := hit
      exact Heap.lt_size q
    have lt_b : ∀ b ∈ [e, it], b < s.heap.objs.size := fun b hb => by
      rcases (show b = e ∨ b = it by simpa using hb) with z | z
      · rw [z]; exact lt_e
      · rw [z]; exact lt_i
    obtain ⟨nae, nai⟩ := tupApart p he hit
    have hil : i < its.toArray.size := by
      obtain ⟨q, _⟩ := List.getElem?_eq_some_iff.mp hu
      simpa using q
    refine wpAny_pyNext_enum_itemD (Draws.tuple (show X.A.in1.handled = none from I.ok.hd hc) it a nai its.toArray) he ⟨hit, p⟩ hil hne (by simp [hne, nae.symm]) fun y h' tk hy ho st' hT sz hk => ?_
    have ey : y = u := by
      have z : its[i]? = some y := by simpa using hy
      rw [hu] at z
      exact (Option.some.inj z).symm
    subst ey
    refine ⟨_, rfl, wpAny_letOwnedTupleGo_enum (s := { s with heap := h', toks := tk + 1 }) ho fun h2 he2 sb => ?_⟩
    have hT2 : h2.get? s.heap.objs.size = some { cls := .type "tuple", data := .seq #[.int i tk, y] } := (sb.2 _ (Nat.ne_of_gt lt_e)).trans hT
    have nw : ObjOk X.prog X.w (upd H s.heap.objs.size (.tup [.int (i : Nat), x])) h2 s.heap.objs.size (.tup [.int (i : Nat), x]) :=
      ⟨by show 2 ≤ sizeLine; decide, [.int i tk, y], .cons ⟨_, rfl⟩ (.cons ru .nil), ⟨_, hT2, rfl, _, rfl⟩⟩
    have I1 : Inv X pins σ (upd H s.heap.objs.size (.tup [.int (i : Nat), x])) { s with heap := h2, toks := tk + 1 } :=
      I.turnedNew (ch := [e, it]) (fun b ob hb q => (sb.2 b (fun z => hb (by simp [z]))).trans (hk b ob (fun z => hb (by simp [z])) (fun z => hb (by simp [z])) q)) hf (Nat.le_refl _) nw
    refine ⟨.ref s.heap.objs.size, _, I1, rfl, ⟨_, x, rfl, I.hok.fresh (Nat.le_refl _), rfl, fun ys hy2 => by rw [I.tuple_inj hy2 hq]; exact hx⟩, ⟨⟨y, ?_⟩, st'.1.at fun o q => (sb.2 it (Ne.symm hne)).trans q, hne⟩, fun b hb => ?_⟩
    · rw [show ((i + 1 : Nat) : Int) = (i : Int) + 1 by omega]
      exact he2
    · rw [upd_ne (Nat.ne_of_lt (lt_b b hb))]
      exact (hf b hb).1
  done := by
    intro X hP hw hK hc i pins s σ H E I hf st hg
    subst hP hw hK
    obtain ⟨⟨old, he⟩, hit, hne⟩ := st
    obtain ⟨xs, hq, hx⟩ := hg
    obtain ⟨its, rv, p, hz⟩ := I.tuple hq
    obtain ⟨nae, nai⟩ := tupApart p he hit
    obtain ⟨f0, f1, f2, f3, f4, f5⟩ := hf it (by simp)
    have en : i = its.toArray.size := by
      rw [List.size_toArray, ← rv.length]
      exact hx.symm
    subst en
    exact wpAny_pyNext_enum_endD (Draws.tuple (show X.A.in1.handled = none from I.ok.hd hc) it a nai its.toArray) he ⟨hit, p⟩ fun h' eb => ⟨rfl, I.turned (t' := s.toks) (fun b o hb q => eb b o hb q) f0 f1 f3 f4 f5⟩
  self := fun A i s Q E st h => by
    obtain ⟨⟨_, he⟩, _⟩ := st
    exact wpAny_pyIter_enum he h
def iEnumT (K : PySem.W.Frag) (ta : TA) : TI := fun σ H R => ta σ H fun vs H1 => ∃ a xs, vs = [.ref a] ∧ SqT K H1 a xs ∧ R (ItE K a) H1
theorem pi_enumT {X : Cx} {e : Expr} {ta : TA} {p pos tpos : Pos} {elts : List Expr} {kk : Nat} (hg : Gl X "enumerate") (hm : X.mg "enumerate" = none) (ha : PA X [e] ta) (hs : starEach [e] X.env = [(false, eval e X.env)] := by rfl) :
    PI X (.Tuple elts kk tpos) (.Call (.Name "enumerate" p) [e] [] pos) (iEnumT X.K ta) := by
  refine ⟨fun pins s σ H R I h => ?_⟩
  refine Call_ (ld_blt I hg hm boot_enumerate (PyProof.Rows.callWith_type1 (thn (ha.run pos pins s σ H _ I h) fun us s1 ⟨vs, H1, I1, r1, q1⟩ => ?_) hs rfl))
  obtain ⟨a, xs, rfl, hq, q⟩ := q1
  obtain rfl := Vals.ref1 r1
  obtain ⟨its, rv, p', hz⟩ := I1.tuple hq
  refine enumCall1 (begins_tuple a its.toArray) p' fun h' he hit hk => wpAny_pyIter_enum he ?_
  have I2 : Inv X pins σ H1 { s1 with heap := h' } := I1.kept (t' := s1.toks) hk
  refine ⟨s1.heap.objs.size + 1, [s1.heap.objs.size + 1, s1.heap.objs.size], _, _, H1, rfl, I2, turnE a (s1.heap.objs.size + 1) s1.heap.objs.size, ⟨⟨.none, he⟩, ⟨_, hit, rfl, rfl⟩, Nat.succ_ne_self _⟩, fun b hb => ?_, q⟩
  have hle : s1.heap.objs.size ≤ b := by
    rcases (show b = s1.heap.objs.size + 1 ∨ b = s1.heap.objs.size by simpa using hb) with z | z
    · rw [z]; exact Nat.le_add_right _ _
    · rw [z]; exact Nat.le_refl _
  exact I1.fpOk hle (I1.hok.fresh hle)
theorem walkE {K : PySem.W.Frag} {a : Addr} {xs : List V} : Walk (ItE K a) xs.length (fun H => SqT K H a xs) (YPair (fun i => some (.int (i : Nat))) (fun i => xs[i]?)) := by
  refine ⟨fun i _ hi q => ⟨xs, xs[i], q, by simp [hi]⟩, fun _ q => ⟨xs, q, rfl⟩, fun i H v H' _ q y => ?_⟩
  obtain ⟨T, x, h1, h2, h3, h4⟩ := y
  exact ⟨T, .int (i : Nat), x, h1, h2, h3, rfl, h4 xs q⟩
/-! ### (a, *r) = t -/
/-- one name, then the rest as a new list -/
def gStar (K : PySem.W.Frag) (g1 g2 : TG) : TG := fun v σ H Q => ∃ a x xs, v = .ref a ∧ SqT K H a (x :: xs) ∧ xs.length ≤ 1000 ∧ ∀ p, H p = none → g1 x σ (upd H p (.lst xs)) fun σ1 H1 => g2 (.ref p) σ1 H1 Q
theorem starItems {prog : Program} {w : World} {A : Around} {E : Value → Shared → Prop} {s : Shared} {l : Addr} {x : Value} {its : List Value} {Q : List Value → Shared → Prop} (ht : IsTup s.heap l (x :: its).toArray) (hh : A.handled = none) (hz : its.length ≤ 1000)
    (h : ∀ h' tk, (∀ b o, s.heap.get? b = some o → h'.get? b = some o) → wpAny (model prog w) A (newList its) (fun d s2 => Q [x, d] s2) E { s with heap := h', toks := tk }) : wpAny (model prog w) A (unpackItems (.ref l) 2 (some 1)) Q E s := by
  have lne : l ≠ s.heap.objs.size := by
    obtain ⟨o, ho, _⟩ := ht
    exact Nat.ne_of_lt (Heap.lt_size ho)
  have sz : (x :: its).toArray.size = its.length + 1 := by simp
  unfold unpackItems
  refine wpAny_bind ?_
  unfold notIterableAtAll
  refine wpAny_bind (wpAny_specialOf ht.typeIs slot_tuple_iter.lookup (wpAny_pure ?_))
  simp only [Bool.false_eq_true, if_false]
  refine wpAny_bind (wpAny_holding (iter_tuple ht ?_))
  refine wpAny_bind (wpAny_holding (draw_tuple lne 1 0 _ _ ⟨_, Heap.get?_push_size _ rfl, rfl, rfl⟩ (ht.push _) (by omega) fun h1 it1 sb1 => ?_))
  have ht1 : IsTup h1 l (x :: its).toArray := (ht.push _).extBut sb1.extBut lne
  rw [Nat.zero_add] at it1
  have it1' := it1
  obtain ⟨oi, hoi, _⟩ := it1'
  have ht1' := ht1
  obtain ⟨ol, hol, _⟩ := ht1'
  show wpAny _ _ (if ([x] : List Value).length < 1 then _ else _) _ _ _
  rw [if_neg (show ¬ ([x] : List Value).length < 1 by simp)]
  refine wpAny_bind (wpAny_holding (PySem.W.kun_collect (s := { s with heap := h1 }) (T := "tuple_iterator") (.inr (.inr (.inr rfl))) (Walks.tuple (A := A.in1) hh s.heap.objs.size l lne _) (fun j u st => st.1.typeIs) (k := 1) (by omega) ⟨it1, ht1⟩ (Heap.lt_size hoi) (Heap.lt_size hol) (fun h2 tk hk => ?_)
    (by rw [sz, sizeLine_eq]; omega)))
  have e1 : (x :: its).toArray.toList.drop 1 = its := by simp
  rw [e1]
  show wpAny _ _ (if its.length < 0 then _ else _) _ _ _
  rw [if_neg (Nat.not_lt_zero _)]
  show wpAny _ _ (newList (its.take (its.length - 0)) >>= fun d => pure ([x] ++ [d] ++ its.drop (its.length - 0))) _ _ _
  rw [Nat.sub_zero, List.take_length, List.drop_length]
  have kp : ∀ b o, s.heap.get? b = some o → h2.get? b = some o := fun b o e => by
    have nb : b ≠ s.heap.objs.size := Nat.ne_of_lt (Heap.lt_size e)
    exact hk b o nb (sb1.extBut b o nb (Heap.get?_push_of_some _ e))
  exact wpAny_bind (thn (h h2 tk kp) fun d s2 q => wpAny_pure q)
theorem pg_star {X : Cx} {t1 t2 : Expr} {k : Nat} {pos sp : Pos} {g1 g2 : TG} (hc : X.calm = true) (h1 : PG X t1 g1) (h2 : PG X t2 g2) (hn : (assignEach [t1, .Starred t2 sp] X.env) = [(false, assign t1 X.env), (true, assign t2 X.env)] := by rfl) :
    PG X (.Tuple [t1, .Starred t2 sp] k pos) (gStar X.K g1 g2) := by
  refine ⟨fun pins s σ H v u Q I r hw => ?_⟩
  obtain ⟨a, x, xs, rfl, hq, hl, hw⟩ := hw
  cases r
  obtain ⟨its, rv, ht, hz⟩ := I.tuple hq
  cases rv with
  | cons rx rxs =>
    rename_i b l
    rw [assign_Tuple]
    refine wpAny_bind (wpAny_standAt ?_)
    unfold unpack
    rw [hn]
    refine wpAny_bind (wpAny_holding (starItems ht (I.ok.hd hc) (by rw [← rxs.length]; exact hl) fun h' tk kp => ?_))
    have I1 : Inv X pins σ H { s with heap := h', toks := tk } := I.kept (t' := tk) kp
    have hz1 : xs.length ≤ sizeLine := by rw [sizeLine_eq]; omega
    refine wpAny_newList (s := { s with heap := h', toks := tk }) ?_ (by rw [← rxs.length]; exact hz1)
    have I2 := I1.lnew (t' := tk) rxs hz1
    have hf : H h'.objs.size = none := I1.hok.fresh (Nat.le_refl _)
    refine assignInOrder_cons (thn (h1.run pins _ σ _ _ _ _ I2 rx (hw _ hf)) fun _ s1 ⟨σ1, H1, I3, q1⟩ => ?_)
    refine assignInOrder_cons (thn (h2.run pins s1 σ1 H1 _ _ _ I3 (show RelV (.ref h'.objs.size) _ from rfl) q1) fun _ s2 ⟨σ2, H2, I4, q2⟩ => ?_)
    exact assignInOrder_nil ⟨σ2, H2, I4, q2⟩
/-! ### o.f as a target -/
def gFld (K : PySem.W.Frag) (to : TE) (f : Str) : TG := fun v σ H Q => to σ H fun x H1 => ∃ a C dx fs, x = .ref a ∧ H1 a = some (.ins C dx fs) ∧ Cls K C ∧ NoAttr K C f ∧ fs.length < 1000 ∧ Q σ (upd H1 a (.ins C dx (putF f v fs)))
theorem pg_fld {X : Cx} {o : Expr} {f : Str} {pos : Pos} {to : TE} (ho : PE X o to) : PG X (.Attribute o f pos) (gFld X.K to f) := by
  refine ⟨fun pins s σ H v u Q I r h => ?_⟩
  have e0 : assign (.Attribute o f pos) X.env u = (do
    let ov ← holding [u] (eval o X.env)
    standAt pos.atName
    holding [u, ov] (setAttr ov f u)
    release [u, ov] []) := rfl
  rw [e0]
  refine wpAny_bind (wpAny_holding (thn (ho.run pins s σ H _ I h) fun ov s1 ⟨x, H1, I1, r1, q1⟩ => ?_))
  obtain ⟨a, C, dx, fs, rfl, ha, c, n, l, q⟩ := q1
  cases r1
  refine wpAny_bind (wpAny_standAt (wpAny_bind (wpAny_holding ?_)))
  exact setattr_ok I1 ha c n l r fun s2 I2 => wpAny_release ⟨σ, _, I2, q⟩
end Wr
end
section
set_option maxHeartbeats 4000000
namespace Wr
open PySem PySem.Spec PyProof.Rows L2
/-! ### targets -/
def wipeD (δ : Sl) : List Nat → Sl
  | [] => δ
  | v :: vs => (wipeD δ vs).set v none
theorem Slt.unset {K : PySem.W.Frag} {δ : Sl} {σ : L2.St} {G : Hp} (l : Slt K δ σ G) (i : Nat) : Slt K (δ.set i none) (σ.set i none) G := by
  refine ⟨by rw [List.length_set, List.length_set, l.len], fun j q e => ?_⟩
  by_cases z : i = j
  · subst z
    have hj : i < δ.length := by
      have h := (List.getElem?_eq_some_iff.mp e).1
      rwa [List.length_set] at h
    rw [List.getElem?_set_self hj] at e
    cases e
  · rw [List.getElem?_set_ne z] at e
    obtain ⟨w, h1, h2⟩ := l.at_ j q e
    exact ⟨w, by rw [List.getElem?_set_ne z]; exact h1, h2⟩
theorem Slt.wipe {K : PySem.W.Frag} {δ : Sl} {σ : L2.St} {G : Hp} (l : Slt K δ σ G) : ∀ ws : List Nat, Slt K (wipeD δ ws) (L2.wipe σ ws) G
  | [] => l
  | w :: ws => (Slt.wipe l ws).unset w
theorem wipe_get (σ : L2.St) (j : Nat) : ∀ ws : List Nat, (wipe σ ws)[j]? = if j ∈ ws then σ[j]?.map (fun _ => none) else σ[j]?
  | [] => by simp [wipe]
  | w :: ws => by
    have ih := wipe_get σ j ws
    show ((wipe σ ws).set w none)[j]? = _
    by_cases z : w = j
    · subst z
      rw [if_pos (List.mem_cons_self)]
      by_cases hj : w < σ.length
      · rw [List.getElem?_set_self (by rw [wipe_length]; exact hj), List.getElem?_eq_getElem hj]
        rfl
      · rw [List.getElem?_eq_none (by rw [List.length_set, wipe_length]; omega), List.getElem?_eq_none (by omega)]
        rfl
    · rw [List.getElem?_set_ne z, ih]
      by_cases h : j ∈ ws
      · rw [if_pos h, if_pos (List.mem_cons_of_mem _ h)]
      · rw [if_neg h, if_neg (fun q => by
          rcases List.mem_cons.mp q with e | e
          · exact z e.symm
          · exact h e)]
theorem wipe_set {σ : L2.St} {i : Nat} {o : Option V} {ws : List Nat} (h : i ∈ ws) : wipe (σ.set i o) ws = wipe σ ws := by
  apply List.ext_getElem?
  intro j
  rw [wipe_get, wipe_get]
  by_cases z : i = j
  · subst z
    rw [if_pos h, if_pos h]
    by_cases hj : i < σ.length
    · rw [List.getElem?_set_self hj, List.getElem?_eq_getElem hj]
      rfl
    · rw [List.getElem?_eq_none (by rw [List.length_set]; omega), List.getElem?_eq_none (by omega)]
  · rw [List.getElem?_set_ne z]
theorem wipe_wipe (σ : L2.St) (ws : List Nat) : wipe (wipe σ ws) ws = wipe σ ws := by
  apply List.ext_getElem?
  intro j
  rw [wipe_get (wipe σ ws), wipe_get σ]
  by_cases h : j ∈ ws
  · rw [if_pos h, if_pos h]
    cases σ[j]? <;> rfl
  · rw [if_neg h, if_neg h]
/-- a target takes r: the slots δ become δ'; it stores at vs alone -/
def TgD (K : PySem.W.Frag) (g : TG) (r : Sd) (M : AM) (δ δ' : Sl) (vs : List Nat) : Prop := ∀ (v : V) (σ : L2.St) (G H : Hp) (Q : L2.St → Hp → Prop), Sto K M G H → SdV K G v r → Slt K δ σ G →
  (∀ σ' G' H', Sto K M G' H' → Fw M M G H G' H' → Slt K δ' σ' G' → (∀ ws : List Nat, (∀ i ∈ vs, i ∈ ws) → wipe σ' ws = wipe σ ws) → Q σ' H') → g v σ H Q
def TgsD (K : PySem.W.Frag) (g : TGs) (rs : List Sd) (M : AM) (δ δ' : Sl) (vs : List Nat) : Prop := ∀ (us : List V) (σ : L2.St) (G H : Hp) (Q : L2.St → Hp → Prop), Sto K M G H → Paired (SdV K G) us rs → Slt K δ σ G →
  (∀ σ' G' H', Sto K M G' H' → Fw M M G H G' H' → Slt K δ' σ' G' → (∀ ws : List Nat, (∀ i ∈ vs, i ∈ ws) → wipe σ' ws = wipe σ ws) → Q σ' H') → g us σ H Q
section
variable {K : PySem.W.Frag} {M : AM} {δ δ1 δ2 : Sl} {r : Sd} {rs : List Sd} {g g1 g2 : TG} {t : TGs} {vs vs' : List Nat}
theorem TgD.name (i : Nat) : TgD K (gName i) r M δ (δ.set i (some r)) [i] := fun v σ G H Q s sv l k => k _ G H s Fw.refl (l.set i sv) fun ws h => wipe_set (h i (List.mem_singleton.mpr rfl))
theorem TgsD.nil : TgsD K gNil [] M δ δ [] := fun us σ G H Q s sv l k => by
  cases sv
  exact ⟨rfl, k σ G H s Fw.refl l fun _ _ => rfl⟩
theorem TgsD.cons (h1 : TgD K g r M δ δ1 vs) (h2 : TgsD K t rs M δ1 δ2 vs') : TgsD K (gCons g t) (r :: rs) M δ δ2 (vs ++ vs') := fun us σ G H Q s sv l k => by
  cases sv with
  | cons h hs =>
    refine ⟨_, _, rfl, h1 _ σ G H _ s h l fun σ1 G1 H1 s1 f1 l1 w1 => ?_⟩
    refine h2 _ σ1 G1 H1 Q s1 (sds_mono f1.g hs) l1 fun σ2 G2 H2 s2 f2 l2 w2 => k σ2 G2 H2 s2 (f1.trans f2) l2 fun ws hw => ?_
    rw [w2 ws fun i hi => hw i (List.mem_append_right _ hi), w1 ws fun i hi => hw i (List.mem_append_left _ hi)]
theorem TgD.tup {n : Nat} {ds : List PyData} (hn : ds.length = n) (h : TgsD K t (ds.map .dat) M δ δ1 vs) : TgD K (gTup K n t) (.dat (.tuple ds)) M δ δ1 vs := fun v σ G H Q s sv l k => by
  obtain ⟨a, xs, rfl, e1, e2⟩ := sv.tuple
  refine ⟨a, xs, rfl, s.gh.seqT e1, by rw [e2.length]; exact hn, h xs σ G H Q s ?_ l k⟩
  have cv : ∀ {xs : List V} {ds : List PyData}, DqAll K G xs ds → Paired (SdV K G) xs (ds.map .dat) := fun {xs ds} q => by
    induction ds generalizing xs with
    | nil => cases q; exact .nil
    | cons d ds ih =>
      cases q with
      | cons q1 q2 => exact .cons q1 (ih q2)
  exact cv e2
theorem TgD.tupS {n : Nat} {ds : List S0} (hn : ds.length = n) (h : TgsD K t (ds.map S0.sd) M δ δ1 vs) : TgD K (gTup K n t) (.tup ds) M δ δ1 vs := fun v σ G H Q s sv l k => by
  obtain ⟨a, xs, rfl, e1, e2⟩ := sv
  refine ⟨a, xs, rfl, s.gh.seqT e1, by rw [Paired.length e2]; exact hn, h xs σ G H Q s ?_ l k⟩
  have cv : ∀ {xs : List V} {ds : List S0}, Paired (S0V K G) xs ds → Paired (SdV K G) xs (ds.map S0.sd) := fun {xs ds} q => by
    induction ds generalizing xs with
    | nil => cases q; exact .nil
    | cons d ds ih =>
      cases q with
      | cons q1 q2 => exact .cons q1.sd (ih q2)
  exact cv e2
theorem TgD.star {d : PyData} {ds : List PyData} (hz : ds.length ≤ 1000) (h1 : TgD K g1 (.dat d) M δ δ1 vs) (h2 : TgD K g2 (.dat (.list ds)) M δ1 δ2 vs') : TgD K (gStar K g1 g2) (.dat (.tuple (d :: ds))) M δ δ2 (vs ++ vs') := fun v σ G H Q s sv l k => by
  obtain ⟨a, xs, rfl, e1, e2⟩ := sv.tuple
  cases e2 with
  | cons q1 q2 =>
    rename_i x xs
    refine ⟨a, x, xs, rfl, s.gh.seqT e1, by rw [q2.length]; exact hz, fun p hp => ?_⟩
    obtain ⟨s1, f1⟩ := s.lay hp (.lst xs)
    refine h1 x σ _ _ _ s1 (Dq.mono f1.g _ _ q1) (l.mono f1.g) fun σ2 G2 H2 s2 f2 l2 w2 => ?_
    have sl : SdV K G2 (.ref p) (.dat (.list ds)) := Dq.mono f2.g _ _ (Dq.lst upd_same (DqAll.mono f1.g _ _ q2))
    refine h2 (.ref p) σ2 G2 H2 Q s2 sl l2 fun σ3 G3 H3 s3 f3 l3 w3 => k σ3 G3 H3 s3 ((f1.trans f2).trans f3) l3 fun ws hw => ?_
    rw [w3 ws fun i hi => hw i (List.mem_append_right _ hi), w2 ws fun i hi => hw i (List.mem_append_left _ hi)]
end
/-! ### what a loop walks -/
structure SrcOk (K : PySem.W.Frag) (G0 : Hp) (J : It) (items : List Sd) : Prop where
  go : ∀ i M G H, i < items.length → Ex G0 G → Sto K M G H → J.go i H
  stop : ∀ M G H, Ex G0 G → Sto K M G H → J.stop items.length H
  yld : ∀ (i : Nat) (M : AM) (G H : Hp) (x : V) (H' : Hp) (r : Sd), items[i]? = some r → Ex G0 G → Sto K M G H → J.yld i H x H' → ∃ G', Sto K M G' H' ∧ Fw M M G H G' H' ∧ SdV K G' x r
def IvX (X : Cx) (tg iter : Expr) (δ : Sl) (M : AM) (PI : List Sd → AM → Prop) : Prop := ∀ (σ : L2.St) (G H : Hp) (R : It → Hp → Prop), Sto X.K M G H → Slt X.K δ σ G →
  (∀ J items M' G' H', Sto X.K M' G' H' → Fw M M' G H G' H' → SrcOk X.K G' J items → PI items M' → R J H') → canI X tg iter σ H R
section
variable {K : PySem.W.Frag} {G0 : Hp}
theorem srcL {a : Addr} {xs : List V} {ds : List PyData} (h1 : G0 a = some (.lst xs)) (h2 : DqAll K G0 xs ds) : SrcOk K G0 (Itl K a) (ds.map .dat) := by
  have hl : (ds.map Sd.dat).length = xs.length := by rw [List.length_map, h2.length]
  have W := walk_list (K := K) (a := a) (xs := xs)
  refine ⟨fun i M G H hi e s => W.goes i H (by rw [← hl]; exact hi) (.inl (.inl (s.gh _ _ (e _ _ h1)))), fun M G H e s => by rw [hl]; exact W.stops H (.inl (.inl (s.gh _ _ (e _ _ h1)))), fun i M G H x H' r hr e s y => ?_⟩
  have hi : i < xs.length := by rw [← hl]; exact (List.getElem?_eq_some_iff.mp hr).1
  obtain ⟨rfl, hx⟩ := W.yields i H x H' hi (.inl (.inl (s.gh _ _ (e _ _ h1)))) y
  obtain ⟨d, hd, dq⟩ := h2.getv hx
  rw [List.getElem?_map, hd] at hr
  cases hr
  exact ⟨G, s, Fw.refl, Dq.mono e _ _ dq⟩
theorem srcT {a : Addr} {xs : List V} {ds : List PyData} (h1 : SqT K G0 a xs) (h2 : DqAll K G0 xs ds) : SrcOk K G0 (Itt K a) (ds.map .dat) := by
  have hl : (ds.map Sd.dat).length = xs.length := by rw [List.length_map, h2.length]
  have W := walk_tup (K := K) (a := a) (xs := xs)
  refine ⟨fun i M G H hi e s => W.goes i H (by rw [← hl]; exact hi) (s.gh.seqT (e.seqT h1)), fun M G H e s => by rw [hl]; exact W.stops H (s.gh.seqT (e.seqT h1)), fun i M G H x H' r hr e s y => ?_⟩
  have hi : i < xs.length := by rw [← hl]; exact (List.getElem?_eq_some_iff.mp hr).1
  obtain ⟨rfl, hx⟩ := W.yields i H x H' hi (s.gh.seqT (e.seqT h1)) y
  obtain ⟨d, hd, dq⟩ := h2.getv hx
  rw [List.getElem?_map, hd] at hr
  cases hr
  exact ⟨G, s, Fw.refl, Dq.mono e _ _ dq⟩
theorem srcR {lo : Int} {n : Nat} : SrcOk K G0 (Itr lo n) ((List.range n).map fun i => .dat (.int (lo + (i : Nat)))) := by
  have hl : ((List.range n).map fun i : Nat => Sd.dat (.int (lo + i))).length = n := by rw [List.length_map, List.length_range]
  refine ⟨fun i M G H hi e s => by rw [hl] at hi; exact hi, fun M G H e s => by rw [hl]; exact Nat.le_refl _, fun i M G H x H' r hr e s y => ?_⟩
  obtain ⟨rfl, rfl⟩ := y
  have hi : i < n := by rw [← hl]; exact (List.getElem?_eq_some_iff.mp hr).1
  rw [List.getElem?_map, List.getElem?_range hi] at hr
  cases hr
  exact ⟨G, s, Fw.refl, svInt _⟩
theorem srcS {z : Str} : SrcOk K G0 (Its z) (z.cps.toList.map fun c => .dat (.str ⟨#[c]⟩)) := by
  have hl : (z.cps.toList.map fun c => Sd.dat (.str ⟨#[c]⟩)).length = z.cps.size := by rw [List.length_map, Array.length_toList]
  refine ⟨fun i M G H hi e s => by rw [hl] at hi; exact hi, fun M G H e s => by rw [hl]; exact Nat.le_refl _, fun i M G H x H' r hr e s y => ?_⟩
  obtain ⟨rfl, c, hc, rfl⟩ := y
  rw [List.getElem?_map, Array.getElem?_toList, hc] at hr
  cases hr
  exact ⟨G, s, Fw.refl, svStr _⟩
/-- new pairs -/
theorem srcPair {J : It} {n : Nat} {GG : Hp → Prop} {xs ys : Nat → Option V} {items : List Sd} {dx dy : Nat → PyData} (W : Walk J n GG (YPair xs ys)) (hl : items.length = n) (hg : ∀ M G H, Ex G0 G → Sto K M G H → GG H)
    (hi : ∀ i, i < n → items[i]? = some (.dat (.tuple [dx i, dy i]))) (hx : ∀ i x, i < n → xs i = some x → Dq K G0 x (dx i)) (hy : ∀ i y, i < n → ys i = some y → Dq K G0 y (dy i)) : SrcOk K G0 J items := by
  refine ⟨fun i M G H h e s => W.goes i H (by rw [← hl]; exact h) (hg M G H e s), fun M G H e s => by rw [hl]; exact W.stops H (hg M G H e s), fun i M G H x H' r hr e s y => ?_⟩
  have h : i < n := by rw [← hl]; exact (List.getElem?_eq_some_iff.mp hr).1
  obtain ⟨T, x1, y1, rfl, hT, rfl, e1, e2⟩ := W.yields i H x H' h (hg M G H e s) y
  rw [hi i h] at hr
  cases hr
  obtain ⟨s2, f2⟩ := s.lay hT (.tup [x1, y1])
  have ee := e.trans f2.g
  exact ⟨_, s2, f2, Dq.tup (.inl (.inl upd_same)) (.cons (Dq.mono ee _ _ (hx i x1 h e1)) (.cons (Dq.mono ee _ _ (hy i y1 h e2)) .nil))⟩
theorem enum_at (ds : List PyData) (i : Nat) (h : i < ds.length) : (ds.mapIdx fun i d => Sd.dat (.tuple [.int (i : Nat), d]))[i]? = some (.dat (.tuple [.int (i : Nat), ds.getD i .none])) := by
  rw [List.getElem?_mapIdx, List.getElem?_eq_getElem h]
  simp [List.getD, h]
theorem getD_of {ds : List PyData} {i : Nat} {d : PyData} (h : ds[i]? = some d) : ds.getD i .none = d := by
  simp [List.getD, h]
theorem srcEL {a : Addr} {xs : List V} {ds : List PyData} (h1 : G0 a = some (.lst xs)) (h2 : DqAll K G0 xs ds) : SrcOk K G0 (Ite K a) (ds.mapIdx fun i d => .dat (.tuple [.int (i : Nat), d])) :=
  srcPair (dx := fun i => .int (i : Nat)) (dy := fun i => ds.getD i .none) (walk_enum (K := K) (a := a) (xs := xs)) (by rw [List.length_mapIdx, h2.length]) (fun M G H e s => .inl (.inl (s.gh _ _ (e _ _ h1)))) (fun i hi => enum_at ds i (by rw [← h2.length]; exact hi))
    (fun i x _ hx => by cases hx; exact .int _) (fun i y _ hy => by
      obtain ⟨d, e1, e2⟩ := h2.getv hy
      show Dq K G0 y (ds.getD i .none)
      rw [getD_of e1]
      exact e2)
theorem srcET {a : Addr} {xs : List V} {ds : List PyData} (h1 : SqT K G0 a xs) (h2 : DqAll K G0 xs ds) : SrcOk K G0 (ItE K a) (ds.mapIdx fun i d => .dat (.tuple [.int (i : Nat), d])) :=
  srcPair (dx := fun i => .int (i : Nat)) (dy := fun i => ds.getD i .none) (walkE (K := K) (a := a) (xs := xs)) (by rw [List.length_mapIdx, h2.length]) (fun M G H e s => s.gh.seqT (e.seqT h1)) (fun i hi => enum_at ds i (by rw [← h2.length]; exact hi))
    (fun i x _ hx => by cases hx; exact .int _) (fun i y _ hy => by
      obtain ⟨d, e1, e2⟩ := h2.getv hy
      show Dq K G0 y (ds.getD i .none)
      rw [getD_of e1]
      exact e2)
def zipD (ds es : List PyData) : List Sd := List.zipWith (fun a b => Sd.dat (.tuple [a, b])) ds es
theorem srcZ {a b : Addr} {xs ys : List V} {ds es : List PyData} (h1 : G0 a = some (.lst xs)) (h2 : DqAll K G0 xs ds) (h3 : G0 b = some (.lst ys)) (h4 : DqAll K G0 ys es) : SrcOk K G0 (Itz K a b) (zipD ds es) :=
  srcPair (n := min xs.length ys.length) (dx := fun i => ds.getD i .none) (dy := fun i => es.getD i .none) (walk_zip (K := K) (a := a) (b := b) (xs := xs) (ys := ys) rfl) (by unfold zipD; rw [List.length_zipWith, h2.length, h4.length])
    (fun M G H e s => ⟨.inl (.inl (s.gh _ _ (e _ _ h1))), .inl (.inl (s.gh _ _ (e _ _ h3)))⟩) (fun i hi => by
      have i1 : i < ds.length := by rw [← h2.length]; omega
      have i2 : i < es.length := by rw [← h4.length]; omega
      unfold zipD
      rw [List.getElem?_zipWith, List.getElem?_eq_getElem i1, List.getElem?_eq_getElem i2]
      simp [List.getD, i1, i2])
    (fun i x _ hx => by
      obtain ⟨d, e1, e2⟩ := h2.getv hx
      show Dq K G0 x (ds.getD i .none)
      rw [getD_of e1]
      exact e2) (fun i y _ hy => by
      obtain ⟨d, e1, e2⟩ := h4.getv hy
      show Dq K G0 y (es.getD i .none)
      rw [getD_of e1]
      exact e2)
end
section
variable {X : Cx} {tg e a b : Expr} {δ : Sl} {M : AM} {PI : List Sd → AM → Prop} {pos p : Pos}
theorem IvX.list (h : EvX X e δ M fun r M1 => ∃ ds, r = .dat (.list ds) ∧ PI (ds.map .dat) M1) : IvX X tg e δ M PI := fun σ G H R s l k =>
  ofI (pi_list pe_can) (h σ G H _ s l fun v r M1 G1 H1 s1 f1 sv h1 => by
    obtain ⟨ds, rfl, h1⟩ := h1
    obtain ⟨q, xs, rfl, e1, e2⟩ := sv.list
    exact ⟨q, rfl, ⟨xs, .inl (.inl (s1.gh _ _ e1))⟩, k _ _ M1 G1 H1 s1 f1 (srcL e1 e2) h1⟩)
theorem IvX.tup (h : EvX X e δ M fun r M1 => ∃ ds, r = .dat (.tuple ds) ∧ PI (ds.map .dat) M1) : IvX X tg e δ M PI := fun σ G H R s l k =>
  ofI (pi_tup pe_can) (h σ G H _ s l fun v r M1 G1 H1 s1 f1 sv h1 => by
    obtain ⟨ds, rfl, h1⟩ := h1
    obtain ⟨q, xs, rfl, e1, e2⟩ := sv.tuple
    exact ⟨q, rfl, ⟨xs, s1.gh.seqT e1⟩, k _ _ M1 G1 H1 s1 f1 (srcT e1 e2) h1⟩)
theorem IvX.str (h : EvX X e δ M fun r M1 => ∃ z : Str, r = .dat (.str z) ∧ PI (z.cps.toList.map fun c => .dat (.str ⟨#[c]⟩)) M1) : IvX X tg e δ M PI := fun σ G H R s l k =>
  ofI (pi_str pe_can) (h σ G H _ s l fun v r M1 G1 H1 s1 f1 sv h1 => by
    obtain ⟨z, rfl, h1⟩ := h1
    exact ⟨z, sv.str, k _ _ M1 G1 H1 s1 f1 srcS h1⟩)
theorem IvX.range (hm : X.mg "range" = none) (h : EvX X a δ M fun r M1 => ∃ j : Int, r = .dat (.int j) ∧ 0 ≤ j ∧ j < 2 ^ 62 ∧ PI ((List.range j.toNat).map fun i => .dat (.int (i : Nat))) M1) (hg : Gl X "range" := by rfl)
    (hs : starEach [a] X.env = [(false, eval a X.env)] := by rfl) (hs2 : starEach [a] X.env = (false, eval a X.env) :: starEach [] X.env := by rfl) : IvX X tg (.Call (.Name "range" p) [a] [] pos) δ M PI := fun σ G H R s l k =>
  ofI (pi_range1 hg hm (pa_cons pe_can pa_nil hs2) hs) (h σ G H _ s l fun v r M1 G1 H1 s1 f1 sv h1 => by
    obtain ⟨j, rfl, h0, h2, h1⟩ := h1
    refine ⟨j, by rw [sv.int], by omega, h2, k _ _ M1 G1 H1 s1 f1 srcR ?_⟩
    have e : ((List.range j.toNat).map fun i : Nat => Sd.dat (.int (0 + (i : Int)))) = (List.range j.toNat).map fun i : Nat => Sd.dat (.int (i : Int)) := List.map_congr_left fun i _ => by rw [Int.zero_add]
    rw [e]
    exact h1)
variable {elts : List Expr} {kk : Nat} {tpos : Pos}
theorem IvX.enumL (hm : X.mg "enumerate" = none) (h : EvX X a δ M fun r M1 => ∃ ds, r = .dat (.list ds) ∧ PI (ds.mapIdx fun i d => .dat (.tuple [.int (i : Nat), d])) M1) (hg : Gl X "enumerate" := by rfl)
    (hs : starEach [a] X.env = [(false, eval a X.env)] := by rfl) (hs2 : starEach [a] X.env = (false, eval a X.env) :: starEach [] X.env := by rfl) : IvX X (.Tuple elts kk tpos) (.Call (.Name "enumerate" p) [a] [] pos) δ M PI := fun σ G H R s l k =>
  ofI (pi_enum hg hm (pa_cons pe_can pa_nil hs2) hs) (h σ G H _ s l fun v r M1 G1 H1 s1 f1 sv h1 => by
    obtain ⟨ds, rfl, h1⟩ := h1
    obtain ⟨q, xs, rfl, e1, e2⟩ := sv.list
    exact ⟨q, xs, rfl, .inl (.inl (s1.gh _ _ e1)), k _ _ M1 G1 H1 s1 f1 (srcEL e1 e2) h1⟩)
theorem IvX.enumT (hm : X.mg "enumerate" = none) (h : EvX X a δ M fun r M1 => ∃ ds, r = .dat (.tuple ds) ∧ PI (ds.mapIdx fun i d => .dat (.tuple [.int (i : Nat), d])) M1) (hg : Gl X "enumerate" := by rfl)
    (hs : starEach [a] X.env = [(false, eval a X.env)] := by rfl) (hs2 : starEach [a] X.env = (false, eval a X.env) :: starEach [] X.env := by rfl) : IvX X (.Tuple elts kk tpos) (.Call (.Name "enumerate" p) [a] [] pos) δ M PI := fun σ G H R s l k =>
  ofI (pi_enumT hg hm (pa_cons pe_can pa_nil hs2) hs) (h σ G H _ s l fun v r M1 G1 H1 s1 f1 sv h1 => by
    obtain ⟨ds, rfl, h1⟩ := h1
    obtain ⟨q, xs, rfl, e1, e2⟩ := sv.tuple
    exact ⟨q, xs, rfl, s1.gh.seqT e1, k _ _ M1 G1 H1 s1 f1 (srcET e1 e2) h1⟩)
theorem IvX.zip (hm : X.mg "zip" = none) (h : AvX X [a, b] δ M fun rs M1 => ∃ ds es, rs = [.dat (.list ds), .dat (.list es)] ∧ PI (zipD ds es) M1) (hg : Gl X "zip" := by rfl)
    (hs : starEach [a, b] X.env = (false, eval a X.env) :: starEach [b] X.env := by rfl) (hs2 : (backTo pos (starEach [b] X.env)).any (·.1) = false := by rfl) : IvX X (.Tuple elts kk tpos) (.Call (.Name "zip" p) [a, b] [] pos) δ M PI := fun σ G H R s l k =>
  ofI (pi_zip hg hm pa_can hs hs2) (h σ G H _ s l fun vs rs M1 G1 H1 s1 f1 sv h1 => by
    obtain ⟨ds, es, rfl, h1⟩ := h1
    obtain ⟨v, v', rfl, q1, q2⟩ := two_of sv
    obtain ⟨x, xs, rfl, e1, e2⟩ := q1.list
    obtain ⟨y, ys, rfl, e3, e4⟩ := q2.list
    exact ⟨x, y, xs, ys, rfl, .inl (.inl (s1.gh _ _ e1)), .inl (.inl (s1.gh _ _ e3)), k _ _ M1 G1 H1 s1 f1 (srcZ e1 e2 e3 e4) h1⟩)
/-! ### for, while -/
variable {N : Sl → AM → Prop} {R : XP} {body : List Stmt} {g : TG}
theorem SvX.for {iter : Expr} (hp : PassesOwn (model X.prog X.w) X.A X.env X.xe) (hc : X.calm = true) (hg : PG X tg g)
    (h : IvX X tg iter δ M fun items M1 => ∃ Inv : Nat → Sl → AM → Prop, Inv 0 δ M1 ∧ (∀ i r δ1 M2, items[i]? = some r → Inv i δ1 M2 → ∃ δ2 vs, TgD X.K g r M2 δ1 δ2 vs ∧ BvX X body δ2 M2 (Inv (i + 1)) R) ∧ (∀ δ1 M2, Inv items.length δ1 M2 → N δ1 M2)) (hf : ∀ x, foldedSetIterable iter X.env x = pure x := by intro _; rfl) :
    SvX X (.For tg iter body [] pos) δ M N R := fun σ G H D s l k => by
  refine ofS (ps_for hp hc pi_can hg pss_can hf) (h σ G H _ s l fun J items M1 G1 H1 s1 f1 src h1 => ?_)
  obtain ⟨Inv, h0, hs, hd⟩ := h1
  refine ⟨fun i m σ' H' => m = items.length - i ∧ i ≤ items.length ∧ ∃ δ' M' G', Sto X.K M' G' H' ∧ Slt X.K δ' σ' G' ∧ Fw M1 M' G1 H1 G' H' ∧ Inv i δ' M', ⟨_, rfl, Nat.zero_le _, δ, M1, G1, s1, l.mono f1.g, Fw.refl, h0⟩, ?_⟩
  rintro i m σ' H' ⟨rfl, hi, δ', M', G', s', l', f', hI⟩
  by_cases hlt : i < items.length
  · refine .inr ⟨src.go i M' G' H' hlt f'.g s', fun σ2 H2 => ∃ δ2 M2 G2, Sto X.K M2 G2 H2 ∧ Slt X.K δ2 σ2 G2 ∧ Fw M1 M2 G1 H1 G2 H2 ∧ Inv (i + 1) δ2 M2, fun σ2 H2 h2 => ⟨items.length - (i + 1), by omega, rfl, hlt, h2⟩, fun x H2 y => ?_⟩
    obtain ⟨G2, s2, f2, sv⟩ := src.yld i M' G' H' x H2 items[i] (by simp [hlt]) f'.g s' y
    obtain ⟨δ2, vs, tgd, hb⟩ := hs i items[i] δ' M' (by simp [hlt]) hI
    exact tgd x σ' G2 H2 _ s2 sv (l'.mono f2.g) fun σ3 G3 H3 s3 f3 l3 _ => hb σ3 G3 H3 _ s3 l3 ⟨fun δ4 M4 σ4 G4 H4 s4 l4 f4 n4 => ⟨δ4, M4, G4, s4, l4, ((f'.trans f2).trans f3).trans f4, n4⟩,
      fun v r M4 G4 H4 s4 f4 sv4 n4 => k.rt v r M4 G4 H4 s4 ((((f1.trans f').trans f2).trans f3).trans f4) sv4 n4⟩
  · have e : i = items.length := by omega
    subst e
    exact .inl ⟨src.stop M' G' H' f'.g s', k.nx δ' M' σ' G' H' s' l' (f1.trans f') (hd δ' M' hI)⟩
theorem SvX.while {c : Expr} (hp : PassesOwn (model X.prog X.w) X.A X.env X.xe) (Inv : Sl → AM → Prop) (μ : Sl → AM → Nat) (h0 : Inv δ M)
    (hs : ∀ δ1 M1, Inv δ1 M1 → TvX X c δ1 M1 fun q M2 => if q = true then BvX X body δ1 M2 (fun δ3 M3 => Inv δ3 M3 ∧ μ δ3 M3 < μ δ1 M1) R else N δ1 M2) : SvX X (.While c body [] pos) δ M N R := fun σ G H D s l k => by
  refine ofS (ps_while hp pt_can pss_can) ?_
  refine ⟨fun m σ' H' => ∃ δ' M' G', Sto X.K M' G' H' ∧ Slt X.K δ' σ' G' ∧ Fw M M' G H G' H' ∧ Inv δ' M' ∧ m = μ δ' M', ⟨_, δ, M, G, s, l, Fw.refl, h0, rfl⟩, ?_⟩
  rintro m σ' H' ⟨δ', M', G', s', l', f', hI, rfl⟩
  refine hs δ' M' hI σ' G' H' _ s' l' fun q M2 G2 H2 s2 f2 h2 => ?_
  cases q with
  | true =>
    rw [if_pos rfl]
    refine ⟨fun σ3 H3 => ∃ δ3 M3 G3, Sto X.K M3 G3 H3 ∧ Slt X.K δ3 σ3 G3 ∧ Fw M M3 G H G3 H3 ∧ Inv δ3 M3 ∧ μ δ3 M3 < μ δ' M', fun σ3 H3 ⟨δ3, M3, G3, a1, a2, a3, a4, a5⟩ => ⟨_, a5, δ3, M3, G3, a1, a2, a3, a4, rfl⟩, ?_⟩
    exact h2 σ' G2 H2 _ s2 (l'.mono f2.g) ⟨fun δ3 M3 σ3 G3 H3 s3 l3 f3 n3 => ⟨δ3, M3, G3, s3, l3, (f'.trans f2).trans f3, n3.1, n3.2⟩, fun v r M3 G3 H3 s3 f3 sv n => k.rt v r M3 G3 H3 s3 ((f'.trans f2).trans f3) sv n⟩
  | false =>
    rw [if_neg Bool.false_ne_true]
    exact k.nx δ' M2 σ' G2 H2 s2 (l'.mono f2.g) (f'.trans f2) h2
/-! ### a, b = e; x += e; a, b = x, y -/
theorem SvX.asg (hg : PG X tg g) (h : EvX X e δ M fun r M1 => ∃ δ2 vs, TgD X.K g r M1 δ δ2 vs ∧ N δ2 M1) (hs : swapsWithSole [tg] e pos.line X.env = pure false := by rfl) (hw : swappedStores [tg] e X.env = pure none := by rfl)
    (h1 : (assignEach [tg] X.env).map (·.2) = [assign tg X.env] := by rfl) : SvX X (.Assign [tg] e pos) δ M N R := fun σ G H D s l k =>
  ofS (ps_asg pe_can hg hs hw h1) (h σ G H _ s l fun v r M1 G1 H1 s1 f1 sv h1 => by
    obtain ⟨δ2, vs, tgd, n⟩ := h1
    exact tgd v σ G1 H1 _ s1 sv (l.mono f1.g) fun σ2 G2 H2 s2 f2 l2 _ => k.nx δ2 M1 σ2 G2 H2 s2 l2 (f1.trans f2) n)
theorem SvX.augAdd {i : Nat} {x : Str} {pos' : Pos} {j : Int} (hN : X.N.Nodup) (hi : X.N[i]? = some x) (hx : Loc X.env.scope x) (hδ : δ[i]? = some (some (.dat (.int j)))) (h : EvX X e δ M fun r M1 => ∃ q, r = .dat (.int q) ∧ N (δ.set i (some (.dat (.int (j + q))))) M1)
    (hf : X.fn x = true ∨ X.env.scope.names.lookup x = some .local := by first | exact .inl rfl | exact .inr rfl | assumption) : SvX X (.AugAssign (.Name x pos') .Add e pos) δ M N R := fun σ G H D s l k => by
  refine ofS (ps_aug hN hi hx pe_can ip_add hf) ?_
  obtain ⟨v, h1, h2⟩ := l.at_ i _ hδ
  refine ⟨v, h1, h σ G H _ s l fun w r M1 G1 H1 s1 f1 sv h3 => ?_⟩
  obtain ⟨q, rfl, n⟩ := h3
  exact ⟨j, q, h2.int, sv.int, k.nx _ M1 _ G1 H1 s1 ((l.mono f1.g).set i (svInt _)) f1 n⟩
theorem SvX.par {i j : Nat} {x y : Str} {px py pt : Pos} {kt k2 : Nat} {pt2 : Pos} (h : AvX X [a, b] δ M fun rs M1 => ∃ r1 r2, rs = [r1, r2] ∧ N ((δ.set i (some r1)).set j (some r2)) M1)
    (pp : ∀ {ta : TA}, PA X [a, b] ta → PS X (.Assign [.Tuple [.Name x px, .Name y py] kt pt] (.Tuple [a, b] k2 pt2) pos) (tPar i j ta)) : SvX X (.Assign [.Tuple [.Name x px, .Name y py] kt pt] (.Tuple [a, b] k2 pt2) pos) δ M N R := fun σ G H D s l k =>
  ofS (pp pa_can) (h σ G H _ s l fun vs rs M1 G1 H1 s1 f1 sv h1 => by
    obtain ⟨r1, r2, rfl, n⟩ := h1
    obtain ⟨v, v', rfl, q1, q2⟩ := two_of sv
    exact ⟨v, v', rfl, k.nx _ M1 _ G1 H1 s1 (((l.mono f1.g).set i q1).set j q2) f1 n⟩)
end
end Wr
end
section
set_option maxHeartbeats 4000000
namespace Wr
open PySem PySem.Spec PyProof.Rows L2
/-! ### an object D beside the store -/
section
variable {K : PySem.W.Frag} {M M' M2 : AM} {G H G' H' G2 H2 : Hp} {D : Addr} {o o' : HO}
theorem Sto.beside (s : Sto K M G H) (hG : G D = none) (hM : M D = none) (o : HO) : Sto K M G (upd H D o) := by
  refine ⟨fun a u e => ?_, fun a m e => ?_, s.dj⟩
  · have q : a ≠ D := fun z => by
      rw [z, hG] at e
      cases e
    rw [upd_ne q]
    exact s.gh a u e
  · have q : a ≠ D := fun z => by
      rw [z, hM] at e
      cases e
    obtain ⟨u, e1, e2⟩ := s.mh a m e
    exact ⟨u, by rw [upd_ne q]; exact e1, e2⟩
theorem Fw.beside (f : Fw M M' G H G' H') (hD : H D = none) (o : HO) : Fw M M' G H G' (upd H' D o) := ⟨f.g, fun a u e e' => by
  have q : a ≠ D := fun z => by
    rw [z, hD] at e
    cases e
  rw [upd_ne q]
  exact f.fr a u e e', f.nw, f.mm⟩
theorem Fw.kept (f : Fw M M2 G H G2 H2) (hD : H D = some o) (hM : M D = none) (hG : G D = none) : H2 D = some o ∧ G2 D = none ∧ M2 D = none := by
  refine ⟨f.fr D o hD hM, ?_, ?_⟩
  · cases q : G2 D with
    | none => rfl
    | some u =>
      rcases f.nw D hG (by rw [q]; simp) with z | z
      · rw [hD] at z
        cases z
      · exact absurd hM z
  · cases q : M2 D with
    | none => rfl
    | some u =>
      rcases f.mm D (by rw [q]; simp) with z | z
      · exact absurd hM z
      · rw [hD] at z
        cases z
/-- it is from now on left as it is -/
theorem Sto.take (s : Sto K M G H) (hG : G D = none) (hM : M D = none) (hD : H D = some o) : Sto K M (upd G D o) H := by
  have eg : Ex G (upd G D o) := Ex.new hG
  refine ⟨fun a u e => ?_, fun a m e => ?_, fun a m e => ?_⟩
  · by_cases q : a = D
    · subst q
      rw [upd_same] at e
      cases e
      exact hD
    · rw [upd_ne q] at e
      exact s.gh a u e
  · obtain ⟨u, e1, e2⟩ := s.mh a m e
    exact ⟨u, e1, e2.mono eg⟩
  · have q : a ≠ D := fun z => by
      rw [z, hM] at e
      cases e
    rw [upd_ne q]
    exact s.dj a m e
theorem Fw.take (f : Fw M M' G H G' H') (hD : H D = none) (hG : G' D = none) : Fw M M' G H (upd G' D o) H' := ⟨f.g.trans (Ex.new hG), f.fr, fun a e e' => by
  by_cases q : a = D
  · subst q
    exact .inl hD
  · rw [upd_ne q] at e'
    exact f.nw a e e', f.mm⟩
/-- it may change -/
theorem Sto.takeM (s : Sto K M G H) (hG : G D = none) (hD : H D = some o) {m : MO} (ok : MoOk K G m o) : Sto K (setM M D m) G H := by
  refine ⟨s.gh, fun a m' e => ?_, fun a m' e => ?_⟩
  · by_cases q : a = D
    · subst q
      rw [setM_same] at e
      cases e
      exact ⟨o, hD, ok⟩
    · rw [setM_ne q] at e
      exact s.mh a m' e
  · by_cases q : a = D
    · subst q
      exact hG
    · rw [setM_ne q] at e
      exact s.dj a m' e
theorem Fw.takeM (f : Fw M M' G H G' H') (hD : H D = none) (m : MO) : Fw M (setM M' D m) G H G' H' := ⟨f.g, f.fr, f.nw, fun a e => by
  by_cases q : a = D
  · subst q
    exact .inr hD
  · rw [setM_ne q] at e
    exact f.mm a e⟩
end
/-! ### blocks of comprehensions -/
abbrev blkX (X : Cx) (scope : Scope) (s0 : Shared) (H0 : Hp) (C : Addr) (cl : List (Str × Addr)) (fp : List Addr) : Cx := X.blk s0 H0 scope (compEnvC scope cl C X.env) fp
def EvB (X : Cx) (scope : Scope) (e : Expr) (δ : Sl) (M : AM) (P : XP) : Prop := ∀ s0 H0 C cl fp, EvX (blkX X scope s0 H0 C cl fp) e δ M P
def TvB (X : Cx) (scope : Scope) (e : Expr) (δ : Sl) (M : AM) (P : Bool → AM → Prop) : Prop := ∀ s0 H0 C cl fp, TvX (blkX X scope s0 H0 C cl fp) e δ M P
def IvB (X : Cx) (scope : Scope) (tg e : Expr) (δ : Sl) (M : AM) (P : List Sd → AM → Prop) : Prop := ∀ s0 H0 C cl fp, IvX (blkX X scope s0 H0 C cl fp) tg e δ M P
def TsB (X : Cx) (scope : Scope) (ifs : List Expr) (δ : Sl) (M : AM) (Tp : Bool → AM → Prop) : Prop := match ifs with
  | [] => Tp true M
  | [c] => TvB X scope c δ M Tp
  | _ => False
def canEb (X : Cx) (scope : Scope) (e : Expr) : TE := fun σ H Q => ∀ s0 H0 C cl fp, canE (blkX X scope s0 H0 C cl fp) e σ H Q
def canIb (X : Cx) (scope : Scope) (tg e : Expr) : TI := fun σ H Q => ∀ s0 H0 C cl fp, canI (blkX X scope s0 H0 C cl fp) tg e σ H Q
def canTs (X : Cx) (ifs : List Expr) : TT := fun σ H Q => ∀ pins s, Inv X pins σ H s → wpAny (model X.prog X.w) X.A (forIn ifs true fun c r => if r = true then do let ok ← isTrue c X.env (eval c X.env); pure (ForInStep.yield ok) else pure (ForInStep.yield r)) (TP X pins σ Q) X.xe s
def canTb (X : Cx) (scope : Scope) (ifs : List Expr) : TT := fun σ H Q => ∀ s0 H0 C cl fp, canTs (blkX X scope s0 H0 C cl fp) ifs σ H Q
section
variable {X : Cx} {scope : Scope} {e tg : Expr} {ifs : List Expr} {δ : Sl} {M : AM} {P : XP}
theorem peb_can : ∀ s0 H0 C cl fp, PE (blkX X scope s0 H0 C cl fp) e (canEb X scope e) := fun s0 H0 C cl fp => ⟨fun pins s _ _ _ I h => h s0 H0 C cl fp pins s I⟩
theorem pib_can : ∀ s0 H0 C cl fp, PI (blkX X scope s0 H0 C cl fp) tg e (canIb X scope tg e) := fun s0 H0 C cl fp => ⟨fun pins s _ _ _ I h => h s0 H0 C cl fp pins s I⟩
theorem ptb_can : ∀ s0 H0 C cl fp, PTs (blkX X scope s0 H0 C cl fp) ifs (canTb X scope ifs) := fun s0 H0 C cl fp => ⟨fun pins s _ _ _ I h => h s0 H0 C cl fp pins s I⟩
theorem EvB.use (h : EvB X scope e δ M P) {σ : L2.St} {G H : Hp} {Q : VK} (s : Sto X.K M G H) (l : Slt X.K δ σ G) (k : KF X.K M G H P Q) : canEb X scope e σ H Q := fun s0 H0 C cl fp => h s0 H0 C cl fp σ G H Q s l k
theorem IvB.use {PI : List Sd → AM → Prop} (h : IvB X scope tg e δ M PI) {σ : L2.St} {G H : Hp} {R : It → Hp → Prop} (s : Sto X.K M G H) (l : Slt X.K δ σ G)
    (k : ∀ J items M' G' H', Sto X.K M' G' H' → Fw M M' G H G' H' → SrcOk X.K G' J items → PI items M' → R J H') : canIb X scope tg e σ H R := fun s0 H0 C cl fp => h s0 H0 C cl fp σ G H R s l k
theorem TsB.use {Tp : Bool → AM → Prop} (h : TsB X scope ifs δ M Tp) {σ : L2.St} {G H : Hp} {Q : Bool → Hp → Prop} (s : Sto X.K M G H) (l : Slt X.K δ σ G)
    (k : ∀ b M' G' H', Sto X.K M' G' H' → Fw M M' G H G' H' → Tp b M' → Q b H') : canTb X scope ifs σ H Q := fun s0 H0 C cl fp pins sh I => by
  match ifs, h with
  | [], h => exact pts_nil.run pins sh σ H Q I (k true M G H s Fw.refl h)
  | [c], h => exact (pts_one pt_can).run pins sh σ H Q I ((show TvB X scope c δ M Tp from h) s0 H0 C cl fp σ G H Q s l k)
end
/-- a turn of a comprehension's block -/
def LcTurn (X : Cx) (scope : Scope) (ifs : List Expr) (elt : Expr) (g : TG) (ws : List Nat) (δ : Sl) (r : Sd) (M : AM) (Pt : S0 → AM → Prop) (Pf : AM → Prop) : Prop :=
  ∃ δ2 vs Tp, (∀ i ∈ vs, i ∈ ws) ∧ TgD X.K g r M (wipeD δ ws) δ2 vs ∧ TsB X scope ifs δ2 M Tp ∧ (∀ M3, Tp true M3 → EvB X scope elt δ2 M3 fun r M4 => ∃ s0, r = S0.sd s0 ∧ Pt s0 M4) ∧ (∀ M3, Tp false M3 → Pf M3)
/-- what is wanted of the items -/
def LcInv (X : Cx) (scope : Scope) (ifs : List Expr) (elt : Expr) (g : TG) (ws : List Nat) (δ : Sl) (P : XP) (items : List Sd) (M1 : AM) : Prop :=
  ∃ Inv : Nat → List S0 → AM → Prop, Inv 0 [] M1 ∧ items.length < sizeLine ∧
    (∀ i r acc M2, items[i]? = some r → Inv i acc M2 → LcTurn X scope ifs elt g ws δ r M2 (fun s0 M4 => Inv (i + 1) (acc ++ [s0]) M4) (fun M4 => Inv (i + 1) acc M4)) ∧
    (∀ acc M2, Inv items.length acc M2 → (∃ ds : List PyData, acc = ds.map .dat ∧ P (.dat (.list ds)) M2) ∨ ∀ p, M2 p = none → P (.raw (.ref p)) (setM M2 p (.lst acc)))
section
variable {X : Cx} {scope : Scope} {elt tg iter : Expr} {ifs : List Expr} {δ : Sl} {M : AM} {P : XP} {own : List (Str × Nat)} {g : TG} {pos : Pos}
theorem lcRead (h : IvX X tg iter δ M (LcInv X scope ifs elt g (own.map (·.2)) δ P)) {σ : L2.St} {G H : Hp} {Q : VK} (s : Sto X.K M G H) (l : Slt X.K δ σ G) (k : KF X.K M G H P Q) :
    tLc (canI X tg iter) g (canTb X scope ifs) (canEb X scope elt) (own.map (·.2)) σ H Q := by
  refine h σ G H _ s l fun J items M1 G1 H1 s1 f1 src h1 => ?_
  obtain ⟨Inv, h0, hz, hs, hd⟩ := h1
  intro D hD
  obtain ⟨hG1, hM1⟩ := s1.fresh hD
  refine ⟨fun i m H' => m = items.length - i ∧ i ≤ items.length ∧ ∃ acc vs M' G', Sto X.K M' G' H' ∧ H' D = some (.lst vs) ∧ Paired (S0V X.K G') vs acc ∧ G' D = none ∧ M' D = none ∧ Fw M1 M' G1 H1 G' H' ∧ acc.length ≤ i ∧ Inv i acc M',
    ⟨_, rfl, Nat.zero_le _, [], [], M1, G1, s1.beside hG1 hM1 _, upd_same, .nil, hG1, hM1, Fw.refl.beside hD _, Nat.le_refl _, h0⟩, ?_⟩
  rintro i m H' ⟨rfl, hi, acc, vs, M', G', s', hv, hp, hG', hM', f', hl, hI⟩
  by_cases hlt : i < items.length
  · refine .inr ⟨src.go i M' G' H' hlt f'.g s', fun H5 => ∃ acc vs M' G', Sto X.K M' G' H5 ∧ H5 D = some (.lst vs) ∧ Paired (S0V X.K G') vs acc ∧ G' D = none ∧ M' D = none ∧ Fw M1 M' G1 H1 G' H5 ∧ acc.length ≤ i + 1 ∧ Inv (i + 1) acc M',
      fun H5 h5 => ⟨items.length - (i + 1), by omega, rfl, hlt, h5⟩, fun x H2 y => ?_⟩
    obtain ⟨G2, s2, f2, sv⟩ := src.yld i M' G' H' x H2 items[i] (by simp [hlt]) f'.g s' y
    obtain ⟨δ2, ws, Tp, hws, tgd, hts, ht, hf⟩ := hs i items[i] acc M' (by simp [hlt]) hI
    have l2 : Slt X.K (wipeD δ (own.map (·.2))) (wipe σ (own.map (·.2))) G2 := (l.mono ((f1.trans f').trans f2).g).wipe _
    refine tgd x _ G2 H2 _ s2 sv l2 fun σ3 G3 H3 s3 f3 l3 w3 => ⟨by rw [w3 _ hws, wipe_wipe], ?_⟩
    refine hts.use s3 l3 fun b M4 G4 H4 s4 f4 h4 => ?_
    have f24 := (f2.trans f3).trans f4
    obtain ⟨k1, k2, k3⟩ := f24.kept hv hM' hG'
    cases b with
    | false =>
      rw [if_neg Bool.false_ne_true]
      exact ⟨acc, vs, M4, G4, s4, k1, Paired.mapP hp fun _ _ z => S0V.mono f24.g z, k2, k3, f'.trans f24, by omega, hf M4 h4⟩
    | true =>
      rw [if_pos rfl]
      refine (ht M4 h4).use s4 (l3.mono f4.g) fun y r5 M5 G5 H5 s5 f5 sv5 h5 => ?_
      obtain ⟨s0, rfl, h5⟩ := h5
      have f25 := f24.trans f5
      obtain ⟨k4, k5, k6⟩ := f25.kept hv hM' hG'
      refine ⟨vs, k4, ?_, acc ++ [s0], vs ++ [y], M5, G5, s5.beside k5 k6 _, upd_same, ?_, k5, k6, (f'.trans f25).beside hD _, by simp; omega, h5⟩
      · rw [Paired.length hp]
        omega
      · exact paired_append (Paired.mapP hp fun _ _ z => S0V.mono f25.g z) (.cons (s0_of sv5) .nil)
  · have e : i = items.length := by omega
    subst e
    refine .inl ⟨src.stop M' G' H' f'.g s', ?_⟩
    rcases hd acc M' hI with ⟨ds, rfl, hP⟩ | hP
    · have dq := paired_dats hp
      exact k _ _ M' _ H' (s'.take hG' hM' hv) (f1.trans (f'.take hD hG')) (svDat (Dq.lst upd_same (DqAll.mono (Ex.new hG') _ _ dq))) hP
    · exact k _ _ _ G' H' (s'.takeM hG' hv (m := .lst acc) hp) (f1.trans (f'.takeM hD _)) (svRaw _) (hP D hM')
theorem EvX.lc (hc : X.calm = true) (hN : X.N.Nodup) (ok : BlkOk X.N X.env.scope scope own) (hg : ∀ s0 H0 C cl fp, PG (blkX X scope s0 H0 C cl fp) tg g) (h : IvX X tg iter δ M (LcInv X scope ifs elt g (own.map (·.2)) δ P))
    (hs : ∀ x, foldedSetIterable iter X.env x = pure x := by intro _; rfl) : EvX X (.ListComp elt [⟨tg, iter, ifs, 0⟩] scope pos) δ M P := fun σ G H Q s l k =>
  ofE (pe_lc hc hN pi_can ok hg ptb_can peb_can hs) (lcRead h s l k)
theorem SvX.setLc {N : Sl → AM → Prop} {R : XP} {i : Nat} {y : Str} {py spos : Pos} (hc : X.calm = true) (hN : X.N.Nodup) (hy : X.N[i]? = some y) (hyl : X.env.scope.names.lookup y = some .local) (hsw : swapsWith (.ListComp elt [⟨tg, iter, ifs, 0⟩] scope pos) (some (.Name y py)) spos.line X.env = pure true)
    (ok : BlkOk X.N X.env.scope scope own) (hg : ∀ s0 H0 C cl fp, PG (blkX X scope s0 H0 C cl fp) tg g) (h : IvX X tg iter δ M (LcInv X scope ifs elt g (own.map (·.2)) δ fun r M1 => N (δ.set i (some r)) M1))
    (hs : ∀ x, foldedSetIterable iter X.env x = pure x := by intro _; rfl) : SvX X (.Assign [.Name y py] (.ListComp elt [⟨tg, iter, ifs, 0⟩] scope pos) spos) δ M N R := fun σ G H D s l k =>
  ofS (ps_setLc hc hN hy hyl hsw pi_can ok hg ptb_can peb_can hs) (lcRead h s l fun v r M' G' H' s' f' sv n => k.nx _ M' _ G' H' s' ((l.mono f'.g).set i sv) f' n)
/-- each item by itself, the store as it was -/
theorem lcPure {items : List Sd} {M1 : AM} (f : Sd → Option PyData) (hz : items.length < sizeLine) (ht : ∀ r, r ∈ items → LcTurn X scope ifs elt g (own.map (·.2)) δ r M1 (fun s0 M4 => M4 = M1 ∧ ∃ d, f r = some d ∧ s0 = .dat d) (fun M4 => M4 = M1 ∧ f r = none))
    (hP : P (.dat (.list (items.filterMap f))) M1) : LcInv X scope ifs elt g (own.map (·.2)) δ P items M1 := by
  refine ⟨fun i acc M2 => M2 = M1 ∧ acc = ((items.take i).filterMap f).map .dat, ⟨rfl, rfl⟩, hz, fun i r acc M2 hr hI => ?_, fun acc M2 hI => ?_⟩
  · obtain ⟨rfl, rfl⟩ := hI
    have tk : items.take (i + 1) = items.take i ++ [r] := by
      rw [List.take_add_one, hr]
      rfl
    obtain ⟨δ2, vs, Tp, h1, h2, h3, h4, h5⟩ := ht r (List.mem_of_getElem? hr)
    refine ⟨δ2, vs, Tp, h1, h2, h3, fun M3 q s0 H0 C cl fp σ G H Q s l k => h4 M3 q s0 H0 C cl fp σ G H Q s l fun v r' M' G' H' s' f' sv n => k v r' M' G' H' s' f' sv ?_, fun M3 q => ?_⟩
    · obtain ⟨s1, e1, e2, d, e3, e4⟩ := n
      refine ⟨s1, e1, e2, ?_⟩
      rw [tk, List.filterMap_append, List.map_append]
      simp [e3, e4]
    · obtain ⟨e2, e3⟩ := h5 M3 q
      refine ⟨e2, ?_⟩
      rw [tk, List.filterMap_append]
      simp [e3]
  · obtain ⟨rfl, rfl⟩ := hI
    rw [List.take_length]
    exact .inl ⟨_, rfl, hP⟩
/-! ### {k: v for ..} -/
theorem ks_any {K : PySem.W.Frag} {G : Hp} {k : Key} : ∀ {us : List (Key × V)} {xs : List (Key × S0)}, KsV K G us xs → (us.any fun kv => decide (kv.1 = k)) = xs.any fun kv => decide (kv.1 = k)
  | _, _, .nil => rfl
  | _, _, .cons h t => by
    rw [List.any_cons, List.any_cons, ks_any t, h.1]
theorem ks_put {K : PySem.W.Frag} {G : Hp} {k : Key} {v : V} {r : S0} {us : List (Key × V)} {xs : List (Key × S0)} (h : KsV K G us xs) (hv : S0V K G v r) : KsV K G (putK us k v) (put0 xs k r) := by
  have mp : ∀ {us : List (Key × V)} {xs : List (Key × S0)}, KsV K G us xs → KsV K G (us.map fun kv => if kv.1 = k then (kv.1, v) else kv) (xs.map fun kv => if kv.1 = k then (kv.1, r) else kv) := fun {us xs} h => by
    induction xs generalizing us with
    | nil =>
      cases h
      exact .nil
    | cons x xs ih =>
      cases h with
      | cons a t =>
        rename_i u us
        refine .cons ?_ (ih t)
        dsimp only
        by_cases z : u.1 = k
        · rw [if_pos z, if_pos (a.1.symm.trans z)]
          exact ⟨a.1, hv⟩
        · rw [if_neg z, if_neg fun q => z (a.1.trans q)]
          exact a
  unfold putK put0
  rw [ks_any h]
  split
  · exact mp h
  · exact paired_append h (.cons ⟨rfl, hv⟩ .nil)
theorem put0_len {k : Key} {r : S0} {xs : List (Key × S0)} : (put0 xs k r).length ≤ xs.length + 1 := by
  unfold put0
  split
  · rw [List.length_map]
    omega
  · rw [List.length_append]
    exact Nat.le_refl _
def DcTurn (X : Cx) (scope : Scope) (ifs : List Expr) (kx vx : Expr) (g : TG) (ws : List Nat) (δ : Sl) (r : Sd) (M : AM) (Pt : Key → S0 → AM → Prop) (Pf : AM → Prop) : Prop :=
  ∃ δ2 vs Tp, (∀ i ∈ vs, i ∈ ws) ∧ TgD X.K g r M (wipeD δ ws) δ2 vs ∧ TsB X scope ifs δ2 M Tp ∧ (∀ M3, Tp true M3 → EvB X scope kx δ2 M3 fun r M4 => ∃ k, r = .dat (kD k) ∧ EvB X scope vx δ2 M4 fun r M5 => ∃ s0, r = S0.sd s0 ∧ Pt k s0 M5) ∧ (∀ M3, Tp false M3 → Pf M3)
def DcInv (X : Cx) (scope : Scope) (ifs : List Expr) (kx vx : Expr) (g : TG) (ws : List Nat) (δ : Sl) (P : XP) (items : List Sd) (M1 : AM) : Prop :=
  ∃ Inv : Nat → List (Key × S0) → AM → Prop, Inv 0 [] M1 ∧ items.length < sizeLine ∧
    (∀ i r acc M2, items[i]? = some r → Inv i acc M2 → DcTurn X scope ifs kx vx g ws δ r M2 (fun k s0 M4 => Inv (i + 1) (put0 acc k s0) M4) (fun M4 => Inv (i + 1) acc M4)) ∧
    (∀ acc M2, Inv items.length acc M2 → ∀ p, M2 p = none → P (.raw (.ref p)) (setM M2 p (.dK acc)))
theorem EvX.dc {kx vx : Expr} (hc : X.calm = true) (hN : X.N.Nodup) (ok : BlkOk X.N X.env.scope scope own) (hg : ∀ s0 H0 C cl fp, PG (blkX X scope s0 H0 C cl fp) tg g) (h : IvX X tg iter δ M (DcInv X scope ifs kx vx g (own.map (·.2)) δ P))
    (hs : ∀ x, foldedSetIterable iter X.env x = pure x := by intro _; rfl) : EvX X (.DictComp kx vx [⟨tg, iter, ifs, 0⟩] scope pos) δ M P := fun σ G H Q s l k => by
  refine ofE (pe_dc hc hN pi_can ok hg ptb_can peb_can peb_can hs) (h σ G H _ s l fun J items M1 G1 H1 s1 f1 src h1 => ?_)
  obtain ⟨Inv, h0, hz, hs, hd⟩ := h1
  intro D hD
  obtain ⟨hG1, hM1⟩ := s1.fresh hD
  refine ⟨fun i m H' => m = items.length - i ∧ i ≤ items.length ∧ ∃ acc vs M' G', Sto X.K M' G' H' ∧ H' D = some (.dK vs) ∧ KsV X.K G' vs acc ∧ G' D = none ∧ M' D = none ∧ Fw M1 M' G1 H1 G' H' ∧ acc.length ≤ i ∧ Inv i acc M',
    ⟨_, rfl, Nat.zero_le _, [], [], M1, G1, s1.beside hG1 hM1 _, upd_same, .nil, hG1, hM1, Fw.refl.beside hD _, Nat.le_refl _, h0⟩, ?_⟩
  rintro i m H' ⟨rfl, hi, acc, vs, M', G', s', hv, hp, hG', hM', f', hl, hI⟩
  by_cases hlt : i < items.length
  · refine .inr ⟨src.go i M' G' H' hlt f'.g s', fun H5 => ∃ acc vs M' G', Sto X.K M' G' H5 ∧ H5 D = some (.dK vs) ∧ KsV X.K G' vs acc ∧ G' D = none ∧ M' D = none ∧ Fw M1 M' G1 H1 G' H5 ∧ acc.length ≤ i + 1 ∧ Inv (i + 1) acc M',
      fun H5 h5 => ⟨items.length - (i + 1), by omega, rfl, hlt, h5⟩, fun x H2 y => ?_⟩
    obtain ⟨G2, s2, f2, sv⟩ := src.yld i M' G' H' x H2 items[i] (by simp [hlt]) f'.g s' y
    obtain ⟨δ2, ws, Tp, hws, tgd, hts, ht, hf⟩ := hs i items[i] acc M' (by simp [hlt]) hI
    have l2 : Slt X.K (wipeD δ (own.map (·.2))) (wipe σ (own.map (·.2))) G2 := (l.mono ((f1.trans f').trans f2).g).wipe _
    refine tgd x _ G2 H2 _ s2 sv l2 fun σ3 G3 H3 s3 f3 l3 w3 => ⟨by rw [w3 _ hws, wipe_wipe], ?_⟩
    refine hts.use s3 l3 fun b M4 G4 H4 s4 f4 h4 => ?_
    have f24 := (f2.trans f3).trans f4
    obtain ⟨k1, k2, k3⟩ := f24.kept hv hM' hG'
    cases b with
    | false =>
      rw [if_neg Bool.false_ne_true]
      exact ⟨acc, vs, M4, G4, s4, k1, Paired.mapP hp fun _ _ z => ⟨z.1, S0V.mono f24.g z.2⟩, k2, k3, f'.trans f24, by omega, hf M4 h4⟩
    | true =>
      rw [if_pos rfl]
      refine (ht M4 h4).use s4 (l3.mono f4.g) fun y r5 M5 G5 H5 s5 f5 sv5 h5 => ?_
      obtain ⟨kk, rfl, h5⟩ := h5
      refine h5.use s5 (l3.mono (f4.trans f5).g) fun z r6 M6 G6 H6 s6 f6 sv6 h6 => ?_
      obtain ⟨s0, rfl, h6⟩ := h6
      have f26 := (f24.trans f5).trans f6
      obtain ⟨k4, k5, k6⟩ := f26.kept hv hM' hG'
      refine ⟨vs, kk, kD_v sv5, k4, ?_, put0 acc kk s0, putK vs kk z, M6, G6, s6.beside k5 k6 _, upd_same, ?_, k5, k6, (f'.trans f26).beside hD _, Nat.le_trans put0_len (by omega), h6⟩
      · rw [Paired.length hp]
        omega
      · exact ks_put (Paired.mapP hp fun _ _ z => ⟨z.1, S0V.mono f26.g z.2⟩) (s0_of sv6)
  · have e : i = items.length := by omega
    subst e
    exact .inl ⟨src.stop M' G' H' f'.g s', k _ _ _ G' H' (s'.takeM hG' hv (m := .dK acc) hp) (f1.trans (f'.takeM hD _)) (svRaw _) (hd acc M' hI D hM')⟩
end
end Wr
end
section
set_option maxHeartbeats 4000000
namespace Wr
open PySem PySem.Spec PyProof.Rows L2
section
variable {K : PySem.W.Frag} {G : Hp}
theorem fs_look {f : Str} : ∀ {us : List (Str × V)} {fs : List (Str × S0)} {s : S0}, FsV K G us fs → fs.lookup f = some s → ∃ v, us.lookup f = some v ∧ S0V K G v s
  | _, _, _, .nil, h => by cases h
  | _, _, s, .cons (a := p) (b := q) (l₁ := us) (l₂ := fs) h t, e => by
    obtain ⟨pn, pv⟩ := p
    obtain ⟨qn, qv⟩ := q
    obtain ⟨h1, h2⟩ := h
    have h1 : pn = qn := h1
    subst h1
    simp only [List.lookup_cons] at e ⊢
    cases z : (f == pn) with
    | true =>
      rw [z] at e
      cases e
      exact ⟨pv, rfl, h2⟩
    | false =>
      rw [z] at e
      exact fs_look t e
theorem fs_none {f : Str} : ∀ {us : List (Str × V)} {fs : List (Str × S0)}, FsV K G us fs → fs.lookup f = none → us.lookup f = none
  | _, _, .nil, h => rfl
  | _, _, .cons (a := p) (b := q) (l₁ := us) (l₂ := fs) h t, e => by
    obtain ⟨pn, pv⟩ := p
    obtain ⟨qn, qv⟩ := q
    obtain ⟨h1, h2⟩ := h
    have h1 : pn = qn := h1
    subst h1
    simp only [List.lookup_cons] at e ⊢
    cases z : (f == pn) with
    | true =>
      rw [z] at e
      cases e
    | false =>
      rw [z] at e
      exact fs_none t e
/-- an attribute stored -/
def putF0 (f : Str) (v : S0) : List (Str × S0) → List (Str × S0)
  | [] => [(f, v)]
  | (g, x) :: r => if g = f then (g, v) :: r else (g, x) :: putF0 f v r
theorem fs_put {f : Str} {v : V} {s : S0} (hv : S0V K G v s) : ∀ {us : List (Str × V)} {fs : List (Str × S0)}, FsV K G us fs → FsV K G (putF f v us) (putF0 f s fs)
  | _, _, .nil => .cons ⟨rfl, hv⟩ .nil
  | _, _, .cons (a := p) (b := q) (l₁ := us) (l₂ := fs) h t => by
    obtain ⟨pn, pv⟩ := p
    obtain ⟨qn, qv⟩ := q
    obtain ⟨h1, h2⟩ := h
    have h1 : pn = qn := h1
    subst h1
    unfold putF putF0
    split
    · exact .cons ⟨rfl, hv⟩ t
    · exact .cons ⟨rfl, h2⟩ (fs_put hv t)
theorem Sto.insM {M : AM} {H : Hp} (s : Sto K M G H) {p C dx : Addr} {fs : List (Str × S0)} (h : M p = some (.ins C dx fs)) : ∃ us, H p = some (.ins C dx us) ∧ FsV K G us fs := by
  obtain ⟨o, h1, h2⟩ := s.mh p _ h
  cases o with
  | ins C' dx' us =>
    obtain ⟨rfl, rfl, h3⟩ := h2
    exact ⟨us, h1, h3⟩
  | _ => cases h2
end
section
variable {X : Cx} {e o a b i : Expr} {es : List Expr} {δ : Sl} {M : AM} {P : XP} {pos apos : Pos} {f m : Str}
/-! ### attributes -/
theorem EvX.fld (h : EvX X e δ M fun r M1 => ∃ p C dx fs s0, r = .raw (.ref p) ∧ M1 p = some (.ins C dx fs) ∧ fs.lookup f = some s0 ∧ Cls X.K C ∧ NoAttr X.K C f ∧ P s0.sd M1) (hb : attributeBase e f X.env (eval e X.env) = eval e X.env := by rfl) : EvX X (.Attribute e f pos) δ M P := fun σ G H Q s l k =>
  ofE (pe_fld pe_can hb) (h σ G H _ s l fun v r M1 G1 H1 s1 f1 sv h1 => by
    obtain ⟨p, C, dx, fs, s0, rfl, hp, hl, c, n, h1⟩ := h1
    obtain ⟨us, e1, e2⟩ := s1.insM hp
    obtain ⟨v0, e3, e4⟩ := fs_look e2 hl
    exact ⟨p, C, dx, us, v0, sv, e1, c, n, e3, k _ _ M1 G1 H1 s1 f1 e4.sd h1⟩)
variable {N : Sl → AM → Prop} {R : XP}
theorem SvX.setFld {pos' : Pos} (h : EvX X e δ M fun r M1 => EvX X o δ M1 fun ro M2 => ∃ s0 p C dx fs, r = S0.sd s0 ∧ ro = .raw (.ref p) ∧ M2 p = some (.ins C dx fs) ∧ Cls X.K C ∧ NoAttr X.K C f ∧ fs.length < 1000 ∧ N δ (setM M2 p (.ins C dx (putF0 f s0 fs))))
    (hs : swapsWith e (some (.Attribute o f pos')) pos.line X.env = pure false := by rfl) : SvX X (.Assign [.Attribute o f pos'] e pos) δ M N R := fun σ G H D s l k =>
  ofS (ps_fld pe_can pe_can hs) (h σ G H _ s l fun v1 r1 M1 G1 H1 s1 f1 sv1 h1 => h1 σ G1 H1 _ s1 (l.mono f1.g) fun v2 r2 M2 G2 H2 s2 f2 sv2 h2 => by
    obtain ⟨s0, p, C, dx, fs, rfl, rfl, hp, c, n, hl, hn⟩ := h2
    obtain ⟨us, e1, e2⟩ := s2.insM hp
    obtain ⟨s3, f3⟩ := s2.put (o := .ins C dx (putF f v1 us)) (m := .ins C dx (putF0 f s0 fs)) hp ⟨rfl, rfl, fs_put (s0_of (sv1.mono f2.g)) e2⟩
    exact ⟨p, C, dx, us, sv2, e1, c, n, by rw [Paired.length e2]; exact hl, k.nx δ _ σ _ _ s3 (l.mono ((f1.trans f2).trans f3).g) ((f1.trans f2).trans f3) hn⟩)
/-- a target that may change the store -/
def TgM (K : PySem.W.Frag) (g : TG) (r : Sd) (δ : Sl) (M : AM) (N : Sl → AM → Prop) : Prop := ∀ (v : V) (σ : L2.St) (G H : Hp) (Q : L2.St → Hp → Prop), Sto K M G H → SdV K G v r → Slt K δ σ G →
  (∀ δ' M' σ' G' H', Sto K M' G' H' → Slt K δ' σ' G' → Fw M M' G H G' H' → N δ' M' → Q σ' H') → g v σ H Q
def TgsM (K : PySem.W.Frag) (g : TGs) (rs : List Sd) (δ : Sl) (M : AM) (N : Sl → AM → Prop) : Prop := ∀ (us : List V) (σ : L2.St) (G H : Hp) (Q : L2.St → Hp → Prop), Sto K M G H → Paired (SdV K G) us rs → Slt K δ σ G →
  (∀ δ' M' σ' G' H', Sto K M' G' H' → Slt K δ' σ' G' → Fw M M' G H G' H' → N δ' M' → Q σ' H') → g us σ H Q
theorem TgM.name {r : Sd} (i : Nat) (h : N (δ.set i (some r)) M) : TgM X.K (gName i) r δ M N := fun v σ G H Q s sv l k => k _ M _ G H s (l.set i sv) Fw.refl h
theorem TgsM.nil (h : N δ M) : TgsM X.K gNil [] δ M N := fun us σ G H Q s sv l k => by
  cases sv
  exact ⟨rfl, k δ M σ G H s l Fw.refl h⟩
theorem TgsM.cons {g : TG} {t : TGs} {r : Sd} {rs : List Sd} (h : TgM X.K g r δ M fun δ1 M1 => TgsM X.K t rs δ1 M1 N) : TgsM X.K (gCons g t) (r :: rs) δ M N := fun us σ G H Q s sv l k => by
  cases sv with
  | cons q qs => exact ⟨_, _, rfl, h _ σ G H _ s q l fun δ1 M1 σ1 G1 H1 s1 l1 f1 n1 => n1 _ σ1 G1 H1 Q s1 (sds_mono f1.g qs) l1 fun δ2 M2 σ2 G2 H2 s2 l2 f2 n2 => k δ2 M2 σ2 G2 H2 s2 l2 (f1.trans f2) n2⟩
theorem dats_sd {K : PySem.W.Frag} {G : Hp} : ∀ {xs : List V} {ds : List PyData}, DqAll K G xs ds → Paired (SdV K G) xs (ds.map Sd.dat)
  | _, _, .nil => .nil
  | _, _, .cons h t => .cons h (dats_sd t)
theorem TgM.tup {t : TGs} {n : Nat} {ds : List PyData} (hn : ds.length = n) (h : TgsM X.K t (ds.map .dat) δ M N) : TgM X.K (gTup X.K n t) (.dat (.tuple ds)) δ M N := fun v σ G H Q s sv l k => by
  obtain ⟨p, xs, rfl, e1, e2⟩ := sv.tuple
  exact ⟨p, xs, rfl, s.gh.seqT e1, by rw [e2.length]; exact hn, h xs σ G H Q s (dats_sd e2) l k⟩
theorem TgM.fld {r : S0} (h : EvX X o δ M fun ro M2 => ∃ p C dx fs, ro = .raw (.ref p) ∧ M2 p = some (.ins C dx fs) ∧ Cls X.K C ∧ NoAttr X.K C f ∧ fs.length < 1000 ∧ N δ (setM M2 p (.ins C dx (putF0 f r fs)))) : TgM X.K (gFld X.K (canE X o) f) r.sd δ M N := fun v σ G H Q s sv l k =>
  h σ G H _ s l fun v2 r2 M2 G2 H2 s2 f2 sv2 h2 => by
    obtain ⟨p, C, dx, fs, rfl, hp, c, n, hl, hn⟩ := h2
    obtain ⟨us, e1, e2⟩ := s2.insM hp
    obtain ⟨s3, f3⟩ := s2.put (o := .ins C dx (putF f v us)) (m := .ins C dx (putF0 f r fs)) hp ⟨rfl, rfl, fs_put (s0_of (sv.mono f2.g)) e2⟩
    exact ⟨p, C, dx, us, sv2, e1, c, n, by rw [Paired.length e2]; exact hl, k δ _ σ _ _ s3 (l.mono (f2.trans f3).g) (f2.trans f3) hn⟩
theorem SvX.asgM {tg : Expr} {g : TG} (hg : PG X tg g) (h : EvX X e δ M fun r M1 => TgM X.K g r δ M1 N) (hs : swapsWithSole [tg] e pos.line X.env = pure false := by rfl) (hw : swappedStores [tg] e X.env = pure none := by rfl)
    (h1 : (assignEach [tg] X.env).map (·.2) = [assign tg X.env] := by rfl) : SvX X (.Assign [tg] e pos) δ M N R := fun σ G H D s l k =>
  ofS (ps_asg pe_can hg hs hw h1) (h σ G H _ s l fun v r M1 G1 H1 s1 f1 sv h1 => h1 v σ G1 H1 _ s1 sv (l.mono f1.g) fun δ2 M2 σ2 G2 H2 s2 l2 f2 n2 => k.nx δ2 M2 σ2 G2 H2 s2 l2 (f1.trans f2) n2)
/-! ### methods, instances made -/
theorem EvX.meth {C g : Addr} {fd : FuncData} {ps : List Str} {k0 : Nat} {a : ASp} {pl : Sem Bool} (c : Cls X.K C) (hm : Meth X.K C m g) (F : FnOk X.prog X.w X.K X.mg X.base CX0 k0 g fd ps (conc X.K a)) (hr : Room k0 X.A) (hb : Binds X.K fd ps [])
    (h : EvX X o δ M fun r M1 => ∃ p dx fs, r = .raw (.ref p) ∧ M1 p = some (.ins C dx fs) ∧ fs.lookup m = none ∧ AvX X (e :: es) δ M1 fun rs M2 => a (r :: rs) M2 P)
    (hst : starEach (e :: es) X.env = (false, eval e X.env) :: starEach es X.env := by rfl) (hpl : (backTo pos (starEach es X.env)).any (·.1) = false := by rfl)
    (ht : eval (.Call (.Attribute o m apos) (e :: es) [] pos) X.env = (do
      let ov ← eval o X.env
      standAt apos.atName
      let (f, first) ← holding [ov] (getMethod ov m pl)
      callWith pos f first (backTo pos (starEach (e :: es) X.env)) (backToKw pos (keywordEach [] X.env))) := by rfl) : EvX X (.Call (.Attribute o m apos) (e :: es) [] pos) δ M P := fun σ G H Q s l k =>
  ofE (pe_meth pe_can c hm F hr hb .nil pass0 pa_can hst hpl ht) (h σ G H _ s l fun v r M1 G1 H1 s1 f1 sv h1 => by
    obtain ⟨p, dx, fs, rfl, hp, hn, h1⟩ := h1
    obtain ⟨us, e1, e2⟩ := s1.insM hp
    refine ⟨p, dx, us, sv, e1, fs_none e2 hn, h1 σ G1 H1 _ s1 (l.mono f1.g) fun vs rs M2 G2 H2 s2 f2 sv2 h2 => ?_⟩
    rw [List.append_nil]
    exact ⟨_, M2, G2, P, s2, .cons (sv.mono f2.g) sv2, h2, KF.fw k (f1.trans f2)⟩)
theorem EvX.make {x : Str} {p : Pos} {C g : Addr} {fd : FuncData} {ps : List Str} {k0 : Nat} {a : ASp} (MK : Mk X.K C g) (F : FnOk X.prog X.w X.K X.mg X.base CX0 k0 g fd ps (conc X.K a)) (hr : Room (k0 + 1) X.A) (hm : X.mg x = some (.ref C)) (hb : Binds X.K fd ps [])
    (h : AvX X (e :: es) δ M fun rs M1 => ∀ q dx, M1 q = none → a (.raw (.ref q) :: rs) (setM M1 q (.ins C dx [])) fun r M2 => r = .dat .none ∧ P (.raw (.ref q)) M2) (hg : Gl X x := by rfl)
    (hdb : (x == ("__debug__" : Str)) = false := by decide) (he : starEach (e :: es) X.env = (false, eval e X.env) :: starEach es X.env := by rfl) (hpl : (backTo pos (starEach es X.env)).any (·.1) = false := by rfl) : EvX X (.Call (.Name x p) (e :: es) [] pos) δ M P := fun σ G H Q s l k =>
  ofE (pe_make MK F hr hg hm hb .nil pass0 pa_can hdb he hpl) (h σ G H _ s l fun vs rs M1 G1 H1 s1 f1 sv h1 => fun q dx hq hdx hne => by
    obtain ⟨hG, hM⟩ := s1.fresh hdx
    have s2 : Sto X.K M1 G1 (upd H1 dx (.own q)) := s1.beside hG hM _
    have hq2 : upd H1 dx (.own q) q = none := by rw [upd_ne hne.symm]; exact hq
    obtain ⟨s3, f3⟩ := s2.layM (o := .ins C dx []) (m := .ins C dx []) hq2 ⟨rfl, rfl, .nil⟩
    have f2 : Fw M1 M1 G1 H1 G1 (upd H1 dx (.own q)) := Fw.refl.beside hdx _
    have f13 := (f1.trans f2).trans f3
    rw [List.append_nil]
    refine ⟨_, _, G1, _, s3, .cons (svRaw _) sv, h1 q dx (s1.fresh hq).2, fun v r M' G' H' s' f' sv' n => ?_⟩
    obtain ⟨rfl, n⟩ := n
    exact ⟨sv'.non, k _ _ M' G' H' s' (f13.trans f') (svRaw _) n⟩)
/-! ### dicts that may change -/
theorem SvX.setKey {pos' : Pos} (hu : X.A.units + 1 < cLine) (h : EvX X e δ M fun r M1 => EvX X o δ M1 fun ro M2 => EvX X i δ M2 fun ri M3 => ∃ s0 d xs q, r = S0.sd s0 ∧ ro = .raw (.ref d) ∧ M3 d = some (.dK xs) ∧ ri = .dat (kD q) ∧ xs.length < sizeLine ∧ N δ (setM M3 d (.dK (put0 xs q s0))))
    (hs : swapsWith e (some (.Subscript o i pos')) pos.line X.env = pure false := by rfl) : SvX X (.Assign [.Subscript o i pos'] e pos) δ M N R := fun σ G H D s l k =>
  ofS (ps_dput hu pe_can pe_can pe_can hs) (h σ G H _ s l fun v1 r1 M1 G1 H1 s1 f1 sv1 h1 => h1 σ G1 H1 _ s1 (l.mono f1.g) fun v2 r2 M2 G2 H2 s2 f2 sv2 h2 => h2 σ G2 H2 _ s2 (l.mono (f1.trans f2).g) fun v3 r3 M3 G3 H3 s3 f3 sv3 h3 => by
    obtain ⟨s0, d, xs, q, rfl, rfl, hd, rfl, hz, hn⟩ := h3
    obtain ⟨us, e1, e2⟩ := s3.dictM hd
    obtain ⟨s4, f4⟩ := s3.put (o := .dK (putK us q v1)) (m := .dK (put0 xs q s0)) hd (ks_put e2 (s0_of ((sv1.mono f2.g).mono f3.g)))
    refine ⟨d, _, sv2, ?_, k.nx δ _ σ _ _ s4 (l.mono (((f1.trans f2).trans f3).trans f4).g) (((f1.trans f2).trans f3).trans f4) hn⟩
    rw [kD_v sv3]
    exact DPut.k e1 (by rw [Paired.length e2]; exact hz))
theorem at0_some {K : PySem.W.Frag} {G : Hp} {k : Key} {us : List (Key × V)} {xs : List (Key × S0)} (h : KsV K G us xs) : (valV us k).isSome = (at0 xs k).isSome := by
  rcases val_at0 (k := k) h with ⟨e1, e2⟩ | ⟨v, r, e1, e2, _⟩
  · rw [e1, e2]
    rfl
  · rw [e1, e2]
    rfl
theorem EvX.inK (hu : X.A.units + 1 < cLine) (h : EvX X i δ M fun ri M1 => EvX X o δ M1 fun ro M2 => ∃ d xs q, ro = .raw (.ref d) ∧ M2 d = some (.dK xs) ∧ ri = .dat (kD q) ∧ P (.dat (.bool (at0 xs q).isSome)) M2) (hm : behindInMarks .In o = false := by rfl) : EvX X (.Compare i [.In] [o] pos) δ M P := fun σ G H Q s l k =>
  ofE (pe_cmp (pc_din hu pe_can pe_can) hm) (h σ G H _ s l fun v1 r1 M1 G1 H1 s1 f1 sv1 h1 => h1 σ G1 H1 _ s1 (l.mono f1.g) fun v2 r2 M2 G2 H2 s2 f2 sv2 h2 => by
    obtain ⟨d, xs, q, rfl, hd, rfl, n⟩ := h2
    obtain ⟨us, e1, e2⟩ := s2.dictM hd
    refine ⟨d, valV us q, sv2, ?_, k _ _ M2 G2 H2 s2 (f1.trans f2) (by rw [at0_some e2]; exact svBl _) n⟩
    rw [kD_v sv1]
    exact DGet.k e1)
theorem EvX.ninK (hu : X.A.units + 1 < cLine) (h : EvX X i δ M fun ri M1 => EvX X o δ M1 fun ro M2 => ∃ d xs q, ro = .raw (.ref d) ∧ M2 d = some (.dK xs) ∧ ri = .dat (kD q) ∧ P (.dat (.bool (!(at0 xs q).isSome))) M2) (hm : behindInMarks .NotIn o = false := by rfl) : EvX X (.Compare i [.NotIn] [o] pos) δ M P := fun σ G H Q s l k =>
  ofE (pe_cmp (pc_dnotin hu pe_can pe_can) hm) (h σ G H _ s l fun v1 r1 M1 G1 H1 s1 f1 sv1 h1 => h1 σ G1 H1 _ s1 (l.mono f1.g) fun v2 r2 M2 G2 H2 s2 f2 sv2 h2 => by
    obtain ⟨d, xs, q, rfl, hd, rfl, n⟩ := h2
    obtain ⟨us, e1, e2⟩ := s2.dictM hd
    refine ⟨d, valV us q, sv2, ?_, k _ _ M2 G2 H2 s2 (f1.trans f2) (by rw [at0_some e2]; exact svBl _) n⟩
    rw [kD_v sv1]
    exact DGet.k e1)
/-- {k: v}, one entry -/
theorem EvX.dict1 {kx vx : Expr} (h : ∀ p, M p = none → EvX X kx δ (setM M p (.dK [])) fun rk M1 => EvX X vx δ M1 fun rv M2 => ∃ q s0, rk = .dat (kD q) ∧ rv = S0.sd s0 ∧ M2 p = some (.dK []) ∧ P (.raw (.ref p)) (setM M2 p (.dK [(q, s0)])))
    (hp : PPs X pos [some kx] [vx] [(canE X kx, canE X vx)] := by exact pps_cons pe_can pe_can pps_nil) : EvX X (.Dict [some kx] [vx] pos) δ M P := fun σ G H Q s l k =>
  ofE (pe_disp hp rfl rfl (fun z => by cases z) (by show 1 ≤ 15; decide)) (fun p hp0 => by
    obtain ⟨s1, f1⟩ := s.layM (o := .dK []) (m := .dK []) hp0 .nil
    refine h p (s.fresh hp0).2 σ G _ _ s1 (l.mono f1.g) fun v2 r2 M2 G2 H2 s2 f2 sv2 h2 => h2 σ G2 H2 _ s2 (l.mono (f1.trans f2).g) fun v3 r3 M3 G3 H3 s3 f3 sv3 h3 => ?_
    obtain ⟨q, s0, rfl, rfl, hd, n⟩ := h3
    obtain ⟨us, e1, e2⟩ := s3.dictM hd
    cases e2
    refine ⟨e1, [(q, v3)], by rw [kD_v sv2]; rfl, by show 1 ≤ 15; decide, ?_⟩
    obtain ⟨s4, f4⟩ := s3.put (o := .dK [(q, v3)]) (m := .dK [(q, s0)]) hd (.cons ⟨rfl, s0_of sv3⟩ .nil)
    exact k _ _ _ _ _ s4 (((f1.trans f2).trans f3).trans f4) (svRaw _) n)
/-! ### the module's own dicts -/
theorem VOp.ninKd {d : Addr} {es : Array DictEntry} {n : Nat} {z : Str} {r : Option Value} (D : KDict X.K X.w d es n) (hr : PySem.W.nsIn X.K d z = some r) (h : P (.dat (.bool (!r.isSome))) M) : VOp X (compareOp .NotIn) (.dat (.str z)) (.raw (.ref d)) M P :=
  VOp.of (op_notIn_kd D) fun v1 v2 G H Q s q1 q2 k => ⟨z, r, q1.str, q2, hr, k _ _ M G H s Fw.refl (svBl _) h⟩
/-! ### a def that a name holds -/
theorem EvX.callL {x : Str} {p : Pos} {j k0 : Nat} {g : Addr} {fd : FuncData} {ps : List Str} {a : ASp} (F : FnOk X.prog X.w X.K X.mg X.base CX0 k0 g fd ps (conc X.K a)) (hr : Room k0 X.A) (hk : PySem.W.keepIn X.K (.ref g) = true) (hb : Binds X.K fd ps []) (hδ : δ[j]? = some (some (.raw (.ref g))))
    (h : AvX X (e :: es) δ M fun rs M1 => a rs M1 P) (hN : X.N[j]? = some x := by rfl) (hv : Vis X.env.scope x := by first | exact Or.inl rfl | exact Or.inr (Or.inl rfl) | exact Or.inr (Or.inr rfl))
    (hc : ∀ {t : TA}, PA X (e :: es) t → PE X (.Call (.Name x p) (e :: es) [] pos) (tCallL j g (conc X.K a) [] E0 t)) : EvX X (.Call (.Name x p) (e :: es) [] pos) δ M P := fun σ G H Q s l k => by
  refine ofE (hc pa_can) ?_
  obtain ⟨v, h1, h2⟩ := l.at_ j _ hδ
  refine ⟨by rw [h1, show v = .ref g from h2], h σ G H _ s l fun vs rs M1 G1 H1 s1 f1 sv1 h1 => ?_⟩
  rw [List.append_nil]
  exact ⟨rs, M1, G1, P, s1, sv1, h1, KF.fw k f1⟩
/-! ### keywords -/
def canK (X : Cx) (kws : List Keyword) : TA := fun σ H Q => ∀ pos pins s, Inv X pins σ H s → wpAny (model X.prog X.w) X.A (evalAll ((backToKw pos (keywordEach kws X.env)).map (·.2))) (AP X pins σ Q) X.xe s
theorem pk_can {kws : List Keyword} : PK X kws (canK X kws) := ⟨fun pos pins s _ _ _ I h => h pos pins s I⟩
def KvX (X : Cx) (kws : List Keyword) (δ : Sl) (M : AM) (P : List Sd → AM → Prop) : Prop := ∀ (σ : L2.St) (G H : Hp) (Q : List V → Hp → Prop), Sto X.K M G H → Slt X.K δ σ G →
  (∀ vs rs M' G' H', Sto X.K M' G' H' → Fw M M' G H G' H' → Paired (SdV X.K G') vs rs → P rs M' → Q vs H') → canK X kws σ H Q
variable {PL : List Sd → AM → Prop} {kws : List Keyword}
theorem KvX.nil (h : PL [] M) : KvX X [] δ M PL := fun σ G H Q s l k => fun pos pins sh I => pk_nil.run pos pins sh σ H Q I (k [] [] M G H s Fw.refl .nil h)
theorem KvX.cons {nm : Option Str} {kpos : Pos} (h : EvX X e δ M fun r M1 => KvX X kws δ M1 fun rs M2 => PL (r :: rs) M2) : KvX X (⟨nm, e, kpos⟩ :: kws) δ M PL := fun σ G H Q s l k => fun pos pins sh I =>
  (pk_cons pe_can pk_can).run pos pins sh σ H Q I (h σ G H _ s l fun v r M1 G1 H1 s1 f1 sv1 h1 => h1 σ G1 H1 _ s1 (l.mono f1.g) fun vs rs M2 G2 H2 s2 f2 sv2 h2 => k _ _ M2 G2 H2 s2 (f1.trans f2) (.cons (sv1.mono f2.g) sv2) h2)
theorem EvX.callN {x : Str} {p : Pos} {k0 n : Nat} {f : Addr} {fd : FuncData} {ps ks : List Str} {a : ASp} {g : List Value → List Value → List Value} {gV : List V → List V → List V} {gS : List Sd → List Sd → List Sd}
    (F : FnOk X.prog X.w X.K X.mg X.base CX0 k0 f fd ps (conc X.K a)) (hr : Room k0 X.A) (hm : X.mg x = some (.ref f)) (hk : PySem.W.keepIn X.K (.ref f) = true) (hb : KBn X.K fd ps n ks g gV)
    (hS : ∀ (G : Hp) (vs zs : List V) (rs ss : List Sd), Paired (SdV X.K G) vs rs → Paired (SdV X.K G) zs ss → Paired (SdV X.K G) (gV vs zs) (gS rs ss))
    (h : AvX X (e :: es) δ M fun rs M1 => KvX X kws δ M1 fun ss M2 => rs.length = n ∧ ss.length = ks.length ∧ a (gS rs ss) M2 P) (hg : Gl X x := by rfl)
    (hall : (backToKw pos (keywordEach kws X.env)).all (·.1.isSome) = true := by rfl) (hks : (backToKw pos (keywordEach kws X.env)).filterMap (·.1) = ks := by rfl) (hdb : (x == ("__debug__" : Str)) = false := by decide)
    (he : starEach (e :: es) X.env = (false, eval e X.env) :: starEach es X.env := by rfl)
    (hpl : ((backTo pos (starEach (e :: es) X.env)).any (·.1) || (backToKw pos (keywordEach kws X.env)).any (·.1.isNone)) = false := by rfl) : EvX X (.Call (.Name x p) (e :: es) kws pos) δ M P := fun σ G H Q s l k =>
  ofE (pe_callN F hr hg hm hk hb pass0 pa_can pk_can hall hks hdb he hpl) (h σ G H _ s l fun vs rs M1 G1 H1 s1 f1 sv1 h1 => h1 σ G1 H1 _ s1 (l.mono f1.g) fun zs ss M2 G2 H2 s2 f2 sv2 h2 => by
    obtain ⟨n1, n2, n3⟩ := h2
    have sv1' := sds_mono f2.g sv1
    exact ⟨by rw [Paired.length sv1', n1], by rw [Paired.length sv2, n2], _, M2, G2, P, s2, hS G2 _ _ _ _ sv1' sv2, n3, KF.fw k (f1.trans f2)⟩)
/-! ### try that no exception leaves -/
theorem SvX.tryNo {body : List Stmt} {h0 : ExceptHandler} {hs : List ExceptHandler} (hn : ∀ e s, ¬ X.xe e s) (h : BvX X body δ M N R) : SvX X (.Try body (h0 :: hs) [] [] pos) δ M N R := fun σ G H D s l k => by
  refine ofS (ps_try_never hn pss_can pss_nil) ?_
  exact h σ G H _ s l ⟨k.nx, k.rt⟩
/-! ### from may change to stays -/
theorem BvX.freeze {sts : List Stmt} {l0 : Addr} {ds : List PyData} {δ' : Sl} (hm : M l0 = some (.lst (ds.map .dat))) (hδ : ∀ (i : Nat) (r' : Sd), δ'[i]? = some (some r') → ∃ r, δ[i]? = some (some r) ∧ (r' = r ∨ (r = .raw (.ref l0) ∧ r' = .dat (.list ds)))) (hl : δ'.length = δ.length)
    (h : BvX X sts δ' (delM M l0) N R) : BvX X sts δ M N R := fun σ G H D s l k => by
  obtain ⟨vs, e1, e2⟩ := s.lstM hm
  obtain ⟨s1, f1⟩ := s.freeze hm e1
  have dq := DqAll.mono f1.g _ _ (paired_dats e2)
  refine h σ _ H D s1 ⟨by rw [l.len, hl], fun i r' e => ?_⟩ (k.fw f1)
  obtain ⟨r, e3, e4⟩ := hδ i r' e
  obtain ⟨v, e5, e6⟩ := l.at_ i r e3
  rcases e4 with rfl | ⟨rfl, rfl⟩
  · exact ⟨v, e5, e6.mono f1.g⟩
  · exact ⟨v, e5, by rw [show v = .ref l0 from e6]; exact svDat (Dq.lst upd_same dq)⟩
/-- less is said of the store -/
theorem BvX.forget {sts : List Stmt} {M1 : AM} (hm : ∀ a m, M1 a = some m → M a = some m) (h : BvX X sts δ M1 N R) : BvX X sts δ M N R := fun σ G H D s l k => by
  obtain ⟨s1, f1⟩ := s.forget hm
  exact h σ G H D s1 l (k.fw f1)
theorem EvX.forget {M1 : AM} (h : EvX X e δ M fun r M2 => ∃ M3, (∀ a m, M3 a = some m → M2 a = some m) ∧ P r M3) : EvX X e δ M P := fun σ G H Q s l k => h σ G H Q s l fun v r M' G' H' s' f' sv n => by
  obtain ⟨M3, h3, n⟩ := n
  obtain ⟨s1, f1⟩ := s'.forget h3
  exact k v r M3 G' H' s1 (f'.trans f1) sv n
end
end Wr
end
section
set_option maxHeartbeats 4000000
/-! len(set(t)), t a tuple of texts no two of which are one. -/
namespace Wr
open PySem PySem.Spec PyProof.Rows L2
theorem any_take {xs : List Str} {i : Nat} {x : Str} (h : xs[i]? = some x) (k : Str) : ((xs.take i).any (· == k) || decide (k = x)) = (xs.take (i + 1)).any (· == k) := by
  rw [List.take_add_one, h]
  show _ = (xs.take i ++ [x]).any (· == k)
  rw [List.any_append]
  congr 1
  by_cases e : k = x
  · subst e
    simp
  · have e' : (x == k) = false := beq_eq_false_iff_ne.mpr fun z => e z.symm
    simp [e, e']
theorem fresh_take {xs : List Str} (nd : xs.Nodup) {i : Nat} {x : Str} (h : xs[i]? = some x) : (xs.take i).any (· == x) = false := by
  cases q : (xs.take i).any (· == x) with
  | false => rfl
  | true =>
    obtain ⟨y, hy, e⟩ := List.any_eq_true.mp q
    have e2 : y = x := by simpa using e
    subst e2
    obtain ⟨j, hj, ej⟩ := List.mem_iff_getElem.mp hy
    rw [List.length_take] at hj
    rw [List.getElem_take] at ej
    obtain ⟨hi, ei⟩ := List.getElem?_eq_some_iff.mp h
    have z := (List.getElem_inj nd).mp (ej.trans ei.symm)
    omega
section
variable {prog : Program} {w : World} {A : Around} {R : Result → Shared → Prop} {I : Addr} {fp wr : List Addr} {G : Array GenState → Array GenState → Prop} {n : Nat} {PV : Nat → Value → Prop} {St : Nat → Shared → Prop}
theorem setLoop (W : WalksS prog w A.in1 I fp wr G n PV St) (S : Addr) (notfp : S ∉ fp) (xs : List Str) (nd : xs.Nodup) (size : xs.length = n) (room : n + 1 < scanBound) (vals : ∀ i v, PV i v → ∃ t, v = .str (xs.getD i Str.empty) t) :
    ∀ (k i : Nat) (s : Shared), n - i = k → i ≤ n → St i s → s.heap.SetOf (PySem.strKind prog w) S (fun z => (xs.take i).any (· == z)) i →
      (∀ s', Moved (S :: wr) G s s' → s'.heap.SetOf (PySem.strKind prog w) S (fun z => (xs.take n).any (· == z)) n → R (.ok (.ret .none)) s') →
      codeAny (model prog w) A (.builtin "set.update.loop" ⟨[.ref S, .ref I], []⟩) R s := by
  have notwr : S ∉ wr := fun z => notfp (W.sub _ z)
  have more : ∀ b ∈ wr, b ∈ S :: wr := fun b z => List.mem_cons_of_mem _ z
  have carry : ∀ {i : Nat} {s s' : Shared}, Moved wr G s s' → s.heap.SetOf (PySem.strKind prog w) S (fun z => (xs.take i).any (· == z)) i → s'.heap.SetOf (PySem.strKind prog w) S (fun z => (xs.take i).any (· == z)) i := fun hm hS => by
    obtain ⟨o, es, ep, t, ho, r⟩ := hS
    exact ⟨o, es, ep, t, hm.heap S _ notwr ho, r⟩
  intro k
  induction k with
  | zero =>
    intro i s hk hi hst hS hR
    obtain rfl : i = n := by omega
    refine codeAny_builtin PyProof.Rows.F.entry_set_update_loop ?_
    rw [Around.under_plainId PyProof.Rows.F.plain_set_update_loop _]
    show wpAny _ A.in1 (pyNext (.ref I) >>= _) _ _ s
    refine wpAny_bind (W.done s _ _ hst fun s' hm => ?_)
    show wpAny _ A.in1 (ret Value.none) _ _ s'
    exact wpAny_pure (hR s' (hm.mono more) (carry hm hS))
  | succ k ih =>
    intro i s hk hi hst hS hR
    have lt : i < n := by omega
    have hx : xs[i]? = some (xs.getD i Str.empty) := by
      have z : i < xs.length := by omega
      simp [List.getD, z]
    refine codeAny_builtin PyProof.Rows.F.entry_set_update_loop ?_
    rw [Around.under_plainId PyProof.Rows.F.plain_set_update_loop _]
    show wpAny _ A.in1 (pyNext (.ref I) >>= _) _ _ s
    refine wpAny_bind (W.item i s _ _ lt hst fun v s' hv hst' hm => ?_)
    obtain ⟨t, rfl⟩ := vals i v hv
    show wpAny _ A.in1 (holding [Value.str (xs.getD i Str.empty) t] (setAdd S (.str (xs.getD i Str.empty) t)) >>= _) _ _ s'
    refine wpAny_bind (wpAny_holding ?_)
    unfold setAdd
    refine wpAny_holding (wpAny_bind ((PySem.strKind prog w).pyHash (k := xs.getD i Str.empty) (strKind_is _ _ _ _) ?_))
    refine wpAny_setAddHashed_of (knd := PySem.strKind prog w) (s := { s' with toks := s'.toks + 1 }) (strKind_is _ _ _ _) rfl (show s'.heap.SetOf _ _ _ _ from carry hm hS) (by omega) fun h' sb h2 => ?_
    have next : h'.SetOf (PySem.strKind prog w) S (fun z => (xs.take (i + 1)).any (· == z)) (i + 1) := SetOf_congr h2 (any_take hx) (by rw [if_neg (by rw [fresh_take nd hx]; decide)])
    refine wpAny_pure ⟨plainId_quiet PyProof.Rows.F.plain_set_update_loop _, ih (i + 1) _ (by omega) lt (W.frame _ s' _ _ hst' (Nat.le_succ _) fun b hb o e => ?_) next fun s'' hm2 hS2 => ?_⟩
    · rw [sb.2 b (fun z : b = S => notfp (z ▸ hb))]
      exact e
    · refine hR s'' (Moved.trans W.gtrans ((hm.mono more).then_heap (Nat.le_succ _) fun b o hb e => ?_) hm2) hS2
      rw [sb.2 b (fun z : b = S => hb (z ▸ List.mem_cons_self))]
      exact e
end
section
variable {prog : Program} {w : World} {A : Around} {E : Value → Shared → Prop} {s : Shared}
theorem setOfTexts {l : Addr} {its : Array Value} {xs : List Str} {Q : Value → Shared → Prop} (calm : A.handled = none) (hl : s.heap.IsTuple l its) (hi : PyProof.Rows.StrsAre its.toList xs) (nd : xs.Nodup) (room : xs.length + 1 < scanBound)
    (h : ∀ (h' : Heap) (tk : Nat), h'.SetOf (PySem.strKind prog w) s.heap.objs.size (fun z => (xs.take xs.length).any (· == z)) xs.length → (∀ b o, s.heap.get? b = some o → h'.get? b = some o) → Q (.ref s.heap.objs.size) { s with heap := h', toks := tk }) :
    wpAny (model prog w) A (call (.type "set") [.ref l]) Q E s := by
  obtain ⟨c, tl, mro⟩ := PySem.F.called_set.mro
  have made := PySem.F.called_set.made
  have sub := PySem.F.called_set.sub
  have n1 := PySem.F.called_set.notType
  have n2 := PySem.F.called_set.canCreate
  have n3 := PySem.F.typeCall_set_1 (.ref l)
  refine wpAny_call (codeAny_of_tree ?_)
  show wpAny _ _ (callAny (.type "set") _) _ _ _
  refine wpAny_pure ⟨Code.quiet_builtin _ (by decide +kernel), codeAny_builtin PySem.F.entry_type_call ?_⟩
  rw [Around.under_plain (weight_type_call_type "set" [.ref l] []) rfl]
  repeat (any_goals (first | assumption | wp_step))
  refine codeAny_mono (code_set_new_1 (.ref l) (E := E) (Q₁ := fun ob s1 => ∃ led : Bool, ob = .ref s.heap.objs.size ∧ s1 = { s with heap := s.heap.push { cls := .type "set", dict := none, data := .set #[] 0 (.fresh 0 0 led) } }) fun led => ⟨led, rfl, rfl⟩) fun r s1 hr => ?_
  cases r with
  | error e => exact hr
  | ok fl =>
    cases fl with
    | ret ob =>
      obtain ⟨led, rfl, rfl⟩ := hr
      have atS : (s.heap.push { cls := .type "set", dict := none, data := .set #[] 0 (.fresh 0 0 led) }).get? s.heap.objs.size = some { cls := .type "set", dict := none, data := .set #[] 0 (.fresh 0 0 led) } := Heap.get?_push_size _ rfl
      have tyS : Shared.TypeIs { s with heap := s.heap.push { cls := .type "set", dict := none, data := .set #[] 0 (.fresh 0 0 led) } } (.ref s.heap.objs.size) "set" := ⟨_, atS, rfl⟩
      have i1 := PySem.F.called_set.init.lookup
      have i2 := PySem.F.called_set.init.bind (.ref s.heap.objs.size)
      repeat (any_goals (first | assumption | wp_step))
      refine codeAny_mono (codeAny_call_builtin (R := wants (fun r s2 => r = .none ∧ ∃ h' tk, s2 = { s with heap := h', toks := tk } ∧ h'.SetOf (PySem.strKind prog w) s.heap.objs.size (fun z => (xs.take xs.length).any (· == z)) xs.length ∧
          (∀ b o, s.heap.get? b = some o → h'.get? b = some o)) E) PySem.F.called_set.init.plain PySem.F.entry_set_init (check_set_init_1 tyS ?_)) fun r2 s2 hr2 => ?_
      · obtain ⟨⟨ocls, odict, odata, osl⟩, hol, hcl, nl, hdl⟩ := hl
        simp only at hcl hdl
        subst hcl hdl
        have hol2 : (s.heap.push { cls := .type "set", dict := none, data := .set #[] 0 (.fresh 0 0 led) }).get? l = some { cls := .type "tuple", dict := odict, data := .seq its nl, slots := osl } := Heap.get?_push_of_some _ hol
        have t1 := PySem.F.sub_tuple_set
        have t2 := PySem.F.sub_tuple_frozenset
        have t3 : (Value.type "tuple" == Value.type "dict") = false := by decide
        have hl1 : (s.heap.push { cls := .type "set", dict := none, data := .set #[] 0 (.fresh 0 0 led) }).IsTuple l its := ⟨_, hol2, rfl, nl, rfl⟩
        unfold Builtin.«set.__init__» noKeywords Builtin.Frozenset.updateFrom
        generalize itr : pyIter = PI
        wp_walk
        subst itr
        refine wpAny_pyIter_tuple hl1 (wpAny_bind (wpAny_runValue ?_))
        have lt : l < s.heap.objs.size := Heap.lt_size hol
        have calm3 : A.in1.in1.in1.handled = none := by simp [calm]
        have sz1 : (s.heap.push { cls := .type "set", dict := none, data := .set #[] 0 (.fresh 0 0 led) }).objs.size = s.heap.objs.size + 1 := Heap.size_push ..
        have ne1 : l ≠ (s.heap.push { cls := .type "set", dict := none, data := .set #[] 0 (.fresh 0 0 led) }).objs.size := by
          rw [sz1]
          exact Nat.ne_of_lt (Nat.lt_succ_of_lt lt)
        have out : s.heap.objs.size ∉ [(s.heap.push { cls := .type "set", dict := none, data := .set #[] 0 (.fresh 0 0 led) }).objs.size, l] := by
          rw [sz1]
          simp only [List.mem_cons, List.not_mem_nil, or_false, not_or]
          exact ⟨Nat.ne_of_lt (Nat.lt_succ_self _), Nat.ne_of_gt lt⟩
        have len : xs.length = its.size := by rw [← StrsAre.len_eq hi, Array.length_toList]
        refine setLoop ((Walks.tuple calm3 _ l ne1 its).toS) s.heap.objs.size out xs nd len (by rw [← len]; exact room) (fun i v hv => SS.strs_at hi i v (by rw [Array.getElem?_toList]; exact hv)) (its.size - 0) 0 _ rfl (Nat.zero_le _)
          ⟨⟨_, Heap.get?_push_size _ rfl, rfl, rfl⟩, hl1.push _⟩ (SetOf_congr ((PyProof.Rows.setObjOf_fresh (knd := PySem.strKind prog w) led).setOf (Heap.get?_push_of_some _ atS) (by unfold scanBound; omega)) (fun _ => rfl) rfl) fun s' hm hS => ?_
        obtain ⟨h', g', d', tk', os'⟩ := s'
        have eg : g' = s.gens := hm.gens
        have ed : d' = s.drawn := hm.drawn
        have eo : os' = s.os := hm.os
        subst eg ed eo
        show wpAny _ _ _ _ _ _
        refine wpAny_pure ?_
        show wpAny _ _ (ret Value.none) _ _ _
        rw [← len] at hS
        refine wpAny_pure ⟨rfl, h', tk', rfl, hS, fun b o e => ?_⟩
        have hb : b < s.heap.objs.size := Heap.lt_size e
        refine hm.heap b o ?_ (Heap.get?_push_of_some _ (Heap.get?_push_of_some _ e))
        rw [sz1]
        simp only [List.mem_cons, List.not_mem_nil, or_false, not_or]
        exact ⟨Nat.ne_of_lt hb, Nat.ne_of_lt (Nat.lt_succ_of_lt hb)⟩
      · cases r2 with
        | error e => exact hr2
        | ok fl2 =>
          cases fl2 with
          | ret r =>
            obtain ⟨rfl, h', tk, rfl, hS, kp⟩ := hr2
            repeat (any_goals (first | assumption | wp_step))
            exact h _ _ hS kp
          | _ => exact hr2.elim
    | _ => exact hr.elim
end
/-- len(set(t)) -/
def tLenT (K : PySem.W.Frag) (ta : TE) : TE := fun σ H Q => ta σ H fun x H1 => ∃ (l : Addr) (xs : List Str), x = .ref l ∧ SqT K H1 l (xs.map V.str) ∧ xs.Nodup ∧ xs.length ≤ 100 ∧ Q (.int xs.length) H1
theorem pe_lenT {X : Cx} {a : Expr} {ta : TE} {p p2 q pos : Pos} (hc : X.calm = true) (hg : Gl X "len") (hm : X.mg "len" = none) (hg2 : Gl X "set") (hm2 : X.mg "set" = none) (ha : PE X a ta)
    (na : starEach [a] X.env = (false, eval a X.env) :: starEach [] X.env := by rfl) : PE X (.Call (.Name "len" p) [.Call (.Name "set" p2) [a] [] q] [] pos) (tLenT X.K ta) := by
  refine ⟨fun pins s σ H Q I h => ?_⟩
  refine Call_ (ld_blt I hg hm boot_len (PyProof.Rows.callWith_builtin1 (PyProof.Rows.args_cons ?_ rfl) rfl rfl))
  refine Call_ (ld_blt I hg2 hm2 boot_set (PyProof.Rows.callWith_type1 (PyProof.Rows.args_cons (thn (ha.run pins s σ H _ I h) fun v s1 ⟨x, H1, I1, r1, q1⟩ => PyProof.Rows.args_nil ?_) na) na rfl))
  obtain ⟨l, xs, rfl, hq, nd, few, q1⟩ := q1
  cases r1
  obtain ⟨its, r, pl, hz⟩ := I1.tuple hq
  refine setOfTexts (I1.ok.hd hc) pl (by simpa using strsAre_of r) nd (by unfold scanBound; omega) fun h' tk hS kp => PyProof.Rows.args_nil ?_
  obtain ⟨o, es, ep, t, ho, hex, hd, _, _, _, hf, hn⟩ := hS
  have I2 : Inv X pins σ H1 { s1 with heap := h', toks := tk } := I1.kept kp
  exact call_len_set ho hex hd hf (by rw [hn] <;> omega) ⟨.int xs.length, H1, I2.tok _, ⟨_, by rw [hn]⟩, q1⟩
end Wr
end
section
set_option maxHeartbeats 4000000
namespace Wr
open PySem PySem.Spec PyProof.Rows L2
section
variable {X : Cx} {e a : Expr} {δ : Sl} {M : AM} {P : XP} {pos p p2 q : Pos}
theorem EvX.lenSet (hm : X.mg "len" = none) (hm2 : X.mg "set" = none) (h : EvX X a δ M fun r M1 => ∃ xs : List Str, r = .dat (.tuple (xs.map .str)) ∧ xs.Nodup ∧ xs.length ≤ 100 ∧ P (.dat (.int xs.length)) M1) (hc : X.calm = true := by rfl) (hg : Gl X "len" := by rfl) (hg2 : Gl X "set" := by rfl)
    (na : starEach [a] X.env = (false, eval a X.env) :: starEach [] X.env := by rfl) : EvX X (.Call (.Name "len" p) [.Call (.Name "set" p2) [a] [] q] [] pos) δ M P := fun σ G H Q s l k =>
  ofE (pe_lenT hc hg hm hg2 hm2 pe_can na) (h σ G H _ s l fun v r M1 G1 H1 s1 f1 sv h1 => by
    obtain ⟨xs, rfl, nd, few, h1⟩ := h1
    obtain ⟨b, us, rfl, e1, e2⟩ := sv.tuple
    have e3 := e2.strs
    subst e3
    exact ⟨b, xs, rfl, s1.gh.seqT e1, nd, few, k _ _ M1 G1 H1 s1 f1 (svInt _) h1⟩)
/-! ### [e for .. for ..], each e True -/
def Lc2T (X : Cx) (scope : Scope) (tg1 iter1 elt : Expr) (g g1 : TG) (ws vs1 : List Nat) (δ : Sl) (P : XP) (items : List Sd) (M1 : AM) : Prop :=
  items.length ≤ 100 ∧ (∀ r, r ∈ items → ∃ δ2 vs, (∀ i ∈ vs, i ∈ ws) ∧ TgD X.K g r M1 (wipeD δ ws) δ2 vs ∧ IvB X scope tg1 iter1 δ2 M1 fun items1 M2 => M2 = M1 ∧ items1.length ≤ 100 ∧
    ∀ r1, r1 ∈ items1 → ∃ δ3 vs', (∀ i ∈ vs', i ∈ vs1) ∧ TgD X.K g1 r1 M1 (wipeD δ2 vs1) δ3 vs' ∧ EvB X scope elt δ3 M1 fun r M3 => M3 = M1 ∧ r = .dat (.bool true)) ∧ ∀ n, P (.dat (.list (List.replicate n (.bool true)))) M1
theorem size_big {n : Nat} (h : n ≤ 20000) : n < sizeLine := Nat.lt_of_le_of_lt h (by rw [sizeLine_eq]; decide)
theorem EvX.lc2 {elt tg iter tg1 iter1 : Expr} {scope : Scope} {own : List (Str × Nat)} {vs1 : List Nat} {g g1 : TG} (hc : X.calm = true) (hN : X.N.Nodup) (ok : BlkOk X.N X.env.scope scope own) (hv : ∀ i ∈ vs1, i ∈ own.map (·.2))
    (hg : ∀ s0 H0 C cl fp, PG (blkX X scope s0 H0 C cl fp) tg g) (hg1 : ∀ s0 H0 C cl fp, PG (blkX X scope s0 H0 C cl fp) tg1 g1) (h : IvX X tg iter δ M (Lc2T X scope tg1 iter1 elt g g1 (own.map (·.2)) vs1 δ P))
    (hs : ∀ x, foldedSetIterable iter X.env x = pure x := by intro _; rfl) (hs1 : ∀ env x, foldedSetIterable iter1 env x = pure x := by intro _ _; rfl) : EvX X (.ListComp elt [⟨tg, iter, [], 0⟩, ⟨tg1, iter1, [], 0⟩] scope pos) δ M P := fun σ G H Q s l k => by
  refine ofE (pe_lc2 hc hN pi_can ok hv hg (fun _ _ _ _ _ => pts_nil) pib_can hg1 (fun _ _ _ _ _ => pts_nil) peb_can hs hs1) (h σ G H _ s l fun J items M1 G1 H1 s1 f1 src h1 => ?_)
  obtain ⟨hz, ht, hP⟩ := h1
  intro D hD
  obtain ⟨hG1, hM1⟩ := s1.fresh hD
  let Z : Nat → Hp → Prop := fun c H' => ∃ n vs G', Sto X.K M1 G' H' ∧ H' D = some (.lst vs) ∧ Paired (S0V X.K G') vs ((List.replicate n (PyData.bool true)).map .dat) ∧ G' D = none ∧ Fw M1 M1 G1 H1 G' H' ∧ n ≤ c
  have z0 : Z 0 (upd H1 D (.lst [])) := ⟨0, [], G1, s1.beside hG1 hM1 _, upd_same, .nil, hG1, Fw.refl.beside hD _, Nat.le_refl _⟩
  refine ⟨fun i m H' => m = items.length - i ∧ i ≤ items.length ∧ Z (i * 100) H', ⟨_, rfl, Nat.zero_le _, by simpa using z0⟩, ?_⟩
  rintro i m H' ⟨rfl, hi, hZ⟩
  by_cases hlt : i < items.length
  · have hZ' := hZ
    obtain ⟨n, vs, G', s', hv', hp, hG', f', hl⟩ := hZ'
    refine .inr ⟨src.go i M1 G' H' hlt f'.g s', Z ((i + 1) * 100), fun H5 h5 => ⟨items.length - (i + 1), by omega, rfl, hlt, h5⟩, fun x H2 y => ?_⟩
    obtain ⟨G2, s2, f2, sv⟩ := src.yld i M1 G' H' x H2 items[i] (by simp [hlt]) f'.g s' y
    obtain ⟨δ2, ws, hws, tgd, hin⟩ := ht items[i] (List.getElem_mem hlt)
    have l2 : Slt X.K (wipeD δ (own.map (·.2))) (wipe σ (own.map (·.2))) G2 := (l.mono ((f1.trans f').trans f2).g).wipe _
    refine tgd x _ G2 H2 _ s2 sv l2 fun σ3 G3 H3 s3 f3 l3 w3 => ⟨by rw [w3 _ hws, wipe_wipe], ?_⟩
    unfold tYes
    dsimp only
    rw [if_pos rfl]
    refine hin.use s3 l3 fun J1 items1 M4 G4 H4 s4 f4 src1 h4 => ?_
    obtain ⟨rfl, hz1, ht1⟩ := h4
    have f24 := (f2.trans f3).trans f4
    obtain ⟨k1, k2, k3⟩ := f24.kept hv' hM1 hG'
    have hb1 : items1.length ≤ 100 := hz1
    refine ⟨fun j k H' => k = items1.length - j ∧ j ≤ items1.length ∧ ∃ n vs G', Sto X.K M4 G' H' ∧ H' D = some (.lst vs) ∧ Paired (S0V X.K G') vs ((List.replicate n (PyData.bool true)).map .dat) ∧ G' D = none ∧ Fw M4 M4 G1 H1 G' H' ∧ n ≤ i * 100 + j ∧ Ex G4 G',
      ⟨_, rfl, Nat.zero_le _, n, vs, G4, s4, k1, Paired.mapP hp fun _ _ z => S0V.mono f24.g z, k2, f'.trans f24, by omega, Ex.refl _⟩, ?_⟩
    rintro j k0 H5 ⟨rfl, hj, n5, vs5, G5, s5, hv5, hp5, hG5, f5, hl5, e45⟩
    by_cases hjt : j < items1.length
    · refine .inr ⟨src1.go j M4 G5 H5 hjt e45 s5, fun H' => ∃ n vs G', Sto X.K M4 G' H' ∧ H' D = some (.lst vs) ∧ Paired (S0V X.K G') vs ((List.replicate n (PyData.bool true)).map .dat) ∧ G' D = none ∧ Fw M4 M4 G1 H1 G' H' ∧ n ≤ i * 100 + (j + 1) ∧ Ex G4 G',
        fun H6 h6 => ⟨items1.length - (j + 1), by omega, rfl, hjt, h6⟩, fun x6 H6 y6 => ?_⟩
      obtain ⟨G6, s6, f6, sv6⟩ := src1.yld j M4 G5 H5 x6 H6 items1[j] (by simp [hjt]) e45 s5 y6
      obtain ⟨δ3, ws3, hws3, tgd3, hel⟩ := ht1 items1[j] (List.getElem_mem hjt)
      have l6 : Slt X.K (wipeD δ2 vs1) (wipe σ3 vs1) G6 := ((l3.mono f4.g).mono (e45.trans f6.g)).wipe _
      refine tgd3 x6 _ G6 H6 _ s6 sv6 l6 fun σ7 G7 H7 s7 f7 l7 w7 => ⟨by rw [w7 _ hws3, wipe_wipe], ?_⟩
      rw [if_pos rfl]
      refine hel.use s7 l7 fun y r8 M8 G8 H8 s8 f8 sv8 h8 => ?_
      obtain ⟨rfl, rfl⟩ := h8
      have f58 := (f6.trans f7).trans f8
      obtain ⟨k4, k5, k6⟩ := f58.kept hv5 hM1 hG5
      refine ⟨vs5, k4, ?_, n5 + 1, vs5 ++ [y], G8, s8.beside k5 k6 _, upd_same, ?_, k5, (f5.trans f58).beside hD _, by omega, e45.trans f58.g⟩
      · rw [Paired.length hp5, List.length_map, List.length_replicate]
        exact size_big (by omega)
      · rw [List.replicate_succ', List.map_append]
        exact paired_append (Paired.mapP hp5 fun _ _ z => S0V.mono f58.g z) (.cons (show S0V X.K G8 y (.dat (.bool true)) from sv8) .nil)
    · have e5 : j = items1.length := by omega
      subst e5
      exact .inl ⟨src1.stop M4 G5 H5 e45 s5, n5, vs5, G5, s5, hv5, hp5, hG5, f5, by omega⟩
  · have e : i = items.length := by omega
    subst e
    obtain ⟨n, vs, G', s', hv', hp, hG', f', hl⟩ := hZ
    have dq := paired_dats hp
    exact .inl ⟨src.stop M1 G' H' f'.g s', k _ _ M1 _ H' (s'.take hG' hM1 hv') (f1.trans (f'.take hD hG')) (svDat (Dq.lst upd_same (DqAll.mono (Ex.new hG') _ _ dq))) (hP n)⟩
end
end Wr
end
section
set_option maxHeartbeats 4000000
namespace Wr
open PySem PySem.Spec PyProof.Rows L2
/-! ### all that stands at some addresses stays from now on -/
/-- M without A -/
noncomputable def outM (M : AM) (A : Addr → Prop) : AM := fun a => @ite _ (A a) (Classical.propDecidable _) none (M a)
theorem outM_in {M : AM} {A : Addr → Prop} {a : Addr} (h : A a) : outM M A a = none := if_pos h
theorem outM_out {M : AM} {A : Addr → Prop} {a : Addr} (h : ¬ A a) : outM M A a = M a := if_neg h
def Had (K : PySem.W.Frag) (M : AM) (A : Addr → Prop) (G : Hp) : Prop := ∀ a m, A a → M a = some m → ∃ o, G a = some o ∧ MoOk K G m o
theorem Sto.freezeA {K : PySem.W.Frag} {M : AM} {G H : Hp} (s : Sto K M G H) (A : Addr → Prop) : ∃ G', Sto K (outM M A) G' H ∧ Fw M (outM M A) G H G' H ∧ Ex G G' ∧ Had K M A G' := by
  classical
  let G' : Hp := fun a => if A a ∧ M a ≠ none then H a else G a
  have g1 : ∀ a, A a → M a ≠ none → G' a = H a := fun a h h' => if_pos ⟨h, h'⟩
  have g2 : ∀ a, ¬ (A a ∧ M a ≠ none) → G' a = G a := fun a h => if_neg h
  have eg : Ex G G' := fun a o e => by
    by_cases q : A a ∧ M a ≠ none
    · cases z : M a with
      | none => exact absurd z q.2
      | some m =>
        rw [s.dj a m z] at e
        cases e
    · rw [g2 a q]
      exact e
  refine ⟨G', ⟨fun a o e => ?_, fun a m e => ?_, fun a m e => ?_⟩, ⟨eg, fun a o e _ => e, fun a e e' => ?_, fun a e => ?_⟩, eg, fun a m hA e => ?_⟩
  · by_cases q : A a ∧ M a ≠ none
    · rw [g1 a q.1 q.2] at e
      exact e
    · rw [g2 a q] at e
      exact s.gh a o e
  · by_cases q : A a
    · rw [outM_in q] at e
      cases e
    · rw [outM_out q] at e
      obtain ⟨o, e1, e2⟩ := s.mh a m e
      exact ⟨o, e1, e2.mono eg⟩
  · by_cases q : A a
    · rw [outM_in q] at e
      cases e
    · rw [outM_out q] at e
      rw [g2 a fun z => q z.1]
      exact s.dj a m e
  · by_cases q : A a ∧ M a ≠ none
    · exact .inr q.2
    · rw [g2 a q] at e'
      exact absurd e e'
  · by_cases q : A a
    · rw [outM_in q] at e
      exact absurd rfl e
    · rw [outM_out q] at e
      exact .inl e
  · obtain ⟨o, e1, e2⟩ := s.mh a m e
    exact ⟨o, by rw [g1 a hA (by rw [e]; simp)]; exact e1, e2.mono eg⟩
section
variable {X : Cx} {e o : Expr} {δ δ' : Sl} {M : AM} {P : XP} {pos : Pos} {f : Str}
/-- all that e made for itself stays -/
theorem EvX.fixd (h : EvX X e δ M fun r M1 => (∀ a m, M a = some m → ∃ m', M1 a = some m') ∧ ∃ r', (∀ v G', Had X.K M1 (fun a => M a = none) G' → SdV X.K G' v r → SdV X.K G' v r') ∧ P r' (outM M1 fun a => M a = none)) : EvX X e δ M P := fun σ G H Q s l k => h σ G H _ s l fun v r M1 G1 H1 s1 f1 sv n => by
  obtain ⟨_, r', h1, h2⟩ := n
  obtain ⟨G2, s2, f2, e2, had⟩ := s1.freezeA fun a => M a = none
  exact k v r' _ G2 H1 s2 (f1.trans f2) (h1 v G2 had (sv.mono e2)) h2
theorem outM_back {M M1 : AM} (h : ∀ a m, M a = some m → M1 a = some m) : outM M1 (fun a => M a = none) = M := funext fun a => by
  cases q : M a with
  | none => exact outM_in q
  | some m => rw [outM_out (by rw [q]; simp), h a m q]
variable {N : Sl → AM → Prop} {R : XP} {sts : List Stmt}
theorem BvX.fixd (A : Addr → Prop) (hl : δ'.length = δ.length) (hδ : ∀ (i : Nat) (r' : Sd), δ'[i]? = some (some r') → ∃ r, δ[i]? = some (some r) ∧ ∀ v G', Had X.K M A G' → SdV X.K G' v r → SdV X.K G' v r')
    (h : BvX X sts δ' (outM M A) N R) : BvX X sts δ M N R := fun σ G H D s l k => by
  obtain ⟨G2, s2, f2, e2, had⟩ := s.freezeA A
  refine h σ G2 H D s2 ⟨by rw [l.len, hl], fun i r' e => ?_⟩ (k.fw f2)
  obtain ⟨r, e3, e4⟩ := hδ i r' e
  obtain ⟨v, e5, e6⟩ := l.at_ i r e3
  exact ⟨v, e5, e4 v G2 had (e6.mono e2)⟩
/-- a field of an instance that stays -/
theorem EvX.fldO (h : EvX X e δ M fun r M1 => ∃ C fs s0, r = .obj C fs ∧ fs.lookup f = some s0 ∧ Cls X.K C ∧ NoAttr X.K C f ∧ P s0.sd M1) (hb : attributeBase e f X.env (eval e X.env) = eval e X.env := by rfl) : EvX X (.Attribute e f pos) δ M P := fun σ G H Q s l k =>
  ofE (pe_fld pe_can hb) (h σ G H _ s l fun v r M1 G1 H1 s1 f1 sv h1 => by
    obtain ⟨C, fs, s0, rfl, hl, c, n, h1⟩ := h1
    obtain ⟨a, dx, us, rfl, e1, e2⟩ := sv
    obtain ⟨v0, e3, e4⟩ := fs_look e2 hl
    exact ⟨a, C, dx, us, v0, rfl, s1.gh _ _ e1, c, n, e3, k _ _ M1 G1 H1 s1 f1 e4.sd h1⟩)
/-- x is nothing while it is no None -/
theorem isN_obj {C : Addr} {fs : List (Str × S0)} : isN (.obj C fs) = false := rfl
end
section
variable {K : PySem.W.Frag} {M : AM} {A : Addr → Prop} {G : Hp}
/-- a list that stays now -/
theorem Had.lst (h : Had K M A G) {q : Addr} {ds : List PyData} (ha : A q) (hm : M q = some (.lst (ds.map .dat))) : S0V K G (.ref q) (.dat (.list ds)) := by
  obtain ⟨o, e1, e2⟩ := h q _ ha hm
  cases o with
  | lst vs => exact Dq.lst e1 (paired_dats e2)
  | _ => cases e2
theorem Had.obj (h : Had K M A G) {q C dx : Addr} {fs fs' : List (Str × S0)} (ha : A q) (hm : M q = some (.ins C dx fs)) (hf : Paired (fun (a b : Str × S0) => a.1 = b.1 ∧ ∀ v, S0V K G v a.2 → S0V K G v b.2) fs fs') : SdV K G (.ref q) (.obj C fs') := by
  obtain ⟨o, e1, e2⟩ := h q _ ha hm
  cases o with
  | ins C' dx' us =>
    obtain ⟨rfl, rfl, h3⟩ := e2
    refine ⟨q, _, us, rfl, e1, ?_⟩
    clear e1 hm
    induction h3 generalizing fs' with
    | nil => cases hf; exact .nil
    | cons h t ih =>
      cases hf with
      | cons h' t' => exact .cons ⟨h.1.trans h'.1, h'.2 _ h.2⟩ (ih t')
  | _ => cases e2
/-- a tuple with such a list -/
theorem tup_fix {v : V} {xs : List S0} {ds : List PyData} (h : SdV K G v (.tup xs)) (hd : Paired (fun (a : S0) (d : PyData) => ∀ v, S0V K G v a → Dq K G v d) xs ds) : SdV K G v (.dat (.tuple ds)) := by
  obtain ⟨a, vs, rfl, e2, e3⟩ := h
  refine Dq.tup e2 ?_
  clear e2
  induction e3 generalizing ds with
  | nil => cases hd; exact .nil
  | cons h t ih =>
    cases hd with
    | cons h' t' => exact .cons (h' _ h) (ih t')
end
end Wr
end
section
set_option maxHeartbeats 4000000
namespace Wr
open PySem PySem.Spec PyProof.Rows L2
section
variable {X : Cx}
/-- name = {..} on one line, the name a local -/
theorem ps_setDc {i : Nat} {y : Str} {py : Pos} {kx vx tg iter : Expr} {ifs : List Expr} {scope : Scope} {own : List (Str × Nat)} {pos spos : Pos} {wi : TI} {g : TG} {tt : TT} {tk tv : TE} (hc : X.calm = true) (hN : X.N.Nodup) (hy : X.N[i]? = some y) (hyl : X.env.scope.names.lookup y = some .local)
    (hsw : swapsWith (.DictComp kx vx [⟨tg, iter, ifs, 0⟩] scope pos) (some (.Name y py)) spos.line X.env = pure true) (hi : PI X tg iter wi) (ok : BlkOk X.N X.env.scope scope own)
    (hg : ∀ (s : Shared) (H : Hp) (C : Addr) (cl : List (Str × Addr)) (fp : List Addr), PG (X.blk s H scope (compEnvC scope cl C X.env) fp) tg g) (ht : ∀ (s : Shared) (H : Hp) (C : Addr) (cl : List (Str × Addr)) (fp : List Addr), PTs (X.blk s H scope (compEnvC scope cl C X.env) fp) ifs tt)
    (hk : ∀ (s : Shared) (H : Hp) (C : Addr) (cl : List (Str × Addr)) (fp : List Addr), PE (X.blk s H scope (compEnvC scope cl C X.env) fp) kx tk)
    (he : ∀ (s : Shared) (H : Hp) (C : Addr) (cl : List (Str × Addr)) (fp : List Addr), PE (X.blk s H scope (compEnvC scope cl C X.env) fp) vx tv) (hs : ∀ x, foldedSetIterable iter X.env x = pure x := by intro _; rfl) :
    PS X (.Assign [.Name y py] (.DictComp kx vx [⟨tg, iter, ifs, 0⟩] scope pos) spos) (tAsg (tDc wi g tt tk tv (own.map (·.2))) (gName i)) := by
  refine ⟨fun pins s σ H D I h => ?_⟩
  rw [exec_Assign_Name_used _ _ _ _ hsw]
  refine wpAny_bind (wpAny_standAt (wpAny_bind ?_))
  show wpAny _ X.A (do let _ ← comprehension (.DictComp kx vx [⟨tg, iter, ifs, 0⟩] scope pos) scope X.env (firstIterPos [⟨tg, iter, ifs, 0⟩] pos) newDict false (eval iter X.env) (some (assign (.Name y py) X.env))) _ _ s
  have h : tDc wi g tt tk tv (own.map (·.2)) σ H (fun x H1 => gName i x σ H1 D.nx) := h
  refine wpAny_bind (thn (dc_core (Qf := fun _ s' => SP X pins D .next s') hc hN I hi ok hg ht hk he hs h fun L C s' m H' I' q hn f => ?_) fun _ s' hq => wpAny_pure (wpAny_pure hq))
  show wpAny _ _ (assign (.Name y py) X.env (.ref L)) _ _ _
  refine wpAny_assign_Name (store_ok2 (v := V.ref L) I' hN hy (.inl hyl) rfl (fun s2 I2 ⟨a, sb, ha⟩ => ?_) (.inr hyl))
  obtain ⟨f0, f1, f2, f3, f4, f5⟩ := f
  have haC : C ≠ a := by
    rcases ha with z | z
    · rw [z]; exact f1
    · exact fun e => f4 y a z e.symm
  refine ⟨m, hn.sameBut sb haC, fun h3 sb3 => ?_⟩
  exact ⟨_, H', I2.turned (t' := s2.toks) (fun b o hb e => (sb3.2 b hb).trans e) f0 f1 f3 f4 f5, q⟩
end
section
variable {X : Cx} {scope : Scope} {tg iter kx vx : Expr} {ifs : List Expr} {δ : Sl} {M : AM} {P : XP} {own : List (Str × Nat)} {g : TG} {pos : Pos}
theorem dcRead (h : IvX X tg iter δ M (DcInv X scope ifs kx vx g (own.map (·.2)) δ P)) {σ : L2.St} {G H : Hp} {Q : VK} (s : Sto X.K M G H) (l : Slt X.K δ σ G) (k : KF X.K M G H P Q) :
    tDc (canI X tg iter) g (canTb X scope ifs) (canEb X scope kx) (canEb X scope vx) (own.map (·.2)) σ H Q := by
  refine h σ G H _ s l fun J items M1 G1 H1 s1 f1 src h1 => ?_
  obtain ⟨Inv, h0, hz, hs, hd⟩ := h1
  intro D hD
  obtain ⟨hG1, hM1⟩ := s1.fresh hD
  refine ⟨fun i m H' => m = items.length - i ∧ i ≤ items.length ∧ ∃ acc vs M' G', Sto X.K M' G' H' ∧ H' D = some (.dK vs) ∧ KsV X.K G' vs acc ∧ G' D = none ∧ M' D = none ∧ Fw M1 M' G1 H1 G' H' ∧ acc.length ≤ i ∧ Inv i acc M',
    ⟨_, rfl, Nat.zero_le _, [], [], M1, G1, s1.beside hG1 hM1 _, upd_same, .nil, hG1, hM1, Fw.refl.beside hD _, Nat.le_refl _, h0⟩, ?_⟩
  rintro i m H' ⟨rfl, hi, acc, vs, M', G', s', hv, hp, hG', hM', f', hl, hI⟩
  by_cases hlt : i < items.length
  · refine .inr ⟨src.go i M' G' H' hlt f'.g s', fun H5 => ∃ acc vs M' G', Sto X.K M' G' H5 ∧ H5 D = some (.dK vs) ∧ KsV X.K G' vs acc ∧ G' D = none ∧ M' D = none ∧ Fw M1 M' G1 H1 G' H5 ∧ acc.length ≤ i + 1 ∧ Inv (i + 1) acc M',
      fun H5 h5 => ⟨items.length - (i + 1), by omega, rfl, hlt, h5⟩, fun x H2 y => ?_⟩
    obtain ⟨G2, s2, f2, sv⟩ := src.yld i M' G' H' x H2 items[i] (by simp [hlt]) f'.g s' y
    obtain ⟨δ2, ws, Tp, hws, tgd, hts, ht, hf⟩ := hs i items[i] acc M' (by simp [hlt]) hI
    have l2 : Slt X.K (wipeD δ (own.map (·.2))) (wipe σ (own.map (·.2))) G2 := (l.mono ((f1.trans f').trans f2).g).wipe _
    refine tgd x _ G2 H2 _ s2 sv l2 fun σ3 G3 H3 s3 f3 l3 w3 => ⟨by rw [w3 _ hws, wipe_wipe], ?_⟩
    refine hts.use s3 l3 fun b M4 G4 H4 s4 f4 h4 => ?_
    have f24 := (f2.trans f3).trans f4
    obtain ⟨k1, k2, k3⟩ := f24.kept hv hM' hG'
    cases b with
    | false =>
      rw [if_neg Bool.false_ne_true]
      exact ⟨acc, vs, M4, G4, s4, k1, Paired.mapP hp fun _ _ z => ⟨z.1, S0V.mono f24.g z.2⟩, k2, k3, f'.trans f24, by omega, hf M4 h4⟩
    | true =>
      rw [if_pos rfl]
      refine (ht M4 h4).use s4 (l3.mono f4.g) fun y r5 M5 G5 H5 s5 f5 sv5 h5 => ?_
      obtain ⟨kk, rfl, h5⟩ := h5
      refine h5.use s5 (l3.mono (f4.trans f5).g) fun z r6 M6 G6 H6 s6 f6 sv6 h6 => ?_
      obtain ⟨s0, rfl, h6⟩ := h6
      have f26 := (f24.trans f5).trans f6
      obtain ⟨k4, k5, k6⟩ := f26.kept hv hM' hG'
      refine ⟨vs, kk, kD_v sv5, k4, ?_, put0 acc kk s0, putK vs kk z, M6, G6, s6.beside k5 k6 _, upd_same, ?_, k5, k6, (f'.trans f26).beside hD _, Nat.le_trans put0_len (by omega), h6⟩
      · rw [Paired.length hp]
        omega
      · exact ks_put (Paired.mapP hp fun _ _ z => ⟨z.1, S0V.mono f26.g z.2⟩) (s0_of sv6)
  · have e : i = items.length := by omega
    subst e
    exact .inl ⟨src.stop M' G' H' f'.g s', k _ _ _ G' H' (s'.takeM hG' hv (m := .dK acc) hp) (f1.trans (f'.takeM hD _)) (svRaw _) (hd acc M' hI D hM')⟩
theorem SvX.setDc {N : Sl → AM → Prop} {R : XP} {i : Nat} {y : Str} {py spos : Pos} (hc : X.calm = true) (hN : X.N.Nodup) (hy : X.N[i]? = some y) (hyl : X.env.scope.names.lookup y = some .local) (hsw : swapsWith (.DictComp kx vx [⟨tg, iter, ifs, 0⟩] scope pos) (some (.Name y py)) spos.line X.env = pure true)
    (ok : BlkOk X.N X.env.scope scope own) (hg : ∀ s0 H0 C cl fp, PG (blkX X scope s0 H0 C cl fp) tg g) (h : IvX X tg iter δ M (DcInv X scope ifs kx vx g (own.map (·.2)) δ fun r M1 => N (δ.set i (some r)) M1))
    (hs : ∀ x, foldedSetIterable iter X.env x = pure x := by intro _; rfl) : SvX X (.Assign [.Name y py] (.DictComp kx vx [⟨tg, iter, ifs, 0⟩] scope pos) spos) δ M N R := fun σ G H D s l k => by
  exact ofS (ps_setDc hc hN hy hyl hsw pi_can ok hg ptb_can peb_can peb_can hs) (dcRead h s l fun v r M' G' H' s' f' sv n => k.nx _ M' _ G' H' s' ((l.mono f'.g).set i sv) f' n)
end
end Wr
end
section
set_option maxHeartbeats 4000000
namespace Wr
open PySem PySem.Spec PyProof.Rows L2
section
variable {X : Cx} {e a : Expr} {δ : Sl} {M : AM} {P : XP} {pos p p2 q : Pos}
/-! ### [e for .. for ..], each e a truth value: what all() says of it -/
def Lc2B (X : Cx) (scope : Scope) (tg1 iter1 elt : Expr) (g g1 : TG) (ws vs1 : List Nat) (δ : Sl) (P : XP) (items : List Sd) (M1 : AM) : Prop :=
  ∃ q : Sd → Bool, items.length ≤ 1000 ∧ (∀ r, r ∈ items → ∃ δ2 vs, (∀ i ∈ vs, i ∈ ws) ∧ TgD X.K g r M1 (wipeD δ ws) δ2 vs ∧ IvB X scope tg1 iter1 δ2 M1 fun items1 M2 => M2 = M1 ∧ items1.length ≤ 10 ∧ ∃ q1 : Sd → Bool, items1.all q1 = q r ∧
    ∀ r1, r1 ∈ items1 → ∃ δ3 vs', (∀ i ∈ vs', i ∈ vs1) ∧ TgD X.K g1 r1 M1 (wipeD δ2 vs1) δ3 vs' ∧ EvB X scope elt δ3 M1 fun r M3 => M3 = M1 ∧ r = .dat (.bool (q1 r1))) ∧ ∀ bs : List Bool, bs.all id = items.all q → P (.dat (.list (bs.map .bool))) M1
theorem EvX.lc2B {elt tg iter tg1 iter1 : Expr} {scope : Scope} {own : List (Str × Nat)} {vs1 : List Nat} {g g1 : TG} (hc : X.calm = true) (hN : X.N.Nodup) (ok : BlkOk X.N X.env.scope scope own) (hv : ∀ i ∈ vs1, i ∈ own.map (·.2))
    (hg : ∀ s0 H0 C cl fp, PG (blkX X scope s0 H0 C cl fp) tg g) (hg1 : ∀ s0 H0 C cl fp, PG (blkX X scope s0 H0 C cl fp) tg1 g1) (h : IvX X tg iter δ M (Lc2B X scope tg1 iter1 elt g g1 (own.map (·.2)) vs1 δ P))
    (hs : ∀ x, foldedSetIterable iter X.env x = pure x := by intro _; rfl) (hs1 : ∀ env x, foldedSetIterable iter1 env x = pure x := by intro _ _; rfl) : EvX X (.ListComp elt [⟨tg, iter, [], 0⟩, ⟨tg1, iter1, [], 0⟩] scope pos) δ M P := fun σ G H Q s l k => by
  refine ofE (pe_lc2 hc hN pi_can ok hv hg (fun _ _ _ _ _ => pts_nil) pib_can hg1 (fun _ _ _ _ _ => pts_nil) peb_can hs hs1) (h σ G H _ s l fun J items M1 G1 H1 s1 f1 src h1 => ?_)
  obtain ⟨q, hz, ht, hP⟩ := h1
  intro D hD
  obtain ⟨hG1, hM1⟩ := s1.fresh hD
  let Z : Nat → Hp → Prop := fun c H' => ∃ (bs : List Bool) (vs : List V) (G' : Hp), Sto X.K M1 G' H' ∧ H' D = some (.lst vs) ∧ Paired (S0V X.K G') vs ((bs.map PyData.bool).map .dat) ∧ G' D = none ∧ Fw M1 M1 G1 H1 G' H' ∧ bs.length ≤ c * 10 ∧ bs.all id = (items.take c).all q
  have z0 : Z 0 (upd H1 D (.lst [])) := ⟨[], [], G1, s1.beside hG1 hM1 _, upd_same, .nil, hG1, Fw.refl.beside hD _, Nat.le_refl _, rfl⟩
  refine ⟨fun i m H' => m = items.length - i ∧ i ≤ items.length ∧ Z i H', ⟨_, rfl, Nat.zero_le _, z0⟩, ?_⟩
  rintro i m H' ⟨rfl, hi, hZ⟩
  by_cases hlt : i < items.length
  · have hZ' := hZ
    obtain ⟨n, vs, G', s', hv', hp, hG', f', hl, hq⟩ := hZ'
    refine .inr ⟨src.go i M1 G' H' hlt f'.g s', Z (i + 1), fun H5 h5 => ⟨items.length - (i + 1), by omega, rfl, hlt, h5⟩, fun x H2 y => ?_⟩
    obtain ⟨G2, s2, f2, sv⟩ := src.yld i M1 G' H' x H2 items[i] (by simp [hlt]) f'.g s' y
    obtain ⟨δ2, ws, hws, tgd, hin⟩ := ht items[i] (List.getElem_mem hlt)
    have l2 : Slt X.K (wipeD δ (own.map (·.2))) (wipe σ (own.map (·.2))) G2 := (l.mono ((f1.trans f').trans f2).g).wipe _
    refine tgd x _ G2 H2 _ s2 sv l2 fun σ3 G3 H3 s3 f3 l3 w3 => ⟨by rw [w3 _ hws, wipe_wipe], ?_⟩
    unfold tYes
    dsimp only
    rw [if_pos rfl]
    refine hin.use s3 l3 fun J1 items1 M4 G4 H4 s4 f4 src1 h4 => ?_
    obtain ⟨rfl, hz1, q1, hq1, ht1⟩ := h4
    have f24 := (f2.trans f3).trans f4
    obtain ⟨k1, k2, k3⟩ := f24.kept hv' hM1 hG'
    have hb1 : items1.length ≤ 10 := hz1
    refine ⟨fun j k H' => k = items1.length - j ∧ j ≤ items1.length ∧ ∃ (bs : List Bool) (vs : List V) (G' : Hp), Sto X.K M4 G' H' ∧ H' D = some (.lst vs) ∧ Paired (S0V X.K G') vs ((bs.map PyData.bool).map .dat) ∧ G' D = none ∧ Fw M4 M4 G1 H1 G' H' ∧ bs.length ≤ i * 10 + j ∧ Ex G4 G' ∧ bs.all id = ((items.take i).all q && (items1.take j).all q1),
      ⟨_, rfl, Nat.zero_le _, n, vs, G4, s4, k1, Paired.mapP hp fun _ _ z => S0V.mono f24.g z, k2, f'.trans f24, by omega, Ex.refl _, by rw [hq, List.take_zero, List.all_nil, Bool.and_true]⟩, ?_⟩
    rintro j k0 H5 ⟨rfl, hj, n5, vs5, G5, s5, hv5, hp5, hG5, f5, hl5, e45, hq5⟩
    by_cases hjt : j < items1.length
    · refine .inr ⟨src1.go j M4 G5 H5 hjt e45 s5, fun H' => ∃ (bs : List Bool) (vs : List V) (G' : Hp), Sto X.K M4 G' H' ∧ H' D = some (.lst vs) ∧ Paired (S0V X.K G') vs ((bs.map PyData.bool).map .dat) ∧ G' D = none ∧ Fw M4 M4 G1 H1 G' H' ∧ bs.length ≤ i * 10 + (j + 1) ∧ Ex G4 G' ∧ bs.all id = ((items.take i).all q && (items1.take (j + 1)).all q1),
        fun H6 h6 => ⟨items1.length - (j + 1), by omega, rfl, hjt, h6⟩, fun x6 H6 y6 => ?_⟩
      obtain ⟨G6, s6, f6, sv6⟩ := src1.yld j M4 G5 H5 x6 H6 items1[j] (by simp [hjt]) e45 s5 y6
      obtain ⟨δ3, ws3, hws3, tgd3, hel⟩ := ht1 items1[j] (List.getElem_mem hjt)
      have l6 : Slt X.K (wipeD δ2 vs1) (wipe σ3 vs1) G6 := ((l3.mono f4.g).mono (e45.trans f6.g)).wipe _
      refine tgd3 x6 _ G6 H6 _ s6 sv6 l6 fun σ7 G7 H7 s7 f7 l7 w7 => ⟨by rw [w7 _ hws3, wipe_wipe], ?_⟩
      rw [if_pos rfl]
      refine hel.use s7 l7 fun y r8 M8 G8 H8 s8 f8 sv8 h8 => ?_
      obtain ⟨rfl, rfl⟩ := h8
      have f58 := (f6.trans f7).trans f8
      obtain ⟨k4, k5, k6⟩ := f58.kept hv5 hM1 hG5
      refine ⟨vs5, k4, ?_, n5 ++ [q1 items1[j]], vs5 ++ [y], G8, s8.beside k5 k6 _, upd_same, ?_, k5, (f5.trans f58).beside hD _, by rw [List.length_append, List.length_singleton]; omega, e45.trans f58.g, ?_⟩
      · rw [Paired.length hp5, List.length_map, List.length_map]
        exact size_big (by omega)
      · rw [List.map_append, List.map_append]
        exact paired_append (Paired.mapP hp5 fun _ _ z => S0V.mono f58.g z) (.cons (show S0V X.K G8 y (.dat (.bool (q1 items1[j]))) from sv8) .nil)
      · have tk : items1.take (j + 1) = items1.take j ++ [items1[j]] := by rw [List.take_add_one]; simp [hjt]
        rw [List.all_append, hq5, tk, List.all_append]
        simp [Bool.and_assoc]
    · have e5 : j = items1.length := by omega
      subst e5
      refine .inl ⟨src1.stop M4 G5 H5 e45 s5, n5, vs5, G5, s5, hv5, hp5, hG5, f5, by omega, ?_⟩
      have tk : items.take (i + 1) = items.take i ++ [items[i]] := by rw [List.take_add_one]; simp [hlt]
      rw [hq5, tk, List.all_append, List.take_length, hq1]
      simp
  · have e : i = items.length := by omega
    subst e
    obtain ⟨n, vs, G', s', hv', hp, hG', f', hl, hq⟩ := hZ
    rw [List.take_length] at hq
    have dq := paired_dats hp
    exact .inl ⟨src.stop M1 G' H' f'.g s', k _ _ M1 _ H' (s'.take hG' hM1 hv') (f1.trans (f'.take hD hG')) (svDat (Dq.lst upd_same (DqAll.mono (Ex.new hG') _ _ dq))) (hP n hq)⟩
end
end Wr
end
section
set_option maxHeartbeats 4000000
namespace Wr
open PySem PySem.Spec PyProof.Rows L2
section
variable {X : Cx} {e o a b : Expr} {es : List Expr} {δ : Sl} {M : AM} {P : XP} {pos apos cpos : Pos} {f : Str} {N : Sl → AM → Prop} {R : XP} {body : List Stmt}
theorem EvX.fldR (h : EvX X e δ M fun r M1 => ∃ p C dx fs v, r = .raw (.ref p) ∧ M1 p = some (.ins C dx fs) ∧ fs.lookup f = some (.raw v) ∧ Cls X.K C ∧ NoAttr X.K C f ∧ P (.raw v) M1) (hb : attributeBase e f X.env (eval e X.env) = eval e X.env := by rfl) : EvX X (.Attribute e f pos) δ M P :=
  EvX.fld (fun σ G H Q s l k => h σ G H Q s l fun v r M' G' H' s' f' sv n => k v r M' G' H' s' f' sv (by
    obtain ⟨p, C, dx, fs, v, e1, e2, e3, e4, e5, e6⟩ := n
    exact ⟨p, C, dx, fs, .raw v, e1, e2, e3, e4, e5, e6⟩)) hb
theorem EvX.fldD (h : EvX X e δ M fun r M1 => ∃ p C dx fs d, r = .raw (.ref p) ∧ M1 p = some (.ins C dx fs) ∧ fs.lookup f = some (.dat d) ∧ Cls X.K C ∧ NoAttr X.K C f ∧ P (.dat d) M1) (hb : attributeBase e f X.env (eval e X.env) = eval e X.env := by rfl) : EvX X (.Attribute e f pos) δ M P :=
  EvX.fld (fun σ G H Q s l k => h σ G H Q s l fun v r M' G' H' s' f' sv n => k v r M' G' H' s' f' sv (by
    obtain ⟨p, C, dx, fs, v, e1, e2, e3, e4, e5, e6⟩ := n
    exact ⟨p, C, dx, fs, .dat v, e1, e2, e3, e4, e5, e6⟩)) hb
theorem EvX.append (h : EvX X o δ M fun r M1 => isMList M1 r ∧ AvX X [e] δ M1 fun rs M2 => MOp X "list.append" r rs M2 P)
    (hbase : attributeBase o "append" X.env (eval o X.env) = eval o X.env := by rfl) (hline : (apos.endLine == cpos.line) = true := by rfl)
    (hfew : ((backTo cpos (starEach [e] X.env)).all (fun x => !x.1) && (backToKw cpos (keywordEach [] X.env)).all (fun x => x.1.isSome)
      && decide ([e].length + ([] : List Keyword).length + (if ([] : List Keyword).isEmpty then 0 else 1) < 30)) = true := by rfl) (hs : starEach [e] X.env = (false, eval e X.env) :: starEach [] X.env := by rfl) (hplain : (backTo cpos (starEach [] X.env)).any (·.1) = false := by rfl) :
    EvX X (.Call (.Attribute o "append" apos) [e] [] cpos) δ M P := EvX.lm slot_list_append rfl h hbase hfew hline hs hplain
theorem EvX.popA (h : EvX X o δ M fun r M1 => isMList M1 r ∧ AvX X [e] δ M1 fun rs M2 => MOp X "list.pop" r rs M2 P)
    (hbase : attributeBase o "pop" X.env (eval o X.env) = eval o X.env := by rfl) (hline : (apos.endLine == cpos.line) = true := by rfl)
    (hfew : ((backTo cpos (starEach [e] X.env)).all (fun x => !x.1) && (backToKw cpos (keywordEach [] X.env)).all (fun x => x.1.isSome)
      && decide ([e].length + ([] : List Keyword).length + (if ([] : List Keyword).isEmpty then 0 else 1) < 30)) = true := by rfl) (hs : starEach [e] X.env = (false, eval e X.env) :: starEach [] X.env := by rfl) (hplain : (backTo cpos (starEach [] X.env)).any (·.1) = false := by rfl) :
    EvX X (.Call (.Attribute o "pop" apos) [e] [] cpos) δ M P := EvX.lm PySem.F.slot_list_pop rfl h hbase hfew hline hs hplain
theorem EvX.pop0 (h : EvX X o δ M fun r M1 => isMList M1 r ∧ MOp X "list.pop" r [] M1 P)
    (hbase : attributeBase o "pop" X.env (eval o X.env) = eval o X.env := by rfl) (hline : (apos.endLine == cpos.line) = true := by rfl) :
    EvX X (.Call (.Attribute o "pop" apos) [] [] cpos) δ M P := EvX.lm0 PySem.F.slot_list_pop rfl h hbase hline
theorem SvX.retN (h : R (.dat .none) M) : SvX X (.Return none pos) δ M N R := fun σ G H D s l k => ofS ps_retN (k.rt .non _ M G H s Fw.refl svNon h)
/-- while, by a number that falls -/
theorem SvX.whileN {c : Expr} (hp : PassesOwn (model X.prog X.w) X.A X.env X.xe) (Inv : Nat → Sl → AM → Prop) (h0 : ∃ m, Inv m δ M)
    (hs : ∀ m δ1 M1, Inv m δ1 M1 → TvX X c δ1 M1 fun q M2 => if q = true then BvX X body δ1 M2 (fun δ3 M3 => ∃ m', m' < m ∧ Inv m' δ3 M3) R else N δ1 M2) : SvX X (.While c body [] pos) δ M N R := fun σ G H D s l k => by
  obtain ⟨m0, h0⟩ := h0
  refine ofS (ps_while hp pt_can pss_can) ?_
  refine ⟨fun m σ' H' => ∃ δ' M' G', Sto X.K M' G' H' ∧ Slt X.K δ' σ' G' ∧ Fw M M' G H G' H' ∧ Inv m δ' M', ⟨m0, δ, M, G, s, l, Fw.refl, h0⟩, ?_⟩
  rintro m σ' H' ⟨δ', M', G', s', l', f', hI⟩
  refine hs m δ' M' hI σ' G' H' _ s' l' fun q M2 G2 H2 s2 f2 h2 => ?_
  cases q with
  | true =>
    rw [if_pos rfl]
    refine ⟨fun σ3 H3 => ∃ m' δ3 M3 G3, Sto X.K M3 G3 H3 ∧ Slt X.K δ3 σ3 G3 ∧ Fw M M3 G H G3 H3 ∧ m' < m ∧ Inv m' δ3 M3, fun σ3 H3 ⟨m', δ3, M3, G3, a1, a2, a3, a4, a5⟩ => ⟨m', a4, δ3, M3, G3, a1, a2, a3, a5⟩, ?_⟩
    exact h2 σ' G2 H2 _ s2 (l'.mono f2.g) ⟨fun δ3 M3 σ3 G3 H3 s3 l3 f3 n3 => by
      obtain ⟨m', n1, n2⟩ := n3
      exact ⟨m', δ3, M3, G3, s3, l3, (f'.trans f2).trans f3, n1, n2⟩, fun v r M3 G3 H3 s3 f3 sv n => k.rt v r M3 G3 H3 s3 ((f'.trans f2).trans f3) sv n⟩
  | false =>
    rw [if_neg Bool.false_ne_true]
    exact k.nx δ' M2 σ' G2 H2 s2 (l'.mono f2.g) (f'.trans f2) h2
theorem Sto.dpM {G H : Hp} (s : Sto X.K M G H) {l : Addr} {ds : List PyData} (hm : M l = some (.lst (ds.map .dat))) : Dp X.K H (.ref l) (.list ds) := by
  obtain ⟨vs, e1, e2⟩ := s.lstM hm
  obtain ⟨s1, f1⟩ := s.freeze hm e1
  exact Dq.dp s1.gh _ _ (Dq.lst upd_same (DqAll.mono f1.g _ _ (paired_dats e2)))
/-- a list that may change, compared -/
theorem VOp.neM {l : Addr} {ds : List PyData} {e : PyData} (hu : X.A.units + 64 < cLine) (hm : M l = some (.lst (ds.map .dat))) (h1 : SeqAt.shaped (.list ds) = true) (h2 : SeqAt.shaped e = true) (h : P (.dat (.bool (!PyData.eqv (.list ds) e))) M) : VOp X (compareOp .NotEq) (.raw (.ref l)) (.dat e) M P :=
  VOp.of (op_neD hu) fun v1 v2 G H Q s q1 q2 k => ⟨.list ds, e, by rw [show v1 = .ref l from q1]; exact s.dpM hm, Dq.dp s.gh e v2 q2, h1, h2, k _ _ M G H s Fw.refl (svBl _) h⟩
/-- the script: a list that nobody changes -/
theorem COp.lenSq {ns : List Int} (h : P (.dat (.int ns.length)) M) : COp X (.builtin "len") [.seq ns] M P := COp.of call_len_seq fun vs G H Q s q0 k => by
  obtain ⟨v, rfl, a, rfl, q⟩ := one_of q0
  refine ⟨a, ns.map V.int, rfl, .inl (s.gh.seqL q), k _ _ M G H s Fw.refl ?_ h⟩
  rw [List.length_map]
  exact svInt _
theorem IOp.sq {ns : List Int} {i j : Int} (hd : atI ns i = some j) (h : P (.dat (.int j)) M) : IOp X (.seq ns) (.dat (.int i)) M P :=
  IOp.of ix_list fun v1 v2 G H Q s q1 q2 k => by
    obtain ⟨a, rfl, q⟩ := q1
    have e : atI (ns.map V.int) i = some (V.int j) := by
      unfold atI at *
      rw [List.length_map]
      cases h : ixN ns.length i with
      | none =>
        rw [h] at hd
        cases hd
      | some k =>
        rw [h] at hd
        have hd : ns[k]? = some j := hd
        show (ns.map V.int)[k]? = _
        rw [List.getElem?_map, hd]
        rfl
    exact ⟨a, _, i, .int j, rfl, q2.int, s.gh.seqL q, e, k _ _ M G H s Fw.refl (svInt _) h⟩
end
end Wr
end
section
set_option maxHeartbeats 4000000
namespace Wr
open PySem PySem.Spec PyProof.Rows L2
section
variable {X : Cx} {i o e : Expr} {δ : Sl} {M : AM} {P : XP} {PB : Bool → AM → Prop} {pos : Pos} {N : Sl → AM → Prop} {R : XP}
theorem TvX.inK (hu : X.A.units + 1 < cLine) (h : EvX X i δ M fun ri M1 => EvX X o δ M1 fun ro M2 => ∃ d xs q, ro = .raw (.ref d) ∧ M2 d = some (.dK xs) ∧ ri = .dat (kD q) ∧ PB (at0 xs q).isSome M2) (hm : behindInMarks .In o = false := by rfl) : TvX X (.Compare i [.In] [o] pos) δ M PB := fun σ G H Q s l k =>
  ofT (pt_cmp (pc_din hu pe_can pe_can) hm) (h σ G H _ s l fun v1 r1 M1 G1 H1 s1 f1 sv1 h1 => h1 σ G1 H1 _ s1 (l.mono f1.g) fun v2 r2 M2 G2 H2 s2 f2 sv2 h2 => by
    obtain ⟨d, xs, q, rfl, hd, rfl, n⟩ := h2
    obtain ⟨us, e1, e2⟩ := s2.dictM hd
    refine ⟨d, valV us q, sv2, ?_, (at0 xs q).isSome, by rw [at0_some e2], k _ M2 G2 H2 s2 (f1.trans f2) n⟩
    rw [kD_v sv1]
    exact DGet.k e1)
theorem TvX.ninK (hu : X.A.units + 1 < cLine) (h : EvX X i δ M fun ri M1 => EvX X o δ M1 fun ro M2 => ∃ d xs q, ro = .raw (.ref d) ∧ M2 d = some (.dK xs) ∧ ri = .dat (kD q) ∧ PB (!(at0 xs q).isSome) M2) (hm : behindInMarks .NotIn o = false := by rfl) : TvX X (.Compare i [.NotIn] [o] pos) δ M PB := fun σ G H Q s l k =>
  ofT (pt_cmp (pc_dnotin hu pe_can pe_can) hm) (h σ G H _ s l fun v1 r1 M1 G1 H1 s1 f1 sv1 h1 => h1 σ G1 H1 _ s1 (l.mono f1.g) fun v2 r2 M2 G2 H2 s2 f2 sv2 h2 => by
    obtain ⟨d, xs, q, rfl, hd, rfl, n⟩ := h2
    obtain ⟨us, e1, e2⟩ := s2.dictM hd
    refine ⟨d, valV us q, sv2, ?_, !(at0 xs q).isSome, by rw [at0_some e2], k _ M2 G2 H2 s2 (f1.trans f2) n⟩
    rw [kD_v sv1]
    exact DGet.k e1)
/-- sorted(..), that may change -/
theorem COp.sortedM {ns : List Int} (hz : ns.length < 64) (h : ∀ ms : List Int, ms.Perm ns → ms.Pairwise (· ≤ ·) → ∀ p, M p = none → P (.raw (.ref p)) (setM M p (.lst ((ms.map PyData.int).map .dat)))) : COp X (.builtin "sorted") [.dat (.list (ns.map .int))] M P := COp.of cr_sorted fun vs G H Q s q0 k => by
  obtain ⟨v, rfl, q⟩ := one_of q0
  obtain ⟨p, xs, rfl, e1, e2⟩ := q.list
  have e3 := e2.ints
  subst e3
  refine ⟨p, ns, rfl, .inl (.inl (s.gh _ _ e1)), hz, fun ms l hp hs hl => ?_⟩
  obtain ⟨s2, f2⟩ := s.layM (o := .lst (ms.map V.int)) (m := .lst ((ms.map PyData.int).map .dat)) hl (dats_paired (dqInts ms))
  exact k _ _ _ _ _ s2 f2 (svRaw _) (h ms hp hs l (s.fresh hl).2)
end
end Wr
end
section
set_option maxHeartbeats 4000000
namespace Wr
open PySem PySem.Spec PyProof.Rows L2
/-! ### the text -/
abbrev theRow : PySem.W.OpenLaw := PySem.Challenge.rw_watchedrun_k59_whole_papers_of_rows
def topS (i : Nat) : Stmt := PySem.Challenge.pw_watchedrun_k59_whole_papers_of_rows.main.body.getD i (.Pass ⟨0, 0, 0, 0⟩)
abbrev st_is_whole : Stmt := topS 17
abbrev st_is_worth : Stmt := topS 18
abbrev st_is_name : Stmt := topS 19
abbrev st_are_unlike_names : Stmt := topS 20
abbrev st_is_led_to : Stmt := topS 21
abbrev st_is_row : Stmt := topS 22
abbrev st_is_headed : Stmt := topS 23
abbrev st_is_program : Stmt := topS 24
abbrev st_look_program : Stmt := topS 25
abbrev st_number_of : Stmt := topS 26
abbrev st_look_row : Stmt := topS 27
abbrev st_counts_of : Stmt := topS 31
abbrev st_floor_of : Stmt := topS 32
abbrev st_is_lacking : Stmt := topS 33
abbrev st_leads_of : Stmt := topS 34
abbrev st_look_part_sound : Stmt := topS 36
abbrev st_agrees : Stmt := topS 38
abbrev st_agree : Stmt := topS 39
abbrev st_rows_paper : Stmt := topS 95
abbrev st_part_at : Stmt := topS 100
abbrev st_are_rows : Stmt := topS 101
abbrev st_walked_to : Stmt := topS 102
abbrev st_goals_of : Stmt := topS 103
abbrev st_is_sound_part : Stmt := topS 104
abbrev st_both_walked : Stmt := topS 110
abbrev st_agree_holds : Stmt := topS 111
abbrev st_apart_holds : Stmt := topS 112
abbrev st_unmet_holds : Stmt := topS 113
abbrev st_holds : Stmt := topS 116
abbrev st_law_bag : Stmt := topS 118
abbrev st_law_take : Stmt := topS 119
abbrev st_law_block : Stmt := topS 120
abbrev st_law_part : Stmt := topS 121
abbrev st_law_goals : Stmt := topS 122
abbrev st_law_standings : Stmt := topS 123
abbrev st_law_walked : Stmt := topS 124
abbrev st_law_holds : Stmt := topS 125
abbrev st_law_told_right : Stmt := topS 126
abbrev st_law_walk : Stmt := topS 127
abbrev st_law_walks_right : Stmt := topS 128
abbrev st_law_odd_unmet_right : Stmt := topS 129
abbrev st_law_fixed_right : Stmt := topS 130
abbrev st_law_unmet_right : Stmt := topS 131
abbrev st_law : Stmt := topS 132
abbrev st_Found_init : Stmt := inClass (topS 35) 0
abbrev st_Found_go_from : Stmt := inClass (topS 35) 1
abbrev st_Found_come_to : Stmt := inClass (topS 35) 2
abbrev n_is_whole : List Str := ["thing"]
theorem sc_is_whole : FnScope n_is_whole ["thing"] (defScope st_is_whole) := ⟨rfl, rfl, rfl, by decide +kernel, rfl, by decide +kernel, by decide +kernel⟩
abbrev n_is_worth : List Str := ["thing"]
theorem sc_is_worth : FnScope n_is_worth ["thing"] (defScope st_is_worth) := ⟨rfl, rfl, rfl, by decide +kernel, rfl, by decide +kernel, by decide +kernel⟩
abbrev n_is_name : List Str := ["thing", "letter"]
theorem sc_is_name : FnScope n_is_name ["thing"] (defScope st_is_name) := ⟨rfl, rfl, rfl, by decide +kernel, rfl, by decide +kernel, by decide +kernel⟩
abbrev n_are_unlike_names : List Str := ["thing", "most", "least", "one"]
theorem sc_are_unlike_names : FnScope n_are_unlike_names ["thing", "most", "least"] (defScope st_are_unlike_names) := ⟨rfl, rfl, rfl, by decide +kernel, rfl, by decide +kernel, by decide +kernel⟩
abbrev n_is_led_to : List Str := ["thing", "at", "rows", "word", "goal"]
theorem sc_is_led_to : FnScope n_is_led_to ["thing", "at", "rows"] (defScope st_is_led_to) := ⟨rfl, rfl, rfl, by decide +kernel, rfl, by decide +kernel, by decide +kernel⟩
abbrev n_is_row : List Str := ["thing", "at", "rows", "called"]
theorem sc_is_row : FnScope n_is_row ["thing", "at", "rows", "called"] (defScope st_is_row) := ⟨rfl, rfl, rfl, by decide +kernel, rfl, by decide +kernel, by decide +kernel⟩
abbrev n_is_headed : List Str := ["thing"]
theorem sc_is_headed : FnScope n_is_headed ["thing"] (defScope st_is_headed) := ⟨rfl, rfl, rfl, by decide +kernel, rfl, by decide +kernel, by decide +kernel⟩
abbrev n_is_program : List Str := ["thing", "called", "part", "name", "names", "rows", "at", "row"]
theorem sc_is_program : FnScope n_is_program ["thing"] (defScope st_is_program) := ⟨rfl, rfl, rfl, by decide +kernel, rfl, by decide +kernel, by decide +kernel⟩
abbrev n_look_program : List Str := ["thing"]
theorem sc_look_program : FnScope n_look_program ["thing"] (defScope st_look_program) := ⟨rfl, rfl, rfl, by decide +kernel, rfl, by decide +kernel, by decide +kernel⟩
abbrev n_number_of : List Str := ["program", "part", "numbers", "found", "number", "name", "rest"]
theorem sc_number_of : FnScope n_number_of ["program", "part"] (defScope st_number_of) := ⟨rfl, rfl, rfl, by decide +kernel, rfl, by decide +kernel, by decide +kernel⟩
abbrev n_look_row : List Str := ["program", "number", "row"]
theorem sc_look_row : FnScope n_look_row ["program", "number", "row"] (defScope st_look_row) := ⟨rfl, rfl, rfl, by decide +kernel, rfl, by decide +kernel, by decide +kernel⟩
abbrev n_counts_of : List Str := ["program", "row"]
theorem sc_counts_of : FnScope n_counts_of ["program", "row"] (defScope st_counts_of) := ⟨rfl, rfl, rfl, by decide +kernel, rfl, by decide +kernel, by decide +kernel⟩
abbrev n_floor_of : List Str := ["guards"]
theorem sc_floor_of : FnScope n_floor_of ["guards"] (defScope st_floor_of) := ⟨rfl, rfl, rfl, by decide +kernel, rfl, by decide +kernel, by decide +kernel⟩
abbrev n_is_lacking : List Str := ["program", "row", "standing", "height", "guards"]
theorem sc_is_lacking : FnScope n_is_lacking ["program", "row", "standing"] (defScope st_is_lacking) := ⟨rfl, rfl, rfl, by decide +kernel, rfl, by decide +kernel, by decide +kernel⟩
abbrev n_leads_of : List Str := ["program", "rows", "at", "standing", "word", "height", "guards", "taken", "given"]
theorem sc_leads_of : FnScope n_leads_of ["program", "rows", "at", "standing"] (defScope st_leads_of) := ⟨rfl, rfl, rfl, by decide +kernel, rfl, by decide +kernel, by decide +kernel⟩
abbrev n_look_part_sound : List Str := ["program", "number", "found", "word", "called", "walks", "walk"]
theorem sc_look_part_sound : FnScope n_look_part_sound ["program", "number"] (defScope st_look_part_sound) := ⟨rfl, rfl, rfl, by decide +kernel, rfl, by decide +kernel, by decide +kernel⟩
abbrev n_agrees : List Str := ["program", "number", "one", "other", "stands"]
theorem sc_agrees : FnScope n_agrees ["program", "number", "one", "other"] (defScope st_agrees) := ⟨rfl, rfl, rfl, by decide +kernel, rfl, by decide +kernel, by decide +kernel⟩
abbrev n_agree : List Str := ["program", "part", "one", "other", "number"]
theorem sc_agree : FnScope n_agree ["program", "part", "one", "other"] (defScope st_agree) := ⟨rfl, rfl, rfl, by decide +kernel, rfl, by decide +kernel, by decide +kernel⟩
abbrev n_rows_paper : List Str := ["program", "part", "one", "other", "number", "found", "row", "word", "at", "standing"]
theorem sc_rows_paper : FnScope n_rows_paper ["program", "part", "one", "other"] (defScope st_rows_paper) := ⟨rfl, rfl, rfl, by decide +kernel, rfl, by decide +kernel, by decide +kernel⟩
abbrev n_part_at : List Str := ["program", "name", "number", "part"]
theorem sc_part_at : FnScope n_part_at ["program", "name"] (defScope st_part_at) := ⟨rfl, rfl, rfl, by decide +kernel, rfl, by decide +kernel, by decide +kernel⟩
abbrev n_are_rows : List Str := ["rows", "thing", "row"]
theorem sc_are_rows : FnScope n_are_rows ["rows", "thing"] (defScope st_are_rows) := ⟨rfl, rfl, rfl, by decide +kernel, rfl, by decide +kernel, by decide +kernel⟩
abbrev n_walked_to : List Str := ["program", "number", "thing", "rows", "standing", "here", "goal", "stands", "row", "led"]
theorem sc_walked_to : FnScope n_walked_to ["program", "number", "thing"] (defScope st_walked_to) := ⟨rfl, rfl, rfl, by decide +kernel, rfl, by decide +kernel, by decide +kernel⟩
abbrev n_goals_of : List Str := ["program", "rows", "at", "row", "led"]
theorem sc_goals_of : FnScope n_goals_of ["program", "rows", "at"] (defScope st_goals_of) := ⟨rfl, rfl, rfl, by decide +kernel, rfl, by decide +kernel, by decide +kernel⟩
abbrev n_is_sound_part : List Str := ["program", "number"]
theorem sc_is_sound_part : FnScope n_is_sound_part ["program", "number"] (defScope st_is_sound_part) := ⟨rfl, rfl, rfl, by decide +kernel, rfl, by decide +kernel, by decide +kernel⟩
abbrev n_both_walked : List Str := ["program", "number", "things", "stands", "walk"]
theorem sc_both_walked : FnScope n_both_walked ["program", "number", "things"] (defScope st_both_walked) := ⟨rfl, rfl, rfl, by decide +kernel, rfl, by decide +kernel, by decide +kernel⟩
abbrev n_agree_holds : List Str := ["program", "number", "things", "stands"]
theorem sc_agree_holds : FnScope n_agree_holds ["program", "number", "things"] (defScope st_agree_holds) := ⟨rfl, rfl, rfl, by decide +kernel, rfl, by decide +kernel, by decide +kernel⟩
abbrev n_apart_holds : List Str := ["program", "number", "things", "stands"]
theorem sc_apart_holds : FnScope n_apart_holds ["program", "number", "things"] (defScope st_apart_holds) := ⟨rfl, rfl, rfl, by decide +kernel, rfl, by decide +kernel, by decide +kernel⟩
abbrev n_unmet_holds : List Str := ["program", "number", "things", "row", "met", "rows", "at", "goal", "one", "other"]
theorem sc_unmet_holds : FnScope n_unmet_holds ["program", "number", "things"] (defScope st_unmet_holds) := ⟨rfl, rfl, rfl, by decide +kernel, rfl, by decide +kernel, by decide +kernel⟩
abbrev n_holds : List Str := ["program", "thing", "number", "look"]
theorem sc_holds : FnScope n_holds ["program", "thing"] (defScope st_holds) := ⟨rfl, rfl, rfl, by decide +kernel, rfl, by decide +kernel, by decide +kernel⟩
abbrev n_law_bag : List Str := ["_law_script", "_law_at", "_law_cell", "_law_far"]
theorem sc_law_bag : FnScope n_law_bag ["_law_script", "_law_at"] (defScope st_law_bag) := ⟨rfl, rfl, rfl, by decide +kernel, rfl, by decide +kernel, by decide +kernel⟩
abbrev n_law_take : List Str := ["_law_bag_here", "_law_many", "_law_primes", "_law_step", "_law_low", "_law_found", "_law_digit"]
theorem sc_law_take : FnScope n_law_take ["_law_bag_here", "_law_many"] (defScope st_law_take) := ⟨rfl, rfl, rfl, by decide +kernel, rfl, by decide +kernel, by decide +kernel⟩
abbrev n_law_block : List Str := ["_law_bag_here", "_law_at", "_law_deep", "_law_way", "_law_some", "_law_inner", "_law_there"]
theorem sc_law_block : FnScope n_law_block ["_law_bag_here", "_law_at", "_law_deep"] (defScope st_law_block) := ⟨rfl, rfl, rfl, by decide +kernel, rfl, by decide +kernel, by decide +kernel⟩
abbrev n_law_part : List Str := ["_law_bag_here", "_law_name", "_law_rows", "_law_turn", "_law_more"]
theorem sc_law_part : FnScope n_law_part ["_law_bag_here", "_law_name"] (defScope st_law_part) := ⟨rfl, rfl, rfl, by decide +kernel, rfl, by decide +kernel, by decide +kernel⟩
abbrev n_law_goals : List Str := ["_law_rows", "_law_at", "_law_standing", "_law_height", "_law_guards", "_law_word", "_law_taken", "_law_given", "_law_after"]
theorem sc_law_goals : FnScope n_law_goals ["_law_rows", "_law_at", "_law_standing"] (defScope st_law_goals) := ⟨rfl, rfl, rfl, by decide +kernel, rfl, by decide +kernel, by decide +kernel⟩
abbrev n_law_standings : List Str := ["_law_rows", "_law_found", "_law_waiting", "_law_at", "_law_goal", "_law_standing"]
theorem sc_law_standings : FnScope n_law_standings ["_law_rows"] (defScope st_law_standings) := ⟨rfl, rfl, rfl, by decide +kernel, rfl, by decide +kernel, by decide +kernel⟩
abbrev n_law_walked : List Str := ["_law_rows", "_law_walk_here", "_law_standing", "_law_here", "_law_goal", "_law_some", "_law_row", "_law_led"]
theorem sc_law_walked : FnScope n_law_walked ["_law_rows", "_law_walk_here"] (defScope st_law_walked) := ⟨rfl, rfl, rfl, by decide +kernel, rfl, by decide +kernel, by decide +kernel⟩
abbrev n_law_holds : List Str := ["_law_program", "_law_paper", "_law_found"]
theorem sc_law_holds : FnScope n_law_holds ["_law_program", "_law_paper"] (defScope st_law_holds) := ⟨rfl, rfl, rfl, by decide +kernel, rfl, by decide +kernel, by decide +kernel⟩
abbrev n_law_told_right : List Str := ["_law_program", "_law_part_here", "_law_found", "_law_pair", "_law_name", "_law_names", "_law_rows", "_law_paper", "_law_missing", "_law_due", "_law_kept", "_law_row", "_law_walk_here"]
theorem sc_law_told_right : FnScope n_law_told_right ["_law_program", "_law_part_here", "_law_found", "_law_pair"] (defScope st_law_told_right) := ⟨rfl, rfl, rfl, by decide +kernel, rfl, by decide +kernel, by decide +kernel⟩
abbrev n_law_walk : List Str := ["_law_bag_here", "_law_rows", "_law_walk_here", "_law_standing", "_law_turn", "_law_goals_here", "_law_goal"]
theorem sc_law_walk : FnScope n_law_walk ["_law_bag_here", "_law_rows"] (defScope st_law_walk) := ⟨rfl, rfl, rfl, by decide +kernel, rfl, by decide +kernel, by decide +kernel⟩
abbrev n_law_walks_right : List Str := ["_law_bag_here", "_law_program", "_law_part_here", "_law_name", "_law_names", "_law_rows", "_law_some", "_law_one", "_law_other", "_law_both", "_law_dues", "_law_word"]
theorem sc_law_walks_right : FnScope n_law_walks_right ["_law_bag_here", "_law_program", "_law_part_here"] (defScope st_law_walks_right) := ⟨rfl, rfl, rfl, by decide +kernel, rfl, by decide +kernel, by decide +kernel⟩
abbrev n_law_odd_unmet_right : List Str := ["_law_program", "_law_name", "_law_row", "_law_met", "_law_many", "_law_turned", "_law_odd", "_law_one"]
theorem sc_law_odd_unmet_right : FnScope n_law_odd_unmet_right ["_law_program", "_law_name", "_law_row", "_law_met", "_law_many"] (defScope st_law_odd_unmet_right) := ⟨rfl, rfl, rfl, by decide +kernel, rfl, by decide +kernel, by decide +kernel⟩
abbrev n_law_fixed_right : List Str := ["_law_falls", "_law_lacks", "_law_papers", "_law_paper"]
theorem sc_law_fixed_right : FnScope n_law_fixed_right [] (defScope st_law_fixed_right) := ⟨rfl, rfl, rfl, by decide +kernel, rfl, by decide +kernel, by decide +kernel⟩
abbrev n_law_unmet_right : List Str := ["_law_bag_here", "_law_program", "_law_part_here", "_law_found", "_law_name", "_law_names", "_law_rows", "_law_row", "_law_more", "_law_met", "_law_closed", "_law_at", "_law_due", "_law_goals_here", "_law_goal", "_law_led"]
theorem sc_law_unmet_right : FnScope n_law_unmet_right ["_law_bag_here", "_law_program", "_law_part_here", "_law_found"] (defScope st_law_unmet_right) := ⟨rfl, rfl, rfl, by decide +kernel, rfl, by decide +kernel, by decide +kernel⟩
abbrev n_law : List Str := ["_law_script", "_law_at", "_law_bag_here", "_law_program", "_law_part_here", "_law_found", "_law_many", "_law_pairs", "_law_k", "_law_pair"]
theorem sc_law : FnScope n_law ["_law_script"] (defScope st_law) := ⟨rfl, rfl, rfl, by decide +kernel, rfl, by decide +kernel, by decide +kernel⟩
abbrev n_Found_init : List Str := ["self", "program", "number", "names", "row"]
theorem sc_Found_init : FnScope n_Found_init ["self", "program", "number"] (defScope st_Found_init) := ⟨rfl, rfl, rfl, by decide +kernel, rfl, by decide +kernel, by decide +kernel⟩
abbrev n_Found_go_from : List Str := ["self", "at", "goal", "standing"]
theorem sc_Found_go_from : FnScope n_Found_go_from ["self", "at"] (defScope st_Found_go_from) := ⟨rfl, rfl, rfl, by decide +kernel, rfl, by decide +kernel, by decide +kernel⟩
abbrev n_Found_come_to : List Str := ["self", "walk", "goal", "standing"]
theorem sc_Found_come_to : FnScope n_Found_come_to ["self", "walk", "goal", "standing"] (defScope st_Found_come_to) := ⟨rfl, rfl, rfl, by decide +kernel, rfl, by decide +kernel, by decide +kernel⟩
/-! ### what the head has left -/
def HasD (K : PySem.W.Frag) (mg : Str → Option Value) (x : Str) (st : Stmt) : Prop := ∃ f fd, FnS K x x st f fd ∧ mg x = some (.ref f)
/-- a constant of the module -/
def HasC (K : PySem.W.Frag) (mg : Str → Option Value) (x : Str) (d : PyData) : Prop := ∃ u, mg x = some u ∧ Kn K u (.dat d)
def c_MOST_WORTH : PyData := .int 1000000000000
def c_MOST_LETTERS : PyData := .int 8
def c_MOST_PARTS : PyData := .int 8
def c_MOST_NAMES : PyData := .int 3
def c_MOST_LONG : PyData := .int 60
def c_LETTERS : PyData := .str "abcdefghijklmnopqrstuvwxyz"
def c_NAMED : PyData := .tuple [.str "get", .str "set", .str "look", .str "change"]
def c_LEADING : PyData := .tuple [.str "go", .str "if", .str "try"]
def c_ALONE : PyData := .tuple [.str "add", .str "less", .str "times", .str "over", .str "same", .str "below", .str "twin", .str "swap", .str "away", .str "say", .str "back", .str "throw", .str "done", .str "lead", .str "turn"]
def c_BEGIN : PyData := .tuple [.int 0, .tuple []]
def c_ANY_STANDING : PyData := .tuple [.int 0, .tuple [.tuple [.int 0, .int 0]]]
def hCounts : List (Str × Int × Int) := [("put", 0, 1), ("get", 0, 1), ("look", 0, 1), ("set", 1, 0), ("change", 1, 0), ("if", 1, 0), ("away", 1, 0), ("say", 1, 0), ("back", 1, 0), ("throw", 1, 0), ("lead", 1, 0), ("turn", 1, 0), ("add", 2, 1), ("less", 2, 1), ("times", 2, 1), ("over", 2, 1), ("same", 2, 1), ("below", 2, 1), ("twin", 1, 2), ("swap", 2, 2), ("go", 0, 0), ("try", 0, 0), ("done", 0, 0)]
structure Tx (w : World) (K : PySem.W.Frag) (mg : Str → Option Value) : Prop where
  d_is_whole : HasD K mg "is_whole" st_is_whole
  d_is_worth : HasD K mg "is_worth" st_is_worth
  d_is_name : HasD K mg "is_name" st_is_name
  d_are_unlike_names : ∃ f fd, FunD K "are_unlike_names" "are_unlike_names" (defArgs st_are_unlike_names) (defBody st_are_unlike_names) (defScope st_are_unlike_names) [] [("least", .int 0)] f fd ∧ mg "are_unlike_names" = some (.ref f)
  d_is_led_to : HasD K mg "is_led_to" st_is_led_to
  d_is_row : HasD K mg "is_row" st_is_row
  d_is_headed : HasD K mg "is_headed" st_is_headed
  d_is_program : HasD K mg "is_program" st_is_program
  d_look_program : HasD K mg "look_program" st_look_program
  d_number_of : HasD K mg "number_of" st_number_of
  d_look_row : HasD K mg "look_row" st_look_row
  d_counts_of : HasD K mg "counts_of" st_counts_of
  d_floor_of : HasD K mg "floor_of" st_floor_of
  d_is_lacking : HasD K mg "is_lacking" st_is_lacking
  d_leads_of : HasD K mg "leads_of" st_leads_of
  d_look_part_sound : HasD K mg "look_part_sound" st_look_part_sound
  d_agrees : HasD K mg "agrees" st_agrees
  d_agree : HasD K mg "agree" st_agree
  d_rows_paper : HasD K mg "rows_paper" st_rows_paper
  d_part_at : HasD K mg "part_at" st_part_at
  d_are_rows : HasD K mg "are_rows" st_are_rows
  d_walked_to : HasD K mg "walked_to" st_walked_to
  d_goals_of : HasD K mg "goals_of" st_goals_of
  d_is_sound_part : HasD K mg "is_sound_part" st_is_sound_part
  d_both_walked : HasD K mg "both_walked" st_both_walked
  d_agree_holds : HasD K mg "agree_holds" st_agree_holds
  d_apart_holds : HasD K mg "apart_holds" st_apart_holds
  d_unmet_holds : HasD K mg "unmet_holds" st_unmet_holds
  d_holds : HasD K mg "holds" st_holds
  d_law_bag : HasD K mg "_law_bag" st_law_bag
  d_law_take : HasD K mg "_law_take" st_law_take
  d_law_block : HasD K mg "_law_block" st_law_block
  d_law_part : HasD K mg "_law_part" st_law_part
  d_law_goals : HasD K mg "_law_goals" st_law_goals
  d_law_standings : HasD K mg "_law_standings" st_law_standings
  d_law_walked : HasD K mg "_law_walked" st_law_walked
  d_law_holds : HasD K mg "_law_holds" st_law_holds
  d_law_told_right : HasD K mg "_law_told_right" st_law_told_right
  d_law_walk : HasD K mg "_law_walk" st_law_walk
  d_law_walks_right : HasD K mg "_law_walks_right" st_law_walks_right
  d_law_odd_unmet_right : HasD K mg "_law_odd_unmet_right" st_law_odd_unmet_right
  d_law_fixed_right : HasD K mg "_law_fixed_right" st_law_fixed_right
  d_law_unmet_right : HasD K mg "_law_unmet_right" st_law_unmet_right
  b_len : mg "len" = none
  b_isinstance : mg "isinstance" = none
  b_int : mg "int" = none
  b_str : mg "str" = none
  b_bool : mg "bool" = none
  b_tuple : mg "tuple" = none
  b_list : mg "list" = none
  b_abs : mg "abs" = none
  b_all : mg "all" = none
  b_set : mg "set" = none
  b_enumerate : mg "enumerate" = none
  b_sorted : mg "sorted" = none
  b_min : mg "min" = none
  b_max : mg "max" = none
  b_zip : mg "zip" = none
  b_range : mg "range" = none
  c_MOST_WORTH : HasC K mg "MOST_WORTH" c_MOST_WORTH
  c_MOST_LETTERS : HasC K mg "MOST_LETTERS" c_MOST_LETTERS
  c_MOST_PARTS : HasC K mg "MOST_PARTS" c_MOST_PARTS
  c_MOST_NAMES : HasC K mg "MOST_NAMES" c_MOST_NAMES
  c_MOST_LONG : HasC K mg "MOST_LONG" c_MOST_LONG
  c_LETTERS : HasC K mg "LETTERS" c_LETTERS
  c_NAMED : HasC K mg "NAMED" c_NAMED
  c_LEADING : HasC K mg "LEADING" c_LEADING
  c_ALONE : HasC K mg "ALONE" c_ALONE
  c_BEGIN : HasC K mg "BEGIN" c_BEGIN
  c_ANY_STANDING : HasC K mg "ANY_STANDING" c_ANY_STANDING
  counts : ∃ a, mg "COUNTS" = some (.ref a) ∧ ∀ q ∈ hCounts, ∃ v, KDct K w a q.1 v ∧ ∀ G, Dq K G v (.tuple [.int q.2.1, .int q.2.2])
  looks : ∃ a es n, mg "LOOKS" = some (.ref a) ∧ KDict K w a es n ∧ ∀ q ∈ [(("agree" : Str), ("agree_holds" : Str)), ("apart", "apart_holds"), ("unmet", "unmet_holds")], ∃ f, mg q.2 = some (.ref f) ∧ PySem.W.nsIn K a q.1 = some (some (.ref f))
  found : ∃ C f0 f1 f2 d0 d1 d2, mg "Found" = some (.ref C) ∧ Cls K C ∧ Mk K C f0 ∧ Meth K C "go_from" f1 ∧ Meth K C "come_to" f2 ∧ FnS K "__init__" "Found.__init__" st_Found_init f0 d0 ∧ FnS K "go_from" "Found.go_from" st_Found_go_from f1 d1 ∧ FnS K "come_to" "Found.come_to" st_Found_come_to f2 d2 ∧
    NoAttr K C "program" ∧ NoAttr K C "called" ∧ NoAttr K C "listing" ∧ NoAttr K C "stands" ∧ NoAttr K C "walks" ∧ NoAttr K C "flaw" ∧ NoAttr K C "waits"
end Wr
end
section
set_option maxHeartbeats 4000000
namespace Wr
open PySem PySem.Spec PyProof.Rows L2
section
variable {P : Program} {w : World} {K : PySem.W.Frag} {mg : Str → Option Value} {base : Heap}
theorem df_mk {x : Str} {st : Stmt} {N ps : List Str} {k : Nat} {a : ASp} (D : HasD K mg x st) (S : FnScope N ps (defScope st)) (len : ∀ rs M P, a rs M P → rs.length = ps.length)
    (hb : ∀ (kV doc pm : Value) (an : Option Addr) (cdv ct : Value) (us : List Value), us.length = ps.length → bindArgs (PySem.W.fnOf x x (defArgs st) (defBody st) (defScope st) .none kV doc pm an cdv ct) ⟨us, []⟩ = pure (ps.zip us))
    (body : ∀ (f : Addr) (cdv : Value) (A : Around) (outer : List Env) (s : Shared) (H : Hp) (E : XK), Room k (A.deeper (envOfC x (defScope st) s.heap.objs.size f cdv)) → ∀ rs M PP, a rs M PP →
      BvX (bX P w K mg base N x st f cdv A outer s H E) (defBody st) (startD N rs) M (fun _ M' => PP (.dat .none) M') PP) : Df P w K mg base (k + 1) x ps a := by
  obtain ⟨f, fd, F, g⟩ := D
  exact df_of ⟨f, fd, F, g, FunD.bindsN F hb⟩ S len body
/-- .. what it made for itself is forgotten at its end -/
def Fo (PP : XP) : XP := fun r M' => ∃ M0, (∀ a m, M0 a = some m → M' a = some m) ∧ PP r M0
theorem BvX.fo {X : Cx} {sts : List Stmt} {δ : Sl} {M : AM} {PP : XP} (h : BvX X sts δ M (fun _ M' => Fo PP (.dat .none) M') (Fo PP)) : BvX X sts δ M (fun _ M' => PP (.dat .none) M') PP := fun σ G H D s l k => by
  refine h σ G H D s l ⟨fun δ' M' σ' G' H' s' l' f' n => ?_, fun v r M' G' H' s' f' sv n => ?_⟩
  · obtain ⟨M0, h0, n⟩ := n
    obtain ⟨s1, f1⟩ := s'.forget h0
    exact k.nx δ' M0 σ' G' H' s1 l' (f'.trans f1) n
  · obtain ⟨M0, h0, n⟩ := n
    obtain ⟨s1, f1⟩ := s'.forget h0
    exact k.rt v r M0 G' H' s1 (f'.trans f1) sv n
end
section
variable {X : Cx} {δ : Sl} {M : AM} {P : XP} {pos : Pos}
theorem EvX.nm {x : Str} {r : Sd} (h : P r M) (hN : X.N[X.N.idxOf x]? = some x := by rfl) (hδ : δ[X.N.idxOf x]? = some (some r) := by rfl) (hv : Vis X.env.scope x := by first | exact Or.inl rfl | exact Or.inr (Or.inl rfl) | exact Or.inr (Or.inr rfl))
    (hd : (x == ("__debug__" : Str)) = false := by decide) (hcd : (x == ("__classdict__" : Str)) = false := by decide) : EvX X (.Name x pos) δ M P := EvX.name _ h hN hδ hv hd hcd
theorem EvX.con {x : Str} {d : PyData} (hm : HasC X.K X.mg x d) (h : P (.dat d) M) (hg : Gl X x := by rfl) (hd : (x == ("__debug__" : Str)) = false := by decide) : EvX X (.Name x pos) δ M P := by
  obtain ⟨u, h1, h2⟩ := hm
  exact EvX.glob hg h1 h2 h hd
end
/-! ### the built-ins' names -/
theorem bt_len : bootBuiltins "len" = some (.builtin "len") := by decide +kernel
theorem bt_isinstance : bootBuiltins "isinstance" = some (.builtin "isinstance") := by decide +kernel
theorem bt_abs : bootBuiltins "abs" = some (.builtin "abs") := by decide +kernel
theorem bt_all : bootBuiltins "all" = some (.builtin "all") := by decide +kernel
theorem bt_sorted : bootBuiltins "sorted" = some (.builtin "sorted") := by decide +kernel
theorem bt_min : bootBuiltins "min" = some (.builtin "min") := by decide +kernel
theorem bt_max : bootBuiltins "max" = some (.builtin "max") := by decide +kernel
theorem bt_int : bootBuiltins "int" = some (.type "int") := by decide +kernel
theorem bt_str : bootBuiltins "str" = some (.type "str") := by decide +kernel
theorem bt_bool : bootBuiltins "bool" = some (.type "bool") := by decide +kernel
theorem bt_tuple : bootBuiltins "tuple" = some (.type "tuple") := by decide +kernel
theorem bt_list : bootBuiltins "list" = some (.type "list") := by decide +kernel
theorem bt_set : bootBuiltins "set" = some (.type "set") := by decide +kernel
theorem bt_enumerate : bootBuiltins "enumerate" = some (.type "enumerate") := by decide +kernel
theorem bt_zip : bootBuiltins "zip" = some (.type "zip") := by decide +kernel
theorem bt_range : bootBuiltins "range" = some (.type "range") := by decide +kernel
end Wr
end
section
set_option maxHeartbeats 4000000
namespace Wr
open PySem PySem.Spec PyProof.Rows L2
/-! ### rows, standings: what the text reckons, as plain functions -/
inductive Rw where
  | al (w : Str) | put (i : Int) | ld (w : Str) (g : Nat) | nm (w : Str) (n : Str)
def Rw.word : Rw → Str
  | .al w => w
  | .put _ => "put"
  | .ld w _ => w
  | .nm w _ => w
def Rw.rest : Rw → List PyData
  | .al _ => []
  | .put i => [.int i]
  | .ld _ g => [.int g]
  | .nm _ n => [.str n]
abbrev Rw.d (r : Rw) : PyData := .tuple (.str r.word :: r.rest)
def aloneL : List Str := ["add", "less", "times", "over", "same", "below", "twin", "swap", "away", "say", "back", "throw", "done", "lead", "turn"]
def leadL : List Str := ["go", "if", "try"]
def namedL : List Str := ["get", "set", "look", "change"]
/-- a name: one to eight letters -/
def NameOk (z : Str) : Prop := 1 ≤ z.length ∧ z.length ≤ 8 ∧ (∀ c ∈ z.cps.toList, c ∈ ("abcdefghijklmnopqrstuvwxyz" : Str).cps.toList) ∧ PyData.strOk z = true
instance (z : Str) : Decidable (NameOk z) := by unfold NameOk; infer_instance
/-- a row at a place of a part of n rows -/
def RwOk (n a : Nat) : Rw → Prop
  | .al w => w ∈ aloneL
  | .put i => -(10 ^ 12) ≤ i ∧ i ≤ 10 ^ 12
  | .ld w g => w ∈ leadL ∧ g < n ∧ (w = "try" → g ≠ a + 1)
  | .nm w z => w ∈ namedL ∧ NameOk z
abbrev Stg := Int × List (Int × Int)
abbrev gD (g : Int × Int) : PyData := .tuple [.int g.1, .int g.2]
abbrev stD (s : Stg) : PyData := .tuple [.int s.1, .tuple (s.2.map gD)]
def osD : Option Stg → PyData
  | none => .none
  | some s => stD s
def cnt (w : Str) : Int × Int := (hCounts.lookup w).getD (0, 0)
def floorOf (gs : List (Int × Int)) : Int := match gs.getLast? with
  | none => 0
  | some g => g.2
def lacking (r : Rw) (s : Stg) : Bool := if r.word = "done" then s.2.isEmpty else decide (s.1 - (cnt r.word).1 < floorOf s.2)
def goalOf : Rw → Int
  | .ld _ g => g
  | _ => 0
def leads (r : Rw) (a : Int) (s : Stg) : List (Int × Stg) :=
  let h := s.1 + ((cnt r.word).2 - (cnt r.word).1)
  if r.word = "back" ∨ r.word = "throw" then [] else if r.word = "go" then [(goalOf r, (h, s.2))] else if r.word = "if" then [(a + 1, (h, s.2)), (goalOf r, (h, s.2))]
  else if r.word = "try" then [(a + 1, (h, s.2 ++ [(goalOf r, h)])), (goalOf r, (h + 1, s.2))] else if r.word = "done" then [(a + 1, (h, s.2.dropLast))] else [(a + 1, (h, s.2))]
abbrev leadD (p : Int × Stg) : PyData := .tuple [.int p.1, stD p.2]
/-- a part: its name, its names, its rows -/
structure Pt where
  name : Str
  names : List Str
  rows : List Rw
abbrev Pt.d (p : Pt) : PyData := .tuple [.str p.name, .tuple (p.names.map .str), .tuple (p.rows.map Rw.d)]
structure PtOk (p : Pt) : Prop where
  name : NameOk p.name
  names : ∀ z ∈ p.names, NameOk z
  few : p.names.length ≤ 2
  nd : p.names.Nodup
  some_ : 1 ≤ p.rows.length
  many : p.rows.length ≤ 60
  rows : ∀ a r, p.rows[a]? = some r → RwOk p.rows.length a r
structure PgOk (ps : List Pt) : Prop where
  some_ : 1 ≤ ps.length
  few : ps.length ≤ 2
  nd : (ps.map Pt.name).Nodup
  parts : ∀ p ∈ ps, PtOk p
abbrev pgD (ps : List Pt) : PyData := .tuple (ps.map Pt.d)
/-! ### data compared -/
theorem lay_gs : ∀ gs : List (Int × Int), PyData.canLayAll0 (gs.map gD) = true
  | [] => by simp [PyData.canLayAll0]
  | g :: gs => by simp [PyData.canLayAll0, lay_gs gs, gD, PyData.canLay0]
theorem dep_gs : ∀ gs : List (Int × Int), PyData.depthAll (gs.map gD) ≤ 1
  | [] => by simp [PyData.depthAll]
  | g :: gs => by
    have h := dep_gs gs
    simp only [List.map_cons, PyData.depthAll, gD, PyData.depth] at *
    omega
theorem lay_st (s : Stg) : (stD s).canLay0 = true := by simp [stD, PyData.canLay0, PyData.canLayAll0, lay_gs]
theorem dep_st (s : Stg) : (stD s).depth ≤ 3 := by
  have h := dep_gs s.2
  simp only [stD, PyData.depth, PyData.depthAll]
  omega
theorem shaped_st (s : Stg) : SeqAt.shaped (stD s) = true := by
  unfold SeqAt.shaped
  rw [lay_st, decide_eq_true (Nat.le_trans (dep_st s) (by decide))]
  rfl
theorem lay_os : ∀ s : Option Stg, (osD s).canLay0 = true
  | none => by simp [osD, PyData.canLay0]
  | some s => lay_st s
theorem dep_os : ∀ s : Option Stg, (osD s).depth ≤ 3
  | none => by simp [osD, PyData.depth]
  | some s => dep_st s
theorem shaped_os (s : Option Stg) : SeqAt.shaped (osD s) = true := by
  unfold SeqAt.shaped
  rw [lay_os, decide_eq_true (Nat.le_trans (dep_os s) (by decide))]
  rfl
theorem layAll : ∀ ds : List PyData, (∀ d ∈ ds, d.canLay0 = true) → PyData.canLayAll0 ds = true
  | [], _ => by simp [PyData.canLayAll0]
  | d :: ds, h => by
    simp only [PyData.canLayAll0, Bool.and_eq_true]
    exact ⟨h d List.mem_cons_self, layAll ds fun e he => h e (List.mem_cons_of_mem _ he)⟩
theorem depAll {n : Nat} : ∀ ds : List PyData, (∀ d ∈ ds, d.depth ≤ n) → PyData.depthAll ds ≤ n
  | [], _ => by simp [PyData.depthAll]
  | d :: ds, h => by
    have h1 := h d List.mem_cons_self
    have h2 := depAll ds fun e he => h e (List.mem_cons_of_mem _ he)
    simp only [PyData.depthAll]
    omega
theorem shaped_list {ds : List PyData} (h1 : ∀ d ∈ ds, d.canLay0 = true) (h2 : ∀ d ∈ ds, d.depth ≤ 8) : SeqAt.shaped (.list ds) = true := by
  unfold SeqAt.shaped
  have e1 : (PyData.list ds).canLay0 = true := by
    simp only [PyData.canLay0]
    exact layAll ds h1
  have e2 : (PyData.list ds).depth ≤ 64 := by
    have h := depAll ds h2
    simp only [PyData.depth]
    omega
  rw [e1, decide_eq_true e2]
  rfl
theorem shaped_ints (ns : List Int) : SeqAt.shaped (.list (ns.map .int)) = true := shaped_list (fun d hd => by
  obtain ⟨n, _, rfl⟩ := List.mem_map.mp hd
  simp [PyData.canLay0]) fun d hd => by
  obtain ⟨n, _, rfl⟩ := List.mem_map.mp hd
  simp [PyData.depth]
theorem shaped_bools (ns : List Bool) : SeqAt.shaped (.list (ns.map .bool)) = true := shaped_list (fun d hd => by
  obtain ⟨n, _, rfl⟩ := List.mem_map.mp hd
  simp [PyData.canLay0]) fun d hd => by
  obtain ⟨n, _, rfl⟩ := List.mem_map.mp hd
  simp [PyData.depth]
theorem shaped_oss (ns : List (Option Stg)) : SeqAt.shaped (.list (ns.map osD)) = true := shaped_list (fun d hd => by
  obtain ⟨n, _, rfl⟩ := List.mem_map.mp hd
  exact lay_os n) fun d hd => by
  obtain ⟨n, _, rfl⟩ := List.mem_map.mp hd
  exact Nat.le_trans (dep_os n) (by decide)
theorem eqv_gs : ∀ gs hs : List (Int × Int), PyData.eqvAll (gs.map gD) (hs.map gD) = decide (gs = hs)
  | [], [] => by simp [PyData.eqvAll]
  | [], h :: hs => by simp [PyData.eqvAll]
  | g :: gs, [] => by simp [PyData.eqvAll]
  | (g1, g2) :: gs, (h1, h2) :: hs => by
    have ih := eqv_gs gs hs
    simp only [List.map_cons, PyData.eqvAll, ih, gD, PyData.eqv, Bool.and_true]
    by_cases e1 : g1 = h1 <;> by_cases e2 : g2 = h2 <;> by_cases e3 : gs = hs <;> simp [e1, e2, e3]
theorem shaped_gs (gs : List (Int × Int)) : SeqAt.shaped (.tuple (gs.map gD)) = true := by
  have e1 : (PyData.tuple (gs.map gD)).canLay0 = true := by
    simp only [PyData.canLay0]
    exact lay_gs gs
  have e2 : (PyData.tuple (gs.map gD)).depth ≤ 64 := by
    have h := dep_gs gs
    simp only [PyData.depth]
    omega
  unfold SeqAt.shaped
  rw [e1, decide_eq_true e2]
  rfl
theorem eqv_tgs (gs : List (Int × Int)) : PyData.eqv (.tuple (gs.map gD)) (.tuple []) = decide (gs = []) := by
  have h := eqv_gs gs []
  simp only [PyData.eqv]
  exact h
theorem eqv_st (s t : Stg) : PyData.eqv (stD s) (stD t) = decide (s = t) := by
  obtain ⟨s1, s2⟩ := s
  obtain ⟨t1, t2⟩ := t
  simp only [stD, PyData.eqv, PyData.eqvAll, eqv_gs, Bool.and_true]
  by_cases e1 : s1 = t1 <;> by_cases e2 : s2 = t2 <;> simp [e1, e2]
theorem eqv_os : ∀ s t : Option Stg, PyData.eqv (osD s) (osD t) = decide (s = t)
  | none, none => by simp [osD, PyData.eqv]
  | none, some t => by simp [osD, stD, PyData.eqv]
  | some s, none => by simp [osD, stD, PyData.eqv]
  | some s, some t => by
    show PyData.eqv (stD s) (stD t) = _
    rw [eqv_st]
    by_cases e : s = t <;> simp [e]
theorem eqv_ints : ∀ a b : List Int, PyData.eqvAll (a.map .int) (b.map .int) = decide (a = b)
  | [], [] => by simp [PyData.eqvAll]
  | [], h :: hs => by simp [PyData.eqvAll]
  | g :: gs, [] => by simp [PyData.eqvAll]
  | g :: gs, h :: hs => by
    have ih := eqv_ints gs hs
    simp only [List.map_cons, PyData.eqvAll, ih, PyData.eqv]
    by_cases e1 : g = h <;> by_cases e2 : gs = hs <;> simp [e1, e2]
theorem eqv_bools : ∀ a b : List Bool, PyData.eqvAll (a.map .bool) (b.map .bool) = decide (a = b)
  | [], [] => by simp [PyData.eqvAll]
  | [], h :: hs => by simp [PyData.eqvAll]
  | g :: gs, [] => by simp [PyData.eqvAll]
  | g :: gs, h :: hs => by
    have ih := eqv_bools gs hs
    simp only [List.map_cons, PyData.eqvAll, ih, PyData.eqv]
    by_cases e1 : g = h <;> by_cases e2 : gs = hs <;> simp [e1, e2]
theorem eqv_oss : ∀ a b : List (Option Stg), PyData.eqvAll (a.map osD) (b.map osD) = decide (a = b)
  | [], [] => by simp [PyData.eqvAll]
  | [], h :: hs => by simp [PyData.eqvAll]
  | g :: gs, [] => by simp [PyData.eqvAll]
  | g :: gs, h :: hs => by
    have ih := eqv_oss gs hs
    simp only [List.map_cons, PyData.eqvAll, ih, eqv_os]
    by_cases e1 : g = h <;> by_cases e2 : gs = hs <;> simp [e1, e2]
/-! ### places -/
theorem atI0 {α : Type} {x : α} {xs : List α} : atI (x :: xs) 0 = some x := atI_nat (j := 0) rfl
theorem atI1 {α : Type} {x y : α} {xs : List α} : atI (x :: y :: xs) 1 = some y := atI_nat (j := 1) rfl
theorem atI2 {α : Type} {x y z : α} {xs : List α} : atI (x :: y :: z :: xs) 2 = some z := atI_nat (j := 2) rfl
theorem atI_map {α : Type} {f : α → PyData} {xs : List α} {j : Nat} {x : α} (h : xs[j]? = some x) : atI (xs.map f) (j : Int) = some (f x) := atI_nat (by rw [List.getElem?_map, h]; rfl)
theorem atI_lastD {α : Type} {f : α → PyData} {xs : List α} {x : α} (h : xs.getLast? = some x) : atI (xs.map f) (-1) = some (f x) := by
  obtain ⟨ys, rfl⟩ := List.getLast?_eq_some_iff.mp h
  rw [List.map_append]
  exact atI_last _ _
theorem inD_str (w : Str) : ∀ ws : List Str, inD (.str w) (ws.map .str) = decide (w ∈ ws)
  | [] => rfl
  | x :: xs => by
    have ih := inD_str w xs
    unfold inD at *
    rw [List.map_cons, List.any_cons, ih]
    simp only [PyData.eqv]
    by_cases e : x = w
    · subst e
      simp
    · have e' : ¬ w = x := fun z => e z.symm
      simp [e, e']
theorem inD_int (w : Int) : ∀ ws : List Int, inD (.int w) (ws.map .int) = decide (w ∈ ws)
  | [] => rfl
  | x :: xs => by
    have ih := inD_int w xs
    unfold inD at *
    rw [List.map_cons, List.any_cons, ih]
    simp only [PyData.eqv]
    by_cases e : x = w
    · subst e
      simp
    · have e' : ¬ w = x := fun z => e z.symm
      simp [e, e']
theorem flat_strs' (ws : List Str) : (ws.map PyData.str).all flatD = true := by
  rw [List.all_map]
  exact List.all_eq_true.mpr fun _ _ => rfl
theorem flat_ints' (ws : List Int) : (ws.map PyData.int).all flatD = true := by
  rw [List.all_map]
  exact List.all_eq_true.mpr fun _ _ => rfl
/-! ### words -/
theorem cnt_in {w : Str} (h : w ∈ hCounts.map (·.1)) : ∃ q ∈ hCounts, q.1 = w ∧ q.2 = cnt w := by
  have all : ∀ w ∈ hCounts.map (·.1), (w, cnt w) ∈ hCounts := by decide +kernel
  exact ⟨_, all w h, rfl, rfl⟩
theorem word_counts {n a : Nat} {r : Rw} (h : RwOk n a r) : r.word ∈ hCounts.map (·.1) := by
  have h1 : ∀ w ∈ aloneL, w ∈ hCounts.map (·.1) := by decide +kernel
  have h2 : ∀ w ∈ leadL, w ∈ hCounts.map (·.1) := by decide +kernel
  have h3 : ∀ w ∈ namedL, w ∈ hCounts.map (·.1) := by decide +kernel
  cases r with
  | al w => exact h1 w h
  | put i => exact (by decide +kernel : ("put" : Str) ∈ hCounts.map (·.1))
  | ld w g => exact h2 w h.1
  | nm w z => exact h3 w h.1
theorem word_nocall {n a : Nat} {r : Rw} (h : RwOk n a r) : r.word ≠ "call" := fun e => by
  have z := word_counts h
  rw [e] at z
  exact absurd z (by decide +kernel)
theorem sz0 {α : Type} : ([] : List α).length ≤ sizeLine := Nat.le_of_lt (size_big (by decide : 0 ≤ 20000))
theorem sz1 {α : Type} {a0 : α} : ([a0] : List α).length ≤ sizeLine := Nat.le_of_lt (size_big (by decide : 1 ≤ 20000))
theorem sz2 {α : Type} {a0 a1 : α} : ([a0, a1] : List α).length ≤ sizeLine := Nat.le_of_lt (size_big (by decide : 2 ≤ 20000))
theorem sz3 {α : Type} {a0 a1 a2 : α} : ([a0, a1, a2] : List α).length ≤ sizeLine := Nat.le_of_lt (size_big (by decide : 3 ≤ 20000))
theorem sz4 {α : Type} {a0 a1 a2 a3 : α} : ([a0, a1, a2, a3] : List α).length ≤ sizeLine := Nat.le_of_lt (size_big (by decide : 4 ≤ 20000))
theorem sz5 {α : Type} {a0 a1 a2 a3 a4 : α} : ([a0, a1, a2, a3, a4] : List α).length ≤ sizeLine := Nat.le_of_lt (size_big (by decide : 5 ≤ 20000))
theorem sz6 {α : Type} {a0 a1 a2 a3 a4 a5 : α} : ([a0, a1, a2, a3, a4, a5] : List α).length ≤ sizeLine := Nat.le_of_lt (size_big (by decide : 6 ≤ 20000))
theorem sz8 {α : Type} {a0 a1 a2 a3 a4 a5 a6 a7 : α} : ([a0, a1, a2, a3, a4, a5, a6, a7] : List α).length ≤ sizeLine := Nat.le_of_lt (size_big (by decide : 8 ≤ 20000))
theorem iteT {c : Bool} {A B : Prop} (h : c = true) (x : A) : if c = true then A else B := by rw [if_pos h]; exact x
theorem iteF {c : Bool} {A B : Prop} (h : c = false) (x : B) : if c = true then A else B := by rw [if_neg (by rw [h]; decide)]; exact x
theorem filterMap_if {α β : Type} (p : α → Bool) (f : α → β) : ∀ xs : List α, xs.filterMap (fun r => if p r = true then some (f r) else none) = (xs.filter p).map f
  | [] => rfl
  | x :: xs => by
    have ih := filterMap_if p f xs
    cases h : p x <;> simp [List.filterMap_cons, List.filter_cons, h, ih]
section
variable {X : Cx} {scope : Scope} {elt c : Expr} {ws : List Nat} {δ : Sl} {P : XP} {items : List Sd} {M1 : AM} {g : TG}
/-- [e for x in ..] -/
theorem lcMapT (f : Sd → PyData) (hz : items.length < sizeLine) (ht : ∀ r, r ∈ items → ∃ δ2 vs, (∀ i ∈ vs, i ∈ ws) ∧ TgD X.K g r M1 (wipeD δ ws) δ2 vs ∧ EvB X scope elt δ2 M1 fun r' M4 => M4 = M1 ∧ r' = .dat (f r)) (hP : P (.dat (.list (items.map f))) M1) {own : List (Str × Nat)} (how : own.map (·.2) = ws) :
    LcInv X scope [] elt g (own.map (·.2)) δ P items M1 := by
  subst how
  refine lcPure (fun r => some (f r)) hz (fun r hr => ?_) (by rw [List.filterMap_eq_map']; exact hP)
  obtain ⟨δ2, vs, h1, h2, h3⟩ := ht r hr
  refine ⟨δ2, vs, fun b M3 => b = true ∧ M3 = M1, h1, h2, ⟨rfl, rfl⟩, fun M3 q => ?_, fun M3 q => by cases q.1⟩
  obtain ⟨_, rfl⟩ := q
  intro s0 H0 C cl fp σ G H Q s l k
  refine h3 s0 H0 C cl fp σ G H Q s l fun v r' M' G' H' s' f' sv n => k v r' M' G' H' s' f' sv ?_
  obtain ⟨rfl, rfl⟩ := n
  exact ⟨.dat (f r), rfl, rfl, f r, rfl, rfl⟩
theorem lcMap (i : Nat) (f : Sd → PyData) (hz : items.length < sizeLine) {own : List (Str × Nat)} (hi : i ∈ own.map (·.2)) (ht : ∀ r, r ∈ items → EvB X scope elt ((wipeD δ (own.map (·.2))).set i (some r)) M1 fun r' M4 => M4 = M1 ∧ r' = .dat (f r)) (hP : P (.dat (.list (items.map f))) M1) :
    LcInv X scope [] elt (gName i) (own.map (·.2)) δ P items M1 :=
  lcMapT f hz (fun r hr => ⟨_, [i], fun j hj => by rw [List.mem_singleton.mp hj]; exact hi, TgD.name i, ht r hr⟩) hP rfl
/-- [e for x in .. if c] -/
theorem lcFilT (p : Sd → Bool) (f : Sd → PyData) (hz : items.length < sizeLine) {own : List (Str × Nat)}
    (ht : ∀ r, r ∈ items → ∃ δ2 vs, (∀ i ∈ vs, i ∈ own.map (·.2)) ∧ TgD X.K g r M1 (wipeD δ (own.map (·.2))) δ2 vs ∧ (TvB X scope c δ2 M1 fun b M4 => M4 = M1 ∧ b = p r) ∧ (p r = true → EvB X scope elt δ2 M1 fun r' M4 => M4 = M1 ∧ r' = .dat (f r)))
    (hP : P (.dat (.list ((items.filter p).map f))) M1) : LcInv X scope [c] elt g (own.map (·.2)) δ P items M1 := by
  refine lcPure (fun r => if p r = true then some (f r) else none) hz (fun r hr => ?_) ?_
  · obtain ⟨δ2, vs, h1, h2, h3, h4⟩ := ht r hr
    refine ⟨δ2, vs, fun b M3 => M3 = M1 ∧ b = p r, h1, h2, h3, fun M3 q => ?_, fun M3 q => ?_⟩
    · obtain ⟨rfl, q⟩ := q
      intro s0 H0 C cl fp σ G H Q s l k
      refine h4 q.symm s0 H0 C cl fp σ G H Q s l fun v r' M' G' H' s' f' sv n => k v r' M' G' H' s' f' sv ?_
      obtain ⟨rfl, rfl⟩ := n
      exact ⟨.dat (f r), rfl, rfl, f r, by rw [if_pos q.symm], rfl⟩
    · obtain ⟨rfl, q⟩ := q
      exact ⟨rfl, by rw [if_neg (by rw [← q]; decide)]⟩
  · rw [filterMap_if]
    exact hP
end
section
variable {X : Cx} {scope : Scope} {elt c : Expr} {ifs : List Expr} {ws : List Nat} {δ : Sl} {P : XP} {M1 : AM} {g : TG} {α : Type}
theorem lcPureA (xs : List α) (g0 : α → Sd) (f : α → Option PyData) (hz : xs.length < sizeLine) (ht : ∀ x, x ∈ xs → LcTurn X scope ifs elt g ws δ (g0 x) M1 (fun s0 M4 => M4 = M1 ∧ ∃ d, f x = some d ∧ s0 = .dat d) (fun M4 => M4 = M1 ∧ f x = none))
    (hP : P (.dat (.list (xs.filterMap f))) M1) : LcInv X scope ifs elt g ws δ P (xs.map g0) M1 := by
  refine ⟨fun i acc M2 => M2 = M1 ∧ acc = ((xs.take i).filterMap f).map .dat, ⟨rfl, rfl⟩, by rw [List.length_map]; exact hz, fun i r acc M2 hr hI => ?_, fun acc M2 hI => ?_⟩
  · obtain ⟨rfl, rfl⟩ := hI
    rw [List.getElem?_map] at hr
    cases hx : xs[i]? with
    | none =>
      rw [hx] at hr
      cases hr
    | some x =>
      rw [hx] at hr
      obtain rfl : g0 x = r := by simpa using hr
      have tk : xs.take (i + 1) = xs.take i ++ [x] := by
        rw [List.take_add_one, hx]
        rfl
      obtain ⟨δ2, vs, Tp, h1, h2, h3, h4, h5⟩ := ht x (List.mem_of_getElem? hx)
      refine ⟨δ2, vs, Tp, h1, h2, h3, fun M3 q s0 H0 C cl fp σ G H Q s l k => h4 M3 q s0 H0 C cl fp σ G H Q s l fun v r' M' G' H' s' f' sv n => k v r' M' G' H' s' f' sv ?_, fun M3 q => ?_⟩
      · obtain ⟨s1, e1, e2, d, e3, e4⟩ := n
        refine ⟨s1, e1, e2, ?_⟩
        rw [tk, List.filterMap_append, List.map_append]
        simp [e3, e4]
      · obtain ⟨e2, e3⟩ := h5 M3 q
        refine ⟨e2, ?_⟩
        rw [tk, List.filterMap_append]
        simp [e3]
  · obtain ⟨rfl, rfl⟩ := hI
    rw [List.length_map, List.take_length]
    exact .inl ⟨_, rfl, hP⟩
/-- [e for x in ..] -/
theorem lcMapTA (xs : List α) (g0 : α → Sd) (f : α → PyData) (hz : xs.length < sizeLine) (ht : ∀ x, x ∈ xs → ∃ δ2 vs, (∀ i ∈ vs, i ∈ ws) ∧ TgD X.K g (g0 x) M1 (wipeD δ ws) δ2 vs ∧ EvB X scope elt δ2 M1 fun r' M4 => M4 = M1 ∧ r' = .dat (f x)) (hP : P (.dat (.list (xs.map f))) M1) :
    LcInv X scope [] elt g ws δ P (xs.map g0) M1 := by
  refine lcPureA xs g0 (fun r => some (f r)) hz (fun x hr => ?_) (by rw [List.filterMap_eq_map']; exact hP)
  obtain ⟨δ2, vs, h1, h2, h3⟩ := ht x hr
  refine ⟨δ2, vs, fun b M3 => b = true ∧ M3 = M1, h1, h2, ⟨rfl, rfl⟩, fun M3 q => ?_, fun M3 q => by cases q.1⟩
  obtain ⟨_, rfl⟩ := q
  intro s0 H0 C cl fp σ G H Q s l k
  refine h3 s0 H0 C cl fp σ G H Q s l fun v r' M' G' H' s' f' sv n => k v r' M' G' H' s' f' sv ?_
  obtain ⟨rfl, rfl⟩ := n
  exact ⟨.dat (f x), rfl, rfl, f x, rfl, rfl⟩
theorem lcMapA (i : Nat) (xs : List α) (g0 : α → Sd) (f : α → PyData) (hz : xs.length < sizeLine) (hi : i ∈ ws) (ht : ∀ x, x ∈ xs → EvB X scope elt ((wipeD δ ws).set i (some (g0 x))) M1 fun r' M4 => M4 = M1 ∧ r' = .dat (f x)) (hP : P (.dat (.list (xs.map f))) M1) :
    LcInv X scope [] elt (gName i) ws δ P (xs.map g0) M1 :=
  lcMapTA xs g0 f hz (fun x hr => ⟨_, [i], fun j hj => by rw [List.mem_singleton.mp hj]; exact hi, TgD.name i, ht x hr⟩) hP
/-- [e for x in .. if c] -/
theorem lcFilTA (xs : List α) (g0 : α → Sd) (p : α → Bool) (f : α → PyData) (hz : xs.length < sizeLine)
    (ht : ∀ x, x ∈ xs → ∃ δ2 vs, (∀ i ∈ vs, i ∈ ws) ∧ TgD X.K g (g0 x) M1 (wipeD δ ws) δ2 vs ∧ (TvB X scope c δ2 M1 fun b M4 => M4 = M1 ∧ b = p x) ∧ (p x = true → EvB X scope elt δ2 M1 fun r' M4 => M4 = M1 ∧ r' = .dat (f x)))
    (hP : P (.dat (.list ((xs.filter p).map f))) M1) : LcInv X scope [c] elt g ws δ P (xs.map g0) M1 := by
  refine lcPureA xs g0 (fun r => if p r = true then some (f r) else none) hz (fun r hr => ?_) ?_
  · obtain ⟨δ2, vs, h1, h2, h3, h4⟩ := ht r hr
    refine ⟨δ2, vs, fun b M3 => M3 = M1 ∧ b = p r, h1, h2, h3, fun M3 q => ?_, fun M3 q => ?_⟩
    · obtain ⟨rfl, q⟩ := q
      intro s0 H0 C cl fp σ G H Q s l k
      refine h4 q.symm s0 H0 C cl fp σ G H Q s l fun v r' M' G' H' s' f' sv n => k v r' M' G' H' s' f' sv ?_
      obtain ⟨rfl, rfl⟩ := n
      exact ⟨.dat (f r), rfl, rfl, f r, by rw [if_pos q.symm], rfl⟩
    · obtain ⟨rfl, q⟩ := q
      exact ⟨rfl, by rw [if_neg (by rw [← q]; decide)]⟩
  · rw [filterMap_if]
    exact hP
theorem lcFilA (i : Nat) (xs : List α) (g0 : α → Sd) (p : α → Bool) (f : α → PyData) (hz : xs.length < sizeLine) (hi : i ∈ ws)
    (hc : ∀ x, x ∈ xs → TvB X scope c ((wipeD δ ws).set i (some (g0 x))) M1 fun b M4 => M4 = M1 ∧ b = p x) (ht : ∀ x, x ∈ xs → p x = true → EvB X scope elt ((wipeD δ ws).set i (some (g0 x))) M1 fun r' M4 => M4 = M1 ∧ r' = .dat (f x))
    (hP : P (.dat (.list ((xs.filter p).map f))) M1) : LcInv X scope [c] elt (gName i) ws δ P (xs.map g0) M1 :=
  lcFilTA xs g0 p f hz (fun x hr => ⟨_, [i], fun j hj => by rw [List.mem_singleton.mp hj]; exact hi, TgD.name i, hc x hr, ht x hr⟩) hP
theorem COp.allM {xs : List α} {f : α → Bool} {M : AM} (hc : X.calm = true) (h : P (.dat (.bool (xs.all f))) M) : COp X (.builtin "all") [.dat (.list (xs.map fun x => .bool (f x)))] M P := by
  have e : (xs.map fun x => PyData.bool (f x)) = (xs.map f).map .bool := by rw [List.map_map]; rfl
  rw [e]
  refine COp.all hc ?_
  have e2 : (xs.map f).all id = xs.all f := by rw [List.all_map]; rfl
  rw [e2]
  exact h
/-- all([True, ..]) -/
theorem COp.allT {xs : List α} {M : AM} (hc : X.calm = true) (h : P (.dat (.bool true)) M) : COp X (.builtin "all") [.dat (.list (xs.map fun _ => .bool true))] M P := by
  refine COp.allM (f := fun _ => true) hc ?_
  have e : (xs.all fun _ => true) = true := List.all_eq_true.mpr fun _ _ => rfl
  rw [e]
  exact h
end
section
variable {X : Cx} {e : Expr} {δ : Sl} {M : AM} {P : XP} {PO : Option Int → AM → Prop}
theorem PoX.non (h : PO none M) : PoX X none δ M PO := h
theorem PoX.som (h : EvX X e δ M fun r M1 => ∃ i, r = .dat (.int i) ∧ PO (some i) M1) : PoX X (some e) δ M PO := h
theorem VOp.addG {gs hs : List (Int × Int)} (hz : gs.length + hs.length ≤ 20000) (h : P (.dat (.tuple ((gs ++ hs).map gD))) M) : VOp X (binaryOp .Add) (.dat (.tuple (gs.map gD))) (.dat (.tuple (hs.map gD))) M P := by
  refine VOp.addT (by rw [List.length_map, List.length_map]; exact Nat.le_of_lt (size_big hz)) ?_
  rw [← List.map_append]
  exact h
/-- two lists of things told by f -/
theorem VOp.addLm {α : Type} {f : α → PyData} {a b : List α} (hz : a.length + b.length ≤ 20000) (h : P (.dat (.list ((a ++ b).map f))) M) : VOp X (binaryOp .Add) (.dat (.list (a.map f))) (.dat (.list (b.map f))) M P := by
  refine VOp.addL (by rw [List.length_map, List.length_map]; exact Nat.le_of_lt (size_big hz)) ?_
  rw [← List.map_append]
  exact h
theorem cut_last (xs : List PyData) : cutD xs none (some (-1)) = xs.dropLast := by
  unfold cutD
  have e : HT.sIx xs.length xs.length (some (-1)) = xs.length - 1 := by
    show (if (-1 : Int) < 0 then ((-1 : Int) + (xs.length : Int)).toNat else min (-1 : Int).toNat xs.length) = _
    rw [if_pos (by decide)]
    omega
  have e2 : HT.sIx xs.length 0 none = 0 := rfl
  rw [e, e2, List.drop_zero, List.dropLast_eq_take, Nat.sub_zero]
theorem cut_last_map {α : Type} (f : α → PyData) (xs : List α) : cutD (xs.map f) none (some (-1)) = xs.dropLast.map f := by
  rw [cut_last, List.map_dropLast]
end
section
variable {X : Cx} {M : AM} {P : XP}
theorem VOp.inStrs {w : Str} (ws : List Str) (h : P (.dat (.bool (decide (w ∈ ws)))) M) : VOp X (compareOp .In) (.dat (.str w)) (.dat (.tuple (ws.map .str))) M P := by
  refine VOp.inT rfl (flat_strs' ws) ?_
  rw [inD_str]
  exact h
theorem VOp.ninStrs {w : Str} (ws : List Str) (h : P (.dat (.bool (!decide (w ∈ ws)))) M) : VOp X (compareOp .NotIn) (.dat (.str w)) (.dat (.tuple (ws.map .str))) M P := by
  refine VOp.ninT rfl (flat_strs' ws) ?_
  rw [inD_str]
  exact h
theorem VOp.inInts {w : Int} (ws : List Int) (h : P (.dat (.bool (decide (w ∈ ws)))) M) : VOp X (compareOp .In) (.dat (.int w)) (.dat (.list (ws.map .int))) M P := by
  refine VOp.inL rfl (flat_ints' ws) ?_
  rw [inD_int]
  exact h
end
section
variable {X : Cx} {M : AM} {P : XP}
theorem VOp.inDeep {d : PyData} {ds : List PyData} (hu : X.A.units + 65 < cLine) (h1 : SeqAt.shaped d = true) (h2 : SeqAt.shaped (.list ds) = true) (h : P (.dat (.bool (Wr.inD d ds))) M) : VOp X (compareOp .In) (.dat d) (.dat (.list ds)) M P :=
  VOp.of (op_inD hu) fun v1 v2 G H Q s q1 q2 k => ⟨d, ds, Dq.dp s.gh d v1 q1, Dq.dp s.gh _ v2 q2, h1, h2, k _ _ M G H s Fw.refl (svBl _) h⟩
theorem u65 {k : Nat} {A : Around} (r : Room k A) : A.units + 65 < cLine := by have := r.un; omega
theorem u1 {k : Nat} {A : Around} (r : Room k A) : A.units + 1 < cLine := by have := r.un; omega
/-- less is told -/
abbrev LeM (M M' : AM) : Prop := ∀ a m, M a = some m → M' a = some m
theorem le_new {q : Addr} {o : MO} (h : M q = none) : LeM M (setM M q o) := fun a m e => by
  by_cases z : a = q
  · subst z
    rw [h] at e
    cases e
  · rw [setM_ne z]
    exact e
theorem LeM.trans {M M1 M2 : AM} (h : LeM M M1) (h' : LeM M1 M2) : LeM M M2 := fun a m e => h' a m (h a m e)
theorem setM_setM {q : Addr} {o o' : MO} : setM (setM M q o) q o' = setM M q o' := funext fun a => by
  unfold setM
  split <;> rfl
end
theorem eqv_nilT {α : Type} (f : α → PyData) (xs : List α) : PyData.eqv (.tuple (xs.map f)) (.tuple []) = xs.isEmpty := by
  cases xs <;> simp [PyData.eqv, PyData.eqvAll]
theorem eqv_nilL {α : Type} (f : α → PyData) (xs : List α) : PyData.eqv (.list (xs.map f)) (.list []) = xs.isEmpty := by
  cases xs <;> simp [PyData.eqv, PyData.eqvAll]
theorem shaped_nil : SeqAt.shaped (.list []) = true := rfl
theorem shaped_sts (xs : List Stg) : SeqAt.shaped (.list (xs.map stD)) = true := shaped_list (fun d hd => by
  obtain ⟨n, _, rfl⟩ := List.mem_map.mp hd
  exact lay_st n) fun d hd => by
  obtain ⟨n, _, rfl⟩ := List.mem_map.mp hd
  exact Nat.le_trans (dep_st n) (by decide)
theorem at0_uniq {xs : List (Key × S0)} {k : Key} {v : S0} (h : (k, v) ∈ xs) (u : ∀ v', (k, v') ∈ xs → v' = v) : at0 xs k = some v := by
  unfold at0
  cases e : xs.find? fun kv => decide (kv.1 = k) with
  | none =>
    have z := List.find?_eq_none.mp e _ h
    simp at z
  | some kv =>
    have z1 := List.mem_of_find?_eq_some e
    have z2 := List.find?_some e
    have z3 : kv.1 = k := by simpa using z2
    obtain ⟨k', v'⟩ := kv
    subst z3
    rw [u v' z1]
    rfl
theorem at0_none {xs : List (Key × S0)} {k : Key} (u : ∀ v', (k, v') ∉ xs) : at0 xs k = none := by
  unfold at0
  cases e : xs.find? fun kv => decide (kv.1 = k) with
  | none => rfl
  | some kv =>
    have z1 := List.mem_of_find?_eq_some e
    have z2 := List.find?_some e
    have z3 : kv.1 = k := by simpa using z2
    obtain ⟨k', v'⟩ := kv
    subst z3
    exact absurd z1 (u v')
theorem put0_new {xs : List (Key × S0)} {k : Key} {v : S0} (u : ∀ v', (k, v') ∉ xs) : put0 xs k v = xs ++ [(k, v)] := by
  unfold put0
  rw [if_neg]
  intro z
  obtain ⟨kv, z1, z2⟩ := List.any_eq_true.mp z
  have z3 : kv.1 = k := by simpa using z2
  obtain ⟨k', v'⟩ := kv
  subst z3
  exact u v' z1
theorem nodup_at {α : Type} : ∀ {xs : List α} {i k : Nat} {x : α}, xs.Nodup → xs[i]? = some x → xs[k]? = some x → i = k
  | [], i, k, x, _, h, _ => by simp at h
  | y :: ys, 0, 0, x, _, _, _ => rfl
  | y :: ys, 0, k + 1, x, nd, h, h' => by
    have h : y = x := by simpa using h
    subst h
    exact absurd (List.mem_of_getElem? (by simpa using h')) (List.nodup_cons.mp nd).1
  | y :: ys, i + 1, 0, x, nd, h, h' => by
    have h' : y = x := by simpa using h'
    subst h'
    exact absurd (List.mem_of_getElem? (by simpa using h)) (List.nodup_cons.mp nd).1
  | y :: ys, i + 1, k + 1, x, nd, h, h' => congrArg Nat.succ (nodup_at (List.nodup_cons.mp nd).2 (by simpa using h) (by simpa using h'))
/-! ### standings that hang together, walks, rows that are met -/
/-- rows that are met, with their standings -/
inductive Reach (rows : List Rw) : Nat → Stg → Prop
  | zero : Reach rows 0 (0, [])
  | step {a : Nat} {s : Stg} {r : Rw} {g : Nat} {t : Stg} : Reach rows a s → rows[a]? = some r → ((g : Int), t) ∈ leads r a s → Reach rows g t
/-- a labelling that shows a part sound -/
structure SoundBy (rows : List Rw) (S : Nat → Option Stg) : Prop where
  zero : S 0 = some (0, [])
  flat : ∀ a s, S a = some s → s.2.length ≤ 100
  calm : ∀ a s r, S a = some s → rows[a]? = some r → lacking r s = false
  go : ∀ a s r, S a = some s → rows[a]? = some r → ∀ p ∈ leads r a s, ∃ g : Nat, p.1 = (g : Int) ∧ g < rows.length ∧ S g = some p.2
def Sound (rows : List Rw) : Prop := ∃ S, SoundBy rows S
/-- the standing to which a walk leads from a row with a standing -/
def stepTo (rows : List Rw) (a : Int) (s : Stg) (g : Int) : Option Stg := match rows[a.toNat]? with
  | none => none
  | some r => (((leads r a s).filter fun p => decide (p.1 = g)).map (·.2)).head?
def walkFrom (rows : List Rw) : Int → Stg → List Int → Option Stg
  | _, s, [] => some s
  | a, s, g :: gs => match stepTo rows a s g with
    | none => none
    | some t => walkFrom rows g t gs
def inRows (rows : List Rw) (g : Int) : Bool := decide (0 ≤ g ∧ g < rows.length)
def walkedTo (rows : List Rw) (w : List Int) : Option Stg := match w with
  | [] => none
  | a :: gs => if a = 0 ∧ (gs.all (inRows rows)) = true then walkFrom rows 0 (0, []) gs else none
/-- what the search finds -/
structure FoundOk (rows : List Rw) (stands : List (Option Stg)) (walks : List (Option (List Int))) : Prop where
  ls : stands.length = rows.length
  lw : walks.length = rows.length
  met : ∀ (a : Nat) (s : Stg), stands[a]? = some (some s) ↔ Reach rows a s
  walk : ∀ (a : Nat) (s : Stg), stands[a]? = some (some s) → ∃ w, walks[a]? = some (some w) ∧ w.getLast? = some (a : Int) ∧ walkedTo rows w = some s ∧ w.length ≤ 100
def isR (rows : List Rw) (a : Nat) : Prop := ∃ s, Reach rows a s
/-- the goals of a row, its standing told anyhow -/
def goalsOf (rows : List Rw) (r : Rw) (a : Int) : List Int := ((leads r a (0, [(0, 0)])).filter fun p => decide (p.1 < (rows.length : Int))).map (·.1)
/-- a set of rows that begins with 0 and rises, to which its words lead: the paper of a row that is not met -/
def closedIn (rows : List Rw) (met : List Int) : Bool := met.all fun a => match rows[a.toNat]? with
  | none => true
  | some r => (goalsOf rows r a).all fun g => decide (g ∈ met)
def risesL : List Int → Bool
  | a :: b :: cs => decide (a < b) && risesL (b :: cs)
  | _ => true
def unmetOk (rows : List Rw) (row : PyData) (met : List Int) : Bool := match row with
  | .int i => inRows rows i && (!met.isEmpty && met.all (inRows rows)) && decide (met.head? = some 0) && !decide (i ∈ met) && risesL met && closedIn rows met
  | _ => false
/-! ### promises -/
def isInt : PyData → Bool
  | .int _ => true
  | _ => false
def aIsWhole : ASp := fun rs M P => ∃ d, rs = [.dat d] ∧ P (.dat (.bool (match d with
  | .int _ => true
  | _ => false))) M
def aIsWorth : ASp := fun rs M P => ∃ i : Int, rs = [.dat (.int i)] ∧ -(10 ^ 12) ≤ i ∧ i ≤ 10 ^ 12 ∧ P (.dat (.bool true)) M
def aIsName : ASp := fun rs M P => ∃ z : Str, rs = [.dat (.str z)] ∧ NameOk z ∧ P (.dat (.bool true)) M
def aUnl : ASp := fun rs M P => ∃ (zs : List Str) (most least : Int), rs = [.dat (.tuple (zs.map .str)), .dat (.int most), .dat (.int least)] ∧ (∀ z ∈ zs, NameOk z) ∧ zs.Nodup ∧ least ≤ zs.length ∧ zs.length ≤ most ∧ zs.length ≤ 60 ∧ P (.dat (.bool true)) M
def aIsLed : ASp := fun rs M P => ∃ (z : Str) (g a : Int) (rows : List Rw), rs = [.dat (.tuple [.str z, .int g]), .dat (.int a), .dat (.tuple (rows.map Rw.d))] ∧ 0 ≤ g ∧ g < rows.length ∧ (z = "try" → g ≠ a + 1) ∧ P (.dat (.bool true)) M
def aIsRow : ASp := fun rs M P => ∃ (r : Rw) (a : Nat) (rows : List Rw) (called : List Str), rs = [.dat r.d, .dat (.int a), .dat (.tuple (rows.map Rw.d)), .dat (.tuple (called.map .str))] ∧ RwOk rows.length a r ∧ P (.dat (.bool true)) M
def aIsHeaded : ASp := fun rs M P => ∃ p : Pt, rs = [.dat p.d] ∧ PtOk p ∧ P (.dat (.bool true)) M
def aIsProg : ASp := fun rs M P => ∃ ps, rs = [.dat (pgD ps)] ∧ PgOk ps ∧ P (.dat (.bool true)) M
def aLookProg : ASp := fun rs M P => ∃ ps, rs = [.dat (pgD ps)] ∧ PgOk ps ∧ P (.dat .none) M
def aNumber : ASp := fun rs M P => ∃ (ps : List Pt) (p : Pt), ∃ k : Nat, rs = [.dat (pgD ps), .dat (.str p.name)] ∧ PgOk ps ∧ ps[k]? = some p ∧ P (.dat (.int k)) M
def aLookRow : ASp := fun rs M P => ∃ (ps : List Pt) (p : Pt), ∃ k a : Nat, rs = [.dat (pgD ps), .dat (.int k), .dat (.int a)] ∧ ps[k]? = some p ∧ a < p.rows.length ∧ P (.dat .none) M
def aCounts : ASp := fun rs M P => ∃ d r, rs = [.dat d, .dat (Rw.d r)] ∧ r.word ∈ hCounts.map (·.1) ∧ P (.dat (.tuple [.int (cnt r.word).1, .int (cnt r.word).2])) M
def aFloor : ASp := fun rs M P => ∃ gs : List (Int × Int), rs = [.dat (.tuple (gs.map gD))] ∧ P (.dat (.int (floorOf gs))) M
def aLack : ASp := fun rs M P => ∃ d r s, rs = [.dat d, .dat (Rw.d r), .dat (stD s)] ∧ r.word ∈ hCounts.map (·.1) ∧ P (.dat (.bool (lacking r s))) M
def aLeads : ASp := fun rs M P => ∃ d, ∃ (rows : List Rw) (r : Rw) (s : Stg), ∃ n a : Nat, rs = [.dat d, .dat (.tuple (rows.map Rw.d)), .dat (.int a), .dat (stD s)] ∧ rows[a]? = some r ∧ RwOk n a r ∧ s.2.length ≤ 1000 ∧ P (.dat (.list ((leads r a s).map leadD))) M
def wD : Option (List Int) → PyData
  | none => .none
  | some w => .list (w.map .int)
/-- .. the class's instances, when all is found -/
def foundFs (d : PyData) (p : Pt) (stands : List (Option Stg)) (walks : List (Option (List Int))) : List (Str × S0) :=
  [("program", .dat d), ("called", .dat (.str p.name)), ("listing", .dat (.tuple (p.rows.map Rw.d))), ("stands", .dat (.list (stands.map osD))), ("walks", .dat (.list (walks.map wD))), ("flaw", .dat .none), ("waits", .dat (.list []))]
structure IsC (K : PySem.W.Frag) (mg : Str → Option Value) (C : Addr) : Prop where
  nm : mg "Found" = some (.ref C)
  c : Cls K C
  n1 : NoAttr K C "program"
  n2 : NoAttr K C "called"
  n3 : NoAttr K C "listing"
  n4 : NoAttr K C "stands"
  n5 : NoAttr K C "walks"
  n6 : NoAttr K C "flaw"
  n7 : NoAttr K C "waits"
def aLookSound (K : PySem.W.Frag) (mg : Str → Option Value) : ASp := fun rs M P => ∃ (ps : List Pt) (p : Pt), ∃ k : Nat, rs = [.dat (pgD ps), .dat (.int k)] ∧ PgOk ps ∧ ps[k]? = some p ∧ Sound p.rows ∧ ∀ C stands walks, IsC K mg C → FoundOk p.rows stands walks → P (.obj C (foundFs (pgD ps) p stands walks)) M
/-- two rows of a part have one standing -/
def sameSt (rows : List Rw) (a b : Nat) : Prop := ∃ s, Reach rows a s ∧ Reach rows b s
def aAgrees : ASp := fun rs M P => ∃ (ps : List Pt) (p : Pt), ∃ k a b : Nat, rs = [.dat (pgD ps), .dat (.int k), .dat (.int a), .dat (.int b)] ∧ PgOk ps ∧ ps[k]? = some p ∧ Sound p.rows ∧ a < p.rows.length ∧ b < p.rows.length ∧ ∀ q : Bool, (q = true ↔ sameSt p.rows a b) → P (.dat (.bool q)) M
def aAgree : ASp := fun rs M P => ∃ (ps : List Pt) (p : Pt), ∃ a b : Nat, rs = [.dat (pgD ps), .dat (.str p.name), .dat (.int a), .dat (.int b)] ∧ PgOk ps ∧ p ∈ ps ∧ Sound p.rows ∧ a < p.rows.length ∧ b < p.rows.length ∧ ∀ q : Bool, (q = true ↔ sameSt p.rows a b) → P (.dat (.bool q)) M
/-- the rows that are met, rising -/
def MetL (rows : List Rw) (ns : List Int) : Prop := ns.Pairwise (· < ·) ∧ ∀ i, i ∈ ns ↔ ∃ a : Nat, i = (a : Int) ∧ isR rows a
def aPaper : ASp := fun rs M P => ∃ (ps : List Pt) (p : Pt), ∃ a b : Nat, rs = [.dat (pgD ps), .dat (.str p.name), .dat (.int a), .dat (.int b)] ∧ PgOk ps ∧ p ∈ ps ∧ Sound p.rows ∧ a < p.rows.length ∧ b < p.rows.length ∧
  (∀ ns : List Int, MetL p.rows ns → ns.length ≤ 60 → (¬ isR p.rows a → P (.dat (.tuple [.str "unmet", .str p.name, .int a, .list (ns.map .int)])) M) ∧ (isR p.rows a → ¬ isR p.rows b → P (.dat (.tuple [.str "unmet", .str p.name, .int b, .list (ns.map .int)])) M)) ∧
  (∀ (s t : Stg) (w v : List Int), Reach p.rows a s → Reach p.rows b t → walkedTo p.rows w = some s → walkedTo p.rows v = some t → w.getLast? = some (a : Int) → v.getLast? = some (b : Int) → w.length ≤ 100 → v.length ≤ 100 →
    ∀ q, M q = none → P (.tup [.dat (.str (if s = t then "agree" else "apart")), .dat (.str p.name), .raw (.ref q), .dat (.list (v.map .int))]) (setM M q (.lst (w.map fun i => .dat (.int i)))))
def aPartAt : ASp := fun rs M P => ∃ (ps : List Pt) (p : Pt), ∃ k : Nat, rs = [.dat (pgD ps), .dat (.str p.name)] ∧ PgOk ps ∧ ps[k]? = some p ∧ P (.dat (.int k)) M
def aAreRows : ASp := fun rs M P => ∃ (rows : List Rw) (w : List Int), rs = [.dat (.tuple (rows.map Rw.d)), .dat (.list (w.map .int))] ∧ w.length ≤ 1000 ∧ P (.dat (.bool (!w.isEmpty && w.all (inRows rows)))) M
def aWalkedTo : ASp := fun rs M P => ∃ (ps : List Pt) (p : Pt) (w : List Int), ∃ k : Nat, rs = [.dat (pgD ps), .dat (.int k), .dat (.list (w.map .int))] ∧ PgOk ps ∧ ps[k]? = some p ∧ Sound p.rows ∧ w.length ≤ 1000 ∧ P (.dat (osD (walkedTo p.rows w))) M
def aGoalsOf : ASp := fun rs M P => ∃ d, ∃ (rows : List Rw) (r : Rw), ∃ n a : Nat, rs = [.dat d, .dat (.tuple (rows.map Rw.d)), .dat (.int a)] ∧ rows[a]? = some r ∧ RwOk n a r ∧ P (.dat (.list ((goalsOf rows r a).map .int))) M
/-- a part that lacks at its first row -/
def Lack0 (rows : List Rw) : Prop := ∃ r, rows[0]? = some r ∧ lacking r (0, []) = true
def aIsSound : ASp := fun rs M P => ∃ (ps : List Pt) (p : Pt), ∃ k : Nat, rs = [.dat (pgD ps), .dat (.int k)] ∧ PgOk ps ∧ ps[k]? = some p ∧ ((Sound p.rows ∧ P (.dat (.bool true)) M) ∨ (Lack0 p.rows ∧ P (.dat (.bool false)) M))
/-- what two walks tell -/
def bothOf (rows : List Rw) (w v : List Int) : Option (Stg × Stg) := match walkedTo rows w, walkedTo rows v with
  | some s, some t => some (s, t)
  | _, _ => none
def aBoth : ASp := fun rs M P => ∃ (ps : List Pt) (p : Pt) (w v : List Int), ∃ k : Nat, rs = [.dat (pgD ps), .dat (.int k), .dat (.tuple [.list (w.map .int), .list (v.map .int)])] ∧ PgOk ps ∧ ps[k]? = some p ∧ Sound p.rows ∧ w.length ≤ 1000 ∧ v.length ≤ 1000 ∧ P (.dat (match bothOf p.rows w v with
  | none => .none
  | some (s, t) => .list [stD s, stD t])) M
def agreeB (rows : List Rw) (w v : List Int) : Bool := match bothOf rows w v with
  | none => false
  | some (s, t) => decide (s = t)
def apartB (rows : List Rw) (w v : List Int) : Bool := match bothOf rows w v with
  | none => false
  | some (s, t) => !decide (s = t)
def aAgreeHolds : ASp := fun rs M P => ∃ (ps : List Pt) (p : Pt) (w v : List Int), ∃ k : Nat, rs = [.dat (pgD ps), .dat (.int k), .dat (.tuple [.list (w.map .int), .list (v.map .int)])] ∧ PgOk ps ∧ ps[k]? = some p ∧ Sound p.rows ∧ w.length ≤ 1000 ∧ v.length ≤ 1000 ∧ P (.dat (.bool (agreeB p.rows w v))) M
def aApartHolds : ASp := fun rs M P => ∃ (ps : List Pt) (p : Pt) (w v : List Int), ∃ k : Nat, rs = [.dat (pgD ps), .dat (.int k), .dat (.tuple [.list (w.map .int), .list (v.map .int)])] ∧ PgOk ps ∧ ps[k]? = some p ∧ Sound p.rows ∧ w.length ≤ 1000 ∧ v.length ≤ 1000 ∧ P (.dat (.bool (apartB p.rows w v))) M
def aUnmetHolds : ASp := fun rs M P => ∃ (ps : List Pt) (p : Pt) (d : PyData) (w : List Int), ∃ k : Nat, rs = [.dat (pgD ps), .dat (.int k), .dat (.tuple [d, .list (w.map .int)])] ∧ PgOk ps ∧ ps[k]? = some p ∧ w.length ≤ 1000 ∧ ((Sound p.rows ∧ P (.dat (.bool (unmetOk p.rows d w))) M) ∨ (Lack0 p.rows ∧ P (.dat (.bool false)) M))
/-- a paper's data and what the looker says of it -/
inductive Says (ps : List Pt) : PyData → Bool → Prop
  | agree {p : Pt} {w v : List Int} : p ∈ ps → Sound p.rows → w.length ≤ 1000 → v.length ≤ 1000 → Says ps (.tuple [.str "agree", .str p.name, .list (w.map .int), .list (v.map .int)]) (agreeB p.rows w v)
  | apart {p : Pt} {w v : List Int} : p ∈ ps → Sound p.rows → w.length ≤ 1000 → v.length ≤ 1000 → Says ps (.tuple [.str "apart", .str p.name, .list (w.map .int), .list (v.map .int)]) (apartB p.rows w v)
  | unmet {p : Pt} {d : PyData} {w : List Int} : p ∈ ps → Sound p.rows → w.length ≤ 1000 → Says ps (.tuple [.str "unmet", .str p.name, d, .list (w.map .int)]) (unmetOk p.rows d w)
  | lack {p : Pt} {d : PyData} {w : List Int} : p ∈ ps → Lack0 p.rows → w.length ≤ 1000 → Says ps (.tuple [.str "unmet", .str p.name, d, .list (w.map .int)]) false
def aHolds : ASp := fun rs M P => ∃ ps d q, rs = [.dat (pgD ps), .dat d] ∧ PgOk ps ∧ Says ps d q ∧ P (.dat (.bool q)) M
/-! ### the law's -/
/-- a bag: what is left of the digits, the seed, the takes so far -/
structure BagOk (n : Int) (b : Int × Int × Int) : Prop where
  far : 0 ≤ b.1
  lo : 0 ≤ b.2.1
  hi : b.2.1 ≤ 2 ^ 32
  n0 : 0 ≤ b.2.2
  n1 : b.2.2 ≤ n
abbrev bagL (b : Int × Int × Int) : MO := .lst [.dat (.int b.1), .dat (.int b.2.1), .dat (.int b.2.2)]
def Bag (n : Int) (q : Addr) (M : AM) : Prop := ∃ b, M q = some (bagL b) ∧ BagOk n b
def aBag : ASp := fun rs M P => ∃ (ns : List Int) (at_ : Nat), rs = [.seq ns, .dat (.int at_)] ∧ ns.length ≤ 63 ∧ at_ ≤ 2 ∧ ∀ q b, M q = none → BagOk 0 b → P (.raw (.ref q)) (setM M q (bagL b))
/-- a number below the many; the bag has been taken from once more -/
def aTake : ASp := fun rs M P => ∃ (q : Addr) (many n : Int) (b : Int × Int × Int), rs = [.raw (.ref q), .dat (.int many)] ∧ 0 < many ∧ many < 1000000 ∧ n ≤ 100000 ∧ M q = some (bagL b) ∧ BagOk n b ∧ ∀ (t : Int) b', 0 ≤ t → t < many → BagOk (n + 1) b' → P (.dat (.int t)) (setM M q (bagL b'))
/-! ### blocks -/
def lawWords : List Str := ["try", "done", "go", "set", "look", "if", "put", "change", "get", "throw", "twin", "below", "turn", "back", "swap", "less", "lead"]
/-- rows at a place, that lead at most to the row behind the n-th -/
def RwL (n a : Nat) (r : Rw) : Prop := RwOk n a r ∧ r.word ∈ lawWords
def RwsL (n at_ : Nat) (rs : List Rw) : Prop := ∀ i r, rs[i]? = some r → RwL n (at_ + i) r
/-- rows that are entered with a standing at their first and left with it behind their last -/
def BlkS (at_ d : Nat) (rs : List Rw) : Prop := ∀ (h : Int) (gs : List (Int × Int)), floorOf gs ≤ h → ∃ S : Nat → Option Stg, S at_ = some (h, gs) ∧ S (at_ + rs.length) = some (h, gs) ∧
  (∀ a s, S a = some s → at_ ≤ a ∧ a ≤ at_ + rs.length ∧ s.2.length ≤ gs.length + d) ∧
  ∀ i r s, rs[i]? = some r → S (at_ + i) = some s → lacking r s = false ∧ ∀ p ∈ leads r ((at_ + i : Nat) : Int) s, ∃ g : Nat, p.1 = (g : Int) ∧ S g = some p.2
structure BlockOk (at_ d : Nat) (rs : List Rw) : Prop where
  len : rs.length ≤ 5 + 4 * d
  law : RwsL (at_ + rs.length + 1) at_ rs
  std : BlkS at_ d rs
def aBlockD (d : Nat) : ASp := fun rs M P => ∃ (q : Addr) (at_ : Nat) (n : Int) (b : Int × Int × Int), rs = [.raw (.ref q), .dat (.int at_), .dat (.int d)] ∧ at_ + 2 * d ≤ 100 ∧ n + d ≤ 90000 ∧ d ≤ 10 ∧ M q = some (bagL b) ∧ BagOk n b ∧
  ∀ bl b', BlockOk at_ d bl → BagOk (n + d + 2) b' → P (.dat (.list (bl.map Rw.d))) (setM M q (bagL b'))
structure PartOk (p : Pt) : Prop where
  ok : PtOk p
  sound : Sound p.rows
  law : RwsL p.rows.length 0 p.rows
def aPart : ASp := fun rs M P => ∃ (q : Addr) (z : Str) (n : Int) (b : Int × Int × Int), rs = [.raw (.ref q), .dat (.str z)] ∧ NameOk z ∧ n ≤ 80000 ∧ M q = some (bagL b) ∧ BagOk n b ∧
  ∀ p b', PartOk p → p.name = z → BagOk (n + 70) b' → P (.dat p.d) (setM M q (bagL b'))
def aLawGoals : ASp := fun rs M P => ∃ (rows : List Rw) (r : Rw) (s : Stg), ∃ n a : Nat, rs = [.dat (.tuple (rows.map Rw.d)), .dat (.int a), .dat (stD s)] ∧ rows[a]? = some r ∧ RwL n a r ∧ s.2.length ≤ 1000 ∧ P (.dat (.list ((leads r a s).map leadD))) M
/-- the standings, by row, as they were found -/
def FoundD (rows : List Rw) (ks : List (Nat × Stg)) : Prop := (ks.map (·.1)).Nodup ∧ ∀ a s, (a, s) ∈ ks ↔ Reach rows a s
abbrev dictL (ks : List (Nat × Stg)) : MO := .dK (ks.map fun p => (.inl (p.1 : Int), .dat (stD p.2)))
def aLawStandings : ASp := fun rs M P => ∃ rows : List Rw, rs = [.dat (.tuple (rows.map Rw.d))] ∧ 1 ≤ rows.length ∧ rows.length ≤ 60 ∧ RwsL rows.length 0 rows ∧ Sound rows ∧ ∀ q ks, M q = none → FoundD rows ks → P (.raw (.ref q)) (setM M q (dictL ks))
def aLawWalked : ASp := fun rs M P => ∃ (rows : List Rw) (w : List Int), rs = [.dat (.tuple (rows.map Rw.d)), .dat (.list (w.map .int))] ∧ RwsL rows.length 0 rows ∧ Sound rows ∧ rows.length ≤ 60 ∧ w.all (inRows rows) = true ∧ w.length ≤ 1000 ∧ P (.dat (osD (walkedTo rows w))) M
def aLawHolds : ASp := fun rs M P => ∃ ps d q, rs = [.dat (pgD ps), .dat d] ∧ PgOk ps ∧ Says ps d q ∧ P (.dat (.bool q)) M
def aToldRight : ASp := fun rs M P => ∃ (ps : List Pt) (p : Pt) (fq : Addr) (ks : List (Nat × Stg)) (a b : Nat), rs = [.dat (pgD ps), .dat p.d, .raw (.ref fq), .dat (.tuple [.int a, .int b])] ∧ PgOk ps ∧ p ∈ ps ∧ PartOk p ∧ M fq = some (dictL ks) ∧ FoundD p.rows ks ∧ a < p.rows.length ∧ b < p.rows.length ∧ P (.dat (.bool true)) M
def aLawWalk : ASp := fun rs M P => ∃ (q : Addr) (rows : List Rw) (n : Int) (b : Int × Int × Int), rs = [.raw (.ref q), .dat (.tuple (rows.map Rw.d))] ∧ RwsL rows.length 0 rows ∧ Sound rows ∧ 1 ≤ rows.length ∧ rows.length ≤ 60 ∧ n ≤ 80000 ∧ M q = some (bagL b) ∧ BagOk n b ∧
  ∀ (w : List Int) b', w ≠ [] → w.all (inRows rows) = true → w.length ≤ 30 → BagOk (n + 26) b' → P (.dat (.list (w.map .int))) (setM M q (bagL b'))
def aWalksRight : ASp := fun rs M P => ∃ (q : Addr) (ps : List Pt) (p : Pt) (n : Int) (b : Int × Int × Int), rs = [.raw (.ref q), .dat (pgD ps), .dat p.d] ∧ PgOk ps ∧ p ∈ ps ∧ PartOk p ∧ n ≤ 70000 ∧ M q = some (bagL b) ∧ BagOk n b ∧ ∀ b', BagOk (n + 80) b' → P (.dat (.bool true)) (setM M q (bagL b'))
def aOddRight : ASp := fun rs M P => ∃ (ps : List Pt) (p : Pt) (i : Int) (met : List Int), rs = [.dat (pgD ps), .dat (.str p.name), .dat (.int i), .dat (.list (met.map .int)), .dat (.int p.rows.length)] ∧ PgOk ps ∧ p ∈ ps ∧ PartOk p ∧ met.length ≤ 100 ∧ unmetOk p.rows (.int i) met = true ∧ P (.dat (.bool true)) M
def aFixedRight : ASp := fun rs M P => rs = [] ∧ P (.dat (.bool true)) M
def aUnmetRight : ASp := fun rs M P => ∃ (q fq : Addr) (ps : List Pt) (p : Pt) (ks : List (Nat × Stg)) (n : Int) (b : Int × Int × Int), rs = [.raw (.ref q), .dat (pgD ps), .dat p.d, .raw (.ref fq)] ∧ PgOk ps ∧ p ∈ ps ∧ PartOk p ∧ fq ≠ q ∧ M fq = some (dictL ks) ∧ FoundD p.rows ks ∧ n ≤ 70000 ∧ M q = some (bagL b) ∧ BagOk n b ∧ ∀ b', BagOk (n + 70) b' → P (.dat (.bool true)) (setM M q (bagL b'))
def aLaw : ASp := fun rs M P => ∃ ns : List Int, rs = [.seq ns] ∧ ns.length ≤ 63 ∧ P (.dat (.bool true)) M
/-- are_unlike_names, and its two calls by keywords -/
def UnlOk (P : Program) (w : World) (K : PySem.W.Frag) (mg : Str → Option Value) (base : Heap) : Prop := ∃ f fd, FnOk P w K mg base CX0 2 f fd ["thing", "most", "least"] (conc K aUnl) ∧ mg "are_unlike_names" = some (.ref f) ∧ PySem.W.keepIn K (.ref f) = true ∧
    (∃ mv : List Value, KBn K fd ["thing", "most", "least"] 1 ["most"] (fun us ws => us ++ ws ++ mv) (fun vs zs => vs ++ zs ++ [.int 0])) ∧ (∃ mv : List Value, KBn K fd ["thing", "most", "least"] 1 ["most", "least"] (fun us ws => us ++ ws) (fun vs zs => vs ++ zs))
theorem kn_ref {K : PySem.W.Frag} {a : Addr} : Kn K (.ref a) (.raw (.ref a)) := ⟨.ref a, rfl, fun _ => rfl⟩
end Wr
end
section
set_option maxHeartbeats 0
namespace Wr
open PySem PySem.Spec PyProof.Rows L2
/-! ### what the head's Hook tells -/
def hFn1 : List He.DefD := [
  ⟨("is_whole", none), "is_whole", "is_whole", defArgs st_is_whole, defBody st_is_whole, defScope st_is_whole, [], []⟩,
  ⟨("is_worth", none), "is_worth", "is_worth", defArgs st_is_worth, defBody st_is_worth, defScope st_is_worth, [], []⟩,
  ⟨("is_name", none), "is_name", "is_name", defArgs st_is_name, defBody st_is_name, defScope st_is_name, [], []⟩,
  ⟨("are_unlike_names", none), "are_unlike_names", "are_unlike_names", defArgs st_are_unlike_names, defBody st_are_unlike_names, defScope st_are_unlike_names, [], [("least", .int 0)]⟩,
  ⟨("is_led_to", none), "is_led_to", "is_led_to", defArgs st_is_led_to, defBody st_is_led_to, defScope st_is_led_to, [], []⟩,
  ⟨("is_row", none), "is_row", "is_row", defArgs st_is_row, defBody st_is_row, defScope st_is_row, [], []⟩,
  ⟨("is_headed", none), "is_headed", "is_headed", defArgs st_is_headed, defBody st_is_headed, defScope st_is_headed, [], []⟩,
  ⟨("is_program", none), "is_program", "is_program", defArgs st_is_program, defBody st_is_program, defScope st_is_program, [], []⟩,
  ⟨("look_program", none), "look_program", "look_program", defArgs st_look_program, defBody st_look_program, defScope st_look_program, [], []⟩,
  ⟨("number_of", none), "number_of", "number_of", defArgs st_number_of, defBody st_number_of, defScope st_number_of, [], []⟩,
  ⟨("look_row", none), "look_row", "look_row", defArgs st_look_row, defBody st_look_row, defScope st_look_row, [], []⟩,
  ⟨("counts_of", none), "counts_of", "counts_of", defArgs st_counts_of, defBody st_counts_of, defScope st_counts_of, [], []⟩,
  ⟨("floor_of", none), "floor_of", "floor_of", defArgs st_floor_of, defBody st_floor_of, defScope st_floor_of, [], []⟩,
  ⟨("is_lacking", none), "is_lacking", "is_lacking", defArgs st_is_lacking, defBody st_is_lacking, defScope st_is_lacking, [], []⟩,
  ⟨("leads_of", none), "leads_of", "leads_of", defArgs st_leads_of, defBody st_leads_of, defScope st_leads_of, [], []⟩,
  ⟨("look_part_sound", none), "look_part_sound", "look_part_sound", defArgs st_look_part_sound, defBody st_look_part_sound, defScope st_look_part_sound, [], []⟩,
  ⟨("agrees", none), "agrees", "agrees", defArgs st_agrees, defBody st_agrees, defScope st_agrees, [], []⟩,
  ⟨("agree", none), "agree", "agree", defArgs st_agree, defBody st_agree, defScope st_agree, [], []⟩,
  ⟨("rows_paper", none), "rows_paper", "rows_paper", defArgs st_rows_paper, defBody st_rows_paper, defScope st_rows_paper, [], []⟩,
  ⟨("part_at", none), "part_at", "part_at", defArgs st_part_at, defBody st_part_at, defScope st_part_at, [], []⟩,
  ⟨("are_rows", none), "are_rows", "are_rows", defArgs st_are_rows, defBody st_are_rows, defScope st_are_rows, [], []⟩,
  ⟨("walked_to", none), "walked_to", "walked_to", defArgs st_walked_to, defBody st_walked_to, defScope st_walked_to, [], []⟩,
  ⟨("goals_of", none), "goals_of", "goals_of", defArgs st_goals_of, defBody st_goals_of, defScope st_goals_of, [], []⟩,
  ⟨("is_sound_part", none), "is_sound_part", "is_sound_part", defArgs st_is_sound_part, defBody st_is_sound_part, defScope st_is_sound_part, [], []⟩]
def hFn2 : List He.DefD := [
  ⟨("both_walked", none), "both_walked", "both_walked", defArgs st_both_walked, defBody st_both_walked, defScope st_both_walked, [], []⟩,
  ⟨("agree_holds", none), "agree_holds", "agree_holds", defArgs st_agree_holds, defBody st_agree_holds, defScope st_agree_holds, [], []⟩,
  ⟨("apart_holds", none), "apart_holds", "apart_holds", defArgs st_apart_holds, defBody st_apart_holds, defScope st_apart_holds, [], []⟩,
  ⟨("unmet_holds", none), "unmet_holds", "unmet_holds", defArgs st_unmet_holds, defBody st_unmet_holds, defScope st_unmet_holds, [], []⟩,
  ⟨("holds", none), "holds", "holds", defArgs st_holds, defBody st_holds, defScope st_holds, [], []⟩,
  ⟨("_law_bag", none), "_law_bag", "_law_bag", defArgs st_law_bag, defBody st_law_bag, defScope st_law_bag, [], []⟩,
  ⟨("_law_take", none), "_law_take", "_law_take", defArgs st_law_take, defBody st_law_take, defScope st_law_take, [], []⟩,
  ⟨("_law_block", none), "_law_block", "_law_block", defArgs st_law_block, defBody st_law_block, defScope st_law_block, [], []⟩,
  ⟨("_law_part", none), "_law_part", "_law_part", defArgs st_law_part, defBody st_law_part, defScope st_law_part, [], []⟩,
  ⟨("_law_goals", none), "_law_goals", "_law_goals", defArgs st_law_goals, defBody st_law_goals, defScope st_law_goals, [], []⟩,
  ⟨("_law_standings", none), "_law_standings", "_law_standings", defArgs st_law_standings, defBody st_law_standings, defScope st_law_standings, [], []⟩,
  ⟨("_law_walked", none), "_law_walked", "_law_walked", defArgs st_law_walked, defBody st_law_walked, defScope st_law_walked, [], []⟩,
  ⟨("_law_holds", none), "_law_holds", "_law_holds", defArgs st_law_holds, defBody st_law_holds, defScope st_law_holds, [], []⟩,
  ⟨("_law_told_right", none), "_law_told_right", "_law_told_right", defArgs st_law_told_right, defBody st_law_told_right, defScope st_law_told_right, [], []⟩,
  ⟨("_law_walk", none), "_law_walk", "_law_walk", defArgs st_law_walk, defBody st_law_walk, defScope st_law_walk, [], []⟩,
  ⟨("_law_walks_right", none), "_law_walks_right", "_law_walks_right", defArgs st_law_walks_right, defBody st_law_walks_right, defScope st_law_walks_right, [], []⟩,
  ⟨("_law_odd_unmet_right", none), "_law_odd_unmet_right", "_law_odd_unmet_right", defArgs st_law_odd_unmet_right, defBody st_law_odd_unmet_right, defScope st_law_odd_unmet_right, [], []⟩,
  ⟨("_law_fixed_right", none), "_law_fixed_right", "_law_fixed_right", defArgs st_law_fixed_right, defBody st_law_fixed_right, defScope st_law_fixed_right, [], []⟩,
  ⟨("_law_unmet_right", none), "_law_unmet_right", "_law_unmet_right", defArgs st_law_unmet_right, defBody st_law_unmet_right, defScope st_law_unmet_right, [], []⟩,
  ⟨("law", none), "law", "law", defArgs st_law, defBody st_law, defScope st_law, [], []⟩,
  ⟨("Found", some "__init__"), "__init__", "Found.__init__", defArgs st_Found_init, defBody st_Found_init, defScope st_Found_init, [], []⟩,
  ⟨("Found", some "go_from"), "go_from", "Found.go_from", defArgs st_Found_go_from, defBody st_Found_go_from, defScope st_Found_go_from, [], []⟩,
  ⟨("Found", some "come_to"), "come_to", "Found.come_to", defArgs st_Found_come_to, defBody st_Found_come_to, defScope st_Found_come_to, [], []⟩]
def hFn : List He.DefD := hFn1 ++ hFn2
def hFa1 : List He.Fa := [.glo "is_whole", .glo "is_worth", .glo "is_name", .glo "are_unlike_names", .glo "is_led_to", .glo "is_row", .glo "is_headed", .glo "is_program", .glo "look_program", .glo "number_of", .glo "look_row", .glo "counts_of", .glo "floor_of", .glo "is_lacking", .glo "leads_of", .glo "look_part_sound", .glo "agrees", .glo "agree", .glo "rows_paper", .glo "part_at", .glo "are_rows", .glo "walked_to", .glo "goals_of", .glo "is_sound_part", .glo "both_walked", .glo "agree_holds", .glo "apart_holds", .glo "unmet_holds", .glo "holds", .glo "_law_bag", .glo "_law_take", .glo "_law_block", .glo "_law_part", .glo "_law_goals", .glo "_law_standings", .glo "_law_walked"]
def hFa2 : List He.Fa := [.glo "_law_holds", .glo "_law_told_right", .glo "_law_walk", .glo "_law_walks_right", .glo "_law_odd_unmet_right", .glo "_law_fixed_right", .glo "_law_unmet_right", .glo "law", .free "len", .free "isinstance", .free "int", .free "str", .free "bool", .free "tuple", .free "list", .free "abs", .free "all", .free "set", .free "enumerate", .free "sorted", .free "min", .free "max", .free "zip", .free "range", .free "KeyError", .glo "Found", .cls "Found", .mkr "Found", .meth "Found" "go_from", .meth "Found" "come_to", .noat "Found" "program", .noat "Found" "called", .noat "Found" "listing", .noat "Found" "stands", .noat "Found" "walks", .noat "Found" "flaw", .noat "Found" "waits", .glo "COUNTS", .glo "LOOKS", .keep "Found", .meth "Found" "__init__"]
def hFa : List He.Fa := hFa1 ++ hFa2
def hNames : List Str := ([("is_whole" : Str), ("is_worth" : Str), ("is_name" : Str), ("are_unlike_names" : Str), ("is_led_to" : Str), ("is_row" : Str), ("is_headed" : Str), ("is_program" : Str), ("look_program" : Str), ("number_of" : Str), ("look_row" : Str), ("counts_of" : Str)] : List Str) ++ ([("floor_of" : Str), ("is_lacking" : Str), ("leads_of" : Str), ("look_part_sound" : Str), ("agrees" : Str), ("agree" : Str), ("rows_paper" : Str), ("part_at" : Str), ("are_rows" : Str), ("walked_to" : Str), ("goals_of" : Str), ("is_sound_part" : Str)] : List Str) ++ ([("both_walked" : Str), ("agree_holds" : Str), ("apart_holds" : Str), ("unmet_holds" : Str), ("holds" : Str), ("_law_bag" : Str), ("_law_take" : Str), ("_law_block" : Str), ("_law_part" : Str), ("_law_goals" : Str), ("_law_standings" : Str), ("_law_walked" : Str)] : List Str) ++ ([("_law_holds" : Str), ("_law_told_right" : Str), ("_law_walk" : Str), ("_law_walks_right" : Str), ("_law_odd_unmet_right" : Str), ("_law_fixed_right" : Str), ("_law_unmet_right" : Str), ("law" : Str), ("Found" : Str), ("COUNTS" : Str), ("LOOKS" : Str), ("NAMED" : Str)] : List Str) ++ ([("LEADING" : Str), ("ALONE" : Str), ("BEGIN" : Str), ("ANY_STANDING" : Str)] : List Str)
def hTs : List He.Tab := [((fun K => He.ga K "COUNTS"), ["put", "get", "look", "set", "change", "if", "away", "say", "back", "throw", "lead", "turn", "add", "less", "times", "over", "same", "below", "twin", "swap", "go", "try", "done"]), ((fun K => He.ga K "LOOKS"), ["lacks", "falls", "two", "sound", "agree", "apart", "unmet", "run"])]
/-! the data d at a value of the written part -/
mutual
def dqB (K : PySem.W.Frag) : PyData → Value → Bool
  | .none, .none => true
  | .bool b, .bool c => b == c
  | .int i, .int j _ => decide (i = j)
  | .str x, .str y _ => decide (x = y)
  | .tuple ds, .ref a => (match K.lookup a with
    | some ⟨.type c, _, .seq its _, _⟩ => decide (c = "tuple") && (decide (its.size ≤ sizeLine) && dqBs K ds its.toList)
    | _ => false)
  | _, _ => false
def dqBs (K : PySem.W.Frag) : List PyData → List Value → Bool
  | [], [] => true
  | d :: ds, u :: us => dqB K d u && dqBs K ds us
  | _, _ => false
end
def gloD (K : PySem.W.Frag) (x : Str) (d : PyData) : Bool := match PySem.W.nsIn K mainGlobals x with
  | some (some u) => dqB K d u
  | _ => false
def cntB (K : PySem.W.Frag) : Bool := hCounts.all fun q => match PySem.W.nsIn K (He.ga K "COUNTS") q.1 with
  | some (some u) => dqB K (.tuple [.int q.2.1, .int q.2.2]) u
  | _ => false
def lookB (K : PySem.W.Frag) : Bool := [(("agree" : Str), ("agree_holds" : Str)), ("apart", "apart_holds"), ("unmet", "unmet_holds")].all fun q => match PySem.W.nsIn K (He.ga K "LOOKS") q.1 with
  | some (some (.ref a)) => decide (a = He.ga K q.2)
  | _ => false
def hEx (K : PySem.W.Frag) : Bool := gloD K "MOST_WORTH" c_MOST_WORTH && gloD K "MOST_LETTERS" c_MOST_LETTERS && gloD K "MOST_PARTS" c_MOST_PARTS && gloD K "MOST_NAMES" c_MOST_NAMES && gloD K "MOST_LONG" c_MOST_LONG && gloD K "LETTERS" c_LETTERS && gloD K "NAMED" c_NAMED && gloD K "LEADING" c_LEADING && gloD K "ALONE" c_ALONE && gloD K "BEGIN" c_BEGIN && gloD K "ANY_STANDING" c_ANY_STANDING && cntB K && lookB K
/-! the part of the heap that is looked at: the names' objects, and what they name, four deep -/
def frK {α : Type} (g : Addr → Option Obj) : List Addr → PySem.W.Frag → (PySem.W.Frag → α) → α
  | [], acc, k => k acc
  | a :: r, acc, k => match g a with
    | some o => frK g r ((a, o) :: acc) k
    | none => frK g r acc k
theorem frK_eq {α : Type} {g : Addr → Option Obj} {Z : α → Prop} {k : PySem.W.Frag → α} : ∀ {as : List Addr} {acc : PySem.W.Frag}, (∀ q ∈ acc, g q.1 = some q.2) → (∀ K : PySem.W.Frag, (∀ q ∈ K, g q.1 = some q.2) → Z (k K)) → Z (frK g as acc k)
  | [], acc, h, hk => hk acc h
  | a :: r, acc, h, hk => by
    unfold frK
    split
    · rename_i o e
      exact frK_eq (fun q hq => by
        rcases List.mem_cons.mp hq with z | z
        · rw [z]
          exact e
        · exact h q z) hk
    · exact frK_eq h hk
def refsAll (g : Addr → Option Obj) (as : List Addr) : List Addr := as.flatMap fun a => match g a with
  | some o => He.refsD o
  | none => []
def frL {α : Type} : List Addr → List Addr → (List Addr → α) → α
  | [], acc, k => k acc
  | a :: r, acc, k => frL r (a :: acc) k
theorem frL_eq {α : Type} {k : List Addr → α} : ∀ {as acc : List Addr}, frL as acc k = k (as.reverse ++ acc)
  | [], acc => rfl
  | a :: r, acc => by
    unfold frL
    rw [frL_eq, List.reverse_cons, List.append_assoc]
    rfl
def namesAt (g : Addr → Option Obj) : List Addr := match g mainGlobals with
  | some o => hNames.map fun x => He.ga [(mainGlobals, o)] x
  | none => []
abbrev AlW : Type := He.AlT × Bool
def obsK (K : PySem.W.Frag) : AlW := (He.obsT hFa hFn hTs K, hEx K)
def obsW (g : Addr → Option Obj) : AlW := frL (namesAt g) [] fun l1 => frL (refsAll g l1) [] fun l2 => frL (refsAll g l2) [] fun l3 => frL (refsAll g l3) [] fun l4 => frK g (mainGlobals :: (l1 ++ (l2 ++ (l3 ++ l4)))) [] obsK
def valW (w : World) : AlW := (He.valT hFn hTs w, true)
theorem obsW_ok {g : Addr → Option Obj} {v : AlW} (e : obsW g = v) : ∃ K : PySem.W.Frag, (∀ q ∈ K, g q.1 = some q.2) ∧ obsK K = v := by
  unfold obsW at e
  rw [frL_eq, frL_eq, frL_eq, frL_eq] at e
  revert e
  exact frK_eq (Z := fun z => z = v → ∃ K : PySem.W.Frag, (∀ q ∈ K, g q.1 = some q.2) ∧ obsK K = v) (fun q hq => by cases hq) fun K hK e => ⟨K, hK, e⟩
def SaysW (w : World) (K : PySem.W.Frag) : Prop := He.SaysT hFa hFn hTs w K ∧ hEx K = true
def hHook : PySem.W.Hook where
  α := AlW
  obs := fun s => obsW s.heap.get?
  val := valW
  says := fun w h => ∃ K : PySem.W.Frag, K.In h ∧ SaysW w K
  of := fun s w e => by
    obtain ⟨K, h1, h2⟩ := obsW_ok e
    exact ⟨K, fun a o q => h1 (a, o) (He.lookup_mem q), congrArg (fun z : AlW => z.1) h2, congrArg (fun z : AlW => z.2) h2⟩
  keeps := fun _ _ _ ⟨K, hK, c⟩ k => ⟨K, PySem.W.Frag.In.keeps hK k, c⟩
def hOb (s : PySem.W.SharedT) : AlW := obsW (HandSHeadRun.getT s)
theorem hOb_eq (s : PySem.W.SharedT) : hOb s = hHook.obs s.abs := by
  have e : HandSHeadRun.getT s = s.abs.heap.get? := funext (HandSHeadRun.getT_eq s)
  show obsW (HandSHeadRun.getT s) = obsW s.abs.heap.get?
  rw [e]
def loose0 : List Str := ["KINDS", "NoProgram", "NoPart", "NoRow", "Unsound", "NoNumbers", "MOST_WORTH", "MOST_LETTERS", "MOST_PARTS", "MOST_NAMES", "MOST_LONG", "LETTERS", "NAMED", "LEADING", "ALONE"]
def loose1 : List Str := ["is_whole", "is_worth", "is_name", "are_unlike_names", "is_led_to", "is_row", "is_headed", "is_program", "look_program", "number_of", "look_row", "BEGIN", "COUNTS", "counts_of", "floor_of"]
def loose2 : List Str := ["is_lacking", "leads_of", "Found", "look_part_sound", "look_sound", "agrees", "agree", "MOST_FRAMES", "MOST_HOOKS", "MOST_ROW", "HOOK_NAMES", "NO_DIVISION", "TOO_WIDE", "UNSET", "TOO_DEEP"]
def loose3 : List Str := ["UNWATCHED", "REFUSED", "TURNED", "is_where", "are_kinds", "is_a_hook", "look_numbers", "new_frame", "begun", "base_of", "rank_of", "depth_of", "is_fit", "fit_of", "gone_on"]
def loose4 : List Str := ["at_moment", "faulted", "with_name", "reckoned", "put_done", "named_worth", "get_done", "set_done", "op_done", "pile_done", "go_done", "guard_done", "say_done", "end_done", "call_done"]
def loose5 : List Str := ["change_done", "lead_done", "turn_done", "look_done", "DONE", "SEEN", "row_over", "call_over", "back_over", "fault_over", "caught_over", "OVER", "asked_hook", "changed", "rows_paper"]
def loose6 : List Str := ["MOST_STATES", "ANY_STANDING", "is_same", "part_at", "are_rows", "walked_to", "goals_of", "is_sound_part", "lacks_holds", "falls_holds", "two_holds", "sound_holds", "stands_well", "both_walked", "agree_holds"]
def loose7 : List Str := ["apart_holds", "unmet_holds", "run_holds", "LOOKS", "holds", "_law_bag", "_law_take", "_law_block", "_law_part", "_law_goals", "_law_standings", "_law_walked", "_law_holds", "_law_told_right", "_law_walk"]
def loose8 : List Str := ["_law_walks_right", "_law_odd_unmet_right", "_law_fixed_right", "_law_unmet_right"]
def hLoose : List Str := loose0 ++ loose1 ++ loose2 ++ loose3 ++ loose4 ++ loose5 ++ loose6 ++ loose7 ++ loose8
def lawIx : Nat := 132
abbrev hRow : PySem.W.OpenRow := PySem.W.OpenLaw.row theRow
noncomputable def hEnd (w : World) (os : OsState) : Option PySem.W.SharedT := HandSHeadRun.endF (HandSHeadRun.stepQ (HandSHeadRun.denQ HandSHeadRun.tabQ) hRow.prog w) 6500 hRow.prog w os
abbrev wF (w : World) : World := w.withFollow "special-get-raises" false
abbrev wT (w : World) : World := w.withFollow "special-get-raises" true
end Wr
end
section
set_option maxHeartbeats 0
namespace Wr
open PySem PySem.Spec PyProof.Rows L2 PySem.W PySem.Calls
theorem hLS0 (w : World) : ∀ os, (hEnd (wF w) os).map (fun s => (HandSHeadRun.looksF hRow.prog (boot_heap (wF w).params) s.abs, HandSHeadRun.seenQ (PySem.W.view hRow.prog [lawIx]) hLoose (importedModules hRow.prog.main.body) (fun s => PySem.W.xlAt (PySem.W.view hRow.prog [lawIx]) [] s && PySem.W.recOk hRow.toRowW.records s) s.abs)) = some (true, PySem.W.openGood (PySem.W.view hRow.prog [lawIx]) hLoose) := by
  intro os
  kernel_rfl
end Wr
end
section
set_option maxHeartbeats 0
namespace Wr
open PySem PySem.Spec PyProof.Rows L2 PySem.W PySem.Calls
theorem hO0 (w : World) : ∀ os, (hEnd (wF w) os).map hOb = some (valW (wF w)) := by
  intro os
  kernel_rfl
end Wr
end
section
set_option maxHeartbeats 0
namespace Wr
open PySem PySem.Spec PyProof.Rows L2 PySem.W PySem.Calls
theorem hLS1 (w : World) : ∀ os, (hEnd (wT w) os).map (fun s => (HandSHeadRun.looksF hRow.prog (boot_heap (wT w).params) s.abs, HandSHeadRun.seenQ (PySem.W.view hRow.prog [lawIx]) hLoose (importedModules hRow.prog.main.body) (fun s => PySem.W.xlAt (PySem.W.view hRow.prog [lawIx]) [] s && PySem.W.recOk hRow.toRowW.records s) s.abs)) = some (true, PySem.W.openGood (PySem.W.view hRow.prog [lawIx]) hLoose) := by
  intro os
  kernel_rfl
end Wr
end
section
set_option maxHeartbeats 0
namespace Wr
open PySem PySem.Spec PyProof.Rows L2 PySem.W PySem.Calls
theorem hO1 (w : World) : ∀ os, (hEnd (wT w) os).map hOb = some (valW (wT w)) := by
  intro os
  kernel_rfl
end Wr
end
section
set_option maxHeartbeats 4000000
namespace Wr
open PySem PySem.Spec PyProof.Rows L2
theorem pair3 {α β γ : Type} {o : Option α} {f1 : α → Bool} {f2 : α → γ} {f3 : α → β} {v2 : γ} {v3 : β} (h1 : o.map (fun s => (f1 s, f2 s)) = some (true, v2)) (h3 : o.map f3 = some v3) : o.map (fun s => (f1 s, f2 s, f3 s)) = some (true, v2, v3) := by
  cases o with
  | none => cases h3
  | some s =>
    have a : (f1 s, f2 s) = (true, v2) := Option.some.inj h1
    have c : f3 s = v3 := Option.some.inj h3
    injection a with a b
    show some (f1 s, f2 s, f3 s) = _
    rw [a, b, c]
theorem hRun : ∀ w : World, HandSHeadRun.RunEq hRow (PySem.W.view hRow.prog [lawIx]) hHook hOb 6500 hLoose w :=
  PySem.W.byRow2 "special-get-raises" (fun w os => (by
    have d := pair3 (hLS0 w os) (hO0 w os)
    exact d)) (fun w os => (by
    have d := pair3 (hLS1 w os) (hO1 w os)
    exact d))
end Wr
open PySem PySem.W PySem.Calls PyProof.Rows
/-- the law holds, if the walk of its def is well -/
theorem Wr.hAlmost (HF : ∀ (P : Program) (w : World) (K : PySem.W.Frag) (h : Heap) (mg : PySem.Str → Option Value) (f : Addr), K.In h → h.Ns mainGlobals mg → mg ("law" : PySem.Str) = some (.ref f) → Wr.SaysW w K →
    ∃ fd : FuncData, (∀ (s : Shared) (v : Value), BindsTo s fd ⟨[v], []⟩ [("_law_script", v)]) ∧ ∀ base : Heap, K.In base → base.Ns mainGlobals mg → L2.FnOk P w K mg base L2.CX0 15 f fd ["_law_script"] (Wr.conc K Wr.aLaw)) : PySem.Challenge.rw_watchedrun_k59_whole_papers_of_rows.Holds := by
  w_on; o_law
  refine HandSHeadRun.head_any (r := OpenLaw.row PySem.Challenge.rw_watchedrun_k59_whole_papers_of_rows) (q := view (OpenLaw.row PySem.Challenge.rw_watchedrun_k59_whole_papers_of_rows).prog [132]) (H := Wr.hHook) (ob := Wr.hOb) (M := 6500) (loose := Wr.hLoose) (d := HandSHeadRun.topDef (OpenLaw.row PySem.Challenge.rw_watchedrun_k59_whole_papers_of_rows).prog 132) (kwd := []) Wr.hOb_eq
    (by kernel_rfl) (fun s => by kernel_rfl) Wr.hRun (by kernel_rfl) (by kernel_rfl) (by kernel_rfl) (by rfl) (by first | assumption | decide +kernel) (by decide +kernel) ⟨rfl, rfl, rfl, rfl, rfl, by decide +kernel⟩ ?hw ?hc
  case hw => w_witness2
  case hc =>
    refine L2.walk_ofE (l := PySem.Challenge.rw_watchedrun_k59_whole_papers_of_rows) (n := 63) (k := 15) (x := "_law_script") (CX := L2.CX0) rfl (by decide) (by kernel_rfl) ⟨rfl, by decide, by decide⟩ ?F (fun _ _ _ _ z => z)
    intro w mg fa h Y G hmg0
    obtain ⟨K, KX, c⟩ := Y
    have hmg : mg ("law" : PySem.Str) = some (.ref fa) := by
      have e : (HandSHeadRun.topDef (OpenLaw.row PySem.Challenge.rw_watchedrun_k59_whole_papers_of_rows).prog 132).name = ("law" : PySem.Str) := by kernel_rfl
      rw [← e]
      exact hmg0
    obtain ⟨fd, hb, hF⟩ := HF (PySem.Challenge.rw_watchedrun_k59_whole_papers_of_rows).prog w K h mg fa KX G hmg c
    refine ⟨K, fd, Wr.conc K Wr.aLaw, KX, hb, fun H a ns hl _ hS => ?_, hF⟩
    exact ⟨[.seq ns], fun _ => none, H, fun r _ => r = .dat (.bool true), ⟨Wr.Ex.refl H, fun _ _ e => (by cases e), fun _ _ e => (by cases e)⟩, .cons ⟨a, rfl, hS⟩ .nil, ⟨ns, rfl, hl, rfl⟩, fun v r M' G' H' s f sv n => (by subst n; exact Wr.SdV.bool sv)⟩
end
section
set_option maxHeartbeats 4000000
namespace Wr
open PySem PySem.Spec PyProof.Rows L2
theorem leads_few (r : Rw) (a : Int) (s : Stg) : (leads r a s).length ≤ 2 := by
  unfold leads
  dsimp only
  repeat' split
  all_goals simp
theorem walkFrom_cons {rows : List Rw} {a : Int} {s : Stg} {g : Int} {gs : List Int} : walkFrom rows a s (g :: gs) = (match stepTo rows a s g with
    | none => none
    | some t => walkFrom rows g t gs) := rfl
theorem cut_tail (xs : List PyData) : cutD xs (some 1) none = xs.drop 1 := by
  unfold cutD
  have e1 : HT.sIx xs.length 0 (some 1) = min 1 xs.length := HT.sIx_nat xs.length 0 1
  have e2 : HT.sIx xs.length xs.length none = xs.length := rfl
  rw [e1, e2]
  cases xs with
  | nil => rfl
  | cons x xs =>
    rw [Nat.min_eq_left (by simp)]
    apply List.take_of_length_le
    simp
/-! ### what the rows' standings tell -/
section
variable {rows : List Rw}
theorem Reach.by_ {S : Nat → Option Stg} (h : SoundBy rows S) {a : Nat} {s : Stg} (r : Reach rows a s) : S a = some s := by
  induction r with
  | zero => exact h.zero
  | step _ hr hm ih =>
    obtain ⟨g, e1, _, e3⟩ := h.go _ _ _ ih hr _ hm
    have : g = _ := Int.ofNat.inj e1.symm
    subst this
    exact e3
theorem Reach.uniq (h : Sound rows) {a : Nat} {s t : Stg} (r : Reach rows a s) (r' : Reach rows a t) : s = t := by
  obtain ⟨S, h⟩ := h
  have e := (r.by_ h).symm.trans (r'.by_ h)
  exact Option.some.inj e
theorem Reach.calm (h : Sound rows) {a : Nat} {s : Stg} {r : Rw} (r0 : Reach rows a s) (hr : rows[a]? = some r) : lacking r s = false := by
  obtain ⟨S, h⟩ := h
  exact h.calm _ _ _ (r0.by_ h) hr
theorem Reach.flat (h : Sound rows) {a : Nat} {s : Stg} (r0 : Reach rows a s) : s.2.length ≤ 100 := by
  obtain ⟨S, h⟩ := h
  exact h.flat _ _ (r0.by_ h)
theorem Reach.go (h : Sound rows) {a : Nat} {s : Stg} {r : Rw} (r0 : Reach rows a s) (hr : rows[a]? = some r) {p : Int × Stg} (hp : p ∈ leads r a s) : ∃ g : Nat, p.1 = (g : Int) ∧ g < rows.length ∧ Reach rows g p.2 := by
  obtain ⟨S, h⟩ := h
  obtain ⟨g, e1, e2, _⟩ := h.go _ _ _ (r0.by_ h) hr _ hp
  refine ⟨g, e1, e2, .step r0 hr ?_⟩
  rw [← e1]
  exact hp
theorem Reach.lt (h : Sound rows) (h1 : 1 ≤ rows.length) {a : Nat} {s : Stg} (r : Reach rows a s) : a < rows.length := by
  cases r with
  | zero => omega
  | step r0 hr hm =>
    obtain ⟨g, e1, e2, _⟩ := r0.go h hr hm
    have : g = _ := Int.ofNat.inj e1.symm
    subst this
    exact e2
theorem stepTo_reach {a : Nat} {s t : Stg} {g : Int} (r0 : Reach rows a s) (h : Sound rows) (e : stepTo rows a s g = some t) : ∃ b : Nat, g = (b : Int) ∧ b < rows.length ∧ Reach rows b t := by
  unfold stepTo at e
  rw [Int.toNat_natCast] at e
  cases hr : rows[a]? with
  | none =>
    rw [hr] at e
    cases e
  | some r =>
    rw [hr] at e
    have e : (((leads r a s).filter fun p => decide (p.1 = g)).map (·.2)).head? = some t := e
    have m : t ∈ ((leads r a s).filter fun p => decide (p.1 = g)).map (·.2) := List.mem_of_mem_head? e
    obtain ⟨p, hp, rfl⟩ := List.mem_map.mp m
    obtain ⟨hp1, hp2⟩ := List.mem_filter.mp hp
    have hp2 : p.1 = g := by simpa using hp2
    obtain ⟨b, e1, e2, e3⟩ := r0.go h hr hp1
    exact ⟨b, by omega, e2, e3⟩
theorem walkFrom_reach (h : Sound rows) : ∀ {gs : List Int} {a : Nat} {s t : Stg}, Reach rows a s → walkFrom rows a s gs = some t → ∃ b : Nat, ((a : Int) :: gs).getLast? = some (b : Int) ∧ Reach rows b t
  | [], a, s, t, r0, e => ⟨a, rfl, by
    have e : some s = some t := e
    cases e
    exact r0⟩
  | g :: gs, a, s, t, r0, e => by
    unfold walkFrom at e
    cases q : stepTo rows a s g with
    | none =>
      rw [q] at e
      cases e
    | some u =>
      rw [q] at e
      obtain ⟨b, rfl, _, r1⟩ := stepTo_reach r0 h q
      obtain ⟨c, e1, e2⟩ := walkFrom_reach h r1 e
      exact ⟨c, by rw [List.getLast?_cons_cons]; exact e1, e2⟩
theorem walkedTo_reach (h : Sound rows) {w : List Int} {t : Stg} (e : walkedTo rows w = some t) : ∃ b : Nat, w.getLast? = some (b : Int) ∧ Reach rows b t := by
  cases w with
  | nil => cases e
  | cons a gs =>
    unfold walkedTo at e
    dsimp only at e
    split at e
    · rename_i z
      obtain ⟨rfl, _⟩ := z
      exact walkFrom_reach h .zero e
    · cases e
theorem stepTo_lead (h : Sound rows) {a : Nat} {s : Stg} {r : Rw} {g : Nat} {t : Stg} (r0 : Reach rows a s) (hr : rows[a]? = some r) (hm : ((g : Int), t) ∈ leads r a s) : stepTo rows a s g = some t := by
  unfold stepTo
  rw [Int.toNat_natCast, hr]
  dsimp only
  cases e : (((leads r a s).filter fun p => decide (p.1 = (g : Int))).map (·.2)).head? with
  | none =>
    rw [List.head?_eq_none_iff, List.map_eq_nil_iff] at e
    have z : ((g : Int), t) ∈ (leads r a s).filter fun p => decide (p.1 = (g : Int)) := List.mem_filter.mpr ⟨hm, by simp⟩
    rw [e] at z
    cases z
  | some u =>
    have m : u ∈ ((leads r a s).filter fun p => decide (p.1 = (g : Int))).map (·.2) := List.mem_of_mem_head? e
    obtain ⟨p, hp, rfl⟩ := List.mem_map.mp m
    obtain ⟨hp1, hp2⟩ := List.mem_filter.mp hp
    have hp2 : p.1 = (g : Int) := by simpa using hp2
    have r1 : Reach rows g p.2 := .step r0 hr (by rw [← hp2]; exact hp1)
    have r2 : Reach rows g t := .step r0 hr hm
    rw [r1.uniq h r2]
theorem walkFrom_append : ∀ (gs : List Int) (a : Int) (s : Stg) (g : Int), walkFrom rows a s (gs ++ [g]) = (match walkFrom rows a s gs with
    | none => none
    | some t => stepTo rows ((a :: gs).getLast (by simp)) t g)
  | [], a, s, g => by
    simp only [List.nil_append, walkFrom, List.getLast_singleton]
    cases stepTo rows a s g <;> rfl
  | b :: gs, a, s, g => by
    have ih := fun u => walkFrom_append gs b u g
    simp only [List.cons_append, walkFrom]
    cases q : stepTo rows a s b with
    | none => rfl
    | some u =>
      dsimp only
      rw [ih u]
      cases walkFrom rows b u gs with
      | none => rfl
      | some t => rfl
/-- one step more -/
theorem walkedTo_more (h : Sound rows) {w : List Int} {a g : Nat} {s t : Stg} {r : Rw} (hw : walkedTo rows w = some s) (hl : w.getLast? = some (a : Int)) (hr : rows[a]? = some r) (hm : ((g : Int), t) ∈ leads r a s) : walkedTo rows (w ++ [(g : Int)]) = some t := by
  obtain ⟨b, e1, e2⟩ := walkedTo_reach h hw
  have : b = a := by
    rw [hl] at e1
    exact (Int.ofNat.inj (Option.some.inj e1)).symm
  subst this
  obtain ⟨b2, e3, e4, _⟩ := e2.go h hr hm
  have : b2 = g := (Int.ofNat.inj e3).symm
  subst this
  cases w with
  | nil => cases hw
  | cons c gs =>
    unfold walkedTo at hw
    dsimp only at hw
    split at hw
    · rename_i z
      obtain ⟨rfl, z2⟩ := z
      rw [List.cons_append]
      unfold walkedTo
      dsimp only
      rw [if_pos ⟨rfl, by rw [List.all_append, z2]; simp [inRows, e4]⟩, walkFrom_append, hw]
      dsimp only
      have e5 : ((0 : Int) :: gs).getLast (by simp) = (b : Int) := by
        rw [List.getLast?_eq_some_getLast (by simp)] at hl
        exact Option.some.inj hl
      rw [e5]
      exact stepTo_lead h e2 hr hm
    · cases hw
end
section
variable {X : Cx} {M : AM} {P : XP}
theorem IOp.lstD {l : Addr} {xs : List S0} {i : Int} {d : PyData} (hl : M l = some (.lst xs)) (hd : atI xs i = some (.dat d)) (h : P (.dat d) M) : IOp X (.raw (.ref l)) (.dat (.int i)) M P := IOp.lstM hl hd h
end
theorem b01 (z : Bool) : (0 : Int) ≤ (if z = true then 1 else 0) ∧ (if z = true then 1 else 0) ≤ (1 : Int) := by cases z <;> decide
theorem BagOk.up {n m : Int} {b : Int × Int × Int} (h : BagOk n b) (l : n ≤ m) : BagOk m b := ⟨h.far, h.lo, h.hi, h.n0, Int.le_trans h.n1 l⟩
theorem swap_lst {es : List Expr} {p : Pos} {t : Option Expr} {l : Nat} {env : Env} : swapsWith (.List es p) t l env = pure false := rfl
theorem shaped_leads (xs : List (Int × Stg)) : SeqAt.shaped (.list (xs.map leadD)) = true := shaped_list (fun d hd => by
  obtain ⟨n, _, rfl⟩ := List.mem_map.mp hd
  simp [leadD, stD, PyData.canLay0, PyData.canLayAll0, lay_gs]) fun d hd => by
  obtain ⟨n, _, rfl⟩ := List.mem_map.mp hd
  have h := dep_gs n.2.2
  simp only [leadD, stD, PyData.depth, PyData.depthAll]
  omega
/-! ### blocks: what is entered is left as it was entered -/
theorem floor_app (gs : List (Int × Int)) (g : Int × Int) : floorOf (gs ++ [g]) = g.2 := by
  unfold floorOf
  rw [List.getLast?_append]
  rfl
theorem RwOk.up {n m a : Nat} {r : Rw} (h : RwOk n a r) (l : n ≤ m) : RwOk m a r := by
  cases r with
  | al z => exact h
  | put i => exact h
  | ld z g => exact ⟨h.1, Nat.lt_of_lt_of_le h.2.1 l, h.2.2⟩
  | nm z y => exact h
theorem RwL.up {n m a : Nat} {r : Rw} (h : RwL n a r) (l : n ≤ m) : RwL m a r := ⟨h.1.up l, h.2⟩
theorem RwsL.up {n m a : Nat} {rs : List Rw} (h : RwsL n a rs) (l : n ≤ m) : RwsL m a rs := fun i r e => (h i r e).up l
theorem RwsL.nil {n a : Nat} : RwsL n a [] := fun i r e => by simp at e
theorem RwsL.cons {n a : Nat} {r : Rw} {rs : List Rw} (h : RwL n a r) (t : RwsL n (a + 1) rs) : RwsL n a (r :: rs) := fun i q e => by
  cases i with
  | zero =>
    have e : r = q := by simpa using e
    subst e
    exact h
  | succ i =>
    have z := t i q (by simpa using e)
    rw [show a + 1 + i = a + (i + 1) by omega] at z
    exact z
theorem RwsL.append {n a : Nat} {rs qs : List Rw} (h : RwsL n a rs) (t : RwsL n (a + rs.length) qs) : RwsL n a (rs ++ qs) := fun i q e => by
  by_cases l : i < rs.length
  · rw [List.getElem?_append_left l] at e
    exact h i q e
  · rw [List.getElem?_append_right (by omega)] at e
    have z := t (i - rs.length) q e
    rw [show a + rs.length + (i - rs.length) = a + i by omega] at z
    exact z
/-- a labelling of some rows: each labelled row does not lack, and its words lead to labelled rows -/
structure Lab (at_ : Nat) (rs : List Rw) (S : Nat → Option Stg) : Prop where
  ok : ∀ (i : Nat) (r : Rw) (s : Stg), rs[i]? = some r → S (at_ + i) = some s → lacking r s = false ∧ ∀ p ∈ leads r ((at_ + i : Nat) : Int) s, ∃ g : Nat, p.1 = (g : Int) ∧ S g = some p.2
theorem Lab.append {at_ : Nat} {rs qs : List Rw} {S : Nat → Option Stg} (h : Lab at_ rs S) (t : Lab (at_ + rs.length) qs S) : Lab at_ (rs ++ qs) S := ⟨fun i r s e hs => by
  by_cases l : i < rs.length
  · rw [List.getElem?_append_left l] at e
    exact h.ok i r s e hs
  · rw [List.getElem?_append_right (by omega)] at e
    have z := t.ok (i - rs.length) r s e (by rw [show at_ + rs.length + (i - rs.length) = at_ + i by omega]; exact hs)
    rw [show at_ + rs.length + (i - rs.length) = at_ + i by omega] at z
    exact z⟩
theorem Lab.nil {at_ : Nat} {S : Nat → Option Stg} : Lab at_ [] S := ⟨fun i r s e => by simp at e⟩
theorem Lab.cons {at_ : Nat} {r : Rw} {rs : List Rw} {S : Nat → Option Stg} (h : ∀ s, S at_ = some s → lacking r s = false ∧ ∀ p ∈ leads r (at_ : Int) s, ∃ g : Nat, p.1 = (g : Int) ∧ S g = some p.2) (t : Lab (at_ + 1) rs S) : Lab at_ (r :: rs) S := ⟨fun i q s e hs => by
  cases i with
  | zero =>
    have e : r = q := by simpa using e
    subst e
    exact h s hs
  | succ i =>
    have z := t.ok i q s (by simpa using e) (by rw [show at_ + 1 + i = at_ + (i + 1) by omega]; exact hs)
    rw [show at_ + 1 + i = at_ + (i + 1) by omega] at z
    exact z⟩
/-- a labelling of other rows beside -/
theorem Lab.mono {at_ : Nat} {rs : List Rw} {S T : Nat → Option Stg} (h : Lab at_ rs S) (e : ∀ a s, S a = some s → T a = some s) (b : ∀ i s, i < rs.length → T (at_ + i) = some s → S (at_ + i) = some s) : Lab at_ rs T := ⟨fun i r s hi hs => by
  have l : i < rs.length := (List.getElem?_eq_some_iff.mp hi).1
  obtain ⟨h1, h2⟩ := h.ok i r s hi (b i s l hs)
  exact ⟨h1, fun p hp => by
    obtain ⟨g, g1, g2⟩ := h2 p hp
    exact ⟨g, g1, e _ _ g2⟩⟩⟩
theorem blkS_lab {at_ d : Nat} {rs : List Rw} : BlkS at_ d rs ↔ ∀ (h : Int) (gs : List (Int × Int)), floorOf gs ≤ h → ∃ S : Nat → Option Stg, S at_ = some (h, gs) ∧ S (at_ + rs.length) = some (h, gs) ∧ (∀ a s, S a = some s → at_ ≤ a ∧ a ≤ at_ + rs.length ∧ s.2.length ≤ gs.length + d) ∧ Lab at_ rs S :=
  ⟨fun z h gs hg => by
    obtain ⟨S, a, b, c, e⟩ := z h gs hg
    exact ⟨S, a, b, c, ⟨e⟩⟩, fun z h gs hg => by
    obtain ⟨S, a, b, c, e⟩ := z h gs hg
    exact ⟨S, a, b, c, e.ok⟩⟩
/-- labels put in: one row's -/
def put1 (S : Nat → Option Stg) (a : Nat) (s : Stg) : Nat → Option Stg := fun b => if b = a then some s else S b
theorem put1_same {S : Nat → Option Stg} {a : Nat} {s : Stg} : put1 S a s a = some s := if_pos rfl
theorem put1_ne {S : Nat → Option Stg} {a b : Nat} {s : Stg} (h : b ≠ a) : put1 S a s b = S b := if_neg h
/-- labels: some before, a block's, some behind -/
def lay3 (at_ L : Nat) (pre : List Stg) (S : Nat → Option Stg) (suf : List Stg) : Nat → Option Stg := fun a =>
  if a < at_ then none else if a < at_ + pre.length then pre[a - at_]? else if a ≤ at_ + pre.length + L then S a else suf[a - (at_ + pre.length + L + 1)]?
section
variable {at_ L : Nat} {pre suf : List Stg} {S : Nat → Option Stg}
theorem lay_pre (j : Nat) (hj : j < pre.length) : lay3 at_ L pre S suf (at_ + j) = pre[j]? := by
  unfold lay3
  rw [if_neg (by omega), if_pos (by omega), show at_ + j - at_ = j by omega]
theorem lay_in {a : Nat} (h1 : at_ + pre.length ≤ a) (h2 : a ≤ at_ + pre.length + L) : lay3 at_ L pre S suf a = S a := by
  unfold lay3
  rw [if_neg (by omega), if_neg (by omega), if_pos h2]
theorem lay_suf (j : Nat) : lay3 at_ L pre S suf (at_ + pre.length + L + 1 + j) = suf[j]? := by
  unfold lay3
  rw [if_neg (by omega), if_neg (by omega), if_neg (by omega), show at_ + pre.length + L + 1 + j - (at_ + pre.length + L + 1) = j by omega]
theorem lay_bnd {d : Nat} {gs : List (Int × Int)} (h1 : ∀ s ∈ pre, s.2.length ≤ gs.length + d) (h2 : ∀ s ∈ suf, s.2.length ≤ gs.length + d) (h3 : ∀ a s, S a = some s → s.2.length ≤ gs.length + d) :
    ∀ a s, lay3 at_ L pre S suf a = some s → at_ ≤ a ∧ a ≤ at_ + pre.length + L + suf.length ∧ s.2.length ≤ gs.length + d := fun a s h => by
  unfold lay3 at h
  split at h
  · cases h
  · split at h
    · exact ⟨by omega, by omega, h1 s (List.mem_of_getElem? h)⟩
    · split at h
      · exact ⟨by omega, by omega, h3 a s h⟩
      · have := (List.getElem?_eq_some_iff.mp h).1
        exact ⟨by omega, by omega, h2 s (List.mem_of_getElem? h)⟩
theorem lay_lab {rs : List Rw} (hL : rs.length = L) (hb : ∀ a s, S a = some s → at_ + pre.length ≤ a ∧ a ≤ at_ + pre.length + L) (h : Lab (at_ + pre.length) rs S) : Lab (at_ + pre.length) rs (lay3 at_ L pre S suf) :=
  h.mono (fun a s e => by
    obtain ⟨h1, h2⟩ := hb a s e
    rw [lay_in h1 h2]
    exact e) fun i s hi e => by
    rw [lay_in (by omega) (by omega)] at e
    exact e
end
/-! ### what the rows' words do -/
theorem ld_look {z : Str} {a : Int} {s : Stg} : leads (.nm "look" z) a s = [(a + 1, (s.1 + 1, s.2))] := rfl
theorem ld_get {z : Str} {a : Int} {s : Stg} : leads (.nm "get" z) a s = [(a + 1, (s.1 + 1, s.2))] := rfl
theorem ld_set {z : Str} {a : Int} {s : Stg} : leads (.nm "set" z) a s = [(a + 1, (s.1 + -1, s.2))] := rfl
theorem ld_change {z : Str} {a : Int} {s : Stg} : leads (.nm "change" z) a s = [(a + 1, (s.1 + -1, s.2))] := rfl
theorem ld_put {i a : Int} {s : Stg} : leads (.put i) a s = [(a + 1, (s.1 + 1, s.2))] := rfl
theorem ld_go {g : Nat} {a : Int} {s : Stg} : leads (.ld "go" g) a s = [((g : Int), (s.1 + 0, s.2))] := rfl
theorem ld_if {g : Nat} {a : Int} {s : Stg} : leads (.ld "if" g) a s = [(a + 1, (s.1 + -1, s.2)), ((g : Int), (s.1 + -1, s.2))] := rfl
theorem ld_try {g : Nat} {a : Int} {s : Stg} : leads (.ld "try" g) a s = [(a + 1, (s.1 + 0, s.2 ++ [((g : Int), s.1 + 0)])), ((g : Int), (s.1 + 0 + 1, s.2))] := rfl
theorem ld_done {a : Int} {s : Stg} : leads (.al "done") a s = [(a + 1, (s.1 + 0, s.2.dropLast))] := rfl
theorem ld_back {a : Int} {s : Stg} : leads (.al "back") a s = [] := rfl
theorem ld_throw {a : Int} {s : Stg} : leads (.al "throw") a s = [] := rfl
theorem ld_twin {a : Int} {s : Stg} : leads (.al "twin") a s = [(a + 1, (s.1 + 1, s.2))] := rfl
theorem ld_below {a : Int} {s : Stg} : leads (.al "below") a s = [(a + 1, (s.1 + -1, s.2))] := rfl
theorem ld_less {a : Int} {s : Stg} : leads (.al "less") a s = [(a + 1, (s.1 + -1, s.2))] := rfl
theorem ld_turn {a : Int} {s : Stg} : leads (.al "turn") a s = [(a + 1, (s.1 + -1, s.2))] := rfl
theorem ld_lead {a : Int} {s : Stg} : leads (.al "lead") a s = [(a + 1, (s.1 + -1, s.2))] := rfl
theorem ld_swap {a : Int} {s : Stg} : leads (.al "swap") a s = [(a + 1, (s.1 + 0, s.2))] := rfl
theorem lk0 {r : Rw} {s : Stg} (h : r.word ≠ "done") (hc : (cnt r.word).1 ≤ s.1 - floorOf s.2) : lacking r s = false := by
  unfold lacking
  rw [if_neg h]
  exact decide_eq_false (by omega)
theorem lk_done {s : Stg} (h : s.2 ≠ []) : lacking (.al "done") s = false := by
  have e : lacking (.al "done") s = s.2.isEmpty := rfl
  rw [e]
  cases q : s.2 with
  | nil => exact absurd q h
  | cons a b => rfl
section
variable {at_ g : Nat} {r : Rw} {rs : List Rw} {T : Nat → Option Stg} {s t u : Stg}
theorem Lab.one (hs : T at_ = some s) (hk : lacking r s = false) (hl : leads r (at_ : Int) s = [((at_ : Int) + 1, t)]) (hT : T (at_ + 1) = some t) (tl : Lab (at_ + 1) rs T) : Lab at_ (r :: rs) T := .cons (fun s' e => by
  rw [hs] at e
  cases e
  exact ⟨hk, fun p hp => by
    rw [hl] at hp
    rw [List.mem_singleton.mp hp]
    exact ⟨at_ + 1, rfl, hT⟩⟩) tl
theorem Lab.stop (hs : T at_ = some s) (hk : lacking r s = false) (hl : leads r (at_ : Int) s = []) (tl : Lab (at_ + 1) rs T) : Lab at_ (r :: rs) T := .cons (fun s' e => by
  rw [hs] at e
  cases e
  exact ⟨hk, fun p hp => by
    rw [hl] at hp
    cases hp⟩) tl
theorem Lab.jump (hs : T at_ = some s) (hk : lacking r s = false) (hl : leads r (at_ : Int) s = [((g : Int), u)]) (hT : T g = some u) (tl : Lab (at_ + 1) rs T) : Lab at_ (r :: rs) T := .cons (fun s' e => by
  rw [hs] at e
  cases e
  exact ⟨hk, fun p hp => by
    rw [hl] at hp
    rw [List.mem_singleton.mp hp]
    exact ⟨g, rfl, hT⟩⟩) tl
theorem Lab.two (hs : T at_ = some s) (hk : lacking r s = false) (hl : leads r (at_ : Int) s = [((at_ : Int) + 1, t), ((g : Int), u)]) (hT : T (at_ + 1) = some t) (hU : T g = some u) (tl : Lab (at_ + 1) rs T) : Lab at_ (r :: rs) T := .cons (fun s' e => by
  rw [hs] at e
  cases e
  exact ⟨hk, fun p hp => by
    rw [hl] at hp
    rcases List.mem_cons.mp hp with rfl | hp
    · exact ⟨at_ + 1, rfl, hT⟩
    · rw [List.mem_singleton.mp hp]
      exact ⟨g, rfl, hU⟩⟩) tl
end
theorem st_up (h : Int) (gs : List (Int × Int)) : ((h + 1 + -1 : Int), gs) = (h, gs) := by
  rw [show h + 1 + -1 = h by omega]
theorem st_z (h : Int) (gs : List (Int × Int)) : ((h + 0 : Int), gs) = (h, gs) := by
  rw [Int.add_zero]
section
variable {at_ d : Nat} {inner : List Rw} {z : Str}
theorem blk_look (I : BlkS (at_ + 2) d inner) : BlkS at_ (d + 1) (.nm "look" z :: .ld "if" (at_ + 2 + inner.length) :: inner) := blkS_lab.mpr fun h gs hg => by
  obtain ⟨S, s1, s2, s3, s4⟩ := blkS_lab.mp I h gs hg
  let T := lay3 at_ inner.length [(h, gs), (h + 1, gs)] S []
  have t0 : T at_ = some (h, gs) := lay_pre 0 (by simp)
  have t1 : T (at_ + 1) = some (h + 1, gs) := lay_pre 1 (by simp)
  have t2 : T (at_ + 1 + 1) = some (h, gs) := (lay_in (pre := [(h, gs), (h + 1, gs)]) (by simp) (by simp)).trans s1
  have t3 : T (at_ + 2 + inner.length) = some (h, gs) := (lay_in (pre := [(h, gs), (h + 1, gs)]) (by simp) (by simp)).trans s2
  refine ⟨T, t0, ?_, fun a s e => ?_, ?_⟩
  · rw [List.length_cons, List.length_cons, show at_ + (inner.length + 1 + 1) = at_ + 2 + inner.length by omega]
    exact t3
  · have := lay_bnd (d := d + 1) (gs := gs) (by simp) (by simp) (fun a s e => by have := (s3 a s e).2.2; omega) a s e
    simp at this ⊢
    omega
  · refine .one t0 (lk0 (show ("look" : Str) ≠ "done" by decide +kernel) (by show (0 : Int) ≤ h - floorOf gs; omega)) ld_look t1 (.two t1 (lk0 (show ("if" : Str) ≠ "done" by decide +kernel) (by show (1 : Int) ≤ h + 1 - floorOf gs; omega)) ld_if ?_ ?_ (lay_lab (pre := [(h, gs), (h + 1, gs)]) rfl (fun a s e => ?_) s4))
    · rw [t2, ← st_up]
    · rw [t3, ← st_up]
    · have := s3 a s e
      simp
      omega
theorem blk_put {i : Int} (I : BlkS (at_ + 1) d inner) : BlkS at_ (d + 1) (.put i :: inner ++ [.nm "change" z]) := blkS_lab.mpr fun h gs hg => by
  obtain ⟨S, s1, s2, s3, s4⟩ := blkS_lab.mp I (h + 1) gs (by omega)
  let T := lay3 at_ inner.length [(h, gs)] S [(h, gs)]
  have t0 : T at_ = some (h, gs) := lay_pre 0 (by simp)
  have t2 : T (at_ + 1) = some (h + 1, gs) := (lay_in (pre := [(h, gs)]) (by simp) (by simp)).trans s1
  have t3 : T (at_ + 1 + inner.length) = some (h + 1, gs) := (lay_in (pre := [(h, gs)]) (by simp) (by simp)).trans s2
  have t4 : T (at_ + 1 + inner.length + 1) = some (h, gs) := lay_suf (pre := [(h, gs)]) 0
  refine ⟨T, t0, ?_, fun a s e => ?_, ?_⟩
  · rw [List.length_append, List.length_cons, List.length_singleton, show at_ + (inner.length + 1 + 1) = at_ + 1 + inner.length + 1 by omega]
    exact t4
  · have := lay_bnd (d := d + 1) (gs := gs) (by simp) (by simp) (fun a s e => by have := (s3 a s e).2.2; omega) a s e
    simp at this ⊢
    omega
  · rw [List.cons_append]
    refine .one t0 (lk0 (show ("put" : Str) ≠ "done" by decide +kernel) (by show (0 : Int) ≤ h - floorOf gs; omega)) ld_put t2 (.append (lay_lab (pre := [(h, gs)]) rfl (fun a s e => ?_) s4) (.one t3 (lk0 (show ("change" : Str) ≠ "done" by decide +kernel) (by show (1 : Int) ≤ h + 1 - floorOf gs; omega)) ld_change ?_ .nil))
    · have := s3 a s e
      simp
      omega
    · rw [t4, ← st_up]
theorem blk_go : BlkS at_ (d + 1) (.ld "go" (at_ + 1 + inner.length) :: inner) := blkS_lab.mpr fun h gs hg => by
  let S : Nat → Option Stg := fun a => if a = at_ + 1 + inner.length then some (h, gs) else none
  have sS : ∀ a s, S a = some s → a = at_ + 1 + inner.length ∧ s = (h, gs) := fun a s e => by
    by_cases q : a = at_ + 1 + inner.length
    · refine ⟨q, ?_⟩
      have e2 : S a = some (h, gs) := if_pos q
      rw [e2] at e
      exact (Option.some.inj e).symm
    · have e2 : S a = none := if_neg q
      rw [e2] at e
      cases e
  let T := lay3 at_ inner.length [(h, gs)] S []
  have t0 : T at_ = some (h, gs) := lay_pre 0 (by simp)
  have t3 : T (at_ + 1 + inner.length) = some (h, gs) := (lay_in (pre := [(h, gs)]) (by simp) (by simp)).trans (if_pos rfl)
  refine ⟨T, t0, ?_, fun a s e => ?_, ?_⟩
  · rw [List.length_cons, show at_ + (inner.length + 1) = at_ + 1 + inner.length by omega]
    exact t3
  · have := lay_bnd (d := d + 1) (gs := gs) (by simp) (by simp) (fun a s e => by rw [(sS a s e).2]; simp) a s e
    simp at this ⊢
    omega
  · refine .jump t0 (lk0 (show ("go" : Str) ≠ "done" by decide +kernel) (by show (0 : Int) ≤ h - floorOf gs; omega)) ld_go ?_ (lay_lab (pre := [(h, gs)]) rfl (fun a s e => ?_) ⟨fun i r s hi e => ?_⟩)
    · rw [t3]
      simp
    · have := (sS a s e).1
      simp
      omega
    · have := (sS _ s e).1
      have := (List.getElem?_eq_some_iff.mp hi).1
      simp at *
      omega
theorem blk_get (I : BlkS at_ d inner) : BlkS at_ (d + 1) (inner ++ [.nm "get" z, .ld "if" at_]) := blkS_lab.mpr fun h gs hg => by
  obtain ⟨S, s1, s2, s3, s4⟩ := blkS_lab.mp I h gs hg
  let T := lay3 at_ inner.length [] S [(h + 1, gs), (h, gs)]
  have t0 : T at_ = some (h, gs) := (lay_in (pre := []) (by simp) (by simp)).trans s1
  have t3 : T (at_ + inner.length) = some (h, gs) := (lay_in (pre := []) (by simp) (by simp)).trans s2
  have t4 : T (at_ + inner.length + 1) = some (h + 1, gs) := lay_suf (pre := []) 0
  have t5 : T (at_ + inner.length + 1 + 1) = some (h, gs) := lay_suf (pre := []) 1
  refine ⟨T, t0, ?_, fun a s e => ?_, ?_⟩
  · rw [List.length_append, show at_ + (inner.length + [Rw.nm "get" z, Rw.ld "if" at_].length) = at_ + inner.length + 1 + 1 by simp; omega]
    exact t5
  · have := lay_bnd (d := d + 1) (gs := gs) (by simp) (by simp) (fun a s e => by have := (s3 a s e).2.2; omega) a s e
    simp at this ⊢
    omega
  · refine .append (lay_lab (pre := []) rfl (fun a s e => ?_) s4) (.one t3 (lk0 (show ("get" : Str) ≠ "done" by decide +kernel) (by show (0 : Int) ≤ h - floorOf gs; omega)) ld_get t4 (.two t4 (lk0 (show ("if" : Str) ≠ "done" by decide +kernel) (by show (1 : Int) ≤ h + 1 - floorOf gs; omega)) ld_if ?_ ?_ .nil))
    · have := s3 a s e
      simp
      omega
    · rw [t5, ← st_up]
    · rw [t0, ← st_up]
theorem blk_try (I : BlkS (at_ + 1) d inner) : BlkS at_ (d + 1) (.ld "try" (at_ + inner.length + 3) :: inner ++ [.al "done", .ld "go" (at_ + inner.length + 3 + 1), .nm "set" z]) := blkS_lab.mpr fun h gs hg => by
  obtain ⟨S, s1, s2, s3, s4⟩ := blkS_lab.mp I h (gs ++ [(((at_ + inner.length + 3 : Nat) : Int), h)]) (by rw [floor_app]; exact Int.le_refl _)
  let T := lay3 at_ inner.length [(h, gs)] S [(h, gs), (h + 1, gs), (h, gs)]
  have t0 : T at_ = some (h, gs) := lay_pre 0 (by simp)
  have t2 : T (at_ + 1) = some (h, gs ++ [(((at_ + inner.length + 3 : Nat) : Int), h)]) := (lay_in (pre := [(h, gs)]) (by simp) (by simp)).trans s1
  have t3 : T (at_ + 1 + inner.length) = some (h, gs ++ [(((at_ + inner.length + 3 : Nat) : Int), h)]) := (lay_in (pre := [(h, gs)]) (by simp) (by simp)).trans s2
  have t4 : T (at_ + 1 + inner.length + 1) = some (h, gs) := lay_suf (pre := [(h, gs)]) 0
  have t5 : T (at_ + 1 + inner.length + 1 + 1) = some (h + 1, gs) := lay_suf (pre := [(h, gs)]) 1
  have t6 : T (at_ + 1 + inner.length + 1 + 2) = some (h, gs) := lay_suf (pre := [(h, gs)]) 2
  have t7 : T (at_ + inner.length + 3) = some (h + 1, gs) := by rw [show at_ + inner.length + 3 = at_ + 1 + inner.length + 1 + 1 by omega]; exact t5
  have t8 : T (at_ + inner.length + 3 + 1) = some (h, gs) := by rw [show at_ + inner.length + 3 + 1 = at_ + 1 + inner.length + 1 + 2 by omega]; exact t6
  refine ⟨T, t0, ?_, fun a s e => ?_, ?_⟩
  · rw [List.length_append, List.length_cons, show at_ + (inner.length + 1 + [Rw.al "done", .ld "go" (at_ + inner.length + 3 + 1), .nm "set" z].length) = at_ + inner.length + 3 + 1 by simp; omega]
    exact t8
  · have := lay_bnd (d := d + 1) (gs := gs) (by simp) (by simp) (fun a s e => by have := (s3 a s e).2.2; rw [List.length_append, List.length_singleton] at this; omega) a s e
    simp at this ⊢
    omega
  · rw [List.cons_append]
    refine .two t0 (lk0 (show ("try" : Str) ≠ "done" by decide +kernel) (by show (0 : Int) ≤ h - floorOf gs; omega)) ld_try ?_ ?_ (.append (lay_lab (pre := [(h, gs)]) rfl (fun a s e => ?_) s4) (.one t3 (lk_done (by simp)) ld_done ?_ (.jump t4 (lk0 (show ("go" : Str) ≠ "done" by decide +kernel) (by show (0 : Int) ≤ h - floorOf gs; omega)) ld_go ?_ (.one t5 (lk0 (show ("set" : Str) ≠ "done" by decide +kernel) (by show (1 : Int) ≤ h + 1 - floorOf gs; omega)) ld_set ?_ .nil))))
    · rw [t2]
      simp
    · rw [t7]
      simp
    · have := s3 a s e
      simp
      omega
    · rw [t4]
      simp
    · rw [t8]
      simp
    · rw [t6, ← st_up]
theorem blk_throw : BlkS at_ d [.put 7, .al "throw"] := blkS_lab.mpr fun h gs hg => by
  let T := lay3 at_ 0 [(h, gs), (h + 1, gs)] (fun a => if a = at_ + 2 then some (h, gs) else none) []
  have t0 : T (at_) = some (h, gs) := lay_pre 0 (by simp)
  have t1 : T (at_ + 1) = some (h + 1, gs) := lay_pre 1 (by simp)
  have tx : T (at_ + 1 + 1) = some (h, gs) := (lay_in (pre := [(h, gs), (h + 1, gs)]) (by simp) (by simp)).trans (if_pos (by omega))
  refine ⟨T, t0, tx, fun a s e => ?_, ?_⟩
  · have := lay_bnd (d := d) (gs := gs) (by simp) (by simp) (fun a s e => by
      split at e
      · cases e
        simp
      · cases e) a s e
    simp at this ⊢
    omega
  · exact .one t0 (lk0 (show ("put" : Str) ≠ "done" by decide +kernel) (by show (0 : Int) ≤ h - floorOf gs; omega)) ld_put t1 (.stop t1 (lk0 (show ("throw" : Str) ≠ "done" by decide +kernel) (by show (1 : Int) ≤ h + 1 - floorOf gs; omega)) ld_throw .nil)
theorem blk_back : BlkS at_ d [.put 5, .al "back"] := blkS_lab.mpr fun h gs hg => by
  let T := lay3 at_ 0 [(h, gs), (h + 1, gs)] (fun a => if a = at_ + 2 then some (h, gs) else none) []
  have t0 : T (at_) = some (h, gs) := lay_pre 0 (by simp)
  have t1 : T (at_ + 1) = some (h + 1, gs) := lay_pre 1 (by simp)
  have tx : T (at_ + 1 + 1) = some (h, gs) := (lay_in (pre := [(h, gs), (h + 1, gs)]) (by simp) (by simp)).trans (if_pos (by omega))
  refine ⟨T, t0, tx, fun a s e => ?_, ?_⟩
  · have := lay_bnd (d := d) (gs := gs) (by simp) (by simp) (fun a s e => by
      split at e
      · cases e
        simp
      · cases e) a s e
    simp at this ⊢
    omega
  · exact .one t0 (lk0 (show ("put" : Str) ≠ "done" by decide +kernel) (by show (0 : Int) ≤ h - floorOf gs; omega)) ld_put t1 (.stop t1 (lk0 (show ("back" : Str) ≠ "done" by decide +kernel) (by show (1 : Int) ≤ h + 1 - floorOf gs; omega)) ld_back .nil)
theorem blk_turn : BlkS at_ d [.put 2, .al "twin", .al "below", .al "turn"] := blkS_lab.mpr fun h gs hg => by
  let T := lay3 at_ 0 [(h, gs), (h + 1, gs), (h + 2, gs), (h + 1, gs)] (fun a => if a = at_ + 4 then some (h, gs) else none) []
  have t0 : T (at_) = some (h, gs) := lay_pre 0 (by simp)
  have t1 : T (at_ + 1) = some (h + 1, gs) := lay_pre 1 (by simp)
  have t2 : T (at_ + 1 + 1) = some (h + 2, gs) := lay_pre 2 (by simp)
  have t3 : T (at_ + 1 + 1 + 1) = some (h + 1, gs) := lay_pre 3 (by simp)
  have tx : T (at_ + 1 + 1 + 1 + 1) = some (h, gs) := (lay_in (pre := [(h, gs), (h + 1, gs), (h + 2, gs), (h + 1, gs)]) (by simp) (by simp)).trans (if_pos (by omega))
  refine ⟨T, t0, tx, fun a s e => ?_, ?_⟩
  · have := lay_bnd (d := d) (gs := gs) (by simp) (by simp) (fun a s e => by
      split at e
      · cases e
        simp
      · cases e) a s e
    simp at this ⊢
    omega
  · refine .one t0 (lk0 (show ("put" : Str) ≠ "done" by decide +kernel) (by show (0 : Int) ≤ h - floorOf gs; omega)) ld_put t1 (.one t1 (lk0 (show ("twin" : Str) ≠ "done" by decide +kernel) (by show (1 : Int) ≤ h + 1 - floorOf gs; omega)) ld_twin ?_ (.one t2 (lk0 (show ("below" : Str) ≠ "done" by decide +kernel) (by show (2 : Int) ≤ h + 2 - floorOf gs; omega)) ld_below ?_ (.one t3 (lk0 (show ("turn" : Str) ≠ "done" by decide +kernel) (by show (1 : Int) ≤ h + 1 - floorOf gs; omega)) ld_turn ?_ .nil)))
    · rw [t2, show h + 1 + 1 = h + 2 by omega]
    · rw [t3, show h + 2 + -1 = h + 1 by omega]
    · rw [tx, ← st_up]
theorem blk_lead : BlkS at_ d [.nm "get" z, .put 3, .al "swap", .al "less", .al "lead"] := blkS_lab.mpr fun h gs hg => by
  let T := lay3 at_ 0 [(h, gs), (h + 1, gs), (h + 2, gs), (h + 2, gs), (h + 1, gs)] (fun a => if a = at_ + 5 then some (h, gs) else none) []
  have t0 : T (at_) = some (h, gs) := lay_pre 0 (by simp)
  have t1 : T (at_ + 1) = some (h + 1, gs) := lay_pre 1 (by simp)
  have t2 : T (at_ + 1 + 1) = some (h + 2, gs) := lay_pre 2 (by simp)
  have t3 : T (at_ + 1 + 1 + 1) = some (h + 2, gs) := lay_pre 3 (by simp)
  have t4 : T (at_ + 1 + 1 + 1 + 1) = some (h + 1, gs) := lay_pre 4 (by simp)
  have tx : T (at_ + 1 + 1 + 1 + 1 + 1) = some (h, gs) := (lay_in (pre := [(h, gs), (h + 1, gs), (h + 2, gs), (h + 2, gs), (h + 1, gs)]) (by simp) (by simp)).trans (if_pos (by omega))
  refine ⟨T, t0, tx, fun a s e => ?_, ?_⟩
  · have := lay_bnd (d := d) (gs := gs) (by simp) (by simp) (fun a s e => by
      split at e
      · cases e
        simp
      · cases e) a s e
    simp at this ⊢
    omega
  · refine .one t0 (lk0 (show ("get" : Str) ≠ "done" by decide +kernel) (by show (0 : Int) ≤ h - floorOf gs; omega)) ld_get t1 (.one t1 (lk0 (show ("put" : Str) ≠ "done" by decide +kernel) (by show (0 : Int) ≤ h + 1 - floorOf gs; omega)) ld_put ?_ (.one t2 (lk0 (show ("swap" : Str) ≠ "done" by decide +kernel) (by show (2 : Int) ≤ h + 2 - floorOf gs; omega)) ld_swap ?_ (.one t3 (lk0 (show ("less" : Str) ≠ "done" by decide +kernel) (by show (2 : Int) ≤ h + 2 - floorOf gs; omega)) ld_less ?_ (.one t4 (lk0 (show ("lead" : Str) ≠ "done" by decide +kernel) (by show (1 : Int) ≤ h + 1 - floorOf gs; omega)) ld_lead ?_ .nil))))
    · rw [t2, show h + 1 + 1 = h + 2 by omega]
    · rw [t3, show h + 2 + 0 = h + 2 by omega]
    · rw [t4, show h + 2 + -1 = h + 1 by omega]
    · rw [tx, ← st_up]
end
theorem rl_nm {n a : Nat} {w z : Str} (h : w ∈ namedL ∧ w ∈ lawWords) (hz : NameOk z) : RwL n a (.nm w z) := ⟨⟨h.1, hz⟩, h.2⟩
theorem rl_al {n a : Nat} {w : Str} (h : w ∈ aloneL ∧ w ∈ lawWords) : RwL n a (.al w) := h
theorem rl_put {n a : Nat} {i : Int} (h : -(10 ^ 12) ≤ i ∧ i ≤ 10 ^ 12) : RwL n a (.put i) := ⟨h, (by decide +kernel : ("put" : Str) ∈ lawWords)⟩
theorem rl_go {n a g : Nat} (h : g < n) : RwL n a (.ld "go" g) := ⟨⟨(by decide +kernel : ("go" : Str) ∈ leadL), h, fun e => absurd e (by decide +kernel)⟩, (by decide +kernel : ("go" : Str) ∈ lawWords)⟩
theorem rl_if {n a g : Nat} (h : g < n) : RwL n a (.ld "if" g) := ⟨⟨(by decide +kernel : ("if" : Str) ∈ leadL), h, fun e => absurd e (by decide +kernel)⟩, (by decide +kernel : ("if" : Str) ∈ lawWords)⟩
theorem rl_try {n a g : Nat} (h : g < n) (h' : g ≠ a + 1) : RwL n a (.ld "try" g) := ⟨⟨(by decide +kernel : ("try" : Str) ∈ leadL), h, fun _ => h'⟩, (by decide +kernel : ("try" : Str) ∈ lawWords)⟩
theorem nok_n : NameOk "n" := by decide +kernel
theorem nok_m : NameOk "m" := by decide +kernel
section
variable {at_ d : Nat} {inner : List Rw}
theorem ok_look (I : BlockOk (at_ + 2) d inner) : BlockOk at_ (d + 1) (.nm "look" "n" :: .ld "if" (at_ + 2 + inner.length) :: inner) :=
  ⟨by have := I.len; simp; omega, .cons (rl_nm (by decide +kernel) nok_n) (.cons (rl_if (by simp; omega)) (I.law.up (by simp; omega))), blk_look I.std⟩
theorem ok_put (I : BlockOk (at_ + 1) d inner) : BlockOk at_ (d + 1) (.put 1 :: inner ++ [.nm "change" "n"]) :=
  ⟨by have := I.len; simp; omega, .cons (rl_put (by decide)) ((I.law.up (by simp; omega)).append (.cons (rl_nm (by decide +kernel) nok_n) .nil)), blk_put I.std⟩
theorem ok_go (I : BlockOk (at_ + 1) d inner) : BlockOk at_ (d + 1) (.ld "go" (at_ + 1 + inner.length) :: inner) :=
  ⟨by have := I.len; simp; omega, .cons (rl_go (by simp; omega)) (I.law.up (by simp; omega)), blk_go⟩
theorem ok_get (I : BlockOk at_ d inner) : BlockOk at_ (d + 1) (inner ++ [.nm "get" "n", .ld "if" at_]) :=
  ⟨by have := I.len; simp; omega, (I.law.up (by simp)).append (.cons (rl_nm (by decide +kernel) nok_n) (.cons (rl_if (by simp; omega)) .nil)), blk_get I.std⟩
theorem ok_try (I : BlockOk (at_ + 1) d inner) : BlockOk at_ (d + 1) (.ld "try" (at_ + inner.length + 3) :: inner ++ [.al "done", .ld "go" (at_ + inner.length + 3 + 1), .nm "set" "n"]) :=
  ⟨by have := I.len; simp; omega, .cons (rl_try (by simp; omega) (by omega)) ((I.law.up (by simp; omega)).append (.cons (rl_al (by decide +kernel)) (.cons (rl_go (by simp; omega)) (.cons (rl_nm (by decide +kernel) nok_n) .nil)))), blk_try I.std⟩
theorem ok_throw : BlockOk at_ d [.put 7, .al "throw"] := ⟨by simp; omega, .cons (rl_put (by decide)) (.cons (rl_al (by decide +kernel)) .nil), blk_throw⟩
theorem ok_back : BlockOk at_ d [.put 5, .al "back"] := ⟨by simp; omega, .cons (rl_put (by decide)) (.cons (rl_al (by decide +kernel)) .nil), blk_back⟩
theorem ok_turn : BlockOk at_ d [.put 2, .al "twin", .al "below", .al "turn"] := ⟨by simp; omega, .cons (rl_put (by decide)) (.cons (rl_al (by decide +kernel)) (.cons (rl_al (by decide +kernel)) (.cons (rl_al (by decide +kernel)) .nil))), blk_turn⟩
theorem ok_lead : BlockOk at_ d [.nm "get" "m", .put 3, .al "swap", .al "less", .al "lead"] := ⟨by simp, .cons (rl_nm (by decide +kernel) nok_m) (.cons (rl_put (by decide)) (.cons (rl_al (by decide +kernel)) (.cons (rl_al (by decide +kernel)) (.cons (rl_al (by decide +kernel)) .nil)))), blk_lead⟩
end
/-- one block behind another -/
theorem BlkS.append {at_ d : Nat} {rs qs : List Rw} (h : BlkS at_ d rs) (t : BlkS (at_ + rs.length) d qs) : BlkS at_ d (rs ++ qs) := blkS_lab.mpr fun v gs hg => by
  obtain ⟨S, s1, s2, s3, s4⟩ := blkS_lab.mp h v gs hg
  obtain ⟨U, u1, u2, u3, u4⟩ := blkS_lab.mp t v gs hg
  let T : Nat → Option Stg := fun a => if a ≤ at_ + rs.length then S a else U a
  have tS : ∀ a, a ≤ at_ + rs.length → T a = S a := fun a h => if_pos h
  have tU : ∀ a, at_ + rs.length ≤ a → T a = U a := fun a h => by
    by_cases e : a = at_ + rs.length
    · subst e
      rw [tS _ (Nat.le_refl _), s2, u1]
    · exact if_neg (by omega)
  refine ⟨T, by rw [tS _ (by omega), s1], ?_, fun a s e => ?_, .append (s4.mono (fun a s e => ?_) fun i s hi e => ?_) (u4.mono (fun a s e => ?_) fun i s hi e => ?_)⟩
  · rw [List.length_append, ← Nat.add_assoc, tU _ (by omega), u2]
  · rw [List.length_append]
    by_cases l : a ≤ at_ + rs.length
    · rw [tS a l] at e
      have := s3 a s e
      omega
    · rw [tU a (by omega)] at e
      have := u3 a s e
      omega
  · rw [tS a (s3 a s e).2.1, e]
  · rw [tS _ (by omega)] at e
    exact e
  · rw [tU a (u3 a s e).1, e]
  · rw [tU _ (by omega)] at e
    exact e
theorem BlkS.nil {at_ d : Nat} : BlkS at_ d [] := blkS_lab.mpr fun h gs hg => by
  refine ⟨fun a => if a = at_ then some (h, gs) else none, if_pos rfl, if_pos rfl, fun a s e => ?_, .nil⟩
  by_cases q : a = at_
  · subst q
    have e : (if a = a then some (h, gs) else none) = some s := e
    rw [if_pos rfl] at e
    cases e
    exact ⟨Nat.le_refl _, Nat.le_refl _, by simp⟩
  · have e : (if a = at_ then some (h, gs) else none) = some s := e
    rw [if_neg q] at e
    cases e
/-- the blocks of a part, its end behind them -/
theorem part_sound {rs : List Rw} {d : Nat} (h : BlkS 0 d rs) (hd : d ≤ 100) : Sound (rs ++ [.put 0, .al "back"]) := by
  obtain ⟨S, s1, s2, s3, s4⟩ := blkS_lab.mp h 0 [] (by decide)
  let T := lay3 0 rs.length [] S [(1, [])]
  have tb : T (0 + rs.length) = some (0, []) := (lay_in (at_ := 0) (pre := []) (by simp) (by simp)).trans s2
  have te : T (0 + rs.length + 1) = some (1, []) := lay_suf (at_ := 0) (pre := []) 0
  have lab : Lab 0 (rs ++ [.put 0, .al "back"]) T := .append (lay_lab (pre := []) (at_ := 0) rfl (fun a s e => by have := s3 a s e; simp; omega) s4)
    (.one tb (lk0 (show ("put" : Str) ≠ "done" by decide +kernel) (by decide)) ld_put te (.stop te (lk0 (show ("back" : Str) ≠ "done" by decide +kernel) (by decide)) ld_back .nil))
  have bnd := lay_bnd (at_ := 0) (L := rs.length) (pre := []) (suf := [((1 : Int), ([] : List (Int × Int)))]) (S := S) (d := d) (gs := []) (by simp) (by simp) (fun a s e => (s3 a s e).2.2)
  refine ⟨T, (lay_in (at_ := 0) (pre := []) (by simp) (by simp)).trans s1, fun a s e => ?_, fun a s r e hr => ?_, fun a s r e hr p hp => ?_⟩
  · have := (bnd a s e).2.2
    simp at this
    omega
  · exact (lab.ok a r s hr (by rw [Nat.zero_add]; exact e)).1
  · obtain ⟨g, g1, g2⟩ := (lab.ok a r s hr (by rw [Nat.zero_add]; exact e)).2 p (by rw [Nat.zero_add]; exact hp)
    have := (bnd g p.2 g2).2.1
    refine ⟨g, g1, ?_, g2⟩
    simp at this ⊢
    omega
/-! ### sets of rows: what unmetOk says of them -/
theorem rises_pw : ∀ {w : List Int}, risesL w = true → w.Pairwise (· < ·)
  | [], _ => .nil
  | [a], _ => List.pairwise_singleton _ _
  | a :: b :: cs, h => by
    have h : (decide (a < b) && risesL (b :: cs)) = true := h
    rw [Bool.and_eq_true] at h
    have ih := rises_pw h.2
    have hab := of_decide_eq_true h.1
    refine List.pairwise_cons.mpr ⟨fun x hx => ?_, ih⟩
    rcases List.mem_cons.mp hx with rfl | hx
    · exact hab
    · exact Int.lt_trans hab ((List.pairwise_cons.mp ih).1 x hx)
theorem pw_rises : ∀ {w : List Int}, w.Pairwise (· < ·) → risesL w = true
  | [], _ => rfl
  | [a], _ => rfl
  | a :: b :: cs, h => by
    have ⟨h1, h2⟩ := List.pairwise_cons.mp h
    show (decide (a < b) && risesL (b :: cs)) = true
    rw [pw_rises h2, decide_eq_true (h1 b List.mem_cons_self)]
    rfl
theorem rises_iff {w : List Int} : risesL w = true ↔ w.Pairwise (· < ·) := ⟨rises_pw, pw_rises⟩
theorem unmet_rises {rows : List Rw} {d : PyData} {w : List Int} (h : unmetOk rows d w = true) : risesL w = true := by
  unfold unmetOk at h
  cases d with
  | int i =>
    dsimp only at h
    simp only [Bool.and_eq_true] at h
    exact h.1.2
  | _ => cases h
theorem unmet_no {rows : List Rw} {d : PyData} {w : List Int} (h : risesL w = false) : unmetOk rows d w = false := by
  cases e : unmetOk rows d w with
  | false => rfl
  | true =>
    rw [unmet_rises e] at h
    cases h
/-- turned about behind its first -/
theorem turned_no {rows : List Rw} {d : PyData} {w : List Int} (h : risesL w = true) (hl : 2 < w.length) : unmetOk rows d (w.take 1 ++ (w.drop 1).reverse) = false := by
  refine unmet_no (Bool.eq_false_iff.mpr fun z => ?_)
  have p := rises_pw h
  have q := (List.pairwise_append.mp (rises_pw z)).2.1
  rw [List.pairwise_reverse] at q
  match w, hl with
  | a :: b :: c :: ds, _ =>
    have q : (b :: c :: ds).Pairwise (fun x y => y < x) := q
    have p1 := (List.pairwise_cons.mp (List.pairwise_cons.mp p).2).1 c List.mem_cons_self
    have q1 := (List.pairwise_cons.mp q).1 c List.mem_cons_self
    omega
/-- its last twice -/
theorem twice_no {rows : List Rw} {d : PyData} {w : List Int} : unmetOk rows d (w ++ w.drop (w.length - 1)) = false := by
  by_cases e : w = []
  · subst e
    unfold unmetOk
    cases d <;> simp
  · refine unmet_no (Bool.eq_false_iff.mpr fun z => ?_)
    have q := (List.pairwise_append.mp (rises_pw z)).2.2
    have hl : w.length - 1 < w.length := by
      have := List.length_pos_iff.mpr e
      omega
    have h1 : w[w.length - 1] ∈ w := List.getElem_mem hl
    have h2 : w[w.length - 1] ∈ w.drop (w.length - 1) := by
      rw [List.drop_eq_getElem_cons hl]
      exact List.mem_cons_self
    exact absurd (q _ h1 _ h2) (by omega)
theorem odd_no {rows : List Rw} {w : List Int} (h60 : rows.length ≤ 60) : ∀ d ∈ [PyData.bool true, .bool false, .int (-1), .int rows.length, .int (10 ^ (30 : Int).toNat), .none], unmetOk rows d w = false := by
  have no : ∀ i : Int, ¬ (0 ≤ i ∧ i < rows.length) → unmetOk rows (.int i) w = false := fun i h => by
    unfold unmetOk
    dsimp only
    rw [show inRows rows i = false from decide_eq_false h]
    rfl
  have big : (60 : Int) < 10 ^ (30 : Int).toNat := by decide
  intro d hd
  simp only [List.mem_cons, List.not_mem_nil, or_false] at hd
  rcases hd with rfl | rfl | rfl | rfl | rfl | rfl
  · rfl
  · rfl
  · exact no _ (by omega)
  · exact no _ (by omega)
  · refine no _ (fun z => ?_)
    generalize (10 : Int) ^ (30 : Int).toNat = y at *
    omega
  · rfl
theorem goal_any {r : Rw} {a : Int} {s s' : Stg} : (leads r a s).map (·.1) = (leads r a s').map (·.1) := by
  unfold leads
  dsimp only
  repeat' split
  all_goals rfl
/-- the rows that are met: to these their words lead -/
theorem met_unmet {rows : List Rw} {ns : List Int} {i : Nat} (so : Sound rows) (h1 : 1 ≤ rows.length) (m : MetL rows ns) (hi : i < rows.length) (hn : ¬ isR rows i) : unmetOk rows (.int i) ns = true := by
  have z0 : (0 : Int) ∈ ns := (m.2 0).mpr ⟨0, rfl, _, .zero⟩
  have inr : ∀ x ∈ ns, inRows rows x = true := fun x hx => by
    obtain ⟨a, rfl, s, hs⟩ := (m.2 x).mp hx
    have := hs.lt so h1
    exact decide_eq_true ⟨by omega, by omega⟩
  unfold unmetOk
  dsimp only
  have e1 : inRows rows (i : Int) = true := decide_eq_true ⟨by omega, by omega⟩
  have e2 : (!ns.isEmpty && ns.all (inRows rows)) = true := by
    rw [List.all_eq_true.mpr inr]
    cases ns with
    | nil => cases z0
    | cons a b => rfl
  have e3 : decide (ns.head? = some 0) = true := by
    cases ns with
    | nil => cases z0
    | cons a b =>
      rw [decide_eq_true_iff]
      have p := (List.pairwise_cons.mp m.1).1
      rcases List.mem_cons.mp z0 with z | z
      · rw [← z]
        rfl
      · have q1 := p 0 z
        have q2 := of_decide_eq_true (show decide (0 ≤ a ∧ a < (rows.length : Int)) = true from inr a List.mem_cons_self)
        omega
  have e4 : (!decide ((i : Int) ∈ ns)) = true := by
    rw [decide_eq_false]
    · rfl
    · intro z
      obtain ⟨a, e, hr⟩ := (m.2 _).mp z
      have : i = a := Int.ofNat.inj e
      subst this
      exact hn hr
  have e5 : risesL ns = true := pw_rises m.1
  have e6 : closedIn rows ns = true := by
    unfold closedIn
    rw [List.all_eq_true]
    intro x hx
    obtain ⟨a, rfl, s, hs⟩ := (m.2 x).mp hx
    have hal := hs.lt so h1
    have hrow : rows[a]? = some rows[a] := by simp [hal]
    rw [Int.toNat_natCast, hrow]
    dsimp only
    rw [List.all_eq_true]
    intro g hg
    unfold goalsOf at hg
    obtain ⟨p, hp, rfl⟩ := List.mem_map.mp hg
    have hp := (List.mem_filter.mp hp).1
    have hpm : p.1 ∈ (leads rows[a] a s).map (·.1) := by
      rw [goal_any (s' := (0, [(0, 0)]))]
      exact List.mem_map.mpr ⟨p, hp, rfl⟩
    obtain ⟨p', hp', e⟩ := List.mem_map.mp hpm
    obtain ⟨b, e1, e2, e3⟩ := hs.go so hrow hp'
    rw [decide_eq_true_iff]
    exact (m.2 _).mpr ⟨b, by rw [← e, e1], _, e3⟩
  rw [e1, e2, e3, e4, e5, e6]
  rfl
/-- what the law reckons of a set of rows -/
theorem due_ok {rows : List Rw} {met : List Int} {i : Nat} (hi : i < rows.length) (hin : ∀ x ∈ met, inRows rows x = true) (hp : met.Pairwise (· < ·)) : unmetOk rows (.int i) met = (decide ((0 : Int) ∈ met) && (closedIn rows met && !decide ((i : Int) ∈ met))) := by
  unfold unmetOk
  dsimp only
  have e1 : inRows rows (i : Int) = true := decide_eq_true ⟨by omega, by omega⟩
  rw [e1, pw_rises hp, List.all_eq_true.mpr hin, Bool.true_and, Bool.and_true, Bool.and_true]
  have e3 : (!met.isEmpty && decide (met.head? = some 0)) = decide ((0 : Int) ∈ met) := by
    cases met with
    | nil => rfl
    | cons a b =>
      have q2 := of_decide_eq_true (show decide (0 ≤ a ∧ a < (rows.length : Int)) = true from hin a List.mem_cons_self)
      rw [show (!(a :: b).isEmpty) = true from rfl, Bool.true_and, show (a :: b).head? = some a from rfl]
      by_cases z : a = 0
      · subst z
        rw [decide_eq_true rfl, decide_eq_true List.mem_cons_self]
      · rw [decide_eq_false fun y => z (Option.some.inj y), decide_eq_false fun y => ?_]
        rcases List.mem_cons.mp y with y | y
        · exact z y.symm
        · have := (List.pairwise_cons.mp hp).1 0 y
          omega
  rw [e3]
  cases decide ((0 : Int) ∈ met) <;> cases closedIn rows met <;> cases decide ((i : Int) ∈ met) <;> rfl
theorem walkedTo_in {rows : List Rw} {w : List Int} {s : Stg} (h : walkedTo rows w = some s) (h1 : 1 ≤ rows.length) : w.all (inRows rows) = true := by
  cases w with
  | nil => rfl
  | cons a gs =>
    unfold walkedTo at h
    dsimp only at h
    split at h
    · rename_i z
      obtain ⟨rfl, z2⟩ := z
      rw [List.all_cons, z2, Bool.and_true]
      exact decide_eq_true ⟨by decide, by omega⟩
    · cases h
theorem cut_1 (xs : List PyData) : cutD xs none (some 1) = xs.take 1 := by
  unfold cutD
  have e1 : HT.sIx xs.length xs.length (some 1) = min 1 xs.length := HT.sIx_nat xs.length xs.length 1
  have e2 : HT.sIx xs.length 0 none = 0 := rfl
  rw [e1, e2, List.drop_zero, Nat.sub_zero]
  cases xs with
  | nil => rfl
  | cons x xs => rw [Nat.min_eq_left (by simp)]
theorem cut_m1 (xs : List PyData) : cutD xs (some (-1)) none = xs.drop (xs.length - 1) := by
  unfold cutD
  have e : HT.sIx xs.length 0 (some (-1)) = xs.length - 1 := by
    show (if (-1 : Int) < 0 then ((-1 : Int) + (xs.length : Int)).toNat else min (-1 : Int).toNat xs.length) = _
    rw [if_pos (by decide)]
    omega
  have e2 : HT.sIx xs.length xs.length none = xs.length := rfl
  rw [e, e2]
  refine List.take_of_length_le ?_
  rw [List.length_drop]
  exact Nat.le_refl _
theorem eqv_lints (a b : List Int) : PyData.eqv (.list (a.map .int)) (.list (b.map .int)) = decide (a = b) := by
  have := eqv_ints a b
  simp only [PyData.eqv]
  exact this
theorem eqv_lbools (a b : List Bool) : PyData.eqv (.list (a.map .bool)) (.list (b.map .bool)) = decide (a = b) := by
  have := eqv_bools a b
  simp only [PyData.eqv]
  exact this
theorem eqv_loss (a b : List (Option Stg)) : PyData.eqv (.list (a.map osD)) (.list (b.map osD)) = decide (a = b) := by
  have := eqv_oss a b
  simp only [PyData.eqv]
  exact this
theorem set_at' {α : Type} {xs : List α} {g a : Nat} {x y : α} (h : (xs.set g x)[a]? = some y) : (a = g ∧ y = x) ∨ (a ≠ g ∧ xs[a]? = some y) := by
  rw [List.getElem?_set] at h
  split at h
  · rename_i e
    split at h
    · exact .inl ⟨e.symm, (Option.some.inj h).symm⟩
    · cases h
  · rename_i e
    exact .inr ⟨fun z => e z.symm, h⟩
theorem delM_setM {M : AM} {l : Addr} {m : MO} (h : M l = none) : delM (setM M l m) l = M := funext fun a => by
  unfold delM setM
  by_cases e : a = l
  · subst e
    rw [if_pos rfl, h]
  · rw [if_neg e, if_neg e]
section
variable {X : Cx} {sts : List Stmt} {δ : Sl} {M : AM} {N : Sl → AM → Prop} {R : XP}
theorem BvX.frz {l0 : Addr} {ds : List PyData} (j : Nat) (hm : M l0 = some (.lst (ds.map .dat))) (hj : δ[j]? = some (some (.raw (.ref l0)))) (h : BvX X sts (δ.set j (some (.dat (.list ds)))) (delM M l0) N R) : BvX X sts δ M N R :=
  BvX.freeze hm (fun i r' e => by
    rcases set_at' e with ⟨e1, e2⟩ | ⟨_, e2⟩
    · subst e1
      exact ⟨_, hj, .inr ⟨rfl, Option.some.inj e2⟩⟩
    · exact ⟨r', e2, .inl rfl⟩) (by rw [List.length_set]) h
end
section
variable {X : Cx} {sts : List Stmt} {δ : Sl} {M : AM} {N : Sl → AM → Prop} {R : XP} {P : XP}
theorem outM_setM {l : Addr} {m : MO} (h : M l = none) : outM (setM M l m) (fun a => a = l) = M := funext fun a => by
  by_cases e : a = l
  · rw [outM_in (A := fun a => a = l) e, e, h]
  · rw [outM_out (A := fun a => a = l) e, setM_ne e]
/-- a tuple in which a list may change: from now on it stays -/
theorem BvX.fixT {q : Addr} (j : Nat) {xs : List S0} {ds : List PyData} (hj : δ[j]? = some (some (.tup xs))) (hd : ∀ G', Had X.K M (fun a => a = q) G' → Paired (fun (a : S0) (d : PyData) => ∀ v, S0V X.K G' v a → Dq X.K G' v d) xs ds)
    (h : BvX X sts (δ.set j (some (.dat (.tuple ds)))) (outM M fun a => a = q) N R) : BvX X sts δ M N R :=
  BvX.fixd (fun a => a = q) (by rw [List.length_set]) (fun i r' e => by
    rcases set_at' e with ⟨e1, e2⟩ | ⟨_, e2⟩
    · subst e1
      refine ⟨_, hj, fun v G' had sv => ?_⟩
      rw [Option.some.inj e2]
      exact tup_fix sv (hd G' had)
    · exact ⟨r', e2, fun v G' _ sv => sv⟩) h
theorem IOp.tupD {ds : List S0} {i : Int} {d : PyData} (hd : atI ds i = some (.dat d)) (h : P (.dat d) M) : IOp X (.tup ds) (.dat (.int i)) M P := IOp.tupS hd h
theorem IOp.tupR {ds : List S0} {i : Int} {v : V} (hd : atI ds i = some (.raw v)) (h : P (.raw v) M) : IOp X (.tup ds) (.dat (.int i)) M P := IOp.tupS hd h
end
end Wr
end
section
set_option maxHeartbeats 4000000
namespace Wr
open PySem PySem.Spec PyProof.Rows L2
local macro_rules | `(tactic| walk_at "bt") => `(tactic| first | with_reducible exact bt_len | with_reducible exact bt_isinstance | with_reducible exact bt_abs | with_reducible exact bt_all | with_reducible exact bt_sorted | with_reducible exact bt_min | with_reducible exact bt_max | with_reducible exact bt_int | with_reducible exact bt_str | with_reducible exact bt_bool | with_reducible exact bt_tuple | with_reducible exact bt_list | with_reducible exact bt_set | with_reducible exact bt_enumerate | with_reducible exact bt_zip | with_reducible exact bt_range)
local macro_rules | `(tactic| walk_at "evName") => `(tactic| first
  | refine EvX.nm ?_
  | refine EvX.con (by assumption) ?_
  | refine EvX.bltn (v := .ty _) (by rfl) (by assumption) (by walk_at "bt") (by rfl) ?_)
local macro_rules | `(tactic| walk_at "evCall") => `(tactic| first
  | refine EvX.callB ?_ (by rfl) (by assumption) (by walk_at "bt")
  | refine EvX.callTy ?_ (by rfl) (by assumption) (by walk_at "bt")
  | refine EvX.call (by assumption) (Room.mono (by assumption) (by decide)) ?_)
local macro_rules | `(tactic| walk_at "evE") => `(tactic| first
  | ((with_reducible show EvX _ (PySem.Expr.Name _ _) _ _ _); walk_at "evName")
  | ((with_reducible show EvX _ (PySem.Expr.Constant _ _ _) _ _ _); first | refine EvX.int ?_ | refine EvX.str ?_ | refine EvX.bl ?_ | refine EvX.non ?_)
  | ((with_reducible show EvX _ (PySem.Expr.Call (PySem.Expr.Name "len" _) [PySem.Expr.Call (PySem.Expr.Name "set" _) [_] [] _] [] _) _ _ _); refine EvX.lenSet (by assumption) (by assumption) ?_)
  | ((with_reducible show EvX _ (PySem.Expr.Call (PySem.Expr.Name _ _) (_ :: _) [] _) _ _ _); walk_at "evCall")
  | ((with_reducible show EvX _ (PySem.Expr.BinOp _ _ _ _) _ _ _); refine EvX.binop ?_)
  | ((with_reducible show EvX _ (PySem.Expr.Compare _ [_] _ _) _ _ _); refine EvX.cmp ?_)
  | ((with_reducible show EvX _ (PySem.Expr.Compare _ [_, _] _ _) _ _ _); refine EvX.chain ?_)
  | ((with_reducible show EvX _ (PySem.Expr.BoolOp _ [_] _) _ _ _); refine EvX.one ?_)
  | ((with_reducible show EvX _ (PySem.Expr.BoolOp .And _ _) _ _ _); refine EvX.and ?_)
  | ((with_reducible show EvX _ (PySem.Expr.BoolOp .Or _ _) _ _ _); refine EvX.or ?_)
  | ((with_reducible show EvX _ (PySem.Expr.UnaryOp .Not _ _) _ _ _); refine EvX.not ?_)
  | ((with_reducible show EvX _ (PySem.Expr.UnaryOp .USub _ _) _ _ _); refine EvX.neg ?_)
  | ((with_reducible show EvX _ (PySem.Expr.IfExp _ _ _ _) _ _ _); refine EvX.ifx ?_)
  | ((with_reducible show EvX _ (PySem.Expr.Subscript _ (PySem.Expr.Slice _ _ none _) _) _ _ _); refine EvX.slice ?_)
  | ((with_reducible show EvX _ (PySem.Expr.Subscript _ (PySem.Expr.Slice _ _ (some _) _) _) _ _ _); refine EvX.rev ?_)
  | ((with_reducible show EvX _ (PySem.Expr.Subscript _ _ _) _ _ _); refine EvX.ix ?_)
  | ((with_reducible show EvX _ (PySem.Expr.Tuple _ _ _) _ _ _); refine EvX.tup ?_)
  | ((with_reducible show EvX _ (PySem.Expr.List _ _) _ _ _); refine EvX.lst ?_))
local macro_rules | `(tactic| walk_at "evT") => `(tactic| first
  | ((with_reducible show TvX _ (PySem.Expr.Compare _ [_] _ _) _ _ _); refine TvX.cmp ?_)
  | ((with_reducible show TvX _ (PySem.Expr.Compare _ [_, _] _ _) _ _ _); refine TvX.chain ?_)
  | ((with_reducible show TvX _ (PySem.Expr.UnaryOp .Not _ _) _ _ _); refine TvX.not ?_)
  | ((with_reducible show TvX _ (PySem.Expr.BoolOp .And _ _) _ _ _); refine TvX.w (WvX.and ?_))
  | ((with_reducible show TvX _ (PySem.Expr.BoolOp .Or _ _) _ _ _); refine TvX.w (WvX.or ?_))
  | refine TvX.val ?_)
local macro_rules | `(tactic| walk_at "evS") => `(tactic| first
  | ((with_reducible show SvX _ (PySem.Stmt.Return (some (PySem.Expr.Tuple [_, _, PySem.Expr.Call (PySem.Expr.Name "list" _) _ _ _, _] _ _)) _) _ _ _ _); refine SvX.ret (EvX.tupS ?_))
  | ((with_reducible show SvX _ (PySem.Stmt.Return (some (PySem.Expr.List [PySem.Expr.BinOp _ .Mult _ _, _, PySem.Expr.Constant _ _ _] _)) _) _ _ _ _); refine SvX.ret (EvX.lstM ?_))
  | ((with_reducible show SvX _ (PySem.Stmt.Return (some _) _) _ _ _ _); refine SvX.ret ?_)
  | ((with_reducible show SvX _ (PySem.Stmt.Return none _) _ _ _ _); refine SvX.retN ?_)
  | ((with_reducible show SvX _ (PySem.Stmt.If _ _ _ _) _ _ _ _); refine SvX.iff ?_)
  | ((with_reducible show SvX _ (PySem.Stmt.Expr _ _) _ _ _ _); refine SvX.expr ?_))
local macro_rules | `(tactic| walk_at "ev") => `(tactic| first
  | ((with_reducible show EvX _ _ _ _ _); walk_at "evE")
  | ((with_reducible show TvX _ _ _ _ _); walk_at "evT")
  | ((with_reducible show AvX _ _ _ _ _); first | refine AvX.cons ?_ | refine AvX.nil ?_)
  | ((with_reducible show WvX _ (PySem.Expr.BoolOp _ [_] _) _ _ _); first | refine WvX.and1 ?_ | refine WvX.or1 ?_)
  | ((with_reducible show WvX _ (PySem.Expr.BoolOp .And _ _) _ _ _); refine WvX.and ?_)
  | ((with_reducible show WvX _ (PySem.Expr.BoolOp .Or _ _) _ _ _); refine WvX.or ?_)
  | ((with_reducible show BvX _ _ _ _ _ _); first | refine BvX.cons ?_ | refine BvX.nil ?_)
  | ((with_reducible show SvX _ _ _ _ _ _); walk_at "evS")
  | ((with_reducible show PoX _ _ _ _ _); first | refine PoX.non ?_ | refine PoX.som ?_)
  | ((with_reducible show ∃ _, _ ∧ _); first
    | refine ⟨_, rfl, ?_⟩
    | refine ⟨[_, _], rfl, sz2, ?_⟩
    | refine ⟨[_], rfl, sz1, ?_⟩
    | refine ⟨[], rfl, sz0, ?_⟩
    | refine ⟨[_, _, _], rfl, sz3, ?_⟩
    | refine ⟨[_, _, _, _], rfl, sz4, ?_⟩
    | refine ⟨[_, _, _, _, _], rfl, sz5, ?_⟩
    | refine ⟨[_, _, _, _, _, _], rfl, sz6, ?_⟩
    | refine ⟨[_, _, _, _, _, _, _, _], rfl, sz8, ?_⟩))
local macro_rules | `(tactic| walk_at "op") => `(tactic| first
  | ((with_reducible show SOp _ _ _ _ _ _); first | refine SOp.tup ?_ | refine SOp.lst ?_ | refine SOp.tupS ?_)
  | ((with_reducible show COp _ (.builtin "isinstance") _ _ _); first | ((with_reducible show COp _ _ [_, .raw (.ty "int")] _ _); refine COp.isi (kit_int _) ?_) | ((with_reducible show COp _ _ [_, .raw (.ty "bool")] _ _); refine COp.isi (kit_bool _) ?_) | ((with_reducible show COp _ _ [_, .raw (.ty "str")] _ _); refine COp.isi (kit_str _) ?_) | ((with_reducible show COp _ _ [_, .raw (.ty "list")] _ _); refine COp.isi (kit_list _) ?_) | ((with_reducible show COp _ _ [_, .raw (.ty "tuple")] _ _); refine COp.isi (kit_tuple _) ?_))
  | ((with_reducible show COp _ (.builtin "len") _ _ _); first | refine COp.lenT ?_ | refine COp.lenL ?_ | refine COp.lenTS ?_ | refine COp.lenSq ?_)
  | ((with_reducible show COp _ (.builtin "abs") _ _ _); refine COp.abs ?_)
  | ((with_reducible show COp _ (.type "tuple") [.dat (.list _)] _ _); refine COp.tupL ?_)
  | ((with_reducible show COp _ (.type "list") [.dat (.tuple _)] _ _); refine COp.listT ?_)
  | ((with_reducible show COp _ (.type "int") _ _ _); refine COp.intB ?_)
  | ((with_reducible show COp _ (.builtin "all") _ _ _); first | refine COp.allT rfl ?_ | refine COp.allM rfl ?_ | refine COp.all rfl ?_)
  | ((with_reducible show VOp _ (binaryOp .Add) (.dat (.int _)) _ _ _); refine VOp.add ?_)
  | ((with_reducible show VOp _ (binaryOp .Sub) _ _ _ _); refine VOp.sub ?_)
  | ((with_reducible show VOp _ (compareOp .Eq) (.dat (.int _)) (.dat (.int _)) _ _); refine VOp.eqI ?_)
  | ((with_reducible show VOp _ (compareOp .Eq) (.dat (.str _)) (.dat (.str _)) _ _); refine VOp.eqS ?_)
  | ((with_reducible show VOp _ (compareOp .NotEq) (.dat (.int _)) (.dat (.int _)) _ _); refine VOp.neI ?_)
  | ((with_reducible show VOp _ (compareOp .NotEq) (.dat (.str _)) (.dat (.str _)) _ _); refine VOp.neS ?_)
  | ((with_reducible show VOp _ (compareOp .Lt) _ _ _ _); refine VOp.lt ?_)
  | ((with_reducible show VOp _ (compareOp .LtE) _ _ _ _); refine VOp.le ?_)
  | ((with_reducible show VOp _ (compareOp .Gt) _ _ _ _); refine VOp.gt ?_)
  | ((with_reducible show VOp _ (compareOp .GtE) _ _ _ _); refine VOp.ge ?_)
  | ((with_reducible show VOp _ (compareOp .Is) _ (.dat .none) _ _); refine VOp.isN ?_)
  | ((with_reducible show VOp _ (compareOp .IsNot) _ (.dat .none) _ _); refine VOp.notN ?_)
  | ((with_reducible show IOp _ (.dat (.tuple _)) (.dat (.int _)) _ _); first | refine IOp.tup atI0 ?_ | refine IOp.tup atI1 ?_ | refine IOp.tup atI2 ?_ | refine IOp.tup (by with_reducible assumption) ?_ | refine IOp.tup (by rfl) ?_)
  | ((with_reducible show IOp _ (.dat (.list _)) (.dat (.int _)) _ _); first | refine IOp.lst atI0 ?_ | refine IOp.lst atI1 ?_ | refine IOp.lst atI2 ?_ | refine IOp.lst (by with_reducible assumption) ?_ | refine IOp.lst (by rfl) ?_))
local macro_rules | `(tactic| walk_at "if") => `(tactic| first
  | ((with_reducible show ite _ _ _); first | refine iteT rfl ?_ | refine iteF rfl ?_ | refine iteT (by assumption) ?_ | refine iteF (by assumption) ?_))
local macro_rules | `(tactic| walk_at "go") => `(tactic| repeat (first | walk_at "ev" | walk_at "op" | walk_at "if"))
/-! ### Found: what it holds while it searches -/
structure FSt where
  stands : List (Option Stg)
  walks : List (Option (List Int))
  waits : List Int
structure FA where
  x : Addr
  l1 : Addr
  l2 : Addr
  l3 : Addr
  C : Addr
  dx : Addr
  d : PyData
  p : Pt
structure FA.Ok (F : FA) : Prop where
  x1 : F.l1 ≠ F.x
  x2 : F.l2 ≠ F.x
  x3 : F.l3 ≠ F.x
  y12 : F.l2 ≠ F.l1
  y13 : F.l3 ≠ F.l1
  y23 : F.l3 ≠ F.l2
abbrev FA.fs (F : FA) (fl : PyData) : List (Str × S0) := [("program", .dat F.d), ("called", .dat (.str F.p.name)), ("listing", .dat (.tuple (F.p.rows.map Rw.d))), ("stands", .raw (.ref F.l1)), ("walks", .raw (.ref F.l2)), ("flaw", .dat fl), ("waits", .raw (.ref F.l3))]
def FA.M (F : FA) (M0 : AM) (fl : PyData) (st : FSt) : AM := fun a => if a = F.x then some (.ins F.C F.dx (F.fs fl)) else if a = F.l1 then some (.lst ((st.stands.map osD).map .dat)) else if a = F.l2 then some (.lst ((st.walks.map wD).map .dat)) else if a = F.l3 then some (.lst ((st.waits.map PyData.int).map .dat)) else M0 a
section
variable {F : FA} {M0 : AM} {fl : PyData} {st : FSt}
theorem FA.mx : F.M M0 fl st F.x = some (.ins F.C F.dx (F.fs fl)) := by
  unfold FA.M
  rw [if_pos rfl]
theorem FA.m1 (o : F.Ok) : F.M M0 fl st F.l1 = some (.lst ((st.stands.map osD).map .dat)) := by
  unfold FA.M
  rw [if_neg o.x1, if_pos rfl]
theorem FA.m2 (o : F.Ok) : F.M M0 fl st F.l2 = some (.lst ((st.walks.map wD).map .dat)) := by
  unfold FA.M
  rw [if_neg o.x2, if_neg o.y12, if_pos rfl]
theorem FA.m3 (o : F.Ok) : F.M M0 fl st F.l3 = some (.lst ((st.waits.map PyData.int).map .dat)) := by
  unfold FA.M
  rw [if_neg o.x3, if_neg o.y13, if_neg o.y23, if_pos rfl]
theorem FA.sx (fl' : PyData) : setM (F.M M0 fl st) F.x (.ins F.C F.dx (F.fs fl')) = F.M M0 fl' st := funext fun a => by
  unfold setM FA.M
  by_cases e : a = F.x
  · rw [if_pos e, if_pos e]
  · rw [if_neg e, if_neg e, if_neg e]
theorem FA.s1 (o : F.Ok) (y : List (Option Stg)) : setM (F.M M0 fl st) F.l1 (.lst ((y.map osD).map .dat)) = F.M M0 fl { st with stands := y } := funext fun a => by
  unfold setM FA.M
  by_cases e : a = F.l1
  · subst e
    rw [if_pos rfl, if_neg o.x1, if_pos rfl]
  · rw [if_neg e, if_neg e, if_neg e]
theorem FA.s2 (o : F.Ok) (y : List (Option (List Int))) : setM (F.M M0 fl st) F.l2 (.lst ((y.map wD).map .dat)) = F.M M0 fl { st with walks := y } := funext fun a => by
  unfold setM FA.M
  by_cases e : a = F.l2
  · subst e
    rw [if_pos rfl, if_neg o.x2, if_neg o.y12, if_pos rfl]
  · rw [if_neg e, if_neg e, if_neg e]
theorem FA.s3 (o : F.Ok) (y : List Int) : setM (F.M M0 fl st) F.l3 (.lst ((y.map PyData.int).map .dat)) = F.M M0 fl { st with waits := y } := funext fun a => by
  unfold setM FA.M
  by_cases e : a = F.l3
  · subst e
    rw [if_pos rfl, if_neg o.x3, if_neg o.y13, if_neg o.y23, if_pos rfl]
  · rw [if_neg e, if_neg e, if_neg e]
end
/-! ### the search -/
def cntS (xs : List (Option Stg)) : Nat := xs.countP Option.isSome
structure FI (rows : List Rw) (st : FSt) (ex : Nat → Prop) : Prop where
  ls : st.stands.length = rows.length
  lw : st.walks.length = rows.length
  met : ∀ (a : Nat) (s : Stg), st.stands[a]? = some (some s) → Reach rows a s
  walk : ∀ (a : Nat) (s : Stg), st.stands[a]? = some (some s) → ∃ w, st.walks[a]? = some (some w) ∧ w.getLast? = some (a : Int) ∧ walkedTo rows w = some s ∧ w.length ≤ cntS st.stands
  zero : st.stands[0]? = some (some (0, []))
  waits : ∀ i ∈ st.waits, ∃ a : Nat, i = (a : Int) ∧ ∃ s, st.stands[a]? = some (some s)
  closed : ∀ (a : Nat) (s : Stg) (r : Rw), st.stands[a]? = some (some s) → rows[a]? = some r → (a : Int) ∉ st.waits → ¬ ex a → ∀ p ∈ leads r a s, ∃ g : Nat, p.1 = (g : Int) ∧ st.stands[g]? = some (some p.2)
def FSt.put (st : FSt) (g : Nat) (s : Stg) (w : List Int) : FSt := ⟨st.stands.set g (some s), st.walks.set g (some w), st.waits ++ [(g : Int)]⟩
def FSt.mu (st : FSt) (n : Nat) : Nat := 2 * (n - cntS st.stands) + st.waits.length
theorem cnt_le (xs : List (Option Stg)) : cntS xs ≤ xs.length := List.countP_le_length
theorem cnt_put : ∀ {xs : List (Option Stg)} {g : Nat} {s : Stg}, xs[g]? = some none → cntS (xs.set g (some s)) = cntS xs + 1
  | [], g, s, h => by simp at h
  | x :: xs, 0, s, h => by
    have h : x = none := by simpa using h
    subst h
    simp [cntS]
  | x :: xs, g + 1, s, h => by
    have ih := cnt_put (xs := xs) (g := g) (s := s) (by simpa using h)
    unfold cntS at *
    rw [List.set_cons_succ, List.countP_cons, List.countP_cons, ih]
    omega
section
variable {rows : List Rw} {st : FSt} {ex : Nat → Prop}
theorem set_at {α : Type} {xs : List α} {g a : Nat} {x y : α} (h : (xs.set g x)[a]? = some y) : (a = g ∧ y = x) ∨ (a ≠ g ∧ xs[a]? = some y) := by
  rw [List.getElem?_set] at h
  split at h
  · rename_i e
    split at h
    · exact .inl ⟨e.symm, (Option.some.inj h).symm⟩
    · cases h
  · rename_i e
    exact .inr ⟨fun z => e z.symm, h⟩
theorem set_ne {α : Type} {xs : List α} {g a : Nat} {x y : α} (e : a ≠ g) (h : xs[a]? = some y) : (xs.set g x)[a]? = some y := by
  rw [List.getElem?_set, if_neg fun z => e z.symm]
  exact h
theorem set_eq {α : Type} {xs : List α} {g : Nat} {x : α} (h : g < xs.length) : (xs.set g x)[g]? = some x := by
  rw [List.getElem?_set, if_pos rfl, if_pos h]
theorem FI.put (I : FI rows st ex) {g : Nat} {s : Stg} {w : List Int} (hn : st.stands[g]? = some none) (hr : Reach rows g s) (hw : walkedTo rows w = some s) (hl : w.getLast? = some (g : Int)) (hz : w.length ≤ cntS st.stands + 1) : FI rows (st.put g s w) ex := by
  have hg : g < st.stands.length := (List.getElem?_eq_some_iff.mp hn).1
  have c := cnt_put (s := s) hn
  have keep : ∀ (a : Nat) (t : Stg), st.stands[a]? = some (some t) → (st.stands.set g (some s))[a]? = some (some t) := fun a t h => set_ne (fun z => by
    subst z
    rw [hn] at h
    cases h) h
  refine ⟨by rw [FSt.put, List.length_set]; exact I.ls, by rw [FSt.put, List.length_set]; exact I.lw, fun a t h => ?_, fun a t h => ?_, keep _ _ I.zero, fun i hi => ?_, fun a t r h hr' ha hx p hp => ?_⟩
  · rcases set_at h with ⟨rfl, e⟩ | ⟨_, h⟩
    · cases e
      exact hr
    · exact I.met a t h
  · show ∃ w', (st.walks.set g (some w))[a]? = _ ∧ _ ∧ _ ∧ _ ≤ cntS (st.stands.set g (some s))
    rw [c]
    rcases set_at h with ⟨rfl, e⟩ | ⟨e, h⟩
    · cases e
      exact ⟨w, set_eq (by rw [I.lw, ← I.ls]; exact hg), hl, hw, hz⟩
    · obtain ⟨w', h1, h2, h3, h4⟩ := I.walk a t h
      exact ⟨w', set_ne e h1, h2, h3, by omega⟩
  · rcases List.mem_append.mp hi with hi | hi
    · obtain ⟨a, e, t, h⟩ := I.waits i hi
      exact ⟨a, e, t, keep a t h⟩
    · exact ⟨g, List.mem_singleton.mp hi, s, set_eq hg⟩
  · rcases set_at h with ⟨rfl, e⟩ | ⟨_, h⟩
    · exact absurd (List.mem_append_right _ (List.mem_singleton.mpr rfl)) ha
    · obtain ⟨b, e1, e2⟩ := I.closed a t r h hr' (fun z => ha (List.mem_append_left _ z)) hx p hp
      exact ⟨b, e1, keep _ _ e2⟩
theorem mu_put {n g : Nat} {s : Stg} {w : List Int} (hn : st.stands[g]? = some none) (hl : st.stands.length = n) : (st.put g s w).mu n ≤ st.mu n := by
  have c := cnt_put (s := s) hn
  have c2 := cnt_le (st.stands.set g (some s))
  rw [List.length_set] at c2
  show 2 * (n - cntS (st.stands.set g (some s))) + (st.waits ++ [(g : Int)]).length ≤ 2 * (n - cntS st.stands) + st.waits.length
  rw [c, List.length_append, List.length_singleton]
  omega
/-- when nothing waits, all is found -/
theorem FI.done (so : Sound rows) (h1 : 1 ≤ rows.length) (h60 : rows.length ≤ 60) (I : FI rows st (fun _ => False)) (hw : st.waits = []) : FoundOk rows st.stands st.walks := by
  have all : ∀ (a : Nat) (s : Stg), Reach rows a s → st.stands[a]? = some (some s) := fun a s r => by
    induction r with
    | zero => exact I.zero
    | step r0 hr hm ih =>
      obtain ⟨g, e1, e2⟩ := I.closed _ _ _ ih hr (by rw [hw]; simp) id _ hm
      have : g = _ := Int.ofNat.inj e1.symm
      subst this
      exact e2
  refine ⟨I.ls, I.lw, fun a s => ⟨I.met a s, all a s⟩, fun a s h => ?_⟩
  obtain ⟨w, h2, h3, h4, h5⟩ := I.walk a s h
  have := cnt_le st.stands
  have := I.ls
  exact ⟨w, h2, h3, h4, by omega⟩
end
section
variable {P : Program} {w : World} {K : PySem.W.Frag} {mg : Str → Option Value} {base : Heap}
theorem ixN_n {n j : Nat} (hj : j < n) : ixN n (j : Int) = some j := by
  unfold ixN
  rw [if_pos (by omega), if_pos (by omega), Int.toNat_natCast]
def aCome (K : PySem.W.Frag) (mg : Str → Option Value) : ASp := fun rs M P => ∃ (F : FA) (M0 : AM) (st : FSt) (g : Nat) (s : Stg) (w : List Int), rs = [.raw (.ref F.x), .dat (.list (w.map .int)), .dat (.int g), .dat (stD s)] ∧ M = F.M M0 .none st ∧ F.Ok ∧ IsC K mg F.C ∧ g < F.p.rows.length ∧ F.p.rows.length ≤ 60 ∧
  st.stands.length = F.p.rows.length ∧ st.walks.length = F.p.rows.length ∧ st.waits.length ≤ 1000 ∧ w.length ≤ 1000 ∧ ((st.stands[g]? = some none ∧ P (.dat .none) (F.M M0 .none (st.put g s (w ++ [(g : Int)])))) ∨ (st.stands[g]? = some (some s) ∧ P (.dat .none) (F.M M0 .none st)))
theorem df_come {f : Addr} {fd : FuncData} (T : Tx w K mg) (D : FnS K "come_to" "Found.come_to" st_Found_come_to f fd) : FnOk P w K mg base CX0 1 f fd ["self", "walk", "goal", "standing"] (conc K (aCome K mg)) := by
  refine fnok_of D sc_Found_come_to (fun rs M P h => ?_) (fun cdv A outer s H E hr rs M PP h => ?_)
  · obtain ⟨_, _, _, _, _, _, rfl, _⟩ := h
    rfl
  · obtain ⟨F, M0, st, g, s, w, rfl, rfl, o, ic, hg, hn, h1, h2, h3, h4, h⟩ := h
    have b_len := T.b_len
    have hgs : g < st.stands.length := by omega
    walk_at "go"
    refine EvX.fldD ?_; walk_at "go"; refine ⟨F.x, F.C, F.dx, _, _, rfl, FA.mx, rfl, ic.c, ic.n3, ?_⟩
    walk_at "go"
    rw [List.length_map, decide_eq_false (by omega)]
    walk_at "go"
    refine EvX.fldR ?_; walk_at "go"; refine ⟨F.x, F.C, F.dx, _, _, rfl, FA.mx, rfl, ic.c, ic.n4, ?_⟩
    walk_at "go"
    refine IOp.lstM (FA.m1 o) (d := .dat (osD st.stands[g])) (atI_nat (by simp [hgs])) ?_
    walk_at "go"
    have hn' : ∀ y, st.stands[g]? = some y → st.stands[g] = y := fun y e => (List.getElem?_eq_some_iff.mp e).2
    rcases h with ⟨e, h⟩ | ⟨e, h⟩
    · rw [hn' _ e]
      walk_at "go"
      refine SvX.setIx ?_
      walk_at "go"
      refine EvX.fldR ?_; walk_at "go"; refine ⟨F.x, F.C, F.dx, _, _, rfl, FA.mx, rfl, ic.c, ic.n4, ?_⟩
      walk_at "go"
      refine ⟨F.l1, _, g, g, .dat (stD s), rfl, FA.m1 o, rfl, ixN_n (by simp [hgs]), rfl, ?_⟩
      rw [← List.map_set (f := S0.dat) (a := stD s), show stD s = osD (some s) from rfl, ← List.map_set (f := osD), FA.s1 o]
      walk_at "go"
      refine SvX.setIx ?_
      walk_at "go"
      refine VOp.addLm (f := PyData.int) (b := [(g : Int)]) (by simp; omega) ?_
      refine EvX.fldR ?_; walk_at "go"; refine ⟨F.x, F.C, F.dx, _, _, rfl, FA.mx, rfl, ic.c, ic.n5, ?_⟩
      walk_at "go"
      refine ⟨F.l2, _, g, g, .dat (.list ((w ++ [(g : Int)]).map .int)), rfl, FA.m2 o, rfl, ixN_n (by simp; omega), rfl, ?_⟩
      rw [← List.map_set (f := S0.dat), show PyData.list ((w ++ [(g : Int)]).map .int) = wD (some (w ++ [(g : Int)])) from rfl, ← List.map_set (f := wD), FA.s2 o]
      walk_at "go"
      refine EvX.append ?_
      refine EvX.fldR ?_; walk_at "go"; refine ⟨F.x, F.C, F.dx, _, _, rfl, FA.mx, rfl, ic.c, ic.n7, ?_⟩
      refine ⟨⟨F.l3, _, rfl, FA.m3 o⟩, ?_⟩
      walk_at "go"
      refine MOp.append (r := .dat (.int g)) (FA.m3 o) (size_big (by simp; omega)) ?_
      have e3 : (st.waits.map PyData.int).map S0.dat ++ [S0.dat (.int g)] = ((st.waits ++ [(g : Int)]).map PyData.int).map S0.dat := by simp
      dsimp only
      rw [e3, FA.s3 o]
      walk_at "go"
      exact h
    · rw [hn' _ e]
      walk_at "go"
      refine EvX.fldR ?_; walk_at "go"; refine ⟨F.x, F.C, F.dx, _, _, rfl, FA.mx, rfl, ic.c, ic.n4, ?_⟩
      walk_at "go"
      refine IOp.lstM (FA.m1 o) (d := .dat (stD s)) (atI_nat (by simp [e, osD])) ?_
      walk_at "go"
      refine VOp.ne hr.units (shaped_st s) (shaped_st s) ?_
      rw [eqv_st, decide_eq_true rfl]
      walk_at "go"
      exact h
def aGo (K : PySem.W.Frag) (mg : Str → Option Value) : ASp := fun rs M P => ∃ (F : FA) (M0 : AM) (st : FSt) (a : Nat) (s : Stg) (r : Rw), rs = [.raw (.ref F.x), .dat (.int a)] ∧ M = F.M M0 .none st ∧ F.Ok ∧ IsC K mg F.C ∧ PtOk F.p ∧ F.p.rows[a]? = some r ∧ st.stands[a]? = some (some s) ∧
  st.stands.length = F.p.rows.length ∧ st.walks.length = F.p.rows.length ∧
  ((Sound F.p.rows ∧ st.mu F.p.rows.length ≤ 200 ∧ FI F.p.rows st (fun b => b = a) ∧ ∀ st', FI F.p.rows st' (fun _ => False) → st'.mu F.p.rows.length ≤ st.mu F.p.rows.length → P (.dat .none) (F.M M0 .none st')) ∨
   (lacking r s = true ∧ (∃ w, st.walks[a]? = some (some w)) ∧ ∀ z, P (.dat .none) (F.M M0 (.tuple z) st)))
theorem df_go {f f2 : Addr} {fd fd2 : FuncData} (T : Tx w K mg) (D : FnS K "go_from" "Found.go_from" st_Found_go_from f fd) (hm : ∀ C, mg "Found" = some (.ref C) → Meth K C "come_to" f2) (FC : FnOk P w K mg base CX0 1 f2 fd2 ["self", "walk", "goal", "standing"] (conc K (aCome K mg))) (BC : Binds K fd2 ["self", "walk", "goal", "standing"] [])
    (D_is_lacking : Df P w K mg base 2 "is_lacking" ["program", "row", "standing"] aLack) (D_leads_of : Df P w K mg base 2 "leads_of" ["program", "rows", "at", "standing"] aLeads) : FnOk P w K mg base CX0 3 f fd ["self", "at"] (conc K (aGo K mg)) := by
  refine fnok_of D sc_Found_go_from (fun rs M P h => ?_) (fun cdv A outer s H E hr rs M PP h => ?_)
  · obtain ⟨_, _, _, _, _, _, rfl, _⟩ := h
    rfl
  · obtain ⟨F, M0, st, a, s, r, rfl, rfl, o, ic, pk, hr', hs, h1, h2, h⟩ := h
    have okr := pk.rows a r hr'
    have hix : atI (F.p.rows.map Rw.d) (a : Int) = some r.d := atI_map hr'
    have hst : atI ((st.stands.map osD).map S0.dat) (a : Int) = some (.dat (stD s)) := atI_nat (by simp [hs, osD])
    walk_at "go"
    refine EvX.fldD ?_; walk_at "go"; refine ⟨F.x, F.C, F.dx, _, _, rfl, FA.mx, rfl, ic.c, ic.n1, ?_⟩
    walk_at "go"
    refine EvX.fldD ?_; walk_at "go"; refine ⟨F.x, F.C, F.dx, _, _, rfl, FA.mx, rfl, ic.c, ic.n3, ?_⟩
    walk_at "go"
    refine EvX.fldR ?_; walk_at "go"; refine ⟨F.x, F.C, F.dx, _, _, rfl, FA.mx, rfl, ic.c, ic.n4, ?_⟩
    walk_at "go"
    refine IOp.lstM (FA.m1 o) hst ?_
    walk_at "go"
    refine ⟨_, r, s, rfl, word_counts okr, ?_⟩
    rcases h with ⟨so, hmu, I, h⟩ | ⟨la, ⟨wa, hwa⟩, h⟩
    · have ra := I.met a s hs
      rw [ra.calm so hr']
      walk_at "go"
      refine SvX.for PassesOwn.never rfl (pg_tup (by rfl) (pgs_cons (pg_name (i := 2) sc_Found_go_from.nd rfl (by first | exact .inl rfl | exact .inr rfl)) (pgs_cons (pg_name (i := 3) sc_Found_go_from.nd rfl (by first | exact .inl rfl | exact .inr rfl)) pgs_nil))) ?_
      refine IvX.list ?_
      walk_at "go"
      refine EvX.fldD ?_; walk_at "go"; refine ⟨F.x, F.C, F.dx, _, _, rfl, FA.mx, rfl, ic.c, ic.n1, ?_⟩
      walk_at "go"
      refine EvX.fldD ?_; walk_at "go"; refine ⟨F.x, F.C, F.dx, _, _, rfl, FA.mx, rfl, ic.c, ic.n3, ?_⟩
      walk_at "go"
      refine EvX.fldR ?_; walk_at "go"; refine ⟨F.x, F.C, F.dx, _, _, rfl, FA.mx, rfl, ic.c, ic.n4, ?_⟩
      walk_at "go"
      refine IOp.lstM (FA.m1 o) hst ?_
      walk_at "go"
      refine ⟨_, F.p.rows, r, s, _, a, rfl, hr', okr, by have := ra.flat so; omega, ?_⟩
      walk_at "go"
      rw [List.map_map]
      refine ⟨fun i δ1 M2 => ∃ st1, M2 = F.M M0 .none st1 ∧ FI F.p.rows st1 (fun b => b = a) ∧ st1.mu F.p.rows.length ≤ st.mu F.p.rows.length ∧ st1.stands[a]? = some (some s) ∧ (∀ p ∈ (leads r a s).take i, ∃ g : Nat, p.1 = (g : Int) ∧ st1.stands[g]? = some (some p.2)) ∧
        ∃ x y, δ1 = [some (.raw (.ref F.x)), some (.dat (.int a)), x, y], ⟨st, rfl, I, Nat.le_refl _, hs, fun p hp => (by rw [List.take_zero] at hp; cases hp), none, none, rfl⟩, fun i rr δ1 M2 hi hI => ?_, fun δ1 M2 hI => ?_⟩
      · obtain ⟨st1, rfl, I1, m1, hs1, hl1, x, y, rfl⟩ := hI
        rw [List.getElem?_map] at hi
        cases hq : (leads r a s)[i]? with
        | none =>
          rw [hq] at hi
          cases hi
        | some q =>
          rw [hq] at hi
          obtain rfl : Sd.dat (leadD q) = rr := by simpa using hi
          have hqm : q ∈ leads r a s := List.mem_of_getElem? hq
          obtain ⟨g, hg1, hg2, hg3⟩ := ra.go so hr' hqm
          have hqg : ((g : Int), q.2) ∈ leads r a s := by rw [← hg1]; exact hqm
          obtain ⟨wk, hw1, hw2, hw3, hw4⟩ := I1.walk a s hs1
          have hwx : atI ((st1.walks.map wD).map S0.dat) (a : Int) = some (.dat (.list (wk.map .int))) := atI_nat (by simp [hw1, wD])
          have n60 := pk.many
          have c1 := cnt_le st1.stands
          have l1 := I1.ls
          have l2 := I1.lw
          have tk : (leads r a s).take (i + 1) = (leads r a s).take i ++ [q] := by
            rw [List.take_add_one, hq]
            rfl
          refine ⟨_, _, (TgD.tup rfl (TgsD.cons (TgD.name 2) (TgsD.cons (TgD.name 3) TgsD.nil))), ?_⟩
          rw [show q.1 = (g : Int) from hg1]
          walk_at "go"
          refine EvX.fldD ?_; walk_at "go"; refine ⟨F.x, F.C, F.dx, _, _, rfl, FA.mx, rfl, ic.c, ic.n6, ?_⟩
          walk_at "go"
          refine EvX.meth ic.c (hm _ ic.nm) FC (hr.mono (by decide)) BC ?_
          walk_at "go"
          refine ⟨F.x, _, _, rfl, FA.mx, rfl, ?_⟩
          walk_at "go"
          refine EvX.fldR ?_; walk_at "go"; refine ⟨F.x, F.C, F.dx, _, _, rfl, FA.mx, rfl, ic.c, ic.n5, ?_⟩
          walk_at "go"
          refine IOp.lstM (FA.m2 o) hwx ?_
          walk_at "go"
          have wz : st1.waits.length ≤ 1000 := by
            have : st1.mu F.p.rows.length ≤ 200 := Nat.le_trans m1 hmu
            unfold FSt.mu at this
            omega
          refine ⟨F, M0, st1, g, q.2, wk, rfl, rfl, o, ic, hg2, n60, l1, l2, wz, by omega, ?_⟩
          cases hcur : st1.stands[g]? with
          | none =>
            have := List.getElem?_eq_none_iff.mp hcur
            omega
          | some y =>
            cases y with
            | none =>
              refine .inl ⟨rfl, ?_⟩
              have I2 := I1.put hcur hg3 (walkedTo_more so hw3 hw2 hr' hqg) (by simp) (by rw [List.length_append, List.length_singleton]; omega)
              have keep : ∀ (b : Nat) (t : Stg), st1.stands[b]? = some (some t) → (st1.stands.set g (some q.2))[b]? = some (some t) := fun b t h => set_ne (fun z => by
                subst z
                rw [hcur] at h
                cases h) h
              walk_at "go"
              refine ⟨I2, Nat.le_trans (mu_put hcur l1) m1, keep _ _ hs1, fun p hp => ?_, _, _, rfl⟩
              rw [tk] at hp
              rcases List.mem_append.mp hp with hp | hp
              · obtain ⟨b, e1, e2⟩ := hl1 p hp
                exact ⟨b, e1, keep _ _ e2⟩
              · rw [List.mem_singleton.mp hp]
                exact ⟨g, hg1, set_eq (by omega)⟩
            | some t =>
              have e : t = q.2 := (I1.met g t hcur).uniq so hg3
              subst e
              refine .inr ⟨rfl, ?_⟩
              walk_at "go"
              refine ⟨I1, m1, hs1, fun p hp => ?_, _, _, rfl⟩
              rw [tk] at hp
              rcases List.mem_append.mp hp with hp | hp
              · exact hl1 p hp
              · rw [List.mem_singleton.mp hp]
                exact ⟨g, hg1, hcur⟩
      · obtain ⟨st1, rfl, I1, m1, hs1, hl1, x, y, rfl⟩ := hI
        rw [List.length_map, List.take_length] at hl1
        walk_at "go"
        refine h st1 ⟨I1.ls, I1.lw, I1.met, I1.walk, I1.zero, I1.waits, fun b t r' hb hrb hnw _ p hp => ?_⟩ m1
        by_cases e : b = a
        · subst e
          rw [hs1] at hb
          cases hb
          rw [hr'] at hrb
          cases hrb
          exact hl1 p hp
        · exact I1.closed b t r' hb hrb hnw e p hp
    · rw [la]
      walk_at "go"
      refine SvX.setFld ?_
      walk_at "go"
      refine EvX.fldD ?_; walk_at "go"; refine ⟨F.x, F.C, F.dx, _, _, rfl, FA.mx, rfl, ic.c, ic.n2, ?_⟩
      walk_at "go"
      refine EvX.fldR ?_; walk_at "go"; refine ⟨F.x, F.C, F.dx, _, _, rfl, FA.mx, rfl, ic.c, ic.n5, ?_⟩
      walk_at "go"
      refine IOp.lstM (FA.m2 o) (d := .dat (.list (wa.map .int))) (atI_nat (by simp [hwa, wD])) ?_
      walk_at "go"
      refine ⟨.dat (.tuple [.str "lacks", .str F.p.name, .list (wa.map .int)]), F.x, F.C, F.dx, _, rfl, rfl, FA.mx, ic.c, ic.n6, by exact (by decide : 7 < 1000), ?_⟩
      rw [show putF0 "flaw" (S0.dat (.tuple [.str "lacks", .str F.p.name, .list (wa.map .int)])) (F.fs .none) = F.fs (.tuple [.str "lacks", .str F.p.name, .list (wa.map .int)]) from rfl, FA.sx]
      walk_at "go"
      exact h _
end
section
variable {P : Program} {w : World} {K : PySem.W.Frag} {mg : Str → Option Value} {base : Heap}
def aInit (K : PySem.W.Frag) (mg : Str → Option Value) : ASp := fun rs M P => ∃ (x C dx : Addr) (ps : List Pt) (p : Pt) (k : Nat), rs = [.raw (.ref x), .dat (pgD ps), .dat (.int k)] ∧ M x = some (.ins C dx []) ∧ IsC K mg C ∧ PgOk ps ∧ ps[k]? = some p ∧
  ∀ F : FA, F.x = x → F.C = C → F.dx = dx → F.d = pgD ps → F.p = p → F.Ok → M F.l1 = none → M F.l2 = none → M F.l3 = none →
    ((Sound p.rows ∧ ∀ st, FI p.rows st (fun _ => False) → st.waits = [] → P (.dat .none) (F.M M .none st)) ∨ (Lack0 p.rows ∧ ∀ st z, P (.dat .none) (F.M M (.tuple z) st)))
theorem ne_of_none {M : AM} {a b : Addr} {m : MO} (h : M a = none) (h' : M b = some m) : a ≠ b := fun e => by
  subst e
  rw [h] at h'
  cases h'
/-- a list of Nones -/
theorem lc_nones {X : Cx} {scope : Scope} {pos : Pos} {n : Nat} {ws : List Nat} {δ : Sl} {P : XP} {M1 : AM} {i : Nat} {items : List Sd} (hi : i ∈ ws) (hz : items.length < sizeLine) (hP : ∀ p, M1 p = none → P (.raw (.ref p)) (setM M1 p (.lst ((List.replicate items.length PyData.none).map .dat)))) :
    LcInv X scope [] (.Constant .none n pos) (gName i) ws δ P items M1 := by
  refine ⟨fun i acc M2 => M2 = M1 ∧ acc = (List.replicate i PyData.none).map .dat, ⟨rfl, rfl⟩, hz, fun j r acc M2 hr hI => ?_, fun acc M2 hI => ?_⟩
  · obtain ⟨rfl, rfl⟩ := hI
    refine ⟨_, [i], fun b M3 => b = true ∧ M3 = M2, fun k hk => by rw [List.mem_singleton.mp hk]; exact hi, TgD.name i, ⟨rfl, rfl⟩, fun M3 z => ?_, fun M3 z => by cases z.1⟩
    obtain ⟨_, rfl⟩ := z
    intro s0 H0 C cl fp
    refine EvX.non ?_
    refine ⟨.dat .none, rfl, rfl, ?_⟩
    rw [List.replicate_succ', List.map_append]
    rfl
  · obtain ⟨rfl, rfl⟩ := hI
    exact .inr hP
theorem FA.build {F : FA} {M : AM} {i1 i2 i3 i4 i5 i6 : MO} {st : FSt} (o : F.Ok) :
    setM (setM (setM (setM (setM (setM (setM (setM (setM (setM M F.x i1) F.x i2) F.x i3) F.l1 (.lst ((st.stands.map osD).map .dat))) F.x i4) F.l2 (.lst ((st.walks.map wD).map .dat))) F.x i5) F.x i6) F.l3 (.lst ((st.waits.map PyData.int).map .dat))) F.x (.ins F.C F.dx (F.fs .none)) = F.M M .none st := funext fun a => by
  have h1 := o.x1
  have h2 := o.x2
  have h3 := o.x3
  have h4 := o.y12
  have h5 := o.y13
  have h6 := o.y23
  unfold setM FA.M
  by_cases e0 : a = F.x
  · rw [if_pos e0, if_pos e0]
  · simp only [if_neg e0]
    by_cases e1 : a = F.l1
    · subst e1
      rw [if_neg h5.symm, if_neg h4.symm, if_pos rfl, if_pos rfl]
    · simp only [if_neg e1]
      by_cases e2 : a = F.l2
      · subst e2
        rw [if_neg h6.symm, if_pos rfl, if_pos rfl]
      · simp only [if_neg e2]
theorem FA.build' {F : FA} {M : AM} {i1 i2 i3 i4 i5 i6 : MO} {st : FSt} (o : F.Ok) {L1 L2 L3 : List S0} (a1 : L1 = (st.stands.map osD).map .dat) (a2 : L2 = (st.walks.map wD).map .dat) (a3 : L3 = (st.waits.map PyData.int).map .dat) :
    setM (setM (setM (setM (setM (setM (setM (setM (setM (setM M F.x i1) F.x i2) F.x i3) F.l1 (.lst L1)) F.x i4) F.l2 (.lst L2)) F.x i5) F.x i6) F.l3 (.lst L3)) F.x (.ins F.C F.dx (F.fs .none)) = F.M M .none st := by
  subst a1 a2 a3
  exact FA.build o
def st0 (n : Nat) : FSt := ⟨(List.replicate n none).set 0 (some (0, [])), (List.replicate n none).set 0 (some [0]), [0]⟩
theorem rep_none {n a : Nat} {α : Type} {x : α} (h : (List.replicate n (none : Option α))[a]? = some (some x)) : False := by
  rw [List.getElem?_replicate] at h
  split at h
  · cases h
  · cases h
theorem st0_cnt {n : Nat} (h : 1 ≤ n) : cntS (st0 n).stands = 1 := by
  have e : (List.replicate n (none : Option Stg))[0]? = some none := by rw [List.getElem?_replicate, if_pos (by omega)]
  have c := cnt_put (s := (0, [])) e
  show cntS ((List.replicate n none).set 0 (some (0, []))) = 1
  rw [c]
  unfold cntS
  rw [List.countP_replicate]
  rfl
theorem st0_ok {rows : List Rw} (h1 : 1 ≤ rows.length) : FI rows (st0 rows.length) (fun _ => False) := by
  refine ⟨by simp [st0], by simp [st0], fun a s h => ?_, fun a s h => ?_, set_eq (by simp; omega), fun i hi => ?_, fun a s r h _ hn _ => ?_⟩
  · rcases set_at h with ⟨rfl, e⟩ | ⟨_, h⟩
    · cases e
      exact .zero
    · exact (rep_none h).elim
  · rw [st0_cnt h1]
    rcases set_at h with ⟨rfl, e⟩ | ⟨_, h⟩
    · cases e
      exact ⟨[0], set_eq (by simp; omega), rfl, rfl, Nat.le_refl _⟩
    · exact (rep_none h).elim
  · obtain rfl := List.mem_singleton.mp hi
    exact ⟨0, rfl, (0, []), set_eq (by simp; omega)⟩
  · rcases set_at h with ⟨rfl, e⟩ | ⟨_, h⟩
    · exact absurd (List.mem_singleton.mpr rfl) hn
    · exact (rep_none h).elim
theorem FI.popd {rows : List Rw} {st : FSt} {a : Nat} {rest : List Int} (I : FI rows st (fun _ => False)) (e : st.waits = (a : Int) :: rest) : FI rows { st with waits := rest } (fun b => b = a) :=
  ⟨I.ls, I.lw, I.met, I.walk, I.zero, fun i hi => I.waits i (by rw [e]; exact List.mem_cons_of_mem _ hi), fun b s r h hr hn hx p hp => I.closed b s r h hr (fun z => by
    rw [e] at z
    rcases List.mem_cons.mp z with z | z
    · exact hx (Int.ofNat.inj z)
    · exact hn z) id p hp⟩
theorem df_init {f f1 : Addr} {fd fd1 : FuncData} (T : Tx w K mg) (D : FnS K "__init__" "Found.__init__" st_Found_init f fd) (hm' : ∀ C, mg "Found" = some (.ref C) → Meth K C "go_from" f1) (FC : FnOk P w K mg base CX0 3 f1 fd1 ["self", "at"] (conc K (aGo K mg))) (BC : Binds K fd1 ["self", "at"] []) :
    FnOk P w K mg base CX0 5 f fd ["self", "program", "number"] (conc K (aInit K mg)) := by
  refine fnok_of D sc_Found_init (fun rs M P h => ?_) (fun cdv A outer s H E hr rs M PP h => ?_)
  · obtain ⟨_, _, _, _, _, _, rfl, _⟩ := h
    rfl
  · obtain ⟨x, C, dx, ps, p, k, rfl, hx, ic, ok, hk, h⟩ := h
    have pk := ok.parts p (List.mem_of_getElem? hk)
    have hkx : atI (ps.map Pt.d) (k : Int) = some p.d := atI_map hk
    have c_BEGIN := T.c_BEGIN
    walk_at "go"
    refine SvX.setFld ?_
    walk_at "go"
    refine ⟨.dat (pgD ps), x, C, dx, _, rfl, rfl, hx, ic.c, ic.n1, by decide, ?_⟩
    walk_at "go"
    refine SvX.asgM (pg_tup (by rfl) (pgs_cons (pg_fld pe_can) (pgs_cons (pg_name (i := 3) sc_Found_init.nd rfl (.inl rfl)) (pgs_cons (pg_fld pe_can) pgs_nil)))) ?_
    walk_at "go"
    refine TgM.tup rfl (TgsM.cons (TgM.fld (r := .dat (.str p.name)) ?_))
    walk_at "go"
    refine ⟨x, C, dx, _, rfl, setM_same, ic.c, ic.n2, by exact (by decide : 1 < 1000), ?_⟩
    refine TgsM.cons (TgM.name 3 (TgsM.cons (TgM.fld (r := .dat (.tuple (p.rows.map Rw.d))) ?_)))
    walk_at "go"
    refine ⟨x, C, dx, _, rfl, setM_same, ic.c, ic.n3, by exact (by decide : 2 < 1000), ?_⟩
    refine TgsM.nil ?_
    walk_at "go"
    refine SvX.setFld ?_
    refine EvX.lc (g := (gName 4)) rfl sc_Found_init.nd (blkOk_by (N := n_Found_init) (sc := defScope st_Found_init) (own := [("row", 4)]) (by decide +kernel)) (fun _ _ _ _ _ => (pg_name (i := 4) sc_Found_init.nd rfl (by first | exact .inl rfl | exact .inr rfl))) ?_
    refine IvX.tup ?_
    refine EvX.fldD ?_
    walk_at "go"
    refine ⟨x, C, dx, _, _, rfl, setM_same, rfl, ic.c, ic.n3, ?_⟩
    walk_at "go"
    have n60 := pk.many
    refine lc_nones (by decide) (size_big (by simp; omega)) (fun l1 hl1 => ?_)
    have x1 := ne_of_none hl1 setM_same
    walk_at "go"
    refine ⟨.raw (.ref l1), x, C, dx, _, rfl, rfl, (setM_ne x1.symm).trans setM_same, ic.c, ic.n4, by exact (by decide : 3 < 1000), ?_⟩
    walk_at "go"
    refine SvX.setFld ?_
    refine EvX.lc (g := (gName 4)) rfl sc_Found_init.nd (blkOk_by (N := n_Found_init) (sc := defScope st_Found_init) (own := [("row", 4)]) (by decide +kernel)) (fun _ _ _ _ _ => (pg_name (i := 4) sc_Found_init.nd rfl (by first | exact .inl rfl | exact .inr rfl))) ?_
    refine IvX.tup ?_
    refine EvX.fldD ?_
    walk_at "go"
    refine ⟨x, C, dx, _, _, rfl, setM_same, rfl, ic.c, ic.n3, ?_⟩
    walk_at "go"
    refine lc_nones (by decide) (size_big (by simp; omega)) (fun l2 hl2 => ?_)
    have x2 := ne_of_none hl2 setM_same
    have y12 := ne_of_none hl2 ((setM_ne x1).trans setM_same)
    walk_at "go"
    refine ⟨.raw (.ref l2), x, C, dx, _, rfl, rfl, (setM_ne x2.symm).trans setM_same, ic.c, ic.n5, by exact (by decide : 4 < 1000), ?_⟩
    walk_at "go"
    refine SvX.setFld ?_
    walk_at "go"
    refine ⟨.dat .none, x, C, dx, _, rfl, rfl, setM_same, ic.c, ic.n6, by exact (by decide : 5 < 1000), ?_⟩
    walk_at "go"
    refine SvX.setFld ?_
    refine EvX.lstM ?_
    walk_at "go"
    refine ⟨[.dat (.int 0)], rfl, sz1, fun l3 hl3 => ?_⟩
    have x3 := ne_of_none hl3 setM_same
    have y23 := ne_of_none hl3 (((setM_ne x2).trans (setM_ne x2)).trans setM_same)
    have y13 := ne_of_none hl3 ((((setM_ne x1).trans (setM_ne x1)).trans (setM_ne y12.symm)).trans ((setM_ne x1).trans setM_same))
    walk_at "go"
    refine ⟨.raw (.ref l3), x, C, dx, _, rfl, rfl, (setM_ne x3.symm).trans setM_same, ic.c, ic.n7, by exact (by decide : 6 < 1000), ?_⟩
    generalize hM1 : setM (setM _ l3 _) x _ = M1
    have n1 := pk.some_
    let F : FA := ⟨x, l1, l2, l3, C, dx, pgD ps, p⟩
    have o : F.Ok := ⟨x1, x2, x3, y12, y13, y23⟩
    have hz1 : M l1 = none := by
      have z := hl1
      rw [setM_ne x1, setM_ne x1, setM_ne x1] at z
      exact z
    have hz2 : M l2 = none := by
      have z := hl2
      rw [setM_ne x2, setM_ne y12, setM_ne x2, setM_ne x2, setM_ne x2] at z
      exact z
    have hz3 : M l3 = none := by
      have z := hl3
      rw [setM_ne x3, setM_ne x3, setM_ne y23, setM_ne x3, setM_ne y13, setM_ne x3, setM_ne x3, setM_ne x3] at z
      exact z
    have h := h F rfl rfl rfl rfl rfl o hz1 hz2 hz3
    have eM : M1 = F.M M .none ⟨List.replicate p.rows.length none, List.replicate p.rows.length none, [0]⟩ := by
      rw [← hM1]
      exact FA.build' (F := F) o (by simp [osD]) (by simp [wD]) rfl
    rw [eM]
    clear hM1 eM M1
    walk_at "go"
    refine SvX.setIx ?_
    walk_at "go"
    refine EvX.fldR ?_; walk_at "go"; refine ⟨F.x, F.C, F.dx, _, _, rfl, FA.mx, rfl, ic.c, ic.n4, ?_⟩
    walk_at "go"
    refine ⟨l1, _, 0, 0, .dat (stD (0, [])), rfl, FA.m1 o, rfl, ixN_n (by simp; omega), rfl, ?_⟩
    rw [← List.map_set (f := S0.dat) (a := stD (0, [])), show stD (0, []) = osD (some (0, [])) from rfl, ← List.map_set (f := osD), FA.s1 o]
    walk_at "go"
    refine SvX.setIx ?_
    walk_at "go"
    refine EvX.fldR ?_; walk_at "go"; refine ⟨F.x, F.C, F.dx, _, _, rfl, FA.mx, rfl, ic.c, ic.n5, ?_⟩
    walk_at "go"
    refine ⟨l2, _, 0, 0, .dat (.list ([(0 : Int)].map .int)), rfl, FA.m2 o, rfl, ixN_n (by simp; omega), rfl, ?_⟩
    rw [← List.map_set (f := S0.dat), show PyData.list ([(0 : Int)].map .int) = wD (some [0]) from rfl, ← List.map_set (f := wD), FA.s2 o]
    rw [show FSt.mk _ _ _ = st0 p.rows.length from rfl]
    walk_at "go"
    rcases h with ⟨so, h⟩ | ⟨⟨r0, hr0, la⟩, h⟩
    · refine SvX.whileN PassesOwn.never (fun m δ1 M1 => δ1 = _ ∧ ∃ st, M1 = F.M M .none st ∧ FI p.rows st (fun _ => False) ∧ st.mu p.rows.length ≤ 200 ∧ m = st.mu p.rows.length) ⟨_, rfl, st0 p.rows.length, rfl, st0_ok n1, ?_, rfl⟩ (fun m δ1 M1 hI => ?_)
      · unfold FSt.mu
        rw [st0_cnt n1]
        show 2 * (p.rows.length - 1) + 1 ≤ 200
        omega
      · obtain ⟨rfl, st, rfl, I, hm, rfl⟩ := hI
        walk_at "go"
        refine EvX.fldR ?_; walk_at "go"; refine ⟨F.x, F.C, F.dx, _, _, rfl, FA.mx, rfl, ic.c, ic.n7, ?_⟩
        walk_at "go"
        refine VOp.neM hr.units (FA.m3 o) (shaped_ints _) shaped_nil ?_
        rw [eqv_nilL]
        cases hw : st.waits with
        | nil =>
          walk_at "go"
          exact h st I hw
        | cons i rest =>
          walk_at "go"
          refine EvX.fldD ?_; walk_at "go"; refine ⟨F.x, F.C, F.dx, _, _, rfl, FA.mx, rfl, ic.c, ic.n6, ?_⟩
          walk_at "go"
          obtain ⟨a, rfl, s', hs⟩ := I.waits i (by rw [hw]; exact List.mem_cons_self)
          have hal : a < p.rows.length := (I.met a s' hs).lt so n1
          have hw3 : F.M M .none st l3 = some (.lst (((a : Int) :: rest).map PyData.int |>.map S0.dat)) := by rw [← hw]; exact FA.m3 o
          refine EvX.meth ic.c (hm' _ ic.nm) FC (hr.mono (by decide)) BC ?_
          walk_at "go"
          refine ⟨x, _, _, rfl, FA.mx, rfl, ?_⟩
          walk_at "go"
          refine EvX.popA ?_
          refine EvX.fldR ?_; walk_at "go"; refine ⟨F.x, F.C, F.dx, _, _, rfl, FA.mx, rfl, ic.c, ic.n7, ?_⟩
          refine ⟨⟨l3, _, rfl, FA.m3 o⟩, ?_⟩
          walk_at "go"
          refine MOp.popAt (j := 0) (r := .dat (.int a)) hw3 (by decide) (by decide) (by simp [seqIndex?]) rfl ?_
          have e3 : (((a : Int) :: rest).map PyData.int |>.map S0.dat).eraseIdx 0 = (rest.map PyData.int).map S0.dat := rfl
          rw [e3, FA.s3 o]
          walk_at "go"
          have hmu : ({ st with waits := rest } : FSt).mu p.rows.length + 1 = st.mu p.rows.length := by
            unfold FSt.mu
            rw [hw, List.length_cons]
            rfl
          refine ⟨F, M, { st with waits := rest }, a, s', p.rows[a], rfl, rfl, o, ic, pk, by simp [F, hal], hs, I.ls, I.lw, .inl ⟨so, by show FSt.mu _ p.rows.length ≤ 200; omega, I.popd hw, fun st' I' hm' => ?_⟩⟩
          have hm' : st'.mu p.rows.length ≤ ({ st with waits := rest } : FSt).mu p.rows.length := hm'
          walk_at "go"
          exact ⟨st'.mu p.rows.length, by omega, rfl, st', rfl, I', by omega, rfl⟩
    · refine SvX.whileN PassesOwn.never (fun m δ1 M1 => δ1 = _ ∧ ((m = 1 ∧ M1 = F.M M .none (st0 p.rows.length)) ∨ (m = 0 ∧ ∃ st z, M1 = F.M M (.tuple z) st ∧ ∀ i ∈ st.waits, 0 ≤ i))) ⟨1, rfl, .inl ⟨rfl, rfl⟩⟩ (fun m δ1 M1 hI => ?_)
      obtain ⟨rfl, ⟨rfl, rfl⟩ | ⟨rfl, st, z, rfl, _⟩⟩ := hI
      · walk_at "go"
        refine EvX.fldR ?_; walk_at "go"; refine ⟨F.x, F.C, F.dx, _, _, rfl, FA.mx, rfl, ic.c, ic.n7, ?_⟩
        walk_at "go"
        refine VOp.neM hr.units (FA.m3 o) (shaped_ints _) shaped_nil ?_
        walk_at "go"
        refine EvX.fldD ?_; walk_at "go"; refine ⟨F.x, F.C, F.dx, _, _, rfl, FA.mx, rfl, ic.c, ic.n6, ?_⟩
        walk_at "go"
        refine EvX.meth ic.c (hm' _ ic.nm) FC (hr.mono (by decide)) BC ?_
        walk_at "go"
        refine ⟨x, _, _, rfl, FA.mx, rfl, ?_⟩
        walk_at "go"
        refine EvX.popA ?_
        refine EvX.fldR ?_; walk_at "go"; refine ⟨F.x, F.C, F.dx, _, _, rfl, FA.mx, rfl, ic.c, ic.n7, ?_⟩
        refine ⟨⟨l3, _, rfl, FA.m3 o⟩, ?_⟩
        walk_at "go"
        refine MOp.popAt (j := 0) (r := .dat (.int 0)) (FA.m3 o) (by decide) (by decide) (by simp [seqIndex?, st0]) rfl ?_
        have e3 : (((st0 p.rows.length).waits.map PyData.int).map S0.dat).eraseIdx 0 = (([] : List Int).map PyData.int).map S0.dat := rfl
        rw [e3, FA.s3 o]
        walk_at "go"
        refine ⟨F, M, { st0 p.rows.length with waits := [] }, 0, (0, []), r0, rfl, rfl, o, ic, pk, hr0, (st0_ok n1).zero, by simp [st0, F], by simp [st0, F], .inr ⟨la, ⟨[0], set_eq (by simp; omega)⟩, fun z => ?_⟩⟩
        walk_at "go"
        exact ⟨0, by decide, rfl, .inr ⟨rfl, _, z, rfl, fun i hi => by cases hi⟩⟩
      · walk_at "go"
        refine EvX.fldR ?_; walk_at "go"; refine ⟨F.x, F.C, F.dx, _, _, rfl, FA.mx, rfl, ic.c, ic.n7, ?_⟩
        walk_at "go"
        refine VOp.neM hr.units (FA.m3 o) (shaped_ints _) shaped_nil ?_
        rw [eqv_nilL]
        cases hw : st.waits with
        | nil =>
          walk_at "go"
          exact h st z
        | cons i rest =>
          walk_at "go"
          refine EvX.fldD ?_; walk_at "go"; refine ⟨F.x, F.C, F.dx, _, _, rfl, FA.mx, rfl, ic.c, ic.n6, ?_⟩
          walk_at "go"
          exact h st z
end
section
variable {P : Program} {w : World} {K : PySem.W.Frag} {mg : Str → Option Value} {base : Heap}
def FoundKit (P : Program) (w : World) (K : PySem.W.Frag) (mg : Str → Option Value) (base : Heap) : Prop := ∃ C f0 d0, mg "Found" = some (.ref C) ∧ IsC K mg C ∧ Mk K C f0 ∧ FnOk P w K mg base CX0 5 f0 d0 ["self", "program", "number"] (conc K (aInit K mg)) ∧ Binds K d0 ["self", "program", "number"] []
theorem found_kit (T : Tx w K mg) (D_is_lacking : Df P w K mg base 2 "is_lacking" ["program", "row", "standing"] aLack) (D_leads_of : Df P w K mg base 2 "leads_of" ["program", "rows", "at", "standing"] aLeads) : FoundKit P w K mg base := by
  obtain ⟨C, f0, f1, f2, d0, d1, d2, e1, e2, e3, e4, e5, e6, e7, e8, n1, n2, n3, n4, n5, n6, n7⟩ := T.found
  have u : ∀ C', mg "Found" = some (.ref C') → C' = C := fun C' e => by
    rw [e1] at e
    cases e
    rfl
  have k2 : FnOk P w K mg base CX0 1 f2 d2 ["self", "walk", "goal", "standing"] (conc K (aCome K mg)) := df_come T e8
  have b2 : Binds K d2 ["self", "walk", "goal", "standing"] [] := FunD.bindsN e8 fun _ _ _ _ _ _ us hl => match us, hl with | [_, _, _, _], _ => rfl
  have k1 : FnOk P w K mg base CX0 3 f1 d1 ["self", "at"] (conc K (aGo K mg)) := df_go T e7 (fun C' e => by rw [u C' e]; exact e5) k2 b2 D_is_lacking D_leads_of
  have b1 : Binds K d1 ["self", "at"] [] := FunD.bindsN e7 fun _ _ _ _ _ _ us hl => match us, hl with | [_, _], _ => rfl
  exact ⟨C, f0, d0, e1, ⟨e1, e2, n1, n2, n3, n4, n5, n6, n7⟩, e3, df_init T e6 (fun C' e => by rw [u C' e]; exact e4) k1 b1, FunD.bindsN e6 fun _ _ _ _ _ _ us hl => match us, hl with | [_, _, _], _ => rfl⟩
def FoundP (K : PySem.W.Frag) (mg : Str → Option Value) (M : AM) (P : XP) : List Sd → AM → Prop := fun rs M1 => ∃ (ps : List Pt) (p : Pt) (k : Nat), rs = [.dat (pgD ps), .dat (.int k)] ∧ M1 = M ∧ PgOk ps ∧ ps[k]? = some p ∧
  ((Sound p.rows ∧ ∀ C stands walks, IsC K mg C → FoundOk p.rows stands walks → P (.obj C (foundFs (pgD ps) p stands walks)) M) ∨ (Lack0 p.rows ∧ ∀ (C : Addr) (fs : List (Str × S0)) (z : List PyData), IsC K mg C → fs.lookup ("flaw" : Str) = some (S0.dat (.tuple z)) → P (.obj C fs) M))
theorem AvX.mono {X : Cx} {es : List Expr} {δ : Sl} {M : AM} {P Q : List Sd → AM → Prop} (h : AvX X es δ M P) (i : ∀ rs M1, P rs M1 → Q rs M1) : AvX X es δ M Q := fun σ G H R s l k => h σ G H R s l fun vs rs M' G' H' s' f' sv n => k vs rs M' G' H' s' f' sv (i rs M' n)
/-- all that Found has made stays -/
theorem found_fix {K : PySem.W.Frag} {M : AM} {F : FA} {fl : PyData} {st : FSt} {m0 : MO} (o : F.Ok) (hx : M F.x = none) (h1 : setM M F.x m0 F.l1 = none) (h2 : setM M F.x m0 F.l2 = none) (h3 : setM M F.x m0 F.l3 = none) :
    (∀ a m, M a = some m → ∃ m', F.M (setM M F.x m0) fl st a = some m') ∧ outM (F.M (setM M F.x m0) fl st) (fun a => M a = none) = M ∧
    ∀ v G', Had K (F.M (setM M F.x m0) fl st) (fun a => M a = none) G' → SdV K G' v (.raw (.ref F.x)) → SdV K G' v (.obj F.C [("program", .dat F.d), ("called", .dat (.str F.p.name)), ("listing", .dat (.tuple (F.p.rows.map Rw.d))), ("stands", .dat (.list (st.stands.map osD))), ("walks", .dat (.list (st.walks.map wD))), ("flaw", .dat fl), ("waits", .dat (.list (st.waits.map .int)))]) := by
  rw [setM_ne o.x1] at h1
  rw [setM_ne o.x2] at h2
  rw [setM_ne o.x3] at h3
  have same : ∀ a m, M a = some m → F.M (setM M F.x m0) fl st a = some m := fun a m e => by
    have q0 : a ≠ F.x := fun z => by
      rw [z, hx] at e
      cases e
    have q1 : a ≠ F.l1 := fun z => by
      rw [z, h1] at e
      cases e
    have q2 : a ≠ F.l2 := fun z => by
      rw [z, h2] at e
      cases e
    have q3 : a ≠ F.l3 := fun z => by
      rw [z, h3] at e
      cases e
    unfold FA.M
    rw [if_neg q0, if_neg q1, if_neg q2, if_neg q3, setM_ne q0]
    exact e
  refine ⟨fun a m e => ⟨m, same a m e⟩, outM_back same, fun v G' had e => ?_⟩
  rw [show v = .ref F.x from e]
  refine had.obj hx FA.mx ?_
  refine .cons ⟨rfl, fun v h => h⟩ (.cons ⟨rfl, fun v h => h⟩ (.cons ⟨rfl, fun v h => h⟩ (.cons ⟨rfl, fun v h => ?_⟩ (.cons ⟨rfl, fun v h => ?_⟩ (.cons ⟨rfl, fun v h => h⟩ (.cons ⟨rfl, fun v h => ?_⟩ .nil))))))
  · rw [show v = .ref F.l1 from h]
    exact had.lst h1 (FA.m1 o)
  · rw [show v = .ref F.l2 from h]
    exact had.lst h2 (FA.m2 o)
  · rw [show v = .ref F.l3 from h]
    exact had.lst h3 (FA.m3 o)
theorem EvX.found {X : Cx} {e : Expr} {es : List Expr} {δ : Sl} {M : AM} {P : XP} {pos p : Pos} (kit : FoundKit X.prog X.w X.K X.mg X.base) (hr : Room 6 X.A) (h : AvX X (e :: es) δ M (FoundP X.K X.mg M P)) (hg : Gl X "Found" := by rfl)
    (he : starEach (e :: es) X.env = (false, eval e X.env) :: starEach es X.env := by rfl) (hpl : (backTo pos (starEach es X.env)).any (·.1) = false := by rfl) : EvX X (.Call (.Name "Found" p) (e :: es) [] pos) δ M P := by
  obtain ⟨C, f0, d0, hC, ic, mk, F0, B0⟩ := kit
  refine EvX.fixd ?_
  refine EvX.make mk F0 hr hC B0 (AvX.mono h fun rs M1 hh q dx hq => ?_) hg (by decide) he hpl
  obtain ⟨ps, p, k, rfl, rfl, ok, hk, hh⟩ := hh
  refine ⟨q, C, dx, ps, p, k, rfl, setM_same, ic, ok, hk, fun F e1 e2 e3 e4 e5 o h1 h2 h3 => ?_⟩
  subst e1 e2 e3 e5
  rcases hh with ⟨so, hh⟩ | ⟨la, hh⟩
  · refine .inl ⟨so, fun st I hw => ⟨rfl, ?_⟩⟩
    obtain ⟨z1, z2, z3⟩ := found_fix (K := X.K) (fl := .none) (st := st) o hq h1 h2 h3
    have pk := ok.parts F.p (List.mem_of_getElem? hk)
    refine ⟨z1, _, z3, ?_⟩
    rw [z2, hw]
    have := hh F.C st.stands st.walks ic (I.done so pk.some_ pk.many hw)
    unfold foundFs at this
    rw [← e4] at this
    exact this
  · refine .inr ⟨la, fun st z => ⟨rfl, ?_⟩⟩
    obtain ⟨z1, z2, z3⟩ := found_fix (K := X.K) (fl := .tuple z) (st := st) o hq h1 h2 h3
    refine ⟨z1, _, z3, ?_⟩
    rw [z2]
    exact hh F.C _ z ic rfl
theorem EvX.fldOD {X : Cx} {e : Expr} {δ : Sl} {M : AM} {P : XP} {pos : Pos} {f : Str} (h : EvX X e δ M fun r M1 => ∃ C fs d, r = .obj C fs ∧ fs.lookup f = some (.dat d) ∧ Cls X.K C ∧ NoAttr X.K C f ∧ P (.dat d) M1) (hb : attributeBase e f X.env (eval e X.env) = eval e X.env := by rfl) : EvX X (.Attribute e f pos) δ M P :=
  EvX.fldO (fun σ G H Q s l k => h σ G H Q s l fun v r M' G' H' s' f' sv n => k v r M' G' H' s' f' sv (by
    obtain ⟨C, fs, d, e1, e2, e4, e5, e6⟩ := n
    exact ⟨C, fs, .dat d, e1, e2, e4, e5, e6⟩)) hb
end
section
variable {P : Program} {w : World} {K : PySem.W.Frag} {mg : Str → Option Value} {base : Heap}
theorem df_is_whole (T : Tx w K mg) : Df P w K mg base 1 "is_whole" ["thing"] aIsWhole := by
  refine df_mk T.d_is_whole sc_is_whole (fun rs M P h => ?_) (fun _ _ _ _ _ _ us hl => match us, hl with | [_], _ => rfl) fun f cdv A outer s H E hr rs M PP h => ?_
  · obtain ⟨_, rfl, _⟩ := h
    rfl
  · obtain ⟨d, rfl, h⟩ := h
    have b_isinstance := T.b_isinstance; have b_int := T.b_int; have b_bool := T.b_bool
    walk_at "go"
    cases d <;> walk_at "go" <;> exact h
theorem df_is_worth (T : Tx w K mg) (D_is_whole : Df P w K mg base 1 "is_whole" ["thing"] aIsWhole) : Df P w K mg base 2 "is_worth" ["thing"] aIsWorth := by
  refine df_mk T.d_is_worth sc_is_worth (fun rs M P h => ?_) (fun _ _ _ _ _ _ us hl => match us, hl with | [_], _ => rfl) fun f cdv A outer s H E hr rs M PP h => ?_
  · obtain ⟨_, rfl, _⟩ := h
    rfl
  · obtain ⟨i, rfl, h1, h2, h⟩ := h
    have b_abs := T.b_abs
    have c_MOST_WORTH := T.c_MOST_WORTH
    walk_at "go"
    refine ⟨_, rfl, ?_⟩
    walk_at "go"
    have e : decide ((if i < 0 then -i else i) ≤ (1000000000000 : Int)) = true := by
      apply decide_eq_true
      split <;> omega
    rw [e]
    exact h
theorem df_is_name (T : Tx w K mg) : Df P w K mg base 1 "is_name" ["thing"] aIsName := by
  refine df_mk T.d_is_name sc_is_name (fun rs M P h => ?_) (fun _ _ _ _ _ _ us hl => match us, hl with | [_], _ => rfl) fun f cdv A outer s H E hr rs M PP h => ?_
  · obtain ⟨_, rfl, _⟩ := h
    rfl
  · obtain ⟨z, rfl, ⟨h1, h2, h3, _⟩, h⟩ := h
    have b_isinstance := T.b_isinstance; have b_str := T.b_str; have b_len := T.b_len; have b_all := T.b_all
    have c_MOST_LETTERS := T.c_MOST_LETTERS; have c_LETTERS := T.c_LETTERS
    walk_at "go"
    refine COp.lenS (Nat.le_trans h2 (by decide)) ?_
    walk_at "go"
    rw [decide_eq_true (by omega)]
    walk_at "go"
    rw [decide_eq_true (by omega)]
    walk_at "go"
    refine EvX.lc (g := (gName 1)) rfl sc_is_name.nd (blkOk_by (N := n_is_name) (sc := defScope st_is_name) (own := [("letter", 1)]) (by decide +kernel)) (fun _ _ _ _ _ => (pg_name (i := 1) sc_is_name.nd rfl (by first | exact .inl rfl | exact .inr rfl))) ?_
    refine IvX.str ?_
    walk_at "go"
    refine lcMapA 1 _ (fun c => .dat (.str ⟨#[c]⟩)) (fun _ => .bool true) (size_big (by simp [Str.length] at *; omega)) (by decide) (fun c hc => ?_) ?_
    · intro s0 H0 C cl fp
      walk_at "go"
      refine VOp.inSign ?_
      exact ⟨rfl, by rw [decide_eq_true (h3 c hc)]⟩
    · walk_at "go"
      exact h
end
section
variable {P : Program} {w : World} {K : PySem.W.Frag} {mg : Str → Option Value} {base : Heap}
theorem mem_strs {w : Str} {ws : List Str} (h : w ∈ ws) : inD (.str w) (ws.map .str) = true := by
  rw [inD_str, decide_eq_true h]
theorem nmem_strs {w : Str} {ws : List Str} (h : w ∉ ws) : inD (.str w) (ws.map .str) = false := by
  rw [inD_str, decide_eq_false h]
theorem shaped_tup {ds : List PyData} (h1 : ∀ d ∈ ds, d.canLay0 = true) (h2 : ∀ d ∈ ds, d.depth ≤ 8) : SeqAt.shaped (.tuple ds) = true := by
  unfold SeqAt.shaped
  have e1 : (PyData.tuple ds).canLay0 = true := by
    simp only [PyData.canLay0]
    exact layAll ds h1
  have e2 : (PyData.tuple ds).depth ≤ 64 := by
    have h := depAll ds h2
    simp only [PyData.depth]
    omega
  rw [e1, decide_eq_true e2]
  rfl
theorem word_ok {n a : Nat} {r : Rw} (h : RwOk n a r) : PyData.strOk r.word = true :=
  (by decide +kernel : ∀ w ∈ hCounts.map (·.1), PyData.strOk w = true) _ (word_counts h)
theorem shaped_rw {n a : Nat} {r : Rw} (h : RwOk n a r) : SeqAt.shaped r.d = true := by
  have hw := word_ok h
  refine shaped_tup (fun d hd => ?_) (fun d hd => ?_)
  · rcases List.mem_cons.mp hd with rfl | hd
    · simpa [PyData.canLay0] using hw
    · cases r <;> simp [Rw.rest] at hd <;> subst hd <;> simp [PyData.canLay0]
      exact h.2.2.2.2
  · rcases List.mem_cons.mp hd with rfl | hd
    · simp [PyData.depth]
    · cases r <;> simp [Rw.rest] at hd <;> subst hd <;> simp [PyData.depth]
theorem rw_some (r : Rw) : PyData.eqv r.d (.tuple []) = false := by simp [PyData.eqv, PyData.eqvAll]
/-- are_unlike_names, and its two calls by keywords -/
theorem ex_unl (T : Tx w K mg) (D_is_name : Df P w K mg base 1 "is_name" ["thing"] aIsName) : UnlOk P w K mg base := by
  obtain ⟨f, fd, F, g⟩ := T.d_are_unlike_names
  refine ⟨f, fd, ?_, g, F.kp, ?_, ?_⟩
  · refine fnok_of F sc_are_unlike_names (fun rs M P h => ?_) (fun cdv A outer s H E hr rs M PP h => ?_)
    · obtain ⟨_, _, _, rfl, _⟩ := h
      rfl
    · obtain ⟨zs, most, least, rfl, h1, h2, h3, h4, h5, h⟩ := h
      have b_isinstance := T.b_isinstance; have b_tuple := T.b_tuple; have b_len := T.b_len; have b_all := T.b_all; have b_set := T.b_set
      walk_at "go"
      rw [List.length_map, decide_eq_true h3]
      walk_at "go"
      rw [decide_eq_true h4]
      walk_at "go"
      refine EvX.lc rfl sc_are_unlike_names.nd (blkOk_by (N := n_are_unlike_names) (sc := defScope st_are_unlike_names) (own := [("one", 3)]) (by decide +kernel)) (fun _ _ _ _ _ => (pg_name (i := 3) sc_are_unlike_names.nd rfl (.inl rfl))) ?_
      refine IvX.tup ?_
      walk_at "go"
      rw [List.map_map]
      refine lcMapA 3 zs _ (fun _ => .bool true) (size_big (by omega)) (by decide) (fun z hz => ?_) ?_
      · intro s0 H0 C cl fp
        walk_at "go"
        exact ⟨z, rfl, h1 z hz, rfl, rfl⟩
      · walk_at "go"
        refine ⟨h2, by omega, ?_⟩
        walk_at "go"
        rw [List.length_map, decide_eq_true rfl]
        exact h
  · have z := FunD.kbinds0 (ps := ["thing", "most", "least"]) F 1 ["most"] [("least", .int 0)] (fun vs mz zs => vs ++ zs ++ mz) (by simp) (fun q h => h) (fun h1 h2 h3 => (h1.append h3).append h2) (fun D doc pm an cdv ct us mv ws h1 h2 h3 => by
      match us, mv, ws, h1, h2, h3 with
      | [u], [m], [v], _, _, _ => exact ⟨_, _, _, _, _, _, rfl, rfl, rfl⟩)
    exact z
  · have z := FunD.kbinds0 (ps := ["thing", "most", "least"]) F 1 ["most", "least"] [] (fun vs mz zs => vs ++ zs) (by simp) (fun q h => by cases h) (fun h1 h2 h3 => h1.append h3) (fun D doc pm an cdv ct us mv ws h1 h2 h3 => by
      match us, mv, ws, h1, h2, h3 with
      | [u], [], [v, x], _, _, _ => exact rfl)
    exact z
theorem df_is_led_to (T : Tx w K mg) (D_is_whole : Df P w K mg base 1 "is_whole" ["thing"] aIsWhole) : Df P w K mg base 2 "is_led_to" ["thing", "at", "rows"] aIsLed := by
  refine df_mk T.d_is_led_to sc_is_led_to (fun rs M P h => ?_) (fun _ _ _ _ _ _ us hl => match us, hl with | [_, _, _], _ => rfl) fun f cdv A outer s H E hr rs M PP h => ?_
  · obtain ⟨_, _, _, _, rfl, _⟩ := h
    rfl
  · obtain ⟨z, g, a, rows, rfl, h1, h2, h3, h⟩ := h
    have b_len := T.b_len
    walk_at "go"
    refine SvX.asg (pg_tup (by rfl) (pgs_cons (pg_name (i := 3) sc_is_led_to.nd rfl (by first | exact .inl rfl | exact .inr rfl)) (pgs_cons (pg_name (i := 4) sc_is_led_to.nd rfl (by first | exact .inl rfl | exact .inr rfl)) pgs_nil))) ?_
    walk_at "go"
    refine ⟨_, _, (TgD.tup rfl (TgsD.cons (TgD.name 3) (TgsD.cons (TgD.name 4) TgsD.nil))), ?_⟩
    walk_at "go"
    refine ⟨_, rfl, ?_⟩
    walk_at "go"
    rw [decide_eq_true h1]
    walk_at "go"
    rw [List.length_map, decide_eq_true h2]
    walk_at "go"
    by_cases e : z = "try"
    · rw [decide_eq_true e]
      walk_at "go"
      rw [decide_eq_false (h3 e)]
      exact h
    · rw [decide_eq_false e]
      walk_at "go"
      exact h
theorem df_is_row (T : Tx w K mg) (D_is_worth : Df P w K mg base 2 "is_worth" ["thing"] aIsWorth) (D_is_name : Df P w K mg base 1 "is_name" ["thing"] aIsName) (D_is_led_to : Df P w K mg base 2 "is_led_to" ["thing", "at", "rows"] aIsLed) : Df P w K mg base 3 "is_row" ["thing", "at", "rows", "called"] aIsRow := by
  refine df_mk T.d_is_row sc_is_row (fun rs M P h => ?_) (fun _ _ _ _ _ _ us hl => match us, hl with | [_, _, _, _], _ => rfl) fun f cdv A outer s H E hr rs M PP h => ?_
  · obtain ⟨_, _, _, _, rfl, _⟩ := h
    rfl
  · obtain ⟨r, a, rows, called, rfl, ok, h⟩ := h
    have b_isinstance := T.b_isinstance; have b_tuple := T.b_tuple; have b_str := T.b_str; have b_len := T.b_len
    have c_ALONE := T.c_ALONE; have c_LEADING := T.c_LEADING; have c_NAMED := T.c_NAMED
    walk_at "go"
    refine VOp.eq hr.units (shaped_rw ok) (shaped_gs []) ?_
    rw [rw_some]
    walk_at "go"
    refine VOp.inStrs aloneL ?_
    refine ⟨_, rfl, ?_⟩
    cases r with
    | al z =>
      rw [decide_eq_true (show (Rw.al z).word ∈ aloneL from ok)]
      walk_at "go"
      exact h
    | put i =>
      rw [decide_eq_false (show (Rw.put i).word ∉ aloneL by show ("put" : Str) ∉ aloneL; decide +kernel)]
      walk_at "go"
      exact ⟨i, rfl, ok.1, ok.2, h⟩
    | ld z g =>
      have q : ∀ z ∈ leadL, z ∉ aloneL ∧ z ≠ "put" ∧ z ≠ "call" := by decide +kernel
      obtain ⟨q1, q2, q3⟩ := q z ok.1
      rw [decide_eq_false (show (Rw.ld z g).word ∉ aloneL from q1)]
      walk_at "go"
      rw [decide_eq_false (show ¬ (Rw.ld z g).word = "put" from q2)]
      walk_at "go"
      rw [decide_eq_false (show ¬ (Rw.ld z g).word = "call" from q3)]
      walk_at "go"
      refine VOp.inStrs leadL ?_
      rw [decide_eq_true (show (Rw.ld z g).word ∈ leadL from ok.1)]
      walk_at "go"
      exact ⟨z, g, a, rows, rfl, by omega, by have := ok.2.1; omega, fun e => by have := ok.2.2 e; omega, h⟩
    | nm z y =>
      have q : ∀ z ∈ namedL, z ∉ aloneL ∧ z ≠ "put" ∧ z ≠ "call" ∧ z ∉ leadL := by decide +kernel
      obtain ⟨q1, q2, q3, q4⟩ := q z ok.1
      rw [decide_eq_false (show (Rw.nm z y).word ∉ aloneL from q1)]
      walk_at "go"
      rw [decide_eq_false (show ¬ (Rw.nm z y).word = "put" from q2)]
      walk_at "go"
      rw [decide_eq_false (show ¬ (Rw.nm z y).word = "call" from q3)]
      walk_at "go"
      refine VOp.inStrs leadL ?_
      rw [decide_eq_false (show (Rw.nm z y).word ∉ leadL from q4)]
      walk_at "go"
      refine VOp.inStrs namedL ?_
      rw [decide_eq_true (show (Rw.nm z y).word ∈ namedL from ok.1)]
      walk_at "go"
      exact ⟨y, rfl, ok.2, h⟩
end
section
variable {P : Program} {w : World} {K : PySem.W.Frag} {mg : Str → Option Value} {base : Heap}
theorem df_look_row (T : Tx w K mg) (D_is_whole : Df P w K mg base 1 "is_whole" ["thing"] aIsWhole) : Df P w K mg base 2 "look_row" ["program", "number", "row"] aLookRow := by
  refine df_mk T.d_look_row sc_look_row (fun rs M P h => ?_) (fun _ _ _ _ _ _ us hl => match us, hl with | [_, _, _], _ => rfl) fun f cdv A outer s H E hr rs M PP h => ?_
  · obtain ⟨_, _, _, _, rfl, _⟩ := h
    rfl
  · obtain ⟨ps, p, k, a, rfl, hk, ha, h⟩ := h
    have b_len := T.b_len
    walk_at "go"
    refine ⟨_, rfl, ?_⟩
    walk_at "go"
    refine IOp.tup (atI_map hk) ?_
    walk_at "go"
    rw [List.length_map, decide_eq_true (by omega)]
    walk_at "go"
    exact h
theorem df_counts_of (T : Tx w K mg) : Df P w K mg base 1 "counts_of" ["program", "row"] aCounts := by
  refine df_mk T.d_counts_of sc_counts_of (fun rs M P h => ?_) (fun _ _ _ _ _ _ us hl => match us, hl with | [_, _], _ => rfl) fun f cdv A outer s H E hr rs M PP h => ?_
  · obtain ⟨_, _, rfl, _⟩ := h
    rfl
  · obtain ⟨d, r, rfl, hw, h⟩ := h
    obtain ⟨a, m1, m2⟩ := T.counts
    walk_at "go"
    rw [decide_eq_false (fun e => by rw [e] at hw; exact absurd hw (by decide +kernel))]
    walk_at "go"
    refine EvX.glob rfl m1 kn_ref ?_
    walk_at "go"
    obtain ⟨q, q1, q2, q3⟩ := cnt_in hw
    obtain ⟨v, v1, v2⟩ := m2 q q1
    rw [q2] at v1
    refine IOp.kd (r := .dat (.tuple [.int q.2.1, .int q.2.2])) v1 v2 ?_
    rw [q3]
    exact h
theorem df_floor_of (T : Tx w K mg) : Df P w K mg base 1 "floor_of" ["guards"] aFloor := by
  refine df_mk T.d_floor_of sc_floor_of (fun rs M P h => ?_) (fun _ _ _ _ _ _ us hl => match us, hl with | [_], _ => rfl) fun f cdv A outer s H E hr rs M PP h => ?_
  · obtain ⟨_, rfl, _⟩ := h
    rfl
  · obtain ⟨gs, rfl, h⟩ := h
    walk_at "go"
    refine VOp.eq hr.units (shaped_gs gs) (shaped_gs []) ?_
    walk_at "go"
    rw [eqv_tgs]
    by_cases e : gs = []
    · subst e
      walk_at "go"
      exact h
    · rw [decide_eq_false e]
      walk_at "go"
      obtain ⟨g, hg⟩ : ∃ g, gs.getLast? = some g := by
        cases hq : gs.getLast? with
        | none => exact absurd (List.getLast?_eq_none_iff.mp hq) e
        | some g => exact ⟨g, rfl⟩
      refine IOp.tup (atI_lastD hg) ?_
      walk_at "go"
      unfold floorOf at h
      rw [hg] at h
      exact h
theorem df_is_lacking (T : Tx w K mg) (D_counts_of : Df P w K mg base 1 "counts_of" ["program", "row"] aCounts) (D_floor_of : Df P w K mg base 1 "floor_of" ["guards"] aFloor) : Df P w K mg base 2 "is_lacking" ["program", "row", "standing"] aLack := by
  refine df_mk T.d_is_lacking sc_is_lacking (fun rs M P h => ?_) (fun _ _ _ _ _ _ us hl => match us, hl with | [_, _, _], _ => rfl) fun f cdv A outer s H E hr rs M PP h => ?_
  · obtain ⟨_, _, _, rfl, _⟩ := h
    rfl
  · obtain ⟨d, r, s, rfl, hw, h⟩ := h
    walk_at "go"
    refine SvX.asg (pg_tup (by rfl) (pgs_cons (pg_name (i := 3) sc_is_lacking.nd rfl (by first | exact .inl rfl | exact .inr rfl)) (pgs_cons (pg_name (i := 4) sc_is_lacking.nd rfl (by first | exact .inl rfl | exact .inr rfl)) pgs_nil))) ?_
    walk_at "go"
    refine ⟨_, _, (TgD.tup rfl (TgsD.cons (TgD.name 3) (TgsD.cons (TgD.name 4) TgsD.nil))), ?_⟩
    walk_at "go"
    unfold lacking at h
    by_cases e : r.word = "done"
    · rw [if_pos e] at h
      rw [decide_eq_true e]
      walk_at "go"
      refine VOp.eq hr.units (shaped_gs _) (shaped_gs []) ?_
      rw [eqv_tgs]
      have e2 : decide (s.2 = []) = s.2.isEmpty := by cases s.2 <;> rfl
      rw [e2]
      exact h
    · rw [if_neg e] at h
      rw [decide_eq_false e]
      walk_at "go"
      refine ⟨d, r, rfl, hw, ?_⟩
      walk_at "go"
      refine ⟨s.2, rfl, ?_⟩
      walk_at "go"
      exact h
end
section
variable {P : Program} {w : World} {K : PySem.W.Frag} {mg : Str → Option Value} {base : Heap}
theorem ld_of {n a : Nat} {r : Rw} (h : RwOk n a r) (hw : r.word ∈ leadL) : ∃ z g, r = .ld z g := by
  cases r with
  | al z => exact absurd (show z ∈ leadL from hw) (by intro q; revert h q; exact (by decide +kernel : ∀ z ∈ aloneL, z ∈ leadL → False) z)
  | put i => exact absurd hw (by show ("put" : Str) ∉ leadL; decide +kernel)
  | ld z g => exact ⟨z, g, rfl⟩
  | nm z y => exact absurd (show z ∈ leadL from hw) (by intro q; obtain ⟨h, _⟩ := h; revert h q; exact fun h q => (by decide +kernel : ∀ z ∈ namedL, z ∈ leadL → False) z q h)
theorem in2 (w a b : Str) : inD (.str w) [.str a, .str b] = decide (w = a ∨ w = b) := by
  have h := inD_str w [a, b]
  rw [show [PyData.str a, PyData.str b] = [a, b].map .str from rfl, h]
  simp
theorem df_leads_of (T : Tx w K mg) (D_counts_of : Df P w K mg base 1 "counts_of" ["program", "row"] aCounts) : Df P w K mg base 2 "leads_of" ["program", "rows", "at", "standing"] aLeads := by
  refine df_mk T.d_leads_of sc_leads_of (fun rs M P h => ?_) (fun _ _ _ _ _ _ us hl => match us, hl with | [_, _, _, _], _ => rfl) fun f cdv A outer s H E hr rs M PP h => ?_
  · obtain ⟨_, _, _, _, _, _, rfl, _⟩ := h
    rfl
  · obtain ⟨d, rows, r, s, n, a, rfl, ha, ok, hz, h⟩ := h
    have hw := word_counts ok
    have hix : atI (rows.map Rw.d) (a : Int) = some r.d := atI_map ha
    walk_at "go"
    refine SvX.set (i := 4) ?_ ?_ ?_ ?_ (hs := ?_) (hf := ?_)
    · exact sc_leads_of.nd
    · rfl
    · first | exact .inl rfl | exact .inr rfl
    rotate_left
    · first | with_reducible exact swap_lst | rfl
    · first | exact .inl rfl | exact .inr rfl
    walk_at "go"
    refine SvX.asg (pg_tup (by rfl) (pgs_cons (pg_name (i := 5) sc_leads_of.nd rfl (by first | exact .inl rfl | exact .inr rfl)) (pgs_cons (pg_name (i := 6) sc_leads_of.nd rfl (by first | exact .inl rfl | exact .inr rfl)) pgs_nil))) ?_
    walk_at "go"
    refine ⟨_, _, (TgD.tup rfl (TgsD.cons (TgD.name 5) (TgsD.cons (TgD.name 6) TgsD.nil))), ?_⟩
    walk_at "go"
    refine SvX.asg (pg_tup (by rfl) (pgs_cons (pg_name (i := 7) sc_leads_of.nd rfl (by first | exact .inl rfl | exact .inr rfl)) (pgs_cons (pg_name (i := 8) sc_leads_of.nd rfl (by first | exact .inl rfl | exact .inr rfl)) pgs_nil))) ?_
    walk_at "go"
    refine ⟨_, _, rfl, hw, ?_⟩
    refine ⟨_, _, (TgD.tup rfl (TgsD.cons (TgD.name 7) (TgsD.cons (TgD.name 8) TgsD.nil))), ?_⟩
    walk_at "go"
    refine SvX.augAdd (i := 5) sc_leads_of.nd rfl (.inl rfl) rfl ?_
    walk_at "go"
    refine VOp.inT rfl rfl ?_
    rw [in2]
    refine ⟨_, rfl, ?_⟩
    unfold leads at h
    dsimp only at h
    by_cases e1 : r.word = "back" ∨ r.word = "throw"
    · rw [if_pos e1] at h
      rw [decide_eq_true e1]
      walk_at "go"
      exact h
    rw [if_neg e1] at h
    rw [decide_eq_false e1]
    walk_at "go"
    by_cases e2 : r.word = "go"
    · rw [if_pos e2] at h
      obtain ⟨z, g, rfl⟩ := ld_of ok (by rw [e2]; decide +kernel)
      rw [decide_eq_true e2]
      walk_at "go"
      exact h
    rw [if_neg e2] at h
    rw [decide_eq_false e2]
    walk_at "go"
    by_cases e3 : r.word = "if"
    · rw [if_pos e3] at h
      obtain ⟨z, g, rfl⟩ := ld_of ok (by rw [e3]; decide +kernel)
      rw [decide_eq_true e3]
      walk_at "go"
      exact h
    rw [if_neg e3] at h
    rw [decide_eq_false e3]
    walk_at "go"
    by_cases e4 : r.word = "try"
    · rw [if_pos e4] at h
      obtain ⟨z, g, rfl⟩ := ld_of ok (by rw [e4]; decide +kernel)
      rw [decide_eq_true e4]
      walk_at "go"
      refine VOp.addG (hs := [(_, _)]) (by simp; omega) ?_
      walk_at "go"
      exact h
    rw [if_neg e4] at h
    rw [decide_eq_false e4]
    walk_at "go"
    by_cases e5 : r.word = "done"
    · rw [if_pos e5] at h
      rw [decide_eq_true e5]
      walk_at "go"
      refine SvX.set (i := 6) ?_ ?_ ?_ ?_ (hs := ?_) (hf := ?_)
      · exact sc_leads_of.nd
      · rfl
      · first | exact .inl rfl | exact .inr rfl
      rotate_left
      · first | with_reducible exact swap_lst | rfl
      · first | exact .inl rfl | exact .inr rfl
      walk_at "go"
      rw [cut_last_map]
      exact h
    rw [if_neg e5] at h
    rw [decide_eq_false e5]
    walk_at "go"
    exact h
end
section
variable {P : Program} {w : World} {K : PySem.W.Frag} {mg : Str → Option Value} {base : Heap}
theorem df_is_headed (T : Tx w K mg) (D_is_name : Df P w K mg base 1 "is_name" ["thing"] aIsName) (U : UnlOk P w K mg base) : Df P w K mg base 3 "is_headed" ["thing"] aIsHeaded := by
  refine df_mk T.d_is_headed sc_is_headed (fun rs M P h => ?_) (fun _ _ _ _ _ _ us hl => match us, hl with | [_], _ => rfl) fun f cdv A outer s H E hr rs M PP h => ?_
  · obtain ⟨_, rfl, _⟩ := h
    rfl
  · obtain ⟨p, rfl, ok, h⟩ := h
    obtain ⟨fu, fdu, FU, gu, ku, ⟨mv1, kb1⟩, mv2, kb2⟩ := U
    have b_isinstance := T.b_isinstance; have b_tuple := T.b_tuple; have b_len := T.b_len
    have c_MOST_NAMES := T.c_MOST_NAMES; have c_MOST_LONG := T.c_MOST_LONG
    walk_at "go"
    refine ⟨_, rfl, ok.name, ?_⟩
    walk_at "go"
    refine EvX.callN FU (hr.mono (by decide)) gu ku kb1 (gS := fun rs ss => rs ++ ss ++ [.dat (.int 0)]) (fun G vs zs rs ss h1 h2 => paired_append (paired_append h1 h2) (.cons (svInt 0) .nil)) ?_
    walk_at "go"
    refine KvX.cons ?_
    walk_at "go"
    refine KvX.nil ?_
    refine ⟨rfl, rfl, p.names, 3, 0, rfl, ok.names, ok.nd, by omega, by have := ok.few; omega, by have := ok.few; omega, ?_⟩
    walk_at "go"
    rw [List.length_map, decide_eq_true (by have := ok.some_; omega)]
    walk_at "go"
    rw [decide_eq_true (by have := ok.many; omega)]
    exact h
theorem df_is_program (T : Tx w K mg) (D_is_headed : Df P w K mg base 3 "is_headed" ["thing"] aIsHeaded) (D_is_row : Df P w K mg base 3 "is_row" ["thing", "at", "rows", "called"] aIsRow) (U : UnlOk P w K mg base) : Df P w K mg base 4 "is_program" ["thing"] aIsProg := by
  refine df_mk T.d_is_program sc_is_program (fun rs M P h => ?_) (fun _ _ _ _ _ _ us hl => match us, hl with | [_], _ => rfl) fun f cdv A outer s H E hr rs M PP h => ?_
  · obtain ⟨_, rfl, _⟩ := h
    rfl
  · obtain ⟨ps, rfl, ok, h⟩ := h
    obtain ⟨fu, fdu, FU, gu, ku, ⟨mv1, kb1⟩, mv2, kb2⟩ := U
    have few := ok.few
    have b_isinstance := T.b_isinstance; have b_tuple := T.b_tuple; have b_len := T.b_len; have b_all := T.b_all; have b_enumerate := T.b_enumerate
    have c_MOST_PARTS := T.c_MOST_PARTS
    walk_at "go"
    refine EvX.lc (g := (gName 2)) rfl sc_is_program.nd (blkOk_by (N := n_is_program) (sc := defScope st_is_program) (own := [("part", 2)]) (by decide +kernel)) (fun _ _ _ _ _ => (pg_name (i := 2) sc_is_program.nd rfl (by first | exact .inl rfl | exact .inr rfl))) ?_
    refine IvX.tup ?_
    walk_at "go"
    rw [List.map_map]
    refine lcMapA 2 ps (fun p => .dat p.d) (fun _ => .bool true) (size_big (by omega)) (by decide) (fun p hp => ?_) ?_
    · intro s0 H0 C cl fp
      walk_at "go"
      exact ⟨p, rfl, ok.parts p hp, rfl, rfl⟩
    walk_at "go"
    refine SvX.set (i := 1) ?_ ?_ ?_ ?_ (hs := ?_) (hf := ?_)
    · exact sc_is_program.nd
    · rfl
    · first | exact .inl rfl | exact .inr rfl
    rotate_left
    · first | with_reducible exact swap_lst | rfl
    · first | exact .inl rfl | exact .inr rfl
    walk_at "go"
    refine EvX.lc (g := (gName 2)) rfl sc_is_program.nd (blkOk_by (N := n_is_program) (sc := defScope st_is_program) (own := [("part", 2)]) (by decide +kernel)) (fun _ _ _ _ _ => (pg_name (i := 2) sc_is_program.nd rfl (by first | exact .inl rfl | exact .inr rfl))) ?_
    refine IvX.tup ?_
    walk_at "go"
    rw [List.map_map]
    refine lcMapA 2 ps (fun p => .dat p.d) (fun p => .str p.name) (size_big (by omega)) (by decide) (fun p hp => ?_) ?_
    · intro s0 H0 C cl fp
      walk_at "go"
      exact ⟨rfl, rfl⟩
    have e : ps.map (fun p => PyData.str p.name) = (ps.map Pt.name).map .str := by rw [List.map_map]; rfl
    rw [e]
    walk_at "go"
    refine EvX.callN FU (hr.mono (by decide)) gu ku kb2 (gS := fun rs ss => rs ++ ss) (fun G vs zs rs ss h1 h2 => paired_append h1 h2) ?_
    walk_at "go"
    refine KvX.cons ?_
    walk_at "go"
    refine KvX.cons ?_
    walk_at "go"
    refine KvX.nil ?_
    refine ⟨rfl, rfl, ps.map Pt.name, 8, 1, rfl, fun z hz => ?_, ok.nd, by rw [List.length_map]; have := ok.some_; omega, by rw [List.length_map]; omega, by rw [List.length_map]; omega, ?_⟩
    · obtain ⟨p, hp, rfl⟩ := List.mem_map.mp hz
      exact (ok.parts p hp).name
    walk_at "go"
    refine EvX.lc2 (vs1 := [6, 7]) (g := (gTup K 3 (gCons (gName 3) (gCons (gName 4) (gCons (gName 5) gNil))))) (g1 := (gTup K 2 (gCons (gName 6) (gCons (gName 7) gNil)))) rfl sc_is_program.nd (blkOk_by (N := n_is_program) (sc := defScope st_is_program) (own := [("name", 3), ("names", 4), ("rows", 5), ("at", 6), ("row", 7)]) (by decide +kernel)) (by decide) (fun _ _ _ _ _ => (pg_tup (by rfl) (pgs_cons (pg_name (i := 3) sc_is_program.nd rfl (by first | exact .inl rfl | exact .inr rfl)) (pgs_cons (pg_name (i := 4) sc_is_program.nd rfl (by first | exact .inl rfl | exact .inr rfl)) (pgs_cons (pg_name (i := 5) sc_is_program.nd rfl (by first | exact .inl rfl | exact .inr rfl)) pgs_nil))))) (fun _ _ _ _ _ => (pg_tup (by rfl) (pgs_cons (pg_name (i := 6) sc_is_program.nd rfl (by first | exact .inl rfl | exact .inr rfl)) (pgs_cons (pg_name (i := 7) sc_is_program.nd rfl (by first | exact .inl rfl | exact .inr rfl)) pgs_nil)))) ?_
    refine IvX.tup ?_
    walk_at "go"
    refine ⟨by rw [List.length_map, List.length_map]; omega, fun r hr1 => ?_, fun n => ?_⟩
    · obtain ⟨d, hd, rfl⟩ := List.mem_map.mp hr1
      obtain ⟨p, hp, rfl⟩ := List.mem_map.mp hd
      have pk := ok.parts p hp
      refine ⟨_, _, ?_, (TgD.tup rfl (TgsD.cons (TgD.name 3) (TgsD.cons (TgD.name 4) (TgsD.cons (TgD.name 5) TgsD.nil)))), ?_⟩
      · decide
      intro s0 H0 C cl fp
      refine IvX.enumT (by assumption) ?_
      walk_at "go"
      refine ⟨rfl, by rw [List.length_mapIdx, List.length_map]; have := pk.many; omega, fun r1 hr2 => ?_⟩
      obtain ⟨i, hi, rfl⟩ := List.mem_mapIdx.mp hr2
      have hi' : i < p.rows.length := by rw [List.length_map] at hi; exact hi
      have e2 : (p.rows.map Rw.d)[i] = (p.rows[i]).d := List.getElem_map ..
      refine ⟨_, _, ?_, (TgD.tup rfl (TgsD.cons (TgD.name 6) (TgsD.cons (TgD.name 7) TgsD.nil))), ?_⟩
      · decide
      intro s0 H0 C cl fp
      walk_at "go"
      refine ⟨p.rows[i], i, p.rows, ps.map Pt.name, ?_, pk.rows i _ (by simp [hi']), rfl, rfl⟩
      rw [e2]
    · walk_at "go"
      refine COp.all (bs := List.replicate n true) rfl ?_ |> cast (by rw [List.map_replicate])
      rw [show (List.replicate n true).all id = true from List.all_eq_true.mpr fun x hx => (List.mem_replicate.mp hx).2]
      exact h
theorem df_look_program (T : Tx w K mg) (D_is_program : Df P w K mg base 4 "is_program" ["thing"] aIsProg) : Df P w K mg base 5 "look_program" ["thing"] aLookProg := by
  refine df_mk T.d_look_program sc_look_program (fun rs M P h => ?_) (fun _ _ _ _ _ _ us hl => match us, hl with | [_], _ => rfl) fun f cdv A outer s H E hr rs M PP h => ?_
  · obtain ⟨_, rfl, _⟩ := h
    rfl
  · obtain ⟨ps, rfl, ok, h⟩ := h
    walk_at "go"
    refine ⟨ps, rfl, ok, ?_⟩
    walk_at "go"
    exact h
end
section
variable {P : Program} {w : World} {K : PySem.W.Frag} {mg : Str → Option Value} {base : Heap}
theorem df_part_at (T : Tx w K mg) : Df P w K mg base 1 "part_at" ["program", "name"] aPartAt := by
  refine df_mk T.d_part_at sc_part_at (fun rs M P h => ?_) (fun _ _ _ _ _ _ us hl => match us, hl with | [_, _], _ => rfl) fun f cdv A outer s H E hr rs M PP h => ?_
  · obtain ⟨_, _, _, rfl, _⟩ := h
    rfl
  · obtain ⟨ps, p, k, rfl, ok, hk, h⟩ := h
    have b_isinstance := T.b_isinstance; have b_str := T.b_str; have b_enumerate := T.b_enumerate
    walk_at "go"
    refine SvX.for PassesOwn.never rfl (pg_tup (by rfl) (pgs_cons (pg_name (i := 2) sc_part_at.nd rfl (by first | exact .inl rfl | exact .inr rfl)) (pgs_cons (pg_name (i := 3) sc_part_at.nd rfl (by first | exact .inl rfl | exact .inr rfl)) pgs_nil))) ?_
    refine IvX.enumT (by assumption) ?_
    walk_at "go"
    refine ⟨fun i δ1 M2 => M2 = M ∧ i ≤ k ∧ ∃ x y, δ1 = [some (.dat (pgD ps)), some (.dat (.str p.name)), x, y], ⟨rfl, Nat.zero_le _, none, none, rfl⟩, fun i r δ1 M2 hi hI => ?_, fun δ1 M2 hI => ?_⟩
    · obtain ⟨rfl, hik, x, y, rfl⟩ := hI
      rw [List.getElem?_mapIdx, List.getElem?_map] at hi
      cases hq : ps[i]? with
      | none =>
        rw [hq] at hi
        cases hi
      | some q =>
        rw [hq] at hi
        obtain rfl : Sd.dat (.tuple [.int (i : Nat), q.d]) = r := by simpa using hi
        refine ⟨_, _, (TgD.tup rfl (TgsD.cons (TgD.name 2) (TgsD.cons (TgD.name 3) TgsD.nil))), ?_⟩
        walk_at "go"
        by_cases e : q.name = p.name
        · rw [decide_eq_true e]
          walk_at "go"
          have z : i = k := nodup_at (x := p.name) ok.nd (by rw [List.getElem?_map, hq]; exact congrArg some e) (by rw [List.getElem?_map, hk]; rfl)
          subst z
          exact h
        · rw [decide_eq_false e]
          walk_at "go"
          have z : i ≠ k := fun z => by
            subst z
            rw [hk] at hq
            cases hq
            exact e rfl
          exact ⟨rfl, by omega, _, _, rfl⟩
    · obtain ⟨rfl, hik, x, y, rfl⟩ := hI
      have : k < ps.length := (List.getElem?_eq_some_iff.mp hk).1
      rw [List.length_mapIdx, List.length_map] at hik
      omega
theorem df_are_rows (T : Tx w K mg) (D_is_whole : Df P w K mg base 1 "is_whole" ["thing"] aIsWhole) : Df P w K mg base 2 "are_rows" ["rows", "thing"] aAreRows := by
  refine df_mk T.d_are_rows sc_are_rows (fun rs M P h => ?_) (fun _ _ _ _ _ _ us hl => match us, hl with | [_, _], _ => rfl) fun f cdv A outer s H E hr rs M PP h => ?_
  · obtain ⟨_, _, rfl, _⟩ := h
    rfl
  · obtain ⟨rows, w, rfl, hz, h⟩ := h
    have b_isinstance := T.b_isinstance; have b_list := T.b_list; have b_len := T.b_len; have b_all := T.b_all
    walk_at "go"
    refine VOp.eq hr.units (shaped_ints w) shaped_nil ?_
    rw [eqv_nilL]
    walk_at "go"
    cases e : w.isEmpty with
    | true =>
      walk_at "go"
      rw [e] at h
      exact h
    | false =>
      walk_at "go"
      refine EvX.lc (g := (gName 2)) rfl sc_are_rows.nd (blkOk_by (N := n_are_rows) (sc := defScope st_are_rows) (own := [("row", 2)]) (by decide +kernel)) (fun _ _ _ _ _ => (pg_name (i := 2) sc_are_rows.nd rfl (by first | exact .inl rfl | exact .inr rfl))) ?_
      refine IvX.list ?_
      walk_at "go"
      rw [List.map_map]
      refine lcMapA 2 w (fun i => .dat (.int i)) (fun i => .bool (inRows rows i)) (size_big (by omega)) (by decide) (fun i hi => ?_) ?_
      · intro s0 H0 C cl fp
        walk_at "go"
        refine ⟨_, rfl, ?_⟩
        walk_at "go"
        unfold inRows
        by_cases z : 0 ≤ i
        · rw [decide_eq_true z]
          walk_at "go"
          refine ⟨rfl, ?_⟩
          rw [List.length_map]
          by_cases z2 : i < (rows.length : Int)
          · rw [decide_eq_true z2, decide_eq_true ⟨z, z2⟩]
          · rw [decide_eq_false z2, decide_eq_false fun q => z2 q.2]
        · rw [decide_eq_false z]
          walk_at "go"
          refine ⟨rfl, ?_⟩
          rw [decide_eq_false fun q => z q.1]
      · walk_at "go"
        rw [e] at h
        exact h
theorem df_number_of (T : Tx w K mg) (D_is_name : Df P w K mg base 1 "is_name" ["thing"] aIsName) : Df P w K mg base 2 "number_of" ["program", "part"] aNumber := by
  refine df_mk T.d_number_of sc_number_of (fun rs M P h => ?_) (fun _ _ _ _ _ _ us hl => match us, hl with | [_, _], _ => rfl) fun f cdv A outer s H E hr rs M PP h => ?_
  · obtain ⟨_, _, _, rfl, _⟩ := h
    rfl
  · obtain ⟨ps, p, k, rfl, ok, hk, h⟩ := h
    have b_enumerate := T.b_enumerate
    refine BvX.fo ?_
    walk_at "go"
    refine ⟨_, rfl, (ok.parts p (List.mem_of_getElem? hk)).name, ?_⟩
    walk_at "go"
    refine SvX.setDc (g := gTup K 2 (gCons (gName 4) (gCons (gStar K (gName 5) (gName 6)) gNil))) (i := 2) rfl sc_number_of.nd rfl rfl rfl (blkOk_by (N := n_number_of) (sc := defScope st_number_of) (own := [("number", 4), ("name", 5), ("rest", 6)]) (by decide +kernel)) (fun _ _ _ _ _ => pg_tup (by rfl) (pgs_cons (pg_name (i := 4) sc_number_of.nd rfl (.inl rfl)) (pgs_cons (pg_star (by rfl) (pg_name (i := 5) sc_number_of.nd rfl (.inl rfl)) (pg_name (i := 6) sc_number_of.nd rfl (.inl rfl))) pgs_nil))) ?_
    refine IvX.enumT (by assumption) ?_
    walk_at "go"
    have few := ok.few
    have uq : ∀ (i k : Nat) (q p : Pt), ps[i]? = some q → ps[k]? = some p → q.name = p.name → i = k := fun i k q p h1 h2 e => nodup_at (x := p.name) ok.nd (by rw [List.getElem?_map, h1]; exact congrArg some e) (by rw [List.getElem?_map, h2]; rfl)
    refine ⟨fun i acc M2 => M2 = M ∧ acc = (ps.take i).mapIdx fun j p => (.inr p.name, .dat (.int (j : Nat))), ⟨rfl, rfl⟩, by rw [List.length_mapIdx, List.length_map]; exact size_big (by omega), fun i r acc M2 hi hI => ?_, fun acc M2 hI q hq => ?_⟩
    · obtain ⟨rfl, rfl⟩ := hI
      rw [List.getElem?_mapIdx, List.getElem?_map] at hi
      cases hq : ps[i]? with
      | none =>
        rw [hq] at hi
        cases hi
      | some q =>
        rw [hq] at hi
        obtain rfl : Sd.dat (.tuple [.int (i : Nat), q.d]) = r := by simpa using hi
        have hil : i < ps.length := (List.getElem?_eq_some_iff.mp hq).1
        refine ⟨_, _, fun b M3 => b = true ∧ M3 = M2, ?_, TgD.tup rfl (TgsD.cons (TgD.name 4) (TgsD.cons (TgD.star (by exact (by decide : 2 ≤ 1000)) (TgD.name 5) (TgD.name 6)) TgsD.nil)), ⟨rfl, rfl⟩, fun M3 z => ?_, fun M3 z => ?_⟩
        · decide
        · obtain ⟨_, rfl⟩ := z
          intro s0 H0 C cl fp
          walk_at "go"
          refine ⟨.inr q.name, rfl, ?_⟩
          intro s0 H0 C cl fp
          walk_at "go"
          refine ⟨.dat (.int i), rfl, rfl, ?_⟩
          rw [put0_new, List.take_add_one, hq, Option.toList_some, List.mapIdx_concat, List.length_take, Nat.min_eq_left (Nat.le_of_lt hil)]
          intro v' z
          obtain ⟨j, hj, e⟩ := List.mem_mapIdx.mp z
          have hj' : j < i := by rw [List.length_take] at hj; omega
          have hjl : j < ps.length := by omega
          have e1 : (ps.take i)[j].name = q.name := by
            have := congrArg Prod.fst e
            exact Sum.inr.inj this
          have e2 : j = i := uq j i (ps.take i)[j] q (by rw [List.getElem_take]; simp [hjl]) hq e1
          omega
        · cases z.1
    · obtain ⟨rfl, rfl⟩ := hI
      rw [List.length_mapIdx, List.length_map, List.take_length]
      walk_at "go"
      refine SvX.tryNo (fun e s z => z) ?_
      walk_at "go"
      refine SvX.set (i := 3) ?_ ?_ ?_ ?_ (hs := ?_) (hf := ?_)
      · exact sc_number_of.nd
      · rfl
      · first | exact .inl rfl | exact .inr rfl
      rotate_left
      · first | with_reducible exact swap_lst | rfl
      · first | exact .inl rfl | exact .inr rfl
      refine EvX.dix (u1 hr) ?_
      walk_at "go"
      refine DOp.dk (k := .inr p.name) (r := .dat (.int k)) setM_same ?_ ?_
      · have hkl : k < ps.length := (List.getElem?_eq_some_iff.mp hk).1
        refine at0_uniq (List.mem_mapIdx.mpr ⟨k, hkl, ?_⟩) (fun v' z => ?_)
        · rw [(List.getElem?_eq_some_iff.mp hk).2]
        · obtain ⟨j, hj, e⟩ := List.mem_mapIdx.mp z
          have e1 : ps[j].name = p.name := Sum.inr.inj (congrArg Prod.fst e)
          have e2 : j = k := uq j k ps[j] p (by simp [hj]) hk e1
          subst e2
          exact (congrArg Prod.snd e).symm
      · walk_at "go"
        exact ⟨M2, le_new hq, h⟩
end
section
variable {P : Program} {w : World} {K : PySem.W.Frag} {mg : Str → Option Value} {base : Heap}
theorem df_goals_of (T : Tx w K mg) (D_leads_of : Df P w K mg base 2 "leads_of" ["program", "rows", "at", "standing"] aLeads) : Df P w K mg base 3 "goals_of" ["program", "rows", "at"] aGoalsOf := by
  refine df_mk T.d_goals_of sc_goals_of (fun rs M P h => ?_) (fun _ _ _ _ _ _ us hl => match us, hl with | [_, _, _], _ => rfl) fun f cdv A outer s H E hr rs M PP h => ?_
  · obtain ⟨_, _, _, _, _, rfl, _⟩ := h
    rfl
  · obtain ⟨d, rows, r, n, a, rfl, ha, ok, h⟩ := h
    have b_len := T.b_len
    have c_ANY_STANDING := T.c_ANY_STANDING
    walk_at "go"
    refine EvX.lc (g := (gTup K 2 (gCons (gName 3) (gCons (gName 4) gNil)))) rfl sc_goals_of.nd (blkOk_by (N := n_goals_of) (sc := defScope st_goals_of) (own := [("row", 3), ("led", 4)]) (by decide +kernel)) (fun _ _ _ _ _ => (pg_tup (by rfl) (pgs_cons (pg_name (i := 3) sc_goals_of.nd rfl (by first | exact .inl rfl | exact .inr rfl)) (pgs_cons (pg_name (i := 4) sc_goals_of.nd rfl (by first | exact .inl rfl | exact .inr rfl)) pgs_nil)))) ?_
    refine IvX.list ?_
    walk_at "go"
    refine ⟨d, rows, r, (0, [(0, 0)]), n, a, rfl, ha, ok, by decide, ?_⟩
    walk_at "go"
    rw [List.map_map]
    have few : (leads r a (0, [(0, 0)])).length ≤ 2 := by
      unfold leads
      dsimp only
      repeat' split
      all_goals simp
    refine lcFilTA (leads r a (0, [(0, 0)])) (fun p => .dat (leadD p)) (fun p => decide (p.1 < (rows.length : Int))) (fun p => .int p.1) (size_big (by omega)) (fun p hp => ?_) ?_
    · refine ⟨_, _, ?_, (TgD.tup rfl (TgsD.cons (TgD.name 3) (TgsD.cons (TgD.name 4) TgsD.nil))), ?_, fun _ => ?_⟩
      · decide
      · intro s0 H0 C cl fp
        walk_at "go"
        exact ⟨rfl, by rw [List.length_map]⟩
      · intro s0 H0 C cl fp
        walk_at "go"
        exact ⟨rfl, rfl⟩
    · unfold goalsOf at h
      rw [List.map_map] at h
      exact h
end
section
variable {P : Program} {w : World} {K : PySem.W.Frag} {mg : Str → Option Value} {base : Heap}
theorem zip_len (w : List Int) : (zipD (w.map .int) (cutD (w.map .int) (some 1) none)).length = w.length - 1 := by
  unfold zipD
  rw [cut_tail, List.length_zipWith, List.length_drop, List.length_map]
  omega
theorem zip_at {w : List Int} {i : Nat} {r : Sd} (h : (zipD (w.map .int) (cutD (w.map .int) (some 1) none))[i]? = some r) : ∃ a b, w[i]? = some a ∧ w[i + 1]? = some b ∧ r = .dat (.tuple [.int a, .int b]) := by
  unfold zipD at h
  rw [cut_tail, List.getElem?_zipWith, List.getElem?_map, List.getElem?_drop, List.getElem?_map, Nat.add_comm 1 i] at h
  cases e1 : w[i]? with
  | none =>
    rw [e1] at h
    simp at h
  | some a =>
    cases e2 : w[i + 1]? with
    | none =>
      rw [e1, e2] at h
      simp at h
    | some b =>
      rw [e1, e2] at h
      simp at h
      exact ⟨a, b, rfl, rfl, h.symm⟩
theorem df_walked_to (T : Tx w K mg) (D_are_rows : Df P w K mg base 2 "are_rows" ["rows", "thing"] aAreRows) (D_is_lacking : Df P w K mg base 2 "is_lacking" ["program", "row", "standing"] aLack) (D_leads_of : Df P w K mg base 2 "leads_of" ["program", "rows", "at", "standing"] aLeads) : Df P w K mg base 3 "walked_to" ["program", "number", "thing"] aWalkedTo := by
  refine df_mk T.d_walked_to sc_walked_to (fun rs M P h => ?_) (fun _ _ _ _ _ _ us hl => match us, hl with | [_, _, _], _ => rfl) fun f cdv A outer s H E hr rs M PP h => ?_
  · obtain ⟨_, _, _, _, rfl, _⟩ := h
    rfl
  · obtain ⟨ps, p, w, k, rfl, ok, hk, so, hz, h⟩ := h
    have pk := ok.parts p (List.mem_of_getElem? hk)
    have b_zip := T.b_zip
    have c_BEGIN := T.c_BEGIN
    have hkx : atI (ps.map Pt.d) (k : Int) = some p.d := atI_map hk
    walk_at "go"
    refine SvX.set (i := 3) ?_ ?_ ?_ ?_ (hs := ?_) (hf := ?_)
    · exact sc_walked_to.nd
    · rfl
    · first | exact .inl rfl | exact .inr rfl
    rotate_left
    · first | with_reducible exact swap_lst | rfl
    · first | exact .inl rfl | exact .inr rfl
    walk_at "go"
    refine ⟨p.rows, w, rfl, hz, ?_⟩
    walk_at "go"
    cases w with
    | nil =>
      walk_at "go"
      exact h
    | cons a gs =>
      have in0 : inRows p.rows 0 = true := decide_eq_true ⟨by decide, by have := pk.some_; omega⟩
      by_cases ha : ((a :: gs).all (inRows p.rows)) = true
      · rw [show (!(a :: gs).isEmpty && (a :: gs).all (inRows p.rows)) = true by rw [ha]; rfl]
        walk_at "go"
        by_cases a0 : a = 0
        · subst a0
          rw [decide_eq_true rfl]
          walk_at "go"
          refine SvX.set (i := 4) ?_ ?_ ?_ ?_ (hs := ?_) (hf := ?_)
          · exact sc_walked_to.nd
          · rfl
          · first | exact .inl rfl | exact .inr rfl
          rotate_left
          · first | with_reducible exact swap_lst | rfl
          · first | exact .inl rfl | exact .inr rfl
          walk_at "go"
          have hall : gs.all (inRows p.rows) = true := by
            rw [List.all_cons, Bool.and_eq_true] at ha
            exact ha.2
          have e0 : walkedTo p.rows (0 :: gs) = walkFrom p.rows 0 (0, []) gs := by
            unfold walkedTo
            dsimp only
            rw [if_pos ⟨rfl, hall⟩]
          rw [e0] at h
          refine SvX.for PassesOwn.never rfl (pg_tup (by rfl) (pgs_cons (pg_name (i := 5) sc_walked_to.nd rfl (by first | exact .inl rfl | exact .inr rfl)) (pgs_cons (pg_name (i := 6) sc_walked_to.nd rfl (by first | exact .inl rfl | exact .inr rfl)) pgs_nil))) ?_
          refine IvX.zip (by assumption) ?_
          walk_at "go"
          refine ⟨_, _, rfl, ?_⟩
          refine ⟨fun i δ1 M2 => M2 = M ∧ ∃ (s : Stg) (b : Nat) (x y z u v : Option Sd), (0 :: gs)[i]? = some (b : Int) ∧ Reach p.rows b s ∧ walkFrom p.rows b s ((0 :: gs).drop (i + 1)) = walkFrom p.rows 0 (0, []) gs ∧
            δ1 = [some (.dat (pgD ps)), some (.dat (.int k)), some (.dat (.list ((0 :: gs).map .int))), some (.dat (.tuple (p.rows.map Rw.d))), some (.dat (stD s)), x, y, z, u, v], ⟨rfl, (0, []), 0, none, none, none, none, none, rfl, .zero, rfl, rfl⟩, fun i r δ1 M2 hi hI => ?_, fun δ1 M2 hI => ?_⟩
          · obtain ⟨rfl, s, b, x, y, z, u, v, hb, rb, hw, rfl⟩ := hI
            obtain ⟨b', g, hb', hg, rfl⟩ := zip_at hi
            obtain rfl : (b : Int) = b' := Option.some.inj (hb.symm.trans hb')
            refine ⟨_, _, (TgD.tup rfl (TgsD.cons (TgD.name 5) (TgsD.cons (TgD.name 6) TgsD.nil))), ?_⟩
            have hbl := rb.lt so pk.some_
            have hrow : p.rows[b]? = some p.rows[b] := by simp [hbl]
            have okr := pk.rows b _ hrow
            have hbx : atI (p.rows.map Rw.d) (b : Int) = some (p.rows[b]).d := atI_map hrow
            walk_at "go"
            refine ⟨_, p.rows[b], s, rfl, word_counts okr, ?_⟩
            rw [rb.calm so hrow]
            walk_at "go"
            refine SvX.setLc (g := (gTup K 2 (gCons (gName 8) (gCons (gName 9) gNil)))) (i := 7) rfl sc_walked_to.nd rfl rfl rfl (blkOk_by (N := n_walked_to) (sc := defScope st_walked_to) (own := [("row", 8), ("led", 9)]) (by decide +kernel)) (fun _ _ _ _ _ => (pg_tup (by rfl) (pgs_cons (pg_name (i := 8) sc_walked_to.nd rfl (by first | exact .inl rfl | exact .inr rfl)) (pgs_cons (pg_name (i := 9) sc_walked_to.nd rfl (by first | exact .inl rfl | exact .inr rfl)) pgs_nil)))) ?_
            refine IvX.list ?_
            walk_at "go"
            refine ⟨_, p.rows, p.rows[b], s, _, b, rfl, hrow, okr, by have := rb.flat so; omega, ?_⟩
            walk_at "go"
            rw [List.map_map]
            refine lcFilTA (leads p.rows[b] b s) (fun p => .dat (leadD p)) (fun p => decide (p.1 = g)) (fun p => stD p.2) (size_big (by have := leads_few p.rows[b] b s; omega)) (fun q hq => ?_) ?_
            · refine ⟨_, _, ?_, (TgD.tup rfl (TgsD.cons (TgD.name 8) (TgsD.cons (TgD.name 9) TgsD.nil))), ?_, fun _ => ?_⟩
              · decide
              · intro s0 H0 C cl fp
                walk_at "go"
                exact ⟨rfl, rfl⟩
              · intro s0 H0 C cl fp
                walk_at "go"
                exact ⟨rfl, rfl⟩
            have ex : ((leads p.rows[b] b s).filter fun p => decide (p.1 = g)).map (fun p => stD p.2) = (((leads p.rows[b] b s).filter fun p => decide (p.1 = g)).map (·.2)).map stD := by rw [List.map_map]; rfl
            rw [ex]
            have es : stepTo p.rows b s g = (((leads p.rows[b] b s).filter fun p => decide (p.1 = g)).map (·.2)).head? := by
              unfold stepTo
              rw [Int.toNat_natCast, hrow]
            have ed : (0 :: gs).drop (i + 1) = g :: (0 :: gs).drop (i + 2) := by
              rw [List.drop_eq_getElem_cons (List.getElem?_eq_some_iff.mp hg).1, (List.getElem?_eq_some_iff.mp hg).2]
            rw [ed, walkFrom_cons] at hw
            walk_at "go"
            refine VOp.eq hr.units (shaped_sts _) shaped_nil ?_
            rw [eqv_nilL]
            generalize ((leads p.rows[b] b s).filter fun p => decide (p.1 = g)).map (·.2) = xs at es
            cases xs with
            | nil =>
              rw [es] at hw
              have hw : none = walkFrom p.rows 0 (0, []) gs := hw
              walk_at "go"
              rw [← hw] at h
              exact h
            | cons t ts =>
              have es : stepTo p.rows b s g = some t := es
              rw [es] at hw
              have hw : walkFrom p.rows g t ((0 :: gs).drop (i + 2)) = _ := hw
              walk_at "go"
              refine SvX.set (i := 4) ?_ ?_ ?_ ?_ (hs := ?_) (hf := ?_)
              · exact sc_walked_to.nd
              · rfl
              · first | exact .inl rfl | exact .inr rfl
              rotate_left
              · first | with_reducible exact swap_lst | rfl
              · first | exact .inl rfl | exact .inr rfl
              walk_at "go"
              obtain ⟨c, rfl, _, rc⟩ := stepTo_reach rb so es
              exact ⟨rfl, t, c, _, _, _, _, _, hg, rc, hw, rfl⟩
          · obtain ⟨rfl, s, b, x, y, z, u, v, hb, rb, hw, rfl⟩ := hI
            rw [zip_len] at hw
            rw [List.drop_of_length_le (by simp)] at hw
            have hw : some s = _ := hw
            rw [← hw] at h
            walk_at "go"
            exact h
        · rw [decide_eq_false a0]
          walk_at "go"
          have e0 : walkedTo p.rows (a :: gs) = none := by
            unfold walkedTo
            dsimp only
            rw [if_neg fun q => a0 q.1]
          rw [e0] at h
          exact h
      · rw [show (!(a :: gs).isEmpty && (a :: gs).all (inRows p.rows)) = false by rw [Bool.eq_false_iff.mpr ha]; rfl]
        walk_at "go"
        have e0 : walkedTo p.rows (a :: gs) = none := by
          unfold walkedTo
          dsimp only
          rw [if_neg]
          rintro ⟨rfl, q⟩
          exact ha (by rw [List.all_cons, in0, q]; rfl)
        rw [e0] at h
        exact h
end
section
variable {P : Program} {w : World} {K : PySem.W.Frag} {mg : Str → Option Value} {base : Heap}
theorem in_none2 (s t : Option Stg) : inD .none [osD s, osD t] = (s.isNone || t.isNone) := by
  unfold inD
  cases s <;> cases t <;> simp [osD, stD, PyData.eqv]
theorem df_both_walked (T : Tx w K mg) (D_is_sound_part : Df P w K mg base 8 "is_sound_part" ["program", "number"] aIsSound) (D_walked_to : Df P w K mg base 3 "walked_to" ["program", "number", "thing"] aWalkedTo) : Df P w K mg base 9 "both_walked" ["program", "number", "things"] aBoth := by
  refine df_mk T.d_both_walked sc_both_walked (fun rs M P h => ?_) (fun _ _ _ _ _ _ us hl => match us, hl with | [_, _, _], _ => rfl) fun f cdv A outer s H E hr rs M PP h => ?_
  · obtain ⟨_, _, _, _, _, rfl, _⟩ := h
    rfl
  · obtain ⟨ps, p, w, v, k, rfl, ok, hk, so, hw, hv, h⟩ := h
    have b_len := T.b_len
    walk_at "go"
    refine ⟨ps, p, k, rfl, ok, hk, .inl ⟨so, ?_⟩⟩
    walk_at "go"
    refine SvX.setLc (g := (gName 4)) (i := 3) rfl sc_both_walked.nd rfl rfl rfl (blkOk_by (N := n_both_walked) (sc := defScope st_both_walked) (own := [("walk", 4)]) (by decide +kernel)) (fun _ _ _ _ _ => (pg_name (i := 4) sc_both_walked.nd rfl (by first | exact .inl rfl | exact .inr rfl))) ?_
    refine IvX.tup ?_
    walk_at "go"
    refine lcMapA 4 [w, v] (fun w => .dat (.list (w.map .int))) (fun w => osD (walkedTo p.rows w)) (size_big (by exact (by decide : 2 ≤ 20000))) (by decide) (fun u hu => ?_) ?_
    · intro s0 H0 C cl fp
      walk_at "go"
      refine ⟨ps, p, u, k, rfl, ok, hk, so, ?_, rfl, rfl⟩
      rcases List.mem_cons.mp hu with rfl | hu
      · exact hw
      · rw [List.mem_singleton.mp hu]
        exact hv
    simp only [List.map_cons, List.map_nil]
    walk_at "go"
    refine VOp.inDeep (u65 hr) rfl (shaped_oss [_, _]) ?_
    rw [in_none2]
    unfold bothOf at h
    cases e1 : walkedTo p.rows w with
    | none =>
      rw [e1] at h
      walk_at "go"
      exact h
    | some s =>
      cases e2 : walkedTo p.rows v with
      | none =>
        rw [e1, e2] at h
        walk_at "go"
        exact h
      | some t =>
        rw [e1, e2] at h
        walk_at "go"
        exact h
theorem df_agree_holds (T : Tx w K mg) (D_both_walked : Df P w K mg base 9 "both_walked" ["program", "number", "things"] aBoth) : Df P w K mg base 10 "agree_holds" ["program", "number", "things"] aAgreeHolds := by
  refine df_mk T.d_agree_holds sc_agree_holds (fun rs M P h => ?_) (fun _ _ _ _ _ _ us hl => match us, hl with | [_, _, _], _ => rfl) fun f cdv A outer s H E hr rs M PP h => ?_
  · obtain ⟨_, _, _, _, _, rfl, _⟩ := h
    rfl
  · obtain ⟨ps, p, w, v, k, rfl, ok, hk, so, hw, hv, h⟩ := h
    walk_at "go"
    refine SvX.set (i := 3) ?_ ?_ ?_ ?_ (hs := ?_) (hf := ?_)
    · exact sc_agree_holds.nd
    · rfl
    · first | exact .inl rfl | exact .inr rfl
    rotate_left
    · first | with_reducible exact swap_lst | rfl
    · first | exact .inl rfl | exact .inr rfl
    walk_at "go"
    refine ⟨ps, p, w, v, k, rfl, ok, hk, so, hw, hv, ?_⟩
    unfold agreeB at h
    cases e : bothOf p.rows w v with
    | none =>
      rw [e] at h
      walk_at "go"
      exact h
    | some st =>
      obtain ⟨s, t⟩ := st
      rw [e] at h
      walk_at "go"
      refine VOp.eq hr.units (shaped_st _) (shaped_st _) ?_
      rw [eqv_st]
      exact h
theorem df_apart_holds (T : Tx w K mg) (D_both_walked : Df P w K mg base 9 "both_walked" ["program", "number", "things"] aBoth) : Df P w K mg base 10 "apart_holds" ["program", "number", "things"] aApartHolds := by
  refine df_mk T.d_apart_holds sc_apart_holds (fun rs M P h => ?_) (fun _ _ _ _ _ _ us hl => match us, hl with | [_, _, _], _ => rfl) fun f cdv A outer s H E hr rs M PP h => ?_
  · obtain ⟨_, _, _, _, _, rfl, _⟩ := h
    rfl
  · obtain ⟨ps, p, w, v, k, rfl, ok, hk, so, hw, hv, h⟩ := h
    walk_at "go"
    refine SvX.set (i := 3) ?_ ?_ ?_ ?_ (hs := ?_) (hf := ?_)
    · exact sc_apart_holds.nd
    · rfl
    · first | exact .inl rfl | exact .inr rfl
    rotate_left
    · first | with_reducible exact swap_lst | rfl
    · first | exact .inl rfl | exact .inr rfl
    walk_at "go"
    refine ⟨ps, p, w, v, k, rfl, ok, hk, so, hw, hv, ?_⟩
    unfold apartB at h
    cases e : bothOf p.rows w v with
    | none =>
      rw [e] at h
      walk_at "go"
      exact h
    | some st =>
      obtain ⟨s, t⟩ := st
      rw [e] at h
      walk_at "go"
      refine VOp.ne hr.units (shaped_st _) (shaped_st _) ?_
      rw [eqv_st]
      exact h
end
section
variable {P : Program} {w : World} {K : PySem.W.Frag} {mg : Str → Option Value} {base : Heap}
theorem zipL (w : List Int) : zipD (w.map .int) ((w.drop 1).map .int) = (w.zip (w.drop 1)).map fun q => .dat (.tuple [.int q.1, .int q.2]) := by
  unfold zipD
  rw [List.zipWith_map, List.zip, List.map_zipWith]
theorem rises_all : ∀ w : List Int, (w.zip (w.drop 1)).all (fun q => decide (q.1 < q.2)) = risesL w
  | [] => rfl
  | [a] => rfl
  | a :: b :: cs => by
    have ih := rises_all (b :: cs)
    simp only [List.drop_succ_cons, List.drop_zero, List.zip_cons_cons, List.all_cons, risesL] at *
    rw [ih]
theorem df_unmet_holds (T : Tx w K mg) (D_is_sound_part : Df P w K mg base 8 "is_sound_part" ["program", "number"] aIsSound) (D_is_whole : Df P w K mg base 1 "is_whole" ["thing"] aIsWhole) (D_are_rows : Df P w K mg base 2 "are_rows" ["rows", "thing"] aAreRows) (D_goals_of : Df P w K mg base 3 "goals_of" ["program", "rows", "at"] aGoalsOf) : Df P w K mg base 10 "unmet_holds" ["program", "number", "things"] aUnmetHolds := by
  refine df_mk T.d_unmet_holds sc_unmet_holds (fun rs M P h => ?_) (fun _ _ _ _ _ _ us hl => match us, hl with | [_, _, _], _ => rfl) fun f cdv A outer s H E hr rs M PP h => ?_
  · obtain ⟨_, _, _, _, _, rfl, _⟩ := h
    rfl
  · obtain ⟨ps, p, d, w, k, rfl, ok, hk, hz, h⟩ := h
    have pk := ok.parts p (List.mem_of_getElem? hk)
    have hkx : atI (ps.map Pt.d) (k : Int) = some p.d := atI_map hk
    have b_len := T.b_len; have b_all := T.b_all; have b_zip := T.b_zip
    walk_at "go"
    rcases h with ⟨so, h⟩ | ⟨la, h⟩
    · refine ⟨ps, p, k, rfl, ok, hk, .inl ⟨so, ?_⟩⟩
      walk_at "go"
      refine SvX.asg (pg_tup (by rfl) (pgs_cons (pg_name (i := 3) sc_unmet_holds.nd rfl (by first | exact .inl rfl | exact .inr rfl)) (pgs_cons (pg_name (i := 4) sc_unmet_holds.nd rfl (by first | exact .inl rfl | exact .inr rfl)) pgs_nil))) ?_
      walk_at "go"
      refine ⟨_, _, (TgD.tup rfl (TgsD.cons (TgD.name 3) (TgsD.cons (TgD.name 4) TgsD.nil))), ?_⟩
      walk_at "go"
      refine SvX.set (i := 5) ?_ ?_ ?_ ?_ (hs := ?_) (hf := ?_)
      · exact sc_unmet_holds.nd
      · rfl
      · first | exact .inl rfl | exact .inr rfl
      rotate_left
      · first | with_reducible exact swap_lst | rfl
      · first | exact .inl rfl | exact .inr rfl
      walk_at "go"
      refine ⟨_, rfl, ?_⟩
      unfold unmetOk at h
      cases d with
      | int i =>
        dsimp only at h
        walk_at "go"
        by_cases h0 : 0 ≤ i
        · rw [decide_eq_true h0]
          walk_at "go"
          rw [List.length_map]
          by_cases h1 : i < (p.rows.length : Int)
          · rw [decide_eq_true h1]
            rw [show inRows p.rows i = true from decide_eq_true ⟨h0, h1⟩] at h
            walk_at "go"
            refine ⟨p.rows, w, rfl, hz, ?_⟩
            cases h2 : (!w.isEmpty && w.all (inRows p.rows)) with
            | false =>
              rw [h2] at h
              walk_at "go"
              exact h
            | true =>
              rw [h2] at h
              walk_at "go"
              cases w with
              | nil => cases h2
              | cons a gs =>
                walk_at "go"
                by_cases h3 : a = 0
                · subst h3
                  rw [decide_eq_true rfl]
                  walk_at "go"
                  refine VOp.inInts (0 :: gs) ?_
                  by_cases h4 : i ∈ (0 :: gs)
                  · rw [decide_eq_true h4] at h ⊢
                    walk_at "go"
                    exact h
                  · rw [decide_eq_false h4] at h ⊢
                    walk_at "go"
                    refine EvX.lc (g := (gTup K 2 (gCons (gName 8) (gCons (gName 9) gNil)))) rfl sc_unmet_holds.nd (blkOk_by (N := n_unmet_holds) (sc := defScope st_unmet_holds) (own := [("one", 8), ("other", 9)]) (by decide +kernel)) (fun _ _ _ _ _ => (pg_tup (by rfl) (pgs_cons (pg_name (i := 8) sc_unmet_holds.nd rfl (by first | exact .inl rfl | exact .inr rfl)) (pgs_cons (pg_name (i := 9) sc_unmet_holds.nd rfl (by first | exact .inl rfl | exact .inr rfl)) pgs_nil)))) ?_
                    refine IvX.zip (by assumption) ?_
                    walk_at "go"
                    refine ⟨_, _, rfl, ?_⟩
                    rw [cut_tail, ← List.map_drop, zipL]
                    refine lcMapTA ((0 :: gs).zip ((0 :: gs).drop 1)) _ (fun q => .bool (decide (q.1 < q.2))) (size_big (by simp at hz ⊢; omega)) (fun q hq => ?_) ?_
                    · refine ⟨_, _, ?_, (TgD.tup rfl (TgsD.cons (TgD.name 8) (TgsD.cons (TgD.name 9) TgsD.nil))), ?_⟩
                      · decide
                      intro s0 H0 C cl fp
                      walk_at "go"
                      exact ⟨rfl, rfl⟩
                    walk_at "go"
                    rw [rises_all]
                    cases h5 : risesL (0 :: gs) with
                    | false =>
                      rw [h5] at h
                      walk_at "go"
                      exact h
                    | true =>
                      rw [h5] at h
                      walk_at "go"
                      refine EvX.lc2B (vs1 := [7]) (g := gName 6) (g1 := gName 7) rfl sc_unmet_holds.nd (blkOk_by (N := n_unmet_holds) (sc := defScope st_unmet_holds) (own := [("at", 6), ("goal", 7)]) (by decide +kernel)) (by decide) (fun _ _ _ _ _ => (pg_name (i := 6) sc_unmet_holds.nd rfl (by first | exact .inl rfl | exact .inr rfl))) (fun _ _ _ _ _ => (pg_name (i := 7) sc_unmet_holds.nd rfl (by first | exact .inl rfl | exact .inr rfl))) ?_
                      refine IvX.list ?_
                      walk_at "go"
                      rw [List.map_map]
                      refine ⟨fun r => match r with
                        | .dat (.int a) => (match p.rows[a.toNat]? with
                          | none => true
                          | some r => (goalsOf p.rows r a).all fun g => decide (g ∈ (0 :: gs)))
                        | _ => true, by rw [List.length_map]; exact hz, fun r hr1 => ?_, fun bs hb => ?_⟩
                      · obtain ⟨b, hb, rfl⟩ := List.mem_map.mp hr1
                        have hb1 : inRows p.rows b = true := List.all_eq_true.mp h2 b hb
                        have hb2 : 0 ≤ b ∧ b < (p.rows.length : Int) := by simpa [inRows] using hb1
                        obtain ⟨c, rfl⟩ := Int.eq_ofNat_of_zero_le hb2.1
                        have hcl : c < p.rows.length := by omega
                        have hrow : p.rows[c]? = some p.rows[c] := by simp [hcl]
                        refine ⟨_, [6], by decide, TgD.name 6, ?_⟩
                        intro s0 H0 C cl fp
                        refine IvX.list ?_
                        walk_at "go"
                        refine ⟨_, p.rows, p.rows[c], _, c, rfl, hrow, pk.rows c _ hrow, ?_⟩
                        walk_at "go"
                        rw [List.map_map]
                        refine ⟨rfl, ?_, fun r => match r with
                          | .dat (.int g) => decide (g ∈ (0 :: gs))
                          | _ => true, ?_, fun r1 hr2 => ?_⟩
                        · rw [List.length_map]
                          unfold goalsOf
                          rw [List.length_map]
                          exact Nat.le_trans (List.length_filter_le ..) (Nat.le_trans (leads_few ..) (by decide))
                        · rw [List.all_map]
                          show _ = (match p.rows[((c : Nat) : Int).toNat]? with
                            | none => true
                            | some r => (goalsOf p.rows r ((c : Nat) : Int)).all fun g => decide (g ∈ (0 :: gs)))
                          rw [Int.toNat_natCast, hrow]
                          rfl
                        · obtain ⟨g, hg, rfl⟩ := List.mem_map.mp hr2
                          refine ⟨_, [7], by decide, TgD.name 7, ?_⟩
                          intro s0 H0 C cl fp
                          walk_at "go"
                          refine VOp.inInts (0 :: gs) ?_
                          exact ⟨rfl, rfl⟩
                      · walk_at "go"
                        have hb : (bs.all fun x => x) = _ := hb
                        rw [hb, List.all_map]
                        exact h
                · rw [decide_eq_false h3]
                  rw [show decide ((a :: gs).head? = some 0) = false from decide_eq_false fun z => h3 (Option.some.inj z)] at h
                  walk_at "go"
                  exact h
          · rw [decide_eq_false h1]
            rw [show inRows p.rows i = false from decide_eq_false fun z => h1 z.2] at h
            walk_at "go"
            exact h
        · rw [decide_eq_false h0]
          rw [show inRows p.rows i = false from decide_eq_false fun z => h0 z.1] at h
          walk_at "go"
          exact h
      | _ =>
        walk_at "go"
        exact h
    · refine ⟨ps, p, k, rfl, ok, hk, .inr ⟨la, ?_⟩⟩
      walk_at "go"
      exact h
end
section
variable {P : Program} {w : World} {K : PySem.W.Frag} {mg : Str → Option Value} {base : Heap}
theorem df_is_sound_part (T : Tx w K mg) (kit : FoundKit P w K mg base) : Df P w K mg base 8 "is_sound_part" ["program", "number"] aIsSound := by
  refine df_mk T.d_is_sound_part sc_is_sound_part (fun rs M P h => ?_) (fun _ _ _ _ _ _ us hl => match us, hl with | [_, _], _ => rfl) fun f cdv A outer s H E hr rs M PP h => ?_
  · obtain ⟨_, _, _, rfl, _⟩ := h
    rfl
  · obtain ⟨ps, p, k, rfl, ok, hk, h⟩ := h
    walk_at "go"
    refine EvX.fldOD ?_
    refine EvX.found kit (hr.mono (by decide)) ?_
    walk_at "go"
    refine ⟨ps, p, k, rfl, rfl, ok, hk, ?_⟩
    rcases h with ⟨so, h⟩ | ⟨la, h⟩
    · refine .inl ⟨so, fun C st wk ic fo => ⟨C, _, .none, rfl, rfl, ic.c, ic.n6, ?_⟩⟩
      walk_at "go"
      exact h
    · refine .inr ⟨la, fun C fs z ic e => ⟨C, _, .tuple z, rfl, e, ic.c, ic.n6, ?_⟩⟩
      walk_at "go"
      exact h
theorem df_look_part_sound (T : Tx w K mg) (kit : FoundKit P w K mg base) : Df P w K mg base 8 "look_part_sound" ["program", "number"] (aLookSound K mg) := by
  refine df_mk T.d_look_part_sound sc_look_part_sound (fun rs M P h => ?_) (fun _ _ _ _ _ _ us hl => match us, hl with | [_, _], _ => rfl) fun f cdv A outer s H E hr rs M PP h => ?_
  · obtain ⟨_, _, _, rfl, _⟩ := h
    rfl
  · obtain ⟨ps, p, k, rfl, ok, hk, so, h⟩ := h
    walk_at "go"
    refine SvX.set (i := 2) ?_ ?_ ?_ ?_ (hs := ?_) (hf := ?_)
    · exact sc_look_part_sound.nd
    · rfl
    · first | exact .inl rfl | exact .inr rfl
    rotate_left
    · first | with_reducible exact swap_lst | rfl
    · first | exact .inl rfl | exact .inr rfl
    refine EvX.found kit (hr.mono (by decide)) ?_
    walk_at "go"
    refine ⟨ps, p, k, rfl, rfl, ok, hk, .inl ⟨so, fun C st wk ic fo => ?_⟩⟩
    walk_at "go"
    refine EvX.fldOD ?_
    walk_at "go"
    refine ⟨C, _, .none, rfl, rfl, ic.c, ic.n6, ?_⟩
    walk_at "go"
    exact h C st wk ic fo
theorem df_agrees (T : Tx w K mg) (kit : FoundKit P w K mg base) : Df P w K mg base 8 "agrees" ["program", "number", "one", "other"] aAgrees := by
  refine df_mk T.d_agrees sc_agrees (fun rs M P h => ?_) (fun _ _ _ _ _ _ us hl => match us, hl with | [_, _, _, _], _ => rfl) fun f cdv A outer s H E hr rs M PP h => ?_
  · obtain ⟨_, _, _, _, _, rfl, _⟩ := h
    rfl
  · obtain ⟨ps, p, k, a, b, rfl, ok, hk, so, ha, hb, h⟩ := h
    walk_at "go"
    refine SvX.set (i := 4) ?_ ?_ ?_ ?_ (hs := ?_) (hf := ?_)
    · exact sc_agrees.nd
    · rfl
    · first | exact .inl rfl | exact .inr rfl
    rotate_left
    · first | with_reducible exact swap_lst | rfl
    · first | exact .inl rfl | exact .inr rfl
    refine EvX.fldOD ?_
    refine EvX.found kit (hr.mono (by decide)) ?_
    walk_at "go"
    refine ⟨ps, p, k, rfl, rfl, ok, hk, .inl ⟨so, fun C st wk ic fo => ?_⟩⟩
    refine ⟨C, _, .list (st.map osD), rfl, rfl, ic.c, ic.n4, ?_⟩
    have hl := fo.ls
    have sa : st[a]? = some st[a] := by simp [hl, ha]
    have sb : st[b]? = some st[b] := by simp [hl, hb]
    have xa : atI (st.map osD) (a : Int) = some (osD st[a]) := atI_map sa
    have xb : atI (st.map osD) (b : Int) = some (osD st[b]) := atI_map sb
    walk_at "go"
    cases ea : st[a] with
    | none =>
      walk_at "go"
      refine h false ⟨(fun z => by cases z), fun ⟨s, z, _⟩ => ?_⟩
      have := (fo.met a s).mpr z
      rw [sa, ea] at this
      cases this
    | some s =>
      walk_at "go"
      refine VOp.eq hr.units (shaped_os _) (shaped_os _) ?_
      rw [eqv_os, ea]
      refine h _ ?_
      rw [decide_eq_true_iff]
      constructor
      · intro e
        exact ⟨s, (fo.met a s).mp (by rw [sa, ea]), (fo.met b s).mp (by rw [sb, ← e])⟩
      · rintro ⟨t, z1, z2⟩
        have y1 := (fo.met a t).mpr z1
        have y2 := (fo.met b t).mpr z2
        rw [sa, ea] at y1
        rw [sb] at y2
        cases y1
        exact (Option.some.inj y2).symm
theorem df_agree (T : Tx w K mg) (D_look_program : Df P w K mg base 5 "look_program" ["thing"] aLookProg) (D_number_of : Df P w K mg base 2 "number_of" ["program", "part"] aNumber) (D_look_row : Df P w K mg base 2 "look_row" ["program", "number", "row"] aLookRow) (D_look_part_sound : Df P w K mg base 8 "look_part_sound" ["program", "number"] (aLookSound K mg)) (D_agrees : Df P w K mg base 8 "agrees" ["program", "number", "one", "other"] aAgrees) : Df P w K mg base 9 "agree" ["program", "part", "one", "other"] aAgree := by
  refine df_mk T.d_agree sc_agree (fun rs M P h => ?_) (fun _ _ _ _ _ _ us hl => match us, hl with | [_, _, _, _], _ => rfl) fun f cdv A outer s H E hr rs M PP h => ?_
  · obtain ⟨_, _, _, _, rfl, _⟩ := h
    rfl
  · obtain ⟨ps, p, a, b, rfl, ok, hp, so, ha, hb, h⟩ := h
    obtain ⟨k, hkl, hk⟩ := List.getElem_of_mem hp
    have hk : ps[k]? = some p := by simp [hkl, hk]
    walk_at "go"
    refine ⟨ps, rfl, ok, ?_⟩
    walk_at "go"
    refine SvX.set (i := 4) ?_ ?_ ?_ ?_ (hs := ?_) (hf := ?_)
    · exact sc_agree.nd
    · rfl
    · first | exact .inl rfl | exact .inr rfl
    rotate_left
    · first | with_reducible exact swap_lst | rfl
    · first | exact .inl rfl | exact .inr rfl
    walk_at "go"
    refine ⟨ps, p, k, rfl, ok, hk, ?_⟩
    walk_at "go"
    refine ⟨ps, p, k, a, rfl, hk, ha, ?_⟩
    walk_at "go"
    refine ⟨ps, p, k, b, rfl, hk, hb, ?_⟩
    walk_at "go"
    refine ⟨ps, p, k, rfl, ok, hk, so, fun C st wk ic fo => ?_⟩
    walk_at "go"
    exact ⟨ps, p, k, a, b, rfl, ok, hk, so, ha, hb, h⟩
end
section
variable {P : Program} {w : World} {K : PySem.W.Frag} {mg : Str → Option Value} {base : Heap}
/-- the rows that stand -/
def metRows (st : List (Option Stg)) : List Int := (st.zipIdx.filter fun q => q.1.isSome).map fun q => (q.2 : Int)
theorem met_ok {rows : List Rw} {st : List (Option Stg)} {wk : List (Option (List Int))} (fo : FoundOk rows st wk) : MetL rows (metRows st) := by
  refine ⟨?_, fun i => ?_⟩
  · unfold metRows
    refine List.pairwise_map.mpr (List.Pairwise.filter _ ?_)
    have e : (st.zipIdx.map (·.2)).Pairwise (· < ·) := by
      rw [List.zipIdx_map_snd]
      exact List.pairwise_lt_range'
    exact (List.pairwise_map.mp e).imp fun h => Int.ofNat_lt.mpr h
  · unfold metRows
    rw [List.mem_map]
    constructor
    · rintro ⟨⟨o, a⟩, hq, rfl⟩
      obtain ⟨h1, h2⟩ := List.mem_filter.mp hq
      have h1 := List.mem_zipIdx_iff_getElem?.mp h1
      cases o with
      | none => cases h2
      | some s => exact ⟨a, rfl, s, (fo.met a s).mp h1⟩
    · rintro ⟨a, rfl, s, hs⟩
      exact ⟨(some s, a), List.mem_filter.mpr ⟨List.mem_zipIdx_iff_getElem?.mpr ((fo.met a s).mpr hs), rfl⟩, rfl⟩
theorem met_len (st : List (Option Stg)) : (metRows st).length ≤ st.length := by
  unfold metRows
  rw [List.length_map]
  refine Nat.le_trans (List.length_filter_le ..) ?_
  rw [List.length_zipIdx]
  exact Nat.le_refl _
theorem df_rows_paper (T : Tx w K mg) (D_look_program : Df P w K mg base 5 "look_program" ["thing"] aLookProg) (D_number_of : Df P w K mg base 2 "number_of" ["program", "part"] aNumber) (D_look_row : Df P w K mg base 2 "look_row" ["program", "number", "row"] aLookRow) (D_look_part_sound : Df P w K mg base 8 "look_part_sound" ["program", "number"] (aLookSound K mg)) : Df P w K mg base 9 "rows_paper" ["program", "part", "one", "other"] aPaper := by
  refine df_mk T.d_rows_paper sc_rows_paper (fun rs M P h => ?_) (fun _ _ _ _ _ _ us hl => match us, hl with | [_, _, _, _], _ => rfl) fun f cdv A outer s H E hr rs M PP h => ?_
  · obtain ⟨_, _, _, _, rfl, _⟩ := h
    rfl
  · obtain ⟨ps, p, a, b, rfl, ok, hp, so, ha, hb, hu, hm⟩ := h
    obtain ⟨k, hkl, hk⟩ := List.getElem_of_mem hp
    have hk : ps[k]? = some p := by simp [hkl, hk]
    have b_list := T.b_list; have b_enumerate := T.b_enumerate
    walk_at "go"
    refine ⟨ps, rfl, ok, ?_⟩
    walk_at "go"
    refine SvX.set (i := 4) ?_ ?_ ?_ ?_ (hs := ?_) (hf := ?_)
    · exact sc_rows_paper.nd
    · rfl
    · first | exact .inl rfl | exact .inr rfl
    rotate_left
    · first | with_reducible exact swap_lst | rfl
    · first | exact .inl rfl | exact .inr rfl
    walk_at "go"
    refine ⟨ps, p, k, rfl, ok, hk, ?_⟩
    walk_at "go"
    refine ⟨ps, p, k, a, rfl, hk, ha, ?_⟩
    walk_at "go"
    refine ⟨ps, p, k, b, rfl, hk, hb, ?_⟩
    walk_at "go"
    refine SvX.set (i := 5) ?_ ?_ ?_ ?_ (hs := ?_) (hf := ?_)
    · exact sc_rows_paper.nd
    · rfl
    · first | exact .inl rfl | exact .inr rfl
    rotate_left
    · first | with_reducible exact swap_lst | rfl
    · first | exact .inl rfl | exact .inr rfl
    walk_at "go"
    refine ⟨ps, p, k, rfl, ok, hk, so, fun C st wk ic fo => ?_⟩
    have hl := fo.ls
    have hw := fo.lw
    have sa : st[a]? = some st[a] := by simp [hl, ha]
    have sb : st[b]? = some st[b] := by simp [hl, hb]
    have xa : atI (st.map osD) (a : Int) = some (osD st[a]) := atI_map sa
    have xb : atI (st.map osD) (b : Int) = some (osD st[b]) := atI_map sb
    have ic1 := ic.c
    have ic4 := ic.n4
    have ic5 := ic.n5
    walk_at "go"
    refine SvX.for PassesOwn.never rfl (pg_name (i := 6) sc_rows_paper.nd rfl (by first | exact .inl rfl | exact .inr rfl)) ?_
    refine IvX.tup ?_
    walk_at "go"
    have pk := ok.parts p hp
    have n60 := pk.many
    refine ⟨fun i δ1 M2 => M2 = M ∧ (1 ≤ i → isR p.rows a) ∧ (2 ≤ i → isR p.rows b) ∧ ∃ x, δ1 = [some (.dat (pgD ps)), some (.dat (.str p.name)), some (.dat (.int a)), some (.dat (.int b)), some (.dat (.int k)), some (.obj C (foundFs (pgD ps) p st wk)), x, none, none, none],
      ⟨rfl, (fun z => by omega), (fun z => by omega), none, rfl⟩, fun i r δ1 M2 hi hI => ?_, fun δ1 M2 hI => ?_⟩
    · obtain ⟨rfl, ia, ib, x, rfl⟩ := hI
      obtain ⟨c, hc, rfl, hun, hnx⟩ : ∃ c : Nat, c < p.rows.length ∧ r = .dat (.int c) ∧ (¬ isR p.rows c → PP (.dat (.tuple [.str "unmet", .str p.name, .int c, .list ((metRows st).map .int)])) M2) ∧ (isR p.rows c → (1 ≤ i + 1 → isR p.rows a) ∧ (2 ≤ i + 1 → isR p.rows b)) := by
        have hu := hu _ (met_ok fo) (by have := met_len st; omega)
        match i, hi with
        | 0, hi =>
          obtain rfl : Sd.dat (.int (a : Int)) = r := Option.some.inj hi
          exact ⟨a, ha, rfl, hu.1, fun z => ⟨fun _ => z, fun q => by omega⟩⟩
        | 1, hi =>
          obtain rfl : Sd.dat (.int (b : Int)) = r := Option.some.inj hi
          exact ⟨b, hb, rfl, hu.2 (ia (Nat.le_refl _)), fun z => ⟨fun _ => ia (Nat.le_refl _), fun _ => z⟩⟩
      have sc : st[c]? = some st[c] := by simp [hl, hc]
      have xc : atI (st.map osD) (c : Int) = some (osD st[c]) := atI_map sc
      refine ⟨_, _, TgD.name 6, ?_⟩
      walk_at "go"
      refine EvX.fldOD ?_
      walk_at "go"
      refine ⟨C, _, .list (st.map osD), rfl, rfl, ic1, ic4, ?_⟩
      walk_at "go"
      cases ec : st[c] with
      | none =>
        walk_at "go"
        refine EvX.lc (g := (gTup K 2 (gCons (gName 8) (gCons (gName 9) gNil)))) rfl sc_rows_paper.nd (blkOk_by (N := n_rows_paper) (sc := defScope st_rows_paper) (own := [("at", 8), ("standing", 9)]) (by decide +kernel)) (fun _ _ _ _ _ => (pg_tup (by rfl) (pgs_cons (pg_name (i := 8) sc_rows_paper.nd rfl (by first | exact .inl rfl | exact .inr rfl)) (pgs_cons (pg_name (i := 9) sc_rows_paper.nd rfl (by first | exact .inl rfl | exact .inr rfl)) pgs_nil)))) ?_
        refine IvX.enumL (by assumption) ?_
        refine EvX.fldOD ?_
        walk_at "go"
        refine ⟨C, _, .list (st.map osD), rfl, rfl, ic1, ic4, ?_⟩
        walk_at "go"
        rw [List.mapIdx_eq_zipIdx_map, List.zipIdx_map, List.map_map]
        refine lcFilTA st.zipIdx (fun q => .dat (.tuple [.int (q.2 : Nat), osD q.1])) (fun q => q.1.isSome) (fun q => .int (q.2 : Nat)) (size_big (by rw [List.length_zipIdx]; omega)) (fun q hq => ?_) ?_
        · refine ⟨_, _, ?_, (TgD.tup rfl (TgsD.cons (TgD.name 8) (TgsD.cons (TgD.name 9) TgsD.nil))), ?_, fun _ => ?_⟩
          · decide
          · intro s0 H0 C cl fp
            walk_at "go"
            refine ⟨rfl, ?_⟩
            cases q.1 <;> rfl
          · intro s0 H0 C cl fp
            walk_at "go"
            exact ⟨rfl, rfl⟩
        · walk_at "go"
          have e : (st.zipIdx.filter fun q => q.1.isSome).map (fun q => PyData.int (q.2 : Nat)) = (metRows st).map .int := by
            unfold metRows
            rw [List.map_map]
            rfl
          rw [e]
          refine hun fun ⟨s, z⟩ => ?_
          have z := (fo.met c s).mpr z
          rw [sc, ec] at z
          cases z
      | some s =>
        walk_at "go"
        obtain ⟨n1, n2⟩ := hnx ⟨s, (fo.met c s).mp (by rw [sc, ec])⟩
        exact ⟨rfl, n1, n2, _, rfl⟩
    · obtain ⟨rfl, ia, ib, x, rfl⟩ := hI
      obtain ⟨s, rs⟩ := ia (by simp)
      obtain ⟨t, rt⟩ := ib (by simp)
      have ea := (fo.met a s).mpr rs
      have eb := (fo.met b t).mpr rt
      obtain ⟨wa, wa1, wa2, wa3, wa4⟩ := fo.walk a s ea
      obtain ⟨wb, wb1, wb2, wb3, wb4⟩ := fo.walk b t eb
      have ya : atI (wk.map wD) (a : Int) = some (.list (wa.map .int)) := atI_map wa1
      have yb : atI (wk.map wD) (b : Int) = some (.list (wb.map .int)) := atI_map wb1
      rw [sa] at ea
      rw [sb] at eb
      walk_at "go"
      refine SvX.set (i := 7) ?_ ?_ ?_ ?_ (hs := ?_) (hf := ?_)
      · exact sc_rows_paper.nd
      · rfl
      · first | exact .inl rfl | exact .inr rfl
      rotate_left
      · first | with_reducible exact swap_lst | rfl
      · first | exact .inl rfl | exact .inr rfl
      walk_at "go"
      refine EvX.fldOD ?_
      walk_at "go"
      refine ⟨C, _, .list (st.map osD), rfl, rfl, ic1, ic4, ?_⟩
      walk_at "go"
      refine EvX.fldOD ?_
      walk_at "go"
      refine ⟨C, _, .list (st.map osD), rfl, rfl, ic1, ic4, ?_⟩
      walk_at "go"
      refine VOp.eq hr.units (shaped_os _) (shaped_os _) ?_
      rw [eqv_os, Option.some.inj ea, Option.some.inj eb]
      have hm := hm s t wa wb rs rt wa3 wb3 wa2 wb2 wa4 wb4
      by_cases e : s = t
      · subst e
        rw [decide_eq_true rfl]
        rw [if_pos rfl] at hm
        walk_at "go"
        refine EvX.fldOD ?_
        walk_at "go"
        refine ⟨C, _, .list (wk.map wD), rfl, rfl, ic1, ic5, ?_⟩
        walk_at "go"
        refine COp.listLM (fun q hq => ?_)
        walk_at "go"
        refine EvX.fldOD ?_
        walk_at "go"
        refine ⟨C, _, .list (wk.map wD), rfl, rfl, ic1, ic5, ?_⟩
        walk_at "go"
        refine COp.listL ?_
        walk_at "go"
        refine ⟨[.dat (.str "agree"), .dat (.str p.name), .raw (.ref q), .dat (.list (wb.map .int))], rfl, sz4, ?_⟩
        have hm := hm q hq
        rw [List.map_map]
        exact hm
      · have e' : ¬ some s = some t := fun z => e (Option.some.inj z)
        rw [decide_eq_false e']
        rw [if_neg e] at hm
        walk_at "go"
        refine EvX.fldOD ?_
        walk_at "go"
        refine ⟨C, _, .list (wk.map wD), rfl, rfl, ic1, ic5, ?_⟩
        walk_at "go"
        refine COp.listLM (fun q hq => ?_)
        walk_at "go"
        refine EvX.fldOD ?_
        walk_at "go"
        refine ⟨C, _, .list (wk.map wD), rfl, rfl, ic1, ic5, ?_⟩
        walk_at "go"
        refine COp.listL ?_
        walk_at "go"
        refine ⟨[.dat (.str "apart"), .dat (.str p.name), .raw (.ref q), .dat (.list (wb.map .int))], rfl, sz4, ?_⟩
        have hm := hm q hq
        rw [List.map_map]
        exact hm
end
section
variable {P : Program} {w : World} {K : PySem.W.Frag} {mg : Str → Option Value} {base : Heap}
theorem says_name {ps : List Pt} {d : PyData} {q : Bool} (h : Says ps d q) : ∃ (z : Str) (p : Pt) (x y : PyData), p ∈ ps ∧ d = .tuple [.str z, .str p.name, x, y] ∧ (z = "agree" ∨ z = "apart" ∨ z = "unmet") := by
  cases h with
  | agree h1 => exact ⟨_, _, _, _, h1, rfl, .inl rfl⟩
  | apart h1 => exact ⟨_, _, _, _, h1, rfl, .inr (.inl rfl)⟩
  | unmet h1 => exact ⟨_, _, _, _, h1, rfl, .inr (.inr rfl)⟩
  | lack h1 => exact ⟨_, _, _, _, h1, rfl, .inr (.inr rfl)⟩
theorem df_holds (T : Tx w K mg) (D_look_program : Df P w K mg base 5 "look_program" ["thing"] aLookProg) (D_part_at : Df P w K mg base 1 "part_at" ["program", "name"] aPartAt) (D_agree_holds : Df P w K mg base 10 "agree_holds" ["program", "number", "things"] aAgreeHolds) (D_apart_holds : Df P w K mg base 10 "apart_holds" ["program", "number", "things"] aApartHolds) (D_unmet_holds : Df P w K mg base 10 "unmet_holds" ["program", "number", "things"] aUnmetHolds) : Df P w K mg base 11 "holds" ["program", "thing"] aHolds := by
  refine df_mk T.d_holds sc_holds (fun rs M P h => ?_) (fun _ _ _ _ _ _ us hl => match us, hl with | [_, _], _ => rfl) fun f cdv A outer s H E hr rs M PP h => ?_
  · obtain ⟨_, _, _, rfl, _⟩ := h
    rfl
  · obtain ⟨ps, d, q, rfl, ok, sy, h⟩ := h
    obtain ⟨al, es, nl, l1, l2, l3⟩ := T.looks
    have b_isinstance := T.b_isinstance; have b_tuple := T.b_tuple; have b_str := T.b_str; have b_len := T.b_len
    have tail : ∀ (z y : Str) (p : Pt) (x u : PyData) (k : Nat) (a : ASp), p ∈ ps → ps[k]? = some p → (z, y) ∈ [(("agree" : Str), ("agree_holds" : Str)), ("apart", "apart_holds"), ("unmet", "unmet_holds")] → Df P w K mg base 10 y ["program", "number", "things"] a → a [.dat (pgD ps), .dat (.int k), .dat (.tuple [x, u])] M PP →
        BvX (bX P w K mg base n_holds "holds" st_holds f cdv A outer s H E) (defBody st_holds) (startD n_holds [.dat (pgD ps), .dat (.tuple [.str z, .str p.name, x, u])]) M (fun _ M' => PP (.dat .none) M') PP := by
      intro z y p x u k a hp hk hz D ha
      obtain ⟨f2, m2, n2⟩ := l3 (z, y) hz
      obtain ⟨f3, fd3, F3, g3, kp3, b3⟩ := D.ex
      have ef : f3 = f2 := by
        have m2 : mg y = some (.ref f2) := m2
        rw [m2] at g3
        cases g3
        rfl
      subst ef
      walk_at "go"
      refine ⟨ps, rfl, ok, ?_⟩
      walk_at "go"
      refine EvX.glob rfl l1 kn_ref ?_
      refine VOp.ninKd l2 n2 ?_
      walk_at "go"
      refine SvX.set (i := 2) ?_ ?_ ?_ ?_ (hs := ?_) (hf := ?_)
      · exact sc_holds.nd
      · rfl
      · first | exact .inl rfl | exact .inr rfl
      rotate_left
      · first | with_reducible exact swap_lst | rfl
      · first | exact .inl rfl | exact .inr rfl
      walk_at "go"
      refine ⟨ps, p, k, rfl, ok, hk, ?_⟩
      walk_at "go"
      refine SvX.set (i := 3) ?_ ?_ ?_ ?_ (hs := ?_) (hf := ?_)
      · exact sc_holds.nd
      · rfl
      · first | exact .inl rfl | exact .inr rfl
      rotate_left
      · first | with_reducible exact swap_lst | rfl
      · first | exact .inl rfl | exact .inr rfl
      walk_at "go"
      refine EvX.glob rfl l1 kn_ref ?_
      walk_at "go"
      refine IOp.kd (v := .ref f3) (r := .raw (.ref f3)) ⟨es, nl, .ref f3, l2.at_, l2.lit, n2, rfl⟩ (fun G => rfl) ?_
      walk_at "go"
      refine EvX.callL (j := 3) F3 (hr.mono (by decide)) kp3 b3 rfl ?_ (hc := fun ha => pe_callL F3 (hr.mono (by decide)) rfl (.inl rfl) kp3 b3 .nil pass0 ha)
      walk_at "go"
      rw [show cutD [PyData.str z, PyData.str p.name, x, u] (some 2) none = [x, u] from rfl]
      exact ha
    have hat : ∀ p ∈ ps, ∃ k : Nat, ps[k]? = some p := fun p hp => by
      obtain ⟨k, hkl, hk⟩ := List.getElem_of_mem hp
      exact ⟨k, by simp [hkl, hk]⟩
    cases sy with
    | @agree p u v h1 h2 h3 h4 =>
      obtain ⟨k, hk⟩ := hat p h1
      exact tail _ "agree_holds" p _ _ k aAgreeHolds h1 hk (by simp) D_agree_holds ⟨ps, p, u, v, k, rfl, ok, hk, h2, h3, h4, h⟩
    | @apart p u v h1 h2 h3 h4 =>
      obtain ⟨k, hk⟩ := hat p h1
      exact tail _ "apart_holds" p _ _ k aApartHolds h1 hk (by simp) D_apart_holds ⟨ps, p, u, v, k, rfl, ok, hk, h2, h3, h4, h⟩
    | @unmet p x u h1 h2 h3 =>
      obtain ⟨k, hk⟩ := hat p h1
      exact tail _ "unmet_holds" p _ _ k aUnmetHolds h1 hk (by simp) D_unmet_holds ⟨ps, p, x, u, k, rfl, ok, hk, h3, .inl ⟨h2, h⟩⟩
    | @lack p x u h1 h2 h3 =>
      obtain ⟨k, hk⟩ := hat p h1
      exact tail _ "unmet_holds" p _ _ k aUnmetHolds h1 hk (by simp) D_unmet_holds ⟨ps, p, x, u, k, rfl, ok, hk, h3, .inr ⟨h2, h⟩⟩
end
section
variable {P : Program} {w : World} {K : PySem.W.Frag} {mg : Str → Option Value} {base : Heap}
theorem far_bag (cell : Int) (at_ : Nat) (h : at_ ≤ 2) : BagOk 0 ((if cell < 0 then -cell else cell) * (if decide ((10 : Int) ^ (18 : Int).toNat ≤ (if cell < 0 then -cell else cell)) then 1 else 0), cell % 2147483647 + 20011 * at_, 0) := by
  have h1 : (0 : Int) ≤ (if cell < 0 then -cell else cell) := by split <;> omega
  have h2 := Int.emod_nonneg cell (show (2147483647 : Int) ≠ 0 by decide)
  have h3 := Int.emod_lt_of_pos cell (show (0 : Int) < 2147483647 by decide)
  refine ⟨Int.mul_nonneg h1 (b01 _).1, ?_, ?_, ?_, ?_⟩
  · dsimp only
    omega
  · dsimp only
    omega
  · dsimp only
    omega
  · dsimp only
    omega
theorem low_ok {b1 s : Int} (h1 : 0 ≤ b1) (h2 : b1 ≤ 2 ^ 32) (h3 : 0 ≤ s) (h4 : s ≤ 100001) : (b1 * (2 * s + 1) + 1907 * s * s + 83).natAbs < 2 ^ 64 := by
  have a := Int.mul_le_mul h2 (show 2 * s + 1 ≤ 200003 by omega) (by omega) (by decide)
  have b := Int.mul_le_mul (show 1907 * s ≤ 1907 * 100001 by omega) h4 h3 (by decide)
  have a0 := Int.mul_nonneg h1 (show 0 ≤ 2 * s + 1 by omega)
  have b0 := Int.mul_nonneg (show 0 ≤ 1907 * s by omega) h3
  generalize b1 * (2 * s + 1) = x at *
  generalize 1907 * s * s = y at *
  omega
theorem primes_at (i : Int) (h0 : 0 ≤ i) (h1 : i < 8) : ∃ p : Int, atI [PyData.int 2147483647, .int 2147483629, .int 2147483587, .int 2147483579, .int 2147483563, .int 2147483549, .int 2147483543, .int 2147483497] i = some (.int p) ∧ 0 < p ∧ p < 2147483648 := by
  have : i = 0 ∨ i = 1 ∨ i = 2 ∨ i = 3 ∨ i = 4 ∨ i = 5 ∨ i = 6 ∨ i = 7 := by omega
  rcases this with rfl | rfl | rfl | rfl | rfl | rfl | rfl | rfl <;> exact ⟨_, rfl, by decide, by decide⟩
theorem df_law_bag (T : Tx w K mg) : Df P w K mg base 1 "_law_bag" ["_law_script", "_law_at"] aBag := by
  refine df_mk T.d_law_bag sc_law_bag (fun rs M P h => ?_) (fun _ _ _ _ _ _ us hl => match us, hl with | [_, _], _ => rfl) fun f cdv A outer s H E hr rs M PP h => ?_
  · obtain ⟨_, _, rfl, _⟩ := h
    rfl
  · obtain ⟨ns, at_, rfl, hn, ha, h⟩ := h
    have b_len := T.b_len; have b_abs := T.b_abs; have b_int := T.b_int
    walk_at "go"
    refine SvX.set (i := 2) ?_ ?_ ?_ ?_ (hs := ?_) (hf := ?_)
    · exact sc_law_bag.nd
    · rfl
    · first | exact .inl rfl | exact .inr rfl
    rotate_left
    · first | with_reducible exact swap_lst | rfl
    · first | exact .inl rfl | exact .inr rfl
    walk_at "go"
    refine VOp.mul (.inl ⟨by decide, by decide⟩) ?_
    walk_at "go"
    by_cases e : (at_ : Int) < ns.length
    · rw [decide_eq_true e]
      walk_at "go"
      refine SvX.set (i := 2) ?_ ?_ ?_ ?_ (hs := ?_) (hf := ?_)
      · exact sc_law_bag.nd
      · rfl
      · first | exact .inl rfl | exact .inr rfl
      rotate_left
      · first | with_reducible exact swap_lst | rfl
      · first | exact .inl rfl | exact .inr rfl
      walk_at "go"
      have el : at_ < ns.length := by omega
      refine IOp.sq (j := ns[at_]) (atI_nat (by simp [el])) ?_
      walk_at "go"
      refine SvX.set (i := 3) ?_ ?_ ?_ ?_ (hs := ?_) (hf := ?_)
      · exact sc_law_bag.nd
      · rfl
      · first | exact .inl rfl | exact .inr rfl
      rotate_left
      · first | with_reducible exact swap_lst | rfl
      · first | exact .inl rfl | exact .inr rfl
      walk_at "go"
      refine VOp.pow ⟨by decide, by decide, by decide⟩ ?_
      walk_at "go"
      refine VOp.mul (.inr ⟨Int.lt_of_lt_of_le (by decide) (b01 _).1, Int.lt_of_le_of_lt (b01 _).2 (by decide)⟩) ?_
      walk_at "go"
      refine VOp.mod (by decide) ?_
      walk_at "go"
      refine VOp.mul (.inl ⟨by decide, by decide⟩) ?_
      walk_at "go"
      exact ⟨[.dat (.int _), .dat (.int _), .dat (.int 0)], rfl, sz3, fun q hq => h q _ hq (far_bag _ at_ ha)⟩
    · rw [decide_eq_false e]
      walk_at "go"
      refine SvX.set (i := 3) ?_ ?_ ?_ ?_ (hs := ?_) (hf := ?_)
      · exact sc_law_bag.nd
      · rfl
      · first | exact .inl rfl | exact .inr rfl
      rotate_left
      · first | with_reducible exact swap_lst | rfl
      · first | exact .inl rfl | exact .inr rfl
      walk_at "go"
      refine VOp.pow ⟨by decide, by decide, by decide⟩ ?_
      walk_at "go"
      refine VOp.mul (.inr ⟨Int.lt_of_lt_of_le (by decide) (b01 _).1, Int.lt_of_le_of_lt (b01 _).2 (by decide)⟩) ?_
      walk_at "go"
      refine VOp.mod (by decide) ?_
      walk_at "go"
      refine VOp.mul (.inl ⟨by decide, by decide⟩) ?_
      walk_at "go"
      exact ⟨[.dat (.int _), .dat (.int _), .dat (.int 0)], rfl, sz3, fun q hq => h q _ hq (far_bag _ at_ ha)⟩
theorem df_law_take (T : Tx w K mg) : Df P w K mg base 1 "_law_take" ["_law_bag_here", "_law_many"] aTake := by
  refine df_mk T.d_law_take sc_law_take (fun rs M P h => ?_) (fun _ _ _ _ _ _ us hl => match us, hl with | [_, _], _ => rfl) fun f cdv A outer s H E hr rs M PP h => ?_
  · obtain ⟨_, _, _, _, rfl, _⟩ := h
    rfl
  · obtain ⟨q, many, n, b, rfl, h1, h2, h3, hm, ok, h⟩ := h
    obtain ⟨b0, b1, b2⟩ := b
    obtain ⟨k1, k2, k3, k4, k5⟩ := ok
    dsimp only at k1 k2 k3 k4 k5
    walk_at "go"
    refine IOp.lstD hm (d := (.int b0)) rfl ?_
    walk_at "go"
    by_cases e : 0 < b0
    · rw [decide_eq_true e]
      walk_at "go"
      refine SvX.set (i := 6) ?_ ?_ ?_ ?_ (hs := ?_) (hf := ?_)
      · exact sc_law_take.nd
      · rfl
      · first | exact .inl rfl | exact .inr rfl
      rotate_left
      · first | with_reducible exact swap_lst | rfl
      · first | exact .inl rfl | exact .inr rfl
      walk_at "go"
      refine IOp.lstD hm (d := (.int b0)) rfl ?_
      walk_at "go"
      refine VOp.mod h1 ?_
      walk_at "go"
      refine SvX.setIx ?_
      walk_at "go"
      refine IOp.lstD hm (d := (.int b0)) rfl ?_
      walk_at "go"
      refine VOp.fdiv ⟨h1, by omega⟩ ?_
      walk_at "go"
      refine ⟨q, _, 0, 0, .dat (.int (b0 / many)), rfl, hm, rfl, rfl, rfl, ?_⟩
      walk_at "go"
      exact h _ (b0 / many, b1, b2) (Int.emod_nonneg _ (by omega)) (Int.emod_lt_of_pos _ h1) ⟨Int.ediv_nonneg k1 (by omega), k2, k3, k4, by dsimp only; omega⟩
    · rw [decide_eq_false e]
      walk_at "go"
      refine SvX.set (i := 2) ?_ ?_ ?_ ?_ (hs := ?_) (hf := ?_)
      · exact sc_law_take.nd
      · rfl
      · first | exact .inl rfl | exact .inr rfl
      rotate_left
      · first | with_reducible exact swap_lst | rfl
      · first | exact .inl rfl | exact .inr rfl
      walk_at "go"
      refine SvX.setIx ?_
      walk_at "go"
      refine IOp.lstD hm (d := (.int b2)) rfl ?_
      walk_at "go"
      refine ⟨q, _, 2, 2, .dat (.int (b2 + 1)), rfl, hm, rfl, rfl, rfl, ?_⟩
      walk_at "go"
      refine SvX.set (i := 3) ?_ ?_ ?_ ?_ (hs := ?_) (hf := ?_)
      · exact sc_law_take.nd
      · rfl
      · first | exact .inl rfl | exact .inr rfl
      rotate_left
      · first | with_reducible exact swap_lst | rfl
      · first | exact .inl rfl | exact .inr rfl
      walk_at "go"
      refine IOp.lstD setM_same (d := (.int (b2 + 1))) rfl ?_
      walk_at "go"
      refine SvX.set (i := 4) ?_ ?_ ?_ ?_ (hs := ?_) (hf := ?_)
      · exact sc_law_take.nd
      · rfl
      · first | exact .inl rfl | exact .inr rfl
      rotate_left
      · first | with_reducible exact swap_lst | rfl
      · first | exact .inl rfl | exact .inr rfl
      walk_at "go"
      refine IOp.lstD setM_same (d := (.int b1)) rfl ?_
      walk_at "go"
      refine VOp.mul (.inl ⟨by decide, by decide⟩) ?_
      walk_at "go"
      refine VOp.mul (.inl ⟨by omega, by omega⟩) ?_
      walk_at "go"
      refine VOp.mul (.inl ⟨by decide, by decide⟩) ?_
      walk_at "go"
      refine VOp.mul (.inr ⟨by omega, by omega⟩) ?_
      walk_at "go"
      refine SvX.set (i := 5) ?_ ?_ ?_ ?_ (hs := ?_) (hf := ?_)
      · exact sc_law_take.nd
      · rfl
      · first | exact .inl rfl | exact .inr rfl
      rotate_left
      · first | with_reducible exact swap_lst | rfl
      · first | exact .inl rfl | exact .inr rfl
      walk_at "go"
      refine VOp.pow ⟨by decide, by decide, low_ok k2 k3 (by omega) (by omega)⟩ ?_
      walk_at "go"
      refine VOp.mod (by decide) ?_
      have m1 := Int.emod_nonneg (b2 + 1) (show (8 : Int) ≠ 0 by decide)
      have m2 := Int.emod_lt_of_pos (b2 + 1) (show (0 : Int) < 8 by decide)
      obtain ⟨p1, a1, a2, a3⟩ := primes_at _ m1 m2
      refine IOp.tup a1 ?_
      refine VOp.mod a2 ?_
      walk_at "go"
      have f1 := Int.emod_nonneg ((b1 * (2 * (b2 + 1) + 1) + 1907 * (b2 + 1) * (b2 + 1) + 83) ^ (3 : Int).toNat) (show p1 ≠ 0 by omega)
      have f2 := Int.emod_lt_of_pos ((b1 * (2 * (b2 + 1) + 1) + 1907 * (b2 + 1) * (b2 + 1) + 83) ^ (3 : Int).toNat) a2
      refine VOp.fdiv ⟨by decide, by decide⟩ ?_
      walk_at "go"
      refine VOp.mul (.inl ⟨by omega, by omega⟩) ?_
      walk_at "go"
      refine VOp.mod (by decide) ?_
      have m3 := Int.emod_nonneg (b2 + 1 + 3) (show (8 : Int) ≠ 0 by decide)
      have m4 := Int.emod_lt_of_pos (b2 + 1 + 3) (show (0 : Int) < 8 by decide)
      obtain ⟨p2, a4, a5, a6⟩ := primes_at _ m3 m4
      refine IOp.tup a4 ?_
      refine VOp.mod a5 ?_
      walk_at "go"
      refine VOp.fdiv ⟨by decide, by decide⟩ ?_
      walk_at "go"
      refine VOp.mod h1 ?_
      exact h _ (b0, b1, b2 + 1) (Int.emod_nonneg _ (by omega)) (Int.emod_lt_of_pos _ h1) ⟨k1, k2, k3, by dsimp only; omega, by dsimp only; omega⟩
end
section
variable {P : Program} {w : World} {K : PySem.W.Frag} {mg : Str → Option Value} {base : Heap}
theorem ite_both {c : Bool} {A B : Prop} (h : B → A) (y : B) : if c = true then A else B := by
  split
  · exact h y
  · exact y
/-- the leaves -/
theorem blk_leaf {X : Cx} {M : AM} {at_ d : Nat} {P : XP} {t : Int} (h0 : 0 ≤ t) (h1 : t < 4) (h : ∀ bl, BlockOk at_ d bl → P (.dat (.list (bl.map Rw.d))) M) :
    IOp X (.dat (.list ([PyData.list [.tuple [.str "put", .int 7], .tuple [.str "throw"]], .list [.tuple [.str "put", .int 2], .tuple [.str "twin"], .tuple [.str "below"], .tuple [.str "turn"]], .list [.tuple [.str "put", .int 5], .tuple [.str "back"]]] ++
      [PyData.list [.tuple [.str "get", .str "m"], .tuple [.str "put", .int 3], .tuple [.str "swap"], .tuple [.str "less"], .tuple [.str "lead"]]]))) (.dat (.int t)) M P := by
  have e : t = 0 ∨ t = 1 ∨ t = 2 ∨ t = 3 := by omega
  rcases e with rfl | rfl | rfl | rfl
  · exact IOp.lst rfl (h _ ok_throw)
  · exact IOp.lst rfl (h _ ok_turn)
  · exact IOp.lst rfl (h _ ok_back)
  · exact IOp.lst rfl (h _ ok_lead)
theorem df_law_block (T : Tx w K mg) (D_law_take : Df P w K mg base 1 "_law_take" ["_law_bag_here", "_law_many"] aTake) : ∀ d : Nat, Df P w K mg base (d + 2) "_law_block" ["_law_bag_here", "_law_at", "_law_deep"] (aBlockD d)
  | 0 => by
    refine df_mk T.d_law_block sc_law_block (fun rs M P h => ?_) (fun _ _ _ _ _ _ us hl => match us, hl with | [_, _, _], _ => rfl) fun f cdv A outer s H E hr rs M PP h => ?_
    · obtain ⟨_, _, _, _, rfl, _⟩ := h
      rfl
    · obtain ⟨q, at_, n, b, rfl, ha, hn, hd10, hm, ok, h⟩ := h
      walk_at "go"
      refine SvX.set (i := 3) ?_ ?_ ?_ ?_ (hs := ?_) (hf := ?_)
      · exact sc_law_block.nd
      · rfl
      · first | exact .inl rfl | exact .inr rfl
      rotate_left
      · first | with_reducible exact swap_lst | rfl
      · first | exact .inl rfl | exact .inr rfl
      walk_at "go"
      refine ⟨q, 9, n, b, rfl, by decide, by decide, by omega, hm, ok, fun t b1 t0 t1 ok1 => ?_⟩
      walk_at "go"
      refine ite_both (fun y => ?_) ?_
      · refine WvX.and1 (TvX.cmp (EvX.nm (EvX.int (VOp.gt ⟨_, rfl, ?_⟩))))
        exact y
      walk_at "go"
      refine ite_both (fun y => ?_) ?_
      · refine WvX.and1 (TvX.cmp (EvX.nm (EvX.int (VOp.gt ⟨_, rfl, ?_⟩))))
        exact y
      walk_at "go"
      refine ite_both (fun y => ?_) ?_
      · refine WvX.and1 (TvX.cmp (EvX.nm (EvX.int (VOp.gt ⟨_, rfl, ?_⟩))))
        exact y
      walk_at "go"
      refine ite_both (fun y => ?_) ?_
      · refine WvX.and1 (TvX.cmp (EvX.nm (EvX.int (VOp.gt ⟨_, rfl, ?_⟩))))
        exact y
      walk_at "go"
      refine ite_both (fun y => ?_) ?_
      · refine WvX.and1 (TvX.cmp (EvX.nm (EvX.int (VOp.gt ⟨_, rfl, ?_⟩))))
        exact y
      walk_at "go"
      refine SvX.set (i := 4) ?_ ?_ ?_ ?_ (hs := ?_) (hf := ?_)
      · exact sc_law_block.nd
      · rfl
      · first | exact .inl rfl | exact .inr rfl
      rotate_left
      · first | with_reducible exact swap_lst | rfl
      · first | exact .inl rfl | exact .inr rfl
      walk_at "go"
      refine VOp.addL (Nat.le_of_lt (size_big (by exact (by decide : 4 ≤ 20000)))) ?_
      walk_at "go"
      refine ⟨q, 4, n + 1, b1, rfl, by decide, by decide, by omega, setM_same, ok1, fun t2 b2 t20 t21 ok2 => ?_⟩
      rw [setM_setM]
      refine blk_leaf (at_ := at_) (d := 0) t20 t21 fun bl hb => ?_
      exact h bl b2 hb (ok2.up (by omega))
  | d + 1 => by
    have D_law_block := df_law_block T D_law_take d
    refine df_mk T.d_law_block sc_law_block (fun rs M P h => ?_) (fun _ _ _ _ _ _ us hl => match us, hl with | [_, _, _], _ => rfl) fun f cdv A outer s H E hr rs M PP h => ?_
    · obtain ⟨_, _, _, _, rfl, _⟩ := h
      rfl
    · obtain ⟨q, at_, n, b, rfl, ha, hn, hd10, hm, ok, h⟩ := h
      have b_len := T.b_len
      have hr1 := hr.mono (show 1 ≤ d + 2 by omega)
      have hd : decide ((0 : Int) < ((d + 1 : Nat) : Int)) = true := decide_eq_true (by omega)
      have ed : ((d + 1 : Nat) : Int) - 1 = (d : Int) := by omega
      walk_at "go"
      refine SvX.set (i := 3) ?_ ?_ ?_ ?_ (hs := ?_) (hf := ?_)
      · exact sc_law_block.nd
      · rfl
      · first | exact .inl rfl | exact .inr rfl
      rotate_left
      · first | with_reducible exact swap_lst | rfl
      · first | exact .inl rfl | exact .inr rfl
      walk_at "go"
      refine ⟨q, 9, n, b, rfl, by decide, by decide, by omega, hm, ok, fun t b1 t0 t1 ok1 => ?_⟩
      walk_at "go"
      by_cases e0 : t = 0
      · rw [decide_eq_true e0]
        walk_at "go"
        refine SvX.set (i := 5) ?_ ?_ ?_ ?_ (hs := ?_) (hf := ?_)
        · exact sc_law_block.nd
        · rfl
        · first | exact .inl rfl | exact .inr rfl
        rotate_left
        · first | with_reducible exact swap_lst | rfl
        · first | exact .inl rfl | exact .inr rfl
        walk_at "go"
        refine EvX.call D_law_block (hr.mono (by omega)) ?_
        walk_at "go"
        refine ⟨q, at_ + 1, n + 1, b1, by first | (rw [ed]; done) | (rw [ed]; rfl), by omega, by omega, by omega, setM_same, ok1, fun bl b2 hb ok2 => ?_⟩
        rw [setM_setM]
        walk_at "go"
        refine SvX.set (i := 6) ?_ ?_ ?_ ?_ (hs := ?_) (hf := ?_)
        · exact sc_law_block.nd
        · rfl
        · first | exact .inl rfl | exact .inr rfl
        rotate_left
        · first | with_reducible exact swap_lst | rfl
        · first | exact .inl rfl | exact .inr rfl
        walk_at "go"
        rw [List.length_map]
        refine VOp.addLm (f := Rw.d) (a := [.ld "try" (at_ + bl.length + 3)]) (by have := hb.len; simp; omega) ?_
        walk_at "go"
        refine VOp.addLm (f := Rw.d) (a := [.ld "try" (at_ + bl.length + 3)] ++ bl) (b := [.al "done", .ld "go" (at_ + bl.length + 3 + 1), .nm "set" "n"]) (by have := hb.len; simp; omega) ?_
        exact h _ b2 (ok_try hb) (ok2.up (by push_cast; omega))
      rw [decide_eq_false e0]
      walk_at "go"
      by_cases e1 : t = 1
      · rw [decide_eq_true e1]
        walk_at "go"
        refine SvX.set (i := 5) ?_ ?_ ?_ ?_ (hs := ?_) (hf := ?_)
        · exact sc_law_block.nd
        · rfl
        · first | exact .inl rfl | exact .inr rfl
        rotate_left
        · first | with_reducible exact swap_lst | rfl
        · first | exact .inl rfl | exact .inr rfl
        walk_at "go"
        refine EvX.call D_law_block (hr.mono (by omega)) ?_
        walk_at "go"
        refine ⟨q, at_ + 2, n + 1, b1, by first | (rw [ed]; done) | (rw [ed]; rfl), by omega, by omega, by omega, setM_same, ok1, fun bl b2 hb ok2 => ?_⟩
        rw [setM_setM]
        walk_at "go"
        rw [List.length_map]
        refine VOp.addLm (f := Rw.d) (a := [.nm "look" "n", .ld "if" (at_ + 2 + bl.length)]) (by have := hb.len; simp; omega) ?_
        exact h _ b2 (ok_look hb) (ok2.up (by push_cast; omega))
      rw [decide_eq_false e1]
      walk_at "go"
      by_cases e2 : t = 2
      · rw [decide_eq_true e2]
        walk_at "go"
        refine EvX.call D_law_block (hr.mono (by omega)) ?_
        walk_at "go"
        refine ⟨q, at_ + 1, n + 1, b1, by first | (rw [ed]; done) | (rw [ed]; rfl), by omega, by omega, by omega, setM_same, ok1, fun bl b2 hb ok2 => ?_⟩
        rw [setM_setM]
        walk_at "go"
        refine VOp.addLm (f := Rw.d) (a := [.put 1]) (by have := hb.len; simp; omega) ?_
        walk_at "go"
        refine VOp.addLm (f := Rw.d) (a := [.put 1] ++ bl) (b := [.nm "change" "n"]) (by have := hb.len; simp; omega) ?_
        exact h _ b2 (ok_put hb) (ok2.up (by push_cast; omega))
      rw [decide_eq_false e2]
      walk_at "go"
      by_cases e3 : t = 3
      · rw [decide_eq_true e3]
        walk_at "go"
        refine SvX.set (i := 5) ?_ ?_ ?_ ?_ (hs := ?_) (hf := ?_)
        · exact sc_law_block.nd
        · rfl
        · first | exact .inl rfl | exact .inr rfl
        rotate_left
        · first | with_reducible exact swap_lst | rfl
        · first | exact .inl rfl | exact .inr rfl
        walk_at "go"
        refine EvX.call D_law_block (hr.mono (by omega)) ?_
        walk_at "go"
        refine ⟨q, at_ + 1, n + 1, b1, by first | (rw [ed]; done) | (rw [ed]; rfl), by omega, by omega, by omega, setM_same, ok1, fun bl b2 hb ok2 => ?_⟩
        rw [setM_setM]
        walk_at "go"
        rw [List.length_map]
        refine VOp.addLm (f := Rw.d) (a := [.ld "go" (at_ + 1 + bl.length)]) (by have := hb.len; simp; omega) ?_
        exact h _ b2 (ok_go hb) (ok2.up (by push_cast; omega))
      rw [decide_eq_false e3]
      walk_at "go"
      by_cases e4 : t = 4
      · rw [decide_eq_true e4]
        walk_at "go"
        refine SvX.set (i := 5) ?_ ?_ ?_ ?_ (hs := ?_) (hf := ?_)
        · exact sc_law_block.nd
        · rfl
        · first | exact .inl rfl | exact .inr rfl
        rotate_left
        · first | with_reducible exact swap_lst | rfl
        · first | exact .inl rfl | exact .inr rfl
        walk_at "go"
        refine EvX.call D_law_block (hr.mono (by omega)) ?_
        walk_at "go"
        refine ⟨q, at_, n + 1, b1, by first | (rw [ed]; done) | (rw [ed]; rfl), by omega, by omega, by omega, setM_same, ok1, fun bl b2 hb ok2 => ?_⟩
        rw [setM_setM]
        walk_at "go"
        refine VOp.addLm (f := Rw.d) (b := [.nm "get" "n", .ld "if" at_]) (by have := hb.len; simp; omega) ?_
        exact h _ b2 (ok_get hb) (ok2.up (by push_cast; omega))
      rw [decide_eq_false e4]
      walk_at "go"
      refine SvX.set (i := 4) ?_ ?_ ?_ ?_ (hs := ?_) (hf := ?_)
      · exact sc_law_block.nd
      · rfl
      · first | exact .inl rfl | exact .inr rfl
      rotate_left
      · first | with_reducible exact swap_lst | rfl
      · first | exact .inl rfl | exact .inr rfl
      walk_at "go"
      refine VOp.addL (Nat.le_of_lt (size_big (by exact (by decide : 4 ≤ 20000)))) ?_
      walk_at "go"
      refine ⟨q, 4, n + 1, b1, rfl, by decide, by decide, by omega, setM_same, ok1, fun t2 b2 t20 t21 ok2 => ?_⟩
      rw [setM_setM]
      refine blk_leaf (at_ := at_) (d := d + 1) t20 t21 fun bl hb => ?_
      exact h bl b2 hb (ok2.up (by omega))
end
section
variable {P : Program} {w : World} {K : PySem.W.Frag} {mg : Str → Option Value} {base : Heap}
theorem ab_cut (t : Int) (h0 : 0 ≤ t) (h1 : t < 3) : ∃ zs : List Str, cutD [PyData.str "a", .str "b"] none (some t) = zs.map .str ∧ (∀ z ∈ zs, NameOk z) ∧ zs.length ≤ 2 ∧ zs.Nodup := by
  have e : t = 0 ∨ t = 1 ∨ t = 2 := by omega
  rcases e with rfl | rfl | rfl
  · exact ⟨[], rfl, by decide +kernel, by decide, by decide +kernel⟩
  · exact ⟨["a"], rfl, by decide +kernel, by decide, by decide +kernel⟩
  · exact ⟨["a", "b"], rfl, by decide +kernel, by decide, by decide +kernel⟩
theorem ends_at (t : Int) (h0 : 0 ≤ t) (h1 : t < 3) : ∃ m : Int, atI [PyData.int 3, .int 5, .int 12] t = some (.int m) ∧ 0 < m ∧ m ≤ 12 := by
  have e : t = 0 ∨ t = 1 ∨ t = 2 := by omega
  rcases e with rfl | rfl | rfl <;> exact ⟨_, rfl, by decide, by decide⟩
theorem part_ok {z : Str} {zs : List Str} {rows : List Rw} (hz : NameOk z) (h1 : ∀ z ∈ zs, NameOk z) (h2 : zs.length ≤ 2) (h3 : zs.Nodup) (hl : rows.length ≤ 57) (hr : RwsL (rows.length + 1) 0 rows) (hb : BlkS 0 3 rows) : PartOk ⟨z, zs, rows ++ ([.put 0, .al "back"] : List Rw)⟩ := by
  have law : RwsL (rows ++ ([.put 0, .al "back"] : List Rw)).length 0 (rows ++ ([.put 0, .al "back"] : List Rw)) := (hr.up (by simp)).append (.cons (rl_put (by decide)) (.cons (rl_al (by decide +kernel)) .nil))
  refine ⟨⟨hz, h1, h2, h3, by simp, by simp; omega, fun a r e => ?_⟩, part_sound hb (by decide), law⟩
  have := (law a r e).1
  rw [Nat.zero_add] at this
  exact this
theorem df_law_part (T : Tx w K mg) (D_law_take : Df P w K mg base 1 "_law_take" ["_law_bag_here", "_law_many"] aTake) (D_law_block : Df P w K mg base 5 "_law_block" ["_law_bag_here", "_law_at", "_law_deep"] (aBlockD 3)) : Df P w K mg base 9 "_law_part" ["_law_bag_here", "_law_name"] aPart := by
  refine df_mk T.d_law_part sc_law_part (fun rs M P h => ?_) (fun _ _ _ _ _ _ us hl => match us, hl with | [_, _], _ => rfl) fun f cdv A outer s H E hr rs M PP h => ?_
  · obtain ⟨_, _, _, _, rfl, _⟩ := h
    rfl
  · obtain ⟨q, z, n, b, rfl, hz, hn, hm, ok, h⟩ := h
    have b_range := T.b_range; have b_tuple := T.b_tuple; have b_len := T.b_len
    walk_at "go"
    refine SvX.set (i := 2) ?_ ?_ ?_ ?_ (hs := ?_) (hf := ?_)
    · exact sc_law_part.nd
    · rfl
    · first | exact .inl rfl | exact .inr rfl
    rotate_left
    · first | with_reducible exact swap_lst | rfl
    · first | exact .inl rfl | exact .inr rfl
    walk_at "go"
    refine SvX.for PassesOwn.never rfl (pg_name (i := 3) sc_law_part.nd rfl (by first | exact .inl rfl | exact .inr rfl)) ?_
    refine IvX.range (by assumption) ?_
    walk_at "go"
    refine ⟨q, 3, n, b, rfl, by decide, by decide, by omega, hm, ok, fun t b1 t0 t1 ok1 => ?_⟩
    obtain ⟨m, hm1, hm2, hm3⟩ := ends_at t t0 t1
    refine IOp.lst hm1 ?_
    walk_at "go"
    refine ⟨q, m, n + 1, b1, rfl, hm2, by omega, by omega, setM_same, ok1, fun t2 b2 t20 t21 ok2 => ?_⟩
    rw [setM_setM]
    refine ⟨_, rfl, t20, by omega, ?_⟩
    refine ⟨fun i δ1 M2 => ∃ (rows : List Rw) (b3 : Int × Int × Int) (x y : Option Sd), M2 = setM M q (bagL b3) ∧ BagOk (n + 2 + 5 * i) b3 ∧ rows.length ≤ 57 ∧ RwsL (rows.length + 1) 0 rows ∧ BlkS 0 3 rows ∧
      δ1 = [some (.raw (.ref q)), some (.dat (.str z)), some (.dat (.list (rows.map Rw.d))), x, y], ⟨[], b2, none, none, rfl, ok2.up (by omega), by simp, .nil, .nil, rfl⟩, fun i r δ1 M2 hi hI => ?_, fun δ1 M2 hI => ?_⟩
    · obtain ⟨rows, b3, x, y, rfl, ok3, hl, hrw, hbs, rfl⟩ := hI
      have hi' : i < t2.toNat := by
        have := (List.getElem?_eq_some_iff.mp hi).1
        simpa using this
      refine ⟨_, _, TgD.name 3, ?_⟩
      walk_at "go"
      refine SvX.set (i := 4) ?_ ?_ ?_ ?_ (hs := ?_) (hf := ?_)
      · exact sc_law_part.nd
      · rfl
      · first | exact .inl rfl | exact .inr rfl
      rotate_left
      · first | with_reducible exact swap_lst | rfl
      · first | exact .inl rfl | exact .inr rfl
      walk_at "go"
      rw [List.length_map]
      refine ⟨q, rows.length, n + 2 + 5 * i, b3, rfl, by omega, by omega, by decide, setM_same, ok3, fun bl b4 hb ok4 => ?_⟩
      rw [setM_setM]
      walk_at "go"
      rw [List.length_map, List.length_map]
      by_cases e : (rows.length : Int) + (bl.length : Int) < 58
      · rw [decide_eq_true e]
        walk_at "go"
        refine SvX.set (i := 2) ?_ ?_ ?_ ?_ (hs := ?_) (hf := ?_)
        · exact sc_law_part.nd
        · rfl
        · first | exact .inl rfl | exact .inr rfl
        rotate_left
        · first | with_reducible exact swap_lst | rfl
        · first | exact .inl rfl | exact .inr rfl
        walk_at "go"
        refine VOp.addLm (by omega) ?_
        walk_at "go"
        refine ⟨rows ++ bl, b4, _, _, rfl, ok4.up (by push_cast; omega), by rw [List.length_append]; omega, ?_, hbs.append (by rw [Nat.zero_add]; exact hb.std), rfl⟩
        have z := hb.law
        refine (hrw.up (by simp)).append ?_
        rw [Nat.zero_add, List.length_append]
        exact z
      · rw [decide_eq_false e]
        walk_at "go"
        exact ⟨rows, b4, _, _, rfl, ok4.up (by push_cast; omega), hl, hrw, hbs, rfl⟩
    · obtain ⟨rows, b3, x, y, rfl, ok3, hl, hrw, hbs, rfl⟩ := hI
      rw [List.length_map, List.length_range] at ok3
      walk_at "go"
      refine ⟨q, 3, n + 62, b3, rfl, by decide, by decide, by omega, setM_same, ok3.up (by omega), fun t3 b5 t30 t31 ok5 => ?_⟩
      rw [setM_setM]
      obtain ⟨zs, ez, h1, h2, h3⟩ := ab_cut t3 t30 t31
      walk_at "go"
      rw [ez]
      refine VOp.addLm (f := Rw.d) (b := ([.put 0, .al "back"] : List Rw)) (by simp; omega) ?_
      walk_at "go"
      exact h ⟨z, zs, rows ++ ([.put 0, .al "back"] : List Rw)⟩ b5 (part_ok hz h1 h2 h3 hl hrw hbs) rfl (ok5.up (by omega))
end
section
variable {P : Program} {w : World} {K : PySem.W.Frag} {mg : Str → Option Value} {base : Heap}
theorem law_cnt : ∀ w ∈ lawWords, ((if (!decide (w ∈ (["put", "get", "look", "go", "try", "done"] : List Str))) = true then 1 else 0) + (if decide (w ∈ (["below", "less", "swap"] : List Str)) = true then 1 else 0) : Int) = (cnt w).1 ∧
    ((if decide (w ∈ (["put", "get", "look", "below", "less"] : List Str)) = true then 1 else 0) + 2 * (if decide (w ∈ (["twin", "swap"] : List Str)) = true then 1 else 0) : Int) = (cnt w).2 := by decide +kernel
theorem in2' (w a b : Str) : inD (.str w) [.str a, .str b] = decide (w = a ∨ w = b) := by
  have h := inD_str w [a, b]
  rw [show [PyData.str a, PyData.str b] = [a, b].map .str from rfl, h]
  simp
theorem ld_of' {n a : Nat} {r : Rw} (h : RwOk n a r) (hw : r.word ∈ leadL) : ∃ z g, r = .ld z g := by
  cases r with
  | al z => exact absurd (show z ∈ leadL from hw) (by intro q; revert h q; exact (by decide +kernel : ∀ z ∈ aloneL, z ∈ leadL → False) z)
  | put i => exact absurd hw (by show ("put" : Str) ∉ leadL; decide +kernel)
  | ld z g => exact ⟨z, g, rfl⟩
  | nm z y => exact absurd (show z ∈ leadL from hw) (by intro q; obtain ⟨h, _⟩ := h; revert h q; exact fun h q => (by decide +kernel : ∀ z ∈ namedL, z ∈ leadL → False) z q h)
theorem df_law_goals (T : Tx w K mg) : Df P w K mg base 1 "_law_goals" ["_law_rows", "_law_at", "_law_standing"] aLawGoals := by
  refine df_mk T.d_law_goals sc_law_goals (fun rs M P h => ?_) (fun _ _ _ _ _ _ us hl => match us, hl with | [_, _, _], _ => rfl) fun f cdv A outer s H E hr rs M PP h => ?_
  · obtain ⟨_, _, _, _, _, rfl, _⟩ := h
    rfl
  · obtain ⟨rows, r, s, n, a, rfl, ha, ok, hz, h⟩ := h
    have b_int := T.b_int
    have hix : atI (rows.map Rw.d) (a : Int) = some r.d := atI_map ha
    obtain ⟨dl, hdl⟩ : ∃ d, atI (PyData.str r.word :: r.rest) (-1) = some d := by cases r <;> exact ⟨_, rfl⟩
    obtain ⟨c1, c2⟩ := law_cnt _ ok.2
    walk_at "go"
    refine SvX.asg (pg_tup (by rfl) (pgs_cons (pg_name (i := 3) sc_law_goals.nd rfl (by first | exact .inl rfl | exact .inr rfl)) (pgs_cons (pg_name (i := 4) sc_law_goals.nd rfl (by first | exact .inl rfl | exact .inr rfl)) pgs_nil))) ?_
    walk_at "go"
    refine ⟨_, _, (TgD.tup rfl (TgsD.cons (TgD.name 3) (TgsD.cons (TgD.name 4) TgsD.nil))), ?_⟩
    walk_at "go"
    refine SvX.set (i := 5) ?_ ?_ ?_ ?_ (hs := ?_) (hf := ?_)
    · exact sc_law_goals.nd
    · rfl
    · first | exact .inl rfl | exact .inr rfl
    rotate_left
    · first | with_reducible exact swap_lst | rfl
    · first | exact .inl rfl | exact .inr rfl
    walk_at "go"
    refine SvX.set (i := 6) ?_ ?_ ?_ ?_ (hs := ?_) (hf := ?_)
    · exact sc_law_goals.nd
    · rfl
    · first | exact .inl rfl | exact .inr rfl
    rotate_left
    · first | with_reducible exact swap_lst | rfl
    · first | exact .inl rfl | exact .inr rfl
    walk_at "go"
    refine VOp.ninStrs ["put", "get", "look", "go", "try", "done"] ?_
    walk_at "go"
    refine VOp.inStrs ["below", "less", "swap"] ?_
    walk_at "go"
    rw [c1]
    refine SvX.set (i := 7) ?_ ?_ ?_ ?_ (hs := ?_) (hf := ?_)
    · exact sc_law_goals.nd
    · rfl
    · first | exact .inl rfl | exact .inr rfl
    rotate_left
    · first | with_reducible exact swap_lst | rfl
    · first | exact .inl rfl | exact .inr rfl
    walk_at "go"
    refine VOp.inStrs ["put", "get", "look", "below", "less"] ?_
    walk_at "go"
    refine VOp.inStrs ["twin", "swap"] ?_
    walk_at "go"
    refine VOp.mul (.inl ⟨by decide, by decide⟩) ?_
    walk_at "go"
    rw [c2]
    refine SvX.set (i := 8) ?_ ?_ ?_ ?_ (hs := ?_) (hf := ?_)
    · exact sc_law_goals.nd
    · rfl
    · first | exact .inl rfl | exact .inr rfl
    rotate_left
    · first | with_reducible exact swap_lst | rfl
    · first | exact .inl rfl | exact .inr rfl
    walk_at "go"
    rw [cut_last_map, show s.1 - (cnt r.word).1 + (cnt r.word).2 = s.1 + ((cnt r.word).2 - (cnt r.word).1) by omega]
    refine IOp.lst (d := .tuple ((if r.word = "done" then s.2.dropLast else s.2).map gD)) (by
      by_cases e : r.word = "done"
      · rw [if_pos e, decide_eq_true e]
        rfl
      · rw [if_neg e, decide_eq_false e]
        rfl) ?_
    walk_at "go"
    refine VOp.inT rfl rfl ?_
    rw [in2']
    refine ⟨_, rfl, ?_⟩
    unfold leads at h
    dsimp only at h
    by_cases e1 : r.word = "back" ∨ r.word = "throw"
    · rw [if_pos e1] at h
      rw [decide_eq_true e1]
      walk_at "go"
      exact h
    rw [if_neg e1] at h
    rw [decide_eq_false e1]
    walk_at "go"
    by_cases e4 : r.word = "try"
    · rw [if_neg (by rw [e4]; decide +kernel), if_neg (by rw [e4]; decide +kernel), if_pos e4, e4, show (cnt "try").2 - (cnt "try").1 = 0 by decide +kernel, Int.add_zero] at h
      obtain ⟨z, g, rfl⟩ := ld_of' ok.1 (by rw [e4]; decide +kernel)
      rw [decide_eq_true e4]
      walk_at "go"
      refine VOp.addG (hs := [(_, _)]) (by simp; omega) ?_
      walk_at "go"
      exact h
    rw [decide_eq_false e4]
    walk_at "go"
    by_cases e2 : r.word = "go"
    · rw [if_pos e2] at h
      rw [if_neg (show ¬ r.word = "done" by rw [e2]; decide +kernel)]
      obtain ⟨z, g, rfl⟩ := ld_of' ok.1 (by rw [e2]; decide +kernel)
      rw [decide_eq_true e2]
      walk_at "go"
      exact h
    rw [if_neg e2] at h
    rw [decide_eq_false e2]
    walk_at "go"
    by_cases e3 : r.word = "if"
    · rw [if_pos e3] at h
      rw [if_neg (show ¬ r.word = "done" by rw [e3]; decide +kernel)]
      obtain ⟨z, g, rfl⟩ := ld_of' ok.1 (by rw [e3]; decide +kernel)
      obtain rfl : PyData.int g = dl := Option.some.inj hdl
      rw [decide_eq_true e3]
      refine VOp.repL (by decide) (by decide) (sz1 (α := PyData) (a0 := .none)) ?_
      refine VOp.addL (sz2 (α := PyData) (a0 := .none) (a1 := .none)) ?_
      exact h
    rw [if_neg e3, if_neg e4] at h
    rw [decide_eq_false e3]
    refine VOp.repL (by decide) (by decide) (sz0 (α := PyData)) ?_
    refine VOp.addL (sz1 (α := PyData) (a0 := .none)) ?_
    by_cases e5 : r.word = "done"
    · rw [if_pos e5] at h ⊢
      exact h
    · rw [if_neg e5] at h ⊢
      exact h
end
/-! ### _law_standings -/
def SM (M : AM) (q l : Addr) (ks : List (Nat × Stg)) (ws : List Int) : AM := setM (setM M q (dictL ks)) l (.lst ((ws.map PyData.int).map .dat))
section
variable {M : AM} {q l : Addr} {ks ks' : List (Nat × Stg)} {ws ws' : List Int}
theorem SM.getL : SM M q l ks ws l = some (.lst ((ws.map PyData.int).map .dat)) := setM_same
theorem SM.getD (h : l ≠ q) : SM M q l ks ws q = some (dictL ks) := (setM_ne h.symm).trans setM_same
theorem SM.sl : setM (SM M q l ks ws) l (.lst ((ws'.map PyData.int).map .dat)) = SM M q l ks ws' := setM_setM
theorem SM.sq (h : l ≠ q) : setM (SM M q l ks ws) q (dictL ks') = SM M q l ks' ws := funext fun a => by
  unfold SM setM
  by_cases e : a = q
  · subst e
    rw [if_pos rfl, if_neg h.symm, if_pos rfl]
  · rw [if_neg e, if_neg e, if_neg e]
end
/-- what is held while the search goes on -/
structure LI (rows : List Rw) (ks : List (Nat × Stg)) (ws : List Int) (ex : Nat → Prop) : Prop where
  nd : (ks.map (·.1)).Nodup
  met : ∀ (a : Nat) (s : Stg), (a, s) ∈ ks → Reach rows a s
  zero : (0, (0, [])) ∈ ks
  waits : ∀ i ∈ ws, ∃ a : Nat, i = (a : Int) ∧ ∃ s, (a, s) ∈ ks
  closed : ∀ (a : Nat) (s : Stg) (r : Rw), (a, s) ∈ ks → rows[a]? = some r → (a : Int) ∉ ws → ¬ ex a → ∀ p ∈ leads r a s, ∃ g : Nat, p.1 = (g : Int) ∧ (g, p.2) ∈ ks
theorem nodup_lt : ∀ (n : Nat) (xs : List Nat), xs.Nodup → (∀ x ∈ xs, x < n) → xs.length ≤ n
  | 0, xs, _, h => by
    cases xs with
    | nil => simp
    | cons x xs => exact absurd (h x List.mem_cons_self) (by omega)
  | n + 1, xs, nd, h => by
    have ih := nodup_lt n (xs.erase n) (nd.erase n) (fun x hx => by
      obtain ⟨h1, h2⟩ := nd.mem_erase_iff.mp hx
      have := h x h2
      omega)
    by_cases m : n ∈ xs
    · have := List.length_erase_of_mem m
      omega
    · rw [List.erase_of_not_mem m] at ih
      omega
section
variable {rows : List Rw} {ks : List (Nat × Stg)} {ws : List Int} {ex : Nat → Prop}
theorem LI.start : LI rows [(0, (0, []))] [0] (fun _ => False) := by
  refine ⟨by simp, fun a s h => ?_, by simp, fun i hi => ?_, fun a s r h _ hn _ => ?_⟩
  · cases List.mem_singleton.mp h
    exact .zero
  · cases List.mem_singleton.mp hi
    exact ⟨0, rfl, _, List.mem_singleton.mpr rfl⟩
  · cases List.mem_singleton.mp h
    exact absurd (List.mem_singleton.mpr rfl) hn
theorem LI.few (I : LI rows ks ws ex) (so : Sound rows) (h1 : 1 ≤ rows.length) : ks.length ≤ rows.length := by
  have := nodup_lt rows.length (ks.map (·.1)) I.nd (fun x hx => by
    obtain ⟨⟨a, s⟩, h, rfl⟩ := List.mem_map.mp hx
    exact (I.met a s h).lt so h1)
  rwa [List.length_map] at this
theorem LI.popd {a : Nat} {rest : List Int} (I : LI rows ks ((a : Int) :: rest) (fun _ => False)) : LI rows ks rest (fun b => b = a) :=
  ⟨I.nd, I.met, I.zero, fun i hi => I.waits i (List.mem_cons_of_mem _ hi), fun b s r h hr hn hx p hp => I.closed b s r h hr (fun z => by
    rcases List.mem_cons.mp z with z | z
    · exact hx (Int.ofNat.inj z)
    · exact hn z) id p hp⟩
theorem LI.put {g : Nat} {s : Stg} (I : LI rows ks ws ex) (hn : ∀ t, (g, t) ∉ ks) (hr : Reach rows g s) : LI rows (ks ++ [(g, s)]) (ws ++ [(g : Int)]) ex := by
  refine ⟨?_, fun a t h => ?_, List.mem_append_left _ I.zero, fun i hi => ?_, fun a t r h hr' ha hx p hp => ?_⟩
  · rw [List.map_append, List.nodup_append]
    refine ⟨I.nd, by simp, fun a ha b hb => ?_⟩
    obtain ⟨⟨a', t⟩, h1, rfl⟩ := List.mem_map.mp ha
    obtain rfl : b = g := by simpa using hb
    exact fun z => hn t (by rw [← z]; exact h1)
  · rcases List.mem_append.mp h with h | h
    · exact I.met a t h
    · cases List.mem_singleton.mp h
      exact hr
  · rcases List.mem_append.mp hi with hi | hi
    · obtain ⟨a, e, t, h⟩ := I.waits i hi
      exact ⟨a, e, t, List.mem_append_left _ h⟩
    · exact ⟨g, List.mem_singleton.mp hi, s, List.mem_append_right _ (List.mem_singleton.mpr rfl)⟩
  · rcases List.mem_append.mp h with h | h
    · obtain ⟨b, e1, e2⟩ := I.closed a t r h hr' (fun z => ha (List.mem_append_left _ z)) hx p hp
      exact ⟨b, e1, List.mem_append_left _ e2⟩
    · cases List.mem_singleton.mp h
      exact absurd (List.mem_append_right _ (List.mem_singleton.mpr rfl)) ha
theorem LI.done (I : LI rows ks [] (fun _ => False)) : FoundD rows ks := by
  refine ⟨I.nd, fun a s => ⟨I.met a s, fun r => ?_⟩⟩
  induction r with
  | zero => exact I.zero
  | step r0 hr hm ih =>
    obtain ⟨g, e1, e2⟩ := I.closed _ _ _ ih hr (by simp) id _ hm
    have : g = _ := Int.ofNat.inj e1.symm
    subst this
    exact e2
end
theorem dk_some {ks : List (Nat × Stg)} {g : Nat} {s : Stg} (nd : (ks.map (·.1)).Nodup) (h : (g, s) ∈ ks) : at0 (ks.map fun p => ((.inl (p.1 : Int), .dat (stD p.2)) : Key × S0)) (.inl (g : Int)) = some (.dat (stD s)) := by
  refine at0_uniq (List.mem_map.mpr ⟨_, h, rfl⟩) (fun v' z => ?_)
  obtain ⟨⟨g', s'⟩, h', e⟩ := List.mem_map.mp z
  have e1 : g' = g := Int.ofNat.inj (Sum.inl.inj (congrArg Prod.fst e))
  subst e1
  obtain ⟨i, hi⟩ := List.mem_iff_getElem?.mp h
  obtain ⟨j, hj⟩ := List.mem_iff_getElem?.mp h'
  have : i = j := nodup_at (x := g') nd (by rw [List.getElem?_map, hi]; rfl) (by rw [List.getElem?_map, hj]; rfl)
  subst this
  rw [hi] at hj
  cases hj
  exact (congrArg Prod.snd e).symm
theorem dk_none {ks : List (Nat × Stg)} {g : Nat} (h : ∀ s, (g, s) ∉ ks) : at0 (ks.map fun p => ((.inl (p.1 : Int), .dat (stD p.2)) : Key × S0)) (.inl (g : Int)) = none := by
  refine at0_none (fun v' z => ?_)
  obtain ⟨⟨g', s'⟩, h', e⟩ := List.mem_map.mp z
  have e1 : g' = g := Int.ofNat.inj (Sum.inl.inj (congrArg Prod.fst e))
  subst e1
  exact h s' h'
theorem dk_put {ks : List (Nat × Stg)} {g : Nat} {s : Stg} (h : ∀ s, (g, s) ∉ ks) : put0 (ks.map fun p => ((.inl (p.1 : Int), .dat (stD p.2)) : Key × S0)) (.inl (g : Int)) (.dat (stD s)) = (ks ++ [(g, s)]).map fun p => ((.inl (p.1 : Int), .dat (stD p.2)) : Key × S0) := by
  rw [put0_new, List.map_append]
  · rfl
  · intro v' z
    obtain ⟨⟨g', s'⟩, h', e⟩ := List.mem_map.mp z
    have e1 : g' = g := Int.ofNat.inj (Sum.inl.inj (congrArg Prod.fst e))
    subst e1
    exact h s' h'
section
variable {P : Program} {w : World} {K : PySem.W.Frag} {mg : Str → Option Value} {base : Heap}
theorem none_ne {M : AM} {a b : Addr} {m : MO} (h : M a = none) (h' : M b = some m) : a ≠ b := fun e => by
  subst e
  rw [h] at h'
  cases h'
theorem df_law_standings (T : Tx w K mg) (D_law_goals : Df P w K mg base 1 "_law_goals" ["_law_rows", "_law_at", "_law_standing"] aLawGoals) : Df P w K mg base 2 "_law_standings" ["_law_rows"] aLawStandings := by
  refine df_mk T.d_law_standings sc_law_standings (fun rs M P h => ?_) (fun _ _ _ _ _ _ us hl => match us, hl with | [_], _ => rfl) fun f cdv A outer s H E hr rs M PP h => ?_
  · obtain ⟨_, rfl, _⟩ := h
    rfl
  · obtain ⟨rows, rfl, h1, h60, hl, so, h⟩ := h
    refine BvX.fo ?_
    walk_at "go"
    refine SvX.set (i := 1) ?_ ?_ ?_ ?_ (hs := ?_) (hf := ?_)
    · exact sc_law_standings.nd
    · rfl
    · first | exact .inl rfl | exact .inr rfl
    rotate_left
    · rfl
    · first | exact .inl rfl | exact .inr rfl
    refine EvX.dict1 (fun q hq => ?_)
    walk_at "go"
    refine ⟨.inl 0, .dat (stD (0, [])), rfl, rfl, setM_same, ?_⟩
    rw [setM_setM]
    walk_at "go"
    refine SvX.set (i := 2) ?_ ?_ ?_ ?_ (hs := ?_) (hf := ?_)
    · exact sc_law_standings.nd
    · rfl
    · first | exact .inl rfl | exact .inr rfl
    rotate_left
    · first | with_reducible exact swap_lst | rfl
    · first | exact .inl rfl | exact .inr rfl
    refine EvX.lstM ?_
    walk_at "go"
    refine ⟨[.dat (.int 0)], rfl, sz1, fun l hlq => ?_⟩
    have lq : l ≠ q := none_ne hlq setM_same
    have hl0 : M l = none := by rw [setM_ne lq] at hlq; exact hlq
    walk_at "go"
    refine SvX.whileN PassesOwn.never (fun m δ1 M1 => ∃ (ks : List (Nat × Stg)) (ws : List Int) (x y z : Option Sd), M1 = SM M q l ks ws ∧ LI rows ks ws (fun _ => False) ∧ 2 * (rows.length - ks.length) + ws.length ≤ m ∧ m ≤ 200 ∧
      δ1 = [some (.dat (.tuple (rows.map Rw.d))), some (.raw (.ref q)), some (.raw (.ref l)), x, y, z]) ⟨_, [(0, (0, []))], [0], none, none, none, rfl, LI.start, Nat.le_refl _, by simp; omega, rfl⟩ (fun m δ1 M1 hI => ?_)
    obtain ⟨ks, ws, x, y, z, rfl, I, hm, hws, rfl⟩ := hI
    walk_at "go"
    refine VOp.neM hr.units SM.getL (shaped_ints _) shaped_nil ?_
    rw [eqv_nilL]
    cases ws with
    | nil =>
      walk_at "go"
      refine ⟨setM M q (dictL ks), le_new ?_, h q ks hq I.done⟩
      rw [setM_ne lq]
      exact hl0
    | cons i rest =>
      obtain ⟨a, rfl, s', hs⟩ := I.waits i List.mem_cons_self
      have ra := I.met a s' hs
      have hal : a < rows.length := ra.lt so h1
      have hrow : rows[a]? = some rows[a] := by simp [hal]
      have okr := hl a _ hrow
      rw [Nat.zero_add] at okr
      walk_at "go"
      refine SvX.set (i := 3) ?_ ?_ ?_ ?_ (hs := ?_) (hf := ?_)
      · exact sc_law_standings.nd
      · rfl
      · first | exact .inl rfl | exact .inr rfl
      rotate_left
      · rfl
      · first | exact .inl rfl | exact .inr rfl
      refine EvX.popA ?_
      walk_at "go"
      refine ⟨⟨l, _, rfl, SM.getL⟩, ?_⟩
      walk_at "go"
      refine MOp.popAt (j := 0) (r := .dat (.int a)) SM.getL (by decide) (by decide) (by simp [seqIndex?]) rfl ?_
      have e3 : ((((a : Int) :: rest).map PyData.int).map S0.dat).eraseIdx 0 = (rest.map PyData.int).map S0.dat := rfl
      rw [e3, SM.sl]
      walk_at "go"
      refine SvX.for PassesOwn.never rfl (pg_tup (by rfl) (pgs_cons (pg_name (i := 4) sc_law_standings.nd rfl (by first | exact .inl rfl | exact .inr rfl)) (pgs_cons (pg_name (i := 5) sc_law_standings.nd rfl (by first | exact .inl rfl | exact .inr rfl)) pgs_nil))) ?_
      refine IvX.list ?_
      walk_at "ev"
      walk_at "ev"
      walk_at "ev"
      walk_at "ev"
      walk_at "ev"
      walk_at "ev"
      refine EvX.dix (u1 hr) ?_
      walk_at "go"
      refine DOp.dk (k := .inl a) (r := .dat (stD s')) (SM.getD lq) (dk_some I.nd hs) ?_
      walk_at "go"
      refine ⟨rows, rows[a], s', rows.length, a, rfl, hrow, okr, by have := ra.flat so; omega, ?_⟩
      walk_at "go"
      rw [List.map_map]
      refine ⟨fun i δ1 M2 => ∃ (ks1 : List (Nat × Stg)) (ws1 : List Int) (x y : Option Sd), M2 = SM M q l ks1 ws1 ∧ LI rows ks1 ws1 (fun b => b = a) ∧ (a, s') ∈ ks1 ∧ 2 * (rows.length - ks1.length) + ws1.length < m ∧ ks1.length ≤ rows.length ∧ (∀ p ∈ (leads rows[a] a s').take i, ∃ g : Nat, p.1 = (g : Int) ∧ (g, p.2) ∈ ks1) ∧
        δ1 = [some (.dat (.tuple (rows.map Rw.d))), some (.raw (.ref q)), some (.raw (.ref l)), some (.dat (.int a)), x, y], ⟨ks, rest, _, _, rfl, I.popd, hs, by rw [List.length_cons] at hm; omega, I.few so h1, (fun p hp => by rw [List.take_zero] at hp; cases hp), rfl⟩, fun i r δ1 M2 hi hI => ?_, fun δ1 M2 hI => ?_⟩
      · obtain ⟨ks1, ws1, x, y, rfl, I1, hs1, hm1, hk1, hl1, rfl⟩ := hI
        rw [List.getElem?_map] at hi
        cases hq0 : (leads rows[a] a s')[i]? with
        | none =>
          rw [hq0] at hi
          cases hi
        | some p =>
          rw [hq0] at hi
          obtain rfl : Sd.dat (leadD p) = r := by simpa using hi
          have hpm : p ∈ leads rows[a] a s' := List.mem_of_getElem? hq0
          obtain ⟨g, hg1, hg2, hg3⟩ := ra.go so hrow hpm
          have tk : (leads rows[a] a s').take (i + 1) = (leads rows[a] a s').take i ++ [p] := by
            rw [List.take_add_one, hq0]
            rfl
          refine ⟨_, _, (TgD.tup rfl (TgsD.cons (TgD.name 4) (TgsD.cons (TgD.name 5) TgsD.nil))), ?_⟩
          rw [show p.1 = (g : Int) from hg1]
          refine BvX.cons (SvX.iff (TvX.ninK (u1 hr) ?_))
          walk_at "go"
          refine ⟨q, _, .inl (g : Int), rfl, SM.getD lq, rfl, ?_⟩
          by_cases hc : ∃ t, (g, t) ∈ ks1
          · obtain ⟨t, ht⟩ := hc
            have e : t = p.2 := (I1.met g t ht).uniq so hg3
            subst e
            rw [dk_some I1.nd ht]
            walk_at "go"
            refine ⟨ks1, ws1, _, _, rfl, I1, hs1, hm1, hk1, fun p' hp' => ?_, rfl⟩
            rw [tk] at hp'
            rcases List.mem_append.mp hp' with hp' | hp'
            · exact hl1 p' hp'
            · rw [List.mem_singleton.mp hp']
              exact ⟨g, hg1, ht⟩
          · have hn : ∀ t, (g, t) ∉ ks1 := fun t ht => hc ⟨t, ht⟩
            rw [dk_none hn]
            walk_at "go"
            refine SvX.setKey (u1 hr) ?_
            walk_at "go"
            refine ⟨.dat (stD p.2), q, _, .inl (g : Int), rfl, rfl, SM.getD lq, rfl, size_big (by rw [List.length_map]; omega), ?_⟩
            rw [dk_put hn, SM.sq lq]
            walk_at "go"
            refine EvX.append ?_
            walk_at "go"
            refine ⟨⟨l, _, rfl, SM.getL⟩, ?_⟩
            walk_at "go"
            refine MOp.append (r := .dat (.int g)) SM.getL (size_big (by simp; omega)) ?_
            have e4 : (ws1.map PyData.int).map S0.dat ++ [S0.dat (.int g)] = ((ws1 ++ [(g : Int)]).map PyData.int).map S0.dat := by simp
            rw [e4, SM.sl]
            have I2 := I1.put hn hg3
            have hk2 := I2.few so h1
            rw [List.length_append, List.length_singleton] at hk2
            walk_at "go"
            refine ⟨ks1 ++ [(g, p.2)], ws1 ++ [(g : Int)], _, _, rfl, I2, List.mem_append_left _ hs1, by simp; omega, by simp; omega, fun p' hp' => ?_, rfl⟩
            rw [tk] at hp'
            rcases List.mem_append.mp hp' with hp' | hp'
            · obtain ⟨b, e1, e2⟩ := hl1 p' hp'
              exact ⟨b, e1, List.mem_append_left _ e2⟩
            · rw [List.mem_singleton.mp hp']
              exact ⟨g, hg1, List.mem_append_right _ (List.mem_singleton.mpr rfl)⟩
      · obtain ⟨ks1, ws1, x, y, rfl, I1, hs1, hm1, hk1, hl1, rfl⟩ := hI
        rw [List.length_map, List.take_length] at hl1
        walk_at "go"
        refine ⟨_, hm1, ks1, ws1, _, _, _, rfl, ⟨I1.nd, I1.met, I1.zero, I1.waits, fun b t r' hb hrb hnw _ p hp => ?_⟩, Nat.le_refl _, by omega, rfl⟩
        by_cases e : b = a
        · subst e
          obtain rfl : t = s' := (I1.met b t hb).uniq so ra
          rw [hrow] at hrb
          cases hrb
          exact hl1 p hp
        · exact I1.closed b t r' hb hrb hnw e p hp
end
section
variable {P : Program} {w : World} {K : PySem.W.Frag} {mg : Str → Option Value} {base : Heap}
theorem zip_len' (w : List Int) : (zipD (w.map .int) (cutD (w.map .int) (some 1) none)).length = w.length - 1 := by
  unfold zipD
  rw [cut_tail, List.length_zipWith, List.length_drop, List.length_map]
  omega
theorem zip_at' {w : List Int} {i : Nat} {r : Sd} (h : (zipD (w.map .int) (cutD (w.map .int) (some 1) none))[i]? = some r) : ∃ a b, w[i]? = some a ∧ w[i + 1]? = some b ∧ r = .dat (.tuple [.int a, .int b]) := by
  unfold zipD at h
  rw [cut_tail, List.getElem?_zipWith, List.getElem?_map, List.getElem?_drop, List.getElem?_map, Nat.add_comm 1 i] at h
  cases e1 : w[i]? with
  | none =>
    rw [e1] at h
    simp at h
  | some a =>
    cases e2 : w[i + 1]? with
    | none =>
      rw [e1, e2] at h
      simp at h
    | some b =>
      rw [e1, e2] at h
      simp at h
      exact ⟨a, b, rfl, rfl, h.symm⟩
theorem df_law_walked (T : Tx w K mg) (D_law_goals : Df P w K mg base 1 "_law_goals" ["_law_rows", "_law_at", "_law_standing"] aLawGoals) : Df P w K mg base 2 "_law_walked" ["_law_rows", "_law_walk_here"] aLawWalked := by
  refine df_mk T.d_law_walked sc_law_walked (fun rs M P h => ?_) (fun _ _ _ _ _ _ us hl => match us, hl with | [_, _], _ => rfl) fun f cdv A outer s H E hr rs M PP h => ?_
  · obtain ⟨_, _, rfl, _⟩ := h
    rfl
  · obtain ⟨rows, w, rfl, hl, so, h60, hall, hz, h⟩ := h
    have b_zip := T.b_zip; have b_isinstance := T.b_isinstance; have b_list := T.b_list
    walk_at "go"
    rw [cut_1, ← List.map_take]
    refine VOp.ne hr.units (shaped_ints _) (shaped_ints [0]) ?_
    rw [show [PyData.int 0] = [(0 : Int)].map .int from rfl, eqv_lints]
    cases w with
    | nil =>
      walk_at "go"
      exact h
    | cons a gs =>
      rw [List.all_cons, Bool.and_eq_true] at hall
      have n1 : 1 ≤ rows.length := by
        have := of_decide_eq_true (show decide (0 ≤ a ∧ a < (rows.length : Int)) = true from hall.1)
        omega
      rw [show (a :: gs).take 1 = [a] from rfl]
      by_cases a0 : a = 0
      · subst a0
        rw [decide_eq_true rfl]
        walk_at "go"
        refine SvX.set (i := 2) ?_ ?_ ?_ ?_ (hs := ?_) (hf := ?_)
        · exact sc_law_walked.nd
        · rfl
        · first | exact .inl rfl | exact .inr rfl
        rotate_left
        · first | with_reducible exact swap_lst | rfl
        · first | exact .inl rfl | exact .inr rfl
        walk_at "go"
        have e0 : walkedTo rows (0 :: gs) = walkFrom rows 0 (0, []) gs := by
          unfold walkedTo
          dsimp only
          rw [if_pos ⟨rfl, hall.2⟩]
        rw [e0] at h
        refine SvX.for PassesOwn.never rfl (pg_tup (by rfl) (pgs_cons (pg_name (i := 3) sc_law_walked.nd rfl (by first | exact .inl rfl | exact .inr rfl)) (pgs_cons (pg_name (i := 4) sc_law_walked.nd rfl (by first | exact .inl rfl | exact .inr rfl)) pgs_nil))) ?_
        refine IvX.zip (by assumption) ?_
        walk_at "go"
        refine ⟨_, _, rfl, ?_⟩
        refine ⟨fun i δ1 M2 => M2 = M ∧ ∃ (s : Stg) (b : Nat) (x y z u v : Option Sd), (0 :: gs)[i]? = some (b : Int) ∧ Reach rows b s ∧ walkFrom rows b s ((0 :: gs).drop (i + 1)) = walkFrom rows 0 (0, []) gs ∧
          δ1 = [some (.dat (.tuple (rows.map Rw.d))), some (.dat (.list ((0 :: gs).map .int))), some (.dat (stD s)), x, y, z, u, v], ⟨rfl, (0, []), 0, none, none, none, none, none, rfl, .zero, rfl, rfl⟩, fun i r δ1 M2 hi hI => ?_, fun δ1 M2 hI => ?_⟩
        · obtain ⟨rfl, s, b, x, y, z, u, v, hb, rb, hw, rfl⟩ := hI
          obtain ⟨b', g, hb', hg, rfl⟩ := zip_at' hi
          obtain rfl : (b : Int) = b' := Option.some.inj (hb.symm.trans hb')
          refine ⟨_, _, (TgD.tup rfl (TgsD.cons (TgD.name 3) (TgsD.cons (TgD.name 4) TgsD.nil))), ?_⟩
          have hbl := rb.lt so n1
          have hrow : rows[b]? = some rows[b] := by simp [hbl]
          have okr := hl b _ hrow
          rw [Nat.zero_add] at okr
          walk_at "go"
          refine SvX.setLc (g := (gTup K 2 (gCons (gName 6) (gCons (gName 7) gNil)))) (i := 5) rfl sc_law_walked.nd rfl rfl rfl (blkOk_by (N := n_law_walked) (sc := defScope st_law_walked) (own := [("_law_row", 6), ("_law_led", 7)]) (by decide +kernel)) (fun _ _ _ _ _ => (pg_tup (by rfl) (pgs_cons (pg_name (i := 6) sc_law_walked.nd rfl (by first | exact .inl rfl | exact .inr rfl)) (pgs_cons (pg_name (i := 7) sc_law_walked.nd rfl (by first | exact .inl rfl | exact .inr rfl)) pgs_nil)))) ?_
          refine IvX.list ?_
          walk_at "go"
          refine ⟨rows, rows[b], s, rows.length, b, rfl, hrow, okr, by have := rb.flat so; omega, ?_⟩
          walk_at "go"
          rw [List.map_map]
          refine lcFilTA (leads rows[b] b s) (fun p => .dat (leadD p)) (fun p => decide (p.1 = g)) (fun p => stD p.2) (size_big (by have := leads_few rows[b] b s; omega)) (fun q hq => ?_) ?_
          · refine ⟨_, _, ?_, (TgD.tup rfl (TgsD.cons (TgD.name 6) (TgsD.cons (TgD.name 7) TgsD.nil))), ?_, fun _ => ?_⟩
            · decide
            · intro s0 H0 C cl fp
              walk_at "go"
              exact ⟨rfl, rfl⟩
            · intro s0 H0 C cl fp
              walk_at "go"
              exact ⟨rfl, rfl⟩
          have ex : ((leads rows[b] b s).filter fun p => decide (p.1 = g)).map (fun p => stD p.2) = (((leads rows[b] b s).filter fun p => decide (p.1 = g)).map (·.2)).map stD := by rw [List.map_map]; rfl
          rw [ex]
          have es : stepTo rows b s g = (((leads rows[b] b s).filter fun p => decide (p.1 = g)).map (·.2)).head? := by
            unfold stepTo
            rw [Int.toNat_natCast, hrow]
          have ed : (0 :: gs).drop (i + 1) = g :: (0 :: gs).drop (i + 2) := by
            rw [List.drop_eq_getElem_cons (List.getElem?_eq_some_iff.mp hg).1, (List.getElem?_eq_some_iff.mp hg).2]
          rw [ed, walkFrom_cons] at hw
          walk_at "go"
          refine VOp.eq hr.units (shaped_sts _) shaped_nil ?_
          rw [eqv_nilL]
          generalize ((leads rows[b] b s).filter fun p => decide (p.1 = g)).map (·.2) = xs at es
          cases xs with
          | nil =>
            rw [es] at hw
            have hw : none = walkFrom rows 0 (0, []) gs := hw
            walk_at "go"
            rw [← hw] at h
            exact h
          | cons t ts =>
            have es : stepTo rows b s g = some t := es
            rw [es] at hw
            have hw : walkFrom rows g t ((0 :: gs).drop (i + 2)) = _ := hw
            walk_at "go"
            refine SvX.set (i := 2) ?_ ?_ ?_ ?_ (hs := ?_) (hf := ?_)
            · exact sc_law_walked.nd
            · rfl
            · first | exact .inl rfl | exact .inr rfl
            rotate_left
            · first | with_reducible exact swap_lst | rfl
            · first | exact .inl rfl | exact .inr rfl
            walk_at "go"
            obtain ⟨c, rfl, _, rc⟩ := stepTo_reach rb so es
            exact ⟨rfl, t, c, _, _, _, _, _, hg, rc, hw, rfl⟩
        · obtain ⟨rfl, s, b, x, y, z, u, v, hb, rb, hw, rfl⟩ := hI
          rw [zip_len'] at hw
          rw [List.drop_of_length_le (by simp)] at hw
          have hw : some s = _ := hw
          rw [← hw] at h
          walk_at "go"
          exact h
      · rw [decide_eq_false fun z => a0 (List.cons.inj z).1]
        walk_at "go"
        have e0 : walkedTo rows (a :: gs) = none := by
          unfold walkedTo
          dsimp only
          rw [if_neg fun q => a0 q.1]
        rw [e0] at h
        exact h
theorem df_law_holds (T : Tx w K mg) (D_holds : Df P w K mg base 11 "holds" ["program", "thing"] aHolds) : Df P w K mg base 12 "_law_holds" ["_law_program", "_law_paper"] aLawHolds := by
  refine df_mk T.d_law_holds sc_law_holds (fun rs M P h => ?_) (fun _ _ _ _ _ _ us hl => match us, hl with | [_, _], _ => rfl) fun f cdv A outer s H E hr rs M PP h => ?_
  · obtain ⟨_, _, _, rfl, _⟩ := h
    rfl
  · obtain ⟨ps, d, q, rfl, ok, sy, h⟩ := h
    have b_isinstance := T.b_isinstance; have b_bool := T.b_bool
    walk_at "go"
    refine SvX.set (i := 2) ?_ ?_ ?_ ?_ (hs := ?_) (hf := ?_)
    · exact sc_law_holds.nd
    · rfl
    · first | exact .inl rfl | exact .inr rfl
    rotate_left
    · first | with_reducible exact swap_lst | rfl
    · first | exact .inl rfl | exact .inr rfl
    walk_at "go"
    refine ⟨ps, d, q, rfl, ok, sy, ?_⟩
    walk_at "go"
    exact h
theorem df_law_walk (T : Tx w K mg) (D_law_take : Df P w K mg base 1 "_law_take" ["_law_bag_here", "_law_many"] aTake) (D_law_goals : Df P w K mg base 1 "_law_goals" ["_law_rows", "_law_at", "_law_standing"] aLawGoals) : Df P w K mg base 2 "_law_walk" ["_law_bag_here", "_law_rows"] aLawWalk := by
  refine df_mk T.d_law_walk sc_law_walk (fun rs M P h => ?_) (fun _ _ _ _ _ _ us hl => match us, hl with | [_, _], _ => rfl) fun f cdv A outer s H E hr rs M PP h => ?_
  · obtain ⟨_, _, _, _, rfl, _⟩ := h
    rfl
  · obtain ⟨q, rows, n, b, rfl, hl, so, n1, h60, hn, hm, ok, h⟩ := h
    have b_range := T.b_range; have b_len := T.b_len
    walk_at "go"
    refine SvX.par (i := 2) (j := 3) ?_ (fun ha => ps_par rfl sc_law_walk.nd rfl rfl (by decide) rfl rfl ha (by rfl))
    walk_at "go"
    refine ⟨_, _, rfl, ?_⟩
    walk_at "go"
    refine SvX.for PassesOwn.never rfl (pg_name (i := 4) sc_law_walk.nd rfl (by first | exact .inl rfl | exact .inr rfl)) ?_
    refine IvX.range (by assumption) ?_
    walk_at "go"
    refine ⟨q, 25, n, b, rfl, by decide, by decide, by omega, hm, ok, fun t b1 t0 t1 ok1 => ?_⟩
    refine ⟨_, rfl, t0, by omega, ?_⟩
    refine ⟨fun i δ1 M2 => ∃ (w : List Int) (c : Nat) (s : Stg) (b3 : Int × Int × Int) (x y z : Option Sd), M2 = setM M q (bagL b3) ∧ BagOk (n + 1 + i) b3 ∧ w.getLast? = some (c : Int) ∧ w.all (inRows rows) = true ∧ w.length ≤ i + 1 ∧ Reach rows c s ∧
      δ1 = [some (.raw (.ref q)), some (.dat (.tuple (rows.map Rw.d))), some (.dat (.list (w.map .int))), some (.dat (stD s)), x, y, z], ⟨[0], 0, (0, []), b1, none, none, none, rfl, ok1.up (by omega), rfl, by rw [List.all_cons, List.all_nil, Bool.and_true]; exact decide_eq_true ⟨by decide, by omega⟩, by simp, .zero, rfl⟩, fun i r δ1 M2 hi hI => ?_, fun δ1 M2 hI => ?_⟩
    · obtain ⟨w, c, s, b3, x, y, z, rfl, ok3, hlast, hall, hlen, rc, rfl⟩ := hI
      have hi' : i < t.toNat := by
        have := (List.getElem?_eq_some_iff.mp hi).1
        simpa using this
      have hcl := rc.lt so n1
      have hrow : rows[c]? = some rows[c] := by simp [hcl]
      have okr := hl c _ hrow
      rw [Nat.zero_add] at okr
      have hlx : atI (w.map PyData.int) (-1) = some (.int c) := atI_lastD hlast
      refine ⟨_, _, TgD.name 4, ?_⟩
      walk_at "go"
      refine SvX.set (i := 5) ?_ ?_ ?_ ?_ (hs := ?_) (hf := ?_)
      · exact sc_law_walk.nd
      · rfl
      · first | exact .inl rfl | exact .inr rfl
      rotate_left
      · first | with_reducible exact swap_lst | rfl
      · first | exact .inl rfl | exact .inr rfl
      walk_at "go"
      refine ⟨rows, rows[c], s, rows.length, c, rfl, hrow, okr, by have := rc.flat so; omega, ?_⟩
      walk_at "go"
      refine VOp.ne hr.units ?_ shaped_nil ?_
      · exact shaped_leads _
      rw [eqv_nilL]
      cases hld : leads rows[c] c s with
      | nil =>
        walk_at "go"
        exact ⟨w, c, s, b3, _, _, _, rfl, ok3.up (by push_cast; omega), hlast, hall, by omega, rc, rfl⟩
      | cons p0 pr =>
        walk_at "go"
        refine SvX.asg (pg_tup (by rfl) (pgs_cons (pg_name (i := 6) sc_law_walk.nd rfl (by first | exact .inl rfl | exact .inr rfl)) (pgs_cons (pg_name (i := 3) sc_law_walk.nd rfl (by first | exact .inl rfl | exact .inr rfl)) pgs_nil))) ?_
        walk_at "go"
        rw [List.length_map]
        have few := leads_few rows[c] c s
        rw [hld] at few
        refine ⟨q, (p0 :: pr).length, n + 1 + i, b3, rfl, by rw [List.length_cons]; omega, by omega, by omega, setM_same, ok3, fun t2 b4 t20 t21 ok4 => ?_⟩
        rw [setM_setM]
        obtain ⟨j, rfl⟩ := Int.eq_ofNat_of_zero_le t20
        have hj : j < (p0 :: pr).length := by omega
        have hjx : (p0 :: pr)[j]? = some (p0 :: pr)[j] := by simp [hj]
        refine IOp.lst (atI_map hjx) ?_
        refine ⟨_, _, (TgD.tup rfl (TgsD.cons (TgD.name 6) (TgsD.cons (TgD.name 3) TgsD.nil))), ?_⟩
        have hpm : (p0 :: pr)[j] ∈ leads rows[c] c s := by
          rw [hld]
          exact List.getElem_mem hj
        generalize (p0 :: pr)[j] = p at hpm
        obtain ⟨g, hg1, hg2, hg3⟩ := rc.go so hrow hpm
        rw [show p.1 = (g : Int) from hg1]
        walk_at "go"
        refine SvX.set (i := 2) ?_ ?_ ?_ ?_ (hs := ?_) (hf := ?_)
        · exact sc_law_walk.nd
        · rfl
        · first | exact .inl rfl | exact .inr rfl
        rotate_left
        · first | with_reducible exact swap_lst | rfl
        · first | exact .inl rfl | exact .inr rfl
        walk_at "go"
        refine VOp.addLm (f := PyData.int) (b := [(g : Int)]) (by simp; omega) ?_
        walk_at "go"
        refine ⟨w ++ [(g : Int)], g, p.2, b4, _, _, _, rfl, ok4.up (by push_cast; omega), by simp, ?_, by simp; omega, hg3, rfl⟩
        rw [List.all_append, hall, List.all_cons, List.all_nil, Bool.and_true]
        exact decide_eq_true ⟨by omega, by omega⟩
    · obtain ⟨w, c, s, b3, x, y, z, rfl, ok3, hlast, hall, hlen, rc, rfl⟩ := hI
      rw [List.length_map, List.length_range] at ok3 hlen
      walk_at "go"
      refine h w b3 (fun e => ?_) hall (by omega) (ok3.up (by omega))
      subst e
      cases hlast
end
section
variable {P : Program} {w : World} {K : PySem.W.Frag} {mg : Str → Option Value} {base : Heap}
theorem df_law_odd_unmet_right (T : Tx w K mg) (D_law_holds : Df P w K mg base 12 "_law_holds" ["_law_program", "_law_paper"] aLawHolds) : Df P w K mg base 13 "_law_odd_unmet_right" ["_law_program", "_law_name", "_law_row", "_law_met", "_law_many"] aOddRight := by
  refine df_mk T.d_law_odd_unmet_right sc_law_odd_unmet_right (fun rs M P h => ?_) (fun _ _ _ _ _ _ us hl => match us, hl with | [_, _, _, _, _], _ => rfl) fun f cdv A outer s H E hr rs M PP h => ?_
  · obtain ⟨_, _, _, _, rfl, _⟩ := h
    rfl
  · obtain ⟨ps, p, i, met, rfl, ok, hp, pk, hz, hu, h⟩ := h
    have pp := ok.parts p hp
    have hri := unmet_rises hu
    have no : ∀ d ∈ [PyData.bool true, .bool false, .int (-1), .int p.rows.length, .int (10 ^ (30 : Int).toNat), .none], unmetOk p.rows d met = false := odd_no pp.many
    have b_len := T.b_len
    walk_at "go"
    refine SvX.set (i := 5) ?_ ?_ ?_ ?_ (hs := ?_) (hf := ?_)
    · exact sc_law_odd_unmet_right.nd
    · rfl
    · first | exact .inl rfl | exact .inr rfl
    rotate_left
    · first | with_reducible exact swap_lst | rfl
    · first | exact .inl rfl | exact .inr rfl
    walk_at "go"
    rw [cut_1, ← List.map_take, cut_tail, ← List.map_drop, ← List.map_reverse]
    refine VOp.addLm (by simp; omega) ?_
    walk_at "go"
    rw [List.length_map]
    have tail : ∀ s1 rest, (defBody st_law_odd_unmet_right).drop 2 = s1 :: rest → SvX (bX P w K mg base n_law_odd_unmet_right "_law_odd_unmet_right" st_law_odd_unmet_right f cdv A outer s H E) s1
        [some (.dat (pgD ps)), some (.dat (.str p.name)), some (.dat (.int i)), some (.dat (.list (met.map .int))), some (.dat (.int p.rows.length)), some (.dat (.list ((met.take 1 ++ (met.drop 1).reverse).map .int))), none, none] M
        (fun δ1 M1 => BvX (bX P w K mg base n_law_odd_unmet_right "_law_odd_unmet_right" st_law_odd_unmet_right f cdv A outer s H E) rest δ1 M1 (fun _ M' => PP (.dat .none) M') PP) PP := by
      intro s1 rest e
      have e : _ :: _ = s1 :: rest := e
      cases e
      refine SvX.set (i := 6) ?_ ?_ ?_ ?_ (hs := ?_) (hf := ?_)
      · exact sc_law_odd_unmet_right.nd
      · rfl
      · first | exact .inl rfl | exact .inr rfl
      rotate_left
      · first | with_reducible exact swap_lst | rfl
      · first | exact .inl rfl | exact .inr rfl
      walk_at "go"
      refine VOp.pow ⟨by decide, by decide, by decide⟩ ?_
      walk_at "go"
      refine EvX.lc (g := (gName 7)) rfl sc_law_odd_unmet_right.nd (blkOk_by (N := n_law_odd_unmet_right) (sc := defScope st_law_odd_unmet_right) (own := [("_law_one", 7)]) (by decide +kernel)) (fun _ _ _ _ _ => (pg_name (i := 7) sc_law_odd_unmet_right.nd rfl (by first | exact .inl rfl | exact .inr rfl))) ?_
      refine IvX.list ?_
      walk_at "go"
      refine lcMapA 7 [PyData.bool true, .bool false, .int (-1), .int p.rows.length, .int (10 ^ (30 : Int).toNat), .none] Sd.dat (fun _ => .bool false) (size_big (by exact (by decide : 6 ≤ 20000))) (by decide) (fun d hd => ?_) ?_
      · intro s0 H0 C cl fp
        walk_at "go"
        refine ⟨ps, _, _, rfl, ok, .unmet hp pk.sound (by omega), ?_⟩
        rw [no d hd]
        exact ⟨rfl, rfl⟩
      · walk_at "go"
        refine VOp.repL (by decide) (by decide) (sz6 (α := PyData) (a0 := .none) (a1 := .none) (a2 := .none) (a3 := .none) (a4 := .none) (a5 := .none)) ?_
        refine VOp.eq hr.units (shaped_bools [false, false, false, false, false, false]) (shaped_bools [false, false, false, false, false, false]) ?_
        exact h
    by_cases e : 2 < met.length
    · rw [decide_eq_true (by omega)]
      walk_at "go"
      refine ⟨ps, _, _, rfl, ok, .unmet hp pk.sound (by simp; omega), ?_⟩
      rw [turned_no hri e]
      walk_at "go"
      refine VOp.isnotB ?_
      walk_at "go"
      exact tail _ _ rfl
    · rw [decide_eq_false (by omega)]
      walk_at "go"
      exact tail _ _ rfl
theorem ok_fixed : PgOk [⟨"falls", [], [.put 1, .al "back", .al "say", .put 2]⟩, ⟨"lacks", [], [.al "done", .put 1, .al "back", .al "say"]⟩] := by
  refine ⟨by decide, by decide, by decide +kernel, fun p hp => ?_⟩
  simp only [List.mem_cons, List.not_mem_nil, or_false] at hp
  rcases hp with rfl | rfl
  · refine ⟨by decide +kernel, by simp, by decide, by simp, by decide, by decide, fun a r h => ?_⟩
    match a, h with
    | 0, h => cases Option.some.inj h; exact ⟨by decide, by decide⟩
    | 1, h => cases Option.some.inj h; exact (by decide +kernel : ("back" : Str) ∈ aloneL)
    | 2, h => cases Option.some.inj h; exact (by decide +kernel : ("say" : Str) ∈ aloneL)
    | 3, h => cases Option.some.inj h; exact ⟨by decide, by decide⟩
  · refine ⟨by decide +kernel, by simp, by decide, by simp, by decide, by decide, fun a r h => ?_⟩
    match a, h with
    | 0, h => cases Option.some.inj h; exact (by decide +kernel : ("done" : Str) ∈ aloneL)
    | 1, h => cases Option.some.inj h; exact ⟨by decide, by decide⟩
    | 2, h => cases Option.some.inj h; exact (by decide +kernel : ("back" : Str) ∈ aloneL)
    | 3, h => cases Option.some.inj h; exact (by decide +kernel : ("say" : Str) ∈ aloneL)
theorem sound_falls : Sound [.put 1, .al "back", .al "say", .put 2] := by
  have l0 : leads (.put 1) ((0 : Nat) : Int) (0, []) = [(1, (1, []))] := by decide +kernel
  have l1 : leads (.al "back") ((1 : Nat) : Int) (1, []) = [] := by decide +kernel
  refine ⟨fun a => if a = 0 then some (0, []) else if a = 1 then some (1, []) else none, rfl, fun a s h => ?_, fun a s r h hr => ?_, fun a s r h hr p hp => ?_⟩
  · match a, h with
    | 0, h => cases Option.some.inj h; decide
    | 1, h => cases Option.some.inj h; decide
    | a + 2, h => simp at h
  · match a, h with
    | 0, h =>
      cases Option.some.inj h
      cases Option.some.inj hr
      decide +kernel
    | 1, h =>
      cases Option.some.inj h
      cases Option.some.inj hr
      decide +kernel
    | a + 2, h => simp at h
  · match a, h with
    | 0, h =>
      cases Option.some.inj h
      cases Option.some.inj hr
      rw [l0] at hp
      cases List.mem_singleton.mp hp
      exact ⟨1, rfl, by decide, rfl⟩
    | 1, h =>
      cases Option.some.inj h
      cases Option.some.inj hr
      rw [l1] at hp
      cases hp
    | a + 2, h => simp at h
def fixedL : List (PyData × Bool) := [(.tuple [.str "unmet", .str "falls", .int 2, .list ([0, 1, 3].map .int)], true), (.tuple [.str "unmet", .str "falls", .int 2, .list ([0, 1].map .int)], true), (.tuple [.str "unmet", .str "falls", .int 3, .list ([0, 1, 2].map .int)], false), (.tuple [.str "unmet", .str "lacks", .int 3, .list ([0, 1, 2].map .int)], false)]
theorem says_fixed : ∀ x ∈ fixedL, Says [⟨"falls", [], [.put 1, .al "back", .al "say", .put 2]⟩, ⟨"lacks", [], [.al "done", .put 1, .al "back", .al "say"]⟩] x.1 x.2 := by
  intro x hx
  unfold fixedL at hx
  simp only [List.mem_cons, List.not_mem_nil, or_false] at hx
  have u1 : unmetOk [.put 1, .al "back", .al "say", .put 2] (.int 2) [0, 1, 3] = true := by decide +kernel
  have u2 : unmetOk [.put 1, .al "back", .al "say", .put 2] (.int 2) [0, 1] = true := by decide +kernel
  have u3 : unmetOk [.put 1, .al "back", .al "say", .put 2] (.int 3) [0, 1, 2] = false := by decide +kernel
  rcases hx with rfl | rfl | rfl | rfl
  · have := Says.unmet (ps := [⟨"falls", [], [.put 1, .al "back", .al "say", .put 2]⟩, ⟨"lacks", [], [.al "done", .put 1, .al "back", .al "say"]⟩]) (d := .int 2) (w := [0, 1, 3]) (p := ⟨"falls", [], [.put 1, .al "back", .al "say", .put 2]⟩) List.mem_cons_self sound_falls (by decide)
    rw [u1] at this
    exact this
  · have := Says.unmet (ps := [⟨"falls", [], [.put 1, .al "back", .al "say", .put 2]⟩, ⟨"lacks", [], [.al "done", .put 1, .al "back", .al "say"]⟩]) (d := .int 2) (w := [0, 1]) (p := ⟨"falls", [], [.put 1, .al "back", .al "say", .put 2]⟩) List.mem_cons_self sound_falls (by decide)
    rw [u2] at this
    exact this
  · have := Says.unmet (ps := [⟨"falls", [], [.put 1, .al "back", .al "say", .put 2]⟩, ⟨"lacks", [], [.al "done", .put 1, .al "back", .al "say"]⟩]) (d := .int 3) (w := [0, 1, 2]) (p := ⟨"falls", [], [.put 1, .al "back", .al "say", .put 2]⟩) List.mem_cons_self sound_falls (by decide)
    rw [u3] at this
    exact this
  · exact Says.lack (d := .int 3) (w := [0, 1, 2]) (p := ⟨"lacks", [], [.al "done", .put 1, .al "back", .al "say"]⟩) (List.mem_cons_of_mem _ List.mem_cons_self) ⟨_, rfl, by decide +kernel⟩ (by decide)
theorem df_law_fixed_right (T : Tx w K mg) (D_law_holds : Df P w K mg base 12 "_law_holds" ["_law_program", "_law_paper"] aLawHolds) : Df P w K mg base 13 "_law_fixed_right" [] aFixedRight := by
  refine df_mk T.d_law_fixed_right sc_law_fixed_right (fun rs M P h => ?_) (fun _ _ _ _ _ _ us hl => match us, hl with | [], _ => rfl) fun f cdv A outer s H E hr rs M PP h => ?_
  · obtain ⟨rfl, _⟩ := h
    rfl
  · obtain ⟨rfl, h⟩ := h
    walk_at "go"
    refine SvX.set (i := 0) ?_ ?_ ?_ ?_ (hs := ?_) (hf := ?_)
    · exact sc_law_fixed_right.nd
    · rfl
    · first | exact .inl rfl | exact .inr rfl
    rotate_left
    · first | with_reducible exact swap_lst | rfl
    · first | exact .inl rfl | exact .inr rfl
    walk_at "go"
    refine SvX.set (i := 1) ?_ ?_ ?_ ?_ (hs := ?_) (hf := ?_)
    · exact sc_law_fixed_right.nd
    · rfl
    · first | exact .inl rfl | exact .inr rfl
    rotate_left
    · first | with_reducible exact swap_lst | rfl
    · first | exact .inl rfl | exact .inr rfl
    walk_at "go"
    refine SvX.set (i := 2) ?_ ?_ ?_ ?_ (hs := ?_) (hf := ?_)
    · exact sc_law_fixed_right.nd
    · rfl
    · first | exact .inl rfl | exact .inr rfl
    rotate_left
    · first | with_reducible exact swap_lst | rfl
    · first | exact .inl rfl | exact .inr rfl
    refine EvX.lstM ?_
    walk_at "go"
    refine ⟨[.dat _, .dat _, .dat _], rfl, sz3, fun l hl => ?_⟩
    walk_at "go"
    refine EvX.append ?_
    walk_at "go"
    refine ⟨⟨l, _, rfl, setM_same⟩, ?_⟩
    walk_at "go"
    refine MOp.append (r := .dat _) setM_same (size_big (by exact (by decide : 3 ≤ 20000))) ?_
    rw [setM_setM]
    refine BvX.frz (ds := fixedL.map (·.1)) 2 setM_same rfl ?_
    rw [delM_setM hl]
    walk_at "go"
    refine EvX.lc (g := (gName 3)) rfl sc_law_fixed_right.nd (blkOk_by (N := n_law_fixed_right) (sc := defScope st_law_fixed_right) (own := [("_law_paper", 3)]) (by decide +kernel)) (fun _ _ _ _ _ => (pg_name (i := 3) sc_law_fixed_right.nd rfl (by first | exact .inl rfl | exact .inr rfl))) ?_
    refine IvX.list ?_
    walk_at "go"
    rw [List.map_map]
    refine lcMapA 3 fixedL (Sd.dat ∘ fun x => x.1) (fun x => .bool x.2) (size_big (by exact (by decide : 4 ≤ 20000))) (by decide) (fun x hx => ?_) ?_
    · intro s0 H0 C cl fp
      walk_at "go"
      exact ⟨_, _, _, rfl, ok_fixed, says_fixed x hx, rfl, rfl⟩
    · walk_at "go"
      refine VOp.eq hr.units (shaped_bools [true, true, false, false]) (shaped_bools [true, true, false, false]) ?_
      exact h
end
section
variable {P : Program} {w : World} {K : PySem.W.Frag} {mg : Str → Option Value} {base : Heap}
/-- is a row without a standing -/
def lacksB (ks : List (Nat × Stg)) (i : Nat) : Bool := !(at0 (ks.map fun p => ((.inl (p.1 : Int), .dat (stD p.2)) : Key × S0)) (.inl (i : Int))).isSome
theorem lacksB_no {rows : List Rw} {ks : List (Nat × Stg)} (f : FoundD rows ks) {i : Nat} {s : Stg} (h : Reach rows i s) : lacksB ks i = false := by
  unfold lacksB
  rw [dk_some f.1 ((f.2 i s).mpr h)]
  rfl
theorem lacksB_yes {rows : List Rw} {ks : List (Nat × Stg)} (f : FoundD rows ks) {i : Nat} (h : ¬ isR rows i) : lacksB ks i = true := by
  unfold lacksB
  rw [dk_none fun s z => h ⟨s, (f.2 i s).mp z⟩]
  rfl
abbrev told0 (ps : List Pt) (p : Pt) (fq : Addr) (a b : Nat) (paper : Option Sd) (kept : Option Sd) : Sl := [some (.dat (pgD ps)), some (.dat p.d), some (.raw (.ref fq)), some (.dat (.tuple [.int a, .int b])), some (.dat (.str p.name)), some (.dat (.tuple (p.names.map .str))), some (.dat (.tuple (p.rows.map Rw.d))), paper, none, none, kept, none, none]
/-- the pair's rows that have no standing -/
theorem told_missing {X : Cx} {scope : Scope} {δ : Sl} {M : AM} {PP : XP} {fq : Addr} {ks : List (Nat × Stg)} {a b : Nat} {pr pf po pc : Pos} (hu : X.A.units + 1 < cLine) (hm : M fq = some (dictL ks)) (hP : PP (.dat (.list (([a, b].filter (lacksB ks)).map fun i => .int (i : Nat)))) M)
    (ht : ∀ i : Nat, TvB X scope (.Compare (.Name "_law_row" pr) [.NotIn] [.Name "_law_found" pf] pc) ((wipeD δ [11]).set 11 (some (.dat (.int (i : Nat))))) M fun b M4 => M4 = M ∧ b = lacksB ks i)
    (he : ∀ i : Nat, EvB X scope (.Name "_law_row" po) ((wipeD δ [11]).set 11 (some (.dat (.int (i : Nat))))) M fun r' M4 => M4 = M ∧ r' = .dat (.int (i : Nat))) :
    LcInv X scope [.Compare (.Name "_law_row" pr) [.NotIn] [.Name "_law_found" pf] pc] (.Name "_law_row" po) (gName 11) [11] δ PP ([PyData.int a, .int b].map .dat) M :=
  lcFilA 11 [a, b] (fun i => .dat (.int (i : Nat))) (lacksB ks) (fun i => .int (i : Nat)) (size_big (by exact (by decide : 2 ≤ 20000))) (by decide) (fun i _ => ht i) (fun i _ _ => he i) hP
theorem df_law_told_right (T : Tx w K mg) (D_rows_paper : Df P w K mg base 9 "rows_paper" ["program", "part", "one", "other"] aPaper) (D_law_holds : Df P w K mg base 12 "_law_holds" ["_law_program", "_law_paper"] aLawHolds) (D_agree : Df P w K mg base 9 "agree" ["program", "part", "one", "other"] aAgree) (D_law_walked : Df P w K mg base 2 "_law_walked" ["_law_rows", "_law_walk_here"] aLawWalked) : Df P w K mg base 13 "_law_told_right" ["_law_program", "_law_part_here", "_law_found", "_law_pair"] aToldRight := by
  refine df_mk T.d_law_told_right sc_law_told_right (fun rs M P h => ?_) (fun _ _ _ _ _ _ us hl => match us, hl with | [_, _, _, _], _ => rfl) fun f cdv A outer s H E hr rs M PP h => ?_
  · obtain ⟨_, _, _, _, _, _, rfl, _⟩ := h
    rfl
  · obtain ⟨ps, p, fq, ks, a, b, rfl, ok, hp, pk, hm, fd, ha, hb, h⟩ := h
    have pp := ok.parts p hp
    have so := pk.sound
    have n1 := pp.some_
    have n60 := pp.many
    have hu := u1 hr
    have b_list := T.b_list; have b_int := T.b_int
    have rd : ∀ i : Nat, (∃ s, Reach p.rows i s) ∨ ¬ isR p.rows i := fun i => Classical.em _
    walk_at "go"
    refine SvX.asg (pg_tup (by rfl) (pgs_cons (pg_name (i := 4) sc_law_told_right.nd rfl (by first | exact .inl rfl | exact .inr rfl)) (pgs_cons (pg_name (i := 5) sc_law_told_right.nd rfl (by first | exact .inl rfl | exact .inr rfl)) (pgs_cons (pg_name (i := 6) sc_law_told_right.nd rfl (by first | exact .inl rfl | exact .inr rfl)) pgs_nil)))) ?_
    walk_at "go"
    refine ⟨_, _, (TgD.tup rfl (TgsD.cons (TgD.name 4) (TgsD.cons (TgD.name 5) (TgsD.cons (TgD.name 6) TgsD.nil)))), ?_⟩
    walk_at "go"
    refine SvX.set (i := 7) ?_ ?_ ?_ ?_ (hs := ?_) (hf := ?_)
    · exact sc_law_told_right.nd
    · rfl
    · first | exact .inl rfl | exact .inr rfl
    rotate_left
    · first | with_reducible exact swap_lst | rfl
    · first | exact .inl rfl | exact .inr rfl
    walk_at "go"
    have unm : ∀ (c : Nat) (ns : List Int), MetL p.rows ns → ns.length ≤ 60 → c < p.rows.length → ¬ isR p.rows c → ([a, b].filter (lacksB ks)).head? = some c → (∀ q : Bool, (q = true ↔ sameSt p.rows a b) → q = false) →
        BvX (bX P w K mg base n_law_told_right "_law_told_right" st_law_told_right f cdv A outer s H E) ((defBody st_law_told_right).drop 2) (told0 ps p fq a b (some (.dat (.tuple [.str "unmet", .str p.name, .int c, .list (ns.map .int)]))) none) M (fun _ M' => PP (.dat .none) M') PP := by
      intro c ns hns hl hc hn hhd hq
      walk_at "go"
      refine ⟨ps, _, _, rfl, ok, .unmet hp so (by omega), ?_⟩
      rw [met_unmet so n1 hns hc hn]
      walk_at "go"
      refine VOp.isnotB ?_
      walk_at "go"
      rw [decide_eq_true rfl]
      walk_at "go"
      refine SvX.setLc (g := (gName 11)) (i := 8) rfl sc_law_told_right.nd rfl rfl rfl (blkOk_by (N := n_law_told_right) (sc := defScope st_law_told_right) (own := [("_law_row", 11)]) (by decide +kernel)) (fun _ _ _ _ _ => (pg_name (i := 11) sc_law_told_right.nd rfl (by first | exact .inl rfl | exact .inr rfl))) ?_
      refine IvX.tup ?_
      walk_at "go"
      refine told_missing hu hm ?_ ?_ ?_
      · obtain ⟨ms, hms⟩ : ∃ ms, [a, b].filter (lacksB ks) = c :: ms := by
          cases e : [a, b].filter (lacksB ks) with
          | nil =>
            rw [e] at hhd
            cases hhd
          | cons x ms =>
            rw [e] at hhd
            cases hhd
            exact ⟨ms, rfl⟩
        rw [hms]
        walk_at "go"
        refine VOp.ne hr.units ?_ shaped_nil ?_
        · rw [show (c :: ms).map (fun i => PyData.int (i : Nat)) = ((c :: ms).map fun i => ((i : Nat) : Int)).map .int by rw [List.map_map]; rfl]
          exact shaped_ints _
        rw [eqv_nilL]
        walk_at "go"
        rw [decide_eq_true rfl]
        walk_at "go"
        refine ⟨ps, p, a, b, rfl, ok, hp, so, ha, hb, fun q hq' => ?_⟩
        rw [hq q hq']
        walk_at "go"
        refine VOp.isB ?_
        rw [decide_eq_true rfl]
        exact h
      · intro i s0 H0 C cl fp
        refine TvX.ninK hu ?_
        walk_at "go"
        exact ⟨fq, _, .inl (i : Int), rfl, hm, rfl, rfl, rfl⟩
      · intro i s0 H0 C cl fp
        walk_at "go"
        exact ⟨rfl, rfl⟩
    refine ⟨ps, p, a, b, rfl, ok, hp, so, ha, hb, fun ns hns hl => ⟨fun na => ?_, fun ra nb => ?_⟩, ?_⟩
    · refine unm a ns hns hl ha na ?_ (fun q hq => ?_)
      · rw [List.filter_cons, if_pos (lacksB_yes fd na)]
        rfl
      · cases q with
        | false => rfl
        | true =>
          obtain ⟨s1, z1, z2⟩ := hq.mp rfl
          exact absurd ⟨s1, z1⟩ na
    · refine unm b ns hns hl hb nb ?_ (fun q hq => ?_)
      · obtain ⟨s1, z1⟩ := ra
        rw [List.filter_cons, if_neg (by rw [lacksB_no fd z1]; decide), List.filter_cons, if_pos (lacksB_yes fd nb)]
        rfl
      · cases q with
        | false => rfl
        | true =>
          obtain ⟨s1, z1, z2⟩ := hq.mp rfl
          exact absurd ⟨s1, z2⟩ nb
    intro s1 t1 w1 v1 rs1 rt1 hw1 hv1 lw1 lv1 zw1 zv1 q hq
    have kd : (if s1 = t1 then ("agree" : Str) else "apart") ≠ "unmet" := by split <;> decide +kernel
    have sy : Says ps (.tuple [.str (if s1 = t1 then "agree" else "apart"), .str p.name, .list (w1.map .int), .list (v1.map .int)]) true := by
      by_cases e : s1 = t1
      · rw [if_pos e]
        have e2 : agreeB p.rows w1 v1 = true := by
          unfold agreeB bothOf
          rw [hw1, hv1]
          exact decide_eq_true e
        have := Says.agree (ps := ps) hp so (w := w1) (v := v1) (by omega) (by omega)
        rw [e2] at this
        exact this
      · rw [if_neg e]
        have e2 : apartB p.rows w1 v1 = true := by
          unfold apartB bothOf
          rw [hw1, hv1]
          show (!decide (s1 = t1)) = true
          rw [decide_eq_false e]
          rfl
        have := Says.apart (ps := ps) hp so (w := w1) (v := v1) (by omega) (by omega)
        rw [e2] at this
        exact this
    have hma := dk_some fd.1 ((fd.2 a s1).mpr rs1)
    have hmb := dk_some fd.1 ((fd.2 b t1).mpr rt1)
    walk_at "go"
    refine IOp.tupD (d := .str (if s1 = t1 then "agree" else "apart")) rfl ?_
    walk_at "go"
    rw [decide_eq_false kd]
    walk_at "go"
    refine SvX.set (i := 10) ?_ ?_ ?_ ?_ (hs := ?_) (hf := ?_)
    · exact sc_law_told_right.nd
    · rfl
    · first | exact .inl rfl | exact .inr rfl
    rotate_left
    · first | with_reducible exact swap_lst | rfl
    · first | exact .inl rfl | exact .inr rfl
    walk_at "go"
    refine IOp.tupD (d := .list (v1.map .int)) rfl ?_
    walk_at "go"
    refine COp.listL ?_
    walk_at "go"
    refine EvX.append ?_
    walk_at "go"
    refine IOp.tupR (v := .ref q) rfl ?_
    refine ⟨⟨q, _, rfl, setM_same⟩, ?_⟩
    walk_at "go"
    refine MOp.append (r := .dat (.int 0)) setM_same (size_big (by simp; omega)) ?_
    rw [setM_setM]
    walk_at "go"
    refine IOp.tupD (d := .list (v1.map .int)) rfl ?_
    walk_at "go"
    refine VOp.ne hr.units (shaped_ints _) (shaped_ints _) ?_
    rw [eqv_lints, decide_eq_true rfl]
    walk_at "go"
    refine EvX.pop0 ?_
    walk_at "go"
    refine IOp.tupR (v := .ref q) rfl ?_
    refine ⟨⟨q, _, rfl, setM_same⟩, ?_⟩
    refine MOp.pop (r := .dat (.int 0)) setM_same (by simp) ?_
    rw [setM_setM, List.dropLast_concat]
    refine BvX.nil ?_
    refine BvX.fixT (q := q) 7 (ds := [.str (if s1 = t1 then "agree" else "apart"), .str p.name, .list (w1.map .int), .list (v1.map .int)]) rfl (fun G' had => .cons (fun v h => h) (.cons (fun v h => h) (.cons (fun v h => ?_) (.cons (fun v h => h) .nil)))) ?_
    · rw [show v = .ref q from h]
      exact had.lst rfl (by rw [setM_same, List.map_map]; rfl)
    rw [outM_setM hq]
    generalize hkd : (if s1 = t1 then ("agree" : Str) else "apart") = kind at *
    walk_at "go"
    refine ⟨ps, _, _, rfl, ok, sy, ?_⟩
    walk_at "go"
    refine VOp.isnotB ?_
    walk_at "go"
    rw [decide_eq_true rfl]
    walk_at "go"
    refine SvX.setLc (g := (gName 11)) (i := 8) rfl sc_law_told_right.nd rfl rfl rfl (blkOk_by (N := n_law_told_right) (sc := defScope st_law_told_right) (own := [("_law_row", 11)]) (by decide +kernel)) (fun _ _ _ _ _ => (pg_name (i := 11) sc_law_told_right.nd rfl (by first | exact .inl rfl | exact .inr rfl))) ?_
    refine IvX.tup ?_
    walk_at "go"
    refine told_missing hu hm ?_ ?_ ?_
    rotate_left
    · intro i s0 H0 C cl fp
      refine TvX.ninK hu ?_
      walk_at "go"
      exact ⟨fq, _, .inl (i : Int), rfl, hm, rfl, rfl, rfl⟩
    · intro i s0 H0 C cl fp
      walk_at "go"
      exact ⟨rfl, rfl⟩
    rw [show [a, b].filter (lacksB ks) = [] by rw [List.filter_cons, if_neg (by rw [lacksB_no fd rs1]; decide), List.filter_cons, if_neg (by rw [lacksB_no fd rt1]; decide)]; rfl]
    walk_at "go"
    refine VOp.ne hr.units shaped_nil shaped_nil ?_
    rw [eqv_nilL]
    walk_at "go"
    refine SvX.set (i := 9) ?_ ?_ ?_ ?_ (hs := ?_) (hf := ?_)
    · exact sc_law_told_right.nd
    · rfl
    · first | exact .inl rfl | exact .inr rfl
    rotate_left
    · first | with_reducible exact swap_lst | rfl
    · first | exact .inl rfl | exact .inr rfl
    refine EvX.cmp (EvX.dix hu ?_)
    walk_at "go"
    refine DOp.dk (k := .inl (a : Int)) (r := .dat (stD s1)) hm hma ?_
    refine EvX.dix hu ?_
    walk_at "go"
    refine DOp.dk (k := .inl (b : Int)) (r := .dat (stD t1)) hm hmb ?_
    refine VOp.eq hr.units (shaped_st _) (shaped_st _) ?_
    rw [eqv_st]
    walk_at "go"
    refine IOp.lst (d := .str kind) (by
      rw [← hkd]
      by_cases e : s1 = t1
      · rw [if_pos e, decide_eq_true e]
        rfl
      · rw [if_neg e, decide_eq_false e]
        rfl) ?_
    walk_at "go"
    rw [decide_eq_true rfl]
    walk_at "go"
    refine ⟨ps, p, a, b, rfl, ok, hp, so, ha, hb, fun q' hq' => ?_⟩
    have hq2 : q' = decide (s1 = t1) := by
      by_cases e : s1 = t1
      · rw [decide_eq_true e, hq'.mpr ⟨s1, rs1, by rw [e]; exact rt1⟩]
      · rw [decide_eq_false e]
        cases q' with
        | false => rfl
        | true =>
          obtain ⟨u, z1, z2⟩ := hq'.mp rfl
          exact absurd ((rs1.uniq so z1).trans (rt1.uniq so z2).symm) e
    rw [hq2]
    walk_at "go"
    refine VOp.ne hr.units rfl rfl ?_
    rw [show PyData.eqv (.bool (decide (s1 = t1))) (.bool (decide (s1 = t1))) = true by simp [PyData.eqv]]
    walk_at "go"
    have ec : cutD [PyData.str kind, .str p.name, .list (w1.map .int), .list (v1.map .int)] (some 2) none = [w1, v1].map (fun w => .list (w.map .int)) := rfl
    have hlx : ∀ x ∈ [w1, v1], atI (x.map PyData.int) (-1) = some (.int (x.getLast?.getD 0)) := by
      intro x hx
      simp only [List.mem_cons, List.not_mem_nil, or_false] at hx
      rcases hx with rfl | rfl
      · rw [lw1]
        exact atI_lastD lw1
      · rw [lv1]
        exact atI_lastD lv1
    have hal : ∀ x ∈ [w1, v1], x.all (inRows p.rows) = true ∧ x.length ≤ 1000 := by
      intro x hx
      simp only [List.mem_cons, List.not_mem_nil, or_false] at hx
      rcases hx with rfl | rfl
      · exact ⟨walkedTo_in hw1 n1, by omega⟩
      · exact ⟨walkedTo_in hv1 n1, by omega⟩
    have hmx : ∀ x ∈ [(a, s1), (b, t1)], at0 (ks.map fun p => ((.inl (p.1 : Int), .dat (stD p.2)) : Key × S0)) (.inl (x.1 : Int)) = some (.dat (stD x.2)) := by
      intro x hx
      simp only [List.mem_cons, List.not_mem_nil, or_false] at hx
      rcases hx with rfl | rfl
      · exact hma
      · exact hmb
    have e3 : [w1, v1].map (fun w => PyData.int (w.getLast?.getD 0)) = [(a : Int), b].map .int := by simp [lw1, lv1]
    have e4 : [w1, v1].map (fun w => osD (walkedTo p.rows w)) = [some s1, some t1].map osD := by simp [hw1, hv1]
    refine EvX.lc (g := (gName 12)) rfl sc_law_told_right.nd (blkOk_by (N := n_law_told_right) (sc := defScope st_law_told_right) (own := [("_law_walk_here", 12)]) (by decide +kernel)) (fun _ _ _ _ _ => (pg_name (i := 12) sc_law_told_right.nd rfl (by first | exact .inl rfl | exact .inr rfl))) ?_
    refine IvX.tup ?_
    walk_at "go"
    rw [ec, List.map_map]
    refine lcMapA 12 [w1, v1] (Sd.dat ∘ fun w => PyData.list (w.map .int)) (fun w => .int (w.getLast?.getD 0)) (size_big (by exact (by decide : 2 ≤ 20000))) (by decide) (fun x hx => ?_) ?_
    · intro s0 H0 C cl fp
      walk_at "go"
      refine IOp.lst (hlx x hx) ?_
      exact ⟨rfl, rfl⟩
    rw [e3]
    walk_at "go"
    refine VOp.ne hr.units (shaped_ints _) (shaped_ints [(a : Int), b]) ?_
    rw [show [PyData.int a, .int b] = [(a : Int), b].map .int from rfl, eqv_lints, decide_eq_true rfl]
    walk_at "go"
    refine EvX.lc (g := (gName 12)) rfl sc_law_told_right.nd (blkOk_by (N := n_law_told_right) (sc := defScope st_law_told_right) (own := [("_law_walk_here", 12)]) (by decide +kernel)) (fun _ _ _ _ _ => (pg_name (i := 12) sc_law_told_right.nd rfl (by first | exact .inl rfl | exact .inr rfl))) ?_
    refine IvX.tup ?_
    walk_at "go"
    rw [ec, List.map_map]
    refine lcMapA 12 [w1, v1] (Sd.dat ∘ fun w => PyData.list (w.map .int)) (fun w => osD (walkedTo p.rows w)) (size_big (by exact (by decide : 2 ≤ 20000))) (by decide) (fun x hx => ?_) ?_
    · intro s0 H0 C cl fp
      walk_at "go"
      exact ⟨p.rows, x, rfl, pk.law, so, n60, (hal x hx).1, (hal x hx).2, rfl, rfl⟩
    rw [e4]
    walk_at "go"
    refine EvX.lc (g := (gName 11)) rfl sc_law_told_right.nd (blkOk_by (N := n_law_told_right) (sc := defScope st_law_told_right) (own := [("_law_row", 11)]) (by decide +kernel)) (fun _ _ _ _ _ => (pg_name (i := 11) sc_law_told_right.nd rfl (by first | exact .inl rfl | exact .inr rfl))) ?_
    refine IvX.tup ?_
    walk_at "go"
    rw [show ([(a : Int), b].map PyData.int).map Sd.dat = [(a, s1), (b, t1)].map (fun x => Sd.dat (.int (x.1 : Nat))) from rfl]
    refine lcMapA 11 [(a, s1), (b, t1)] (fun x => Sd.dat (.int (x.1 : Nat))) (fun x => stD x.2) (size_big (by exact (by decide : 2 ≤ 20000))) (by decide) (fun x hx => ?_) ?_
    · intro s0 H0 C cl fp
      refine EvX.dix hu ?_
      walk_at "go"
      refine DOp.dk (k := .inl (x.1 : Int)) (r := .dat (stD x.2)) hm (hmx x hx) ?_
      exact ⟨rfl, rfl⟩
    rw [show [(a, s1), (b, t1)].map (fun x => stD x.2) = [some s1, some t1].map osD from rfl]
    refine VOp.eq hr.units (shaped_oss _) (shaped_oss _) ?_
    rw [eqv_loss, decide_eq_true rfl]
    exact h
end
section
variable {P : Program} {w : World} {K : PySem.W.Frag} {mg : Str → Option Value} {base : Heap}
theorem setM_4 {M : AM} {q l : Addr} {x y z u : MO} (h : l ≠ q) : setM (setM (setM (setM M q x) l y) q z) l u = setM (setM M q z) l u := funext fun a => by
  simp only [setM]
  by_cases e : a = l
  · simp [e]
  · by_cases e2 : a = q
    · simp [e2, h.symm]
    · simp [e, e2]
theorem inD_oss (x y : Option Stg) : inD .none [osD x, osD y] = !(x.isSome && y.isSome) := by
  cases x <;> cases y <;> simp [inD, osD, stD, PyData.eqv]
theorem both_some {rows : List Rw} {o v : List Int} (h : ((walkedTo rows o).isSome && (walkedTo rows v).isSome) = true) : agreeB rows o v = decide (walkedTo rows o = walkedTo rows v) ∧ apartB rows o v = !decide (walkedTo rows o = walkedTo rows v) := by
  unfold agreeB apartB bothOf
  cases hx : walkedTo rows o with
  | none =>
    rw [hx] at h
    cases h
  | some s =>
    cases hy : walkedTo rows v with
    | none =>
      rw [hx, hy] at h
      cases h
    | some t =>
      show decide (s = t) = _ ∧ (!decide (s = t)) = _
      by_cases e : s = t <;> simp [e]
theorem both_none {rows : List Rw} {o v : List Int} (h : ((walkedTo rows o).isSome && (walkedTo rows v).isSome) = false) : agreeB rows o v = false ∧ apartB rows o v = false := by
  unfold agreeB apartB bothOf
  cases hx : walkedTo rows o with
  | none => exact ⟨rfl, rfl⟩
  | some s =>
    cases hy : walkedTo rows v with
    | none => exact ⟨rfl, rfl⟩
    | some t =>
      rw [hx, hy] at h
      cases h
theorem df_law_walks_right (T : Tx w K mg) (D_law_take : Df P w K mg base 1 "_law_take" ["_law_bag_here", "_law_many"] aTake) (D_law_walk : Df P w K mg base 2 "_law_walk" ["_law_bag_here", "_law_rows"] aLawWalk) (D_law_walked : Df P w K mg base 2 "_law_walked" ["_law_rows", "_law_walk_here"] aLawWalked) (D_law_holds : Df P w K mg base 12 "_law_holds" ["_law_program", "_law_paper"] aLawHolds) : Df P w K mg base 13 "_law_walks_right" ["_law_bag_here", "_law_program", "_law_part_here"] aWalksRight := by
  refine df_mk T.d_law_walks_right sc_law_walks_right (fun rs M P h => ?_) (fun _ _ _ _ _ _ us hl => match us, hl with | [_, _, _], _ => rfl) fun f cdv A outer s H E hr rs M PP h => ?_
  · obtain ⟨_, _, _, _, _, rfl, _⟩ := h
    rfl
  · obtain ⟨q, ps, p, n, b, rfl, ok, hp, pk, hn, hm, okb, h⟩ := h
    have pp := ok.parts p hp
    have so := pk.sound
    have n1 := pp.some_
    have n60 := pp.many
    walk_at "go"
    refine SvX.asg (pg_tup (by rfl) (pgs_cons (pg_name (i := 3) sc_law_walks_right.nd rfl (by first | exact .inl rfl | exact .inr rfl)) (pgs_cons (pg_name (i := 4) sc_law_walks_right.nd rfl (by first | exact .inl rfl | exact .inr rfl)) (pgs_cons (pg_name (i := 5) sc_law_walks_right.nd rfl (by first | exact .inl rfl | exact .inr rfl)) pgs_nil)))) ?_
    walk_at "go"
    refine ⟨_, _, (TgD.tup rfl (TgsD.cons (TgD.name 3) (TgsD.cons (TgD.name 4) (TgsD.cons (TgD.name 5) TgsD.nil)))), ?_⟩
    walk_at "go"
    refine SvX.set (i := 6) ?_ ?_ ?_ ?_ (hs := ?_) (hf := ?_)
    · exact sc_law_walks_right.nd
    · rfl
    · first | exact .inl rfl | exact .inr rfl
    rotate_left
    · first | with_reducible exact swap_lst | rfl
    · first | exact .inl rfl | exact .inr rfl
    refine EvX.lstM ?_
    walk_at "go"
    refine ⟨q, p.rows, n, b, rfl, pk.law, so, n1, n60, by omega, hm, okb, fun w1 b1 ne1 al1 len1 ok1 => ?_⟩
    walk_at "go"
    refine ⟨q, p.rows, n + 26, b1, rfl, pk.law, so, n1, n60, by omega, setM_same, ok1, fun w2 b2 ne2 al2 len2 ok2 => ?_⟩
    rw [setM_setM]
    walk_at "go"
    refine ⟨q, p.rows, n + 26 + 26, b2, rfl, pk.law, so, n1, n60, by omega, setM_same, ok2, fun w3 b3 ne3 al3 len3 ok3 => ?_⟩
    rw [setM_setM]
    walk_at "go"
    refine ⟨[.dat (.list (w1.map .int)), .dat (.list (w2.map .int)), .dat (.list (w3.map .int))], rfl, sz3, fun l hl => ?_⟩
    have lq : l ≠ q := fun z => by
      rw [z, setM_same] at hl
      cases hl
    have hl0 : M l = none := by
      rw [setM_ne lq] at hl
      exact hl
    walk_at "go"
    refine SvX.setIx ?_
    walk_at "go"
    refine IOp.lstD setM_same (d := .list (w3.map .int)) rfl ?_
    walk_at "go"
    refine VOp.addLm (f := PyData.int) (b := [(0 : Int)]) (by simp; omega) ?_
    walk_at "go"
    refine IOp.lstD setM_same (d := .list (w3.map .int)) rfl ?_
    walk_at "go"
    refine IOp.lstD setM_same (d := .list (w3.map .int)) rfl ?_
    walk_at "go"
    refine ⟨q, 3, n + 26 + 26 + 26, b3, rfl, by decide, by decide, by omega, (setM_ne lq.symm).trans setM_same, ok3, fun t b4 t0 t1 ok4 => ?_⟩
    rw [cut_tail, ← List.map_drop]
    obtain ⟨w4, h4, al4, len4⟩ : ∃ w4 : List Int, atI [PyData.list ((w3 ++ [0]).map .int), .list ((w3.drop 1).map .int), .list (w3.map .int)] t = some (.list (w4.map .int)) ∧ w4.all (inRows p.rows) = true ∧ w4.length ≤ 31 := by
      have e : t = 0 ∨ t = 1 ∨ t = 2 := by omega
      rcases e with rfl | rfl | rfl
      · refine ⟨_, rfl, ?_, by simp; omega⟩
        rw [List.all_append, al3, List.all_cons, List.all_nil, Bool.and_true]
        exact decide_eq_true ⟨by decide, by omega⟩
      · refine ⟨_, rfl, ?_, by simp; omega⟩
        rw [List.all_eq_true] at al3 ⊢
        exact fun x hx => al3 x (List.mem_of_mem_drop hx)
      · exact ⟨_, rfl, al3, by omega⟩
    refine IOp.lst h4 ?_
    walk_at "go"
    refine ⟨l, _, 2, 2, .dat (.list (w4.map .int)), rfl, (setM_ne lq).trans setM_same, rfl, rfl, rfl, ?_⟩
    rw [setM_4 lq]
    refine BvX.frz (ds := [w1, w2, w4].map fun w => .list (w.map .int)) 6 setM_same rfl ?_
    rw [delM_setM (by rw [setM_ne lq]; exact hl0)]
    have hW : ∀ v ∈ [w1, w2, w4], v.all (inRows p.rows) = true ∧ v.length ≤ 31 := by
      intro v hv
      simp only [List.mem_cons, List.not_mem_nil, or_false] at hv
      rcases hv with rfl | rfl | rfl
      · exact ⟨al1, by omega⟩
      · exact ⟨al2, by omega⟩
      · exact ⟨al4, by omega⟩
    generalize [w1, w2, w4] = W at hW
    walk_at "go"
    refine SvX.for PassesOwn.never rfl (pg_name (i := 7) sc_law_walks_right.nd rfl (by first | exact .inl rfl | exact .inr rfl)) ?_
    refine IvX.list ?_
    walk_at "go"
    rw [List.map_map]
    refine ⟨fun i δ1 M2 => M2 = setM M q (bagL b4) ∧ ∃ x y z u v : Option Sd, δ1 = [some (.raw (.ref q)), some (.dat (pgD ps)), some (.dat p.d), some (.dat (.str p.name)), some (.dat (.tuple (p.names.map .str))), some (.dat (.tuple (p.rows.map Rw.d))), some (.dat (.list (W.map fun w => .list (w.map .int)))), x, y, z, u, v],
      ⟨rfl, none, none, none, none, none, rfl⟩, fun i r δ1 M2 hi hI => ?_, fun δ1 M2 hI => ?_⟩
    · obtain ⟨rfl, x, y, z, u, v, rfl⟩ := hI
      rw [List.getElem?_map] at hi
      cases ho : W[i]? with
      | none =>
        rw [ho] at hi
        cases hi
      | some o =>
        rw [ho] at hi
        obtain rfl : Sd.dat (.list (o.map .int)) = r := by simpa using hi
        obtain ⟨alo, leno⟩ := hW o (List.mem_of_getElem? ho)
        refine ⟨_, _, TgD.name 7, ?_⟩
        walk_at "go"
        refine SvX.for PassesOwn.never rfl (pg_name (i := 8) sc_law_walks_right.nd rfl (by first | exact .inl rfl | exact .inr rfl)) ?_
        refine IvX.list ?_
        walk_at "go"
        rw [List.map_map]
        refine ⟨fun i δ1 M2 => M2 = setM M q (bagL b4) ∧ ∃ y z u v : Option Sd, δ1 = [some (.raw (.ref q)), some (.dat (pgD ps)), some (.dat p.d), some (.dat (.str p.name)), some (.dat (.tuple (p.names.map .str))), some (.dat (.tuple (p.rows.map Rw.d))), some (.dat (.list (W.map fun w => .list (w.map .int)))), some (.dat (.list (o.map .int))), y, z, u, v],
          ⟨rfl, _, _, _, _, rfl⟩, fun i r δ1 M2 hi hI => ?_, fun δ1 M2 hI => ?_⟩
        · obtain ⟨rfl, y, z, u, v, rfl⟩ := hI
          rw [List.getElem?_map] at hi
          cases hv : W[i]? with
          | none =>
            rw [hv] at hi
            cases hi
          | some v' =>
            rw [hv] at hi
            obtain rfl : Sd.dat (.list (v'.map .int)) = r := by simpa using hi
            obtain ⟨alv, lenv⟩ := hW v' (List.mem_of_getElem? hv)
            have sy : ∀ z ∈ [(("agree" : Str), agreeB p.rows o v'), ("apart", apartB p.rows o v')], Says ps (.tuple [.str z.1, .str p.name, .list (o.map .int), .list (v'.map .int)]) z.2 := by
              intro z hz
              simp only [List.mem_cons, List.not_mem_nil, or_false] at hz
              rcases hz with rfl | rfl
              · exact .agree hp so (by omega) (by omega)
              · exact .apart hp so (by omega) (by omega)
            have ei : [PyData.str "agree", .str "apart"].map Sd.dat = [(("agree" : Str), agreeB p.rows o v'), ("apart", apartB p.rows o v')].map fun z => Sd.dat (.str z.1) := rfl
            refine ⟨_, _, TgD.name 8, ?_⟩
            walk_at "go"
            refine SvX.set (i := 9) ?_ ?_ ?_ ?_ (hs := ?_) (hf := ?_)
            · exact sc_law_walks_right.nd
            · rfl
            · first | exact .inl rfl | exact .inr rfl
            rotate_left
            · first | with_reducible exact swap_lst | rfl
            · first | exact .inl rfl | exact .inr rfl
            walk_at "go"
            refine ⟨p.rows, o, rfl, pk.law, so, n60, alo, by omega, ?_⟩
            walk_at "go"
            refine ⟨p.rows, v', rfl, pk.law, so, n60, alv, by omega, ?_⟩
            walk_at "go"
            refine SvX.set (i := 10) ?_ ?_ ?_ ?_ (hs := ?_) (hf := ?_)
            · exact sc_law_walks_right.nd
            · rfl
            · first | exact .inl rfl | exact .inr rfl
            rotate_left
            · first | with_reducible exact swap_lst | rfl
            · first | exact .inl rfl | exact .inr rfl
            walk_at "go"
            refine VOp.ninD (u65 hr) rfl (shaped_oss [walkedTo p.rows o, walkedTo p.rows v']) ?_
            rw [inD_oss, Bool.not_not]
            cases hc : (walkedTo p.rows o).isSome && (walkedTo p.rows v').isSome with
            | false =>
              obtain ⟨ea, eb⟩ := both_none hc
              walk_at "go"
              refine VOp.ninD (u65 hr) rfl (shaped_oss [walkedTo p.rows o, walkedTo p.rows v']) ?_
              rw [inD_oss, Bool.not_not, hc]
              walk_at "go"
              refine EvX.lc (g := (gName 11)) rfl sc_law_walks_right.nd (blkOk_by (N := n_law_walks_right) (sc := defScope st_law_walks_right) (own := [("_law_word", 11)]) (by decide +kernel)) (fun _ _ _ _ _ => (pg_name (i := 11) sc_law_walks_right.nd rfl (by first | exact .inl rfl | exact .inr rfl))) ?_
              refine IvX.tup ?_
              walk_at "go"
              rw [ei]
              refine lcMapA 11 [(("agree" : Str), agreeB p.rows o v'), ("apart", apartB p.rows o v')] (fun z => Sd.dat (.str z.1)) (fun z => .bool z.2) (size_big (by exact (by decide : 2 ≤ 20000))) (by decide) (fun z hz => ?_) ?_
              · intro s0 H0 C cl fp
                walk_at "go"
                exact ⟨ps, _, _, rfl, ok, sy z hz, rfl, rfl⟩
              · rw [ea, eb]
                walk_at "go"
                refine VOp.ne hr.units (shaped_bools [false, false]) (shaped_bools [false, false]) ?_
                rw [show PyData.eqv (.list ([(("agree" : Str), false), ("apart", false)].map fun z => .bool z.2)) (.list [.bool false, .bool false]) = true from eqv_lbools [false, false] [false, false]]
                walk_at "go"
                exact ⟨rfl, _, _, _, _, rfl⟩
            | true =>
              obtain ⟨ea, eb⟩ := both_some hc
              walk_at "go"
              refine VOp.eq hr.units (shaped_os _) (shaped_os _) ?_
              rw [eqv_os]
              walk_at "go"
              refine VOp.ninD (u65 hr) rfl (shaped_oss [walkedTo p.rows o, walkedTo p.rows v']) ?_
              rw [inD_oss, Bool.not_not, hc]
              walk_at "go"
              refine VOp.ne hr.units (shaped_os _) (shaped_os _) ?_
              rw [eqv_os]
              walk_at "go"
              refine EvX.lc (g := (gName 11)) rfl sc_law_walks_right.nd (blkOk_by (N := n_law_walks_right) (sc := defScope st_law_walks_right) (own := [("_law_word", 11)]) (by decide +kernel)) (fun _ _ _ _ _ => (pg_name (i := 11) sc_law_walks_right.nd rfl (by first | exact .inl rfl | exact .inr rfl))) ?_
              refine IvX.tup ?_
              walk_at "go"
              rw [ei]
              refine lcMapA 11 [(("agree" : Str), agreeB p.rows o v'), ("apart", apartB p.rows o v')] (fun z => Sd.dat (.str z.1)) (fun z => .bool z.2) (size_big (by exact (by decide : 2 ≤ 20000))) (by decide) (fun z hz => ?_) ?_
              · intro s0 H0 C cl fp
                walk_at "go"
                exact ⟨ps, _, _, rfl, ok, sy z hz, rfl, rfl⟩
              · rw [ea, eb]
                walk_at "go"
                refine VOp.ne hr.units (shaped_bools [_, _]) (shaped_bools [_, _]) ?_
                rw [show PyData.eqv (.list ([(("agree" : Str), decide (walkedTo p.rows o = walkedTo p.rows v')), ("apart", !decide (walkedTo p.rows o = walkedTo p.rows v'))].map fun z => .bool z.2)) (.list [.bool (decide (walkedTo p.rows o = walkedTo p.rows v')), .bool (!decide (walkedTo p.rows o = walkedTo p.rows v'))]) = true from (eqv_lbools [_, _] [_, _]).trans (decide_eq_true rfl)]
                walk_at "go"
                exact ⟨rfl, _, _, _, _, rfl⟩
        · obtain ⟨rfl, y, z, u, v, rfl⟩ := hI
          walk_at "go"
          exact ⟨rfl, _, _, _, _, _, rfl⟩
    · obtain ⟨rfl, x, y, z, u, v, rfl⟩ := hI
      walk_at "go"
      exact h b4 (ok4.up (by omega))
end
section
variable {P : Program} {w : World} {K : PySem.W.Frag} {mg : Str → Option Value} {base : Heap}
theorem setM_3 {M : AM} {q l : Addr} {x y z : MO} (h : l ≠ q) : setM (setM (setM M q x) l y) q z = setM (setM M q z) l y := funext fun a => by
  simp only [setM]
  by_cases e : a = l
  · simp [e, h]
  · by_cases e2 : a = q
    · simp [e2, h.symm]
    · simp [e, e2]
theorem map_erase {α β : Type} (f : α → β) : ∀ (xs : List α) (j : Nat), (xs.map f).eraseIdx j = (xs.eraseIdx j).map f
  | [], _ => rfl
  | _ :: _, 0 => rfl
  | x :: xs, j + 1 => congrArg (f x :: ·) (map_erase f xs j)
theorem pw_lt {ms : List Int} (h : ms.Pairwise (· ≤ ·)) (nd : ms.Nodup) : ms.Pairwise (· < ·) := by
  induction ms with
  | nil => exact .nil
  | cons a t ih =>
    obtain ⟨h1, h2⟩ := List.pairwise_cons.mp h
    obtain ⟨n1, n2⟩ := List.nodup_cons.mp nd
    refine List.pairwise_cons.mpr ⟨fun x hx => ?_, ih h2 n2⟩
    have := h1 x hx
    have : a ≠ x := fun e => n1 (by rw [e]; exact hx)
    omega
theorem pw_erase {ms : List Int} (h : ms.Pairwise (· < ·)) (j : Nat) : (ms.eraseIdx j).Pairwise (· < ·) := h.sublist (List.eraseIdx_sublist ms j)
def closes (rows : List Rw) (met : List Int) (a : Int) : Bool := match rows[a.toNat]? with
  | none => true
  | some r => (goalsOf rows r a).all fun g => decide (g ∈ met)
theorem seq_j {j n : Nat} (h : j < n) : seqIndex? (j : Int) n = some j := (ixN_seq (by unfold ixN; rw [if_pos (by omega), if_pos (by omega), Int.toNat_natCast])).1
theorem ninInts {X : Cx} {M : AM} {P : XP} {w : Int} (hu : X.A.units + 65 < cLine) (ws : List Int) (h : P (.dat (.bool (!decide (w ∈ ws)))) M) : VOp X (compareOp .NotIn) (.dat (.int w)) (.dat (.list (ws.map .int))) M P := by
  refine VOp.ninD hu rfl (shaped_ints _) ?_
  rw [inD_int]
  exact h
theorem df_law_unmet_right (T : Tx w K mg) (D_law_take : Df P w K mg base 1 "_law_take" ["_law_bag_here", "_law_many"] aTake) (D_law_goals : Df P w K mg base 1 "_law_goals" ["_law_rows", "_law_at", "_law_standing"] aLawGoals) (D_law_holds : Df P w K mg base 12 "_law_holds" ["_law_program", "_law_paper"] aLawHolds) (D_law_odd_unmet_right : Df P w K mg base 13 "_law_odd_unmet_right" ["_law_program", "_law_name", "_law_row", "_law_met", "_law_many"] aOddRight) : Df P w K mg base 14 "_law_unmet_right" ["_law_bag_here", "_law_program", "_law_part_here", "_law_found"] aUnmetRight := by
  refine df_mk T.d_law_unmet_right sc_law_unmet_right (fun rs M P h => ?_) (fun _ _ _ _ _ _ us hl => match us, hl with | [_, _, _, _], _ => rfl) fun f cdv A outer s H E hr rs M PP h => ?_
  · obtain ⟨_, _, _, _, _, _, _, rfl, _⟩ := h
    rfl
  · obtain ⟨q, fq, ps, p, ks, n, b, rfl, ok, hp, pk, fqq, hf, fd, hn, hm, okb, h⟩ := h
    have pp := ok.parts p hp
    have so := pk.sound
    have n1 := pp.some_
    have n60 := pp.many
    have hu := u1 hr
    have b_len := T.b_len; have b_range := T.b_range; have b_list := T.b_list; have b_sorted := T.b_sorted; have b_all := T.b_all
    walk_at "go"
    refine SvX.asg (pg_tup (by rfl) (pgs_cons (pg_name (i := 4) sc_law_unmet_right.nd rfl (by first | exact .inl rfl | exact .inr rfl)) (pgs_cons (pg_name (i := 5) sc_law_unmet_right.nd rfl (by first | exact .inl rfl | exact .inr rfl)) (pgs_cons (pg_name (i := 6) sc_law_unmet_right.nd rfl (by first | exact .inl rfl | exact .inr rfl)) pgs_nil)))) ?_
    walk_at "go"
    refine ⟨_, _, (TgD.tup rfl (TgsD.cons (TgD.name 4) (TgsD.cons (TgD.name 5) (TgsD.cons (TgD.name 6) TgsD.nil)))), ?_⟩
    walk_at "go"
    refine SvX.set (i := 7) ?_ ?_ ?_ ?_ (hs := ?_) (hf := ?_)
    · exact sc_law_unmet_right.nd
    · rfl
    · first | exact .inl rfl | exact .inr rfl
    rotate_left
    · first | with_reducible exact swap_lst | rfl
    · first | exact .inl rfl | exact .inr rfl
    walk_at "go"
    rw [List.length_map]
    refine ⟨q, p.rows.length, n, b, rfl, by omega, by omega, by omega, hm, okb, fun row b1 row0 row1 ok1 => ?_⟩
    obtain ⟨row, rfl⟩ := Int.eq_ofNat_of_zero_le row0
    have hrl : row < p.rows.length := by omega
    walk_at "go"
    have fin2 : ∀ (met : List Int) (b' : Int × Int × Int) (D : Bool) (x y z u v t : Option Sd), met.length ≤ 60 → BagOk (n + 70) b' → unmetOk p.rows (.int row) met = D → BvX (bX P w K mg base n_law_unmet_right "_law_unmet_right" st_law_unmet_right f cdv A outer s H E) ((defBody st_law_unmet_right).drop 8)
        [some (.raw (.ref q)), some (.dat (pgD ps)), some (.dat p.d), some (.raw (.ref fq)), some (.dat (.str p.name)), some (.dat (.tuple (p.names.map .str))), some (.dat (.tuple (p.rows.map Rw.d))), some (.dat (.int row)), x, some (.dat (.list (met.map .int))), y, z, some (.dat (.bool D)), u, v, t] (setM M q (bagL b')) (fun _ M' => PP (.dat .none) M') PP := by
      intro met b' D x y z u v t hml okb' hD
      have last : BvX (bX P w K mg base n_law_unmet_right "_law_unmet_right" st_law_unmet_right f cdv A outer s H E) ((defBody st_law_unmet_right).drop 10)
          [some (.raw (.ref q)), some (.dat (pgD ps)), some (.dat p.d), some (.raw (.ref fq)), some (.dat (.str p.name)), some (.dat (.tuple (p.names.map .str))), some (.dat (.tuple (p.rows.map Rw.d))), some (.dat (.int row)), x, some (.dat (.list (met.map .int))), y, z, some (.dat (.bool D)), u, v, t] (setM M q (bagL b')) (fun _ M' => PP (.dat .none) M') PP := by
        walk_at "go"
        rw [cut_m1, List.length_map, ← List.map_drop]
        refine VOp.addLm (by simp; omega) ?_
        walk_at "go"
        refine ⟨ps, _, _, rfl, ok, .unmet hp so (by simp; omega), ?_⟩
        rw [twice_no]
        walk_at "go"
        refine VOp.isB ?_
        rw [decide_eq_true rfl]
        exact h b' okb'
      walk_at "go"
      refine ⟨ps, _, _, rfl, ok, .unmet hp so (by omega), ?_⟩
      rw [hD]
      walk_at "go"
      refine VOp.ne hr.units rfl rfl ?_
      rw [show PyData.eqv (.bool D) (.bool D) = true by simp [PyData.eqv]]
      walk_at "go"
      cases D with
      | false => exact iteF rfl (iteF rfl (BvX.nil last))
      | true =>
        walk_at "go"
        refine ⟨ps, p, row, met, by rw [List.length_map], ok, hp, pk, by omega, hD, ?_⟩
        exact ⟨_, rfl, iteF rfl (BvX.nil last)⟩
    have fin : ∀ (met : List Int) (b' : Int × Int × Int) (l : Addr) (x y z u v t r : Option Sd), met.Pairwise (· < ·) → met.length ≤ 60 → (∀ i ∈ met, inRows p.rows i = true) → M l = none → l ≠ q → BagOk (n + 70) b' → BvX (bX P w K mg base n_law_unmet_right "_law_unmet_right" st_law_unmet_right f cdv A outer s H E) ((defBody st_law_unmet_right).drop 5)
        [some (.raw (.ref q)), some (.dat (pgD ps)), some (.dat p.d), some (.raw (.ref fq)), some (.dat (.str p.name)), some (.dat (.tuple (p.names.map .str))), some (.dat (.tuple (p.rows.map Rw.d))), some (.dat (.int row)), x, some (.raw (.ref l)), y, z, u, v, t, r] (setM (setM M q (bagL b')) l (.lst ((met.map PyData.int).map .dat))) (fun _ M' => PP (.dat .none) M') PP := by
      intro met b' l x y z u v t r hpw hml hin hl lq okb'
      refine BvX.frz (ds := met.map .int) 9 setM_same rfl ?_
      rw [delM_setM (by rw [setM_ne lq]; exact hl)]
      walk_at "go"
      refine SvX.set (i := 10) ?_ ?_ ?_ ?_ (hs := ?_) (hf := ?_)
      · exact sc_law_unmet_right.nd
      · rfl
      · first | exact .inl rfl | exact .inr rfl
      rotate_left
      · first | with_reducible exact swap_lst | rfl
      · first | exact .inl rfl | exact .inr rfl
      walk_at "go"
      refine SvX.for PassesOwn.never rfl (pg_name (i := 11) sc_law_unmet_right.nd rfl (by first | exact .inl rfl | exact .inr rfl)) ?_
      refine IvX.list ?_
      walk_at "go"
      rw [List.map_map]
      refine ⟨fun i δ1 M2 => M2 = setM M q (bagL b') ∧ ∃ y z u v t : Option Sd, δ1 = [some (.raw (.ref q)), some (.dat (pgD ps)), some (.dat p.d), some (.raw (.ref fq)), some (.dat (.str p.name)), some (.dat (.tuple (p.names.map .str))), some (.dat (.tuple (p.rows.map Rw.d))), some (.dat (.int row)), x, some (.dat (.list (met.map .int))), some (.dat (.bool ((met.take i).all (closes p.rows met)))), y, z, u, v, t],
        ⟨rfl, _, _, _, _, _, rfl⟩, fun i r δ1 M2 hi hI => ?_, fun δ1 M2 hI => ?_⟩
      · obtain ⟨rfl, y, z, u, v, t, rfl⟩ := hI
        rw [List.getElem?_map] at hi
        cases hc : met[i]? with
        | none =>
          rw [hc] at hi
          cases hi
        | some c0 =>
          rw [hc] at hi
          obtain rfl : Sd.dat (.int c0) = r := by simpa using hi
          have hc1 := of_decide_eq_true (show decide (0 ≤ c0 ∧ c0 < (p.rows.length : Int)) = true from hin c0 (List.mem_of_getElem? hc))
          obtain ⟨c, rfl⟩ := Int.eq_ofNat_of_zero_le hc1.1
          have hcl : c < p.rows.length := by omega
          have hrow : p.rows[c]? = some p.rows[c] := by simp [hcl]
          have okr := pk.law c _ hrow
          rw [Nat.zero_add] at okr
          have tk : (met.take (i + 1)).all (closes p.rows met) = ((met.take i).all (closes p.rows met) && (goalsOf p.rows p.rows[c] c).all fun g => decide (g ∈ met)) := by
            rw [List.take_add_one, hc, List.all_append, Option.toList_some, List.all_cons, List.all_nil, Bool.and_true]
            unfold closes
            rw [Int.toNat_natCast, hrow]
          refine ⟨_, _, TgD.name 11, ?_⟩
          walk_at "go"
          refine SvX.setLc (g := (gTup K 2 (gCons (gName 14) (gCons (gName 15) gNil)))) (i := 13) rfl sc_law_unmet_right.nd rfl rfl rfl (blkOk_by (N := n_law_unmet_right) (sc := defScope st_law_unmet_right) (own := [("_law_goal", 14), ("_law_led", 15)]) (by decide +kernel)) (fun _ _ _ _ _ => (pg_tup (by rfl) (pgs_cons (pg_name (i := 14) sc_law_unmet_right.nd rfl (by first | exact .inl rfl | exact .inr rfl)) (pgs_cons (pg_name (i := 15) sc_law_unmet_right.nd rfl (by first | exact .inl rfl | exact .inr rfl)) pgs_nil)))) ?_
          refine IvX.list ?_
          walk_at "go"
          refine ⟨p.rows, p.rows[c], (0, [(0, 0)]), p.rows.length, c, rfl, hrow, okr, by decide, ?_⟩
          walk_at "go"
          rw [List.map_map]
          refine lcFilTA (leads p.rows[c] c (0, [(0, 0)])) (fun p => .dat (leadD p)) (fun g => decide (g.1 < (p.rows.length : Int))) (fun p => .int p.1) (size_big (by have := leads_few p.rows[c] c (0, [(0, 0)]); omega)) (fun g hg => ?_) ?_
          · refine ⟨_, _, ?_, (TgD.tup rfl (TgsD.cons (TgD.name 14) (TgsD.cons (TgD.name 15) TgsD.nil))), ?_, fun _ => ?_⟩
            · decide
            · intro s0 H0 C cl fp
              walk_at "go"
              exact ⟨rfl, by rw [List.length_map]⟩
            · intro s0 H0 C cl fp
              walk_at "go"
              exact ⟨rfl, rfl⟩
          have eg : ((leads p.rows[c] c (0, [(0, 0)])).filter fun g => decide (g.1 < (p.rows.length : Int))).map (fun p => PyData.int p.1) = (goalsOf p.rows p.rows[c] c).map .int := by
            unfold goalsOf
            rw [List.map_map]
            rfl
          rw [eg]
          walk_at "go"
          refine SvX.set (i := 10) ?_ ?_ ?_ ?_ (hs := ?_) (hf := ?_)
          · exact sc_law_unmet_right.nd
          · rfl
          · first | exact .inl rfl | exact .inr rfl
          rotate_left
          · first | with_reducible exact swap_lst | rfl
          · first | exact .inl rfl | exact .inr rfl
          walk_at "go"
          cases hcl : (met.take i).all (closes p.rows met) with
          | false =>
            walk_at "go"
            dsimp only
            rw [tk, hcl, Bool.false_and]
            exact ⟨rfl, _, _, _, _, _, rfl⟩
          | true =>
            walk_at "go"
            refine EvX.lc (g := (gName 14)) rfl sc_law_unmet_right.nd (blkOk_by (N := n_law_unmet_right) (sc := defScope st_law_unmet_right) (own := [("_law_goal", 14)]) (by decide +kernel)) (fun _ _ _ _ _ => (pg_name (i := 14) sc_law_unmet_right.nd rfl (by first | exact .inl rfl | exact .inr rfl))) ?_
            refine IvX.list ?_
            walk_at "go"
            rw [List.map_map]
            refine lcMapA 14 (goalsOf p.rows p.rows[c] c) (Sd.dat ∘ PyData.int) (fun g => .bool (decide (g ∈ met))) (size_big ?_) (by decide) (fun g hg => ?_) ?_
            · unfold goalsOf
              rw [List.length_map]
              exact Nat.le_trans (List.length_filter_le ..) (Nat.le_trans (leads_few ..) (by decide))
            · intro s0 H0 C cl fp
              walk_at "go"
              refine VOp.inInts met ?_
              exact ⟨rfl, rfl⟩
            walk_at "go"
            dsimp only
            rw [tk, hcl, Bool.true_and]
            exact ⟨rfl, _, _, _, _, _, rfl⟩
      · obtain ⟨rfl, y, z, u, v, t, rfl⟩ := hI
        rw [List.length_map, List.take_length]
        have due := due_ok (i := row) hrl hin hpw
        have ecl : closedIn p.rows met = met.all (closes p.rows met) := rfl
        rw [ecl] at due
        walk_at "go"
        refine SvX.set (i := 12) ?_ ?_ ?_ ?_ (hs := ?_) (hf := ?_)
        · exact sc_law_unmet_right.nd
        · rfl
        · first | exact .inl rfl | exact .inr rfl
        rotate_left
        · first | with_reducible exact swap_lst | rfl
        · first | exact .inl rfl | exact .inr rfl
        walk_at "go"
        refine VOp.inInts met ?_
        cases h0 : decide ((0 : Int) ∈ met) with
        | false =>
          rw [h0, Bool.false_and] at due
          exact ⟨_, rfl, iteF rfl (fin2 met b' _ _ _ _ _ _ _ hml okb' due)⟩
        | true =>
          rw [h0, Bool.true_and] at due
          walk_at "go"
          cases h1 : met.all (closes p.rows met) with
          | false =>
            rw [h1, Bool.false_and] at due
            exact iteF rfl (fin2 met b' _ _ _ _ _ _ _ hml okb' due)
          | true =>
            rw [h1, Bool.true_and] at due
            walk_at "go"
            refine ninInts (u65 hr) met ?_
            exact fin2 met b' _ _ _ _ _ _ _ hml okb' due
    refine SvX.setLc (g := (gName 11)) (i := 8) rfl sc_law_unmet_right.nd rfl rfl rfl (blkOk_by (N := n_law_unmet_right) (sc := defScope st_law_unmet_right) (own := [("_law_at", 11)]) (by decide +kernel)) (fun _ _ _ _ _ => (pg_name (i := 11) sc_law_unmet_right.nd rfl (by first | exact .inl rfl | exact .inr rfl))) ?_
    refine IvX.range (by assumption) ?_
    walk_at "go"
    rw [List.length_map, Int.toNat_natCast]
    refine ⟨by omega, by omega, ?_⟩
    refine ⟨fun i acc M2 => ∃ (b3 : Int × Int × Int) (xs : List Nat), M2 = setM M q (bagL b3) ∧ BagOk (n + 1 + i) b3 ∧ acc = (xs.map fun a => PyData.int (a : Nat)).map .dat ∧ xs.Nodup ∧ (∀ x ∈ xs, x < i) ∧ (∀ x ∈ xs, ∀ s, (x, s) ∉ ks), ⟨b1, [], rfl, ok1.up (by omega), rfl, List.nodup_nil, by simp, by simp⟩, size_big (by simp; omega), fun i r acc M2 hi hI => ?_, fun acc M2 hI => ?_⟩
    · obtain ⟨b3, xs, rfl, ok3, rfl, nd, hlt, hno⟩ := hI
      have hi' : i < p.rows.length := by
        have := (List.getElem?_eq_some_iff.mp hi).1
        simpa using this
      obtain rfl : Sd.dat (.int (i : Nat)) = r := by
        rw [List.getElem?_map, List.getElem?_range hi'] at hi
        exact Option.some.inj hi
      refine ⟨_, [11], fun c M3 => ∃ b4, M3 = setM M q (bagL b4) ∧ BagOk (n + 1 + (i + 1 : Nat)) b4 ∧ (c = true → ∀ s, (i, s) ∉ ks), by decide, TgD.name 11, ?_, ?_, ?_⟩
      · intro s0 H0 C cl fp
        walk_at "go"
        refine ⟨q, 9, n + 1 + i, b3, rfl, by decide, by decide, by omega, setM_same, ok3, fun t b4 t0 t1 ok4 => ?_⟩
        rw [setM_setM]
        walk_at "go"
        by_cases e : t = 0
        · rw [decide_eq_true e]
          refine iteT rfl (WvX.and1 (TvX.ninK hu ?_))
          walk_at "go"
          refine ⟨fq, _, .inl (i : Int), rfl, (setM_ne fqq).trans hf, rfl, b4, rfl, ok4.up (by push_cast; omega), fun z s hs => ?_⟩
          rw [dk_some fd.1 hs] at z
          cases z
        · rw [decide_eq_false e]
          exact iteF rfl ⟨b4, rfl, ok4.up (by push_cast; omega), fun z => by cases z⟩
      · rintro M3 ⟨b4, rfl, ok4, hn4⟩
        intro s0 H0 C cl fp
        walk_at "go"
        refine ⟨.dat (.int i), rfl, b4, xs ++ [i], rfl, ok4, by simp, ?_, fun x hx => ?_, fun x hx => ?_⟩
        · rw [List.nodup_append]
          refine ⟨nd, by simp, fun a ha b hb => ?_⟩
          rw [List.mem_singleton.mp hb]
          have := hlt a ha
          omega
        · rcases List.mem_append.mp hx with hx | hx
          · exact Nat.lt_succ_of_lt (hlt x hx)
          · rw [List.mem_singleton.mp hx]
            exact Nat.lt_succ_self i
        · rcases List.mem_append.mp hx with hx | hx
          · exact hno x hx
          · rw [List.mem_singleton.mp hx]
            exact hn4 rfl
      · rintro M3 ⟨b4, rfl, ok4, hn4⟩
        exact ⟨b4, xs, rfl, ok4, rfl, nd, fun x hx => Nat.lt_succ_of_lt (hlt x hx), hno⟩
    obtain ⟨b3, xs, rfl, ok3, rfl, nd, hlt, hno⟩ := hI
    rw [List.length_map, List.length_range] at ok3 hlt
    refine .inl ⟨_, rfl, ?_⟩
    have el : ((ks.map fun p => ((.inl (p.1 : Int), .dat (stD p.2)) : Key × S0)).map fun kv => kD kv.1) = (ks.map fun p => ((p.1 : Nat) : Int)).map .int := by
      rw [List.map_map, List.map_map]
      rfl
    have er : xs.map (fun a => PyData.int (a : Nat)) = (xs.map fun a => ((a : Nat) : Int)).map .int := by
      rw [List.map_map]
      rfl
    have nodup : (ks.map (·.1) ++ xs).Nodup := by
      rw [List.nodup_append]
      refine ⟨fd.1, nd, fun a ha b hb e => ?_⟩
      obtain ⟨⟨a', s'⟩, h1, rfl⟩ := List.mem_map.mp ha
      exact hno b hb s' (by rw [← e]; exact h1)
    have inr : ∀ x ∈ ks.map (·.1) ++ xs, x < p.rows.length := by
      intro x hx
      rcases List.mem_append.mp hx with hx | hx
      · obtain ⟨⟨a', s'⟩, h1, rfl⟩ := List.mem_map.mp hx
        exact ((fd.2 a' s').mp h1).lt so n1
      · exact hlt x hx
    have len := nodup_lt p.rows.length _ nodup inr
    have en : (ks.map fun p => ((p.1 : Nat) : Int)) ++ (xs.map fun a => ((a : Nat) : Int)) = (ks.map (·.1) ++ xs).map fun a => ((a : Nat) : Int) := by
      rw [List.map_append, List.map_map]
      rfl
    have z0 : (0 : Int) ∈ (ks.map (·.1) ++ xs).map fun a => ((a : Nat) : Int) := List.mem_map.mpr ⟨0, List.mem_append_left _ (List.mem_map.mpr ⟨(0, (0, [])), (fd.2 0 _).mpr .zero, rfl⟩), rfl⟩
    walk_at "go"
    refine SvX.set (i := 9) ?_ ?_ ?_ ?_ (hs := ?_) (hf := ?_)
    · exact sc_law_unmet_right.nd
    · rfl
    · first | exact .inl rfl | exact .inr rfl
    rotate_left
    · first | with_reducible exact swap_lst | rfl
    · first | exact .inl rfl | exact .inr rfl
    walk_at "go"
    refine COp.listD rfl ((setM_ne fqq).trans hf) ?_
    rw [el]
    walk_at "go"
    rw [er]
    refine VOp.addLm (by rw [List.length_append, List.length_map] at len; rw [List.length_map, List.length_map]; omega) ?_
    rw [en]
    walk_at "go"
    refine COp.sortedM (by rw [List.length_map]; omega) (fun ms hperm hsort l hl => ?_)
    have lq : l ≠ q := fun z => by
      rw [z, setM_same] at hl
      cases hl
    have hl0 : M l = none := by
      rw [setM_ne lq] at hl
      exact hl
    have hlen : ms.length ≤ 60 := by
      rw [hperm.length_eq, List.length_map]
      omega
    have hnd : ms.Nodup := hperm.nodup_iff.mpr (by
      refine List.Pairwise.map _ (fun a b h e => h (Int.ofNat.inj e)) nodup)
    have hpw := pw_lt hsort hnd
    have hin : ∀ i ∈ ms, inRows p.rows i = true := fun i hi => by
      obtain ⟨a, ha, rfl⟩ := List.mem_map.mp (hperm.mem_iff.mp hi)
      have := inr a ha
      exact decide_eq_true ⟨by omega, by omega⟩
    have hpos : 0 < ms.length := List.length_pos_iff.mpr (fun e => by
      have := hperm.mem_iff.mpr z0
      rw [e] at this
      cases this)
    walk_at "go"
    refine ⟨q, 3, n + 61, b3, rfl, by decide, by decide, by omega, (setM_ne lq.symm).trans setM_same, ok3.up (by omega), fun t b4 t0 t1 ok4 => ?_⟩
    rw [setM_3 lq]
    walk_at "go"
    by_cases e : t = 0
    · rw [decide_eq_true e]
      walk_at "go"
      refine EvX.popA ?_
      walk_at "go"
      refine ⟨⟨l, _, rfl, setM_same⟩, ?_⟩
      walk_at "go"
      refine COp.lenM setM_same ?_
      rw [List.length_map, List.length_map]
      walk_at "go"
      refine ⟨q, ms.length, n + 62, b4, rfl, by omega, by omega, by omega, (setM_ne lq.symm).trans setM_same, ok4.up (by omega), fun t2 b5 t20 t21 ok5 => ?_⟩
      rw [setM_3 lq]
      walk_at "go"
      obtain ⟨j, rfl⟩ := Int.eq_ofNat_of_zero_le t20
      have hj : j < ms.length := by omega
      refine MOp.popAt (j := j) (r := .dat (.int ms[j])) setM_same (by omega) (by omega) (by rw [List.length_map, List.length_map]; exact seq_j hj) (by simp [hj]) ?_
      rw [setM_setM, map_erase, map_erase]
      exact BvX.nil (fin (ms.eraseIdx j) b5 l _ _ _ _ _ _ _ (pw_erase hpw j) (Nat.le_trans (List.length_eraseIdx_le ms j) hlen) (fun i hi => hin i (List.mem_of_mem_eraseIdx hi)) hl0 lq (ok5.up (by omega)))
    · rw [decide_eq_false e]
      exact iteF rfl (BvX.nil (fin ms b4 l _ _ _ _ _ _ _ hpw hlen hin hl0 lq (ok4.up (by omega))))
end
section
variable {X : Cx} {st : Stmt} {δ : Sl} {M : AM} {N N' : Sl → AM → Prop} {R : XP}
theorem SvX.mono (h : SvX X st δ M N' R) (i : ∀ δ1 M1, N' δ1 M1 → N δ1 M1) : SvX X st δ M N R := fun σ G H D s l k =>
  h σ G H D s l ⟨fun δ' M' σ' G' H' s' l' f' n => k.nx δ' M' σ' G' H' s' l' f' (i _ _ n), k.rt⟩
end
theorem setM_id {M : AM} {q : Addr} {o : MO} (h : M q = some o) : setM M q o = M := funext fun a => by
  by_cases e : a = q
  · rw [e, setM_same, h]
  · rw [setM_ne e]
def nameL : Nat → List Str
  | 0 => ["x", "xl", "xla", "xlan", "xland", "xlands"]
  | 1 => ["y", "yl", "yla", "ylan", "yland", "ylands"]
  | _ => []
theorem nameL_ok {j : Nat} {z : Str} (h : z ∈ nameL j) : NameOk z := by
  match j, h with
  | 0, h => exact (by decide +kernel : ∀ z ∈ nameL 0, NameOk z) z h
  | 1, h => exact (by decide +kernel : ∀ z ∈ nameL 1, NameOk z) z h
theorem nameL_ne {z y : Str} (h : z ∈ nameL 0) (h' : y ∈ nameL 1) : z ≠ y := (by decide +kernel : ∀ z ∈ nameL 0, ∀ y ∈ nameL 1, z ≠ y) z h y h'
theorem char_at {j : Nat} (h : j < 2) : atI ("xy" : Str).cps.toList (j : Int) = some (if j = 0 then 120 else 121) := by
  match j, h with
  | 0, _ => decide +kernel
  | 1, _ => decide +kernel
theorem name_in {j : Nat} (h : j < 2) {t : Int} (t0 : 0 ≤ t) (t1 : t < 6) : ((⟨#[if j = 0 then 120 else 121]⟩ : Str) ++ cutS "lands" none (some t)) ∈ nameL j ∧ (⟨#[if j = 0 then 120 else 121]⟩ : Str).length + (cutS "lands" none (some t)).length ≤ 20000 := by
  have e : t = 0 ∨ t = 1 ∨ t = 2 ∨ t = 3 ∨ t = 4 ∨ t = 5 := by omega
  match j, h with
  | 0, _ => rcases e with rfl | rfl | rfl | rfl | rfl | rfl <;> decide +kernel
  | 1, _ => rcases e with rfl | rfl | rfl | rfl | rfl | rfl <;> decide +kernel
theorem le_set {M M3 : AM} {q : Addr} {o : MO} (h : LeM M M3) (hq : M q = none) : LeM M (setM M3 q o) := fun a m e => by
  have : a ≠ q := fun z => by
    rw [z, hq] at e
    cases e
  rw [setM_ne this]
  exact h a m e
theorem le_none {M M3 : AM} {q : Addr} (h : LeM M M3) (hq : M3 q = none) : M q = none := by
  cases e : M q with
  | none => rfl
  | some m =>
    rw [h q m e] at hq
    cases hq
def pairD (x : Nat × Nat) : PyData := .tuple [.int x.1, .int x.2]
theorem pairs_in (L : Nat) (h : 1 ≤ L) : ∀ x ∈ (List.range (L * L)).map (fun i => (i / L, i % L)), x.1 < L ∧ x.2 < L := by
  intro x hx
  obtain ⟨i, hi, rfl⟩ := List.mem_map.mp hx
  have := List.mem_range.mp hi
  exact ⟨Nat.div_lt_of_lt_mul this, Nat.mod_lt _ (by omega)⟩
theorem pg_ok {ps : List Pt} (h1 : 1 ≤ ps.length) (h2 : ps.length ≤ 2) (hp : ∀ p ∈ ps, PartOk p) (hn : ∀ k p, ps[k]? = some p → p.name ∈ nameL k) : PgOk ps := by
  refine ⟨h1, h2, ?_, fun p h => (hp p h).ok⟩
  match ps, h1, h2, hn with
  | [p], _, _, _ => simp
  | [p, p'], _, _, hn =>
    have a := hn 0 p rfl
    have b := hn 1 p' rfl
    simp [nameL_ne a b]
section
variable {P : Program} {w : World} {K : PySem.W.Frag} {mg : Str → Option Value} {base : Heap}
theorem ok_law (T : Tx w K mg) (D_law_bag : Df P w K mg base 1 "_law_bag" ["_law_script", "_law_at"] aBag) (D_law_take : Df P w K mg base 1 "_law_take" ["_law_bag_here", "_law_many"] aTake) (D_law_part : Df P w K mg base 9 "_law_part" ["_law_bag_here", "_law_name"] aPart) (D_law_standings : Df P w K mg base 2 "_law_standings" ["_law_rows"] aLawStandings) (D_law_told_right : Df P w K mg base 13 "_law_told_right" ["_law_program", "_law_part_here", "_law_found", "_law_pair"] aToldRight) (D_law_walks_right : Df P w K mg base 13 "_law_walks_right" ["_law_bag_here", "_law_program", "_law_part_here"] aWalksRight) (D_law_unmet_right : Df P w K mg base 14 "_law_unmet_right" ["_law_bag_here", "_law_program", "_law_part_here", "_law_found"] aUnmetRight) (D_law_fixed_right : Df P w K mg base 13 "_law_fixed_right" [] aFixedRight) {f : Addr} {fd : FuncData} (F : FnS K "law" "law" st_law f fd) : FnOk P w K mg base CX0 15 f fd ["_law_script"] (conc K aLaw) := by
  refine fnok_of F sc_law (fun rs M P h => ?_) (fun cdv A outer s H E hr rs M PP h => ?_)
  · obtain ⟨_, rfl, _⟩ := h
    rfl
  · obtain ⟨ns, rfl, hn, h⟩ := h
    refine BvX.fo ?_
    have b_len := T.b_len; have b_max := T.b_max; have b_min := T.b_min; have b_range := T.b_range; have b_tuple := T.b_tuple; have b_all := T.b_all
    walk_at "go"
    refine SvX.for PassesOwn.never rfl (pg_name (i := 1) sc_law.nd rfl (by first | exact .inl rfl | exact .inr rfl)) ?_
    refine IvX.range (by assumption) ?_
    walk_at "go"
    refine COp.min2 rfl ?_
    walk_at "go"
    refine COp.max2 rfl ?_
    obtain ⟨m, em, m0, m3⟩ : ∃ m : Int, (if (if (ns.length : Int) < 3 then (ns.length : Int) else 3) > 1 then (if (ns.length : Int) < 3 then (ns.length : Int) else 3) else 1) = m ∧ 0 ≤ m ∧ m ≤ 3 := by
      refine ⟨_, rfl, ?_, ?_⟩
      · repeat' split
        all_goals omega
      · repeat' split
        all_goals omega
    rw [em]
    refine ⟨_, rfl, m0, by omega, ?_⟩
    refine ⟨fun i δ1 M2 => LeM M M2 ∧ ∃ x1 x2 x3 x4 x5 x6 x7 x8 x9 : Option Sd, δ1 = [some (.seq ns), x1, x2, x3, x4, x5, x6, x7, x8, x9], ⟨fun a m e => e, none, none, none, none, none, none, none, none, none, rfl⟩, fun i r δ1 M2 hi hI => ?_, fun δ1 M2 hI => ?_⟩
    · obtain ⟨hle, x1, x2, x3, x4, x5, x6, x7, x8, x9, rfl⟩ := hI
      have hi' : i < m.toNat := by
        have := (List.getElem?_eq_some_iff.mp hi).1
        simpa using this
      obtain rfl : Sd.dat (.int (i : Nat)) = r := by
        rw [List.getElem?_map, List.getElem?_range hi'] at hi
        exact Option.some.inj hi
      refine ⟨_, _, TgD.name 1, ?_⟩
      walk_at "go"
      refine SvX.set (i := 2) ?_ ?_ ?_ ?_ (hs := ?_) (hf := ?_)
      · exact sc_law.nd
      · rfl
      · first | exact .inl rfl | exact .inr rfl
      rotate_left
      · first | with_reducible exact swap_lst | rfl
      · first | exact .inl rfl | exact .inr rfl
      walk_at "go"
      refine ⟨ns, i, rfl, hn, by omega, fun q b hq okb => ?_⟩
      have hq0 := le_none hle hq
      walk_at "go"
      refine SvX.set (i := 3) ?_ ?_ ?_ ?_ (hs := ?_) (hf := ?_)
      · exact sc_law.nd
      · rfl
      · first | exact .inl rfl | exact .inr rfl
      rotate_left
      · first | with_reducible exact swap_lst | rfl
      · first | exact .inl rfl | exact .inr rfl
      walk_at "go"
      refine EvX.lc (g := (gName 8)) rfl sc_law.nd (blkOk_by (N := n_law) (sc := defScope st_law) (own := [("_law_k", 8)]) (by decide +kernel)) (fun _ _ _ _ _ => (pg_name (i := 8) sc_law.nd rfl (by first | exact .inl rfl | exact .inr rfl))) ?_
      refine IvX.range (by assumption) ?_
      walk_at "go"
      refine ⟨q, 2, 0, b, rfl, by decide, by decide, by decide, setM_same, okb, fun t b1 t0 t1 ok1 => ?_⟩
      rw [setM_setM]
      walk_at "go"
      refine ⟨by omega, by omega, ?_⟩
      refine ⟨fun i acc M3 => ∃ (ps : List Pt) (b3 : Int × Int × Int), M3 = setM M2 q (bagL b3) ∧ BagOk (1 + 71 * i) b3 ∧ acc = (ps.map Pt.d).map .dat ∧ ps.length = i ∧ (∀ p ∈ ps, PartOk p) ∧ (∀ k p, ps[k]? = some p → p.name ∈ nameL k), ⟨[], b1, rfl, ok1.up (by omega), rfl, rfl, by simp, by simp⟩, size_big (by simp; omega), fun j r acc M3 hj hI => ?_, fun acc M3 hI => ?_⟩
      · obtain ⟨ps, b3, rfl, ok3, rfl, hpl, hps, hpn⟩ := hI
        have hj' : j < (1 + t).toNat := by
          have := (List.getElem?_eq_some_iff.mp hj).1
          simpa using this
        have hj2 : j < 2 := by omega
        obtain rfl : Sd.dat (.int (j : Nat)) = r := by
          rw [List.getElem?_map, List.getElem?_range hj'] at hj
          exact Option.some.inj hj
        refine ⟨_, [8], fun c M4 => c = true ∧ M4 = setM M2 q (bagL b3), by decide, TgD.name 8, ⟨rfl, rfl⟩, ?_, fun M4 z => by cases z.1⟩
        rintro M4 ⟨_, rfl⟩
        intro s0 H0 C cl fp
        walk_at "go"
        refine IOp.str (by exact (sz2 (α := PyData) (a0 := .none) (a1 := .none))) (char_at hj2) ?_
        walk_at "go"
        refine ⟨q, 6, 1 + 71 * j, b3, rfl, by decide, by decide, by omega, setM_same, ok3, fun t2 b4 t20 t21 ok4 => ?_⟩
        rw [setM_setM]
        walk_at "go"
        refine SOp.str (by exact (sz5 (α := PyData) (a0 := .none) (a1 := .none) (a2 := .none) (a3 := .none) (a4 := .none))) ?_
        obtain ⟨hin, hz⟩ := name_in hj2 t20 t21
        have hnk := nameL_ok hin
        refine VOp.addS (Nat.le_of_lt (size_big hz)) ?_
        walk_at "go"
        refine ⟨q, _, 1 + 71 * j + 1, b4, rfl, hnk, by omega, setM_same, ok4, fun p b5 pk hnm ok5 => ?_⟩
        rw [setM_setM]
        refine ⟨.dat p.d, rfl, ps ++ [p], b5, rfl, ok5.up (by push_cast; omega), by simp, by simp [hpl], fun p' hp' => ?_, fun k p' hk => ?_⟩
        · rcases List.mem_append.mp hp' with hp' | hp'
          · exact hps p' hp'
          · rw [List.mem_singleton.mp hp']
            exact pk
        · by_cases e : k < ps.length
          · rw [List.getElem?_append_left e] at hk
            exact hpn k p' hk
          · rw [List.getElem?_append_right (by omega)] at hk
            have z : k - ps.length = 0 := by
              have := (List.getElem?_eq_some_iff.mp hk).1
              simp at this
              omega
            rw [z] at hk
            obtain rfl : p = p' := Option.some.inj hk
            have : k = j := by omega
            subst this
            rw [hnm]
            exact hin
      obtain ⟨ps, b3, rfl, ok3, rfl, hpl, hps, hpn⟩ := hI
      rw [List.length_map, List.length_range] at hpl ok3
      have pg := pg_ok (by omega) (by omega) hps hpn
      refine .inl ⟨_, rfl, ?_⟩
      walk_at "go"
      refine SvX.for PassesOwn.never rfl (pg_name (i := 4) sc_law.nd rfl (by first | exact .inl rfl | exact .inr rfl)) ?_
      refine IvX.tup ?_
      walk_at "go"
      rw [List.map_map]
      refine ⟨fun k δ1 M3 => LeM M M3 ∧ ∃ b3, M3 q = some (bagL b3) ∧ BagOk (200 + 300 * k) b3 ∧ ∃ x4 x5 x6 x7 x8 x9 : Option Sd, δ1 = [some (.seq ns), some (.dat (.int i)), some (.raw (.ref q)), some (.dat (pgD ps)), x4, x5, x6, x7, x8, x9],
        ⟨le_set hle hq0, b3, setM_same, ok3.up (by omega), _, _, _, _, _, _, rfl⟩, fun k r δ1 M3 hk hI => ?_, fun δ1 M3 hI => ?_⟩
      · obtain ⟨hle3, b3, hmq, ok3, x4, x5, x6, x7, x8, x9, rfl⟩ := hI
        rw [List.getElem?_map] at hk
        cases hkp : ps[k]? with
        | none =>
          rw [hkp] at hk
          cases hk
        | some p =>
          rw [hkp] at hk
          obtain rfl : Sd.dat p.d = r := by simpa using hk
          have hp : p ∈ ps := List.mem_of_getElem? hkp
          have hk2 : k < 2 := by
            have := (List.getElem?_eq_some_iff.mp hkp).1
            have := pg.few
            omega
          have pk := hps p hp
          have pp := pg.parts p hp
          have so := pk.sound
          have n1 := pp.some_
          have n60 := pp.many
          have hLL : p.rows.length * p.rows.length ≤ 3600 := Nat.mul_le_mul n60 n60
          have hLI : (p.rows.length : Int) * (p.rows.length : Int) = ((p.rows.length * p.rows.length : Nat) : Int) := by push_cast; rfl
          refine ⟨_, _, TgD.name 4, ?_⟩
          walk_at "go"
          refine SvX.set (i := 5) ?_ ?_ ?_ ?_ (hs := ?_) (hf := ?_)
          · exact sc_law.nd
          · rfl
          · first | exact .inl rfl | exact .inr rfl
          rotate_left
          · first | with_reducible exact swap_lst | rfl
          · first | exact .inl rfl | exact .inr rfl
          walk_at "go"
          refine ⟨p.rows, rfl, n1, n60, pk.law, so, fun fq ks hfq fd => ?_⟩
          have fqq : fq ≠ q := fun z => by
            rw [z, hmq] at hfq
            cases hfq
          have hfq0 := le_none hle3 hfq
          walk_at "go"
          refine SvX.set (i := 6) ?_ ?_ ?_ ?_ (hs := ?_) (hf := ?_)
          · exact sc_law.nd
          · rfl
          · first | exact .inl rfl | exact .inr rfl
          rotate_left
          · first | with_reducible exact swap_lst | rfl
          · first | exact .inl rfl | exact .inr rfl
          walk_at "go"
          rw [List.length_map]
          refine SvX.setLc (g := (gName 8)) (i := 7) rfl sc_law.nd rfl rfl rfl (blkOk_by (N := n_law) (sc := defScope st_law) (own := [("_law_k", 8)]) (by decide +kernel)) (fun _ _ _ _ _ => (pg_name (i := 8) sc_law.nd rfl (by first | exact .inl rfl | exact .inr rfl))) ?_
          refine IvX.range (by assumption) ?_
          walk_at "go"
          refine VOp.mul (.inl ⟨by omega, by omega⟩) ?_
          rw [hLI]
          refine ⟨_, rfl, by omega, by omega, ?_⟩
          rw [Int.toNat_natCast]
          refine lcMapA 8 (List.range (p.rows.length * p.rows.length)) (fun i => .dat (.int (i : Nat))) (fun i => pairD (i / p.rows.length, i % p.rows.length)) (size_big (by rw [List.length_range]; omega)) (by decide) (fun x hx => ?_) ?_
          · intro s0 H0 C cl fp
            walk_at "go"
            refine VOp.fdiv ⟨by omega, by omega⟩ ?_
            walk_at "go"
            refine VOp.mod (by omega) ?_
            walk_at "go"
            exact ⟨rfl, rfl⟩
          have ep : (List.range (p.rows.length * p.rows.length)).map (fun i => pairD (i / p.rows.length, i % p.rows.length)) = ((List.range (p.rows.length * p.rows.length)).map fun i => (i / p.rows.length, i % p.rows.length)).map pairD := by
            rw [List.map_map]
            rfl
          rw [ep]
          refine BvX.cons (SvX.mono (N' := fun δ1 M1 => ∃ (qs : List (Nat × Nat)) (b4 : Int × Int × Int) (y8 y9 : Option Sd), M1 = setM (setM M3 fq (dictL ks)) q (bagL b4) ∧ BagOk (200 + 300 * k + 60) b4 ∧ qs.length ≤ 3600 ∧ (∀ x ∈ qs, x.1 < p.rows.length ∧ x.2 < p.rows.length) ∧
            δ1 = [some (.seq ns), some (.dat (.int i)), some (.raw (.ref q)), some (.dat (pgD ps)), some (.dat p.d), some (.raw (.ref fq)), some (.dat (.int p.rows.length)), some (.dat (.list (qs.map pairD))), y8, y9]) ?_ ?_)
          · walk_at "go"
            by_cases e : (8 : Int) < p.rows.length
            · rw [decide_eq_true e]
              walk_at "go"
              refine SvX.setLc (g := (gName 8)) (i := 7) rfl sc_law.nd rfl rfl rfl (blkOk_by (N := n_law) (sc := defScope st_law) (own := [("_law_k", 8)]) (by decide +kernel)) (fun _ _ _ _ _ => (pg_name (i := 8) sc_law.nd rfl (by first | exact .inl rfl | exact .inr rfl))) ?_
              refine IvX.range (by assumption) ?_
              walk_at "go"
              refine ⟨by decide, by decide, ?_⟩
              refine ⟨fun i acc M5 => ∃ (qs : List (Nat × Nat)) (b4 : Int × Int × Int), M5 = setM (setM M3 fq (dictL ks)) q (bagL b4) ∧ BagOk (200 + 300 * k + 2 * i) b4 ∧ acc = (qs.map pairD).map .dat ∧ qs.length = i ∧ (∀ x ∈ qs, x.1 < p.rows.length ∧ x.2 < p.rows.length),
                ⟨[], b3, (setM_id ((setM_ne fqq.symm).trans hmq)).symm, ok3.up (by omega), rfl, rfl, by simp⟩, size_big (by simp), fun j r acc M5 hj hI => ?_, fun acc M5 hI => ?_⟩
              · obtain ⟨qs, b4, rfl, ok4, rfl, hql, hqs⟩ := hI
                have hj' : j < 30 := by
                  have := (List.getElem?_eq_some_iff.mp hj).1
                  simpa using this
                obtain rfl : Sd.dat (.int (j : Nat)) = r := by
                  rw [List.getElem?_map, List.getElem?_range (by exact hj')] at hj
                  exact Option.some.inj hj
                refine ⟨_, [8], fun c M6 => c = true ∧ M6 = setM (setM M3 fq (dictL ks)) q (bagL b4), by decide, TgD.name 8, ⟨rfl, rfl⟩, ?_, fun M6 z => by cases z.1⟩
                rintro M6 ⟨_, rfl⟩
                intro s0 H0 C cl fp
                walk_at "go"
                refine ⟨q, p.rows.length, 200 + 300 * k + 2 * j, b4, rfl, by omega, by omega, by omega, setM_same, ok4, fun t2 b5 t20 t21 ok5 => ?_⟩
                rw [setM_setM]
                walk_at "go"
                refine ⟨q, p.rows.length, 200 + 300 * k + 2 * j + 1, b5, rfl, by omega, by omega, by omega, setM_same, ok5, fun t3 b6 t30 t31 ok6 => ?_⟩
                rw [setM_setM]
                obtain ⟨u2, rfl⟩ := Int.eq_ofNat_of_zero_le t20
                obtain ⟨u3, rfl⟩ := Int.eq_ofNat_of_zero_le t30
                walk_at "go"
                refine ⟨.dat (pairD (u2, u3)), rfl, qs ++ [(u2, u3)], b6, rfl, ok6.up (by push_cast; omega), by simp, by simp [hql], fun x hx => ?_⟩
                rcases List.mem_append.mp hx with hx | hx
                · exact hqs x hx
                · rw [List.mem_singleton.mp hx]
                  exact ⟨by omega, by omega⟩
              · obtain ⟨qs, b4, rfl, ok4, rfl, hql, hqs⟩ := hI
                rw [List.length_map, List.length_range] at hql ok4
                have hql : qs.length = 30 := hql
                have ok4 : BagOk (200 + 300 * k + 60) b4 := ok4.up (by show (200 + 300 * (k : Int) + 2 * ((30 : Nat) : Int)) ≤ _; omega)
                refine .inl ⟨_, rfl, ?_⟩
                walk_at "go"
                exact ⟨qs, b4, _, _, rfl, ok4, by omega, hqs, rfl⟩
            · rw [decide_eq_false e]
              walk_at "go"
              exact ⟨_, b3, _, _, (setM_id ((setM_ne fqq.symm).trans hmq)).symm, ok3.up (by omega), by rw [List.length_map, List.length_range]; exact hLL, pairs_in _ n1, rfl⟩
          · rintro δ4 M4 ⟨qs, b4, y8, y9, rfl, ok4, hql, hqs, rfl⟩
            walk_at "go"
            refine EvX.lc (g := (gName 9)) rfl sc_law.nd (blkOk_by (N := n_law) (sc := defScope st_law) (own := [("_law_pair", 9)]) (by decide +kernel)) (fun _ _ _ _ _ => (pg_name (i := 9) sc_law.nd rfl (by first | exact .inl rfl | exact .inr rfl))) ?_
            refine IvX.list ?_
            walk_at "go"
            rw [List.map_map]
            refine lcMapA 9 qs (Sd.dat ∘ pairD) (fun _ => .bool true) (size_big (by omega)) (by decide) (fun x hx => ?_) ?_
            · intro s0 H0 C cl fp
              walk_at "go"
              exact ⟨ps, p, fq, ks, x.1, x.2, rfl, pg, hp, pk, (setM_ne fqq).trans setM_same, fd, (hqs x hx).1, (hqs x hx).2, rfl, rfl⟩
            walk_at "go"
            refine ⟨q, ps, p, 200 + 300 * k + 60, b4, rfl, pg, hp, pk, by omega, setM_same, ok4, fun b5 ok5 => ?_⟩
            rw [setM_setM]
            walk_at "go"
            refine ⟨q, fq, ps, p, ks, 200 + 300 * k + 60 + 80, b5, rfl, pg, hp, pk, fqq, (setM_ne fqq).trans setM_same, fd, by omega, setM_same, ok5, fun b6 ok6 => ?_⟩
            rw [setM_setM]
            walk_at "go"
            exact ⟨le_set (le_set hle3 hfq0) hq0, b6, setM_same, ok6.up (by push_cast; omega), _, _, _, _, _, _, rfl⟩
      · obtain ⟨hle3, b3, hmq, ok3, x4, x5, x6, x7, x8, x9, rfl⟩ := hI
        walk_at "go"
        exact ⟨hle3, _, _, _, _, _, _, _, _, _, rfl⟩
    · obtain ⟨hle, x1, x2, x3, x4, x5, x6, x7, x8, x9, rfl⟩ := hI
      refine BvX.cons (SvX.ret (EvX.call0 D_law_fixed_right (hr.mono (by decide)) ⟨rfl, ?_⟩))
      exact ⟨M, hle, h⟩
end
end Wr
end
section
set_option maxHeartbeats 4000000
namespace Wr
open PySem PySem.Spec PyProof.Rows L2
/-! ### the head's facts -/
mutual
theorem dqB_ok {K : PySem.W.Frag} : ∀ (d : PyData) (u : Value), dqB K d u = true → ∃ v, RelV v u ∧ ∀ G, Dq K G v d
  | .none, u, h => by
    cases u <;> simp [dqB] at h
    exact ⟨.non, rfl, fun _ => .non⟩
  | .bool b, u, h => by
    cases u <;> simp [dqB] at h
    subst h
    exact ⟨.bl _, rfl, fun _ => .bl _⟩
  | .int i, u, h => by
    cases u <;> simp [dqB] at h
    subst h
    exact ⟨.int _, ⟨_, rfl⟩, fun _ => .int _⟩
  | .str x, u, h => by
    cases u <;> simp [dqB] at h
    subst h
    exact ⟨.str _, ⟨_, rfl⟩, fun _ => .str _⟩
  | .list ds, u, h => by cases u <;> simp [dqB] at h
  | .dict ds, u, h => by cases u <;> simp [dqB] at h
  | .tuple ds, u, h => by
    cases u with
    | ref a =>
      unfold dqB at h
      cases q : K.lookup a with
      | none =>
        rw [q] at h
        cases h
      | some o =>
        obtain ⟨oc, od, dt, osl⟩ := o
        rw [q] at h
        cases oc with
        | type c =>
          cases dt with
          | seq its n =>
            obtain ⟨h1, h2⟩ := He.ba (show (decide (c = "tuple") && (decide (its.size ≤ sizeLine) && dqBs K ds its.toList)) = true from h)
            obtain ⟨h3, h4⟩ := He.ba h2
            obtain ⟨vs, r, hv⟩ := dqBs_ok ds its.toList h4
            exact ⟨.ref a, rfl, fun G => .tup (.inr ⟨_, its, n, q, congrArg Value.type (of_decide_eq_true h1), rfl, of_decide_eq_true h3, r⟩) (hv G)⟩
          | _ => cases h
        | _ => cases dt <;> cases h
    | _ => simp [dqB] at h
theorem dqBs_ok {K : PySem.W.Frag} : ∀ (ds : List PyData) (us : List Value), dqBs K ds us = true → ∃ vs, Vals vs us ∧ ∀ G, DqAll K G vs ds
  | [], us, h => by
    cases us with
    | nil => exact ⟨[], .nil, fun _ => .nil⟩
    | cons u us => simp [dqBs] at h
  | d :: ds, us, h => by
    cases us with
    | nil => simp [dqBs] at h
    | cons u us =>
      unfold dqBs at h
      obtain ⟨h1, h2⟩ := He.ba h
      obtain ⟨v, r, hv⟩ := dqB_ok d u h1
      obtain ⟨vs, rs, hvs⟩ := dqBs_ok ds us h2
      exact ⟨v :: vs, .cons r rs, fun G => .cons (hv G) (hvs G)⟩
end
section
variable {w : World} {K : PySem.W.Frag} {h : Heap} {mg : Str → Option Value}
theorem gloD_ok (X : K.In h) (G : h.Ns mainGlobals mg) {x : Str} {d : PyData} (c : gloD K x d = true) : HasC K mg x d := by
  unfold gloD at c
  split at c
  · rename_i u e
    obtain ⟨v, r, hv⟩ := dqB_ok d u c
    exact ⟨u, PySem.W.mg_of X G e, v, r, fun G => hv G⟩
  · cases c
theorem cnt_ok (c : He.SaysT hFa hFn hTs w K) (b : cntB K = true) : ∀ q ∈ hCounts, ∃ v, KDct K w (He.ga K "COUNTS") q.1 v ∧ ∀ G, Dq K G v (.tuple [.int q.2.1, .int q.2.2]) := by
  intro q hq
  obtain ⟨es, n, D⟩ := c.tab 0 rfl
  have z := List.all_eq_true.mp b q hq
  split at z
  · rename_i u e
    obtain ⟨v, r, hv⟩ := dqB_ok _ u z
    exact ⟨v, ⟨es, n, u, D.at_, D.lit, e, r⟩, hv⟩
  · cases z
theorem looks_ok (X : K.In h) (G : h.Ns mainGlobals mg) (c : He.SaysT hFa hFn hTs w K) (b : lookB K = true) : ∀ q ∈ [(("agree" : Str), ("agree_holds" : Str)), ("apart", "apart_holds"), ("unmet", "unmet_holds")], ∃ f, mg q.2 = some (.ref f) ∧ PySem.W.nsIn K (He.ga K "LOOKS") q.1 = some (some (.ref f)) := by
  intro q hq
  have z := List.all_eq_true.mp b q hq
  split at z
  · rename_i a e
    have ea := of_decide_eq_true z
    subst ea
    refine ⟨_, ?_, e⟩
    have cd := c.d
    simp only [List.mem_cons, List.not_mem_nil, or_false] at hq
    rcases hq with rfl | rfl | rfl
    · exact He.glo_ok X G (cd.fact 25 (f := .glo "agree_holds") rfl)
    · exact He.glo_ok X G (cd.fact 26 (f := .glo "apart_holds") rfl)
    · exact He.glo_ok X G (cd.fact 27 (f := .glo "unmet_holds") rfl)
  · cases z
theorem hasD_ok (X : K.In h) (G : h.Ns mainGlobals mg) (cd : He.SaysD hFa hFn K) (i : Nat) {x : Str} {st : Stmt} (hd : hFn[i]? = some ⟨(x, none), x, x, defArgs st, defBody st, defScope st, [], []⟩) (hf : hFa[i]? = some (.glo x)) : HasD K mg x st := by
  obtain ⟨fd, F⟩ := cd.def_ i hd
  exact ⟨_, fd, F, He.glo_ok X G (cd.fact i hf)⟩
theorem tx_of (X : K.In h) (G : h.Ns mainGlobals mg) (c : SaysW w K) : Tx w K mg := by
  have cd := c.1.d
  have e := c.2
  unfold hEx at e
  simp only [Bool.and_eq_true] at e
  obtain ⟨⟨⟨⟨⟨⟨⟨⟨⟨⟨⟨⟨e0, e1⟩, e2⟩, e3⟩, e4⟩, e5⟩, e6⟩, e7⟩, e8⟩, e9⟩, e10⟩, e11⟩, e12⟩ := e
  obtain ⟨es, n, DL⟩ := c.1.tab 1 rfl
  obtain ⟨fd0, F0⟩ := cd.def_ 44 rfl
  obtain ⟨fd1, F1⟩ := cd.def_ 45 rfl
  obtain ⟨fd2, F2⟩ := cd.def_ 46 rfl
  exact {
    d_is_whole := hasD_ok X G cd 0 rfl rfl
    d_is_worth := hasD_ok X G cd 1 rfl rfl
    d_is_name := hasD_ok X G cd 2 rfl rfl
    d_are_unlike_names := by
      obtain ⟨fd, F⟩ := cd.def_ 3 rfl
      exact ⟨_, fd, F, He.glo_ok X G (cd.fact 3 rfl)⟩
    d_is_led_to := hasD_ok X G cd 4 rfl rfl
    d_is_row := hasD_ok X G cd 5 rfl rfl
    d_is_headed := hasD_ok X G cd 6 rfl rfl
    d_is_program := hasD_ok X G cd 7 rfl rfl
    d_look_program := hasD_ok X G cd 8 rfl rfl
    d_number_of := hasD_ok X G cd 9 rfl rfl
    d_look_row := hasD_ok X G cd 10 rfl rfl
    d_counts_of := hasD_ok X G cd 11 rfl rfl
    d_floor_of := hasD_ok X G cd 12 rfl rfl
    d_is_lacking := hasD_ok X G cd 13 rfl rfl
    d_leads_of := hasD_ok X G cd 14 rfl rfl
    d_look_part_sound := hasD_ok X G cd 15 rfl rfl
    d_agrees := hasD_ok X G cd 16 rfl rfl
    d_agree := hasD_ok X G cd 17 rfl rfl
    d_rows_paper := hasD_ok X G cd 18 rfl rfl
    d_part_at := hasD_ok X G cd 19 rfl rfl
    d_are_rows := hasD_ok X G cd 20 rfl rfl
    d_walked_to := hasD_ok X G cd 21 rfl rfl
    d_goals_of := hasD_ok X G cd 22 rfl rfl
    d_is_sound_part := hasD_ok X G cd 23 rfl rfl
    d_both_walked := hasD_ok X G cd 24 rfl rfl
    d_agree_holds := hasD_ok X G cd 25 rfl rfl
    d_apart_holds := hasD_ok X G cd 26 rfl rfl
    d_unmet_holds := hasD_ok X G cd 27 rfl rfl
    d_holds := hasD_ok X G cd 28 rfl rfl
    d_law_bag := hasD_ok X G cd 29 rfl rfl
    d_law_take := hasD_ok X G cd 30 rfl rfl
    d_law_block := hasD_ok X G cd 31 rfl rfl
    d_law_part := hasD_ok X G cd 32 rfl rfl
    d_law_goals := hasD_ok X G cd 33 rfl rfl
    d_law_standings := hasD_ok X G cd 34 rfl rfl
    d_law_walked := hasD_ok X G cd 35 rfl rfl
    d_law_holds := hasD_ok X G cd 36 rfl rfl
    d_law_told_right := hasD_ok X G cd 37 rfl rfl
    d_law_walk := hasD_ok X G cd 38 rfl rfl
    d_law_walks_right := hasD_ok X G cd 39 rfl rfl
    d_law_odd_unmet_right := hasD_ok X G cd 40 rfl rfl
    d_law_fixed_right := hasD_ok X G cd 41 rfl rfl
    d_law_unmet_right := hasD_ok X G cd 42 rfl rfl
    b_len := He.free_ok X G (cd.fact 44 rfl)
    b_isinstance := He.free_ok X G (cd.fact 45 rfl)
    b_int := He.free_ok X G (cd.fact 46 rfl)
    b_str := He.free_ok X G (cd.fact 47 rfl)
    b_bool := He.free_ok X G (cd.fact 48 rfl)
    b_tuple := He.free_ok X G (cd.fact 49 rfl)
    b_list := He.free_ok X G (cd.fact 50 rfl)
    b_abs := He.free_ok X G (cd.fact 51 rfl)
    b_all := He.free_ok X G (cd.fact 52 rfl)
    b_set := He.free_ok X G (cd.fact 53 rfl)
    b_enumerate := He.free_ok X G (cd.fact 54 rfl)
    b_sorted := He.free_ok X G (cd.fact 55 rfl)
    b_min := He.free_ok X G (cd.fact 56 rfl)
    b_max := He.free_ok X G (cd.fact 57 rfl)
    b_zip := He.free_ok X G (cd.fact 58 rfl)
    b_range := He.free_ok X G (cd.fact 59 rfl)
    c_MOST_WORTH := gloD_ok X G e0
    c_MOST_LETTERS := gloD_ok X G e1
    c_MOST_PARTS := gloD_ok X G e2
    c_MOST_NAMES := gloD_ok X G e3
    c_MOST_LONG := gloD_ok X G e4
    c_LETTERS := gloD_ok X G e5
    c_NAMED := gloD_ok X G e6
    c_LEADING := gloD_ok X G e7
    c_ALONE := gloD_ok X G e8
    c_BEGIN := gloD_ok X G e9
    c_ANY_STANDING := gloD_ok X G e10
    counts := ⟨_, He.glo_ok X G (cd.fact 73 rfl), cnt_ok c.1 e11⟩
    looks := ⟨_, es, n, He.glo_ok X G (cd.fact 74 rfl), DL, looks_ok X G c.1 e12⟩
    found := ⟨_, _, _, _, fd0, fd1, fd2, He.glo_ok X G (cd.fact 61 rfl), He.cls_ok (cd.fact 62 rfl), He.mkr_ok (cd.fact 63 rfl), He.meth_ok (cd.fact 64 rfl), He.meth_ok (cd.fact 65 rfl), F0, F1, F2, He.noat_ok (cd.fact 66 rfl), He.noat_ok (cd.fact 67 rfl), He.noat_ok (cd.fact 68 rfl), He.noat_ok (cd.fact 69 rfl), He.noat_ok (cd.fact 70 rfl), He.noat_ok (cd.fact 71 rfl), He.noat_ok (cd.fact 72 rfl)⟩ }
end
section
variable {P : Program} {w : World} {K : PySem.W.Frag} {mg : Str → Option Value} {base : Heap}
theorem law_ok (T : Tx w K mg) {f : Addr} {fd : FuncData} (F : FnS K "law" "law" st_law f fd) : FnOk P w K mg base CX0 15 f fd ["_law_script"] (conc K aLaw) := by
  have D_is_whole := df_is_whole (P := P) (base := base) T
  have D_is_worth := df_is_worth (P := P) (base := base) T D_is_whole
  have D_is_name := df_is_name (P := P) (base := base) T
  have D_is_led_to := df_is_led_to (P := P) (base := base) T D_is_whole
  have D_is_row := df_is_row (P := P) (base := base) T D_is_worth D_is_name D_is_led_to
  have U := ex_unl (P := P) (base := base) T D_is_name
  have D_is_headed := df_is_headed (P := P) (base := base) T D_is_name U
  have D_is_program := df_is_program (P := P) (base := base) T D_is_headed D_is_row U
  have D_look_program := df_look_program (P := P) (base := base) T D_is_program
  have D_number_of := df_number_of (P := P) (base := base) T D_is_name
  have D_look_row := df_look_row (P := P) (base := base) T D_is_whole
  have D_counts_of := df_counts_of (P := P) (base := base) T
  have D_floor_of := df_floor_of (P := P) (base := base) T
  have D_is_lacking := df_is_lacking (P := P) (base := base) T D_counts_of D_floor_of
  have D_leads_of := df_leads_of (P := P) (base := base) T D_counts_of
  have kit := found_kit (P := P) (base := base) T D_is_lacking D_leads_of
  have D_look_part_sound := df_look_part_sound (P := P) (base := base) T kit
  have D_agrees := df_agrees (P := P) (base := base) T kit
  have D_agree := df_agree (P := P) (base := base) T D_look_program D_number_of D_look_row D_look_part_sound D_agrees
  have D_rows_paper := df_rows_paper (P := P) (base := base) T D_look_program D_number_of D_look_row D_look_part_sound
  have D_part_at := df_part_at (P := P) (base := base) T
  have D_are_rows := df_are_rows (P := P) (base := base) T D_is_whole
  have D_walked_to := df_walked_to (P := P) (base := base) T D_are_rows D_is_lacking D_leads_of
  have D_goals_of := df_goals_of (P := P) (base := base) T D_leads_of
  have D_is_sound_part := df_is_sound_part (P := P) (base := base) T kit
  have D_both_walked := df_both_walked (P := P) (base := base) T D_is_sound_part D_walked_to
  have D_agree_holds := df_agree_holds (P := P) (base := base) T D_both_walked
  have D_apart_holds := df_apart_holds (P := P) (base := base) T D_both_walked
  have D_unmet_holds := df_unmet_holds (P := P) (base := base) T D_is_sound_part D_is_whole D_are_rows D_goals_of
  have D_holds := df_holds (P := P) (base := base) T D_look_program D_part_at D_agree_holds D_apart_holds D_unmet_holds
  have D_law_bag := df_law_bag (P := P) (base := base) T
  have D_law_take := df_law_take (P := P) (base := base) T
  have D_law_block := df_law_block (P := P) (base := base) T D_law_take 3
  have D_law_part := df_law_part (P := P) (base := base) T D_law_take D_law_block
  have D_law_goals := df_law_goals (P := P) (base := base) T
  have D_law_standings := df_law_standings (P := P) (base := base) T D_law_goals
  have D_law_walked := df_law_walked (P := P) (base := base) T D_law_goals
  have D_law_holds := df_law_holds (P := P) (base := base) T D_holds
  have D_law_told_right := df_law_told_right (P := P) (base := base) T D_rows_paper D_law_holds D_agree D_law_walked
  have D_law_walk := df_law_walk (P := P) (base := base) T D_law_take D_law_goals
  have D_law_walks_right := df_law_walks_right (P := P) (base := base) T D_law_take D_law_walk D_law_walked D_law_holds
  have D_law_odd_unmet_right := df_law_odd_unmet_right (P := P) (base := base) T D_law_holds
  have D_law_fixed_right := df_law_fixed_right (P := P) (base := base) T D_law_holds
  have D_law_unmet_right := df_law_unmet_right (P := P) (base := base) T D_law_take D_law_goals D_law_holds D_law_odd_unmet_right
  exact ok_law T D_law_bag D_law_take D_law_part D_law_standings D_law_told_right D_law_walks_right D_law_unmet_right D_law_fixed_right F
end
theorem facts {P : Program} {w : World} {K : PySem.W.Frag} {h : Heap} {mg : Str → Option Value} {f : Addr} (X : K.In h) (G : h.Ns mainGlobals mg) (hfa : mg ("law" : Str) = some (.ref f)) (c : SaysW w K) :
    ∃ fd : FuncData, (∀ (s : Shared) (v : Value), BindsTo s fd ⟨[v], []⟩ [("_law_script", v)]) ∧ ∀ base : Heap, K.In base → base.Ns mainGlobals mg → FnOk P w K mg base CX0 15 f fd ["_law_script"] (conc K aLaw) := by
  obtain ⟨fd, F⟩ := c.1.d.def_ 43 (d := ⟨("law", none), "law", "law", defArgs st_law, defBody st_law, defScope st_law, [], []⟩) rfl
  have e := hfa.symm.trans (He.glo_ok X G (c.1.d.fact 43 (f := .glo "law") rfl))
  cases e
  have b := FunD.bindsA (ps := ["_law_script"]) F fun _ _ _ _ _ _ us hl => match us, hl with | [_], _ => rfl
  exact ⟨fd, fun s v => b s [v] rfl, fun base _ _ => law_ok (tx_of X G c) F⟩
end Wr
end
theorem PySem.Challenge.cw_watchedrun_k59_whole_papers_of_rows_holds : PySem.Challenge.rw_watchedrun_k59_whole_papers_of_rows.Holds := by
  exact Wr.hAlmost fun _ _ _ _ _ _ X G e c => Wr.facts X G e c
