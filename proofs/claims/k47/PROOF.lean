import PyProof.Rows.All
import HandS.ForMost
import HandS.Evl
import KE.DataMinMax
import KE.SortData
import KE.DataEq
import HandS.IsInst
import HandS.StrMore
import HandS.TupAny
import PyProof.Rows.StrRev
import PyProof.Rows.StrFirst
import HandS.Style
import PyProof.Draws
import HandS.Sort
import HandS.Deep
import HandS.Replace
import HandS.Flt
import PyProof.EnumMake
import KE.GoesMore
import PySem.Challenge.RW_wordsalike_k47_lists_of_phrases
set_option Elab.async false
set_option linter.all false
set_option maxRecDepth 100000
set_option maxHeartbeats 4000000
/-! DL1: data over the hand layer. S: slots hold data, or lists and dicts of our own. -/
namespace D2
open PySem L2
/-- the heap without the addresses of M -/
def off (M : List Addr) (H : Hp) : Hp := fun b => if b ∈ M then none else H b
theorem off_of {M : List Addr} {H : Hp} {b : Addr} {o : HO} (h : off M H b = some o) : H b = some o ∧ b ∉ M := by
  unfold off at h
  by_cases hb : b ∈ M
  · rw [if_pos hb] at h; cases h
  · rw [if_neg hb] at h; exact ⟨h, hb⟩
theorem off_at {M : List Addr} {H : Hp} {b : Addr} (hb : b ∉ M) : off M H b = H b := by unfold off; rw [if_neg hb]
abbrev Ex (H H' : Hp) : Prop := ∀ a o, H a = some o → H' a = some o
theorem Ex.refl (H : Hp) : Ex H H := fun _ _ h => h
theorem Ex.trans {H H1 H2 : Hp} (a : Ex H H1) (b : Ex H1 H2) : Ex H H2 := fun x o h => b x o (a x o h)
theorem Ex.new {H : Hp} {p : Addr} {o : HO} (h : H p = none) : Ex H (upd H p o) := fun a u e => by rw [upd_ne (ne_of_none e h)]; exact e
theorem off_le {M : List Addr} {H : Hp} : Ex (off M H) H := fun _ _ h => (off_of h).1
theorem off_mono {M M' : List Addr} {H : Hp} (h : ∀ b ∈ M', b ∈ M) : Ex (off M H) (off M' H) := fun a o e => by
  obtain ⟨e1, e2⟩ := off_of e
  rw [off_at fun z => e2 (h a z)]; exact e1
theorem off_ex {M : List Addr} {H H' : Hp} (h : Ex H H') : Ex (off M H) (off M H') := fun a o e => by
  obtain ⟨e1, e2⟩ := off_of e
  rw [off_at e2]; exact h a o e1
theorem Rd.ex {H H' : Hp} {a : Addr} {u : HO} (e : Ex H H') (h : Rd H a u) : Rd H' a u := by
  rcases h with h | ⟨o, h⟩
  · exact .inl (e a _ h)
  · exact .inr ⟨o, e a _ h⟩
theorem sqL_ex {K : PySem.W.Frag} {H H' : Hp} {a : Addr} {xs : List V} (e : Ex H H') (h : SqL K H a xs) : SqL K H' a xs := by
  rcases h with h | h
  · exact .inl (Rd.ex e h)
  · exact .inr h
theorem sqT_ex {K : PySem.W.Frag} {H H' : Hp} {a : Addr} {xs : List V} (e : Ex H H') (h : SqT K H a xs) : SqT K H' a xs := by
  rcases h with h | h
  · exact .inl (Rd.ex e h)
  · exact .inr h
mutual
theorem dp_ex {K : PySem.W.Frag} {H H' : Hp} (e : Ex H H') : ∀ {v : V} {d : PyData}, Dp K H v d → Dp K H' v d
  | _, _, .non => .non
  | _, _, .bl b => .bl b
  | _, _, .int i => .int i
  | _, _, .str x => .str x
  | _, _, .lst h a => .lst (sqL_ex e h) (da_ex e a)
  | _, _, .tup h a => .tup (sqT_ex e h) (da_ex e a)
theorem da_ex {K : PySem.W.Frag} {H H' : Hp} (e : Ex H H') : ∀ {vs : List V} {ds : List PyData}, DpAll K H vs ds → DpAll K H' vs ds
  | _, _, .nil => .nil
  | _, _, .cons h a => .cons (dp_ex e h) (da_ex e a)
end
section
variable {K : PySem.W.Frag} {H H' : Hp}
theorem da_length : ∀ {vs : List V} {ds : List PyData}, DpAll K H vs ds → vs.length = ds.length
  | _, _, .nil => rfl
  | _, _, .cons _ a => by simp [da_length a]
theorem da_get : ∀ {vs : List V} {ds : List PyData} {i : Nat} {d : PyData}, DpAll K H vs ds → ds[i]? = some d → ∃ v, vs[i]? = some v ∧ Dp K H v d
  | _, _, _, _, .nil, e => by simp at e
  | _, _, 0, _, .cons h _, e => by simp at e; subst e; exact ⟨_, rfl, h⟩
  | _, _, i + 1, d, .cons _ a, e => by
    obtain ⟨v, h1, h2⟩ := da_get (i := i) (d := d) a (by simpa using e)
    exact ⟨v, by simpa using h1, h2⟩
theorem da_getV : ∀ {vs : List V} {ds : List PyData} {i : Nat} {v : V}, DpAll K H vs ds → vs[i]? = some v → ∃ d, ds[i]? = some d ∧ Dp K H v d
  | _, _, _, _, .nil, e => by simp at e
  | _, _, 0, _, .cons h _, e => by simp at e; subst e; exact ⟨_, rfl, h⟩
  | _, _, i + 1, v, .cons _ a, e => by
    obtain ⟨d, h1, h2⟩ := da_getV (i := i) (v := v) a (by simpa using e)
    exact ⟨d, by simpa using h1, h2⟩
theorem da_append : ∀ {vs ws : List V} {ds es : List PyData}, DpAll K H vs ds → DpAll K H ws es → DpAll K H (vs ++ ws) (ds ++ es)
  | _, _, _, _, .nil, b => b
  | _, _, _, _, .cons h a, b => .cons h (da_append a b)
theorem da_take : ∀ {vs : List V} {ds : List PyData} (n : Nat), DpAll K H vs ds → DpAll K H (vs.take n) (ds.take n)
  | _, _, 0, _ => by simp; exact .nil
  | _, _, _ + 1, .nil => .nil
  | _, _, n + 1, .cons h a => .cons h (da_take n a)
theorem da_drop : ∀ {vs : List V} {ds : List PyData} (n : Nat), DpAll K H vs ds → DpAll K H (vs.drop n) (ds.drop n)
  | _, _, 0, h => h
  | _, _, _ + 1, .nil => .nil
  | _, _, n + 1, .cons h a => da_drop n a
theorem da_set : ∀ {vs : List V} {ds : List PyData} {v : V} {d : PyData} (n : Nat), Dp K H v d → DpAll K H vs ds → DpAll K H (vs.set n v) (ds.set n d)
  | _, _, _, _, _, _, .nil => .nil
  | _, _, _, _, 0, h, .cons _ a => .cons h a
  | _, _, _, _, n + 1, h, .cons g a => .cons g (da_set n h a)
theorem da_dropLast {vs : List V} {ds : List PyData} (h : DpAll K H vs ds) : DpAll K H vs.dropLast ds.dropLast := by
  rw [List.dropLast_eq_take, List.dropLast_eq_take, da_length h]; exact da_take _ h
theorem da_replicate {v : V} {d : PyData} (h : Dp K H v d) : ∀ n, DpAll K H (List.replicate n v) (List.replicate n d)
  | 0 => .nil
  | n + 1 => .cons h (da_replicate h n)
theorem da_ints : ∀ {vs : List V} {ns : List Int}, DpAll K H vs (ns.map PyData.int) → vs = ns.map V.int
  | _, [], h => by cases h; rfl
  | _, n :: ns, h => by cases h with | cons h a => cases h; rw [da_ints a]; rfl
theorem da_of_ints : ∀ (ns : List Int), DpAll K H (ns.map V.int) (ns.map PyData.int)
  | [] => .nil
  | _ :: ns => .cons (.int _) (da_of_ints ns)
theorem da_strs : ∀ {vs : List V} {ns : List Str}, DpAll K H vs (ns.map PyData.str) → vs = ns.map V.str
  | _, [], h => by cases h; rfl
  | _, n :: ns, h => by cases h with | cons h a => cases h; rw [da_strs a]; rfl
theorem da_of_strs : ∀ (ns : List Str), DpAll K H (ns.map V.str) (ns.map PyData.str)
  | [] => .nil
  | _ :: ns => .cons (.str _) (da_of_strs ns)
theorem da_bls : ∀ {vs : List V} {ns : List Bool}, DpAll K H vs (ns.map PyData.bool) → vs = ns.map V.bl
  | _, [], h => by cases h; rfl
  | _, n :: ns, h => by cases h with | cons h a => cases h; rw [da_bls a]; rfl
end
/-- a thing of our own: a list; a dict -/
inductive MO where
  | l (xs : List PyData)
  | k (kvs : List (Key × PyData))
  | r (lo hi : Int)
/-- what a slot holds: data; the j-th thing of our own -/
inductive AV where
  | d (x : PyData)
  | o (j : Nat)
structure AS where
  sl : List (Option AV)
  mu : List MO
def MoOk (K : PySem.W.Frag) (Hf H : Hp) (p : Addr) : MO → Prop
  | .l xs => ∃ vs, H p = some (.lst vs) ∧ DpAll K Hf vs xs
  | .k kvs => ∃ vs, H p = some (.dK vs) ∧ vs.map (·.1) = kvs.map (·.1) ∧ DpAll K Hf (vs.map (·.2)) (kvs.map (·.2))
  | .r lo hi => H p = some (.rng lo hi)
def MuOk (K : PySem.W.Frag) (Hf H : Hp) (as : List Addr) (mu : List MO) : Prop := as.length = mu.length ∧ ∀ (j : Nat) p m, as[j]? = some p → mu[j]? = some m → MoOk K Hf H p m
def RepV (K : PySem.W.Frag) (Hf : Hp) (as : List Addr) (v : V) : AV → Prop
  | .d x => Dp K Hf v x
  | .o j => ∃ p, as[j]? = some p ∧ v = .ref p
inductive RepA (K : PySem.W.Frag) (Hf : Hp) (as : List Addr) : List V → List AV → Prop
  | nil : RepA K Hf as [] []
  | cons {v : V} {vs : List V} {a : AV} {avs : List AV} : RepV K Hf as v a → RepA K Hf as vs avs → RepA K Hf as (v :: vs) (a :: avs)
theorem MoOk.ex {K : PySem.W.Frag} {Hf Hf' H H' : Hp} {p : Addr} {m : MO} (e1 : Ex Hf Hf') (e2 : H p = H' p) (h : MoOk K Hf H p m) : MoOk K Hf' H' p m := by
  cases m with
  | l xs => obtain ⟨vs, h1, h2⟩ := h; exact ⟨vs, e2 ▸ h1, da_ex e1 h2⟩
  | k kvs => obtain ⟨vs, h1, h2, h3⟩ := h; exact ⟨vs, e2 ▸ h1, h2, da_ex e1 h3⟩
  | r lo hi => exact e2.symm.trans h
theorem RepV.ex {K : PySem.W.Frag} {Hf Hf' : Hp} {as : List Addr} {v : V} {a : AV} (e : Ex Hf Hf') (h : RepV K Hf as v a) : RepV K Hf' as v a := by
  cases a with
  | d x => exact dp_ex e h
  | o j => exact h
theorem RepA.ex {K : PySem.W.Frag} {Hf Hf' : Hp} {as : List Addr} (e : Ex Hf Hf') : ∀ {vs : List V} {avs : List AV}, RepA K Hf as vs avs → RepA K Hf' as vs avs
  | _, _, .nil => .nil
  | _, _, .cons h a => .cons (h.ex e) (RepA.ex e a)
theorem RepA.all {K : PySem.W.Frag} {Hf : Hp} {as : List Addr} : ∀ {vs : List V} {ds : List PyData}, RepA K Hf as vs (ds.map AV.d) → DpAll K Hf vs ds
  | _, [], h => by cases h; exact .nil
  | _, d :: ds, h => by cases h with | cons h a => exact .cons h (RepA.all a)
/-- the state: S told by the slots σ and the heap H; as: where our own things stand; fr: things that are others' -/
structure Ok (K : PySem.W.Frag) (Z : Hp) (as0 as fr : List Addr) (S : AS) (σ : L2.St) (H : Hp) : Prop where
  len : σ.length = S.sl.length
  sl : ∀ (i : Nat) av, S.sl[i]? = some (some av) → ∃ v, σ[i]? = some (some v) ∧ RepV K (off (as ++ fr) H) as v av
  mu : MuOk K (off (as ++ fr) H) H as S.mu
  nd : (as ++ fr).Nodup
  ex : ∀ q ∈ as ++ fr, ∃ o, H q = some o
  pre : ∃ more, as = as0 ++ more
  pres : ∀ b o, Z b = some o → b ∉ as ∧ H b = some o
section
variable {K : PySem.W.Frag} {Z H H' : Hp} {as0 as fr : List Addr} {S : AS} {σ : L2.St}
theorem Ok.grow (h : Ok K Z as0 as fr S σ H) (e : Ex H H') : Ok K Z as0 as fr S σ H' where
  len := h.len
  sl := fun i av hi => let ⟨v, h1, h2⟩ := h.sl i av hi; ⟨v, h1, h2.ex (off_ex e)⟩
  mu := ⟨h.mu.1, fun j p m hj hm => (h.mu.2 j p m hj hm).ex (off_ex e) (by
    obtain ⟨o, ho⟩ := h.ex p (List.mem_append_left _ (List.mem_of_getElem? hj))
    rw [ho, e p o ho])⟩
  nd := h.nd
  ex := fun q hq => let ⟨o, ho⟩ := h.ex q hq; ⟨o, e q o ho⟩
  pre := h.pre
  pres := fun b o h1 => ⟨(h.pres b o h1).1, e b o (h.pres b o h1).2⟩
theorem Ok.fresh (h : Ok K Z as0 as fr S σ H) {p : Addr} (hp : H p = none) : p ∉ as ++ fr := fun hm => by
  obtain ⟨o, ho⟩ := h.ex p hm
  rw [hp] at ho; cases ho
theorem Ok.weak {S' : AS} (h : Ok K Z as0 as fr S σ H) (hl : S'.sl.length = S.sl.length) (w : ∀ (i : Nat) av, S'.sl[i]? = some (some av) → S.sl[i]? = some (some av)) (hm : S'.mu = S.mu) : Ok K Z as0 as fr S' σ H where
  len := h.len.trans hl.symm
  sl := fun i av hi => h.sl i av (w i av hi)
  mu := hm ▸ h.mu
  nd := h.nd
  ex := h.ex
  pre := h.pre
  pres := h.pres
/-- a slot is stored -/
theorem Ok.store (h : Ok K Z as0 as fr S σ H) {i : Nat} {v : V} {av : AV} (r : RepV K (off (as ++ fr) H) as v av) : Ok K Z as0 as fr ⟨S.sl.set i (some av), S.mu⟩ (σ.set i (some v)) H where
  len := by simp [h.len]
  sl := fun j a hj => by
    have hj' : (S.sl.set i (some av))[j]? = some (some a) := hj
    by_cases e : i = j
    · subst e
      have hi : i < S.sl.length := by
        have := (List.getElem?_eq_some_iff.mp hj').1
        simpa using this
      rw [List.getElem?_set_self hi] at hj'
      cases hj'
      exact ⟨v, List.getElem?_set_self (by rw [h.len]; exact hi), r⟩
    · rw [List.getElem?_set_ne e] at hj'
      obtain ⟨u, h1, h2⟩ := h.sl j a hj'
      exact ⟨u, by rw [List.getElem?_set_ne e]; exact h1, h2⟩
  mu := h.mu
  nd := h.nd
  ex := h.ex
  pre := h.pre
  pres := h.pres
/-- a thing of our own is changed -/
theorem Ok.put (h : Ok K Z as0 as fr S σ H) {j : Nat} {p : Addr} {o : HO} {m : MO} (hp : as[j]? = some p) (hm : MoOk K (off (as ++ fr) H) (upd H p o) p m) : Ok K Z as0 as fr ⟨S.sl, S.mu.set j m⟩ σ (upd H p o) := by
  have pin : p ∈ as := List.mem_of_getElem? hp
  have eo : Ex (off (as ++ fr) H) (off (as ++ fr) (upd H p o)) := fun a u e => by
    obtain ⟨e1, e2⟩ := off_of e
    rw [off_at e2, upd_ne (fun z => e2 (by rw [z]; exact List.mem_append_left _ pin))]; exact e1
  refine ⟨h.len, fun i av hi => let ⟨v, h1, h2⟩ := h.sl i av hi; ⟨v, h1, h2.ex eo⟩, ⟨by simpa using h.mu.1, fun i q m' hi hm' => ?_⟩, h.nd, fun q hq => ?_, h.pre, fun b u h1 => ?_⟩
  · have hm'' : (S.mu.set j m)[i]? = some m' := hm'
    by_cases e : j = i
    · subst e
      have hj : j < S.mu.length := by
        have := (List.getElem?_eq_some_iff.mp hm'').1
        simpa using this
      rw [List.getElem?_set_self hj] at hm''
      cases hm''
      rw [hp] at hi; cases hi
      exact hm.ex eo rfl
    · rw [List.getElem?_set_ne e] at hm''
      refine (h.mu.2 i q m' hi hm'').ex eo ?_
      have : q ≠ p := fun z => by
        subst z
        have nda : as.Nodup := (List.nodup_append.mp h.nd).1
        obtain ⟨h1, e1⟩ := List.getElem?_eq_some_iff.mp hi
        obtain ⟨h2, e2⟩ := List.getElem?_eq_some_iff.mp hp
        exact e ((List.getElem_inj nda).mp (e2.trans e1.symm))
      rw [upd_ne this]
  · by_cases e : q = p
    · subst e; exact ⟨o, upd_same⟩
    · obtain ⟨u, hu⟩ := h.ex q hq
      exact ⟨u, by rw [upd_ne e]; exact hu⟩
  · obtain ⟨h3, h4⟩ := h.pres b u h1
    exact ⟨h3, by rw [upd_ne (fun z => h3 (by rw [z]; exact pin))]; exact h4⟩
/-- a new thing of our own -/
theorem Ok.own (h : Ok K Z as0 as fr S σ H) {p : Addr} {o : HO} {m : MO} (hp : H p = none) (hm : MoOk K (off (as ++ fr) H) (upd H p o) p m) : Ok K Z as0 (as ++ [p]) fr ⟨S.sl, S.mu ++ [m]⟩ σ (upd H p o) := by
  have hf := h.fresh hp
  have eo : Ex (off (as ++ fr) H) (off ((as ++ [p]) ++ fr) (upd H p o)) := fun a u e => by
    obtain ⟨e1, e2⟩ := off_of e
    have ne : a ≠ p := ne_of_none e1 hp
    rw [off_at (fun z => e2 ?_), upd_ne ne]
    · exact e1
    · rcases List.mem_append.mp z with z | z
      · rcases List.mem_append.mp z with z | z
        · exact List.mem_append_left _ z
        · exact absurd (List.mem_singleton.mp z) ne
      · exact List.mem_append_right _ z
  have ro : ∀ v av, RepV K (off (as ++ fr) H) as v av → RepV K (off ((as ++ [p]) ++ fr) (upd H p o)) (as ++ [p]) v av := fun v av r => by
    cases av with
    | d x => exact dp_ex eo r
    | o j =>
      obtain ⟨q, h1, h2⟩ := r
      exact ⟨q, by rw [List.getElem?_append_left (List.getElem?_eq_some_iff.mp h1).1]; exact h1, h2⟩
  refine ⟨h.len, fun i av hi => let ⟨v, h1, h2⟩ := h.sl i av hi; ⟨v, h1, ro v av h2⟩, ⟨by simpa using h.mu.1, fun i q m' hi hm' => ?_⟩, ?_, fun q hq => ?_, ?_, fun b u h1 => ?_⟩
  · by_cases e : i < as.length
    · rw [List.getElem?_append_left e] at hi
      have hm'' : (S.mu ++ [m])[i]? = some m' := hm'
      rw [List.getElem?_append_left (by rw [← h.mu.1]; exact e)] at hm''
      refine (h.mu.2 i q m' hi hm'').ex eo ?_
      have : q ≠ p := fun z => hf (z ▸ List.mem_append_left _ (List.mem_of_getElem? hi))
      rw [upd_ne this]
    · have hm'' : (S.mu ++ [m])[i]? = some m' := hm'
      have hi' := (List.getElem?_eq_some_iff.mp hi).1
      have ei : i = as.length := by simp at hi'; omega
      subst ei
      rw [List.getElem?_append_right (Nat.le_refl _), Nat.sub_self] at hi
      rw [h.mu.1, List.getElem?_append_right (Nat.le_refl _), Nat.sub_self] at hm''
      cases hi; cases hm''
      exact hm.ex eo rfl
  · have := h.nd
    rw [List.append_assoc]
    refine List.nodup_append.mpr ⟨(List.nodup_append.mp this).1, List.nodup_cons.mpr ⟨fun z => hf (List.mem_append_right _ z), (List.nodup_append.mp this).2.1⟩, fun a ha b hb => ?_⟩
    rcases List.mem_cons.mp hb with e | hb
    · rw [e]; exact fun z => hf (z ▸ List.mem_append_left _ ha)
    · exact (List.nodup_append.mp this).2.2 a ha b hb
  · by_cases e : q = p
    · subst e; exact ⟨o, upd_same⟩
    · rw [upd_ne e]
      refine h.ex q ?_
      rcases List.mem_append.mp hq with z | z
      · rcases List.mem_append.mp z with z | z
        · exact List.mem_append_left _ z
        · exact absurd (List.mem_singleton.mp z) e
      · exact List.mem_append_right _ z
  · obtain ⟨more, e⟩ := h.pre
    exact ⟨more ++ [p], by rw [e, List.append_assoc]⟩
  · obtain ⟨h3, h4⟩ := h.pres b u h1
    have ne : b ≠ p := ne_of_none h4 hp
    refine ⟨fun z => ?_, by rw [upd_ne ne]; exact h4⟩
    rcases List.mem_append.mp z with z | z
    · exact h3 z
    · exact ne (List.mem_singleton.mp z)
end
end D2
set_option Elab.async false
set_option linter.all false
set_option maxRecDepth 100000
set_option maxHeartbeats 4000000
/-! DL2: what readings do, said over data: EW (with what it does to our own things), EV (pure), tests, arguments, loops, comprehensions, statements. -/
namespace D2
open PySem L2
abbrev Mu := List MO
abbrev dI (i : Int) : AV := .d (.int i)
abbrev dB (b : Bool) : AV := .d (.bool b)
abbrev dN : AV := .d .none
abbrev dS (l : List Nat) : AV := .d (.str ⟨l.toArray⟩)
abbrev pS (l : List Nat) : PyData := .str ⟨l.toArray⟩
abbrev dL (xs : List PyData) : AV := .d (.list xs)
abbrev dT (xs : List PyData) : AV := .d (.tuple xs)
def Gr (as fr : List Addr) (H H' : Hp) : Prop := Ex (off (as ++ fr) H) (off (as ++ fr) H')
theorem Gr.refl {as fr : List Addr} {H : Hp} : Gr as fr H H := Ex.refl _
theorem Gr.trans {as fr : List Addr} {H H1 H2 : Hp} (a : Gr as fr H H1) (b : Gr as fr H1 H2) : Gr as fr H H2 := Ex.trans a b
theorem Gr.of {as fr : List Addr} {H H' : Hp} (e : Ex H H') : Gr as fr H H' := off_ex e
/-- what may be known of a heap where values are handled -/
structure Hk (K : PySem.W.Frag) (as fr : List Addr) (mu : Mu) (H : Hp) : Prop where
  mu : MuOk K (off (as ++ fr) H) H as mu
  ex : ∀ q ∈ as ++ fr, ∃ o, H q = some o
theorem Ok.hk {K : PySem.W.Frag} {Z H : Hp} {as0 as fr : List Addr} {S : AS} {σ : L2.St} (h : Ok K Z as0 as fr S σ H) : Hk K as fr S.mu H := ⟨h.mu, h.ex⟩
theorem Hk.fresh {K : PySem.W.Frag} {as fr : List Addr} {mu : Mu} {H : Hp} (h : Hk K as fr mu H) {p : Addr} (hp : H p = none) : p ∉ as ++ fr := fun hm => by
  obtain ⟨o, ho⟩ := h.ex p hm
  rw [hp] at ho; cases ho
theorem Hk.grow {K : PySem.W.Frag} {as fr : List Addr} {mu : Mu} {H H' : Hp} (h : Hk K as fr mu H) (e : Ex H H') : Hk K as fr mu H' :=
  ⟨⟨h.mu.1, fun j p m hj hm => (h.mu.2 j p m hj hm).ex (off_ex e) (by
    obtain ⟨o, ho⟩ := h.ex p (List.mem_append_left _ (List.mem_of_getElem? hj))
    rw [ho, e p o ho])⟩, fun q hq => let ⟨o, ho⟩ := h.ex q hq; ⟨o, e q o ho⟩⟩
/-- a new object is data -/
theorem Hk.lay {K : PySem.W.Frag} {as fr : List Addr} {mu : Mu} {H : Hp} (h : Hk K as fr mu H) {p : Addr} {o : HO} (hp : H p = none) : off (as ++ fr) (upd H p o) p = some o := by
  rw [off_at (h.fresh hp), upd_same]
theorem sqL_of {K : PySem.W.Frag} {H : Hp} {a : Addr} {xs : List V} (h : H a = some (.lst xs)) : SqL K H a xs := .inl (.inl h)
theorem sqT_of {K : PySem.W.Frag} {H : Hp} {a : Addr} {xs : List V} (h : H a = some (.tup xs)) : SqT K H a xs := .inl (.inl h)
theorem sz_of {n : Nat} (h : n ≤ 1000000) : n ≤ sizeLine := Nat.le_trans h (by decide)
theorem sz_lt {n : Nat} (h : n < 1000000) : n < sizeLine := Nat.lt_of_lt_of_le h (by decide)
/-! ### by values -/
section
variable (K : PySem.W.Frag)
def Kv (as fr : List Addr) (H : Hp) (a : AV) (Q : VK) : Prop := ∀ v H', Ex H H' → RepV K (off (as ++ fr) H') as v a → Q v H'
def RB (mu : Mu) (r : R2) (a1 a2 a : AV) : Prop := ∀ as fr H v1 v2, Hk K as fr mu H → RepV K (off (as ++ fr) H) as v1 a1 → RepV K (off (as ++ fr) H) as v2 a2 → ∀ Q : VK, Kv K as fr H a Q → r v1 v2 H Q
def RU (mu : Mu) (r : V → Hp → VK → Prop) (a1 a : AV) : Prop := ∀ as fr H v1, Hk K as fr mu H → RepV K (off (as ++ fr) H) as v1 a1 → ∀ Q : VK, Kv K as fr H a Q → r v1 H Q
def RA (mu : Mu) (r : List V → Hp → VK → Prop) (avs : List AV) (a : AV) : Prop := ∀ as fr H vs, Hk K as fr mu H → RepA K (off (as ++ fr) H) as vs avs → ∀ Q : VK, Kv K as fr H a Q → r vs H Q
/-- a method by values: x its thing -/
def RM (mu : Mu) (r : V → List V → Hp → VK → Prop) (x : AV) (avs : List AV) (a : AV) : Prop := ∀ as fr H v vs, Hk K as fr mu H → RepV K (off (as ++ fr) H) as v x → RepA K (off (as ++ fr) H) as vs avs → ∀ Q : VK, Kv K as fr H a Q → r v vs H Q
end
section
variable {K : PySem.W.Frag} {Hf : Hp} {as : List Addr}
theorem rv_int {i : Int} : RepV K Hf as (.int i) (dI i) := .int i
theorem rv_bl {i : Bool} : RepV K Hf as (.bl i) (dB i) := .bl i
theorem rv_non : RepV K Hf as .non dN := .non
theorem rv_str {i : Str} : RepV K Hf as (.str i) (.d (.str i)) := .str i
theorem rv_lst {p : Addr} {vs : List V} {ds : List PyData} (h : SqL K Hf p vs) (a : DpAll K Hf vs ds) : RepV K Hf as (.ref p) (dL ds) := .lst h a
theorem rv_tup {p : Addr} {vs : List V} {ds : List PyData} (h : SqT K Hf p vs) (a : DpAll K Hf vs ds) : RepV K Hf as (.ref p) (dT ds) := .tup h a
end
theorem Kv.same {K : PySem.W.Frag} {as fr : List Addr} {H : Hp} {a : AV} {Q : VK} (k : Kv K as fr H a Q) {v : V} (h : RepV K (off (as ++ fr) H) as v a) : Q v H := k v H (Ex.refl H) h
theorem Kv.int {K : PySem.W.Frag} {as fr : List Addr} {H : Hp} {i : Int} {Q : VK} (k : Kv K as fr H (dI i) Q) : Q (.int i) H := k _ H (Ex.refl H) (.int i)
theorem Kv.bl {K : PySem.W.Frag} {as fr : List Addr} {H : Hp} {i : Bool} {Q : VK} (k : Kv K as fr H (dB i) Q) : Q (.bl i) H := k _ H (Ex.refl H) (.bl i)
theorem Kv.str {K : PySem.W.Frag} {as fr : List Addr} {H : Hp} {i : Str} {Q : VK} (k : Kv K as fr H (.d (.str i)) Q) : Q (.str i) H := k _ H (Ex.refl H) (.str i)
/-- a new list, a new tuple -/
theorem Kv.lst {K : PySem.W.Frag} {as fr : List Addr} {mu : Mu} {H : Hp} {xs : List PyData} {vs : List V} {Q : VK} (k : Kv K as fr H (dL xs) Q) (h : Hk K as fr mu H) {p : Addr} (hp : H p = none) (ha : DpAll K (off (as ++ fr) H) vs xs) : Q (.ref p) (upd H p (.lst vs)) :=
  k _ _ (Ex.new hp) (.lst (sqL_of (h.lay hp)) (da_ex (off_ex (Ex.new hp)) ha))
theorem Kv.tup {K : PySem.W.Frag} {as fr : List Addr} {mu : Mu} {H : Hp} {xs : List PyData} {vs : List V} {Q : VK} (k : Kv K as fr H (dT xs) Q) (h : Hk K as fr mu H) {p : Addr} (hp : H p = none) (ha : DpAll K (off (as ++ fr) H) vs xs) : Q (.ref p) (upd H p (.tup vs)) :=
  k _ _ (Ex.new hp) (.tup (sqT_of (h.lay hp)) (da_ex (off_ex (Ex.new hp)) ha))
/-! ### expressions -/
section
variable (K : PySem.W.Frag)
def EW (t : TE) (S : AS) (P : AV → Mu → Prop) : Prop := ∀ Z as0 as fr σ H, Ok K Z as0 as fr S σ H → ∀ Q : VK,
  (∀ v H' a mu', Gr as fr H H' → Ok K Z as0 as fr ⟨S.sl, mu'⟩ σ H' → RepV K (off (as ++ fr) H') as v a → P a mu' → Q v H') → t σ H Q
def EV (t : TE) (S : AS) (a : AV) : Prop := EW K t S fun a' mu' => a' = a ∧ mu' = S.mu
def TW (t : TT) (S : AS) (P : Bool → Mu → Prop) : Prop := ∀ Z as0 as fr σ H, Ok K Z as0 as fr S σ H → ∀ Q : Bool → Hp → Prop,
  (∀ b H' mu', Gr as fr H H' → Ok K Z as0 as fr ⟨S.sl, mu'⟩ σ H' → P b mu' → Q b H') → t σ H Q
def TV (t : TT) (S : AS) (b : Bool) : Prop := TW K t S fun b' mu' => b' = b ∧ mu' = S.mu
def AW (t : TA) (S : AS) (P : List AV → Mu → Prop) : Prop := ∀ Z as0 as fr σ H, Ok K Z as0 as fr S σ H → ∀ Q : List V → Hp → Prop,
  (∀ vs H' avs mu', Gr as fr H H' → Ok K Z as0 as fr ⟨S.sl, mu'⟩ σ H' → RepA K (off (as ++ fr) H') as vs avs → P avs mu' → Q vs H') → t σ H Q
def AVs (t : TA) (S : AS) (avs : List AV) : Prop := AW K t S fun avs' mu' => avs' = avs ∧ mu' = S.mu
/-- an optional part of a slice -/
def OW (t : TO) (S : AS) (P : Option Int → Mu → Prop) : Prop := ∀ Z as0 as fr σ H, Ok K Z as0 as fr S σ H → ∀ Q : Option Int → Hp → Prop,
  (∀ o H' mu', Gr as fr H H' → Ok K Z as0 as fr ⟨S.sl, mu'⟩ σ H' → P o mu' → Q o H') → t σ H Q
def OV (t : TO) (S : AS) (o : Option Int) : Prop := OW K t S fun o' mu' => o' = o ∧ mu' = S.mu
end
section
variable {K : PySem.W.Frag} {S : AS} {ta tb te tx : TE} {t u : TT} {a a1 a2 a3 : AV} {P P' : AV → Mu → Prop}
theorem EW.mono (h : EW K te S P) (k : ∀ a mu, P a mu → P' a mu) : EW K te S P' := fun Z as0 as fr σ H ok Q q => h Z as0 as fr σ H ok Q fun v H' a mu' g ok' r p => q v H' a mu' g ok' r (k a mu' p)
theorem TW.mono {P P' : Bool → Mu → Prop} (h : TW K t S P) (k : ∀ a mu, P a mu → P' a mu) : TW K t S P' := fun Z as0 as fr σ H ok Q q => h Z as0 as fr σ H ok Q fun b H' mu' g ok' p => q b H' mu' g ok' (k b mu' p)
theorem AW.mono {t : TA} {P P' : List AV → Mu → Prop} (h : AW K t S P) (k : ∀ a mu, P a mu → P' a mu) : AW K t S P' := fun Z as0 as fr σ H ok Q q => h Z as0 as fr σ H ok Q fun b H' a mu' g ok' r p => q b H' a mu' g ok' r (k a mu' p)
theorem OW.mono {t : TO} {P P' : Option Int → Mu → Prop} (h : OW K t S P) (k : ∀ a mu, P a mu → P' a mu) : OW K t S P' := fun Z as0 as fr σ H ok Q q => h Z as0 as fr σ H ok Q fun b H' mu' g ok' p => q b H' mu' g ok' (k b mu' p)
theorem EV.ew (h : EV K te S a) (k : P a S.mu) : EW K te S P := h.mono fun _ _ ⟨e1, e2⟩ => by subst e1 e2; exact k
theorem TV.ew {b : Bool} {P : Bool → Mu → Prop} (h : TV K t S b) (k : P b S.mu) : TW K t S P := h.mono fun _ _ ⟨e1, e2⟩ => by subst e1 e2; exact k
theorem AVs.ew {t : TA} {avs : List AV} {P : List AV → Mu → Prop} (h : AVs K t S avs) (k : P avs S.mu) : AW K t S P := h.mono fun _ _ ⟨e1, e2⟩ => by subst e1 e2; exact k
theorem OV.ew {t : TO} {o : Option Int} {P : Option Int → Mu → Prop} (h : OV K t S o) (k : P o S.mu) : OW K t S P := h.mono fun _ _ ⟨e1, e2⟩ => by subst e1 e2; exact k
theorem EV.is {a' : AV} (h : EV K te S a) (e : a = a') : EV K te S a' := e ▸ h
theorem TV.is {b b' : Bool} (h : TV K t S b) (e : b = b') : TV K t S b' := e ▸ h
theorem ev_var {i : Nat} (h : S.sl[i]? = some (some a)) : EV K (tVar i) S a := fun Z as0 as fr σ H ok Q q =>
  let ⟨v, h1, h2⟩ := ok.sl i a h
  ⟨v, h1, q v H a S.mu Gr.refl ok h2 ⟨rfl, rfl⟩⟩
theorem ev_int {i : Int} : EV K (tC (.int i)) S (dI i) := fun Z as0 as fr σ H ok Q q => q _ H _ S.mu Gr.refl ok rv_int ⟨rfl, rfl⟩
theorem ev_bl {i : Bool} : EV K (tC (.bl i)) S (dB i) := fun Z as0 as fr σ H ok Q q => q _ H _ S.mu Gr.refl ok rv_bl ⟨rfl, rfl⟩
theorem ev_non : EV K (tC .non) S dN := fun Z as0 as fr σ H ok Q q => q _ H _ S.mu Gr.refl ok rv_non ⟨rfl, rfl⟩
theorem ev_str {i : Str} : EV K (tC (.str i)) S (.d (.str i)) := fun Z as0 as fr σ H ok Q q => q _ H _ S.mu Gr.refl ok rv_str ⟨rfl, rfl⟩
/-- a written text, by its letters -/
theorem ev_txt {i : Str} {l : List Nat} (e : i = ⟨l.toArray⟩) : EV K (tC (.str i)) S (dS l) := by subst e; exact ev_str
theorem ew_op {r : R2} (h : EW K ta S fun a1 mu1 => EW K tb ⟨S.sl, mu1⟩ fun a2 mu2 => ∃ a, RB K mu2 r a1 a2 a ∧ P a mu2) : EW K (tOp r ta tb) S P := fun Z as0 as fr σ H ok Q q =>
  h Z as0 as fr σ H ok _ fun v1 H1 a1 mu1 g1 ok1 r1 p1 => p1 Z as0 as fr σ H1 ok1 _ fun v2 H2 a2 mu2 g2 ok2 r2 ⟨a, hb, p⟩ =>
    hb as fr H2 v1 v2 ok2.hk (r1.ex g2) r2 Q fun v H' e rv => q v H' a mu2 ((g1.trans g2).trans (.of e)) (ok2.grow e) rv p
theorem ev_op {r : R2} (ha : EV K ta S a1) (hb : EV K tb S a2) (hr : RB K S.mu r a1 a2 a) : EV K (tOp r ta tb) S a := ew_op (ha.ew (hb.ew ⟨a, hr, rfl, rfl⟩))
theorem ew_un {r : V → Hp → VK → Prop} (h : EW K ta S fun a1 mu1 => ∃ a, RU K mu1 r a1 a ∧ P a mu1) : EW K (tUn r ta) S P := fun Z as0 as fr σ H ok Q q =>
  h Z as0 as fr σ H ok _ fun v1 H1 a1 mu1 g1 ok1 r1 ⟨a, hb, p⟩ => hb as fr H1 v1 ok1.hk r1 Q fun v H' e rv => q v H' a mu1 (g1.trans (.of e)) (ok1.grow e) rv p
theorem ev_un {r : V → Hp → VK → Prop} (ha : EV K ta S a1) (hr : RU K S.mu r a1 a) : EV K (tUn r ta) S a := ew_un (ha.ew ⟨a, hr, rfl, rfl⟩)
theorem ew_chain {r r' : R2} {tc : TE} (h : EW K ta S fun a1 mu1 => EW K tb ⟨S.sl, mu1⟩ fun a2 mu2 => ∃ b, RB K mu2 r a1 a2 (dB b) ∧ if b = true then EW K tc ⟨S.sl, mu2⟩ fun a3 mu3 => ∃ a, RB K mu3 r' a2 a3 a ∧ P a mu3 else P (dB false) mu2) : EW K (tChain r r' ta tb tc) S P := fun Z as0 as fr σ H ok Q q =>
  h Z as0 as fr σ H ok _ fun v1 H1 a1 mu1 g1 ok1 r1 p1 => p1 Z as0 as fr σ H1 ok1 _ fun v2 H2 a2 mu2 g2 ok2 r2 ⟨b, hb, p⟩ =>
    hb as fr H2 v1 v2 ok2.hk (r1.ex g2) r2 _ fun v H3 e rv => by
      cases rv
      refine ⟨b, rfl, ?_⟩
      cases b with
      | true =>
        rw [if_pos rfl] at p ⊢
        exact p Z as0 as fr σ H3 (ok2.grow e) _ fun v3 H4 a3 mu3 g3 ok3 r3 ⟨a, hb', p'⟩ => hb' as fr H4 v2 v3 ok3.hk (r2.ex ((Gr.of e).trans g3)) r3 Q fun v H' e' rv' => q v H' a mu3 ((g1.trans g2).trans (((Gr.of e).trans g3).trans (.of e'))) (ok3.grow e') rv' p'
      | false =>
        rw [if_neg Bool.false_ne_true] at p ⊢
        exact q _ H3 _ mu2 ((g1.trans g2).trans (.of e)) (ok2.grow e) rv_bl p
theorem ev_chain {r r' : R2} {tc : TE} {b b' : Bool} (ha : EV K ta S a1) (hb : EV K tb S a2) (hr : RB K S.mu r a1 a2 (dB b)) (hc : b = true → EV K tc S a3) (hr' : b = true → RB K S.mu r' a2 a3 (dB b')) : EV K (tChain r r' ta tb tc) S (dB (b && b')) :=
  ew_chain (ha.ew (hb.ew ⟨b, hr, by
    cases b with
    | true => rw [if_pos rfl]; exact (hc rfl).ew ⟨dB b', hr' rfl, rfl, rfl⟩
    | false => rw [if_neg Bool.false_ne_true]; exact ⟨rfl, rfl⟩⟩))
/-! and, or, not, if by values -/
theorem ew_and (h : EW K ta S fun a1 mu1 => ∃ b, a1 = dB b ∧ if b = true then EW K tb ⟨S.sl, mu1⟩ P else P (dB false) mu1) : EW K (tAndV ta tb) S P := fun Z as0 as fr σ H ok Q q =>
  h Z as0 as fr σ H ok _ fun v1 H1 a1 mu1 g1 ok1 r1 ⟨b, e, p⟩ => by
    subst e
    cases r1
    refine ⟨b, rfl, ?_⟩
    cases b with
    | true =>
      rw [if_pos rfl] at p ⊢
      exact p Z as0 as fr σ H1 ok1 Q fun v H' a mu' g ok' r pp => q v H' a mu' (g1.trans g) ok' r pp
    | false =>
      rw [if_neg Bool.false_ne_true] at p ⊢
      exact q _ H1 _ mu1 g1 ok1 rv_bl p
theorem ev_and {b c : Bool} (ha : EV K ta S (dB b)) (hb : b = true → EV K tb S (dB c)) : EV K (tAndV ta tb) S (dB (b && c)) := ew_and (ha.ew ⟨b, rfl, by
  cases b with
  | true => rw [if_pos rfl]; exact hb rfl
  | false => rw [if_neg Bool.false_ne_true]; exact ⟨rfl, rfl⟩⟩)
theorem ew_or (h : EW K ta S fun a1 mu1 => ∃ b, a1 = dB b ∧ if b = true then P (dB true) mu1 else EW K tb ⟨S.sl, mu1⟩ P) : EW K (tOrV ta tb) S P := fun Z as0 as fr σ H ok Q q =>
  h Z as0 as fr σ H ok _ fun v1 H1 a1 mu1 g1 ok1 r1 ⟨b, e, p⟩ => by
    subst e
    cases r1
    refine ⟨b, rfl, ?_⟩
    cases b with
    | false =>
      rw [if_neg Bool.false_ne_true] at p ⊢
      exact p Z as0 as fr σ H1 ok1 Q fun v H' a mu' g ok' r pp => q v H' a mu' (g1.trans g) ok' r pp
    | true =>
      rw [if_pos rfl] at p ⊢
      exact q _ H1 _ mu1 g1 ok1 rv_bl p
theorem ev_or {b c : Bool} (ha : EV K ta S (dB b)) (hb : b = false → EV K tb S (dB c)) : EV K (tOrV ta tb) S (dB (b || c)) := ew_or (ha.ew ⟨b, rfl, by
  cases b with
  | false => rw [if_neg Bool.false_ne_true]; exact hb rfl
  | true => rw [if_pos rfl]; exact ⟨rfl, rfl⟩⟩)
theorem ew_not (h : EW K ta S fun a1 mu1 => ∃ b, a1 = dB b ∧ P (dB (!b)) mu1) : EW K (tNotV ta) S P := fun Z as0 as fr σ H ok Q q =>
  h Z as0 as fr σ H ok _ fun v1 H1 a1 mu1 g1 ok1 r1 ⟨b, e, p⟩ => by
    subst e
    cases r1
    exact ⟨b, rfl, q _ H1 _ mu1 g1 ok1 rv_bl p⟩
theorem ev_not {b : Bool} (ha : EV K ta S (dB b)) : EV K (tNotV ta) S (dB (!b)) := ew_not (ha.ew ⟨b, rfl, rfl, rfl⟩)
theorem ew_if (h : TW K t S fun b mu1 => if b = true then EW K ta ⟨S.sl, mu1⟩ P else EW K tb ⟨S.sl, mu1⟩ P) : EW K (tIf t ta tb) S P := fun Z as0 as fr σ H ok Q q =>
  h Z as0 as fr σ H ok _ fun b H1 mu1 g1 ok1 p => by
    cases b with
    | true =>
      rw [if_pos rfl] at p ⊢
      exact p Z as0 as fr σ H1 ok1 Q fun v H' a mu' g ok' r pp => q v H' a mu' (g1.trans g) ok' r pp
    | false =>
      rw [if_neg Bool.false_ne_true] at p ⊢
      exact p Z as0 as fr σ H1 ok1 Q fun v H' a mu' g ok' r pp => q v H' a mu' (g1.trans g) ok' r pp
theorem ev_if {b : Bool} (h : TV K t S b) (ha : b = true → EV K ta S a) (hb : b = false → EV K tb S a) : EV K (tIf t ta tb) S a := ew_if (h.ew (by
  cases b with
  | true => rw [if_pos rfl]; exact ha rfl
  | false => rw [if_neg Bool.false_ne_true]; exact hb rfl))
/-! tests -/
theorem tw_test {P : Bool → Mu → Prop} (h : EW K te S fun a mu => ∃ b, a = dB b ∧ P b mu) : TW K (tTest te) S P := fun Z as0 as fr σ H ok Q q =>
  h Z as0 as fr σ H ok _ fun v1 H1 a1 mu1 g1 ok1 r1 ⟨b, e, p⟩ => by
    subst e
    cases r1
    exact ⟨b, rfl, q b H1 mu1 g1 ok1 p⟩
theorem tv_test {b : Bool} (h : EV K te S (dB b)) : TV K (tTest te) S b := tw_test (h.ew ⟨b, rfl, rfl, rfl⟩)
theorem tw_B {P : Bool → Mu → Prop} (h : EW K te S fun a mu => ∃ b, a = dB b ∧ P b mu) : TW K (tB te) S P := fun Z as0 as fr σ H ok Q q =>
  h Z as0 as fr σ H ok _ fun v1 H1 a1 mu1 g1 ok1 r1 ⟨b, e, p⟩ => by
    subst e
    cases r1
    exact ⟨b, rfl, q b H1 mu1 g1 ok1 p⟩
theorem tv_B {b : Bool} (h : EV K te S (dB b)) : TV K (tB te) S b := tw_B (h.ew ⟨b, rfl, rfl, rfl⟩)
theorem tw_and {P : Bool → Mu → Prop} (h : TW K t S fun b mu1 => if b = true then TW K u ⟨S.sl, mu1⟩ P else P false mu1) : TW K (tAnd t u) S P := fun Z as0 as fr σ H ok Q q =>
  h Z as0 as fr σ H ok _ fun b H1 mu1 g1 ok1 p => by
    cases b with
    | true =>
      rw [if_pos rfl] at p ⊢
      exact p Z as0 as fr σ H1 ok1 Q fun b H' mu' g ok' pp => q b H' mu' (g1.trans g) ok' pp
    | false =>
      rw [if_neg Bool.false_ne_true] at p ⊢
      exact q _ H1 mu1 g1 ok1 p
theorem tv_and {b c : Bool} (h : TV K t S b) (k : b = true → TV K u S c) : TV K (tAnd t u) S (b && c) := tw_and (h.ew (by
  cases b with
  | true => rw [if_pos rfl]; exact k rfl
  | false => rw [if_neg Bool.false_ne_true]; exact ⟨rfl, rfl⟩))
theorem tw_or {P : Bool → Mu → Prop} (h : TW K t S fun b mu1 => if b = true then P true mu1 else TW K u ⟨S.sl, mu1⟩ P) : TW K (tOr t u) S P := fun Z as0 as fr σ H ok Q q =>
  h Z as0 as fr σ H ok _ fun b H1 mu1 g1 ok1 p => by
    cases b with
    | false =>
      rw [if_neg Bool.false_ne_true] at p ⊢
      exact p Z as0 as fr σ H1 ok1 Q fun b H' mu' g ok' pp => q b H' mu' (g1.trans g) ok' pp
    | true =>
      rw [if_pos rfl] at p ⊢
      exact q _ H1 mu1 g1 ok1 p
theorem tv_or {b c : Bool} (h : TV K t S b) (k : b = false → TV K u S c) : TV K (tOr t u) S (b || c) := tw_or (h.ew (by
  cases b with
  | false => rw [if_neg Bool.false_ne_true]; exact k rfl
  | true => rw [if_pos rfl]; exact ⟨rfl, rfl⟩))
theorem tw_not {P : Bool → Mu → Prop} (h : TW K t S fun b mu1 => P (!b) mu1) : TW K (tNot t) S P := fun Z as0 as fr σ H ok Q q =>
  h Z as0 as fr σ H ok _ fun b H1 mu1 g1 ok1 p => q _ H1 mu1 g1 ok1 p
theorem tv_not {b : Bool} (h : TV K t S b) : TV K (tNot t) S (!b) := tw_not (h.ew ⟨rfl, rfl⟩)
/-! arguments -/
theorem aw_nil {P : List AV → Mu → Prop} (h : P [] S.mu) : AW K tNil S P := fun Z as0 as fr σ H ok Q q => q [] H [] S.mu Gr.refl ok .nil h
theorem aw_cons {tr : TA} {P : List AV → Mu → Prop} (h : EW K te S fun a mu1 => AW K tr ⟨S.sl, mu1⟩ fun avs mu2 => P (a :: avs) mu2) : AW K (tCons te tr) S P := fun Z as0 as fr σ H ok Q q =>
  h Z as0 as fr σ H ok _ fun v1 H1 a1 mu1 g1 ok1 r1 p1 => p1 Z as0 as fr σ H1 ok1 _ fun vs H2 avs mu2 g2 ok2 r2 p => q _ H2 _ mu2 (g1.trans g2) ok2 (.cons (r1.ex g2) r2) p
theorem av_nil : AVs K tNil S [] := aw_nil ⟨rfl, rfl⟩
theorem av_cons {tr : TA} {avs : List AV} (h : EV K te S a) (hr : AVs K tr S avs) : AVs K (tCons te tr) S (a :: avs) := aw_cons (h.ew (hr.ew ⟨rfl, rfl⟩))
/-! displays -/
theorem ew_tup {t : TA} (h : AW K t S fun avs mu => ∃ ds, avs = ds.map AV.d ∧ ds.length ≤ 1000000 ∧ P (dT ds) mu) : EW K (tTup t) S P := fun Z as0 as fr σ H ok Q q =>
  h Z as0 as fr σ H ok _ fun vs H1 avs mu1 g1 ok1 r1 ⟨ds, e, hl, p⟩ => by
    subst e
    have ra := r1.all
    exact ⟨sz_of (by rw [da_length ra]; exact hl), fun x hx => q _ _ _ mu1 (g1.trans (.of (Ex.new hx))) (ok1.grow (Ex.new hx)) (rv_tup (sqT_of (ok1.hk.lay hx)) (da_ex (off_ex (Ex.new hx)) ra)) p⟩
theorem ev_tup {t : TA} {ds : List PyData} (h : AVs K t S (ds.map AV.d)) (hl : ds.length ≤ 1000000 := by first | decide | simp) : EV K (tTup t) S (dT ds) := ew_tup (h.ew ⟨ds, rfl, hl, rfl, rfl⟩)
theorem ew_lst {t : TA} (h : AW K t S fun avs mu => ∃ ds, avs = ds.map AV.d ∧ ds.length ≤ 1000000 ∧ P (dL ds) mu) : EW K (tLst t) S P := fun Z as0 as fr σ H ok Q q =>
  h Z as0 as fr σ H ok _ fun vs H1 avs mu1 g1 ok1 r1 ⟨ds, e, hl, p⟩ => by
    subst e
    have ra := r1.all
    exact ⟨sz_of (by rw [da_length ra]; exact hl), fun x hx => q _ _ _ mu1 (g1.trans (.of (Ex.new hx))) (ok1.grow (Ex.new hx)) (rv_lst (sqL_of (ok1.hk.lay hx)) (da_ex (off_ex (Ex.new hx)) ra)) p⟩
theorem ev_lst {t : TA} {ds : List PyData} (h : AVs K t S (ds.map AV.d)) (hl : ds.length ≤ 1000000 := by first | decide | simp) : EV K (tLst t) S (dL ds) := ew_lst (h.ew ⟨ds, rfl, hl, rfl, rfl⟩)
/-! calls of built-ins, methods -/
theorem ew_cb {r : List V → Hp → VK → Prop} {t : TA} (h : AW K t S fun avs mu => ∃ a, RA K mu r avs a ∧ P a mu) : EW K (tCB r t) S P := fun Z as0 as fr σ H ok Q q =>
  h Z as0 as fr σ H ok _ fun vs H1 avs mu1 g1 ok1 r1 ⟨a, hb, p⟩ => hb as fr H1 vs ok1.hk r1 Q fun v H' e rv => q v H' a mu1 (g1.trans (.of e)) (ok1.grow e) rv p
theorem ev_cb {r : List V → Hp → VK → Prop} {t : TA} {avs : List AV} (h : AVs K t S avs) (hr : RA K S.mu r avs a) : EV K (tCB r t) S a := ew_cb (h.ew ⟨a, hr, rfl, rfl⟩)
/-- the type's own look at the thing -/
def TyR (K : PySem.W.Frag) (mu : Mu) (T : String) (x : AV) : Prop := ∀ as fr H v, Hk K as fr mu H → RepV K (off (as ++ fr) H) as v x → tyV K T v H
theorem ew_bm {T : String} {r : V → List V → Hp → VK → Prop} {t : TA} (h : EW K te S fun x mu1 => TyR K mu1 T x ∧ AW K t ⟨S.sl, mu1⟩ fun avs mu2 => ∃ a, RM K mu2 r x avs a ∧ P a mu2) : EW K (tBM K T r te t) S P := fun Z as0 as fr σ H ok Q q =>
  h Z as0 as fr σ H ok _ fun v1 H1 x mu1 g1 ok1 r1 ⟨ht, p1⟩ => ⟨ht as fr H1 v1 ok1.hk r1, p1 Z as0 as fr σ H1 ok1 _ fun vs H2 avs mu2 g2 ok2 r2 ⟨a, hb, p⟩ => hb as fr H2 v1 vs ok2.hk (r1.ex g2) r2 Q fun v H' e rv => q v H' a mu2 ((g1.trans g2).trans (.of e)) (ok2.grow e) rv p⟩
theorem ev_bm {T : String} {r : V → List V → Hp → VK → Prop} {t : TA} {x : AV} {avs : List AV} (hx : EV K te S x) (ht : TyR K S.mu T x) (h : AVs K t S avs) (hr : RM K S.mu r x avs a) : EV K (tBM K T r te t) S a := ew_bm (hx.ew ⟨ht, h.ew ⟨a, hr, rfl, rfl⟩⟩)
theorem ew_bm0 {T : String} {r : V → List V → Hp → VK → Prop} (h : EW K te S fun x mu1 => TyR K mu1 T x ∧ ∃ a, RM K mu1 r x [] a ∧ P a mu1) : EW K (tBM0 K T r te) S P := fun Z as0 as fr σ H ok Q q =>
  h Z as0 as fr σ H ok _ fun v1 H1 x mu1 g1 ok1 r1 ⟨ht, a, hb, p⟩ => ⟨ht as fr H1 v1 ok1.hk r1, hb as fr H1 v1 [] ok1.hk r1 .nil Q fun v H' e rv => q v H' a mu1 (g1.trans (.of e)) (ok1.grow e) rv p⟩
theorem ev_bm0 {T : String} {r : V → List V → Hp → VK → Prop} {x : AV} (hx : EV K te S x) (ht : TyR K S.mu T x) (hr : RM K S.mu r x [] a) : EV K (tBM0 K T r te) S a := ew_bm0 (hx.ew ⟨ht, a, hr, rfl, rfl⟩)
/-- methods of texts by the short forms -/
theorem ew_m1 {r : V → List V → Hp → VK → Prop} (h : EW K ta S fun x mu1 => (∃ z, x = .d (.str z)) ∧ EW K tb ⟨S.sl, mu1⟩ fun y mu2 => ∃ a, RM K mu2 r x [y] a ∧ P a mu2) : EW K (tM1 r ta tb) S P := fun Z as0 as fr σ H ok Q q =>
  h Z as0 as fr σ H ok _ fun v1 H1 x mu1 g1 ok1 r1 ⟨⟨z, hz⟩, p1⟩ => ⟨by subst hz; cases r1; exact ⟨z, rfl⟩, p1 Z as0 as fr σ H1 ok1 _ fun v2 H2 y mu2 g2 ok2 r2 ⟨a, hb, p⟩ =>
    hb as fr H2 v1 [v2] ok2.hk (r1.ex g2) (.cons r2 .nil) Q fun v H' e rv => q v H' a mu2 ((g1.trans g2).trans (.of e)) (ok2.grow e) rv p⟩
theorem ev_m1 {r : V → List V → Hp → VK → Prop} {z : Str} {y : AV} (ha : EV K ta S (.d (.str z))) (hb : EV K tb S y) (hr : RM K S.mu r (.d (.str z)) [y] a) : EV K (tM1 r ta tb) S a := ew_m1 (ha.ew ⟨⟨z, rfl⟩, hb.ew ⟨a, hr, rfl, rfl⟩⟩)
/-! slices -/
theorem ow_none {P : Option Int → Mu → Prop} (h : P none S.mu) : OW K tNoPart S P := fun Z as0 as fr σ H ok Q q => q none H S.mu Gr.refl ok h
theorem ow_some {P : Option Int → Mu → Prop} (h : EW K te S fun a mu => ∃ i, a = dI i ∧ P (some i) mu) : OW K (tPart te) S P := fun Z as0 as fr σ H ok Q q =>
  h Z as0 as fr σ H ok _ fun v1 H1 a1 mu1 g1 ok1 r1 ⟨i, e, p⟩ => by
    subst e
    cases r1
    exact ⟨i, rfl, q _ H1 mu1 g1 ok1 p⟩
theorem ov_none : OV K tNoPart S none := ow_none ⟨rfl, rfl⟩
theorem ov_some {i : Int} (h : EV K te S (dI i)) : OV K (tPart te) S (some i) := ow_some (h.ew ⟨i, rfl, rfl, rfl⟩)
def RSl (K : PySem.W.Frag) (mu : Mu) (r : V → Option Int → Option Int → Hp → VK → Prop) (x : AV) (lo hi : Option Int) (a : AV) : Prop := ∀ as fr H v, Hk K as fr mu H → RepV K (off (as ++ fr) H) as v x → ∀ Q : VK, Kv K as fr H a Q → r v lo hi H Q
theorem ew_sl {r : V → Option Int → Option Int → Hp → VK → Prop} {tl th : TO} (h : EW K te S fun x mu1 => OW K tl ⟨S.sl, mu1⟩ fun lo mu2 => OW K th ⟨S.sl, mu2⟩ fun hi mu3 => ∃ a, RSl K mu3 r x lo hi a ∧ P a mu3) : EW K (tSl r te tl th) S P := fun Z as0 as fr σ H ok Q q =>
  h Z as0 as fr σ H ok _ fun v1 H1 x mu1 g1 ok1 r1 p1 => p1 Z as0 as fr σ H1 ok1 _ fun lo H2 mu2 g2 ok2 p2 => p2 Z as0 as fr σ H2 ok2 _ fun hi H3 mu3 g3 ok3 ⟨a, hb, p⟩ =>
    hb as fr H3 v1 ok3.hk ((r1.ex g2).ex g3) Q fun v H' e rv => q v H' a mu3 (((g1.trans g2).trans g3).trans (.of e)) (ok3.grow e) rv p
theorem ev_sl {r : V → Option Int → Option Int → Hp → VK → Prop} {tl th : TO} {x : AV} {lo hi : Option Int} (hx : EV K te S x) (h1 : OV K tl S lo) (h2 : OV K th S hi) (hr : RSl K S.mu r x lo hi a) : EV K (tSl r te tl th) S a := ew_sl (hx.ew (h1.ew (h2.ew ⟨a, hr, rfl, rfl⟩)))
end
end D2
set_option Elab.async false
set_option linter.all false
set_option maxRecDepth 100000
set_option maxHeartbeats 4000000
/-! DL3: what is walked, targets, comprehensions, statements, loops, defs, over data. -/
namespace D2
open PySem L2
section
variable {K : PySem.W.Frag} {Z Z' H H' H1 : Hp} {as0 as fr : List Addr} {S : AS} {σ : L2.St}
theorem Ok.anchor (h : Ok K Z' as0 as fr S σ H) (k : ∀ b o, Z b = some o → Z' b = some o) : Ok K Z as0 as fr S σ H := ⟨h.len, h.sl, h.mu, h.nd, h.ex, h.pre, fun b o e => h.pres b o (k b o e)⟩
theorem Ok.here (h : Ok K Z as0 as fr S σ H) : Ok K (off as H) as0 as fr S σ H := ⟨h.len, h.sl, h.mu, h.nd, h.ex, h.pre, fun b o e => ⟨(off_of e).2, (off_of e).1⟩⟩
theorem Ok.z_le (h : Ok K Z as0 as fr S σ H) : ∀ b o, Z b = some o → off as H b = some o := fun b o e => by
  obtain ⟨h1, h2⟩ := h.pres b o e
  rw [off_at h1]; exact h2
/-- the heap of the one, the slots of the other -/
theorem Ok.shift {sl sl2 : List (Option AV)} {mu mu' : Mu} {σ2 : L2.St} (h : Ok K Z as0 as fr ⟨sl, mu⟩ σ H) (g : Gr as fr H H') (h2 : Ok K Z as0 as fr ⟨sl2, mu'⟩ σ2 H') : Ok K Z as0 as fr ⟨sl, mu'⟩ σ H' :=
  ⟨h.len, fun i av e => let ⟨v, h1, r⟩ := h.sl i av e; ⟨v, h1, r.ex g⟩, h2.mu, h2.nd, h2.ex, h2.pre, h2.pres⟩
def del (p : Addr) (H : Hp) : Hp := fun b => if b = p then none else H b
theorem del_same {p : Addr} {H : Hp} : del p H p = none := by unfold del; rw [if_pos rfl]
theorem del_ne {p b : Addr} {H : Hp} (h : b ≠ p) : del p H b = H b := by unfold del; rw [if_neg h]
theorem upd_del {p : Addr} {H : Hp} {o : HO} (h : H p = some o) : upd (del p H) p o = H := by
  funext b
  by_cases e : b = p
  · subst e; rw [upd_same, h]
  · rw [upd_ne e, del_ne e]
theorem off_del {p : Addr} {H : Hp} : off (as ++ p :: fr) H = off (as ++ fr) (del p H) := by
  funext b
  unfold off del
  by_cases e : b = p
  · subst e; rw [if_pos (by simp)]; by_cases h : b ∈ as ++ fr
    · rw [if_pos h]
    · rw [if_neg h, if_pos rfl]
  · have : b ∈ as ++ p :: fr ↔ b ∈ as ++ fr := by simp [e]
    by_cases h : b ∈ as ++ fr
    · rw [if_pos (this.mpr h), if_pos h]
    · rw [if_neg (fun z => h (this.mp z)), if_neg h, if_neg e]
/-- a thing is set aside: it stands in fr, or it is taken out of the heap -/
theorem Ok.aside {p : Addr} (h : Ok K Z as0 as (p :: fr) S σ H) (hz : Z p = none) : Ok K Z as0 as fr S σ (del p H) := by
  have nd := List.nodup_append.mp h.nd
  have pa : p ∉ as := fun z => nd.2.2 p z p List.mem_cons_self rfl
  have pf : p ∉ fr := (List.nodup_cons.mp nd.2.1).1
  refine ⟨h.len, fun i av e => by rw [← off_del]; exact h.sl i av e, ⟨h.mu.1, fun j q m hj hm => ?_⟩, ?_, fun q hq => ?_, h.pre, fun b o e => ?_⟩
  · rw [← off_del]
    exact (h.mu.2 j q m hj hm).ex (Ex.refl _) (by rw [del_ne]; exact fun z => pa (z ▸ List.mem_of_getElem? hj))
  · exact List.nodup_append.mpr ⟨nd.1, (List.nodup_cons.mp nd.2.1).2, fun a ha b hb => nd.2.2 a ha b (List.mem_cons_of_mem _ hb)⟩
  · have ne : q ≠ p := fun z => by
      subst z
      rcases List.mem_append.mp hq with z | z
      · exact pa z
      · exact pf z
    rw [del_ne ne]
    refine h.ex q ?_
    rcases List.mem_append.mp hq with z | z
    · exact List.mem_append_left _ z
    · exact List.mem_append_right _ (List.mem_cons_of_mem _ z)
  · obtain ⟨h1, h2⟩ := h.pres b o e
    exact ⟨h1, by rw [del_ne (fun z => by subst z; rw [hz] at e; cases e)]; exact h2⟩
/-- a new thing set aside -/
theorem Ok.laid {p : Addr} {o : HO} (h : Ok K Z as0 as fr S σ H) (hp : H p = none) : Ok K Z as0 as (p :: fr) S σ (upd H p o) := by
  have hf := h.fresh hp
  have pa : p ∉ as := fun z => hf (List.mem_append_left _ z)
  have pf : p ∉ fr := fun z => hf (List.mem_append_right _ z)
  have nd := List.nodup_append.mp h.nd
  have e0 : off (as ++ p :: fr) (upd H p o) = off (as ++ fr) H := by
    rw [off_del]
    congr 1
    funext b
    by_cases e : b = p
    · subst e; rw [del_same, hp]
    · rw [del_ne e, upd_ne e]
  refine ⟨h.len, fun i av e => by rw [e0]; exact h.sl i av e, ⟨h.mu.1, fun j q m hj hm => ?_⟩, ?_, fun q hq => ?_, h.pre, fun b u e => ?_⟩
  · rw [e0]
    exact (h.mu.2 j q m hj hm).ex (Ex.refl _) (by rw [upd_ne]; exact fun z => pa (z ▸ List.mem_of_getElem? hj))
  · exact List.nodup_append.mpr ⟨nd.1, List.nodup_cons.mpr ⟨pf, nd.2.1⟩, fun a ha b hb => by
      rcases List.mem_cons.mp hb with e | hb
      · subst e; exact fun z => pa (z ▸ ha)
      · exact nd.2.2 a ha b hb⟩
  · by_cases e : q = p
    · subst e; exact ⟨o, upd_same⟩
    · rw [upd_ne e]
      refine h.ex q ?_
      rcases List.mem_append.mp hq with z | z
      · exact List.mem_append_left _ z
      · rcases List.mem_cons.mp z with z | z
        · exact absurd z e
        · exact List.mem_append_right _ z
  · obtain ⟨h1, h2⟩ := h.pres b u e
    exact ⟨h1, by rw [upd_ne (ne_of_none h2 hp)]; exact h2⟩
theorem Ok.z_none (h : Ok K Z as0 as fr S σ H) {p : Addr} (hp : H p = none) : Z p = none := by
  cases e : Z p with
  | none => rfl
  | some o =>
    have := (h.pres p o e).2
    rw [hp] at this; cases this
theorem Ok.pin {p : Addr} {o : HO} (h : Ok K Z as0 as (p :: fr) S σ H) (hp : H p = some o) : Ok K (upd Z p o) as0 as (p :: fr) S σ H :=
  ⟨h.len, h.sl, h.mu, h.nd, h.ex, h.pre, fun b u e => by
    by_cases hb : b = p
    · subst hb
      rw [upd_same] at e; cases e
      exact ⟨fun z => (List.nodup_append.mp h.nd).2.2 b z b List.mem_cons_self rfl, hp⟩
    · rw [upd_ne hb] at e; exact h.pres b u e⟩
/-- a thing set aside is written -/
theorem Ok.turn {p : Addr} {o : HO} (h : Ok K Z as0 as (p :: fr) S σ H) (hz : Z p = none) : Ok K Z as0 as (p :: fr) S σ (upd H p o) := by
  have h1 := (h.aside hz).laid (p := p) (o := o) del_same
  have e : upd (del p H) p o = upd H p o := by
    funext b
    by_cases e : b = p
    · subst e; rw [upd_same, upd_same]
    · rw [upd_ne e, upd_ne e, del_ne e]
  rw [e] at h1; exact h1
theorem off_turn {p : Addr} {o : HO} : off (as ++ p :: fr) (upd H p o) = off (as ++ p :: fr) H := by
  rw [off_del, off_del]; congr 1; funext b
  by_cases e : b = p
  · subst e; rw [del_same, del_same]
  · rw [del_ne e, del_ne e, upd_ne e]
def wp (sl : List (Option AV)) : List Nat → List (Option AV)
  | [] => sl
  | v :: vs => (wp sl vs).set v none
theorem wp_length {sl : List (Option AV)} : ∀ vs : List Nat, (wp sl vs).length = sl.length
  | [] => rfl
  | v :: vs => by unfold wp; rw [List.length_set, wp_length vs]
theorem Ok.wipe {sl : List (Option AV)} {mu : Mu} (h : Ok K Z as0 as fr ⟨sl, mu⟩ σ H) : ∀ vs : List Nat, Ok K Z as0 as fr ⟨wp sl vs, mu⟩ (wipe σ vs) H
  | [] => h
  | v :: vs => by
    have ih := Ok.wipe h vs
    refine ⟨?_, fun i av e => ?_, ih.mu, ih.nd, ih.ex, ih.pre, ih.pres⟩
    · show ((L2.wipe σ vs).set v none).length = ((wp sl vs).set v none).length
      rw [List.length_set, List.length_set]; exact ih.len
    · have e' : ((wp sl vs).set v none)[i]? = some (some av) := e
      by_cases hi : v = i
      · subst hi
        by_cases hv : v < (wp sl vs).length
        · rw [List.getElem?_set_self hv] at e'; cases e'
        · rw [List.getElem?_eq_none (by simpa using hv)] at e'; cases e'
      · rw [List.getElem?_set_ne hi] at e'
        obtain ⟨u, h1, h2⟩ := ih.sl i av e'
        exact ⟨u, by show ((L2.wipe σ vs).set v none)[i]? = _; rw [List.getElem?_set_ne hi]; exact h1, h2⟩
end
theorem wipe_get {σ : L2.St} {i : Nat} : ∀ {vs : List Nat}, (wipe σ vs)[i]? = if i ∈ vs then (if i < σ.length then some none else none) else σ[i]?
  | [] => by simp [wipe]
  | v :: vs => by
    unfold wipe
    by_cases e : v = i
    · subst e
      rw [if_pos List.mem_cons_self]
      by_cases h : v < σ.length
      · rw [if_pos h, List.getElem?_set_self (by rw [wipe_length]; exact h)]
      · rw [if_neg h, List.getElem?_eq_none (by rw [List.length_set, wipe_length]; omega)]
    · rw [List.getElem?_set_ne e, wipe_get]
      have : i ∈ v :: vs ↔ i ∈ vs := by simp [Ne.symm e]
      by_cases h : i ∈ vs
      · rw [if_pos h, if_pos (this.mpr h)]
      · rw [if_neg h, if_neg (fun z => h (this.mp z))]
theorem wipe_set {σ : L2.St} {j : Nat} {x : Option V} {vs : List Nat} (h : j ∈ vs) : wipe (σ.set j x) vs = wipe σ vs := by
  apply List.ext_getElem?
  intro i
  rw [wipe_get, wipe_get]
  by_cases hi : i ∈ vs
  · rw [if_pos hi, if_pos hi, List.length_set]
  · rw [if_neg hi, if_neg hi, List.getElem?_set_ne (fun e => hi (by rw [← e]; exact h))]
theorem wipe_wipe {σ : L2.St} {vs : List Nat} : wipe (wipe σ vs) vs = wipe σ vs := by
  apply List.ext_getElem?
  intro i
  rw [wipe_get, wipe_get, wipe_length]
  by_cases hi : i ∈ vs
  · rw [if_pos hi, if_pos hi]
  · rw [if_neg hi, if_neg hi]
/-! ### what is walked -/
structure Fd (K : PySem.W.Frag) (J : It) (ds : List PyData) (G : Hp → Prop) : Prop where
  go : ∀ i M H, G (off M H) → i < ds.length → J.go i H
  yld : ∀ i M H x H', G (off M H) → (∀ q ∈ M, ∃ o, H q = some o) → i < ds.length → J.yld i H x H' → ∃ d, ds[i]? = some d ∧ Ex H H' ∧ Dp K (off M H') x d
  stop : ∀ M H, G (off M H) → J.stop ds.length H
  stay : ∀ Hf Hf', G Hf → Ex Hf Hf' → G Hf'
def EIW (K : PySem.W.Frag) (wi : TI) (S : AS) (P : List PyData → Mu → Prop) : Prop := ∀ Z as0 as fr σ H, Ok K Z as0 as fr S σ H → ∀ R : It → Hp → Prop,
  (∀ J H' ds G mu', Gr as fr H H' → Ok K Z as0 as fr ⟨S.sl, mu'⟩ σ H' → Fd K J ds G → G (off (as ++ fr) H') → P ds mu' → R J H') → wi σ H R
def EI (K : PySem.W.Frag) (wi : TI) (S : AS) (ds : List PyData) : Prop := EIW K wi S fun ds' mu' => ds' = ds ∧ mu' = S.mu
section
variable {K : PySem.W.Frag} {S : AS} {ta te : TE} {ds : List PyData}
theorem EIW.mono {wi : TI} {P P' : List PyData → Mu → Prop} (h : EIW K wi S P) (k : ∀ a mu, P a mu → P' a mu) : EIW K wi S P' := fun Z as0 as fr σ H ok R q => h Z as0 as fr σ H ok R fun J H' ds G mu' g ok' f hg p => q J H' ds G mu' g ok' f hg (k ds mu' p)
theorem EI.ew {wi : TI} {P : List PyData → Mu → Prop} (h : EI K wi S ds) (k : P ds S.mu) : EIW K wi S P := h.mono fun _ _ ⟨e1, e2⟩ => by subst e1 e2; exact k
theorem EI.is {wi : TI} {ds' : List PyData} (h : EI K wi S ds) (e : ds = ds') : EI K wi S ds' := e ▸ h
theorem eiw_rng1 {t : TA} {P : List PyData → Mu → Prop} (h : AW K t S fun avs mu => ∃ n : Int, avs = [dI n] ∧ -(2 ^ 62) ≤ n ∧ n < 2 ^ 62 ∧ P ((List.range n.toNat).map fun (k : Nat) => PyData.int (k : Int)) mu) : EIW K (iRng1 t) S P := fun Z as0 as fr σ H ok R q =>
  h Z as0 as fr σ H ok _ fun vs H1 avs mu1 g1 ok1 r1 ⟨n, e, h1, h2, p⟩ => by
    subst e
    cases r1 with
    | cons r1 r2 =>
      cases r2
      cases r1
      refine ⟨n, rfl, h1, h2, q (Itr 0 n.toNat) H1 _ (fun _ => True) mu1 g1 ok1 ⟨fun i M H _ hi => ?_, fun i M H x H' _ _ hi hy => ?_, fun M H _ => ?_, fun _ _ _ _ => trivial⟩ trivial p⟩
      · show i < n.toNat
        rw [List.length_map, List.length_range] at hi; exact hi
      · obtain ⟨e1, e2⟩ := hy
        subst e1; subst e2
        refine ⟨.int (i : Int), ?_, Ex.refl _, ?_⟩
        · have : i < n.toNat := by rw [List.length_map, List.length_range] at hi; exact hi
          rw [List.getElem?_map, List.getElem?_range this]; rfl
        · rw [Int.zero_add]; exact .int _
      · show n.toNat ≤ _
        rw [List.length_map, List.length_range]; exact Nat.le_refl _
theorem ei_rng1 {t : TA} {n : Int} (h : AVs K t S [dI n]) (h1 : -(2 ^ 62) ≤ n := by omega) (h2 : n < 2 ^ 62 := by omega) : EI K (iRng1 t) S ((List.range n.toNat).map fun (k : Nat) => PyData.int (k : Int)) := eiw_rng1 (h.ew ⟨n, rfl, h1, h2, rfl, rfl⟩)
theorem eiw_rng2 {t : TA} {P : List PyData → Mu → Prop} (h : AW K t S fun avs mu => ∃ m n : Int, avs = [dI m, dI n] ∧ (-(2 ^ 62) ≤ m ∧ m < 2 ^ 62 ∧ -(2 ^ 62) ≤ n ∧ n < 2 ^ 62) ∧ P ((List.range (n - m).toNat).map fun (k : Nat) => PyData.int (m + (k : Int))) mu) : EIW K (iRng2 t) S P := fun Z as0 as fr σ H ok R q =>
  h Z as0 as fr σ H ok _ fun vs H1 avs mu1 g1 ok1 r1 ⟨m, n, e, h1, p⟩ => by
    subst e
    cases r1 with
    | cons r1 r2 =>
      cases r2 with
      | cons r2 r3 =>
      cases r3
      cases r1
      cases r2
      refine ⟨m, n, rfl, h1, q (Itr m (n - m).toNat) H1 _ (fun _ => True) mu1 g1 ok1 ⟨fun i M H _ hi => ?_, fun i M H x H' _ _ hi hy => ?_, fun M H _ => ?_, fun _ _ _ _ => trivial⟩ trivial p⟩
      · show i < (n - m).toNat
        rw [List.length_map, List.length_range] at hi; exact hi
      · obtain ⟨e1, e2⟩ := hy
        subst e1; subst e2
        refine ⟨.int (m + i), ?_, Ex.refl _, .int _⟩
        have : i < (n - m).toNat := by rw [List.length_map, List.length_range] at hi; exact hi
        rw [List.getElem?_map, List.getElem?_range this]; rfl
      · show (n - m).toNat ≤ _
        rw [List.length_map, List.length_range]; exact Nat.le_refl _
theorem ei_rng2 {t : TA} {m n : Int} (h : AVs K t S [dI m, dI n]) (hb : -(2 ^ 62) ≤ m ∧ m < 2 ^ 62 ∧ -(2 ^ 62) ≤ n ∧ n < 2 ^ 62 := by omega) : EI K (iRng2 t) S ((List.range (n - m).toNat).map fun (k : Nat) => PyData.int (m + (k : Int))) := eiw_rng2 (h.ew ⟨m, n, rfl, hb, rfl, rfl⟩)
theorem sqL_inj {H : Hp} {a : Addr} {xs ys : List V} (h : H a = some (.lst xs)) (h' : Rd H a (.lst ys)) : xs = ys := by
  rcases h' with z | ⟨o, z⟩
  · rw [h] at z; cases z; rfl
  · rw [h] at z; cases z
theorem eiw_list {P : List PyData → Mu → Prop} (h : EW K te S fun a mu => ∃ ds, a = dL ds ∧ P ds mu) : EIW K (iList K te) S P := fun Z as0 as fr σ H ok R q =>
  h Z as0 as fr σ H ok _ fun v H1 a mu1 g1 ok1 r1 ⟨ds, e, p⟩ => by
    subst e
    cases r1 with
    | lst hs ha =>
      rename_i b vs
      refine ⟨b, rfl, ⟨vs, sqL_ex off_le hs⟩, q (Itl K b) H1 ds (fun Hf => SqL K Hf b vs ∧ DpAll K Hf vs ds) mu1 g1 ok1 ⟨fun i M H hg hi => ?_, fun i M H x H' hg hex hi hy => ?_, fun M H hg => ?_, fun _ _ hg e => ⟨sqL_ex e hg.1, da_ex e hg.2⟩⟩ ⟨hs, ha⟩ p⟩
      · obtain ⟨v, hv, _⟩ := da_get hg.2 (List.getElem?_eq_getElem hi)
        exact ⟨vs, v, sqL_ex off_le hg.1, hv⟩
      · obtain ⟨e1, hy⟩ := hy
        subst e1
        have := hy vs (sqL_ex off_le hg.1)
        obtain ⟨d, hd, r⟩ := da_getV hg.2 this
        exact ⟨d, hd, Ex.refl _, r⟩
      · exact ⟨vs, sqL_ex off_le hg.1, by rw [da_length hg.2]; exact Nat.le_refl _⟩
theorem ei_list (h : EV K te S (dL ds)) : EI K (iList K te) S ds := eiw_list (h.ew ⟨ds, rfl, rfl, rfl⟩)
theorem eiw_tup {P : List PyData → Mu → Prop} (h : EW K te S fun a mu => ∃ ds, a = dT ds ∧ P ds mu) : EIW K (iTup K te) S P := fun Z as0 as fr σ H ok R q =>
  h Z as0 as fr σ H ok _ fun v H1 a mu1 g1 ok1 r1 ⟨ds, e, p⟩ => by
    subst e
    cases r1 with
    | tup hs ha =>
      rename_i b vs
      refine ⟨b, rfl, ⟨vs, sqT_ex off_le hs⟩, q (Itt K b) H1 ds (fun Hf => SqT K Hf b vs ∧ DpAll K Hf vs ds) mu1 g1 ok1 ⟨fun i M H hg hi => ?_, fun i M H x H' hg hex hi hy => ?_, fun M H hg => ?_, fun _ _ hg e => ⟨sqT_ex e hg.1, da_ex e hg.2⟩⟩ ⟨hs, ha⟩ p⟩
      · obtain ⟨v, hv, _⟩ := da_get hg.2 (List.getElem?_eq_getElem hi)
        exact ⟨vs, v, sqT_ex off_le hg.1, hv⟩
      · obtain ⟨e1, hy⟩ := hy
        subst e1
        have := hy vs (sqT_ex off_le hg.1)
        obtain ⟨d, hd, r⟩ := da_getV hg.2 this
        exact ⟨d, hd, Ex.refl _, r⟩
      · exact ⟨vs, sqT_ex off_le hg.1, by rw [da_length hg.2]; exact Nat.le_refl _⟩
theorem ei_tup (h : EV K te S (dT ds)) : EI K (iTup K te) S ds := eiw_tup (h.ew ⟨ds, rfl, rfl, rfl⟩)
theorem eiw_str {P : List PyData → Mu → Prop} (h : EW K te S fun a mu => ∃ l : List Nat, a = dS l ∧ P (l.map fun c => pS [c]) mu) : EIW K (iStr te) S P := fun Z as0 as fr σ H ok R q =>
  h Z as0 as fr σ H ok _ fun v H1 a mu1 g1 ok1 r1 ⟨l, e, p⟩ => by
    subst e
    cases r1
    refine ⟨_, rfl, q (Its _) H1 _ (fun _ => True) mu1 g1 ok1 ⟨fun i M H _ hi => ?_, fun i M H x H' _ _ hi hy => ?_, fun M H _ => ?_, fun _ _ _ _ => trivial⟩ trivial p⟩
    · show i < l.toArray.size
      simpa using hi
    · obtain ⟨e1, c, e2, e3⟩ := hy
      subst e1; subst e3
      refine ⟨pS [c], ?_, Ex.refl _, .str _⟩
      have e2' : l[i]? = some c := by simpa using e2
      rw [List.getElem?_map, e2']; rfl
    · show l.toArray.size ≤ _
      simp
theorem ei_str {l : List Nat} (h : EV K te S (dS l)) : EI K (iStr te) S (l.map fun c => pS [c]) := eiw_str (h.ew ⟨l, rfl, rfl, rfl⟩)
end
/-! ### targets -/
def GW (K : PySem.W.Frag) (g : TG) (js : List Nat) (d : PyData) (S : AS) (P : AS → Prop) : Prop := ∀ Z as0 as fr σ H x, Ok K Z as0 as fr S σ H → Dp K (off (as ++ fr) H) x d → ∀ Q : L2.St → Hp → Prop,
  (∀ S' σ', Ok K Z as0 as fr S' σ' H → (∀ vs : List Nat, (∀ j ∈ js, j ∈ vs) → wipe σ' vs = wipe σ vs) → P S' → Q σ' H) → g x σ H Q
section
variable {K : PySem.W.Frag} {S : AS} {P : AS → Prop} {d d1 d2 d3 : PyData} {i j k : Nat}
theorem gw_name (h : P ⟨S.sl.set j (some (.d d)), S.mu⟩) : GW K (gName j) [j] d S P := fun Z as0 as fr σ H x ok r Q q =>
  q _ _ (ok.store (av := .d d) r) (fun vs hv => wipe_set (hv j List.mem_cons_self)) h
theorem gw_tup2 (h : P ⟨(S.sl.set i (some (.d d1))).set j (some (.d d2)), S.mu⟩) : GW K (gTup K 2 (gCons (gName i) (gCons (gName j) gNil))) [i, j] (.tuple [d1, d2]) S P := fun Z as0 as fr σ H x ok r Q q => by
  cases r with
  | tup hs ha =>
    cases ha with
    | cons r1 ha =>
      cases ha with
      | cons r2 ha =>
        cases ha
        refine ⟨_, _, rfl, sqT_ex off_le hs, rfl, _, _, rfl, _, _, rfl, rfl, ?_⟩
        exact q _ _ ((ok.store (av := .d d1) r1).store (av := .d d2) r2) (fun vs hv => by rw [wipe_set (hv j (by simp)), wipe_set (hv i (by simp))]) h
theorem gw_tup3 (h : P ⟨((S.sl.set i (some (.d d1))).set j (some (.d d2))).set k (some (.d d3)), S.mu⟩) : GW K (gTup K 3 (gCons (gName i) (gCons (gName j) (gCons (gName k) gNil)))) [i, j, k] (.tuple [d1, d2, d3]) S P := fun Z as0 as fr σ H x ok r Q q => by
  cases r with
  | tup hs ha =>
    cases ha with
    | cons r1 ha =>
      cases ha with
      | cons r2 ha =>
        cases ha with
        | cons r3 ha =>
        cases ha
        refine ⟨_, _, rfl, sqT_ex off_le hs, rfl, _, _, rfl, _, _, rfl, _, _, rfl, rfl, ?_⟩
        exact q _ _ (((ok.store (av := .d d1) r1).store (av := .d d2) r2).store (av := .d d3) r3) (fun vs hv => by rw [wipe_set (hv k (by simp)), wipe_set (hv j (by simp)), wipe_set (hv i (by simp))]) h
end
/-! ### new lists -/
def NW (K : PySem.W.Frag) (t : TE) (S : AS) (P : List PyData → Mu → Prop) : Prop := ∀ Z as0 as fr σ H, Ok K Z as0 as fr S σ H → ∀ Q : VK,
  (∀ p H1 vs ds mu', H1 p = none → Gr as fr H H1 → Ok K Z as0 as fr ⟨S.sl, mu'⟩ σ H1 → DpAll K (off (as ++ fr) H1) vs ds → P ds mu' → Q (.ref p) (upd H1 p (.lst vs))) → t σ H Q
section
variable {K : PySem.W.Frag} {S : AS} {ta te : TE} {P : List PyData → Mu → Prop}
theorem NW.mono {P' : List PyData → Mu → Prop} (h : NW K te S P) (k : ∀ a mu, P a mu → P' a mu) : NW K te S P' := fun Z as0 as fr σ H ok Q q => h Z as0 as fr σ H ok Q fun p H1 vs ds mu' h1 g ok' r pp => q p H1 vs ds mu' h1 g ok' r (k _ _ pp)
/-- as data -/
theorem NW.ew {P : AV → Mu → Prop} (h : NW K te S fun ds mu => P (dL ds) mu) : EW K te S P := fun Z as0 as fr σ H ok Q q =>
  h Z as0 as fr σ H ok Q fun p H1 vs ds mu' hp g ok' r pp => q _ _ _ mu' (g.trans (.of (Ex.new hp))) (ok'.grow (Ex.new hp)) (rv_lst (sqL_of (ok'.hk.lay hp)) (da_ex (off_ex (Ex.new hp)) r)) pp
theorem NW.ev {ds : List PyData} (h : NW K te S fun ds' mu => ds' = ds ∧ mu = S.mu) : EV K te S (dL ds) := (h.mono fun _ _ ⟨e1, e2⟩ => ⟨by rw [e1], e2⟩).ew
theorem nw_lst {t : TA} (h : AW K t S fun avs mu => ∃ ds, avs = ds.map AV.d ∧ ds.length ≤ 1000000 ∧ P ds mu) : NW K (tLst t) S P := fun Z as0 as fr σ H ok Q q =>
  h Z as0 as fr σ H ok _ fun vs H1 avs mu1 g1 ok1 r1 ⟨ds, e, hl, p⟩ => by
    subst e
    have ra := r1.all
    exact ⟨sz_of (by rw [da_length ra]; exact hl), fun x hx => q x H1 vs ds mu1 hx g1 ok1 ra p⟩
/-- a comprehension: st i acc mu behind i turns -/
theorem nw_lc {wi : TI} {g : TG} {js vs : List Nat} {tt : TT} (hj : ∀ j ∈ js, j ∈ vs) (hI : EIW K wi S fun ds mu1 => ds.length ≤ 1000000 ∧ ∃ st : Nat → List PyData → Mu → Prop, st 0 [] mu1 ∧
      (∀ i d acc mu, ds[i]? = some d → st i acc mu → GW K g js d ⟨wp S.sl vs, mu⟩ fun S2 => TW K tt S2 fun b mu2 => if b = true then EW K te ⟨S2.sl, mu2⟩ fun a mu3 => ∃ e, a = .d e ∧ st (i + 1) (acc ++ [e]) mu3 else st (i + 1) acc mu2) ∧
      ∀ acc mu, st ds.length acc mu → P acc mu) : NW K (tLc wi g tt te vs) S P := fun Z as0 as fr σ H ok Q q =>
  hI Z as0 as fr σ H ok _ fun J H1 ds G mu1 g1 ok1 F hG ⟨hl, st, s0, sT, sE⟩ => fun Dl hD => by
    have hz := ok1.z_none hD
    have ok2 := ok1.laid (o := .lst []) hD
    have hG2 : G (off (as ++ Dl :: fr) (upd H1 Dl (.lst []))) := F.stay _ _ hG (fun b o e => by
      rw [off_del]
      obtain ⟨e1, e2⟩ := off_of e
      have : b ≠ Dl := ne_of_none e1 hD
      rw [off_at e2, del_ne this, upd_ne this]; exact e1)
    have g2 : Gr as fr H (del Dl (upd H1 Dl (.lst []))) := g1.trans (fun b o e => by
      obtain ⟨e1, e2⟩ := off_of e
      have : b ≠ Dl := ne_of_none e1 hD
      rw [off_at e2, del_ne this, upd_ne this]; exact e1)
    refine ⟨fun i m H' => m = ds.length - i ∧ i ≤ ds.length ∧ ∃ vs' acc mu, H' Dl = some (.lst vs') ∧ Ok K Z as0 as (Dl :: fr) ⟨S.sl, mu⟩ σ H' ∧ DpAll K (off (as ++ Dl :: fr) H') vs' acc ∧ acc.length ≤ i ∧ st i acc mu ∧ G (off (as ++ Dl :: fr) H') ∧ Gr as fr H (del Dl H'),
      ⟨ds.length, by simp, Nat.zero_le _, [], [], mu1, upd_same, ok2, .nil, Nat.zero_le _, s0, hG2, g2⟩, ?_⟩
    rintro i m H' ⟨rfl, hi, vs', acc, mu, hDl, ok', ra, hal, hst, hg, gr⟩
    by_cases hlt : i < ds.length
    · refine .inr ⟨F.go i _ H' hg hlt, fun H'' => i + 1 ≤ ds.length ∧ ∃ vs' acc mu, H'' Dl = some (.lst vs') ∧ Ok K Z as0 as (Dl :: fr) ⟨S.sl, mu⟩ σ H'' ∧ DpAll K (off (as ++ Dl :: fr) H'') vs' acc ∧ acc.length ≤ i + 1 ∧ st (i + 1) acc mu ∧ G (off (as ++ Dl :: fr) H'') ∧ Gr as fr H (del Dl H''),
        fun H'' h => ⟨ds.length - (i + 1), by omega, rfl, h.1, h.2⟩, fun x H2 hy => ?_⟩
      obtain ⟨d, hd, e2, rx⟩ := F.yld i (as ++ Dl :: fr) H' x H2 hg ok'.ex hlt hy
      have okx := ok'.grow e2
      have h2D : H2 Dl = some (.lst vs') := e2 _ _ hDl
      have zle : ∀ b o, Z b = some o → upd Z Dl (.lst vs') b = some o := fun b o e => by
        rw [upd_ne (fun z => by subst z; rw [hz] at e; cases e)]; exact e
      have hT := sT i d acc mu hd hst (upd Z Dl (.lst vs')) as0 as (Dl :: fr) (wipe σ vs) H2 x (Ok.wipe (okx.pin h2D) vs) rx
      have gD : ∀ {Ha Hb : Hp}, Gr as (Dl :: fr) Ha Hb → Gr as fr (del Dl Ha) (del Dl Hb) := fun g => by
        unfold Gr at g ⊢; rw [off_del, off_del] at g; exact g
      have dU : ∀ (Ha : Hp) (o : HO), del Dl (upd Ha Dl o) = del Dl Ha := fun Ha o => by
        funext b
        by_cases e : b = Dl
        · subst e; rw [del_same, del_same]
        · rw [del_ne e, del_ne e, upd_ne e]
      refine hT _ fun S2 σ2 okS hwp pS2 => ⟨by rw [hwp vs hj, wipe_wipe], ?_⟩
      refine pS2 _ as0 as (Dl :: fr) σ2 H2 okS _ fun b H3 mu2 g3 ok3 pb => ?_
      cases b with
      | true =>
        rw [if_pos rfl] at pb ⊢
        refine pb _ as0 as (Dl :: fr) σ2 H3 ok3 _ fun y H4 a mu3 g4 ok4 r4 ⟨e, ea, ps⟩ => ?_
        subst ea
        have h4D : H4 Dl = some (.lst vs') := (ok4.pres Dl _ upd_same).2
        have gr24 : Gr as (Dl :: fr) H2 H4 := g3.trans g4
        have okS4 : Ok K Z as0 as (Dl :: fr) ⟨S.sl, mu3⟩ σ H4 := okx.shift gr24 (ok4.anchor zle)
        have gr'4 : Gr as (Dl :: fr) H' H4 := (Gr.of e2).trans gr24
        refine ⟨vs', h4D, sz_lt (by rw [da_length ra]; omega), hlt, vs' ++ [y], acc ++ [e], mu3, upd_same, okS4.turn hz, ?_, by simp; omega, ps, ?_, ?_⟩
        · rw [off_turn]; exact da_append (da_ex gr'4 ra) (.cons r4 .nil)
        · rw [off_turn]; exact F.stay _ _ hg gr'4
        · rw [dU]; exact gr.trans (gD gr'4)
      | false =>
        rw [if_neg Bool.false_ne_true] at pb ⊢
        have h4D : H3 Dl = some (.lst vs') := (ok3.pres Dl _ upd_same).2
        have okS4 : Ok K Z as0 as (Dl :: fr) ⟨S.sl, mu2⟩ σ H3 := okx.shift g3 (ok3.anchor zle)
        have gr'4 : Gr as (Dl :: fr) H' H3 := (Gr.of e2).trans g3
        exact ⟨hlt, vs', acc, mu2, h4D, okS4, da_ex gr'4 ra, by omega, pb, F.stay _ _ hg gr'4, gr.trans (gD gr'4)⟩
    · have e : i = ds.length := by omega
      subst e
      refine .inl ⟨F.stop _ _ hg, ?_⟩
      have := q Dl (del Dl H') vs' acc mu del_same gr (ok'.aside hz) (by rw [← off_del]; exact ra) (sE acc mu hst)
      rw [upd_del hDl] at this
      exact this
end
end D2
set_option Elab.async false
set_option linter.all false
set_option maxRecDepth 100000
set_option maxHeartbeats 4000000
/-! DL4: statements, loops, promises, over data. -/
namespace D2
open PySem L2
/-- what is wanted behind a statement; n0: so many things of our own were the caller's -/
structure AE where
  n0 : Nat
  nx : AS → Prop
  rt : PyData → Mu → Prop
  rn : List PyData → Mu → Prop := fun _ _ => False
  bk : AS → Prop := fun _ => False
  ct : AS → Prop := fun _ => False
structure Imp (K : PySem.W.Frag) (Z : Hp) (as0 fr : List Addr) (A : AE) (D : Ends) : Prop where
  n0 : as0.length = A.n0
  nx : ∀ S' σ' H' as', Ok K Z as0 as' fr S' σ' H' → A.nx S' → D.nx σ' H'
  bk : ∀ S' σ' H' as', Ok K Z as0 as' fr S' σ' H' → A.bk S' → D.bk σ' H'
  ct : ∀ S' σ' H' as', Ok K Z as0 as' fr S' σ' H' → A.ct S' → D.ct σ' H'
  rt : ∀ v d mu' H', Dp K (off (as0 ++ fr) H') v d → MuOk K (off (as0 ++ fr) H') H' as0 mu' → (∀ b o, Z b = some o → H' b = some o) → A.rt d mu' → D.rt v H'
  rn : ∀ p vs ds mu' H1, H1 p = none → DpAll K (off (as0 ++ fr) H1) vs ds → MuOk K (off (as0 ++ fr) H1) H1 as0 mu' → (∀ b o, Z b = some o → H1 b = some o) → A.rn ds mu' → D.rt (.ref p) (upd H1 p (.lst vs))
def SW (K : PySem.W.Frag) (t : TS) (S : AS) (A : AE) : Prop := ∀ Z as0 as fr σ H D, Ok K Z as0 as fr S σ H → Imp K Z as0 fr A D → t D σ H
/-- S knows no more than S' -/
inductive LeS : List (Option AV) → List (Option AV) → Prop
  | nil : LeS [] []
  | skip {a : Option AV} {xs ys : List (Option AV)} : LeS xs ys → LeS (none :: xs) (a :: ys)
  | same {a : Option AV} {xs ys : List (Option AV)} : LeS xs ys → LeS (a :: xs) (a :: ys)
theorem LeS.len : ∀ {xs ys : List (Option AV)}, LeS xs ys → xs.length = ys.length
  | _, _, .nil => rfl
  | _, _, .skip h => by simp [LeS.len h]
  | _, _, .same h => by simp [LeS.len h]
theorem LeS.get : ∀ {xs ys : List (Option AV)}, LeS xs ys → ∀ (i : Nat) a, xs[i]? = some (some a) → ys[i]? = some (some a)
  | _, _, .nil, _, _, h => by simp at h
  | _, _, .skip h, 0, _, e => by simp at e
  | _, _, .skip h, i + 1, a, e => by simp at e ⊢; exact LeS.get h i a e
  | _, _, .same h, 0, _, e => by simpa using e
  | _, _, .same h, i + 1, a, e => by simp at e ⊢; exact LeS.get h i a e
theorem LeS.refl : ∀ xs : List (Option AV), LeS xs xs
  | [] => .nil
  | _ :: xs => .same (LeS.refl xs)
/-- S' is S or knows more -/
def Le (S S' : AS) : Prop := LeS S.sl S'.sl ∧ S.mu = S'.mu
theorem Le.refl (S : AS) : Le S S := ⟨LeS.refl _, rfl⟩
theorem Ok.le {K : PySem.W.Frag} {Z H : Hp} {as0 as fr : List Addr} {S S' : AS} {σ : L2.St} (h : Ok K Z as0 as fr S' σ H) (l : Le S S') : Ok K Z as0 as fr S σ H := h.weak l.1.len l.1.get l.2
section
variable {K : PySem.W.Frag} {S : AS} {ta te tb : TE} {t u : TS} {tt : TT} {A : AE} {a : AV}
theorem sw_le {S' : AS} (h : SW K t S A) (l : Le S S') : SW K t S' A := fun Z as0 as fr σ H D ok im => h Z as0 as fr σ H D (ok.le l) im
theorem sw_next (h : A.nx S) : SW K tNext S A := fun Z as0 as fr σ H D ok im => im.nx S σ H as ok h
theorem sw_seq (h : SW K t S { A with nx := fun S' => SW K u S' A }) : SW K (tSeq t u) S A := fun Z as0 as fr σ H D ok im =>
  h Z as0 as fr σ H _ ok ⟨im.n0, fun S' σ' H' as' ok' k => k Z as0 as' fr σ' H' D ok' im, im.bk, im.ct, im.rt, im.rn⟩
theorem sw_asg {i : Nat} (h : EW K te S fun a mu => A.nx ⟨S.sl.set i (some a), mu⟩) : SW K (tAsg te (gName i)) S A := fun Z as0 as fr σ H D ok im =>
  h Z as0 as fr σ H ok _ fun v H1 a mu1 g ok1 r p => im.nx _ _ _ _ (ok1.store r) p
theorem sw_asgE {i : Nat} (h : EV K te S a) (k : A.nx ⟨S.sl.set i (some a), S.mu⟩) : SW K (tAsg te (gName i)) S A := sw_asg (h.ew k)
/-- a new list becomes our own -/
theorem sw_asgN {i : Nat} (h : NW K te S fun ds mu => A.nx ⟨S.sl.set i (some (.o mu.length)), mu ++ [.l ds]⟩) : SW K (tAsg te (gName i)) S A := fun Z as0 as fr σ H D ok im =>
  h Z as0 as fr σ H ok _ fun p H1 vs ds mu1 hp g ok1 r k => by
    have ok2 := ok1.own (o := .lst vs) (m := .l ds) hp ⟨vs, upd_same, r⟩
    refine im.nx _ _ _ _ (ok2.store (i := i) (v := .ref p) (av := .o mu1.length) ⟨p, ?_, rfl⟩) k
    have : as.length = mu1.length := ok1.mu.1
    rw [← this, List.getElem?_append_right (Nat.le_refl _), Nat.sub_self]; rfl
/-- unpacking -/
theorem sw_asgG {g : TG} {js : List Nat} (h : EW K te S fun a mu => ∃ d, a = .d d ∧ GW K g js d ⟨S.sl, mu⟩ A.nx) : SW K (tAsg te g) S A := fun Z as0 as fr σ H D ok im =>
  h Z as0 as fr σ H ok _ fun v H1 a mu1 g ok1 r ⟨d, e, p⟩ => by
    subst e
    exact p Z as0 as fr σ H1 v ok1 r _ fun S' σ' ok' _ k => im.nx _ _ _ _ ok' k
theorem sw_par {i j : Nat} {t : TA} (h : AW K t S fun avs mu => ∃ a b, avs = [a, b] ∧ A.nx ⟨(S.sl.set i (some a)).set j (some b), mu⟩) : SW K (tPar i j t) S A := fun Z as0 as fr σ H D ok im =>
  h Z as0 as fr σ H ok _ fun vs H1 avs mu1 g ok1 r ⟨a, b, e, k⟩ => by
    subst e
    cases r with
    | cons r1 r =>
      cases r with
      | cons r2 r =>
        cases r
        exact ⟨_, _, rfl, im.nx _ _ _ _ ((ok1.store r1).store r2) k⟩
theorem sw_drop (h : EW K te S fun _ mu => A.nx ⟨S.sl, mu⟩) : SW K (tDrop te) S A := fun Z as0 as fr σ H D ok im =>
  h Z as0 as fr σ H ok _ fun v H1 a mu1 g ok1 r p => im.nx _ _ _ _ ok1 p
theorem sw_if (h : TW K tt S fun b mu => if b = true then SW K t ⟨S.sl, mu⟩ A else SW K u ⟨S.sl, mu⟩ A) : SW K (tIfS tt t u) S A := fun Z as0 as fr σ H D ok im =>
  h Z as0 as fr σ H ok _ fun b H1 mu1 g ok1 p => by
    cases b with
    | true => rw [if_pos rfl] at p ⊢; exact p Z as0 as fr σ H1 D ok1 im
    | false => rw [if_neg Bool.false_ne_true] at p ⊢; exact p Z as0 as fr σ H1 D ok1 im
theorem sw_ifE {b : Bool} (h : TV K tt S b) (h1 : b = true → SW K t S A) (h2 : b = false → SW K u S A) : SW K (tIfS tt t u) S A := sw_if (h.ew (by
  cases b with
  | true => rw [if_pos rfl]; exact h1 rfl
  | false => rw [if_neg Bool.false_ne_true]; exact h2 rfl))
theorem mu_take {Hf H : Hp} {as as0 more : List Addr} {mu : Mu} (h : MuOk K Hf H as mu) (e : as = as0 ++ more) : MuOk K Hf H as0 (mu.take as0.length) := by
  subst e
  refine ⟨by have := h.1; simp at this ⊢; omega, fun j p m hj hm => h.2 j p m ?_ ?_⟩
  · rw [List.getElem?_append_left (List.getElem?_eq_some_iff.mp hj).1]; exact hj
  · have := (List.getElem?_eq_some_iff.mp hj).1
    rw [List.getElem?_take_of_lt this] at hm; exact hm
theorem MuOk.ex {Hf Hf' H : Hp} {as : List Addr} {mu : Mu} (h : MuOk K Hf H as mu) (e : Ex Hf Hf') : MuOk K Hf' H as mu := ⟨h.1, fun j p m hj hm => (h.2 j p m hj hm).ex e rfl⟩
theorem sw_ret (h : EW K te S fun a mu => ∃ d, a = .d d ∧ A.rt d (mu.take A.n0)) : SW K (tRet te) S A := fun Z as0 as fr σ H D ok im =>
  h Z as0 as fr σ H ok _ fun v H1 a mu1 g ok1 r ⟨d, e, p⟩ => by
    subst e
    obtain ⟨more, hm⟩ := ok1.pre
    have eo : Ex (off (as ++ fr) H1) (off (as0 ++ fr) H1) := off_mono fun b hb => by
      rcases List.mem_append.mp hb with z | z
      · exact List.mem_append_left _ (by rw [hm]; exact List.mem_append_left _ z)
      · exact List.mem_append_right _ z
    exact im.rt v d _ H1 (dp_ex eo r) ((mu_take ok1.mu hm).ex eo) (fun b o e => (ok1.pres b o e).2) (by rw [im.n0]; exact p)
theorem sw_retE {d : PyData} (h : EV K te S (.d d)) (k : A.rt d (S.mu.take A.n0)) : SW K (tRet te) S A := sw_ret (h.ew ⟨d, rfl, k⟩)
theorem sw_retN (k : A.rt .none (S.mu.take A.n0)) : SW K tRetN S A := fun Z as0 as fr σ H D ok im =>
  sw_retE (te := tC .non) ev_non k Z as0 as fr σ H D ok im
theorem sw_retNew (h : NW K te S fun ds mu => A.rn ds (mu.take A.n0)) : SW K (tRet te) S A := fun Z as0 as fr σ H D ok im =>
  h Z as0 as fr σ H ok _ fun p H1 vs ds mu1 hp g ok1 r k => by
    obtain ⟨more, hm⟩ := ok1.pre
    have eo : Ex (off (as ++ fr) H1) (off (as0 ++ fr) H1) := off_mono fun b hb => by
      rcases List.mem_append.mp hb with z | z
      · exact List.mem_append_left _ (by rw [hm]; exact List.mem_append_left _ z)
      · exact List.mem_append_right _ z
    exact im.rn p vs ds _ H1 hp (da_ex eo r) ((mu_take ok1.mu hm).ex eo) (fun b o e => (ok1.pres b o e).2) (by rw [im.n0]; exact k)
theorem sw_break (h : A.bk S) : SW K tBreak S A := fun Z as0 as fr σ H D ok im => im.bk _ _ _ _ ok h
theorem sw_cont (h : A.ct S) : SW K tCont S A := fun Z as0 as fr σ H D ok im => im.ct _ _ _ _ ok h
/-- x op= e -/
theorem sw_aug {i : Nat} {ti : TIp} {a1 : AV} (hx : S.sl[i]? = some (some a1)) (h : EW K te S fun a2 mu => ∃ a, RB K mu ti a1 a2 a ∧ A.nx ⟨S.sl.set i (some a), mu⟩) : SW K (tAug i te ti) S A := fun Z as0 as fr σ H D ok im => by
  obtain ⟨x, h1, r1⟩ := ok.sl i _ hx
  refine ⟨x, h1, h Z as0 as fr σ H ok _ fun v H1 a2 mu1 g ok1 r ⟨a, hb, k⟩ => ?_⟩
  exact hb as fr H1 x v ok1.hk (r1.ex g) r _ fun z H2 e rz => im.nx _ _ _ _ ((ok1.grow e).store rz) k
theorem own_ty {as fr : List Addr} {mu : Mu} {H : Hp} {j : Nat} {p : Addr} {xs : List PyData} (h : MuOk K (off (as ++ fr) H) H as mu) (hp : as[j]? = some p) (hm : mu[j]? = some (.l xs)) : tyV K "list" (.ref p) H := by
  obtain ⟨vs, hv, _⟩ := h.2 j p _ hp hm
  exact .inl ⟨rfl, vs, .inl (.inl hv)⟩
/-- xs.append(e), xs our own -/
theorem sw_app {i j : Nat} {xs0 : List PyData} (hi : S.sl[i]? = some (some (.o j))) (hj : S.mu[j]? = some (.l xs0)) (h : EW K te S fun a mu => ∃ d xs, a = .d d ∧ mu[j]? = some (.l xs) ∧ xs.length < 1000000 ∧ A.nx ⟨S.sl, mu.set j (.l (xs ++ [d]))⟩) :
    SW K (tDrop (tBM K "list" rAppend (tVar i) (tCons te tNil))) S A := fun Z as0 as fr σ H D ok im => by
  obtain ⟨v, h1, p, hp, e⟩ := ok.sl i _ hi
  subst e
  refine ⟨.ref p, h1, own_ty ok.mu hp hj, ?_⟩
  · refine h Z as0 as fr σ H ok _ fun v H1 a mu1 g ok1 r ⟨d, xs, e, hm, hz, k⟩ => ?_
    subst e
    obtain ⟨vs, hv, ra⟩ := ok1.mu.2 j p _ hp hm
    exact ⟨p, vs, v, rfl, rfl, hv, sz_lt (by rw [da_length ra]; exact hz), im.nx _ _ _ _ (ok1.put (m := .l (xs ++ [d])) hp ⟨vs ++ [v], upd_same, da_append ra (.cons r .nil)⟩) k⟩
theorem ixN_nat {n j : Nat} (hj : j < n) : ixN n (j : Int) = some j := by
  unfold ixN
  rw [if_pos (by omega), if_pos (by omega)]
  simp
/-- xs[k] = e, xs our own -/
theorem sw_setL {i j : Nat} (hi : S.sl[i]? = some (some (.o j))) (h : EW K te S fun a mu1 => EW K tb ⟨S.sl, mu1⟩ fun b mu2 => ∃ (d : PyData) (xs : List PyData) (k : Nat), a = .d d ∧ b = dI k ∧ mu2[j]? = some (.l xs) ∧ k < xs.length ∧ A.nx ⟨S.sl, mu2.set j (.l (xs.set k d))⟩) :
    SW K (tAsg te (gSub (tVar i) tb rSetL)) S A := fun Z as0 as fr σ H D ok im =>
  h Z as0 as fr σ H ok _ fun v H1 a mu1 g1 ok1 r1 p1 => by
    obtain ⟨w, h1, p, hp, e⟩ := ok1.sl i _ hi
    subst e
    refine ⟨.ref p, h1, p1 Z as0 as fr σ H1 ok1 _ fun v2 H2 b mu2 g2 ok2 r2 ⟨d, xs, k, e1, e2, hm, hk, q⟩ => ?_⟩
    subst e1; subst e2
    cases r2
    obtain ⟨vs, hv, ra⟩ := ok2.mu.2 j p _ hp hm
    refine ⟨p, vs, (k : Int), k, rfl, rfl, hv, ixN_nat (by rw [da_length ra]; exact hk), im.nx _ _ _ _ (ok2.put (m := .l (xs.set k d)) hp ⟨vs.set k v, upd_same, da_set k (r1.ex g2) ra⟩) q⟩
/-! freezing: a thing of our own is data from here on -/
def frzA (j : Nat) (ds : List PyData) : Option AV → Option AV
  | some (.o k) => if k = j then some (.d (.list ds)) else if j < k then some (.o (k - 1)) else some (.o k)
  | x => x
theorem sw_frz {j : Nat} {ds : List PyData} (hm : S.mu[j]? = some (.l ds)) (hj : A.n0 ≤ j) (h : SW K t ⟨S.sl.map (frzA j ds), S.mu.eraseIdx j⟩ A) : SW K t S A := fun Z as0 as fr σ H D ok im => by
  refine h Z as0 (as.eraseIdx j) fr σ H D ?_ im
  have hjl : j < as.length := by rw [ok.mu.1]; exact (List.getElem?_eq_some_iff.mp hm).1
  obtain ⟨p, hp⟩ : ∃ p, as[j]? = some p := ⟨_, List.getElem?_eq_getElem hjl⟩
  have sub : ∀ b ∈ as.eraseIdx j ++ fr, b ∈ as ++ fr := fun b hb => by
    rcases List.mem_append.mp hb with z | z
    · exact List.mem_append_left _ (List.mem_of_mem_eraseIdx z)
    · exact List.mem_append_right _ z
  have eo : Ex (off (as ++ fr) H) (off (as.eraseIdx j ++ fr) H) := off_mono sub
  have nd := List.nodup_append.mp ok.nd
  have pne : p ∉ as.eraseIdx j ++ fr := fun z => by
    rcases List.mem_append.mp z with z | z
    · obtain ⟨i, hne, hi⟩ := List.mem_eraseIdx_iff_getElem?.mp z
      obtain ⟨h1, e1⟩ := List.getElem?_eq_some_iff.mp hi
      obtain ⟨h2, e2⟩ := List.getElem?_eq_some_iff.mp hp
      exact hne ((List.getElem_inj nd.1).mp (e1.trans e2.symm))
    · exact nd.2.2 p (List.mem_of_getElem? hp) p z rfl
  obtain ⟨vs, hv, ra⟩ := ok.mu.2 j p _ hp hm
  have ge : ∀ (i : Nat), (as.eraseIdx j)[i]? = if i < j then as[i]? else as[i + 1]? := fun i => List.getElem?_eraseIdx
  refine ⟨by rw [List.length_map]; exact ok.len, fun i av e => ?_, ⟨?_, fun i q m hi hm' => ?_⟩, ?_, fun q hq => ok.ex q (sub q hq), ?_, fun b o e => ?_⟩
  · have e' : (S.sl.map (frzA j ds))[i]? = some (some av) := e
    rw [List.getElem?_map] at e'
    obtain ⟨x, hx, ex⟩ : ∃ x, S.sl[i]? = some x ∧ frzA j ds x = some av := by
      cases hs : S.sl[i]? with
      | none => rw [hs] at e'; cases e'
      | some x => rw [hs] at e'; exact ⟨x, rfl, Option.some.inj e'⟩
    cases x with
    | none => cases ex
    | some a =>
      obtain ⟨v, h1, h2⟩ := ok.sl i a hx
      cases a with
      | d x => cases ex; exact ⟨v, h1, h2.ex eo⟩
      | o k =>
        obtain ⟨q, hq, e2⟩ := h2
        subst e2
        refine ⟨.ref q, h1, ?_⟩
        unfold frzA at ex
        by_cases c : k = j
        · simp only [c, if_true] at ex
          cases ex
          subst c
          rw [hp] at hq; cases hq
          exact .lst (sqL_of (by rw [off_at pne]; exact hv)) (da_ex eo ra)
        · simp only [c, if_false] at ex
          by_cases c2 : j < k
          · simp only [c2, if_true] at ex
            cases ex
            refine ⟨q, ?_, rfl⟩
            rw [ge, if_neg (by omega)]
            rw [show k - 1 + 1 = k by omega]; exact hq
          · simp only [c2, if_false] at ex
            cases ex
            refine ⟨q, ?_, rfl⟩
            rw [ge, if_pos (by omega)]; exact hq
  · show (as.eraseIdx j).length = (S.mu.eraseIdx j).length
    rw [List.length_eraseIdx, List.length_eraseIdx, ok.mu.1]
  · have hm'' : (S.mu.eraseIdx j)[i]? = some m := hm'
    rw [List.getElem?_eraseIdx] at hm''
    rw [ge] at hi
    by_cases c : i < j
    · rw [if_pos c] at hi hm''
      exact (ok.mu.2 i q m hi hm'').ex eo rfl
    · rw [if_neg c] at hi hm''
      exact (ok.mu.2 (i + 1) q m hi hm'').ex eo rfl
  · refine List.nodup_append.mpr ⟨nd.1.sublist (List.eraseIdx_sublist _ _), nd.2.1, fun a ha b hb => nd.2.2 a (List.mem_of_mem_eraseIdx ha) b hb⟩
  · obtain ⟨more, e⟩ := ok.pre
    refine ⟨more.eraseIdx (j - as0.length), ?_⟩
    rw [e, List.eraseIdx_append_of_length_le (by rw [im.n0]; exact hj)]
  · obtain ⟨h1, h2⟩ := ok.pres b o e
    exact ⟨fun z => h1 (List.mem_of_mem_eraseIdx z), h2⟩
/-! ### loops -/
theorem sw_for {wi : TI} {g : TG} {js : List Nat} (hI : EIW K wi S fun ds mu1 => ∃ st : Nat → AS → Prop, st 0 ⟨S.sl, mu1⟩ ∧
      (∀ i d S', ds[i]? = some d → st i S' → GW K g js d S' fun S2 => SW K t S2 { A with nx := st (i + 1), ct := st (i + 1), bk := A.nx }) ∧ ∀ S', st ds.length S' → A.nx S') : SW K (tFor wi g t) S A := fun Z as0 as fr σ H D ok im =>
  hI Z as0 as fr σ H ok _ fun J H1 ds G mu1 g1 ok1 F hG ⟨st, s0, sT, sE⟩ => by
    have zle := ok1.z_le
    have imZ : Imp K (off as H1) as0 fr A D := ⟨im.n0, fun S' σ' H' as' h => im.nx S' σ' H' as' (h.anchor zle), fun S' σ' H' as' h => im.bk S' σ' H' as' (h.anchor zle), fun S' σ' H' as' h => im.ct S' σ' H' as' (h.anchor zle),
      fun v d mu' H' h1 h2 h3 => im.rt v d mu' H' h1 h2 fun b o e => h3 b o (zle b o e), fun p vs ds mu' H' h0 h1 h2 h3 => im.rn p vs ds mu' H' h0 h1 h2 fun b o e => h3 b o (zle b o e)⟩
    have gk : ∀ {as' : List Addr} {S' : AS} {σ' : L2.St} {H' : Hp}, Ok K (off as H1) as0 as' fr S' σ' H' → G (off (as' ++ fr) H') := fun {as' S' σ' H'} h => F.stay _ _ hG fun b o e => by
      obtain ⟨e1, e2⟩ := off_of e
      obtain ⟨h1, h2⟩ := h.pres b o (by rw [off_at fun z => e2 (List.mem_append_left _ z)]; exact e1)
      rw [off_at fun z => ?_]
      · exact h2
      · rcases List.mem_append.mp z with z | z
        · exact h1 z
        · exact e2 (List.mem_append_right _ z)
    refine ⟨fun i m σ' H' => m = ds.length - i ∧ i ≤ ds.length ∧ ∃ S' as', Ok K (off as H1) as0 as' fr S' σ' H' ∧ st i S', ⟨ds.length, by simp, Nat.zero_le _, _, as, ok1.here, s0⟩, ?_⟩
    rintro i m σ' H' ⟨rfl, hi, S', as', ok', hs⟩
    by_cases hlt : i < ds.length
    · refine .inr ⟨F.go i _ H' (gk ok') hlt, fun σ2 H2 => i + 1 ≤ ds.length ∧ ∃ S' as', Ok K (off as H1) as0 as' fr S' σ2 H2 ∧ st (i + 1) S', fun σ2 H2 h => ⟨ds.length - (i + 1), by omega, rfl, h⟩, fun x H2 hy => ?_⟩
      obtain ⟨d, hd, e2, rx⟩ := F.yld i _ H' x H2 (gk ok') ok'.ex hlt hy
      refine sT i d S' hd hs _ as0 as' fr σ' H2 x (ok'.grow e2) rx _ fun S2 σ2 okS _ body => ?_
      refine body _ as0 as' fr σ2 H2 _ okS ⟨im.n0, fun S3 σ3 H3 as3 h k => ⟨hlt, S3, as3, h, k⟩, fun S3 σ3 H3 as3 h k => imZ.nx _ _ _ _ h k, fun S3 σ3 H3 as3 h k => ⟨hlt, S3, as3, h, k⟩, imZ.rt, imZ.rn⟩
    · have e : i = ds.length := by omega
      subst e
      exact .inl ⟨F.stop _ _ (gk ok'), imZ.nx _ _ _ _ ok' (sE _ hs)⟩
theorem sw_while (W : Nat → AS → Prop) (h0 : ∃ m, W m S) (hs : ∀ m S', W m S' → TW K tt S' fun b mu => if b = true then SW K t ⟨S'.sl, mu⟩ { A with nx := fun S2 => ∃ m', m' < m ∧ W m' S2, ct := fun S2 => ∃ m', m' < m ∧ W m' S2, bk := A.nx } else A.nx ⟨S'.sl, mu⟩) : SW K (tWhile tt t) S A := fun Z as0 as fr σ H D ok im => by
  obtain ⟨m0, w0⟩ := h0
  refine ⟨fun m σ' H' => ∃ S' as', Ok K Z as0 as' fr S' σ' H' ∧ W m S', ⟨m0, S, as, ok, w0⟩, ?_⟩
  rintro m σ' H' ⟨S', as', ok', w⟩
  refine hs m S' w Z as0 as' fr σ' H' ok' _ fun b H1 mu1 g ok1 p => ?_
  cases b with
  | true =>
    rw [if_pos rfl] at p ⊢
    refine ⟨fun σ2 H2 => ∃ m', m' < m ∧ ∃ S' as', Ok K Z as0 as' fr S' σ2 H2 ∧ W m' S', fun σ2 H2 h => h, ?_⟩
    exact p Z as0 as' fr σ' H1 _ ok1 ⟨im.n0, fun S3 σ3 H3 as3 h ⟨m', k1, k2⟩ => ⟨m', k1, S3, as3, h, k2⟩, fun S3 σ3 H3 as3 h k => im.nx _ _ _ _ h k, fun S3 σ3 H3 as3 h ⟨m', k1, k2⟩ => ⟨m', k1, S3, as3, h, k2⟩, im.rt, im.rn⟩
  | false =>
    rw [if_neg Bool.false_ne_true] at p ⊢
    exact im.nx _ _ _ _ ok1 p
/-! ### promises -/
/-- a pure def: R tells the answer to the arguments -/
def spP (K : PySem.W.Frag) (R : List PyData → PyData → Prop) : Sp := fun vs H Q _ => ∃ (fr : List Addr) (ds : List PyData) (r : PyData), fr.Nodup ∧ (∀ q ∈ fr, ∃ o, H q = some o) ∧ DpAll K (off fr H) vs ds ∧ R ds r ∧
  ∀ v H', Ex H H' → Dp K (off fr H') v r → Q v H'
/-- a def that gives a new list -/
def spN (K : PySem.W.Frag) (R : List PyData → List PyData → Prop) : Sp := fun vs H Q _ => ∃ (fr : List Addr) (ds : List PyData) (rs : List PyData), fr.Nodup ∧ (∀ q ∈ fr, ∃ o, H q = some o) ∧ DpAll K (off fr H) vs ds ∧ R ds rs ∧
  ∀ p H1 ws, H1 p = none → Ex H H1 → DpAll K (off fr H1) ws rs → Q (.ref p) (upd H1 p (.lst ws))
/-- a def that changes one list that is handed in (.o 0 among the arguments) -/
def spD (K : PySem.W.Frag) (R : List AV → MO → (PyData → MO → Prop) → Prop) : Sp := fun vs H Q _ => ∃ (p : Addr) (fr : List Addr) (avs : List AV) (m : MO) (Post : PyData → MO → Prop), (p :: fr).Nodup ∧ (∀ q ∈ p :: fr, ∃ o, H q = some o) ∧
  MoOk K (off (p :: fr) H) H p m ∧ RepA K (off (p :: fr) H) [p] vs avs ∧ R avs m Post ∧
  ∀ v H' r m', (∀ b o, H b = some o → b ≠ p → H' b = some o) → MoOk K (off (p :: fr) H') H' p m' → Dp K (off (p :: fr) H') v r → Post r m' → Q v H'
theorem ew_call {R : List PyData → PyData → Prop} {E : XK} {ta : TA} {P : AV → Mu → Prop} (h : AW K ta S fun avs mu => ∃ ds r, avs = ds.map AV.d ∧ R ds r ∧ P (.d r) mu) : EW K (tCall (spP K R) [] E ta) S P := fun Z as0 as fr σ H ok Q q =>
  h Z as0 as fr σ H ok _ fun vs H1 avs mu1 g1 ok1 r1 ⟨ds, r, e, hR, p⟩ => by
    subst e
    refine ⟨as ++ fr, ds, r, ok1.nd, ok1.ex, by rw [List.append_nil]; exact r1.all, hR, fun v H' e rv => q v H' (.d r) mu1 (g1.trans (.of e)) (ok1.grow e) rv p⟩
theorem ev_call {R : List PyData → PyData → Prop} {E : XK} {ta : TA} {ds : List PyData} {r : PyData} (h : AVs K ta S (ds.map AV.d)) (hR : R ds r) : EV K (tCall (spP K R) [] E ta) S (.d r) := ew_call (h.ew ⟨ds, r, rfl, hR, rfl, rfl⟩)
theorem nw_call {R : List PyData → List PyData → Prop} {E : XK} {ta : TA} {P : List PyData → Mu → Prop} (h : AW K ta S fun avs mu => ∃ ds rs, avs = ds.map AV.d ∧ R ds rs ∧ P rs mu) : NW K (tCall (spN K R) [] E ta) S P := fun Z as0 as fr σ H ok Q q =>
  h Z as0 as fr σ H ok _ fun vs H1 avs mu1 g1 ok1 r1 ⟨ds, rs, e, hR, p⟩ => by
    subst e
    refine ⟨as ++ fr, ds, rs, ok1.nd, ok1.ex, by rw [List.append_nil]; exact r1.all, hR, fun l H' ws hl e ra => q l H' ws rs mu1 hl (g1.trans (.of e)) (ok1.grow e) ra p⟩
def ren (j : Nat) : AV → AV
  | .o _ => .o j
  | x => x
theorem repA_ren {H : Hp} {as : List Addr} {j : Nat} {p : Addr} (hp : as[j]? = some p) : ∀ {vs : List V} {avs : List AV}, RepA K H as vs (avs.map (ren j)) → RepA K H [p] vs (avs.map (ren 0))
  | _, [], h => by cases h; exact .nil
  | _, .d x :: avs, h => by cases h with | cons h a => exact .cons h (repA_ren hp a)
  | _, .o k :: avs, h => by
    cases h with
    | cons h a =>
      obtain ⟨q, hq, e⟩ := h
      rw [hp] at hq; cases hq
      exact .cons ⟨p, rfl, e⟩ (repA_ren hp a)
theorem ew_callD {R : List AV → MO → (PyData → MO → Prop) → Prop} {E : XK} {ta : TA} {P : AV → Mu → Prop} (h : AW K ta S fun avs mu => ∃ (j : Nat) (m : MO) (avs' : List AV) (Post : PyData → MO → Prop), mu[j]? = some m ∧ avs = avs'.map (ren j) ∧ R (avs'.map (ren 0)) m Post ∧ ∀ r m', Post r m' → P (.d r) (mu.set j m')) :
    EW K (tCall (spD K R) [] E ta) S P := fun Z as0 as fr σ H ok Q q =>
  h Z as0 as fr σ H ok _ fun vs H1 avs mu1 g1 ok1 r1 ⟨j, m, avs', Post, hm, e, hR, k⟩ => by
    subst e
    have hjl : j < as.length := by rw [ok1.mu.1]; exact (List.getElem?_eq_some_iff.mp hm).1
    obtain ⟨p, hp⟩ : ∃ p, as[j]? = some p := ⟨_, List.getElem?_eq_getElem hjl⟩
    have nd := List.nodup_append.mp ok1.nd
    have mem : ∀ b, b ∈ p :: (as.eraseIdx j ++ fr) ↔ b ∈ as ++ fr := fun b => by
      constructor
      · intro hb
        rcases List.mem_cons.mp hb with e | hb
        · subst e; exact List.mem_append_left _ (List.mem_of_getElem? hp)
        · rcases List.mem_append.mp hb with z | z
          · exact List.mem_append_left _ (List.mem_of_mem_eraseIdx z)
          · exact List.mem_append_right _ z
      · intro hb
        rcases List.mem_append.mp hb with z | z
        · obtain ⟨i, hi⟩ := List.getElem?_of_mem z
          by_cases c : i = j
          · subst c; rw [hp] at hi; cases hi; exact List.mem_cons_self
          · exact List.mem_cons_of_mem _ (List.mem_append_left _ (List.mem_eraseIdx_iff_getElem?.mpr ⟨i, c, hi⟩))
        · exact List.mem_cons_of_mem _ (List.mem_append_right _ z)
    have oe : ∀ Hx : Hp, off (p :: (as.eraseIdx j ++ fr)) Hx = off (as ++ fr) Hx := fun Hx => by
      funext b; unfold off
      by_cases c : b ∈ as ++ fr
      · rw [if_pos c, if_pos ((mem b).mpr c)]
      · rw [if_neg c, if_neg fun z => c ((mem b).mp z)]
    have pne : p ∉ as.eraseIdx j ++ fr := fun z => by
      rcases List.mem_append.mp z with z | z
      · obtain ⟨i, hne, hi⟩ := List.mem_eraseIdx_iff_getElem?.mp z
        obtain ⟨h1, e1⟩ := List.getElem?_eq_some_iff.mp hi
        obtain ⟨h2, e2⟩ := List.getElem?_eq_some_iff.mp hp
        exact hne ((List.getElem_inj nd.1).mp (e1.trans e2.symm))
      · exact nd.2.2 p (List.mem_of_getElem? hp) p z rfl
    have ndp : (p :: (as.eraseIdx j ++ fr)).Nodup := List.nodup_cons.mpr ⟨pne, List.nodup_append.mpr ⟨nd.1.sublist (List.eraseIdx_sublist _ _), nd.2.1, fun a ha b hb => nd.2.2 a (List.mem_of_mem_eraseIdx ha) b hb⟩⟩
    refine ⟨p, as.eraseIdx j ++ fr, avs'.map (ren 0), m, Post, ndp, fun q hq => ok1.ex q ((mem q).mp hq), ?_, ?_, hR, fun v H' r m' hk hmo rv hp' => ?_⟩
    · rw [oe]; exact ok1.mu.2 j p m hp hm
    · rw [oe, List.append_nil]; exact repA_ren hp r1
    · rw [oe] at hmo rv
      have pm : p ∈ as := List.mem_of_getElem? hp
      have g2 : Gr as fr H1 H' := fun b o e => by
        obtain ⟨e1, e2⟩ := off_of e
        rw [off_at e2]; exact hk b o e1 fun z => e2 (by rw [z]; exact List.mem_append_left _ pm)
      refine q v H' (.d r) (mu1.set j m') (g1.trans g2) ?_ rv (k r m' hp')
      refine ⟨ok1.len, fun i av e => let ⟨v, h1, r⟩ := ok1.sl i av e; ⟨v, h1, r.ex g2⟩, ⟨by simpa using ok1.mu.1, fun i q m2 hi hm2 => ?_⟩, ok1.nd, fun q hq => ?_, ok1.pre, fun b o e => ?_⟩
      · have hm2' : (mu1.set j m')[i]? = some m2 := hm2
        by_cases c : j = i
        · subst c
          rw [hp] at hi; cases hi
          rw [List.getElem?_set_self (List.getElem?_eq_some_iff.mp hm).1] at hm2'
          cases hm2'
          exact hmo
        · rw [List.getElem?_set_ne c] at hm2'
          have old := ok1.mu.2 i q m2 hi hm2'
          have qp : q ≠ p := fun z => by
            subst z
            obtain ⟨h1, e1⟩ := List.getElem?_eq_some_iff.mp hi
            obtain ⟨h2, e2⟩ := List.getElem?_eq_some_iff.mp hp
            exact c ((List.getElem_inj nd.1).mp (e2.trans e1.symm))
          obtain ⟨o, ho⟩ := ok1.ex q (List.mem_append_left _ (List.mem_of_getElem? hi))
          exact old.ex g2 (by rw [ho, hk q o ho qp])
      · by_cases c : q = p
        · subst c
          cases m' with
          | l xs => obtain ⟨vs, hv, _⟩ := hmo; exact ⟨_, hv⟩
          | k kvs => obtain ⟨vs, hv, _⟩ := hmo; exact ⟨_, hv⟩
          | r lo hi => exact ⟨_, hmo⟩
        · obtain ⟨o, ho⟩ := ok1.ex q hq
          exact ⟨o, hk q o ho c⟩
      · obtain ⟨h1, h2⟩ := ok1.pres b o e
        exact ⟨h1, hk b o h2 fun z => h1 (by rw [z]; exact pm)⟩
/-! the body of a def -/
theorem da_repA {Hf : Hp} {as : List Addr} : ∀ {vs : List V} {ds : List PyData}, DpAll K Hf vs ds → RepA K Hf as vs (ds.map AV.d)
  | _, _, .nil => .nil
  | _, _, .cons h a => .cons h (da_repA a)
theorem repA_len {Hf : Hp} {as : List Addr} : ∀ {vs : List V} {avs : List AV}, RepA K Hf as vs avs → vs.length = avs.length
  | _, _, .nil => rfl
  | _, _, .cons _ a => by simp [repA_len a]
theorem repA_get {Hf : Hp} {as : List Addr} : ∀ {vs : List V} {avs : List AV} {i : Nat} {a : AV}, RepA K Hf as vs avs → avs[i]? = some a → ∃ v, vs[i]? = some v ∧ RepV K Hf as v a
  | _, _, _, _, .nil, e => by simp at e
  | _, _, 0, _, .cons h _, e => by simp at e; subst e; exact ⟨_, rfl, h⟩
  | _, _, i + 1, d, .cons _ a, e => by
    obtain ⟨v, h1, h2⟩ := repA_get (i := i) a (by simpa using e)
    exact ⟨v, by simpa using h1, h2⟩
def ini (N : List Str) (avs : List AV) : List (Option AV) := avs.map some ++ List.replicate (N.length - avs.length) none
theorem ini_ok {N : List Str} {Hf : Hp} {as : List Addr} {vs : List V} {avs : List AV} (r : RepA K Hf as vs avs) : (L2.start N vs).length = (ini N avs).length ∧ ∀ (i : Nat) av, (ini N avs)[i]? = some (some av) → ∃ v, (L2.start N vs)[i]? = some (some v) ∧ RepV K Hf as v av := by
  have hl := repA_len r
  refine ⟨by unfold L2.start ini; simp [hl], fun i av e => ?_⟩
  unfold ini at e
  unfold L2.start
  by_cases c : i < avs.length
  · rw [List.getElem?_append_left (by simpa using c), List.getElem?_map] at e
    rw [List.getElem?_append_left (by simpa [hl] using c), List.getElem?_map]
    cases ha : avs[i]? with
    | none => rw [ha] at e; cases e
    | some a =>
      rw [ha] at e
      cases e
      obtain ⟨v, h1, h2⟩ := repA_get r ha
      exact ⟨v, by rw [h1]; rfl, h2⟩
  · rw [List.getElem?_append_right (by simpa using c)] at e
    have := List.mem_of_getElem? e
    rw [List.mem_replicate] at this
    exact nomatch this.2
theorem body_P {N : List Str} {R : List PyData → PyData → Prop} {vs : List V} {H : Hp} {Q : VK} {E : XK} (hsp : spP K R vs H Q E)
    (h : ∀ ds r, R ds r → SW K t ⟨ini N (ds.map AV.d), []⟩ { n0 := 0, nx := fun _ => r = .none, rt := fun d _ => d = r }) : t { nx := fun _ H' => Q .non H', rt := Q } (L2.start N vs) H := by
  obtain ⟨fr, ds, r, nd, ex, ra, hR, q⟩ := hsp
  have r0 : RepA K (off ([] ++ fr) H) [] vs (ds.map AV.d) := da_repA ra
  obtain ⟨i1, i2⟩ := ini_ok (N := N) r0
  refine h ds r hR H [] [] fr (L2.start N vs) H _ ⟨i1, i2, ⟨rfl, fun j p m hj => by simp at hj⟩, nd, ex, ⟨[], rfl⟩, fun b o e => ⟨by simp, e⟩⟩ ⟨rfl, fun S' σ' H' as' ok k => ?_, fun _ _ _ _ _ k => k.elim, fun _ _ _ _ _ k => k.elim, fun v d mu' H' rv _ pz k => ?_, fun _ _ _ _ _ _ _ _ _ k => k.elim⟩
  · exact q .non H' (fun b o e => (ok.pres b o e).2) (by rw [k]; exact .non)
  · exact q v H' pz (by rw [← (show d = r from k)]; exact rv)
theorem body_N {N : List Str} {R : List PyData → List PyData → Prop} {vs : List V} {H : Hp} {Q : VK} {E : XK} (hsp : spN K R vs H Q E)
    (h : ∀ ds r, R ds r → SW K t ⟨ini N (ds.map AV.d), []⟩ { n0 := 0, nx := fun _ => False, rt := fun d _ => False, rn := fun ds' _ => ds' = r }) : t { nx := fun _ H' => Q .non H', rt := Q } (L2.start N vs) H := by
  obtain ⟨fr, ds, r, nd, ex, ra, hR, q⟩ := hsp
  have r0 : RepA K (off ([] ++ fr) H) [] vs (ds.map AV.d) := da_repA ra
  obtain ⟨i1, i2⟩ := ini_ok (N := N) r0
  refine h ds r hR H [] [] fr (L2.start N vs) H _ ⟨i1, i2, ⟨rfl, fun j p m hj => by simp at hj⟩, nd, ex, ⟨[], rfl⟩, fun b o e => ⟨by simp, e⟩⟩ ⟨rfl, fun S' σ' H' as' ok k => k.elim, fun _ _ _ _ _ k => k.elim, fun _ _ _ _ _ k => k.elim, fun v d mu' H' rv _ pz k => k.elim, fun p ws ds' mu' H1 hp ra' _ pz k => ?_⟩
  exact q p H1 ws hp pz (by rw [← (show ds' = r from k)]; exact ra')
theorem body_D {N : List Str} {R : List AV → MO → (PyData → MO → Prop) → Prop} {vs : List V} {H : Hp} {Q : VK} {E : XK} (hsp : spD K R vs H Q E)
    (h : ∀ avs m Post, R avs m Post → SW K t ⟨ini N avs, [m]⟩ { n0 := 1, nx := fun S' => ∃ m', S'.mu.take 1 = [m'] ∧ Post .none m', rt := fun d mu => ∃ m', mu = [m'] ∧ Post d m' }) : t { nx := fun _ H' => Q .non H', rt := Q } (L2.start N vs) H := by
  obtain ⟨p, fr, avs, m, Post, nd, ex, mo, ra, hR, q⟩ := hsp
  have r0 : RepA K (off ([p] ++ fr) H) [p] vs avs := ra
  obtain ⟨i1, i2⟩ := ini_ok (N := N) r0
  have m1 : MuOk K (off ([p] ++ fr) H) H [p] [m] := ⟨rfl, fun j p' m' hj hm => by
    cases j with
    | zero => cases hj; cases hm; exact mo
    | succ j => simp at hj⟩
  refine h avs m Post hR (off [p] H) [p] [p] fr (L2.start N vs) H _ ⟨i1, i2, m1, nd, ex, ⟨[], rfl⟩, fun b o e => ⟨(off_of e).2, (off_of e).1⟩⟩ ⟨rfl, fun S' σ' H' as' ok ⟨m', e, k⟩ => ?_, fun _ _ _ _ _ k => k.elim, fun _ _ _ _ _ k => k.elim, fun v d mu' H' rv hmu pz ⟨m', e, k⟩ => ?_, fun _ _ _ _ _ _ _ _ _ k => k.elim⟩
  · obtain ⟨more, hm⟩ := ok.pre
    have eo : Ex (off (as' ++ fr) H') (off ([p] ++ fr) H') := off_mono fun b hb => by
      rcases List.mem_append.mp hb with z | z
      · exact List.mem_append_left _ (by rw [hm]; exact List.mem_append_left _ z)
      · exact List.mem_append_right _ z
    have := (mu_take ok.mu hm).ex eo
    rw [show [p].length = 1 from rfl, e] at this
    exact q .non H' .none m' (fun b o eb nb => (ok.pres b o (by rw [off_at (by simpa using nb)]; exact eb)).2) (this.2 0 p m' rfl rfl) .non k
  · subst e
    exact q v H' d m' (fun b o eb nb => pz b o (by rw [off_at (by simpa using nb)]; exact eb)) (hmu.2 0 p m' rfl rfl) rv k
end
end D2
set_option Elab.async false
set_option linter.all false
set_option maxRecDepth 100000
set_option maxHeartbeats 4000000
/-! DLA: rules over data: order, least and greatest, sorted. -/
namespace D2
open PySem PySem.Spec PyProof.Rows L2
open PySem.W (dataLt alike alikeAll AlikeAll minD maxD AllAlike Sortable dataLe)
section
variable {X : Cx}
def rLtX (K : PySem.W.Frag) : R2 := fun x y H Q => ∃ d e, Dp K H x d ∧ Dp K H y e ∧ alike d e = true ∧ d ≠ .none ∧ min d.depth e.depth ≤ 60 ∧ Q (.bl (dataLt d e)) H
def rGtX (K : PySem.W.Frag) : R2 := fun x y H Q => ∃ d e, Dp K H x d ∧ Dp K H y e ∧ alike d e = true ∧ d ≠ .none ∧ min d.depth e.depth ≤ 60 ∧ Q (.bl (dataLt e d)) H
def rLeX (K : PySem.W.Frag) : R2 := fun x y H Q => ∃ d e, Dp K H x d ∧ Dp K H y e ∧ alike d e = true ∧ d ≠ .none ∧ min d.depth e.depth ≤ 60 ∧ Q (.bl (!dataLt e d)) H
def rGeX (K : PySem.W.Frag) : R2 := fun x y H Q => ∃ d e, Dp K H x d ∧ Dp K H y e ∧ alike d e = true ∧ d ≠ .none ∧ min d.depth e.depth ≤ 60 ∧ Q (.bl (!dataLt d e)) H
theorem op_ltX (hu : X.A.units + 64 < cLine) : OpR X (compareOp .Lt) (rLtX X.K) := by
  intro pins s σ H x y v u Q I rx ry h
  obtain ⟨d, e, hd, he, ha, hn, hz, q⟩ := h
  obtain ⟨as, r1⟩ := Dp.reads I d x v hd rx
  obtain ⟨bs, r2⟩ := Dp.reads I e y u he ry
  exact PySem.W.lt_data r1 r2 ha hn (by omega) ⟨.bl _, H, I, rfl, q⟩
theorem op_gtX (hu : X.A.units + 64 < cLine) : OpR X (compareOp .Gt) (rGtX X.K) := by
  intro pins s σ H x y v u Q I rx ry h
  obtain ⟨d, e, hd, he, ha, hn, hz, q⟩ := h
  obtain ⟨as, r1⟩ := Dp.reads I d x v hd rx
  obtain ⟨bs, r2⟩ := Dp.reads I e y u he ry
  exact PySem.W.gt_data r1 r2 ha hn (by omega) ⟨.bl _, H, I, rfl, q⟩
theorem op_leX (hu : X.A.units + 64 < cLine) : OpR X (compareOp .LtE) (rLeX X.K) := by
  intro pins s σ H x y v u Q I rx ry h
  obtain ⟨d, e, hd, he, ha, hn, hz, q⟩ := h
  obtain ⟨as, r1⟩ := Dp.reads I d x v hd rx
  obtain ⟨bs, r2⟩ := Dp.reads I e y u he ry
  exact PySem.W.le_data r1 r2 ha hn (by omega) ⟨.bl _, H, I, rfl, q⟩
theorem op_geX (hu : X.A.units + 64 < cLine) : OpR X (compareOp .GtE) (rGeX X.K) := by
  intro pins s σ H x y v u Q I rx ry h
  obtain ⟨d, e, hd, he, ha, hn, hz, q⟩ := h
  obtain ⟨as, r1⟩ := Dp.reads I d x v hd rx
  obtain ⟨bs, r2⟩ := Dp.reads I e y u he ry
  exact PySem.W.ge_data r1 r2 ha hn (by omega) ⟨.bl _, H, I, rfl, q⟩
/-- min(xs), max(xs) of a list of data -/
def rMinX (K : PySem.W.Frag) : List V → Hp → VK → Prop := fun vs H Q => ∃ (a : Addr) (xs : List V) (d : PyData) (ds : List PyData), vs = [V.ref a] ∧ SqL K H a xs ∧ DpAll K H xs (d :: ds) ∧ AlikeAll (d :: ds) ∧ PyData.depthAll (d :: ds) ≤ 60 ∧ ∀ (i : Nat) v, xs[i]? = some v → (d :: ds)[i]? = some (minD d ds) → Q v H
def rMaxX (K : PySem.W.Frag) : List V → Hp → VK → Prop := fun vs H Q => ∃ (a : Addr) (xs : List V) (d : PyData) (ds : List PyData), vs = [V.ref a] ∧ SqL K H a xs ∧ DpAll K H xs (d :: ds) ∧ AlikeAll (d :: ds) ∧ PyData.depthAll (d :: ds) ≤ 60 ∧ ∀ (i : Nat) v, xs[i]? = some v → (d :: ds)[i]? = some (maxD d ds) → Q v H
theorem fold_mem (f : PyData → PyData → Bool) : ∀ (ds : List PyData) (d : PyData), ds.foldl (fun a y => if f y a then y else a) d ∈ d :: ds
  | [], d => List.mem_cons_self
  | e :: ds, d => by
    rw [List.foldl_cons]
    by_cases h : f e d = true
    · rw [if_pos h]; exact List.mem_cons_of_mem _ (fold_mem f ds e)
    · rw [if_neg h]
      rcases List.mem_cons.mp (fold_mem f ds d) with h2 | h2
      · rw [h2]; exact List.mem_cons_self
      · exact List.mem_cons_of_mem _ (List.mem_cons_of_mem _ h2)
theorem minD_mem (d : PyData) (ds : List PyData) : minD d ds ∈ d :: ds := fold_mem dataLt ds d
theorem maxD_mem (d : PyData) (ds : List PyData) : maxD d ds ∈ d :: ds := fold_mem (fun y a => dataLt a y) ds d
theorem item_is {h : Heap} {pins : List (Addr × Obj)} {s : Shared} {σ : L2.St} {H : Hp} (I : Inv X pins σ H s) {xs : List V} {its : List Value} {ds : List PyData} {i : Nat} {v : Value} {e : PyData} {bs : List Addr}
    (rv : Vals xs its) (ha : DpAll X.K H xs ds) (al : AlikeAll ds) (he : e ∈ ds) (hv : its[i]? = some v) (k : ∀ b o, s.heap.get? b = some o → h.get? b = some o) (r : Reads h v e bs) : ∃ x, RelV x v ∧ xs[i]? = some x ∧ ds[i]? = some e := by
  have hl := rv.length
  have hi : i < xs.length := by rw [hl]; exact (List.getElem?_eq_some_iff.mp hv).1
  obtain ⟨d, hd, hx⟩ := da_getV ha (List.getElem?_eq_getElem hi)
  obtain ⟨u, hu, ru⟩ := rv.get (List.getElem?_eq_getElem hi)
  rw [hv] at hu
  cases hu
  obtain ⟨as, r0⟩ := Dp.reads I d _ v hx ru
  have e1 : d = e := PySem.W.alike_unique d e v as bs (al.1 d (List.mem_of_getElem? hd) e he) (Reads.keeps k r0) r
  subst e1
  exact ⟨_, ru, List.getElem?_eq_getElem hi, hd⟩
theorem cr_minX (hc : X.calm = true) (hu : X.A.units + 64 < cLine) : CallR X (.builtin "min") (rMinX X.K) := by
  intro pins s σ H vs us Q I r h
  obtain ⟨a, xs, d, ds, rfl, hs, ha, al, hz, q⟩ := h
  obtain ⟨its, rv, hl, _⟩ := I.list hs
  obtain ⟨as, rr⟩ := Dp.readsAll I (d :: ds) xs its ha rv
  rw [Vals.ref1 r]
  refine PySem.W.min_list_data (I.ok.hd hc) hl.isList rr al (by omega) fun i v h' tk bs hv hr hk => ?_
  obtain ⟨x, rx, hx, hd⟩ := item_is I rv ha al (minD_mem d ds) (by simpa using hv) hk hr
  exact ⟨x, H, I.kept hk, rx, q i x hx hd⟩
theorem cr_maxX (hc : X.calm = true) (hu : X.A.units + 64 < cLine) : CallR X (.builtin "max") (rMaxX X.K) := by
  intro pins s σ H vs us Q I r h
  obtain ⟨a, xs, d, ds, rfl, hs, ha, al, hz, q⟩ := h
  obtain ⟨its, rv, hl, _⟩ := I.list hs
  obtain ⟨as, rr⟩ := Dp.readsAll I (d :: ds) xs its ha rv
  rw [Vals.ref1 r]
  refine PySem.W.max_list_data (I.ok.hd hc) hl.isList rr al (by omega) fun i v h' tk bs hv hr hk => ?_
  obtain ⟨x, rx, hx, hd⟩ := item_is I rv ha al (maxD_mem d ds) (by simpa using hv) hk hr
  exact ⟨x, H, I.kept hk, rx, q i x hx hd⟩
/-- sorted(xs) of a list of data -/
def rSortX (K : PySem.W.Frag) : List V → Hp → VK → Prop := fun vs H Q => ∃ (a : Addr) (xs : List V) (ds : List PyData), vs = [V.ref a] ∧ SqL K H a xs ∧ DpAll K H xs ds ∧ AllAlike ds ∧ Sortable ds ∧ (∀ d ∈ ds, d.depth ≤ 60) ∧
  ∀ p : Addr, H p = none → Q (.ref p) (upd H p (.lst (((xs.zip ds).mergeSort (dataLe false fun b : V × PyData => b.2)).map (·.1))))
theorem zip_each {X : Cx} {pins : List (Addr × Obj)} {s : Shared} {σ : L2.St} {H : Hp} (I : Inv X pins σ H s) : ∀ {xs : List V} {its : List Value} {ds : List PyData}, Vals xs its → DpAll X.K H xs ds →
    (xs.zip ds).map (·.2) = ds ∧ PySem.W.EachIs (fun v (b : V × PyData) => RelV b.1 v ∧ Dp X.K H b.1 b.2) its (xs.zip ds)
  | _, _, _, .nil, .nil => ⟨rfl, .nil⟩
  | _, _, _, .cons r rr, .cons a aa => by
    obtain ⟨e, h⟩ := zip_each I rr aa
    exact ⟨by rw [List.zip_cons_cons, List.map_cons, e], .cons ⟨r, a⟩ h⟩
theorem zip_dp {K : PySem.W.Frag} {H : Hp} : ∀ {xs : List V} {ds : List PyData}, DpAll K H xs ds → ∀ b ∈ xs.zip ds, Dp K H b.1 b.2
  | _, _, .nil, b, hb => by simp at hb
  | _, _, .cons a aa, b, hb => by
    rw [List.zip_cons_cons] at hb
    rcases List.mem_cons.mp hb with h | h
    · rw [h]; exact a
    · exact zip_dp aa b h
theorem zip_snd : ∀ {xs : List V} {ds : List PyData}, xs.length = ds.length → (xs.zip ds).map (·.2) = ds
  | [], [], _ => rfl
  | [], _ :: _, h => by simp at h
  | _ :: _, [], h => by simp at h
  | x :: xs, d :: ds, h => by rw [List.zip_cons_cons, List.map_cons, zip_snd (by simpa using h)]
theorem dp_of_all {K : PySem.W.Frag} {H : Hp} : ∀ {bs : List (V × PyData)}, (∀ b ∈ bs, Dp K H b.1 b.2) → DpAll K H (bs.map (·.1)) (bs.map (·.2))
  | [], _ => .nil
  | b :: r, h => .cons (h b List.mem_cons_self) (dp_of_all fun x hx => h x (List.mem_cons_of_mem _ hx))
theorem sort_dp {K : PySem.W.Frag} {H : Hp} {xs : List V} {ds : List PyData} (hl : xs.length = ds.length) (h : DpAll K H xs ds) : DpAll K H (((xs.zip ds).mergeSort (dataLe false fun b : V × PyData => b.2)).map (·.1)) (ds.mergeSort (dataLe false id)) := by
  have em : ((xs.zip ds).mergeSort (dataLe false fun b : V × PyData => b.2)).map (·.2) = ds.mergeSort (dataLe false id) := by
    conv => rhs; rw [← zip_snd hl]
    rw [List.map_mergeSort]
    intro a _ b _
    rfl
  rw [← em]
  exact dp_of_all fun b hb => zip_dp h b (List.mem_mergeSort.mp hb)
theorem each_out {K : PySem.W.Frag} {H : Hp} : ∀ {out : List Value} {bs : List (V × PyData)}, PySem.W.EachIs (fun v (b : V × PyData) => RelV b.1 v ∧ Dp K H b.1 b.2) out bs → Vals (bs.map (·.1)) out ∧ DpAll K H (bs.map (·.1)) (bs.map (·.2))
  | _, _, .nil => ⟨.nil, .nil⟩
  | _, _, .cons r rr => ⟨.cons r.1 (each_out rr).1, .cons r.2 (each_out rr).2⟩
theorem cr_sortX (hu : X.A.units + 64 < cLine) : CallR X (.builtin "sorted") (rSortX X.K) := by
  intro pins s σ H vs us Q I r h
  obtain ⟨a, xs, ds, rfl, hs, ha, al, so, hz, q⟩ := h
  obtain ⟨its, rv, hl, hzl⟩ := I.list hs
  obtain ⟨e, hb⟩ := zip_each I rv ha
  have hbl := hb.length
  have hvl := rv.length
  rw [Vals.ref1 r]
  refine PySem.W.sorted_data (enc := fun b : V × PyData => b.2) hl.isList hb (hb.mono fun v b ⟨rl, hd⟩ => Dp.reads I b.2 b.1 v hd rl) (by rw [e]; exact al) (by rw [e]; exact so) (by rw [← hbl, ← hvl]; exact hzl) (fun b hb2 => Nat.lt_of_le_of_lt (Nat.add_le_add_left (hz b.2 (by rw [← e]; exact List.mem_map_of_mem hb2)) _) (by omega)) fun out ho he => ?_
  obtain ⟨ep, he'⟩ := PyProof.Rows.sortedAll_at s.heap its (List.toArray out)
  obtain ⟨o1, o2⟩ := each_out he
  refine ⟨.ref _, upd H (s.heap.objs.size + 1) (.lst _), I.laid (t' := s.toks) (fun _ _ => PyProof.Rows.sortedAll_old) (Nat.le_succ _) ⟨?_, out, ep, o1, he'⟩, rfl, q _ (I.hok.fresh (Nat.le_succ _))⟩
  rw [List.length_map, List.length_mergeSort, ← hbl, ← hvl]; exact hzl
/-! ==, in, over any data -/
mutual
theorem dp_plain {K : PySem.W.Frag} {H : Hp} : ∀ {v : V} {d : PyData}, Dp K H v d → d.plain = true
  | _, _, .non => rfl
  | _, _, .bl _ => rfl
  | _, _, .int _ => rfl
  | _, _, .str _ => rfl
  | _, _, .lst _ a => by rw [PyData.plain]; exact da_plain a
  | _, _, .tup _ a => by rw [PyData.plain]; exact da_plain a
theorem da_plain {K : PySem.W.Frag} {H : Hp} : ∀ {vs : List V} {ds : List PyData}, DpAll K H vs ds → PyData.plainAll ds = true
  | _, _, .nil => rfl
  | _, _, .cons a aa => by rw [PyData.plainAll, dp_plain a, da_plain aa]; rfl
end
def rEqP (K : PySem.W.Frag) : R2 := fun x y H Q => ∃ d e, Dp K H x d ∧ Dp K H y e ∧ min d.depth e.depth ≤ 60 ∧ Q (.bl (PyData.eqv d e)) H
def rNeP (K : PySem.W.Frag) : R2 := fun x y H Q => ∃ d e, Dp K H x d ∧ Dp K H y e ∧ min d.depth e.depth ≤ 60 ∧ Q (.bl (!PyData.eqv d e)) H
theorem op_eqP (hu : X.A.units + 64 < cLine) : OpR X (compareOp .Eq) (rEqP X.K) := by
  intro pins s σ H x y v u Q I rx ry h
  obtain ⟨d, e, hd, he, hz, q⟩ := h
  obtain ⟨as, r1⟩ := Dp.reads I d x v hd rx
  obtain ⟨bs, r2⟩ := Dp.reads I e y u he ry
  exact PySem.SeqAt.eq_plain r1 r2 (dp_plain hd) (dp_plain he) (by omega) ⟨.bl _, H, I, rfl, q⟩
theorem op_neP (hu : X.A.units + 64 < cLine) : OpR X (compareOp .NotEq) (rNeP X.K) := by
  intro pins s σ H x y v u Q I rx ry h
  obtain ⟨d, e, hd, he, hz, q⟩ := h
  obtain ⟨as, r1⟩ := Dp.reads I d x v hd rx
  obtain ⟨bs, r2⟩ := Dp.reads I e y u he ry
  exact PySem.SeqAt.ne_plain r1 r2 (dp_plain hd) (dp_plain he) (by omega) ⟨.bl _, H, I, rfl, q⟩
def rInP (K : PySem.W.Frag) (neg : Bool) : R2 := fun x y H Q => ∃ d ds, Dp K H x d ∧ (Dp K H y (.list ds) ∨ Dp K H y (.tuple ds)) ∧ min (PyData.depthAll ds) d.depth ≤ 60 ∧ Q (.bl (if neg then !(ds.any fun z => PyData.eqv z d) else ds.any fun z => PyData.eqv z d)) H
theorem op_inP (hu : X.A.units + 64 < cLine) : OpR X (compareOp .In) (rInP X.K false) := by
  intro pins s σ H x y v u Q I rx ry h
  obtain ⟨d, ds, hd, he, hz, q⟩ := h
  obtain ⟨as, r1⟩ := Dp.reads I d x v hd rx
  rcases he with he | he
  · obtain ⟨bs, r2⟩ := Dp.reads I _ y u he ry
    have := dp_plain he
    rw [PyData.plain] at this
    exact PySem.SeqAt.in_list_data r2 r1 this (dp_plain hd) (by omega) ⟨.bl _, H, I, rfl, q⟩
  · obtain ⟨bs, r2⟩ := Dp.reads I _ y u he ry
    have := dp_plain he
    rw [PyData.plain] at this
    exact PySem.SeqAt.in_tuple_data r2 r1 this (dp_plain hd) (by omega) ⟨.bl _, H, I, rfl, q⟩
theorem op_notInP (hu : X.A.units + 64 < cLine) : OpR X (compareOp .NotIn) (rInP X.K true) := by
  intro pins s σ H x y v u Q I rx ry h
  obtain ⟨d, ds, hd, he, hz, q⟩ := h
  obtain ⟨as, r1⟩ := Dp.reads I d x v hd rx
  rcases he with he | he
  · obtain ⟨bs, r2⟩ := Dp.reads I _ y u he ry
    have := dp_plain he
    rw [PyData.plain] at this
    exact PySem.SeqAt.notIn_list_data r2 r1 this (dp_plain hd) (by omega) ⟨.bl _, H, I, rfl, q⟩
  · obtain ⟨bs, r2⟩ := Dp.reads I _ y u he ry
    have := dp_plain he
    rw [PyData.plain] at this
    exact PySem.SeqAt.notIn_tuple_data r2 r1 this (dp_plain hd) (by omega) ⟨.bl _, H, I, rfl, q⟩
end
end D2
set_option Elab.async false
set_option linter.all false
set_option maxRecDepth 100000
set_option maxHeartbeats 4000000
/-! DL5: operations by values, over data. -/
namespace D2
open PySem PySem.Spec PyProof.Rows L2
open PySem.W (dataLt alike alikeAll AlikeAll minD maxD AllAlike Sortable dataLe)
/-! ### further rules of the hand layer's kind -/
section
variable {X : Cx}
/-- text * int -/
def rMulS : R2 := fun x y H Q => ∃ z n, x = .str z ∧ y = .int n ∧ MulOk z n ∧ Q (.str (Txt.mul z n)) H
theorem op_mulS : OpR X (binaryOp .Mult) rMulS := by
  intro pins s σ H x y v u Q I rx ry h
  obtain ⟨z, n, rfl, rfl, hm, q⟩ := h
  obtain ⟨t, rfl⟩ := rx
  obtain ⟨t', rfl⟩ := ry
  exact SB.mul hm fun t'' k => ⟨.str _, H, I.tok k, ⟨_, rfl⟩, q⟩
/-- s[::-1] of a text -/
def tRevS (te : TE) : TE := fun σ H Q => te σ H fun x H1 => ∃ z, x = .str z ∧ z.length ≤ sizeLine ∧ Q (.str ⟨z.cps.toList.reverse.toArray⟩) H1
theorem rev_list (x : Str) (u : Tok) : Txt.sliceBy x none none (-1, u) = ⟨x.cps.toList.reverse.toArray⟩ := by
  have h : (Txt.sliceBy x none none (-1, u)).cps.toList = x.cps.toList.reverse := by
    rw [step_rev_list]
    apply List.ext_getElem
    · simp [Str.length]
    · intro i h1 h2
      have hi : i < x.cps.size := by simpa using h2
      rw [List.getElem_map, List.getElem_range, List.getElem_reverse]
      simp only [Str.length, Array.length_toList, Array.getElem_toList]
      have : x.cps.size - 1 - i < x.cps.size := by omega
      simp [Array.getD, this]
  cases hz : Txt.sliceBy x none none (-1, u) with
  | mk c =>
    rw [hz] at h
    have h' : c.toList = x.cps.toList.reverse := h
    rw [← h']
theorem letGo_str (e : Expr) (z : Str) (t : Tok) (r : Value) : letTemporaryGo e (.str z t) r = pure () := by cases e <;> rfl
theorem pe_revS {e : Expr} {te : TE} {k : Nat} {p1 p2 p3 pos : Pos} (he : PE X e te) : PE X (.Subscript e (.Slice none none (some (.UnaryOp .USub (.Constant (.int 1) k p1) p2)) p3) pos) (tRevS te) := by
  refine ⟨fun pins s σ H Q I h => ?_⟩
  refine Subscript_ (thn (he.run pins s σ H _ I h) fun v s1 ⟨x, H1, I1, r1, q1⟩ => ?_)
  obtain ⟨z, ex, hz, q⟩ := q1
  subst ex
  obtain ⟨t, rfl⟩ := r1
  have hst : PO X (some (.UnaryOp .USub (.Constant (.int 1) k p1) p2)) (tPart (tUn (L2.rU fun i => .int (-i)) (tC (.int 1)))) := po_some (pe_un un_neg pe_int)
  refine wpAny_Slice (thn (po_none.run pins s1 σ H1 (fun o H2 => o = none ∧ H2 = H1) I1 ⟨rfl, rfl⟩) fun vl s2 ⟨l, H2, I2, pl, el, e2⟩ => ?_)
  subst el e2
  refine thn (po_none.run pins s2 σ H2 (fun o H3 => o = none ∧ H3 = H2) I2 ⟨rfl, rfl⟩) fun vu s3 ⟨u, H3, I3, pu, eu, e3⟩ => ?_
  subst eu e3
  refine thn (hst.run pins s3 σ H3 (fun o H4 => o = some (-1) ∧ H4 = H3) I3 ⟨1, rfl, -1, rfl, rfl, rfl⟩) fun vs s4 ⟨o, H4, I4, ps, eo, e4⟩ => ?_
  subst eo e4
  obtain ⟨l, e1, e2⟩ := IsPart.raw pl
  obtain ⟨u, e3, e4⟩ := IsPart.raw pu
  obtain ⟨w, e5, e6⟩ := IsPart.raw ps
  cases l with
  | some l => cases e2
  | none =>
  cases u with
  | some u => cases e4
  | none =>
  cases w with
  | none => cases e6
  | some w =>
  obtain ⟨w1, w2⟩ := w
  have ew : w1 = -1 := Option.some.inj e6
  subst ew
  have I5 : Inv X pins σ H4 { s4 with heap := s4.heap.push { cls := .type "slice", data := .fields #[vl, vu, vs] } } := I4.kept (t' := s4.toks) fun b ob q => Heap.get?_push_of_some _ q
  show wpAny (model X.prog X.w) X.A (subscriptTail e (.Slice none none (some (.UnaryOp .USub (.Constant (.int 1) k p1) p2)) p3) (.str z t) (.ref s4.heap.objs.size)) (EP X pins σ Q) X.xe { s4 with heap := s4.heap.push { cls := .type "slice", data := .fields #[vl, vu, vs] } }
  refine tail_of_ItemOn (ops := [.ref s4.heap.objs.size, .str z t]) ⟨"str", _, F.slot_str_getitem.lookup, typeIs_str _ _ _, wpAny_getItem_str_slice (l := none) (u := none) (st := some (-1, w2)) ⟨_, Heap.get?_push_size _ rfl, rfl, by rw [e1, e3, e5]⟩ (by rfl) ?_⟩ (by with_unfolding_all rfl) (fun r => letGo_str e _ _ r)
  refine post_val_or_str ⟨Nat.le_trans (Txt.sliceBy_le z none none (-1, w2) (show (-1 : Int) ≠ 0 by decide)) hz, fun t' c => ?_⟩
  have er := rev_list z w2
  unfold Txt.sliceBy at er
  rw [er]
  exact ⟨.str _, H4, I5.tok c, ⟨_, rfl⟩, q⟩
/-- list + list, wherever they lie -/
def rCatS (K : PySem.W.Frag) : R2 := fun x y H Q => ∃ l b xs zs, x = .ref l ∧ y = .ref b ∧ SqL K H l xs ∧ SqL K H b zs ∧ xs.length + zs.length ≤ sizeLine ∧ ∀ p, H p = none → Q (.ref p) (upd H p (.lst (xs ++ zs)))
theorem op_catS : OpR X (binaryOp .Add) (rCatS X.K) := by
  intro pins s σ H x y v u Q I rx ry h
  obtain ⟨l, b, xs, zs, rfl, rfl, hH, hB, hz, q⟩ := h
  cases rx
  cases ry
  obtain ⟨its, r, ⟨⟨cls, dd, data, sl⟩, n, ho, hc, hdd, hd⟩, hs⟩ := I.list hH
  obtain ⟨its2, r2, ⟨⟨cls2, dd2, data2, sl2⟩, n2, ho2, hc2, hdd2, hd2⟩, hs2⟩ := I.list hB
  simp only at hc hd hdd hc2 hd2 hdd2
  subst hc hd hdd hc2 hd2 hdd2
  have e : its.toArray ++ its2.toArray = (its ++ its2).toArray := by simp
  have e1 := r.length
  have e2 := r2.length
  refine PySem.concat_meets ⟨_, ho, rfl⟩ ⟨_, ho2, rfl⟩ PySem.noFill_list_add PySem.seq_list_add PySem.F.slot_list_add PySem.F.entry_list_add (PySem.F.args_list_add_2 _ _) (list_addW l b its.toArray its2.toArray n n2 none none sl sl2 (by rw [List.size_toArray, List.size_toArray]; omega)) ⟨ho, ho2, ?_⟩
  rw [e]
  exact ⟨.ref _, _, I.lnew (t' := s.toks) (r.append r2) (by rw [List.length_append]; omega), rfl, q _ I.fresh⟩
def rAddU (K : PySem.W.Frag) : R2 := fun x y H Q => (rI0 (fun i j => .int (i + j)) x y H Q ∨ (∃ i j, x = .str i ∧ y = .str j ∧ i.length + j.length ≤ sizeLine ∧ Q (.str (i ++ j)) H)) ∨ (rCatS K x y H Q ∨ rCatA K x y H Q)
theorem op_addU' : OpR X (binaryOp .Add) (rAddU X.K) := (op_add.or op_add_str).or (op_catS.or op_catA)
theorem op_addU {K : PySem.W.Frag} (hK : X.K = K := by rfl) : OpR X (binaryOp .Add) (rAddU K) := by subst hK; exact op_addU'
def rMulU : R2 := fun x y H Q => (rI CMul (fun i j => .int (i * j)) x y H Q ∨ rMulS x y H Q) ∨ rRep x y H Q
theorem op_mulU : OpR X (binaryOp .Mult) rMulU := (op_mul.or op_mulS).or op_rep
def rEqU (K : PySem.W.Frag) : R2 := fun x y H Q => rEq x y H Q ∨ (rEqD K x y H Q ∨ rEqP K x y H Q)
theorem op_eqU {K : PySem.W.Frag} (hK : X.K = K) (hu : X.A.units + 64 < cLine) : OpR X (compareOp .Eq) (rEqU K) := by subst hK; exact op_eq.or ((op_eqD hu).or (op_eqP hu))
def rNeU (K : PySem.W.Frag) : R2 := fun x y H Q => rNe x y H Q ∨ (rNeD K x y H Q ∨ rNeP K x y H Q)
theorem op_neU {K : PySem.W.Frag} (hK : X.K = K) (hu : X.A.units + 64 < cLine) : OpR X (compareOp .NotEq) (rNeU K) := by subst hK; exact op_ne.or ((op_neD hu).or (op_neP hu))
def rLtU (K : PySem.W.Frag) : R2 := fun x y H Q => (rI0 (fun i j => .bl (decide (i < j))) x y H Q ∨ (∃ i j, x = .str i ∧ y = .str j ∧ Q (.bl (decide (i.cps.toList < j.cps.toList))) H)) ∨ rLtX K x y H Q
theorem op_ltU {K : PySem.W.Frag} (hK : X.K = K) (hu : X.A.units + 64 < cLine) : OpR X (compareOp .Lt) (rLtU K) := by subst hK; exact (op_lt.or op_lt_str).or (op_ltX hu)
def rGtU (K : PySem.W.Frag) : R2 := fun x y H Q => (rI0 (fun i j => .bl (decide (j < i))) x y H Q ∨ (∃ i j, x = .str i ∧ y = .str j ∧ Q (.bl (decide (j.cps.toList < i.cps.toList))) H)) ∨ rGtX K x y H Q
theorem op_gtU {K : PySem.W.Frag} (hK : X.K = K) (hu : X.A.units + 64 < cLine) : OpR X (compareOp .Gt) (rGtU K) := by subst hK; exact (op_gt.or op_gt_str).or (op_gtX hu)
def rLeU (K : PySem.W.Frag) : R2 := fun x y H Q => (rI0 (fun i j => .bl (decide (i ≤ j))) x y H Q ∨ (∃ i j, x = .str i ∧ y = .str j ∧ Q (.bl (!decide (j.cps.toList < i.cps.toList))) H)) ∨ rLeX K x y H Q
theorem op_leU {K : PySem.W.Frag} (hK : X.K = K) (hu : X.A.units + 64 < cLine) : OpR X (compareOp .LtE) (rLeU K) := by subst hK; exact (op_le.or op_le_str).or (op_leX hu)
def rGeU (K : PySem.W.Frag) : R2 := fun x y H Q => (rI0 (fun i j => .bl (decide (j ≤ i))) x y H Q ∨ (∃ i j, x = .str i ∧ y = .str j ∧ Q (.bl (!decide (i.cps.toList < j.cps.toList))) H)) ∨ rGeX K x y H Q
theorem op_geU {K : PySem.W.Frag} (hK : X.K = K) (hu : X.A.units + 64 < cLine) : OpR X (compareOp .GtE) (rGeU K) := by subst hK; exact (op_ge.or op_ge_str).or (op_geX hu)
def rSlU (K : PySem.W.Frag) : V → Option Int → Option Int → Hp → VK → Prop := fun x lo hi H Q => (rSlL K x lo hi H Q ∨ rSlS x lo hi H Q) ∨ rSlA K x lo hi H Q
theorem sl_U {K : PySem.W.Frag} (hK : X.K = K) : SlR X (rSlU K) := by subst hK; exact (sl_list.or sl_str).or sl_tupA
theorem ix_U {K : PySem.W.Frag} (hK : X.K = K) : IxR X (rIx K) := by subst hK; exact ix_seq
/-- x in c: a sign in a text; in a list or tuple of flat things; in a list of data -/
def rInU (K : PySem.W.Frag) : R2 := fun x y H Q => (∃ (c : Nat) (z : Str), x = .str ⟨#[c]⟩ ∧ y = .str z ∧ Q (.bl (decide (c ∈ z.cps.toList))) H) ∨ (rIn K false x y H Q ∨ (rInP K false x y H Q ∨ (∃ i j, x = .str i ∧ y = .str j ∧ Q (.bl (!(Builtin.Str.occurrences j i 0 j.length 1).isEmpty)) H)))
theorem op_inU {K : PySem.W.Frag} (hK : X.K = K) (hu : X.A.units + 64 < cLine) : OpR X (compareOp .In) (rInU K) := by subst hK; exact op_in_sign.or (op_in_seq.or ((op_inP hu).or op_in_str))
def rNotInU (K : PySem.W.Frag) : R2 := fun x y H Q => (∃ (c : Nat) (z : Str), x = .str ⟨#[c]⟩ ∧ y = .str z ∧ Q (.bl (!decide (c ∈ z.cps.toList))) H) ∨ (rIn K true x y H Q ∨ (rInP K true x y H Q ∨ (∃ i j, x = .str i ∧ y = .str j ∧ Q (.bl (!(!(Builtin.Str.occurrences j i 0 j.length 1).isEmpty))) H)))
theorem op_notInU {K : PySem.W.Frag} (hK : X.K = K) (hu : X.A.units + 64 < cLine) : OpR X (compareOp .NotIn) (rNotInU K) := by subst hK; exact op_notIn_sign.or (op_notIn_seq.or ((op_notInP hu).or op_notin_str))
def rLen (K : PySem.W.Frag) : List V → Hp → VK → Prop := fun xs H Q => ∃ x n, xs = [x] ∧ LenV K x H n ∧ Q (.int n) H
theorem call_lenU {K : PySem.W.Frag} (hK : X.K = K) : CallR X (.builtin "len") (rLen K) := by subst hK; exact call_len
def rMinU (K : PySem.W.Frag) : List V → Hp → VK → Prop := fun xs H Q => ((∃ i j, xs = [.int i, .int j] ∧ Q (.int (if j < i then j else i)) H) ∨ rMin K xs H Q) ∨ rMinX K xs H Q
theorem call_minU {K : PySem.W.Frag} (hK : X.K = K) (hc : X.calm = true) (hu : X.A.units + 64 < cLine) : CallR X (.builtin "min") (rMinU K) := by subst hK; exact ((call_min2 hc).or (cr_min hc)).or (cr_minX hc hu)
def rMaxU (K : PySem.W.Frag) : List V → Hp → VK → Prop := fun xs H Q => ((∃ i j, xs = [.int i, .int j] ∧ Q (.int (if j > i then j else i)) H) ∨ rMax K xs H Q) ∨ rMaxX K xs H Q
theorem call_maxU {K : PySem.W.Frag} (hK : X.K = K) (hc : X.calm = true) (hu : X.A.units + 64 < cLine) : CallR X (.builtin "max") (rMaxU K) := by subst hK; exact ((call_max2 hc).or (cr_max hc)).or (cr_maxX hc hu)
theorem call_sumU {K : PySem.W.Frag} (hK : X.K = K) (hc : X.calm = true) : CallR X (.builtin "sum") (rSum K) := by subst hK; exact cr_sum hc
theorem call_anyU {K : PySem.W.Frag} (hK : X.K = K) (hc : X.calm = true) : CallR X (.builtin "any") (rAny K) := by subst hK; exact cr_any hc
theorem call_allU {K : PySem.W.Frag} (hK : X.K = K) (hc : X.calm = true) : CallR X (.builtin "all") (rAll K) := by subst hK; exact cr_all hc
theorem call_isiU {K : PySem.W.Frag} (hK : X.K = K) : CallR X (.builtin "isinstance") (rIsi K) := by subst hK; exact call_isi
def rIntU : List V → Hp → VK → Prop := fun xs H Q => (∃ i, xs = [.int i] ∧ Q (.int i) H) ∨ ∃ k, xs = [.bl k] ∧ Q (.int (if k then 1 else 0)) H
theorem call_intU : CallR X (.type "int") rIntU := call_int1
def rListU (K : PySem.W.Frag) : List V → Hp → VK → Prop := fun xs H Q => ∃ p ys, xs = [.ref p] ∧ (SqL K H p ys ∨ SqT K H p ys) ∧ ∀ l, H l = none → Q (.ref l) (upd H l (.lst ys))
theorem call_listU {K : PySem.W.Frag} (hK : X.K = K) : CallR X (.type "list") (rListU K) := by subst hK; exact call_list_of
def rTupU (K : PySem.W.Frag) : List V → Hp → VK → Prop := fun xs H Q => ∃ p ys, xs = [.ref p] ∧ ((SqL K H p ys ∧ ∀ l, H l = none → Q (.ref l) (upd H l (.tup ys))) ∨ (SqT K H p ys ∧ Q (.ref p) H))
theorem call_tupU {K : PySem.W.Frag} (hK : X.K = K) : CallR X (.type "tuple") (rTupU K) := by subst hK; exact call_tuple_of
theorem pe_bmK {K : PySem.W.Frag} (hK : X.K = K) {e o : Expr} {es : List Expr} {te : TE} {T : String} {r : V → List V → Hp → VK → Prop} {t : TA} {pos : Pos} (h : PE X e (tBM X.K T r te t)) : PE X e (tBM K T r te t) := by subst hK; exact h
theorem pe_bm0K {K : PySem.W.Frag} (hK : X.K = K) {e : Expr} {te : TE} {T : String} {r : V → List V → Hp → VK → Prop} (h : PE X e (tBM0 X.K T r te)) : PE X e (tBM0 K T r te) := by subst hK; exact h
theorem pi_listK {K : PySem.W.Frag} (hK : X.K = K) {tg e : Expr} {te : TE} (h : PE X e te) : PI X tg e (iList K te) := by subst hK; exact pi_list h
theorem pi_tupK {K : PySem.W.Frag} (hK : X.K = K) {tg e : Expr} {te : TE} (h : PE X e te) : PI X tg e (iTup K te) := by subst hK; exact pi_tup h
theorem mt_indexK {K : PySem.W.Frag} (hK : X.K = K) : MtR X "list.index" (rIndex K) := by subst hK; exact mt_index
def rJoin (K : PySem.W.Frag) : V → List V → Hp → VK → Prop := fun x xs H Q => ∃ a p ys, x = V.str a ∧ xs = [V.ref p] ∧ (SqL K H p (List.map V.str ys) ∨ SqT K H p (List.map V.str ys)) ∧ (List.map (fun x => x.length) ys).sum + ys.length * a.length ≤ 16777216 ∧ Q (V.str (Txt.join a ys)) H
end
section
variable {X : Cx}
theorem pe_joinK {K : PySem.W.Frag} (hK : X.K = K) {o e : Expr} {to te : TE} {apos pos : Pos} (ho : PE X o to) (he : PE X e te) (hs : starEach [e] X.env = [(false, eval e X.env)] := by rfl)
    (hb : attributeBase o "join" X.env (eval o X.env) = eval o X.env := by rfl) (hl : (apos.endLine == pos.line) = true := by rfl) : PE X (.Call (.Attribute o "join" apos) [e] [] pos) (tM1 (rJoin K) to te) := by subst hK; exact pe_join ho he hs hb hl
end
/-! ### texts by their letters -/
theorem app_txt (a b : List Nat) : (⟨a.toArray⟩ : Str) ++ ⟨b.toArray⟩ = ⟨(a ++ b).toArray⟩ := by
  show Str.mk (a.toArray ++ b.toArray) = _
  simp
theorem len_txt (a : List Nat) : (⟨a.toArray⟩ : Str).length = a.length := by simp [Str.length]
theorem txt_inj {a b : List Nat} (h : (⟨a.toArray⟩ : Str) = ⟨b.toArray⟩) : a = b := by
  have := congrArg (fun s : Str => s.cps.toList) h
  simpa using this
def rep (l : List Nat) : Nat → List Nat
  | 0 => []
  | n + 1 => l ++ rep l n
theorem foldl_app : ∀ (n : Nat) (a : Array Nat) (l : List Nat), List.foldl (fun x1 x2 => x1 ++ x2) a (List.replicate n l.toArray) = a ++ (rep l n).toArray
  | 0, a, l => by simp [rep]
  | n + 1, a, l => by
    rw [List.replicate_succ, List.foldl_cons, foldl_app n _ l]
    simp [rep]
theorem rep_nil : ∀ n, rep [] n = []
  | 0 => rfl
  | n + 1 => by show [] ++ rep [] n = []; rw [rep_nil n]; rfl
theorem rep_one (l : List Nat) : rep l 1 = l := by show l ++ [] = l; simp
theorem rep_length (l : List Nat) : ∀ n, (rep l n).length = n * l.length
  | 0 => by simp [rep]
  | n + 1 => by show (l ++ rep l n).length = _; rw [List.length_append, rep_length l n, Nat.succ_mul]; omega
theorem mul_txt (l : List Nat) (n : Int) : Txt.mul ⟨l.toArray⟩ n = ⟨(rep l n.toNat).toArray⟩ := by
  unfold Txt.mul
  by_cases h1 : n < 1
  · rw [if_pos h1, show n.toNat = 0 by omega]; rfl
  · rw [if_neg h1]
    by_cases h2 : (n == 1 || (⟨l.toArray⟩ : Str).length == 0) = true
    · rw [if_pos h2]
      rcases (Bool.or_eq_true _ _).mp h2 with h | h
      · have : n = 1 := by simpa using h
        subst this
        rw [show (1 : Int).toNat = 1 from rfl, rep_one]
      · have : l = [] := by simpa [len_txt] using h
        subst this
        rw [rep_nil]
    · rw [if_neg h2, foldl_app]; simp
def cutL {α : Type} (l : List α) (lo hi : Option Int) : List α := (l.drop (HT.sIx l.length 0 lo)).take (HT.sIx l.length l.length hi - HT.sIx l.length 0 lo)
theorem cutS_txt (l : List Nat) (lo hi : Option Int) : cutS ⟨l.toArray⟩ lo hi = ⟨(cutL l lo hi).toArray⟩ := by
  unfold cutS cutL
  rw [len_txt]
theorem sIx_nat (n d k : Nat) : HT.sIx n d (some (k : Int)) = min k n := by
  unfold HT.sIx
  simp only []
  rw [if_neg (by omega)]; simp
theorem cutL_to {α : Type} (l : List α) (k : Nat) : cutL l none (some (k : Int)) = l.take k := by
  unfold cutL
  rw [sIx_nat]
  show (l.drop 0).take (min k l.length - 0) = _
  rw [List.drop_zero, Nat.sub_zero]
  rcases Nat.le_total k l.length with h | h
  · rw [Nat.min_eq_left h]
  · rw [Nat.min_eq_right h, List.take_of_length_le h, List.take_of_length_le (Nat.le_refl _)]
theorem cutL_from {α : Type} (l : List α) (k : Nat) : cutL l (some (k : Int)) none = l.drop k := by
  unfold cutL
  rw [sIx_nat]
  show (l.drop (min k l.length)).take (l.length - min k l.length) = _
  rcases Nat.le_total k l.length with h | h
  · rw [Nat.min_eq_left h, List.take_of_length_le (by rw [List.length_drop]; exact Nat.le_refl _)]
  · rw [Nat.min_eq_right h, List.drop_of_length_le h, List.drop_of_length_le (Nat.le_refl _)]; simp
theorem cutL_mid {α : Type} (l : List α) (a b : Nat) : cutL l (some (a : Int)) (some (b : Int)) = (l.take b).drop a := by
  unfold cutL
  rw [sIx_nat, sIx_nat, List.drop_take]
  rcases Nat.le_total a l.length with h | h
  · rw [Nat.min_eq_left h]
    rcases Nat.le_total b l.length with h2 | h2
    · rw [Nat.min_eq_left h2]
    · rw [Nat.min_eq_right h2, List.take_of_length_le (by rw [List.length_drop]; exact Nat.le_refl _), List.take_of_length_le (by rw [List.length_drop]; omega)]
  · rw [Nat.min_eq_right h, List.drop_of_length_le h, List.drop_of_length_le (Nat.le_refl _)]; simp
theorem cutL_all {α : Type} (l : List α) : cutL l none none = l := by
  unfold cutL
  show (l.drop 0).take (l.length - 0) = l
  simp
/-- a text handed to a rule, by its letters -/
theorem str_of (z : Str) : z = ⟨z.cps.toList.toArray⟩ := by cases z; simp
section
variable {K : PySem.W.Frag} {mu : Mu} {S : AS}
theorem rb_i0 {g : Int → Int → Int} {i j : Int} : RB K mu (rI0 fun i j => .int (g i j)) (dI i) (dI j) (dI (g i j)) := fun as fr H v1 v2 hk r1 r2 Q k => by cases r1; cases r2; exact ⟨i, j, rfl, rfl, k.int⟩
theorem rb_b0 {g : Int → Int → Bool} {i j : Int} : RB K mu (rI0 fun i j => .bl (g i j)) (dI i) (dI j) (dB (g i j)) := fun as fr H v1 v2 hk r1 r2 Q k => by cases r1; cases r2; exact ⟨i, j, rfl, rfl, k.bl⟩
theorem rb_i {C : Int → Int → Prop} {g : Int → Int → Int} {i j : Int} (hc : C i j) : RB K mu (rI C fun i j => .int (g i j)) (dI i) (dI j) (dI (g i j)) := fun as fr H v1 v2 hk r1 r2 Q k => by cases r1; cases r2; exact ⟨i, j, rfl, rfl, hc, k.int⟩
theorem rb_add {i j : Int} : RB K mu (rAddU K) (dI i) (dI j) (dI (i + j)) := fun as fr H v1 v2 hk r1 r2 Q k => .inl (.inl (rb_i0 as fr H v1 v2 hk r1 r2 Q k))
theorem rb_addS {a b : List Nat} (h : a.length + b.length ≤ 1000000) : RB K mu (rAddU K) (dS a) (dS b) (dS (a ++ b)) := fun as fr H v1 v2 hk r1 r2 Q k => by
  cases r1; cases r2
  exact .inl (.inr ⟨_, _, rfl, rfl, by rw [len_txt, len_txt]; exact sz_of h, by rw [app_txt]; exact k.str⟩)
/-- list + list, tuple + tuple, of data -/
theorem rb_addL {a b : List PyData} (h : a.length + b.length ≤ 1000000) : RB K mu (rAddU K) (dL a) (dL b) (dL (a ++ b)) := fun as fr H v1 v2 hk r1 r2 Q k => by
  cases r1 with
  | lst h1 a1 => cases r2 with
    | lst h2 a2 => exact .inr (.inl ⟨_, _, _, _, rfl, rfl, sqL_ex off_le h1, sqL_ex off_le h2, by rw [da_length a1, da_length a2]; exact sz_of h, fun p hp => k.lst hk hp (da_append a1 a2)⟩)
theorem rb_addT {a b : List PyData} (h : a.length + b.length ≤ 1000000) : RB K mu (rAddU K) (dT a) (dT b) (dT (a ++ b)) := fun as fr H v1 v2 hk r1 r2 Q k => by
  cases r1 with
  | tup h1 a1 => cases r2 with
    | tup h2 a2 =>
      refine .inr (.inr ⟨_, _, _, _, rfl, rfl, sqT_ex off_le h1, sqT_ex off_le h2, by rw [da_length a1, da_length a2]; exact sz_of h, fun e => ?_, fun _ e => ?_, fun _ _ p hp => k.tup hk hp (da_append a1 a2)⟩)
      · subst e
        cases a1
        exact k.same (.tup h2 a2)
      · subst e
        cases a2
        rw [List.append_nil] at k
        exact k.same (.tup h1 a1)
theorem rb_addO {i j : Nat} {a b : List PyData} (hi : mu[i]? = some (.l a)) (hj : mu[j]? = some (.l b)) (h : a.length + b.length ≤ 1000000) : RB K mu (rAddU K) (.o i) (.o j) (dL (a ++ b)) := fun as fr H v1 v2 hk r1 r2 Q k => by
  obtain ⟨p, hp, e⟩ := r1
  subst e
  obtain ⟨q, hq, e⟩ := r2
  subst e
  obtain ⟨vs, hv, ha⟩ := hk.mu.2 i p _ hp hi
  obtain ⟨ws, hw, hb⟩ := hk.mu.2 j q _ hq hj
  exact .inr (.inl ⟨_, _, _, _, rfl, rfl, sqL_of hv, sqL_of hw, by rw [da_length ha, da_length hb]; exact sz_of h, fun p hp => k.lst hk hp (da_append ha hb)⟩)
theorem rb_addOL {i : Nat} {a b : List PyData} (hi : mu[i]? = some (.l a)) (h : a.length + b.length ≤ 1000000) : RB K mu (rAddU K) (.o i) (dL b) (dL (a ++ b)) := fun as fr H v1 v2 hk r1 r2 Q k => by
  obtain ⟨p, hp, e⟩ := r1
  subst e
  obtain ⟨vs, hv, ha⟩ := hk.mu.2 i p _ hp hi
  cases r2 with
  | lst h2 a2 => exact .inr (.inl ⟨_, _, _, _, rfl, rfl, sqL_of hv, sqL_ex off_le h2, by rw [da_length ha, da_length a2]; exact sz_of h, fun p hp => k.lst hk hp (da_append ha a2)⟩)
theorem rb_sub {i j : Int} : RB K mu (rI0 fun i j => .int (i - j)) (dI i) (dI j) (dI (i - j)) := rb_i0
theorem rb_mul {i j : Int} (h : (-(2 ^ 64) < i ∧ i < 2 ^ 64) ∨ (-(2 ^ 64) < j ∧ j < 2 ^ 64)) : RB K mu rMulU (dI i) (dI j) (dI (i * j)) := fun as fr H v1 v2 hk r1 r2 Q k => .inl (.inl (rb_i (C := CMul) h as fr H v1 v2 hk r1 r2 Q k))
theorem rb_mulS {a : List Nat} {n : Int} (N : Nat) (h0 : n ≤ N) (h1 : -(2 ^ 63) ≤ n) (h2 : N ≤ 1000000) (h : a.length * N ≤ 1000000) : RB K mu rMulU (dS a) (dI n) (dS (rep a n.toNat)) := fun as fr H v1 v2 hk r1 r2 Q k => by
  cases r1; cases r2
  exact .inl (.inr ⟨_, _, rfl, rfl, mulOk_of a.length N (by rw [len_txt]; exact Nat.le_refl _) h0 h1 (by omega) (by omega), by rw [mul_txt]; exact k.str⟩)
theorem rb_fdiv {i j : Int} (h : CDivN i j) : RB K mu (rI CDivN fun i j => .int (i.fdiv j)) (dI i) (dI j) (dI (i.fdiv j)) := rb_i h
theorem rb_mod {i j : Int} (h : j ≠ 0) : RB K mu (rI (fun _ j => j ≠ 0) fun i j => .int (i.fmod j)) (dI i) (dI j) (dI (i.fmod j)) := rb_i (C := fun _ j => j ≠ 0) h
theorem rb_pow {i j : Int} (h : CPow i j) : RB K mu (rI CPow fun i j => .int (i ^ j.toNat)) (dI i) (dI j) (dI (i ^ j.toNat)) := rb_i h
theorem nat_fdiv (a b : Nat) : (a : Int).fdiv (b : Int) = ((a / b : Nat) : Int) := by
  rw [Int.fdiv_eq_ediv_of_nonneg _ (Int.natCast_nonneg b)]; rfl
theorem nat_fmod (a b : Nat) : (a : Int).fmod (b : Int) = ((a % b : Nat) : Int) := by
  rw [Int.fmod_eq_emod_of_nonneg _ (Int.natCast_nonneg b)]; rfl
/-- // and % of numbers that are not negative -/
theorem rb_fdivN {i j : Int} {a b : Nat} (ha : i = a) (hb : j = b) (h : 0 < b ∧ b < 1073741824) : RB K mu (rI CDivN fun i j => .int (i.fdiv j)) (dI i) (dI j) (dI ((a / b : Nat) : Int)) := by
  subst ha; subst hb
  rw [← nat_fdiv]; exact rb_fdiv ⟨by omega, by omega⟩
theorem rb_modN {i j : Int} {a b : Nat} (ha : i = a) (hb : j = b) (h : 0 < b) : RB K mu (rI (fun _ j => j ≠ 0) fun i j => .int (i.fmod j)) (dI i) (dI j) (dI ((a % b : Nat) : Int)) := by
  subst ha; subst hb
  rw [← nat_fmod]; exact rb_mod (by omega)
/-! == -/
def scalD : PyData → PyData → Bool
  | .none, .none => true | .none, .int _ => true | .int _, .none => true | .none, .bool _ => true | .bool _, .none => true | .none, .str _ => true | .str _, .none => true
  | .int _, .int _ => true | .bool _, .bool _ => true | .str _, .str _ => true | .int _, .str _ => true | .str _, .int _ => true | .bool _, .str _ => true | .str _, .bool _ => true
  | _, _ => false
theorem rb_eqI {i j : Int} : RB K mu (rEqU K) (dI i) (dI j) (dB (decide (i = j))) := fun as fr H v1 v2 hk r1 r2 Q k => by
  cases r1; cases r2
  refine .inl ⟨rfl, ?_⟩
  have e : decide (V.int i = V.int j) = decide (i = j) := by simp
  rw [e]; exact k.bl
theorem rb_eqS {a b : List Nat} : RB K mu (rEqU K) (dS a) (dS b) (dB (decide (a = b))) := fun as fr H v1 v2 hk r1 r2 Q k => by
  cases r1; cases r2
  refine .inl ⟨rfl, ?_⟩
  have e : decide (V.str ⟨a.toArray⟩ = V.str ⟨b.toArray⟩) = decide (a = b) := by
    by_cases h : a = b
    · subst h; simp
    · rw [decide_eq_false h, decide_eq_false]; intro h2; injection h2 with h2; exact h (txt_inj h2)
  rw [e]; exact k.bl
theorem rb_eqB {i j : Bool} : RB K mu (rEqU K) (dB i) (dB j) (dB (decide (i = j))) := fun as fr H v1 v2 hk r1 r2 Q k => by
  cases r1; cases r2
  refine .inl ⟨rfl, ?_⟩
  have e : decide (V.bl i = V.bl j) = decide (i = j) := by cases i <;> cases j <;> rfl
  rw [e]; exact k.bl
theorem rb_eqD {d e : PyData} (h1 : SeqAt.shaped d = true) (h2 : SeqAt.shaped e = true) : RB K mu (rEqU K) (.d d) (.d e) (dB (PyData.eqv d e)) := fun as fr H v1 v2 hk r1 r2 Q k => .inr (.inl ⟨d, e, dp_ex off_le r1, dp_ex off_le r2, h1, h2, k.bl⟩)
theorem rb_eqX {d e : PyData} (hz : min d.depth e.depth ≤ 60) : RB K mu (rEqU K) (.d d) (.d e) (dB (PyData.eqv d e)) := fun as fr H v1 v2 hk r1 r2 Q k => .inr (.inr ⟨d, e, dp_ex off_le r1, dp_ex off_le r2, hz, k.bl⟩)
theorem rb_neX {d e : PyData} (hz : min d.depth e.depth ≤ 60) : RB K mu (rNeU K) (.d d) (.d e) (dB (!PyData.eqv d e)) := fun as fr H v1 v2 hk r1 r2 Q k => .inr (.inr ⟨d, e, dp_ex off_le r1, dp_ex off_le r2, hz, k.bl⟩)
theorem rb_neI {i j : Int} : RB K mu (rNeU K) (dI i) (dI j) (dB (!decide (i = j))) := fun as fr H v1 v2 hk r1 r2 Q k => by
  cases r1; cases r2
  refine .inl ⟨rfl, ?_⟩
  have e : decide (V.int i = V.int j) = decide (i = j) := by simp
  rw [e]; exact k.bl
theorem rb_neS {a b : List Nat} : RB K mu (rNeU K) (dS a) (dS b) (dB (!decide (a = b))) := fun as fr H v1 v2 hk r1 r2 Q k => by
  cases r1; cases r2
  refine .inl ⟨rfl, ?_⟩
  have e : decide (V.str ⟨a.toArray⟩ = V.str ⟨b.toArray⟩) = decide (a = b) := by
    by_cases h : a = b
    · subst h; simp
    · rw [decide_eq_false h, decide_eq_false]; intro h2; injection h2 with h2; exact h (txt_inj h2)
  rw [e]; exact k.bl
theorem rb_neB {i j : Bool} : RB K mu (rNeU K) (dB i) (dB j) (dB (!decide (i = j))) := fun as fr H v1 v2 hk r1 r2 Q k => by
  cases r1; cases r2
  refine .inl ⟨rfl, ?_⟩
  have e : decide (V.bl i = V.bl j) = decide (i = j) := by cases i <;> cases j <;> rfl
  rw [e]; exact k.bl
theorem rb_neD {d e : PyData} (h1 : SeqAt.shaped d = true) (h2 : SeqAt.shaped e = true) : RB K mu (rNeU K) (.d d) (.d e) (dB (!PyData.eqv d e)) := fun as fr H v1 v2 hk r1 r2 Q k => .inr (.inl ⟨d, e, dp_ex off_le r1, dp_ex off_le r2, h1, h2, k.bl⟩)
theorem rb_isN {d : PyData} : RB K mu (fun x y H Q => y = .non ∧ Q (.bl (decide (x = .non))) H) (.d d) dN (dB (match d with | .none => true | _ => false)) := fun as fr H v1 v2 hk r1 r2 Q k => by
  cases r2
  refine ⟨rfl, ?_⟩
  cases r1 <;> exact k.bl
theorem rb_notN {d : PyData} : RB K mu (fun x y H Q => y = .non ∧ Q (.bl (!decide (x = .non))) H) (.d d) dN (dB (match d with | .none => false | _ => true)) := fun as fr H v1 v2 hk r1 r2 Q k => by
  cases r2
  refine ⟨rfl, ?_⟩
  cases r1 <;> exact k.bl
theorem rb_ltI {i j : Int} : RB K mu (rLtU K) (dI i) (dI j) (dB (decide (i < j))) := fun as fr H v1 v2 hk r1 r2 Q k => .inl (.inl (rb_b0 as fr H v1 v2 hk r1 r2 Q k))
theorem rb_ltS {a b : List Nat} : RB K mu (rLtU K) (dS a) (dS b) (dB (decide (a < b))) := fun as fr H v1 v2 hk r1 r2 Q k => by
  cases r1; cases r2
  exact .inl (.inr ⟨_, _, rfl, rfl, by simpa using k.bl⟩)
theorem rb_le {i j : Int} : RB K mu (rLeU K) (dI i) (dI j) (dB (decide (i ≤ j))) := fun as fr H v1 v2 hk r1 r2 Q k => .inl (.inl (rb_b0 as fr H v1 v2 hk r1 r2 Q k))
theorem rb_gt {i j : Int} : RB K mu (rGtU K) (dI i) (dI j) (dB (decide (j < i))) := fun as fr H v1 v2 hk r1 r2 Q k => .inl (.inl (rb_b0 as fr H v1 v2 hk r1 r2 Q k))
theorem rb_gtS {a b : List Nat} : RB K mu (rGtU K) (dS a) (dS b) (dB (decide (b < a))) := fun as fr H v1 v2 hk r1 r2 Q k => by
  cases r1; cases r2
  exact .inl (.inr ⟨_, _, rfl, rfl, k.bl⟩)
theorem rb_leS {a b : List Nat} : RB K mu (rLeU K) (dS a) (dS b) (dB (!decide (b < a))) := fun as fr H v1 v2 hk r1 r2 Q k => by
  cases r1; cases r2
  exact .inl (.inr ⟨_, _, rfl, rfl, k.bl⟩)
theorem rb_geS {a b : List Nat} : RB K mu (rGeU K) (dS a) (dS b) (dB (!decide (a < b))) := fun as fr H v1 v2 hk r1 r2 Q k => by
  cases r1; cases r2
  exact .inl (.inr ⟨_, _, rfl, rfl, k.bl⟩)
theorem rb_ltX {d e : PyData} (ha : alike d e = true) (hn : d ≠ .none) (hz : min d.depth e.depth ≤ 60) : RB K mu (rLtU K) (.d d) (.d e) (dB (dataLt d e)) := fun as fr H v1 v2 hk r1 r2 Q k => .inr ⟨d, e, dp_ex off_le r1, dp_ex off_le r2, ha, hn, hz, k.bl⟩
theorem rb_gtX {d e : PyData} (ha : alike d e = true) (hn : d ≠ .none) (hz : min d.depth e.depth ≤ 60) : RB K mu (rGtU K) (.d d) (.d e) (dB (dataLt e d)) := fun as fr H v1 v2 hk r1 r2 Q k => .inr ⟨d, e, dp_ex off_le r1, dp_ex off_le r2, ha, hn, hz, k.bl⟩
theorem rb_leX {d e : PyData} (ha : alike d e = true) (hn : d ≠ .none) (hz : min d.depth e.depth ≤ 60) : RB K mu (rLeU K) (.d d) (.d e) (dB (!dataLt e d)) := fun as fr H v1 v2 hk r1 r2 Q k => .inr ⟨d, e, dp_ex off_le r1, dp_ex off_le r2, ha, hn, hz, k.bl⟩
theorem rb_geX {d e : PyData} (ha : alike d e = true) (hn : d ≠ .none) (hz : min d.depth e.depth ≤ 60) : RB K mu (rGeU K) (.d d) (.d e) (dB (!dataLt d e)) := fun as fr H v1 v2 hk r1 r2 Q k => .inr ⟨d, e, dp_ex off_le r1, dp_ex off_le r2, ha, hn, hz, k.bl⟩
theorem rb_ge {i j : Int} : RB K mu (rGeU K) (dI i) (dI j) (dB (decide (j ≤ i))) := fun as fr H v1 v2 hk r1 r2 Q k => .inl (.inl (rb_b0 as fr H v1 v2 hk r1 r2 Q k))
/-! in -/
theorem rb_inC {c : Nat} {l : List Nat} : RB K mu (rInU K) (dS [c]) (dS l) (dB (decide (c ∈ l))) := fun as fr H v1 v2 hk r1 r2 Q k => by
  cases r1; cases r2
  exact .inl ⟨c, _, rfl, rfl, by simpa using k.bl⟩
theorem rb_ninC {c : Nat} {l : List Nat} : RB K mu (rNotInU K) (dS [c]) (dS l) (dB (!decide (c ∈ l))) := fun as fr H v1 v2 hk r1 r2 Q k => by
  cases r1; cases r2
  exact .inl ⟨c, _, rfl, rfl, by simpa using k.bl⟩
theorem inV_strs {a : Str} : ∀ {xs : List Str}, inV (.str a) (xs.map V.str) = decide (a ∈ xs)
  | [] => rfl
  | b :: xs => by
    have ih := inV_strs (a := a) (xs := xs)
    unfold inV at ih ⊢
    rw [List.map_cons, List.any_cons, ih]
    have e : eqV (.str b) (.str a) = decide (b = a) := by
      show (b == a) = decide (b = a)
      by_cases h : b = a
      · subst h; simp
      · rw [decide_eq_false h]; simpa using h
    rw [e]
    by_cases h : b = a
    · subst h; simp
    · simp [h, Ne.symm h]
theorem flat_strs : ∀ xs : List Str, (xs.map V.str).all flatV = true
  | [] => rfl
  | _ :: xs => by rw [List.map_cons, List.all_cons, flat_strs xs]; rfl
theorem strsV {H : Hp} {vs : List V} {ls : List (List Nat)} (h : DpAll K H vs (ls.map pS)) : vs = (ls.map fun l => (⟨l.toArray⟩ : Str)).map V.str := by
  have e : ls.map pS = (ls.map fun l => (⟨l.toArray⟩ : Str)).map PyData.str := by simp
  rw [e] at h; exact da_strs h
theorem rb_inLS {a : List Nat} {ls : List (List Nat)} : RB K mu (rInU K) (dS a) (dL (ls.map pS)) (dB (decide (a ∈ ls))) := fun as fr H v1 v2 hk r1 r2 Q k => by
  cases r1
  cases r2 with
  | lst hs ha =>
    have e := strsV ha
    subst e
    refine .inr (.inl ⟨_, _, rfl, .inl (sqL_ex off_le hs), rfl, flat_strs _, ?_⟩)
    rw [if_neg Bool.false_ne_true, inV_strs]
    have : decide ((⟨a.toArray⟩ : Str) ∈ ls.map fun l => (⟨l.toArray⟩ : Str)) = decide (a ∈ ls) := by
      by_cases h : a ∈ ls
      · rw [decide_eq_true h, decide_eq_true (List.mem_map.mpr ⟨a, h, rfl⟩)]
      · rw [decide_eq_false h, decide_eq_false]
        intro h2
        obtain ⟨b, h3, h4⟩ := List.mem_map.mp h2
        exact h (txt_inj h4 ▸ h3)
    rw [this]; exact k.bl
theorem rb_ninLS {a : List Nat} {ls : List (List Nat)} : RB K mu (rNotInU K) (dS a) (dL (ls.map pS)) (dB (!decide (a ∈ ls))) := fun as fr H v1 v2 hk r1 r2 Q k => by
  cases r1
  cases r2 with
  | lst hs ha =>
    have e := strsV ha
    subst e
    refine .inr (.inl ⟨_, _, rfl, .inl (sqL_ex off_le hs), rfl, flat_strs _, ?_⟩)
    rw [if_pos rfl, inV_strs]
    have : decide ((⟨a.toArray⟩ : Str) ∈ ls.map fun l => (⟨l.toArray⟩ : Str)) = decide (a ∈ ls) := by
      by_cases h : a ∈ ls
      · rw [decide_eq_true h, decide_eq_true (List.mem_map.mpr ⟨a, h, rfl⟩)]
      · rw [decide_eq_false h, decide_eq_false]
        intro h2
        obtain ⟨b, h3, h4⟩ := List.mem_map.mp h2
        exact h (txt_inj h4 ▸ h3)
    rw [this]; exact k.bl
theorem rb_inLX {d : PyData} {ds : List PyData} (hz : min (PyData.depthAll ds) d.depth ≤ 60) : RB K mu (rInU K) (.d d) (dL ds) (dB (ds.any fun z => PyData.eqv z d)) := fun as fr H v1 v2 hk r1 r2 Q k => .inr (.inr (.inl ⟨d, ds, dp_ex off_le r1, .inl (dp_ex off_le r2), hz, k.bl⟩))
theorem rb_inTX {d : PyData} {ds : List PyData} (hz : min (PyData.depthAll ds) d.depth ≤ 60) : RB K mu (rInU K) (.d d) (dT ds) (dB (ds.any fun z => PyData.eqv z d)) := fun as fr H v1 v2 hk r1 r2 Q k => .inr (.inr (.inl ⟨d, ds, dp_ex off_le r1, .inr (dp_ex off_le r2), hz, k.bl⟩))
theorem rb_ninLX {d : PyData} {ds : List PyData} (hz : min (PyData.depthAll ds) d.depth ≤ 60) : RB K mu (rNotInU K) (.d d) (dL ds) (dB (!ds.any fun z => PyData.eqv z d)) := fun as fr H v1 v2 hk r1 r2 Q k => .inr (.inr (.inl ⟨d, ds, dp_ex off_le r1, .inl (dp_ex off_le r2), hz, k.bl⟩))
theorem rb_ninTX {d : PyData} {ds : List PyData} (hz : min (PyData.depthAll ds) d.depth ≤ 60) : RB K mu (rNotInU K) (.d d) (dT ds) (dB (!ds.any fun z => PyData.eqv z d)) := fun as fr H v1 v2 hk r1 r2 Q k => .inr (.inr (.inl ⟨d, ds, dp_ex off_le r1, .inr (dp_ex off_le r2), hz, k.bl⟩))
/-! places -/
theorem atI_nat {α : Type} {xs : List α} {n : Nat} {v : α} (h : xs[n]? = some v) : atI xs (n : Int) = some v := by
  have hn := (List.getElem?_eq_some_iff.mp h).1
  unfold atI
  rw [ixN_nat hn]; exact h
theorem rb_ixS {l : List Nat} {i : Int} {c : Nat} (n : Nat) (hi : i = n) (h : l[n]? = some c) (hl : l.length ≤ 1000000) : RB K mu (rIx K) (dS l) (dI i) (dS [c]) := fun as fr H v1 v2 hk r1 r2 Q k => by
  cases r1; cases r2
  subst hi
  exact .inr (.inr ⟨_, _, c, rfl, rfl, by rw [len_txt]; exact sz_of hl, by simpa using atI_nat h, k.str⟩)
theorem atI_get {i : Int} {xs : List V} {ds : List PyData} {H : Hp} {d : PyData} (ha : DpAll K H xs ds) (h : atI ds i = some d) : ∃ v, atI xs i = some v ∧ Dp K H v d := by
  unfold atI at h ⊢
  rw [da_length ha]
  cases e : ixN ds.length i with
  | none => rw [e] at h; cases h
  | some j =>
    rw [e] at h
    exact da_get ha h
theorem rb_ixL {ds : List PyData} {i : Int} {d : PyData} (h : atI ds i = some d) : RB K mu (rIx K) (dL ds) (dI i) (.d d) := fun as fr H v1 v2 hk r1 r2 Q k => by
  cases r2
  cases r1 with
  | lst hs ha =>
    obtain ⟨v, h1, h2⟩ := atI_get ha h
    exact .inl ⟨_, _, i, v, rfl, rfl, sqL_ex off_le hs, h1, k.same h2⟩
theorem rb_ixT {ds : List PyData} {i : Int} {d : PyData} (h : atI ds i = some d) : RB K mu (rIx K) (dT ds) (dI i) (.d d) := fun as fr H v1 v2 hk r1 r2 Q k => by
  cases r2
  cases r1 with
  | tup hs ha =>
    obtain ⟨v, h1, h2⟩ := atI_get ha h
    exact .inr (.inl ⟨_, _, i, v, rfl, rfl, sqT_ex off_le hs, h1, k.same h2⟩)
/-- of our own list -/
theorem rb_ixO {j : Nat} {ds : List PyData} {i : Int} {d : PyData} (hm : mu[j]? = some (.l ds)) (h : atI ds i = some d) : RB K mu (rIx K) (.o j) (dI i) (.d d) := fun as fr H v1 v2 hk r1 r2 Q k => by
  cases r2
  obtain ⟨p, hp, e⟩ := r1
  subst e
  obtain ⟨vs, hv, ha⟩ := hk.mu.2 j p _ hp hm
  obtain ⟨v, h1, h2⟩ := atI_get ha h
  exact .inl ⟨_, _, i, v, rfl, rfl, sqL_of hv, h1, k.same h2⟩
/-! slices of texts -/
theorem rsl_S {l : List Nat} {lo hi : Option Int} (hl : l.length ≤ 1000000) : RSl K mu (rSlU K) (dS l) lo hi (dS (cutL l lo hi)) := fun as fr H v hk r Q k => by
  cases r
  exact .inl (.inr ⟨_, rfl, by rw [len_txt]; exact sz_of hl, by rw [cutS_txt]; exact k.str⟩)
theorem rsl_to {l : List Nat} {i : Int} (n : Nat) (h : i = n) (hl : l.length ≤ 1000000) : RSl K mu (rSlU K) (dS l) none (some i) (dS (l.take n)) := by
  subst h; rw [← cutL_to]; exact rsl_S hl
theorem rsl_from {l : List Nat} {i : Int} (n : Nat) (h : i = n) (hl : l.length ≤ 1000000) : RSl K mu (rSlU K) (dS l) (some i) none (dS (l.drop n)) := by
  subst h; rw [← cutL_from]; exact rsl_S hl
theorem rsl_mid {l : List Nat} {i j : Int} (m n : Nat) (h : i = m) (h' : j = n) (hl : l.length ≤ 1000000) : RSl K mu (rSlU K) (dS l) (some i) (some j) (dS ((l.take n).drop m)) := by
  subst h; subst h'; rw [← cutL_mid]; exact rsl_S hl
theorem cutV_all {H : Hp} {vs : List V} {ds : List PyData} (h : DpAll K H vs ds) (lo hi : Option Int) : DpAll K H (cutV vs lo hi) (cutL ds lo hi) := by
  unfold cutV cutL
  rw [da_length h]; exact da_take _ (da_drop _ h)
theorem rsl_L {ds : List PyData} {lo hi : Option Int} : RSl K mu (rSlU K) (dL ds) lo hi (dL (cutL ds lo hi)) := fun as fr H v hk r Q k => by
  cases r with
  | lst hs ha => exact .inl (.inl ⟨_, _, rfl, sqL_ex off_le hs, fun p hp => k.lst hk hp (cutV_all ha lo hi)⟩)
theorem rsl_T {ds : List PyData} {lo hi : Option Int} : RSl K mu (rSlU K) (dT ds) lo hi (dT (cutL ds lo hi)) := fun as fr H v hk r Q k => by
  cases r with
  | tup hs ha =>
    refine .inr ⟨_, _, rfl, sqT_ex off_le hs, fun hw => ?_, fun _ p hp => k.tup hk hp (cutV_all ha lo hi)⟩
    have e : cutL ds lo hi = ds := by
      unfold cutL
      rw [da_length ha] at hw
      rw [hw.1, hw.2, Nat.sub_zero, List.drop_zero, List.take_length]
    rw [e] at k
    exact k.same (.tup hs ha)
theorem ew_revS {te : TE} {P : AV → Mu → Prop} (h : EW K te S fun a mu => ∃ l : List Nat, a = dS l ∧ l.length ≤ 1000000 ∧ P (dS l.reverse) mu) : EW K (tRevS te) S P := fun Z as0 as fr σ H ok Q q =>
  h Z as0 as fr σ H ok _ fun v H1 a mu1 g ok1 r ⟨l, e, hl, p⟩ => by
    subst e
    cases r
    refine ⟨_, rfl, by rw [len_txt]; exact sz_of hl, ?_⟩
    have e : (⟨(⟨l.toArray⟩ : Str).cps.toList.reverse.toArray⟩ : Str) = ⟨l.reverse.toArray⟩ := by simp
    rw [e]
    exact q _ H1 (dS l.reverse) mu1 g ok1 rv_str p
theorem ev_revS {te : TE} {l : List Nat} (h : EV K te S (dS l)) (hl : l.length ≤ 1000000) : EV K (tRevS te) S (dS l.reverse) := ew_revS (h.ew ⟨l, rfl, hl, rfl, rfl⟩)
/-! calls -/
theorem ra_lenS {l : List Nat} (hl : l.length ≤ 1000000) : RA K mu (rLen K) [dS l] (dI l.length) := fun as fr H vs hk r Q k => by
  cases r with
  | cons r1 r =>
    cases r; cases r1
    exact ⟨_, l.length, rfl, ⟨by rw [len_txt]; exact sz_of hl, by rw [len_txt]⟩, k.int⟩
theorem ra_lenL {ds : List PyData} : RA K mu (rLen K) [dL ds] (dI ds.length) := fun as fr H vs hk r Q k => by
  cases r with
  | cons r1 r =>
    cases r
    cases r1 with
    | lst hs ha => exact ⟨_, _, rfl, .inl ⟨_, sqL_ex off_le hs, rfl⟩, by rw [da_length ha]; exact k.int⟩
theorem ra_lenT {ds : List PyData} : RA K mu (rLen K) [dT ds] (dI ds.length) := fun as fr H vs hk r Q k => by
  cases r with
  | cons r1 r =>
    cases r
    cases r1 with
    | tup hs ha => exact ⟨_, _, rfl, .inr ⟨_, sqT_ex off_le hs, rfl⟩, by rw [da_length ha]; exact k.int⟩
theorem ra_lenO {j : Nat} {ds : List PyData} (hm : mu[j]? = some (.l ds)) : RA K mu (rLen K) [.o j] (dI ds.length) := fun as fr H vs hk r Q k => by
  cases r with
  | cons r1 r =>
    cases r
    obtain ⟨p, hp, e⟩ := r1
    subst e
    obtain ⟨vs, hv, ha⟩ := hk.mu.2 j p _ hp hm
    exact ⟨_, _, rfl, .inl ⟨_, sqL_of hv, rfl⟩, by rw [da_length ha]; exact k.int⟩
theorem ra_int {i : Int} : RA K mu rIntU [dI i] (dI i) := fun as fr H vs hk r Q k => by
  cases r with
  | cons r1 r => cases r; cases r1; exact .inl ⟨i, rfl, k.int⟩
theorem ra_intB {b : Bool} : RA K mu rIntU [dB b] (dI (if b then 1 else 0)) := fun as fr H vs hk r Q k => by
  cases r with
  | cons r1 r => cases r; cases r1; exact .inr ⟨b, rfl, k.int⟩
theorem ra_min2 {i j : Int} : RA K mu (rMinU K) [dI i, dI j] (dI (if j < i then j else i)) := fun as fr H vs hk r Q k => by
  cases r with
  | cons r1 r => cases r with | cons r2 r => cases r; cases r1; cases r2; exact .inl (.inl ⟨i, j, rfl, k.int⟩)
theorem ra_max2 {i j : Int} : RA K mu (rMaxU K) [dI i, dI j] (dI (if j > i then j else i)) := fun as fr H vs hk r Q k => by
  cases r with
  | cons r1 r => cases r with | cons r2 r => cases r; cases r1; cases r2; exact .inl (.inl ⟨i, j, rfl, k.int⟩)
theorem ra_minL {ns : List Int} {m : Int} (h1 : m ∈ ns) (h2 : ∀ y ∈ ns, m ≤ y) : RA K mu (rMinU K) [dL (ns.map PyData.int)] (dI m) := fun as fr H vs hk r Q k => by
  cases r with
  | cons r1 r =>
    cases r
    cases r1 with
    | lst hs ha =>
      have e := da_ints ha
      subst e
      refine .inl (.inr ⟨_, ns, rfl, sqL_ex off_le hs, List.length_pos_of_mem h1, fun m' h3 h4 => ?_⟩)
      have : m' = m := Int.le_antisymm (h4 m h1) (h2 m' h3)
      subst this; exact k.int
theorem ra_maxL {ns : List Int} {m : Int} (h1 : m ∈ ns) (h2 : ∀ y ∈ ns, y ≤ m) : RA K mu (rMaxU K) [dL (ns.map PyData.int)] (dI m) := fun as fr H vs hk r Q k => by
  cases r with
  | cons r1 r =>
    cases r
    cases r1 with
    | lst hs ha =>
      have e := da_ints ha
      subst e
      refine .inl (.inr ⟨_, ns, rfl, sqL_ex off_le hs, List.length_pos_of_mem h1, fun m' h3 h4 => ?_⟩)
      have : m' = m := Int.le_antisymm (h2 m' h3) (h4 m h1)
      subst this; exact k.int
theorem ra_minX {d : PyData} {ds : List PyData} (al : AlikeAll (d :: ds)) (hz : PyData.depthAll (d :: ds) ≤ 60) : RA K mu (rMinU K) [dL (d :: ds)] (.d (minD d ds)) := fun as fr H vs hk r Q k => by
  cases r with
  | cons r1 r =>
    cases r
    cases r1 with
    | lst hs ha =>
      refine .inr ⟨_, _, d, ds, rfl, sqL_ex off_le hs, da_ex off_le ha, al, hz, fun i v hv hd => ?_⟩
      obtain ⟨w, hw, hx⟩ := da_get ha hd
      rw [hv] at hw; cases hw
      exact k.same hx
theorem ra_maxX {d : PyData} {ds : List PyData} (al : AlikeAll (d :: ds)) (hz : PyData.depthAll (d :: ds) ≤ 60) : RA K mu (rMaxU K) [dL (d :: ds)] (.d (maxD d ds)) := fun as fr H vs hk r Q k => by
  cases r with
  | cons r1 r =>
    cases r
    cases r1 with
    | lst hs ha =>
      refine .inr ⟨_, _, d, ds, rfl, sqL_ex off_le hs, da_ex off_le ha, al, hz, fun i v hv hd => ?_⟩
      obtain ⟨w, hw, hx⟩ := da_get ha hd
      rw [hv] at hw; cases hw
      exact k.same hx
theorem ra_sum {ns : List Int} : RA K mu (rSum K) [dL (ns.map PyData.int)] (dI ns.sum) := fun as fr H vs hk r Q k => by
  cases r with
  | cons r1 r =>
    cases r
    cases r1 with
    | lst hs ha =>
      have e := da_ints ha
      subst e
      exact ⟨_, ns, rfl, sqL_ex off_le hs, k.int⟩
theorem ra_any {bs : List Bool} : RA K mu (rAny K) [dL (bs.map PyData.bool)] (dB (bs.any id)) := fun as fr H vs hk r Q k => by
  cases r with
  | cons r1 r =>
    cases r
    cases r1 with
    | lst hs ha =>
      have e := da_bls ha
      subst e
      exact ⟨_, bs, rfl, sqL_ex off_le hs, k.bl⟩
theorem ra_all {bs : List Bool} : RA K mu (rAll K) [dL (bs.map PyData.bool)] (dB (bs.all id)) := fun as fr H vs hk r Q k => by
  cases r with
  | cons r1 r =>
    cases r
    cases r1 with
    | lst hs ha =>
      have e := da_bls ha
      subst e
      exact ⟨_, bs, rfl, sqL_ex off_le hs, k.bl⟩
theorem ra_tupL {ds : List PyData} : RA K mu (rTupU K) [dL ds] (dT ds) := fun as fr H vs hk r Q k => by
  cases r with
  | cons r1 r =>
    cases r
    cases r1 with
    | lst hs ha => exact ⟨_, _, rfl, .inl ⟨sqL_ex off_le hs, fun l hl => k.tup hk hl ha⟩⟩
theorem ra_tupT {ds : List PyData} : RA K mu (rTupU K) [dT ds] (dT ds) := fun as fr H vs hk r Q k => by
  cases r with
  | cons r1 r =>
    cases r
    cases r1 with
    | tup hs ha => exact ⟨_, _, rfl, .inr ⟨sqT_ex off_le hs, k.same (.tup hs ha)⟩⟩
theorem ra_tupO {j : Nat} {ds : List PyData} (hm : mu[j]? = some (.l ds)) : RA K mu (rTupU K) [.o j] (dT ds) := fun as fr H vs hk r Q k => by
  cases r with
  | cons r1 r =>
    cases r
    obtain ⟨p, hp, e⟩ := r1
    subst e
    obtain ⟨vs, hv, ha⟩ := hk.mu.2 j p _ hp hm
    exact ⟨_, _, rfl, .inl ⟨sqL_of hv, fun l hl => k.tup hk hl ha⟩⟩
theorem ra_listL {ds : List PyData} : RA K mu (rListU K) [dL ds] (dL ds) := fun as fr H vs hk r Q k => by
  cases r with
  | cons r1 r =>
    cases r
    cases r1 with
    | lst hs ha => exact ⟨_, _, rfl, .inl (sqL_ex off_le hs), fun l hl => k.lst hk hl ha⟩
theorem ra_listT {ds : List PyData} : RA K mu (rListU K) [dT ds] (dL ds) := fun as fr H vs hk r Q k => by
  cases r with
  | cons r1 r =>
    cases r
    cases r1 with
    | tup hs ha => exact ⟨_, _, rfl, .inr (sqT_ex off_le hs), fun l hl => k.lst hk hl ha⟩
/-! isinstance -/
def tyN : PyData → String
  | .none => "NoneType" | .bool _ => "bool" | .int _ => "int" | .str _ => "str" | .list _ => "list" | .tuple _ => "tuple" | .dict _ => "dict"
theorem tyx_of {H : Hp} {v : V} {d : PyData} (h : Dp K H v d) : TyX K H v (.type (tyN d)) := by
  cases h with
  | non => exact .base .non
  | bl b => exact .base (.bl b)
  | int i => exact .base (.int i)
  | str x => exact .base (.str x)
  | lst h _ =>
    rcases h with (h | ⟨o, h⟩) | ⟨o, its, n, h1, h2, _⟩
    · exact .base (.lst h)
    · exact .base (.frz h)
    · exact .kList h1 h2
  | tup h _ =>
    rcases h with (h | ⟨o, h⟩) | ⟨o, its, n, h1, h2, _⟩
    · exact .base (.tup h)
    · exact .fTuple h
    · exact .kTuple h1 h2
theorem ew_isi {te : TE} {n : String} {P : AV → Mu → Prop} (h : EW K te S fun a mu => ∃ d b, a = .d d ∧ kitB (tyN d) n = some b ∧ P (dB b) mu) : EW K (tCB (rIsi K) (tCons te (tCons (tC (.ty n)) tNil))) S P := fun Z as0 as fr σ H ok Q q =>
  h Z as0 as fr σ H ok _ fun v H1 a mu1 g ok1 r ⟨d, b, e, hb, p⟩ => by
    subst e
    exact ⟨v, .ty n, _, _, b, rfl, .ty n, tyx_of (dp_ex off_le r), kit_ty hb, q _ H1 (dB b) mu1 g ok1 rv_bl p⟩
theorem ev_isi {te : TE} {n : String} {d : PyData} {b : Bool} (h : EV K te S (.d d)) (hb : kitB (tyN d) n = some b) : EV K (tCB (rIsi K) (tCons te (tCons (tC (.ty n)) tNil))) S (dB b) := ew_isi (h.ew ⟨d, b, rfl, hb, rfl, rfl⟩)
/-! methods of texts -/
theorem fold_cat (ls : List (List Nat)) : ∀ acc : Array Nat, (ls.map fun l => (⟨l.toArray⟩ : Str)).foldl (fun acc p => acc ++ (⟨#[]⟩ : Str).cps ++ p.cps) acc = acc ++ ls.flatten.toArray := by
  induction ls with
  | nil => intro acc; simp
  | cons l ls ih => intro acc; rw [List.map_cons, List.foldl_cons, ih]; simp
theorem join_nil (ls : List (List Nat)) : Txt.join (⟨#[]⟩ : Str) (ls.map fun l => ⟨l.toArray⟩) = ⟨ls.flatten.toArray⟩ := by
  unfold Txt.join Builtin.Str.glued
  cases ls with
  | nil => rfl
  | cons l ls =>
    show Str.mk (List.foldl _ (l.toArray) (ls.map fun l => (⟨l.toArray⟩ : Str))) = _
    rw [fold_cat]; simp
theorem sum_len (ls : List (List Nat)) : ((ls.map fun l => (⟨l.toArray⟩ : Str)).map fun x => x.length).sum = ls.flatten.length := by
  induction ls with
  | nil => rfl
  | cons l ls ih => rw [List.map_cons, List.map_cons, List.sum_cons, ih, len_txt]; simp
/-- "".join(xs) -/
theorem rm_join {ls : List (List Nat)} (h : ls.flatten.length ≤ 1000000) : RM K mu (rJoin K) (dS []) [dL (ls.map pS)] (dS ls.flatten) := fun as fr H v vs hk r1 r2 Q k => by
  cases r1
  cases r2 with
  | cons r2 r3 =>
    cases r3
    cases r2 with
    | lst hs ha =>
      have e := strsV ha
      subst e
      refine ⟨_, _, _, rfl, rfl, .inl (sqL_ex off_le hs), ?_, ?_⟩
      · rw [sum_len, len_txt]
        simp only [List.length_nil, Nat.mul_zero, Nat.add_zero]
        omega
      · rw [show (⟨([] : List Nat).toArray⟩ : Str) = ⟨#[]⟩ from rfl, join_nil]; exact k.str
theorem ew_join {to te : TE} {P : AV → Mu → Prop} (h : EW K to S fun x mu1 => x = dS [] ∧ EW K te ⟨S.sl, mu1⟩ fun y mu2 => ∃ ls : List (List Nat), y = dL (ls.map pS) ∧ ls.flatten.length ≤ 1000000 ∧ P (dS ls.flatten) mu2) : EW K (tM1 (rJoin K) to te) S P :=
  ew_m1 (h.mono fun x mu1 ⟨e, h2⟩ => ⟨⟨_, e⟩, h2.mono fun y mu2 ⟨ls, e2, hl, p⟩ => ⟨_, by rw [e, e2]; exact rm_join hl, p⟩⟩)
theorem ev_join {to te : TE} {ls : List (List Nat)} (h : EV K to S (dS [])) (h2 : EV K te S (dL (ls.map pS))) (hl : ls.flatten.length ≤ 1000000) : EV K (tM1 (rJoin K) to te) S (dS ls.flatten) := ew_join (h.ew ⟨rfl, h2.ew ⟨ls, rfl, hl, rfl, rfl⟩⟩)
/-- sorted(xs) of ints, of texts (fewer than 64) -/
def rSortU (K : PySem.W.Frag) : List V → Hp → VK → Prop := fun xs H Q => (rSorted K xs H Q ∨ rSortedS K xs H Q) ∨ rSortX K xs H Q
end
section
variable {X : Cx}
theorem cr_sortU {K : PySem.W.Frag} (hK : X.K = K) (hu : X.A.units + 64 < cLine) : CallR X (.builtin "sorted") (rSortU K) := by subst hK; exact (cr_sorted.or cr_sortedS).or (cr_sortX hu)
end
/-- the item of a comprehension or a walk over range -/
theorem rng_at {n i : Nat} {d : PyData} (h : ((List.range n).map fun (k : Nat) => PyData.int (k : Int))[i]? = some d) : i < n ∧ d = .int (i : Int) := by
  rw [List.getElem?_map] at h
  by_cases c : i < n
  · rw [List.getElem?_range c] at h
    exact ⟨c, (Option.some.inj h).symm⟩
  · rw [List.getElem?_eq_none (by simpa using c)] at h; cases h
theorem rng2_at {m : Int} {n i : Nat} {d : PyData} (h : ((List.range n).map fun (k : Nat) => PyData.int (m + (k : Int)))[i]? = some d) : i < n ∧ d = .int (m + (i : Int)) := by
  rw [List.getElem?_map] at h
  by_cases c : i < n
  · rw [List.getElem?_range c] at h
    exact ⟨c, (Option.some.inj h).symm⟩
  · rw [List.getElem?_eq_none (by simpa using c)] at h; cases h
theorem txt_at {l : List Nat} {i : Nat} {d : PyData} (h : (l.map fun c => pS [c])[i]? = some d) : ∃ c, l[i]? = some c ∧ d = pS [c] := by
  rw [List.getElem?_map] at h
  cases e : l[i]? with
  | none => rw [e] at h; cases h
  | some c => rw [e] at h; exact ⟨c, rfl, (Option.some.inj h).symm⟩
section
variable {K : PySem.W.Frag} {mu : Mu}
theorem ra_sortX {ds : List PyData} (al : AllAlike ds) (so : Sortable ds) (hz : ∀ d ∈ ds, d.depth ≤ 60) : RA K mu (rSortU K) [dL ds] (dL (ds.mergeSort (dataLe false id))) := fun as fr H vs hk r Q k => by
  cases r with
  | cons r1 r =>
    cases r
    cases r1 with
    | lst hs ha => exact .inr ⟨_, _, ds, rfl, sqL_ex off_le hs, da_ex off_le ha, al, so, hz, fun p hp => k.lst hk hp (sort_dp (da_length ha) ha)⟩
theorem ra_sortO {j : Nat} {ds : List PyData} (hm : mu[j]? = some (.l ds)) (al : AllAlike ds) (so : Sortable ds) (hz : ∀ d ∈ ds, d.depth ≤ 60) : RA K mu (rSortU K) [.o j] (dL (ds.mergeSort (dataLe false id))) := fun as fr H vs hk r Q k => by
  cases r with
  | cons r1 r =>
    cases r
    obtain ⟨p, hp, e⟩ := r1
    subst e
    obtain ⟨vs, hv, ha⟩ := hk.mu.2 j p _ hp hm
    exact .inr ⟨_, _, ds, rfl, sqL_of hv, da_ex off_le ha, al, so, hz, fun p hp => k.lst hk hp (sort_dp (da_length ha) ha)⟩
end
end D2
set_option Elab.async false
set_option linter.all false
set_option maxRecDepth 100000
set_option maxHeartbeats 4000000
/-! DL6: comprehensions that are pure; defs by name. -/
namespace D2
open PySem PySem.Spec PyProof.Rows L2
def gath (b : Nat → Bool) (e : Nat → PyData) (n : Nat) : List PyData := ((List.range n).filter b).map e
theorem gath_yes {n : Nat} {b : Nat → Bool} {e : Nat → PyData} (h : b n = true) : gath b e (n + 1) = gath b e n ++ [e n] := by
  unfold gath
  rw [List.range_succ, List.filter_append, List.map_append, List.filter_cons, if_pos h] <;> rfl
theorem gath_no {n : Nat} {b : Nat → Bool} {e : Nat → PyData} (h : b n = false) : gath b e (n + 1) = gath b e n := by
  unfold gath
  rw [List.range_succ, List.filter_append, List.map_append, List.filter_cons, if_neg (by rw [h]; decide)]
  simp
theorem gath_all (e : Nat → PyData) (n : Nat) : gath (fun _ => true) e n = (List.range n).map e := by
  unfold gath; congr 1; simp
section
variable {K : PySem.W.Frag} {S : AS} {te : TE} {tt : TT}
theorem tv_yes : TV K tYes S true := fun Z as0 as fr σ H ok Q q => q true H S.mu Gr.refl ok ⟨rfl, rfl⟩
theorem nwe_lc {wi : TI} {g : TG} {js vs : List Nat} {ds : List PyData} (b : Nat → Bool) (e : Nat → PyData) (hI : EI K wi S ds) (hl : ds.length ≤ 1000000) (hj : ∀ j ∈ js, j ∈ vs)
    (hT : ∀ i d, ds[i]? = some d → GW K g js d ⟨wp S.sl vs, S.mu⟩ fun S2 => S2.mu = S.mu ∧ TV K tt S2 (b i) ∧ (b i = true → EV K te S2 (.d (e i)))) : NW K (tLc wi g tt te vs) S fun ds' mu => ds' = gath b e ds.length ∧ mu = S.mu :=
  nw_lc hj (hI.ew ⟨hl, fun i acc mu => acc = gath b e i ∧ mu = S.mu, ⟨rfl, rfl⟩, fun i d acc mu hd ⟨ha, hm⟩ => by
    subst ha; subst hm
    intro Z as0 as fr σ H x ok r Q q
    refine hT i d hd Z as0 as fr σ H x ok r Q fun S' σ' ok' hw ⟨hm, hb, he⟩ => q S' σ' ok' hw (hb.ew ?_)
    cases hbi : b i with
    | true => rw [if_pos rfl]; exact (he hbi).ew ⟨e i, rfl, (gath_yes hbi).symm, hm⟩
    | false => rw [if_neg Bool.false_ne_true]; exact ⟨(gath_no hbi).symm, hm⟩, fun acc mu h => h⟩)
theorem ev_lc {wi : TI} {g : TG} {js vs : List Nat} {ds : List PyData} (b : Nat → Bool) (e : Nat → PyData) (hI : EI K wi S ds) (hl : ds.length ≤ 1000000) (hj : ∀ j ∈ js, j ∈ vs)
    (hT : ∀ i d, ds[i]? = some d → GW K g js d ⟨wp S.sl vs, S.mu⟩ fun S2 => S2.mu = S.mu ∧ TV K tt S2 (b i) ∧ (b i = true → EV K te S2 (.d (e i)))) : EV K (tLc wi g tt te vs) S (dL (gath b e ds.length)) := (nwe_lc b e hI hl hj hT).ev
/-- no test -/
theorem ev_lcA {wi : TI} {g : TG} {js vs : List Nat} {ds : List PyData} (e : Nat → PyData) (hI : EI K wi S ds) (hl : ds.length ≤ 1000000) (hj : ∀ j ∈ js, j ∈ vs)
    (hT : ∀ i d, ds[i]? = some d → GW K g js d ⟨wp S.sl vs, S.mu⟩ fun S2 => S2.mu = S.mu ∧ EV K te S2 (.d (e i))) : EV K (tLc wi g tYes te vs) S (dL ((List.range ds.length).map e)) := by
  rw [← gath_all]
  refine ev_lc (fun _ => true) e hI hl hj fun i d hd => ?_
  intro Z as0 as fr σ H x ok r Q q
  exact hT i d hd Z as0 as fr σ H x ok r Q fun S' σ' ok' hw ⟨hm, he⟩ => q S' σ' ok' hw ⟨hm, tv_yes, fun _ => he⟩
end
section
variable {K : PySem.W.Frag} {S : AS} {t u : TS} {A : AE}
/-- a statement, then the rest, a word M between -/
theorem sw_mid (M : AS → Prop) (h1 : SW K t S { A with nx := M }) (h2 : ∀ S', M S' → SW K u S' A) : SW K (tSeq t u) S A := sw_seq fun Z as0 as fr σ H D ok im =>
  h1 Z as0 as fr σ H D ok ⟨im.n0, fun S' σ' H' as' o m => im.nx S' σ' H' as' o (h2 S' m), im.bk, im.ct, im.rt, im.rn⟩
/-- the end's states: one of which S knows at least so much -/
theorem le_nx {S0 : AS} {M : AS → Prop} (h : Le S0 S) (m : M S0) : ∃ S0, Le S0 S ∧ M S0 := ⟨S0, h, m⟩
end
/-! ### defs by name -/
section
variable (P : Program) (w : World) (K : PySem.W.Frag) (mg : Str → Option Value) (base : Heap)
def Def (x qual : Str) (st : Stmt) (ps : List Str) : Prop := ∃ f fd, Fun K x qual st f fd ∧ mg x = some (.ref f) ∧ Binds K fd ps []
def Has (k : Nat) (x : Str) (ps : List Str) (sp : Sp) : Prop := ∃ f fd, FnOk P w K mg base CX0 k f fd ps sp ∧ mg x = some (.ref f) ∧ PySem.W.keepIn K (.ref f) = true ∧ Binds K fd ps []
end
section
variable {P : Program} {w : World} {K : PySem.W.Frag} {mg : Str → Option Value} {base : Heap}
theorem spP_len {R : List PyData → PyData → Prop} {n : Nat} (h : ∀ ds r, R ds r → ds.length = n) {vs : List V} {H : Hp} {Q : VK} {E : XK} (q : spP K R vs H Q E) : vs.length = n := by
  obtain ⟨fr, ds, r, _, _, ra, hR, _⟩ := q
  rw [da_length ra]; exact h ds r hR
theorem spN_len {R : List PyData → List PyData → Prop} {n : Nat} (h : ∀ ds r, R ds r → ds.length = n) {vs : List V} {H : Hp} {Q : VK} {E : XK} (q : spN K R vs H Q E) : vs.length = n := by
  obtain ⟨fr, ds, r, _, _, ra, hR, _⟩ := q
  rw [da_length ra]; exact h ds r hR
theorem spD_len {R : List AV → MO → (PyData → MO → Prop) → Prop} {n : Nat} (h : ∀ ds m r, R ds m r → ds.length = n) {vs : List V} {H : Hp} {Q : VK} {E : XK} (q : spD K R vs H Q E) : vs.length = n := by
  obtain ⟨p, fr, avs, m, Post, _, _, _, ra, hR, _⟩ := q
  rw [repA_len ra]; exact h _ _ _ hR
theorem Has.mono {j k : Nat} {x : Str} {ps : List Str} {sp : Sp} (h : Has P w K mg base j x ps sp) (hk : j ≤ k) : Has P w K mg base k x ps sp := by
  obtain ⟨f, fd, F, r⟩ := h
  exact ⟨f, fd, F.mono hk, r⟩
theorem def_mk {x qual : Str} {st : Stmt} {ps : List Str} {h : Heap} {f : Addr} {oc : Value} {od an : Option Addr} {osl : Array (Option Value)} {kV doc pm cdv ct : Value} (X : K.In h) (G : h.Ns mainGlobals mg)
    (a : PySem.W.nsIn K mainGlobals x = some (some (.ref f))) (l : K.lookup f = some ⟨oc, od, .func (PySem.W.fnOf x qual (defArgs st) (defBody st) (defScope st) .none kV doc pm an cdv ct), osl⟩) (c : PySem.W.codeIn K cdv qual = true) (k : PySem.W.keepIn K (.ref f) = true)
    (hb : ∀ (kV doc pm : Value) (an : Option Addr) (cdv ct : Value) (us : List Value), us.length = ps.length → bindArgs (PySem.W.fnOf x qual (defArgs st) (defBody st) (defScope st) .none kV doc pm an cdv ct) ⟨us, []⟩ = pure (ps.zip us)) : Def K mg x qual st ps :=
  ⟨f, _, fun_mk l c k, PySem.W.mg_of X G a, (fun_mk l c k).binds hb⟩
end
end D2
set_option Elab.async false
set_option linter.all false
set_option maxRecDepth 100000
set_option maxHeartbeats 4000000
/-! DL7: numbers that are not negative as Nat; lists of texts and numbers; sides. -/
namespace D2
open PySem PySem.Spec PyProof.Rows L2
abbrev dn (n : Nat) : AV := .d (.int (n : Int))
abbrev pn (n : Nat) : PyData := .int (n : Int)
abbrev dLS (ls : List (List Nat)) : AV := .d (.list (ls.map pS))
abbrev dLI (ns : List Int) : AV := .d (.list (ns.map PyData.int))
abbrev dLN (ns : List Nat) : AV := .d (.list (ns.map pn))
section
variable {K : PySem.W.Frag} {mu : Mu} {S : AS}
theorem ev_nat (n : Nat) {i : Int} (h : i = (n : Int) := by rfl) : EV K (tC (.int i)) S (dn n) := by subst h; exact ev_int
theorem rb_addN {a b : Nat} : RB K mu (rAddU K) (dn a) (dn b) (dn (a + b)) := by
  have h := rb_add (K := K) (mu := mu) (i := (a : Int)) (j := (b : Int))
  rw [← Int.natCast_add] at h; exact h
theorem rb_subN {a b : Nat} (h : b ≤ a) : RB K mu (rI0 fun i j => .int (i - j)) (dn a) (dn b) (dn (a - b)) := by
  have h2 := rb_sub (K := K) (mu := mu) (i := (a : Int)) (j := (b : Int))
  rw [← Int.ofNat_sub h] at h2; exact h2
theorem rb_mulN {a b : Nat} (h : a < 2 ^ 64 ∨ b < 2 ^ 64) : RB K mu rMulU (dn a) (dn b) (dn (a * b)) := by
  have h2 := rb_mul (K := K) (mu := mu) (i := (a : Int)) (j := (b : Int)) (by omega)
  rw [← Int.natCast_mul] at h2; exact h2
theorem rb_fdivNN {a b : Nat} (h : 0 < b ∧ b < 1073741824) : RB K mu (rI CDivN fun i j => .int (i.fdiv j)) (dn a) (dn b) (dn (a / b)) := rb_fdivN rfl rfl h
theorem rb_modNN {a b : Nat} (h : 0 < b) : RB K mu (rI (fun _ j => j ≠ 0) fun i j => .int (i.fmod j)) (dn a) (dn b) (dn (a % b)) := rb_modN rfl rfl h
theorem rb_ipadd {i j : Int} : RB K mu (ipI fun i j => i + j) (dI i) (dI j) (dI (i + j)) := fun as fr H v1 v2 hk r1 r2 Q k => by cases r1; cases r2; exact ⟨i, j, rfl, rfl, k.int⟩
theorem rb_ipsub {i j : Int} : RB K mu (ipI fun i j => i - j) (dI i) (dI j) (dI (i - j)) := fun as fr H v1 v2 hk r1 r2 Q k => by cases r1; cases r2; exact ⟨i, j, rfl, rfl, k.int⟩
theorem rb_ipaddN {a b : Nat} : RB K mu (ipI fun i j => i + j) (dn a) (dn b) (dn (a + b)) := by
  have h := rb_ipadd (K := K) (mu := mu) (i := (a : Int)) (j := (b : Int))
  rw [← Int.natCast_add] at h; exact h
theorem rb_ipsubN {a b : Nat} (hb : b ≤ a) : RB K mu (ipI fun i j => i - j) (dn a) (dn b) (dn (a - b)) := by
  have h := rb_ipsub (K := K) (mu := mu) (i := (a : Int)) (j := (b : Int))
  rw [← Int.ofNat_sub hb] at h; exact h
theorem rb_is {r : R2} {a1 a2 a a' : AV} (h : RB K mu r a1 a2 a) (e : a = a') : RB K mu r a1 a2 a' := e ▸ h
theorem rb_eqN {a b : Nat} : RB K mu (rEqU K) (dn a) (dn b) (dB (decide (a = b))) := rb_is rb_eqI (by congr 2; simp [Int.ofNat_inj])
theorem rb_neN {a b : Nat} : RB K mu (rNeU K) (dn a) (dn b) (dB (!decide (a = b))) := rb_is rb_neI (by congr 2; simp [Int.ofNat_inj])
theorem rb_ltN {a b : Nat} : RB K mu (rLtU K) (dn a) (dn b) (dB (decide (a < b))) := rb_is rb_ltI (by congr 2; simp [Int.ofNat_lt])
theorem rb_leN {a b : Nat} : RB K mu (rLeU K) (dn a) (dn b) (dB (decide (a ≤ b))) := rb_is rb_le (by congr 2; simp [Int.ofNat_le])
theorem rb_gtN {a b : Nat} : RB K mu (rGtU K) (dn a) (dn b) (dB (decide (b < a))) := rb_is rb_gt (by congr 2; simp [Int.ofNat_lt])
theorem rb_geN {a b : Nat} : RB K mu (rGeU K) (dn a) (dn b) (dB (decide (b ≤ a))) := rb_is rb_ge (by congr 2; simp [Int.ofNat_le])
theorem rsl_toN {l : List Nat} {n : Nat} (hl : l.length ≤ 1000000) : RSl K mu (rSlU K) (dS l) none (some (n : Int)) (dS (l.take n)) := rsl_to n rfl hl
theorem rsl_fromN {l : List Nat} {n : Nat} (hl : l.length ≤ 1000000) : RSl K mu (rSlU K) (dS l) (some (n : Int)) none (dS (l.drop n)) := rsl_from n rfl hl
theorem rsl_midN {l : List Nat} {m n : Nat} (hl : l.length ≤ 1000000) : RSl K mu (rSlU K) (dS l) (some (m : Int)) (some (n : Int)) (dS ((l.take n).drop m)) := rsl_mid m n rfl rfl hl
theorem cutL_map {α β : Type} (f : α → β) (l : List α) (lo hi : Option Int) : cutL (l.map f) lo hi = (cutL l lo hi).map f := by
  unfold cutL; rw [List.length_map, List.map_take, List.map_drop]
theorem rsl_LS {ls : List (List Nat)} {lo hi : Option Int} : RSl K mu (rSlU K) (dLS ls) lo hi (dLS (cutL ls lo hi)) := by
  show RSl K mu (rSlU K) (dL (ls.map pS)) lo hi (dL ((cutL ls lo hi).map pS))
  rw [← cutL_map]; exact rsl_L
theorem rsl_LStoN {ls : List (List Nat)} {n : Nat} : RSl K mu (rSlU K) (dLS ls) none (some (n : Int)) (dLS (ls.take n)) := by rw [← cutL_to]; exact rsl_LS
theorem getD_some {α : Type} {l : List α} {n : Nat} {d : α} (h : n < l.length) : l[n]? = some (l.getD n d) := by
  rw [List.getD_eq_getElem?_getD, List.getElem?_eq_getElem h]; rfl
theorem rb_ixSN {l : List Nat} {n : Nat} (h : n < l.length) (hl : l.length ≤ 1000000) : RB K mu (rIx K) (dS l) (dn n) (dS [l.getD n 0]) := rb_ixS n rfl (getD_some h) hl
theorem rb_ixLN {ds : List PyData} {n : Nat} {d : PyData} (h : ds[n]? = some d) : RB K mu (rIx K) (dL ds) (dn n) (.d d) := rb_ixL (atI_nat h)
theorem rb_ixTN {ds : List PyData} {n : Nat} {d : PyData} (h : ds[n]? = some d) : RB K mu (rIx K) (dT ds) (dn n) (.d d) := rb_ixT (atI_nat h)
theorem rb_ixLS {ls : List (List Nat)} {n : Nat} (h : n < ls.length) : RB K mu (rIx K) (dLS ls) (dn n) (dS (ls.getD n [])) := rb_ixLN (by rw [List.getElem?_map, getD_some h]; rfl)
theorem rb_ixLI {ls : List Int} {n : Nat} (h : n < ls.length) : RB K mu (rIx K) (dLI ls) (dn n) (dI (ls.getD n 0)) := rb_ixLN (by rw [List.getElem?_map, getD_some h]; rfl)
theorem rb_ixLNN {ls : List Nat} {n : Nat} (h : n < ls.length) : RB K mu (rIx K) (dLN ls) (dn n) (dn (ls.getD n 0)) := rb_ixLN (by rw [List.getElem?_map, getD_some h]; rfl)
theorem rb_ixON {j n : Nat} {ds : List PyData} {d : PyData} (hm : mu[j]? = some (.l ds)) (h : ds[n]? = some d) : RB K mu (rIx K) (.o j) (dn n) (.d d) := rb_ixO hm (atI_nat h)
theorem ra_is {r : List V → Hp → VK → Prop} {avs : List AV} {a a' : AV} (h : RA K mu r avs a) (e : a = a') : RA K mu r avs a' := e ▸ h
theorem ra_lenSN {l : List Nat} (hl : l.length ≤ 1000000) : RA K mu (rLen K) [dS l] (dn l.length) := ra_lenS hl
theorem ra_lenLS {ls : List (List Nat)} : RA K mu (rLen K) [dLS ls] (dn ls.length) := ra_is ra_lenL (by rw [List.length_map])
theorem ra_lenLI {ls : List Int} : RA K mu (rLen K) [dLI ls] (dn ls.length) := ra_is ra_lenL (by rw [List.length_map])
theorem ra_lenLN {ls : List Nat} : RA K mu (rLen K) [dLN ls] (dn ls.length) := ra_is ra_lenL (by rw [List.length_map])
theorem ra_intN {n : Nat} : RA K mu rIntU [dn n] (dn n) := ra_int
theorem ra_intBN {b : Bool} : RA K mu rIntU [dB b] (dn b.toNat) := ra_is ra_intB (by cases b <;> rfl)
theorem ra_min2N {a b : Nat} : RA K mu (rMinU K) [dn a, dn b] (dn (min a b)) := ra_is ra_min2 (by
  congr 2
  by_cases h : (b : Int) < a
  · rw [if_pos h, Nat.min_eq_right (by omega)]
  · rw [if_neg h, Nat.min_eq_left (by omega)])
theorem ra_max2N {a b : Nat} : RA K mu (rMaxU K) [dn a, dn b] (dn (max a b)) := ra_is ra_max2 (by
  congr 2
  by_cases h : (b : Int) > a
  · rw [if_pos h, Nat.max_eq_right (by omega)]
  · rw [if_neg h, Nat.max_eq_left (by omega)])
theorem rb_mulSN {a : List Nat} {n : Nat} (h2 : n ≤ 1000000) (h : a.length * n ≤ 1000000) : RB K mu rMulU (dS a) (dn n) (dS (rep a n)) := rb_is (rb_mulS n (Int.le_refl _) (by omega) h2 h) (by rw [Int.toNat_natCast])
theorem rb_inLSN {a : List Nat} {ls : List (List Nat)} : RB K mu (rInU K) (dS a) (dLS ls) (dB (decide (a ∈ ls))) := rb_inLS
/-- what is walked, by Nat -/
theorem ei_rngN {t : TA} {n : Nat} (h : AVs K t S [dn n]) (h2 : n ≤ 1000000) : EI K (iRng1 t) S ((List.range n).map pn) := by
  have := ei_rng1 h (by omega) (by omega)
  rw [Int.toNat_natCast] at this; exact this
theorem rngN_at {n i : Nat} {d : PyData} (h : ((List.range n).map pn)[i]? = some d) : i < n ∧ d = pn i := rng_at h
theorem ei_rng2N {t : TA} {m n : Nat} (h : AVs K t S [dn m, dn n]) (h1 : m ≤ 1000000) (h2 : n ≤ 1000000) : EI K (iRng2 t) S ((List.range (n - m)).map fun k => pn (m + k)) := by
  have := ei_rng2 h (by omega)
  have e : ((n : Int) - m).toNat = n - m := by omega
  rw [e] at this
  have e2 : (fun (k : Nat) => PyData.int ((m : Int) + (k : Int))) = fun k => pn (m + k) := by
    funext k; show PyData.int _ = PyData.int _; rw [Int.natCast_add]
  rw [e2] at this; exact this
theorem rng2N_at {m n i : Nat} {d : PyData} (h : ((List.range n).map fun k => pn (m + k))[i]? = some d) : i < n ∧ d = pn (m + i) := by
  rw [List.getElem?_map] at h
  by_cases c : i < n
  · rw [List.getElem?_range c] at h
    exact ⟨c, (Option.some.inj h).symm⟩
  · rw [List.getElem?_eq_none (by simpa using c)] at h; cases h
end
end D2
set_option Elab.async false
set_option linter.all false
set_option maxRecDepth 100000
set_option maxHeartbeats 4000000
/-! DL8: dicts of our own, keys ints and texts. -/
namespace D2
open PySem PySem.Spec PyProof.Rows L2
def lookD (kvs : List (Key × PyData)) (k : Key) : Option PyData := (kvs.find? fun kv => decide (kv.1 = k)).map (·.2)
def putD (kvs : List (Key × PyData)) (k : Key) (v : PyData) : List (Key × PyData) :=
  if (kvs.any fun kv => decide (kv.1 = k)) = true then kvs.map (fun kv => if kv.1 = k then (kv.1, v) else kv) else kvs ++ [(k, v)]
abbrev kS (l : List Nat) : Key := .inr ⟨l.toArray⟩
theorem kS_inj {a b : List Nat} : kS a = kS b ↔ a = b := ⟨fun h => txt_inj (Sum.inr.inj h), fun h => by rw [h]⟩
theorem lookD_nil (k : Key) : lookD [] k = none := rfl
theorem lookD_cons (p : Key × PyData) (r : List (Key × PyData)) (k : Key) : lookD (p :: r) k = if p.1 = k then some p.2 else lookD r k := by
  unfold lookD
  rw [List.find?_cons]
  by_cases h : p.1 = k
  · rw [if_pos h]; simp [h]
  · rw [if_neg h]; simp [h]
theorem lookD_any (k : Key) : ∀ kvs : List (Key × PyData), (kvs.any fun kv => decide (kv.1 = k)) = (lookD kvs k).isSome
  | [] => rfl
  | p :: r => by
    rw [List.any_cons, lookD_cons, lookD_any k r]
    by_cases h : p.1 = k
    · simp [h]
    · simp [h]
theorem lookD_put_same (kvs : List (Key × PyData)) (k : Key) (v : PyData) : lookD (putD kvs k v) k = some v := by
  unfold putD
  split
  · rename_i h
    induction kvs with
    | nil => simp at h
    | cons p r ih =>
      rw [List.map_cons, lookD_cons]
      by_cases e : p.1 = k
      · simp [e]
      · rw [if_neg e, if_neg e]
        exact ih (by rw [List.any_cons] at h; simpa [e] using h)
  · rename_i h
    rw [lookD_any] at h
    have hn : lookD kvs k = none := by
      cases q : lookD kvs k with
      | none => rfl
      | some d => rw [q] at h; simp at h
    clear h
    induction kvs with
    | nil => simp [lookD_cons]
    | cons p r ih =>
      rw [lookD_cons] at hn
      by_cases e : p.1 = k
      · rw [if_pos e] at hn; cases hn
      · rw [if_neg e] at hn
        rw [List.cons_append, lookD_cons, if_neg e]; exact ih hn
theorem lookD_put_other (kvs : List (Key × PyData)) (k k2 : Key) (v : PyData) (hk : k ≠ k2) : lookD (putD kvs k v) k2 = lookD kvs k2 := by
  unfold putD
  split
  · induction kvs with
    | nil => rfl
    | cons p r ih =>
      rw [List.map_cons, lookD_cons, lookD_cons]
      by_cases e : p.1 = k
      · rw [if_pos e]
        have : ¬ p.1 = k2 := fun z => hk (e.symm.trans z)
        by_cases h : (r.any fun kv => decide (kv.1 = k)) = true
        · show (if p.1 = k2 then some v else _) = _
          rw [if_neg this, if_neg this]; exact ih h
        · show (if p.1 = k2 then some v else _) = _
          rw [if_neg this, if_neg this]
          congr 1
          have : r.map (fun kv => if kv.1 = k then (kv.1, v) else kv) = r := by
            have h' : ∀ q ∈ r, ¬ q.1 = k := fun q hq e2 => h (List.any_eq_true.mpr ⟨q, hq, decide_eq_true e2⟩)
            rw [List.map_congr_left (g := id) fun q hq => by rw [if_neg (h' q hq)]; rfl]; simp
          exact this
      · rename_i h
        rw [if_neg e]
        have h2 : (r.any fun kv => decide (kv.1 = k)) = true := by rw [List.any_cons] at h; simpa [e] using h
        by_cases e2 : p.1 = k2
        · rw [if_pos e2, if_pos e2]
        · rw [if_neg e2, if_neg e2]; exact ih h2
  · induction kvs with
    | nil => simp [lookD_cons, hk, lookD_nil]
    | cons p r ih =>
      rename_i h
      rw [List.cons_append, lookD_cons, lookD_cons]
      by_cases e2 : p.1 = k2
      · rw [if_pos e2, if_pos e2]
      · rw [if_neg e2, if_neg e2]
        exact ih (by rw [List.any_cons] at h; intro z; exact h (by rw [z]; simp))
theorem putD_length (kvs : List (Key × PyData)) (k : Key) (v : PyData) : (putD kvs k v).length ≤ kvs.length + 1 := by
  unfold putD
  split
  · simp
  · simp
section
variable {K : PySem.W.Frag} {Hf : Hp}
theorem lookD_val {k : Key} : ∀ {vs : List (Key × V)} {kvs : List (Key × PyData)}, vs.map (·.1) = kvs.map (·.1) → DpAll K Hf (vs.map (·.2)) (kvs.map (·.2)) → (lookD kvs k = none ∧ valV vs k = none) ∨ ∃ d v, lookD kvs k = some d ∧ valV vs k = some v ∧ Dp K Hf v d
  | [], [], _, _ => .inl ⟨rfl, rfl⟩
  | [], _ :: _, h, _ => by simp at h
  | _ :: _, [], h, _ => by simp at h
  | p :: r, q :: s, h, ha => by
    rw [List.map_cons, List.map_cons] at h
    injection h with h1 h2
    cases ha with
    | cons a b =>
      by_cases e : p.1 = k
      · exact .inr ⟨q.2, p.2, by rw [lookD_cons, if_pos (h1 ▸ e)], valV_pos e, a⟩
      · rw [lookD_cons, if_neg (fun z => e (h1.trans z)), valV_neg e]
        exact lookD_val h2 b
theorem map_put {k : Key} {v : V} {d : PyData} (hv : Dp K Hf v d) : ∀ {vs : List (Key × V)} {kvs : List (Key × PyData)}, vs.map (·.1) = kvs.map (·.1) → DpAll K Hf (vs.map (·.2)) (kvs.map (·.2)) →
    (vs.map (fun kv => if kv.1 = k then (kv.1, v) else kv)).map (·.1) = (kvs.map (fun kv => if kv.1 = k then (kv.1, d) else kv)).map (·.1) ∧
    DpAll K Hf ((vs.map (fun kv => if kv.1 = k then (kv.1, v) else kv)).map (·.2)) ((kvs.map (fun kv => if kv.1 = k then (kv.1, d) else kv)).map (·.2))
  | [], [], _, _ => ⟨rfl, .nil⟩
  | [], _ :: _, h, _ => by simp at h
  | _ :: _, [], h, _ => by simp at h
  | p :: r, q :: s, h, ha => by
    rw [List.map_cons, List.map_cons] at h
    injection h with h1 h2
    cases ha with
    | cons a b =>
      obtain ⟨i1, i2⟩ := map_put hv h2 b
      simp only [List.map_cons]
      by_cases e : p.1 = k
      · rw [if_pos e, if_pos (h1 ▸ e)]
        exact ⟨by rw [i1, h1], .cons hv i2⟩
      · rw [if_neg e, if_neg (fun z => e (h1.trans z))]
        exact ⟨by rw [i1, h1], .cons a i2⟩
theorem any_key {k : Key} : ∀ {vs : List (Key × V)} {kvs : List (Key × PyData)}, vs.map (·.1) = kvs.map (·.1) → (vs.any fun kv => decide (kv.1 = k)) = (kvs.any fun kv => decide (kv.1 = k))
  | [], [], _ => rfl
  | [], _ :: _, h => by simp at h
  | _ :: _, [], h => by simp at h
  | p :: r, q :: s, h => by
    rw [List.map_cons, List.map_cons] at h
    injection h with h1 h2
    rw [List.any_cons, List.any_cons, any_key h2, h1]
theorem put_val {k : Key} {v : V} {d : PyData} {vs : List (Key × V)} {kvs : List (Key × PyData)} (h : vs.map (·.1) = kvs.map (·.1)) (ha : DpAll K Hf (vs.map (·.2)) (kvs.map (·.2))) (hv : Dp K Hf v d) :
    (putK vs k v).map (·.1) = (putD kvs k d).map (·.1) ∧ DpAll K Hf ((putK vs k v).map (·.2)) ((putD kvs k d).map (·.2)) := by
  unfold putK putD
  rw [any_key h]
  split
  · exact map_put hv h ha
  · refine ⟨by rw [List.map_append, List.map_append, h]; rfl, ?_⟩
    rw [List.map_append, List.map_append]
    exact da_append ha (.cons hv .nil)
end
section
variable {K : PySem.W.Frag} {S : AS} {te ty : TE} {A : AE}
/-- a key as a value -/
def kA : Key → AV
  | .inl i => dI i
  | .inr x => .d (.str x)
theorem kA_rep {Hf : Hp} {as : List Addr} {v : V} {k : Key} (h : RepV K Hf as v (kA k)) : v = kV k := by
  cases k with
  | inl i => cases h; rfl
  | inr x => cases h; rfl
theorem sw_asgD {i : Nat} (h : A.nx ⟨S.sl.set i (some (.o S.mu.length)), S.mu ++ [.k []]⟩) : SW K (tAsg tDNewK (gName i)) S A := fun Z as0 as fr σ H D ok im p hp => by
  have ok2 := ok.own (o := .dK []) (m := .k []) hp ⟨[], upd_same, rfl, .nil⟩
  refine im.nx _ _ _ _ (ok2.store (i := i) (v := .ref p) (av := .o S.mu.length) ⟨p, ?_, rfl⟩) h
  rw [← ok.mu.1, List.getElem?_append_right (Nat.le_refl _), Nat.sub_self]; rfl
theorem ew_din {i j : Nat} {k : Key} {P : AV → Mu → Prop} (hi : S.sl[i]? = some (some (.o j))) (h : EW K ty S fun a mu => ∃ k kvs, a = kA k ∧ mu[j]? = some (.k kvs) ∧ P (dB (lookD kvs k).isSome) mu) : EW K (tDIn ty (tVar i)) S P := fun Z as0 as fr σ H ok Q q =>
  h Z as0 as fr σ H ok _ fun v H1 a mu1 g ok1 r ⟨k, kvs, e, hm, p⟩ => by
    subst e
    obtain ⟨w, h1, pp, hp, e⟩ := ok1.sl i _ hi
    subst e
    obtain ⟨vs, hv, hk, ha⟩ := ok1.mu.2 j pp _ hp hm
    refine ⟨.ref pp, h1, pp, valV vs k, rfl, ?_, ?_⟩
    · rw [kA_rep r]; exact DGet.k hv
    · have e2 : (valV vs k).isSome = (lookD kvs k).isSome := by
        rcases lookD_val (k := k) hk ha with ⟨a, b⟩ | ⟨d, v, a, b, _⟩
        · rw [a, b]; rfl
        · rw [a, b]; rfl
      rw [e2]
      exact q _ H1 (dB (lookD kvs k).isSome) mu1 g ok1 rv_bl p
theorem ew_dnin {i j : Nat} {k : Key} {P : AV → Mu → Prop} (hi : S.sl[i]? = some (some (.o j))) (h : EW K ty S fun a mu => ∃ k kvs, a = kA k ∧ mu[j]? = some (.k kvs) ∧ P (dB (!(lookD kvs k).isSome)) mu) : EW K (tDNotIn ty (tVar i)) S P := fun Z as0 as fr σ H ok Q q =>
  h Z as0 as fr σ H ok _ fun v H1 a mu1 g ok1 r ⟨k, kvs, e, hm, p⟩ => by
    subst e
    obtain ⟨w, h1, pp, hp, e⟩ := ok1.sl i _ hi
    subst e
    obtain ⟨vs, hv, hk, ha⟩ := ok1.mu.2 j pp _ hp hm
    refine ⟨.ref pp, h1, pp, valV vs k, rfl, ?_, ?_⟩
    · rw [kA_rep r]; exact DGet.k hv
    · have e2 : (valV vs k).isSome = (lookD kvs k).isSome := by
        rcases lookD_val (k := k) hk ha with ⟨a, b⟩ | ⟨d, v, a, b, _⟩
        · rw [a, b]; rfl
        · rw [a, b]; rfl
      rw [e2]
      exact q _ H1 (dB (!(lookD kvs k).isSome)) mu1 g ok1 rv_bl p
theorem ev_din {i j : Nat} {k : Key} {kvs : List (Key × PyData)} (hi : S.sl[i]? = some (some (.o j))) (hm : S.mu[j]? = some (.k kvs)) (h : EV K ty S (kA k)) : EV K (tDIn ty (tVar i)) S (dB (lookD kvs k).isSome) := ew_din (k := k) hi (h.ew ⟨k, kvs, rfl, hm, rfl, rfl⟩)
theorem ev_dnin {i j : Nat} {k : Key} {kvs : List (Key × PyData)} (hi : S.sl[i]? = some (some (.o j))) (hm : S.mu[j]? = some (.k kvs)) (h : EV K ty S (kA k)) : EV K (tDNotIn ty (tVar i)) S (dB (!(lookD kvs k).isSome)) := ew_dnin (k := k) hi (h.ew ⟨k, kvs, rfl, hm, rfl, rfl⟩)
theorem ew_dget {i j : Nat} {P : AV → Mu → Prop} (hi : S.sl[i]? = some (some (.o j))) (h : EW K ty S fun a mu => ∃ k kvs d, a = kA k ∧ mu[j]? = some (.k kvs) ∧ lookD kvs k = some d ∧ P (.d d) mu) : EW K (tDGet (tVar i) ty) S P := fun Z as0 as fr σ H ok Q q => by
  obtain ⟨w, h1, pp, hp, e⟩ := ok.sl i _ hi
  subst e
  exact ⟨.ref pp, h1, h Z as0 as fr σ H ok _ fun v H1 a mu1 g ok1 r ⟨k, kvs, d, e, hm, hd, p⟩ => by
    subst e
    obtain ⟨vs, hv, hk, ha⟩ := ok1.mu.2 j pp _ hp hm
    rcases lookD_val (k := k) hk ha with ⟨a, b⟩ | ⟨d2, v2, a, b, c⟩
    · rw [a] at hd; cases hd
    · rw [a] at hd; cases hd
      refine ⟨pp, v2, rfl, ?_, q v2 H1 (.d d) mu1 g ok1 c p⟩
      rw [kA_rep r, ← b]; exact DGet.k hv⟩
theorem ev_dget {i j : Nat} {k : Key} {kvs : List (Key × PyData)} {d : PyData} (hi : S.sl[i]? = some (some (.o j))) (hm : S.mu[j]? = some (.k kvs)) (h : EV K ty S (kA k)) (hd : lookD kvs k = some d) : EV K (tDGet (tVar i) ty) S (.d d) := ew_dget hi (h.ew ⟨k, kvs, d, rfl, hm, hd, rfl, rfl⟩)
theorem sw_dput {i j : Nat} (hi : S.sl[i]? = some (some (.o j))) (h : EW K te S fun a mu1 => EW K ty ⟨S.sl, mu1⟩ fun b mu2 => ∃ d k kvs, a = .d d ∧ b = kA k ∧ mu2[j]? = some (.k kvs) ∧ kvs.length < 1000000 ∧ A.nx ⟨S.sl, mu2.set j (.k (putD kvs k d))⟩) : SW K (sDPut (tVar i) ty te) S A := fun Z as0 as fr σ H D ok im =>
  h Z as0 as fr σ H ok _ fun v H1 a mu1 g1 ok1 r1 p1 => by
    obtain ⟨w, h1, p, hp, e⟩ := ok1.sl i _ hi
    subst e
    refine ⟨.ref p, h1, p1 Z as0 as fr σ H1 ok1 _ fun v2 H2 b mu2 g2 ok2 r2 ⟨d, k, kvs, e1, e2, hm, hz, q⟩ => ?_⟩
    subst e1; subst e2
    obtain ⟨vs, hv, hk, ha⟩ := ok2.mu.2 j p _ hp hm
    obtain ⟨q1, q2⟩ := put_val (k := k) hk ha (r1.ex g2)
    have hl : vs.length = kvs.length := by have := congrArg List.length hk; simpa using this
    refine ⟨p, _, rfl, ?_, im.nx _ _ _ _ (ok2.put (m := .k (putD kvs k d)) hp ⟨putK vs k v, upd_same, q1, q2⟩) q⟩
    rw [kA_rep r2]; exact DPut.k hv (by rw [hl]; exact sz_lt hz)
end
end D2
set_option Elab.async false
set_option linter.all false
set_option maxRecDepth 100000
set_option maxHeartbeats 4000000
/-! DL9: further sides. -/
namespace D2
open PySem PySem.Spec PyProof.Rows L2
theorem filter_head {b : Nat → Bool} {k : Nat} (hk : b k = true) (hn : ∀ j, j < k → b j = false) : ∀ n, k < n → ((List.range n).filter b)[0]? = some k
  | 0, h => by omega
  | n + 1, h => by
    rw [List.range_succ, List.filter_append]
    by_cases c : k < n
    · have ih := filter_head hk hn n c
      rw [List.getElem?_append_left]
      · exact ih
      · exact (List.getElem?_eq_some_iff.mp ih).1
    · have e : n = k := by omega
      subst e
      have e0 : (List.range n).filter b = [] := List.filter_eq_nil_iff.mpr fun j hj => by
        rw [hn j (List.mem_range.mp hj)]; simp
      rw [e0, List.nil_append, List.filter_cons, if_pos hk]; rfl
theorem gath_head {b : Nat → Bool} {e : Nat → PyData} {k n : Nat} (h : k < n) (hk : b k = true) (hn : ∀ j, j < k → b j = false) : (gath b e n)[0]? = some (e k) := by
  unfold gath
  rw [List.getElem?_map, filter_head hk hn n h]; rfl
theorem eqv_ints : ∀ (a b : List Int), PyData.eqvAll (a.map PyData.int) (b.map PyData.int) = decide (a = b)
  | [], [] => rfl
  | [], _ :: _ => rfl
  | _ :: _, [] => rfl
  | x :: a, y :: b => by
    show (PyData.eqv (.int x) (.int y) && PyData.eqvAll (a.map PyData.int) (b.map PyData.int)) = _
    rw [eqv_ints a b]
    show ((x == y) && _) = _
    by_cases h : x = y
    · subst h; simp
    · simp [h]
theorem shaped_ints (a : List Int) : SeqAt.shaped (.tuple (a.map PyData.int)) = true ∧ SeqAt.shaped (.list (a.map PyData.int)) = true := by
  have h1 : ∀ a : List Int, PyData.canLayAll0 (a.map PyData.int) = true := fun a => by
    induction a with
    | nil => rfl
    | cons x a ih => show (PyData.canLay0 (.int x) && PyData.canLayAll0 (a.map PyData.int)) = true; rw [ih]; rfl
  have h2 : ∀ a : List Int, PyData.depthAll (a.map PyData.int) = 0 := fun a => by
    induction a with
    | nil => rfl
    | cons x a ih => show max (PyData.depth (.int x)) (PyData.depthAll (a.map PyData.int)) = 0; rw [ih]; rfl
  constructor
  · show (PyData.canLayAll0 (a.map PyData.int) && decide (PyData.depthAll (a.map PyData.int) + 1 ≤ 64)) = true
    rw [h1, h2]; rfl
  · show (PyData.canLayAll0 (a.map PyData.int) && decide (PyData.depthAll (a.map PyData.int) + 1 ≤ 64)) = true
    rw [h1, h2]; rfl
section
variable {K : PySem.W.Frag} {S : AS}
theorem eiw_rng3 {t : TA} {P : List PyData → Mu → Prop} (h : AW K t S fun avs mu => ∃ (i j c : Int) (n : Nat), avs = [dI i, dI j, dI c] ∧ RgC i j c n ∧ P ((List.range n).map fun (k : Nat) => PyData.int (i + (k : Int) * c)) mu) : EIW K (iRng3 t) S P := fun Z as0 as fr σ H ok R q =>
  h Z as0 as fr σ H ok _ fun vs H1 avs mu1 g1 ok1 r1 ⟨i, j, c, n, e, h1, p⟩ => by
    subst e
    cases r1 with
    | cons r1 r2 =>
      cases r2 with
      | cons r2 r3 =>
      cases r3 with
      | cons r3 r4 =>
      cases r4
      cases r1
      cases r2
      cases r3
      refine ⟨i, j, c, n, rfl, h1, q (Itc i c n) H1 _ (fun _ => True) mu1 g1 ok1 ⟨fun k M H _ hi => ?_, fun k M H x H' _ _ hi hy => ?_, fun M H _ => ?_, fun _ _ _ _ => trivial⟩ trivial p⟩
      · show k < n
        rw [List.length_map, List.length_range] at hi; exact hi
      · obtain ⟨e1, e2⟩ := hy
        subst e1; subst e2
        refine ⟨.int (i + (k : Int) * c), ?_, Ex.refl _, .int _⟩
        have : k < n := by rw [List.length_map, List.length_range] at hi; exact hi
        rw [List.getElem?_map, List.getElem?_range this]; rfl
      · show n ≤ _
        rw [List.length_map, List.length_range]; exact Nat.le_refl _
/-- downward from a to b (not with it): a - k -/
theorem ei_rngD {t : TA} {a b : Nat} (h : AVs K t S [dn a, dn b, dI (-1)]) (hb : b ≤ a) (ha : a ≤ 1000000) : EI K (iRng3 t) S ((List.range (a - b)).map fun k => pn (a - k)) := eiw_rng3 (h.ew ⟨(a : Int), (b : Int), -1, a - b, rfl, by
  have := RgC.neg (i := (a : Int)) (j := (b : Int)) (by omega) (by omega) (by omega) (by omega)
  rw [show ((a : Int) - b).toNat = a - b by omega] at this; exact this, by
  apply List.map_congr_left
  intro k hk
  have := List.mem_range.mp hk
  show PyData.int _ = PyData.int _
  congr 1; omega, rfl⟩)
/-- down to 0: a, a - 1, .. 0 -/
theorem ei_rngD0 {t : TA} {a : Int} {n : Nat} (h : AVs K t S [dI a, dI (-1), dI (-1)]) (hn : a = (n : Int) - 1) (ha : n ≤ 1000000) : EI K (iRng3 t) S ((List.range n).map fun k => pn (n - 1 - k)) := eiw_rng3 (h.ew ⟨a, -1, -1, n, rfl, by
  have := RgC.neg (i := a) (j := -1) (by omega) (by omega) (by omega) (by omega)
  rw [show (a - -1).toNat = n by omega] at this; exact this, by
  apply List.map_congr_left
  intro k hk
  have := List.mem_range.mp hk
  show PyData.int _ = PyData.int _
  congr 1; omega, rfl⟩)
theorem map_at {α : Type} {f : Nat → α} {n i : Nat} {d : α} (h : ((List.range n).map f)[i]? = some d) : i < n ∧ d = f i := by
  rw [List.getElem?_map] at h
  by_cases c : i < n
  · rw [List.getElem?_range c] at h
    exact ⟨c, (Option.some.inj h).symm⟩
  · rw [List.getElem?_eq_none (by simpa using c)] at h; cases h
theorem lst_at {α β : Type} {f : α → β} {l : List α} {i : Nat} {d : β} (h : (l.map f)[i]? = some d) : ∃ a, l[i]? = some a ∧ d = f a := by
  rw [List.getElem?_map] at h
  cases e : l[i]? with
  | none => rw [e] at h; cases h
  | some a => rw [e] at h; exact ⟨a, rfl, (Option.some.inj h).symm⟩
/-- xs.index(x) of texts -/
theorem eqV_str {a b : Str} : eqV (.str a) (.str b) = decide (a = b) := by
  show (a == b) = decide (a = b)
  by_cases h : a = b
  · subst h; simp
  · rw [decide_eq_false h]; simpa using h
theorem rm_indexS {mu : Mu} {ls : List (List Nat)} {a : List Nat} {j : Nat} (h : ls[j]? = some a) (hn : ∀ m, m < j → ls[m]? ≠ some a) : RM K mu (rIndex K) (dLS ls) [dS a] (dn j) := fun as fr H v vs hk r1 r2 Q k => by
  cases r2 with
  | cons r2 r3 =>
    cases r3
    cases r2
    cases r1 with
    | lst hs ha =>
      have e := strsV ha
      subst e
      refine ⟨_, _, _, j, .str ⟨a.toArray⟩, rfl, rfl, sqL_ex off_le hs, rfl, flat_strs _, by rw [List.getElem?_map, List.getElem?_map, h]; rfl, by rw [eqV_str]; simp, fun m z' hm hz => ?_, k.int⟩
      rw [List.getElem?_map, List.getElem?_map] at hz
      cases e : ls[m]? with
      | none => rw [e] at hz; cases hz
      | some b =>
        rw [e] at hz
        cases hz
        rw [eqV_str]
        exact decide_eq_false fun z => hn m hm (by rw [e]; congr 1; exact txt_inj z)
theorem rm_indexI {mu : Mu} {ns : List Int} {a : Int} {j : Nat} (h : ns[j]? = some a) (hn : ∀ m, m < j → ns[m]? ≠ some a) : RM K mu (rIndex K) (dLI ns) [dI a] (dn j) := fun as fr H v vs hk r1 r2 Q k => by
  cases r2 with
  | cons r2 r3 =>
    cases r3
    cases r2
    cases r1 with
    | lst hs ha =>
      have e := da_ints ha
      subst e
      refine ⟨_, _, _, j, .int a, rfl, rfl, sqL_ex off_le hs, rfl, ?_, by rw [List.getElem?_map, h]; rfl, by simp [eqV], fun m z' hm hz => ?_, k.int⟩
      · rw [List.all_eq_true]; intro x hx; obtain ⟨y, _, e⟩ := List.mem_map.mp hx; subst e; rfl
      · rw [List.getElem?_map] at hz
        cases e : ns[m]? with
        | none => rw [e] at hz; cases hz
        | some b =>
          rw [e] at hz
          cases hz
          have : b ≠ a := fun z => hn m hm (by rw [e, z])
          simp [eqV, this]
theorem ty_lst {mu : Mu} {ds : List PyData} : TyR K mu "list" (dL ds) := fun as fr H v hk r => by
  cases r with
  | lst hs _ =>
    show _
    rename_i a xs
    exact .inl ⟨rfl, _, sqL_ex off_le hs⟩
theorem ty_str {mu : Mu} {z : Str} : TyR K mu "str" (.d (.str z)) := fun as fr H v hk r => by
  cases r
  first | rfl | exact trivial | (unfold tyV; simp)
end
theorem LeS.set {a : Option AV} : ∀ {xs ys : List (Option AV)}, LeS xs ys → ∀ j, LeS (xs.set j a) (ys.set j a)
  | _, _, .nil, _ => .nil
  | _, _, .skip h, 0 => .same h
  | _, _, .skip h, j + 1 => .skip (LeS.set h j)
  | _, _, .same h, 0 => .same h
  | _, _, .same h, j + 1 => .same (LeS.set h j)
theorem Le.set {S S' : AS} (h : Le S S') (j : Nat) (a : Option AV) : Le ⟨S.sl.set j a, S.mu⟩ ⟨S'.sl.set j a, S'.mu⟩ := ⟨LeS.set h.1 j, h.2⟩
section
variable {K : PySem.W.Frag} {S S' : AS} {t : TS} {A : AE} {d d1 d2 d3 : PyData} {i j k : Nat}
theorem gw_le (hS : Le S S') (h : SW K t ⟨S.sl.set j (some (.d d)), S.mu⟩ A) : GW K (gName j) [j] d S' fun S2 => SW K t S2 A := gw_name (sw_le h (hS.set j _))
theorem gw_le2 (hS : Le S S') (h : SW K t ⟨(S.sl.set i (some (.d d1))).set j (some (.d d2)), S.mu⟩ A) : GW K (gTup K 2 (gCons (gName i) (gCons (gName j) gNil))) [i, j] (.tuple [d1, d2]) S' fun S2 => SW K t S2 A := gw_tup2 (sw_le h ((hS.set i _).set j _))
end
section
variable {K : PySem.W.Frag} {S : AS} {t u : TT} {s1 s2 : TS} {A : AE} {P : Bool → Mu → Prop}
theorem tw_andE {b : Bool} (h : TV K t S b) (h1 : b = true → TW K u S P) (h2 : b = false → P false S.mu) : TW K (tAnd t u) S P := tw_and (h.ew (by
  cases b with
  | true => rw [if_pos rfl]; exact h1 rfl
  | false => rw [if_neg Bool.false_ne_true]; exact h2 rfl))
theorem tw_orE {b : Bool} (h : TV K t S b) (h1 : b = false → TW K u S P) (h2 : b = true → P true S.mu) : TW K (tOr t u) S P := tw_or (h.ew (by
  cases b with
  | true => rw [if_pos rfl]; exact h2 rfl
  | false => rw [if_neg Bool.false_ne_true]; exact h1 rfl))
theorem sw_ifM (P : Bool → Mu → Prop) (h : TW K t S P) (h1 : ∀ mu, P true mu → SW K s1 ⟨S.sl, mu⟩ A) (h2 : ∀ mu, P false mu → SW K s2 ⟨S.sl, mu⟩ A) : SW K (tIfS t s1 s2) S A := sw_if (h.mono fun b mu p => by
  cases b with
  | true => rw [if_pos rfl]; exact h1 mu p
  | false => rw [if_neg Bool.false_ne_true]; exact h2 mu p)
end
section
variable {K : PySem.W.Frag} {S : AS} {t u : TS} {tt : TT} {A : AE}
/-- the same, the states told exactly: behind a turn one that knows as much -/
abbrev Up (M : AS → Prop) : AS → Prop := fun S2 => ∃ S3, Le S3 S2 ∧ M S3
theorem sw_up {M : AS → Prop} (h : ∀ S', M S' → SW K t S' A) : ∀ S', Up M S' → SW K t S' A := fun S' ⟨S3, l, m⟩ => sw_le (h S3 m) l
theorem sw_midL (M : AS → Prop) (h1 : SW K t S { A with nx := Up M }) (h2 : ∀ S', M S' → SW K u S' A) : SW K (tSeq t u) S A := sw_mid (Up M) h1 (sw_up h2)
theorem sw_whileL (W : Nat → AS → Prop) (h0 : ∃ m, Up (W m) S) (hs : ∀ m S', W m S' → TW K tt S' fun b mu => if b = true then SW K t ⟨S'.sl, mu⟩ { A with nx := fun S2 => ∃ m', m' < m ∧ Up (W m') S2, ct := fun S2 => ∃ m', m' < m ∧ Up (W m') S2, bk := A.nx } else A.nx ⟨S'.sl, mu⟩) : SW K (tWhile tt t) S A := fun Z as0 as fr σ H D ok im => by
  obtain ⟨m0, S0, l0, w0⟩ := h0
  refine ⟨fun m σ' H' => ∃ S' as', Ok K Z as0 as' fr S' σ' H' ∧ W m S', ⟨m0, S0, as, ok.le l0, w0⟩, ?_⟩
  rintro m σ' H' ⟨S', as', ok', w⟩
  refine hs m S' w Z as0 as' fr σ' H' ok' _ fun b H1 mu1 g ok1 p => ?_
  cases b with
  | true =>
    rw [if_pos rfl] at p ⊢
    refine ⟨fun σ2 H2 => ∃ m', m' < m ∧ ∃ S' as', Ok K Z as0 as' fr S' σ2 H2 ∧ W m' S', fun σ2 H2 h => h, ?_⟩
    exact p Z as0 as' fr σ' H1 _ ok1 ⟨im.n0, fun S3 σ3 H3 as3 h ⟨m', k1, S4, l4, k2⟩ => ⟨m', k1, S4, as3, h.le l4, k2⟩, fun S3 σ3 H3 as3 h k => im.nx _ _ _ _ h k, fun S3 σ3 H3 as3 h ⟨m', k1, S4, l4, k2⟩ => ⟨m', k1, S4, as3, h.le l4, k2⟩, im.rt, im.rn⟩
  | false =>
    rw [if_neg Bool.false_ne_true] at p ⊢
    exact im.nx _ _ _ _ ok1 p
/-- a pure test -/
theorem sw_whileE (W : Nat → AS → Prop) (b : AS → Bool) (h0 : ∃ m, Up (W m) S) (ht : ∀ m S', W m S' → TV K tt S' (b S')) (hs : ∀ m S', W m S' → b S' = true → SW K t S' { A with nx := fun S2 => ∃ m', m' < m ∧ Up (W m') S2, ct := fun S2 => ∃ m', m' < m ∧ Up (W m') S2, bk := A.nx })
    (hd : ∀ m S', W m S' → b S' = false → A.nx S') : SW K (tWhile tt t) S A := sw_whileL W h0 fun m S' w => (ht m S' w).ew (by
  cases e : b S' with
  | true => rw [if_pos rfl]; exact hs m S' w e
  | false => rw [if_neg Bool.false_ne_true]; exact hd m S' w e)
theorem sw_forU {wi : TI} {g : TG} {js : List Nat} (hI : EIW K wi S fun ds mu1 => ∃ st : Nat → AS → Prop, st 0 ⟨S.sl, mu1⟩ ∧
      (∀ i d S', ds[i]? = some d → st i S' → GW K g js d S' fun S2 => SW K t S2 { A with nx := st (i + 1), ct := st (i + 1), bk := A.nx }) ∧ ∀ S', st ds.length S' → ∃ S3, Le S3 S' ∧ A.nx S3) : SW K (tFor wi g t) S A := fun Z as0 as fr σ H D ok im =>
  hI Z as0 as fr σ H ok _ fun J H1 ds G mu1 g1 ok1 F hG ⟨st, s0, sT, sE⟩ => by
    have zle := ok1.z_le
    have imZ : Imp K (off as H1) as0 fr A D := ⟨im.n0, fun S' σ' H' as' h => im.nx S' σ' H' as' (h.anchor zle), fun S' σ' H' as' h => im.bk S' σ' H' as' (h.anchor zle), fun S' σ' H' as' h => im.ct S' σ' H' as' (h.anchor zle),
      fun v d mu' H' h1 h2 h3 => im.rt v d mu' H' h1 h2 fun b o e => h3 b o (zle b o e), fun p vs ds mu' H' h0 h1 h2 h3 => im.rn p vs ds mu' H' h0 h1 h2 fun b o e => h3 b o (zle b o e)⟩
    have gk : ∀ {as' : List Addr} {S' : AS} {σ' : L2.St} {H' : Hp}, Ok K (off as H1) as0 as' fr S' σ' H' → G (off (as' ++ fr) H') := fun {as' S' σ' H'} h => F.stay _ _ hG fun b o e => by
      obtain ⟨e1, e2⟩ := off_of e
      obtain ⟨h1, h2⟩ := h.pres b o (by rw [off_at fun z => e2 (List.mem_append_left _ z)]; exact e1)
      rw [off_at fun z => ?_]
      · exact h2
      · rcases List.mem_append.mp z with z | z
        · exact h1 z
        · exact e2 (List.mem_append_right _ z)
    refine ⟨fun i m σ' H' => m = ds.length - i ∧ i ≤ ds.length ∧ ∃ S' as', Ok K (off as H1) as0 as' fr S' σ' H' ∧ st i S', ⟨ds.length, by simp, Nat.zero_le _, _, as, ok1.here, s0⟩, ?_⟩
    rintro i m σ' H' ⟨rfl, hi, S', as', ok', hs⟩
    by_cases hlt : i < ds.length
    · refine .inr ⟨F.go i _ H' (gk ok') hlt, fun σ2 H2 => i + 1 ≤ ds.length ∧ ∃ S' as', Ok K (off as H1) as0 as' fr S' σ2 H2 ∧ st (i + 1) S', fun σ2 H2 h => ⟨ds.length - (i + 1), by omega, rfl, h⟩, fun x H2 hy => ?_⟩
      obtain ⟨d, hd, e2, rx⟩ := F.yld i _ H' x H2 (gk ok') ok'.ex hlt hy
      refine sT i d S' hd hs _ as0 as' fr σ' H2 x (ok'.grow e2) rx _ fun S2 σ2 okS _ body => ?_
      refine body _ as0 as' fr σ2 H2 _ okS ⟨im.n0, fun S3 σ3 H3 as3 h k => ⟨hlt, S3, as3, h, k⟩, fun S3 σ3 H3 as3 h k => imZ.nx _ _ _ _ h k, fun S3 σ3 H3 as3 h k => ⟨hlt, S3, as3, h, k⟩, imZ.rt, imZ.rn⟩
    · have e : i = ds.length := by omega
      subst e
      obtain ⟨S3, l3, k3⟩ := sE _ hs
      exact .inl ⟨F.stop _ _ (gk ok'), imZ.nx _ _ _ _ (ok'.le l3) k3⟩
theorem sw_forL {wi : TI} {g : TG} {js : List Nat} {ds : List PyData} (st : Nat → AS → Prop) (hI : EI K wi S ds) (h0 : Up (st 0) S)
    (hs : ∀ i d S', ds[i]? = some d → st i S' → GW K g js d S' fun S2 => SW K t S2 { A with nx := Up (st (i + 1)), ct := Up (st (i + 1)), bk := A.nx }) (hd : ∀ S', st ds.length S' → A.nx S') : SW K (tFor wi g t) S A :=
  sw_forU (js := js) (hI.ew ⟨fun i => Up (st i), h0, fun i d S' hdi ⟨S3, l, s3⟩ => fun Z as0 as fr σ H x ok r Q q => hs i d S3 hdi s3 Z as0 as fr σ H x (ok.le l) r Q q, fun S' ⟨S3, l, h⟩ => ⟨S3, l, hd S3 h⟩⟩)
/-- what is walked is drawn on the way -/
theorem sw_forW {wi : TI} {g : TG} {js : List Nat} (hI : EIW K wi S fun ds mu1 => ∃ st : Nat → AS → Prop, Up (st 0) ⟨S.sl, mu1⟩ ∧
    (∀ i d S', ds[i]? = some d → st i S' → GW K g js d S' fun S2 => SW K t S2 { A with nx := Up (st (i + 1)), ct := Up (st (i + 1)), bk := A.nx }) ∧ ∀ S', st ds.length S' → A.nx S') : SW K (tFor wi g t) S A :=
  sw_forU (js := js) (hI.mono fun ds mu1 ⟨st, h0, hs, hd⟩ => ⟨fun i => Up (st i), h0, fun i d S' hdi ⟨S3, l, s3⟩ => fun Z as0 as fr σ H x ok r Q q => hs i d S3 hdi s3 Z as0 as fr σ H x (ok.le l) r Q q, fun S' ⟨S3, l, h⟩ => ⟨S3, l, hd S3 h⟩⟩)
end
section
variable {K : PySem.W.Frag} {S : AS} {t u : TS} {tt : TT} {A : AE}
/-- a way that is never taken -/
theorem sw_ifF {b : Bool} (h : TV K tt S b) (hb : b = false) (k : SW K u S A) : SW K (tIfS tt t u) S A := sw_ifE h (fun h2 => by rw [hb] at h2; cases h2) (fun _ => k)
theorem sw_ifT {b : Bool} (h : TV K tt S b) (hb : b = true) (k : SW K t S A) : SW K (tIfS tt t u) S A := sw_ifE h (fun _ => k) (fun h2 => by rw [hb] at h2; cases h2)
end
theorem iteB {b : Bool} {A B : Prop} (h1 : b = true → A) (h2 : b = false → B) : if b = true then A else B := by
  cases b with
  | true => rw [if_pos rfl]; exact h1 rfl
  | false => rw [if_neg Bool.false_ne_true]; exact h2 rfl
theorem eqv_self {d : PyData} (h : SeqAt.shaped d = true) : PyData.eqv d d = true := PySem.SeqAt.eqv_refl d (SeqAt.canLay_of_shaped h)
section
variable {P : Program} {w : World} {K : PySem.W.Frag} {mg : Str → Option Value} {base : Heap} {x qual : Str} {st : Stmt} {ps N : List Str} {k : Nat}
theorem def_P {R : List PyData → PyData → Prop} (D : Def K mg x qual st ps) (S : FnScope N ps (defScope st)) (hl : ∀ ds r, R ds r → ds.length = ps.length)
    (hb : ∀ (f : Addr) (cdv : Value) (A : Around) (outer : List Env) (s : Shared) (H : Hp) (E : XK), Room k (A.deeper (envOfC qual (defScope st) s.heap.objs.size f cdv)) →
      ∃ t, PSs (cxOf CX0 P w K mg base N qual (defScope st) f cdv A outer s H E).nox (defBody st) t ∧ ∀ ds r, R ds r → SW K t ⟨ini N (ds.map AV.d), []⟩ { n0 := 0, nx := fun _ => r = .none, rt := fun d _ => d = r }) : Has P w K mg base (k + 1) x ps (spP K R) := by
  obtain ⟨f, fd, F, m, b⟩ := D
  refine ⟨f, fd, F.ok S (fun vs H Q E h => spP_len hl h) (fun cdv A outer s H vs Q E hr h => ?_), m, F.kp, b⟩
  obtain ⟨t, h1, h2⟩ := hb f cdv A outer s H E hr
  exact ⟨t, h1, body_P h h2⟩
theorem def_N {R : List PyData → List PyData → Prop} (D : Def K mg x qual st ps) (S : FnScope N ps (defScope st)) (hl : ∀ ds r, R ds r → ds.length = ps.length)
    (hb : ∀ (f : Addr) (cdv : Value) (A : Around) (outer : List Env) (s : Shared) (H : Hp) (E : XK), Room k (A.deeper (envOfC qual (defScope st) s.heap.objs.size f cdv)) →
      ∃ t, PSs (cxOf CX0 P w K mg base N qual (defScope st) f cdv A outer s H E).nox (defBody st) t ∧ ∀ ds r, R ds r → SW K t ⟨ini N (ds.map AV.d), []⟩ { n0 := 0, nx := fun _ => False, rt := fun d _ => False, rn := fun ds' _ => ds' = r }) : Has P w K mg base (k + 1) x ps (spN K R) := by
  obtain ⟨f, fd, F, m, b⟩ := D
  refine ⟨f, fd, F.ok S (fun vs H Q E h => spN_len hl h) (fun cdv A outer s H vs Q E hr h => ?_), m, F.kp, b⟩
  obtain ⟨t, h1, h2⟩ := hb f cdv A outer s H E hr
  exact ⟨t, h1, body_N h h2⟩
theorem def_D {R : List AV → MO → (PyData → MO → Prop) → Prop} (D : Def K mg x qual st ps) (S : FnScope N ps (defScope st)) (hl : ∀ ds m r, R ds m r → ds.length = ps.length)
    (hb : ∀ (f : Addr) (cdv : Value) (A : Around) (outer : List Env) (s : Shared) (H : Hp) (E : XK), Room k (A.deeper (envOfC qual (defScope st) s.heap.objs.size f cdv)) →
      ∃ t, PSs (cxOf CX0 P w K mg base N qual (defScope st) f cdv A outer s H E).nox (defBody st) t ∧ ∀ avs m Post, R avs m Post → SW K t ⟨ini N avs, [m]⟩ { n0 := 1, nx := fun S' => ∃ m', S'.mu.take 1 = [m'] ∧ Post .none m', rt := fun d mu => ∃ m', mu = [m'] ∧ Post d m' }) : Has P w K mg base (k + 1) x ps (spD K R) := by
  obtain ⟨f, fd, F, m, b⟩ := D
  refine ⟨f, fd, F.ok S (fun vs H Q E h => spD_len hl h) (fun cdv A outer s H vs Q E hr h => ?_), m, F.kp, b⟩
  obtain ⟨t, h1, h2⟩ := hb f cdv A outer s H E hr
  exact ⟨t, h1, body_D h h2⟩
end
end D2
set_option Elab.async false
set_option linter.all false
set_option maxRecDepth 100000
set_option maxHeartbeats 4000000
/-! DL10: the law itself. -/
namespace D2
open PySem PySem.Spec PyProof.Rows L2
section
variable {P : Program} {w : World} {K : PySem.W.Frag} {mg : Str → Option Value} {base : Heap} {x qual : Str} {st : Stmt} {ps N : List Str} {k : Nat}
def R_law (ds : List PyData) (r : PyData) : Prop := ∃ ns : List Int, ns.length ≤ 63 ∧ ds = [.list (ns.map PyData.int)] ∧ r = .bool true
theorem ints_dp {H : Hp} : ∀ ns : List Int, DpAll K H (ns.map V.int) (ns.map PyData.int)
  | [] => .nil
  | n :: r => .cons (.int n) (ints_dp r)
theorem law_start {H : Hp} {a : Addr} {ns : List Int} {E : XK} (hl : ns.length ≤ 63) (hS : SqL K H a (ns.map V.int)) : spP K R_law [.ref a] H (fun v _ => v = .bl true) E := by
  have e : off [] H = H := by funext b; unfold off; simp
  refine ⟨[], [.list (ns.map PyData.int)], .bool true, List.nodup_nil, fun q hq => by simp at hq, .cons (.lst (xs := ns.map V.int) (by rw [e]; exact hS) (ints_dp ns)) .nil, ⟨ns, hl, rfl, rfl⟩, fun v H' _ h => by cases h; rfl⟩
theorem def_L {f : Addr} {fd : FuncData} {R : List PyData → PyData → Prop} (F : Fun K x qual st f fd) (S : FnScope N ps (defScope st)) (hl : ∀ ds r, R ds r → ds.length = ps.length)
    (hb : ∀ (f : Addr) (cdv : Value) (A : Around) (outer : List Env) (s : Shared) (H : Hp) (E : XK), Room k (A.deeper (envOfC qual (defScope st) s.heap.objs.size f cdv)) →
      ∃ t, PSs (cxOf CX0 P w K mg base N qual (defScope st) f cdv A outer s H E).nox (defBody st) t ∧ ∀ ds r, R ds r → SW K t ⟨ini N (ds.map AV.d), []⟩ { n0 := 0, nx := fun _ => r = .none, rt := fun d _ => d = r }) : FnOk P w K mg base CX0 (k + 1) f fd ps (spP K R) :=
  F.ok S (fun vs H Q E h => spP_len hl h) (fun cdv A outer s H vs Q E hr h => by
    obtain ⟨t, h1, h2⟩ := hb f cdv A outer s H E hr
    exact ⟨t, h1, body_P h h2⟩)
end
end D2
set_option Elab.async false
set_option linter.all false
set_option maxRecDepth 100000
set_option maxHeartbeats 4000000
/-! DL11: more by values. -/
namespace D2
open PySem PySem.Spec PyProof.Rows L2
section
variable {K : PySem.W.Frag} {mu : Mu} {S : AS}
theorem ru_neg {i : Int} : RU K mu (rU fun i => .int (-i)) (dI i) (dI (-i)) := fun as fr H v1 hk r1 Q k => by cases r1; exact ⟨i, rfl, k.int⟩
theorem ev_m1c {S : AS} : EV K (tUn (rU fun i => .int (-i)) (tC (.int 1))) S (dI (-1)) := ev_un ev_int ru_neg
theorem da_bools {H : Hp} : ∀ {vs : List V} {bs : List Bool}, DpAll K H vs (bs.map PyData.bool) → vs = bs.map V.bl
  | [], [], _ => rfl
  | [], _ :: _, h => by cases h
  | _ :: _, [], h => by cases h
  | v :: vs, b :: bs, h => by
    cases h with
    | cons a r =>
      cases a
      rw [da_bools r]; rfl
theorem rm_indexB {bs : List Bool} {a : Bool} {j : Nat} (h : bs[j]? = some a) (hn : ∀ m, m < j → bs[m]? ≠ some a) : RM K mu (rIndex K) (dL (bs.map PyData.bool)) [dB a] (dn j) := fun as fr H v vs hk r1 r2 Q k => by
  cases r2 with
  | cons r2 r3 =>
    cases r3
    cases r2
    cases r1 with
    | lst hs ha =>
      have e := da_bools ha
      subst e
      refine ⟨_, _, _, j, .bl a, rfl, rfl, sqL_ex off_le hs, rfl, ?_, by rw [List.getElem?_map, h]; rfl, by cases a <;> rfl, fun m z' hm hz => ?_, k.int⟩
      · rw [List.all_eq_true]; intro x hx; obtain ⟨y, _, e⟩ := List.mem_map.mp hx; subst e; rfl
      · rw [List.getElem?_map] at hz
        cases e : bs[m]? with
        | none => rw [e] at hz; cases hz
        | some b =>
          rw [e] at hz
          cases hz
          have : b ≠ a := fun z => hn m hm (by rw [e, z])
          cases a <;> cases b <;> first | rfl | exact absurd rfl this
theorem cutL_m1 {α : Type} (l : List α) : cutL l none (some (-1)) = l.dropLast := by
  unfold cutL
  have e0 : HT.sIx l.length 0 none = 0 := rfl
  have e1 : HT.sIx l.length l.length (some (-1)) = l.length - 1 := by
    show HT.sIx _ _ _ = _
    unfold HT.sIx
    simp
    omega
  rw [e0, e1, List.drop_zero, Nat.sub_zero, List.dropLast_eq_take]
theorem rsl_m1 {l : List Nat} (hl : l.length ≤ 1000000) : RSl K mu (rSlU K) (dS l) none (some (-1)) (dS l.dropLast) := by
  rw [← cutL_m1]; exact rsl_S hl
theorem rsl_TtoN {ds : List PyData} {n : Nat} : RSl K mu (rSlU K) (dT ds) none (some (n : Int)) (dT (ds.take n)) := by rw [← cutL_to]; exact rsl_T
theorem rsl_TfromN {ds : List PyData} {n : Nat} : RSl K mu (rSlU K) (dT ds) (some (n : Int)) none (dT (ds.drop n)) := by rw [← cutL_from]; exact rsl_T
theorem rsl_LtoN {ds : List PyData} {n : Nat} : RSl K mu (rSlU K) (dL ds) none (some (n : Int)) (dL (ds.take n)) := by rw [← cutL_to]; exact rsl_L
theorem rsl_LfromN {ds : List PyData} {n : Nat} : RSl K mu (rSlU K) (dL ds) (some (n : Int)) none (dL (ds.drop n)) := by rw [← cutL_from]; exact rsl_L
end
end D2
set_option Elab.async false
set_option linter.all false
set_option maxRecDepth 100000
set_option maxHeartbeats 4000000
/-! DL12: constants of the module; a list so many times; names by pairs. -/
namespace D2
open PySem PySem.Spec PyProof.Rows L2
section
variable {X : Cx}
theorem pe_gS {x z : Str} {pos : Pos} (hg : Gl X x) (hm : ∃ t, X.mg x = some (.str z t)) (hd : (x == ("__debug__" : Str)) = false := by decide) : PE X (.Name x pos) (tC (.str z)) := by
  obtain ⟨t, h⟩ := hm
  exact pe_glob hg h ⟨_, rfl⟩ hd
theorem pe_gI {x : Str} {i : Int} {pos : Pos} (hg : Gl X x) (hm : ∃ t, X.mg x = some (.int i t)) (hd : (x == ("__debug__" : Str)) = false := by decide) : PE X (.Name x pos) (tC (.int i)) := by
  obtain ⟨t, h⟩ := hm
  exact pe_glob hg h ⟨_, rfl⟩ hd
end
theorem da_flat {K : PySem.W.Frag} {H : Hp} {vs : List V} {ds : List PyData} (h : DpAll K H vs ds) : ∀ n, DpAll K H (List.replicate n vs).flatten (List.replicate n ds).flatten
  | 0 => .nil
  | n + 1 => by rw [List.replicate_succ, List.replicate_succ, List.flatten_cons, List.flatten_cons]; exact da_append h (da_flat h n)
section
variable {K : PySem.W.Frag} {S : AS} {ta tb : TE} {P : List PyData → Mu → Prop}
theorem del_le {p : Addr} {H : Hp} : Ex (del p H) H := fun b o e => by
  by_cases h : b = p
  · subst h; rw [del_same] at e; cases e
  · rw [del_ne h] at e; exact e
/-- a list so many times -/
theorem nw_rep (h : NW K ta S fun ds mu => EW K tb ⟨S.sl, mu⟩ fun a mu2 => ∃ n : Nat, a = dn n ∧ n ≤ 1000000 ∧ ds.length * n ≤ 1000000 ∧ P (List.replicate n ds).flatten mu2) : NW K (tOp rMulU ta tb) S P := fun Z as0 as fr σ H ok Q q =>
  h Z as0 as fr σ H ok _ fun p H1 vs ds mu1 hp g1 ok1 r1 pb => by
    have ok2 := ok1.laid (o := .lst vs) hp
    have hz := ok1.z_none hp
    have zle : ∀ b o, Z b = some o → upd Z p (.lst vs) b = some o := fun b o e => by
      rw [upd_ne (fun z => by subst z; rw [hz] at e; cases e)]; exact e
    refine pb (upd Z p (.lst vs)) as0 as (p :: fr) σ _ (ok2.pin upd_same) _ fun y H2 a mu2 g2 ok3 r2 ⟨n, e, hn, hl, hP⟩ => ?_
    subst e
    cases r2
    have h2p : H2 p = some (.lst vs) := (ok3.pres p _ upd_same).2
    have g2' : Gr as fr (del p (upd H1 p (.lst vs))) (del p H2) := by
      unfold Gr at g2 ⊢; rw [off_del, off_del] at g2; exact g2
    have e1 : Ex H1 (del p (upd H1 p (.lst vs))) := fun b o e => by
      have : b ≠ p := ne_of_none e hp
      rw [del_ne this, upd_ne this]; exact e
    have gA : Gr as fr H1 H2 := ((Gr.of e1).trans g2').trans (.of del_le)
    refine .inr ⟨p, _, vs, rfl, rfl, h2p, by omega, by omega, ?_, fun q2 hq => ?_⟩
    · rw [Int.toNat_natCast, da_length r1]; exact sz_of hl
    · rw [Int.toNat_natCast]
      exact q q2 H2 _ _ mu2 hq (g1.trans gA) (((ok3.anchor zle).aside hz).grow del_le) (da_flat (da_ex gA r1) n) hP
end
/-! text.find(text) -/
def Occ (l s : List Nat) (i : Nat) : Prop := i + s.length ≤ l.length ∧ (l.drop i).take s.length = s
theorem at_occ {l s : List Nat} {i : Nat} : StrLaws.At ⟨l.toArray⟩ ⟨s.toArray⟩ (⟨l.toArray⟩ : Str).length i ↔ Occ l s i := by
  unfold StrLaws.At Occ
  have e1 : (⟨l.toArray⟩ : Str).length = l.length := len_txt _
  have e2 : (⟨s.toArray⟩ : Str).length = s.length := len_txt _
  rw [e1, e2]
  have e3 : Builtin.Str.subAt ⟨l.toArray⟩ ⟨s.toArray⟩ i = decide ((l.drop i).take s.length = s) := by
    unfold Builtin.Str.subAt
    rw [e2]
    show (l.toArray.extract i (i + s.length) == s.toArray) = _
    rw [List.extract_toArray]
    have e4 : l.extract i (i + s.length) = (l.drop i).take s.length := by
      rw [List.extract_eq_take_drop]; congr 1; omega
    rw [e4]
    by_cases h : (l.drop i).take s.length = s
    · rw [h, decide_eq_true rfl]; simp
    · rw [decide_eq_false h]
      have : ¬ ((l.drop i).take s.length).toArray = s.toArray := fun z => h (by simpa using z)
      simpa using this
  rw [e3]
  simp
theorem find_occ (l s : List Nat) : (Txt.find ⟨l.toArray⟩ ⟨s.toArray⟩ = -1 ∧ ∀ i, ¬ Occ l s i) ∨ ∃ i : Nat, Txt.find ⟨l.toArray⟩ ⟨s.toArray⟩ = (i : Int) ∧ Occ l s i ∧ ∀ k, k < i → ¬ Occ l s k := by
  rcases find_whole ⟨l.toArray⟩ ⟨s.toArray⟩ with ⟨h1, h2⟩ | ⟨i, h1, h2, h3⟩
  · exact .inl ⟨h1, fun i h => h2 i (at_occ.mpr h)⟩
  · exact .inr ⟨i, h1, at_occ.mp h2, fun k hk h => h3 k hk (at_occ.mpr h)⟩
section
variable {K : PySem.W.Frag} {mu : Mu}
theorem rm_find {l s : List Nat} : RM K mu (fun x xs H Q => ∃ a b, x = .str a ∧ xs = [.str b] ∧ Q (.int (Txt.find a b)) H) (dS l) [dS s] (dI (Txt.find ⟨l.toArray⟩ ⟨s.toArray⟩)) := fun as fr H v vs hk r1 r2 Q k => by
  cases r2 with
  | cons r2 r3 =>
    cases r3
    cases r2
    cases r1
    exact ⟨_, _, rfl, rfl, k.int⟩
end
end D2
set_option Elab.async false
set_option linter.all false
set_option maxRecDepth 100000
set_option maxHeartbeats 4000000
/-! DLB: t[::-1] of a tuple, xs[::-1] of a list, by data. -/
namespace D2
open PySem PySem.Spec PyProof.Rows L2 HT
section
variable {prog : Program} {w : World} {A : Around} {E : Value → Shared → Prop} {s : Shared}
theorem places_rev (n : Nat) : Builtin.Slice.slicePlaces ((n : Int) - 1) (-1) (-1) = n := by
  unfold Builtin.Slice.slicePlaces
  have h1 : ¬ ((-1 : Int) > 0) := by omega
  simp only [h1, if_false]
  by_cases h : n = 0
  · subst h; rfl
  · have h2 : (n : Int) - 1 > -1 := by omega
    simp only [h2, if_true]
    have e : ((n : Int) - 1 - -1 - 1) / (- -1) + 1 = (n : Int) := by
      rw [show (- -1 : Int) = 1 by rfl, Int.ediv_one]; omega
    rw [e, Int.toNat_natCast]
theorem sliceApplied_rev {sl : Addr} {n : Nat} {t : Tok} {Q : Int × Int × Nat → Shared → Prop} (hs : s.heap.IsSliceOf sl .none .none (.int (-1) t))
    (h : Q ((n : Int) - 1, -1, n) s) : wpAny (model prog w) A (Builtin.Slice.sliceApplied (.ref sl) (pure (n : Int))) Q E s := by
  obtain ⟨os, hos, hcs, hds⟩ := id hs
  unfold Builtin.Slice.sliceApplied Builtin.Slice.sliceFields
  refine wpAny_bind (wpAny_bind (wpAny_field hos hds (x := .none) rfl (wpAny_bind (wpAny_field hos hds (x := .none) rfl (wpAny_bind (wpAny_field hos hds (x := .int (-1) t) rfl (wpAny_pure ?_)))))))
  refine wpAny_bind (slicePart_int ?_)
  show wpAny _ _ (if ((-1 : Int) == 0) = true then _ else _) _ _ s
  rw [if_neg (by decide)]
  refine wpAny_bind (slicePart_none (wpAny_bind (slicePart_none (wpAny_bind (wpAny_pure ?_)))))
  show wpAny _ _ (pure ((n : Int) - 1, (-1 : Int), Builtin.Slice.slicePlaces ((n : Int) - 1) (-1) (-1))) _ _ s
  rw [places_rev]
  exact wpAny_pure h
theorem pick_rev (xs : Array Value) : ((List.range xs.size).filterMap fun (k : Nat) => xs[((xs.size : Int) - 1 + (k : Int) * -1).toNat]?).toArray = xs.toList.reverse.toArray := by
  congr 1
  have h : ∀ k ∈ List.range xs.size, (fun (k : Nat) => xs[((xs.size : Int) - 1 + (k : Int) * -1).toNat]?) k = some (xs.toList.reverse.getD k default) := fun k hk => by
    have hk2 : k < xs.size := by simpa using hk
    show xs[((xs.size : Int) - 1 + (k : Int) * -1).toNat]? = _
    have e : ((xs.size : Int) - 1 + (k : Int) * -1).toNat = xs.size - 1 - k := by omega
    rw [e, Array.getElem?_eq_getElem (by omega), List.getD_eq_getElem?_getD, List.getElem?_reverse (by simpa using hk2), Array.getElem?_toList, Array.length_toList, Array.getElem?_eq_getElem (by omega)]
    rfl
  have hc : ∀ (f g : Nat → Option Value) (l : List Nat), (∀ k ∈ l, f k = g k) → l.filterMap f = l.filterMap g := fun f g l => by
    induction l with
    | nil => intro _; rfl
    | cons a r ih =>
      intro hh
      rw [List.filterMap_cons, List.filterMap_cons, hh a List.mem_cons_self, ih fun k hk => hh k (List.mem_cons_of_mem _ hk)]
  rw [hc _ _ _ h, List.filterMap_eq_map']
  apply List.ext_getElem?
  intro i
  by_cases hi : i < xs.size
  · rw [List.getElem?_map, List.getElem?_range hi]
    show some (xs.toList.reverse.getD i default) = _
    rw [List.getD_eq_getElem?_getD, List.getElem?_eq_getElem (by simpa using hi)]; rfl
  · rw [List.getElem?_eq_none (by simpa using hi), List.getElem?_eq_none (by simpa using hi)]
theorem getItem_tuple_rev {t sl : Addr} {items : Array Value} {tk : Tok} {Q : Value → Shared → Prop} (ht : IsTup s.heap t items) (hs : s.heap.IsSliceOf sl .none .none (.int (-1) tk))
    (h : Q (.ref s.heap.objs.size) { s with heap := s.heap.push { cls := .type "tuple", data := .seq items.toList.reverse.toArray } })
    (hsz : items.size ≤ sizeLine) : wpAny (model prog w) A (getItem (.ref t) (.ref sl)) Q E s := by
  have htake : sizeOk (.seq items.toList.reverse.toArray) := by
    show items.toList.reverse.toArray.size ≤ sizeLine
    rw [List.size_toArray, List.length_reverse, Array.length_toList]
    exact hsz
  obtain ⟨os, hos, hcs, hds⟩ := id hs
  have hTs : s.TypeIs (.ref sl) "slice" := ⟨os, hos, hcs⟩
  unfold getItem
  try with_reducible refine wpAny_holding ?_
  first | refine wpAny_bind (wpAny_pure ?_) | skip
  refine wpAny_bind (wpAny_sequenceKey ht.typeIs (by decide) ?_)
  refine wpAny_bind (wpAny_callSpecial?_slot (name := Str.ofString "__getitem__") ht.typeIs PyProof.Rows.slot_tuple_getitem
    (wpAny_call_entry PyProof.Rows.slot_tuple_getitem ht.typeIs entry_tuple_getitem ?_ (args_tuple_getitem _ _)))
  show wpAny _ _ (Builtin.Tuple.tupleItemsOf (.ref t) >>= _) _ _ s
  refine wpAny_bind (tupleItemsOf_ ht ?_)
  refine wpAny_bind (wpAny_typeOf hTs ?_)
  rw [if_pos (by decide)]
  refine wpAny_bind (sliceApplied_rev hs ?_)
  have hno : ¬ ((((items.size : Int) - 1) == 0 && (-1 : Int) == 1 && items.size == items.size) = true) := by
    intro q
    rw [Bool.and_eq_true, Bool.and_eq_true] at q
    exact absurd q.1.2 (by decide)
  show wpAny _ _ (if (((items.size : Int) - 1) == 0 && (-1 : Int) == 1 && items.size == items.size) = true then _ else _) _ _ s
  rw [if_neg hno, pick_rev]
  first
    | exact wpAny_bind (m := Builtin.Tuple.tupleExact _) (wpAny_newObj_type (wpAny_pure ⟨_, rfl, wpAny_pure h⟩) htake)
    | exact wpAny_bind (m := Builtin.Tuple.tupleExact _) (wpAny_newObj_type (wpAny_bind (wpAny_pure (wpAny_pure ⟨_, rfl, wpAny_pure h⟩))) htake)
    | exact wpAny_bind (wpAny_bind (m := Builtin.Tuple.tupleExact _) (wpAny_newObj_type (wpAny_pure (wpAny_pure ⟨_, rfl, wpAny_pure h⟩)) htake))
    | exact wpAny_bind (wpAny_bind (m := Builtin.Tuple.tupleExact _) (wpAny_newObj_type (wpAny_pure ⟨_, rfl, wpAny_pure h⟩) htake))
end
section
variable {X : Cx}
/-- t[::-1] of a tuple -/
def tRevT (K : PySem.W.Frag) (te : TE) : TE := fun σ H Q => te σ H fun x H1 => ∃ a xs, x = .ref a ∧ SqT K H1 a xs ∧ ∀ p, H1 p = none → Q (.ref p) (upd H1 p (.tup xs.reverse))
theorem pe_revT {e : Expr} {te : TE} {k : Nat} {p1 p2 p3 pos : Pos} (he : PE X e te) : PE X (.Subscript e (.Slice none none (some (.UnaryOp .USub (.Constant (.int 1) k p1) p2)) p3) pos) (tRevT X.K te) := by
  refine ⟨fun pins s σ H Q I h => ?_⟩
  refine Subscript_ (thn (he.run pins s σ H _ I h) fun v s1 ⟨x, H1, I1, r1, q1⟩ => ?_)
  obtain ⟨a, xs, ex, hx, q⟩ := q1
  subst ex
  cases r1
  have hst : PO X (some (.UnaryOp .USub (.Constant (.int 1) k p1) p2)) (tPart (tUn (rU fun i => .int (-i)) (tC (.int 1)))) := po_some (pe_un un_neg pe_int)
  refine wpAny_Slice (thn (po_none.run pins s1 σ H1 (fun o H2 => o = none ∧ H2 = H1) I1 ⟨rfl, rfl⟩) fun vl s2 ⟨l, H2, I2, pl, el, e2⟩ => ?_)
  subst el e2
  refine thn (po_none.run pins s2 σ H2 (fun o H3 => o = none ∧ H3 = H2) I2 ⟨rfl, rfl⟩) fun vu s3 ⟨u, H3, I3, pu, eu, e3⟩ => ?_
  subst eu e3
  refine thn (hst.run pins s3 σ H3 (fun o H4 => o = some (-1) ∧ H4 = H3) I3 ⟨1, rfl, -1, rfl, rfl, rfl⟩) fun vs s4 ⟨o, H4, I4, ps, eo, e4⟩ => ?_
  subst eo e4
  cases pl
  cases pu
  obtain ⟨tk, rfl⟩ : ∃ tk, vs = .int (-1) tk := by cases ps; exact ⟨_, rfl⟩
  have I5 : L2.Inv X pins σ H4 { s4 with heap := s4.heap.push { cls := .type "slice", data := .fields #[.none, .none, .int (-1) tk] } } := I4.kept (t' := s4.toks) fun b ob q => Heap.get?_push_of_some _ q
  obtain ⟨its, r, ht, hz⟩ := I5.tuple hx
  have hlen := r.length
  show wpAny (model X.prog X.w) X.A (subscriptTail e (.Slice none none (some (.UnaryOp .USub (.Constant (.int 1) k p1) p2)) p3) (.ref a) (.ref s4.heap.objs.size)) (EP X pins σ Q) X.xe { s4 with heap := s4.heap.push { cls := .type "slice", data := .fields #[.none, .none, .int (-1) tk] } }
  refine tail_any (ops := [.ref a, .ref s4.heap.objs.size]) ht.typeIs (PyProof.Rows.slot_tuple_getitem.lookup) ?_ (by with_unfolding_all rfl)
  refine getItem_tuple_rev ht (Heap.IsSliceOf.new _ .none .none (.int (-1) tk)) ?_ (by rw [List.size_toArray]; omega)
  refine ⟨.ref _, _, I5.laid (t' := s4.toks) (o := .tup xs.reverse) (fun b ob q => Heap.get?_push_of_some _ q) (Nat.le_refl _) ?_, rfl, q _ (I5.hok.fresh (Nat.le_refl _))⟩
  exact ⟨by rw [List.length_reverse]; exact hz, _, r.reverse, IsTup.new _ _⟩
theorem pe_revLK {K : PySem.W.Frag} (hK : X.K = K) {e : Expr} {te : TE} {k : Nat} {p1 p2 p3 pos : Pos} (he : PE X e te) : PE X (.Subscript e (.Slice none none (some (.UnaryOp .USub (.Constant (.int 1) k p1) p2)) p3) pos) (tRevL K te) := by subst hK; exact pe_revL he
theorem pe_revTK {K : PySem.W.Frag} (hK : X.K = K) {e : Expr} {te : TE} {k : Nat} {p1 p2 p3 pos : Pos} (he : PE X e te) : PE X (.Subscript e (.Slice none none (some (.UnaryOp .USub (.Constant (.int 1) k p1) p2)) p3) pos) (tRevT K te) := by subst hK; exact pe_revT he
end
theorem da_reverse {K : PySem.W.Frag} {H : Hp} : ∀ {vs : List V} {ds : List PyData}, DpAll K H vs ds → DpAll K H vs.reverse ds.reverse
  | _, _, .nil => .nil
  | _, _, .cons a aa => by rw [List.reverse_cons, List.reverse_cons]; exact da_append (da_reverse aa) (.cons a .nil)
section
variable {K : PySem.W.Frag} {S : AS} {te : TE} {P : AV → Mu → Prop}
theorem ew_revT (h : EW K te S fun a mu => ∃ ds, a = dT ds ∧ P (dT ds.reverse) mu) : EW K (tRevT K te) S P := fun Z as0 as fr σ H ok Q q =>
  h Z as0 as fr σ H ok _ fun v H1 a mu1 g ok1 r ⟨ds, e, p⟩ => by
    subst e
    cases r with
    | tup hs ha =>
      refine ⟨_, _, rfl, sqT_ex off_le hs, fun x hx => ?_⟩
      exact q _ _ _ mu1 (g.trans (.of (Ex.new hx))) (ok1.grow (Ex.new hx)) (rv_tup (sqT_of (ok1.hk.lay hx)) (da_ex (off_ex (Ex.new hx)) (da_reverse ha))) p
theorem ev_revT {ds : List PyData} (h : EV K te S (dT ds)) : EV K (tRevT K te) S (dT ds.reverse) := ew_revT (h.ew ⟨ds, rfl, rfl, rfl⟩)
theorem ew_revL (h : EW K te S fun a mu => (∃ ds, a = dL ds ∧ P (dL ds.reverse) mu) ∨ ∃ j ds, a = .o j ∧ mu[j]? = some (.l ds) ∧ P (dL ds.reverse) mu) : EW K (tRevL K te) S P := fun Z as0 as fr σ H ok Q q =>
  h Z as0 as fr σ H ok _ fun v H1 a mu1 g ok1 r hp => by
    rcases hp with ⟨ds, e, p⟩ | ⟨j, ds, e, hm, p⟩
    · subst e
      cases r with
      | lst hs ha =>
        refine ⟨_, _, rfl, sqL_ex off_le hs, fun x hx => ?_⟩
        exact q _ _ _ mu1 (g.trans (.of (Ex.new hx))) (ok1.grow (Ex.new hx)) (rv_lst (sqL_of (ok1.hk.lay hx)) (da_ex (off_ex (Ex.new hx)) (da_reverse ha))) p
    · subst e
      obtain ⟨pp, hp1, e1⟩ := r
      subst e1
      obtain ⟨vs, hv, ha⟩ := ok1.mu.2 j pp _ hp1 hm
      refine ⟨_, _, rfl, sqL_of hv, fun x hx => ?_⟩
      exact q _ _ _ mu1 (g.trans (.of (Ex.new hx))) (ok1.grow (Ex.new hx)) (rv_lst (sqL_of (ok1.hk.lay hx)) (da_ex (off_ex (Ex.new hx)) (da_reverse ha))) p
theorem ev_revL {ds : List PyData} (h : EV K te S (dL ds)) : EV K (tRevL K te) S (dL ds.reverse) := ew_revL (h.ew (.inl ⟨ds, rfl, rfl, rfl⟩))
theorem ev_revO {j : Nat} {ds : List PyData} (h : EV K te S (.o j)) (hm : S.mu[j]? = some (.l ds)) : EV K (tRevL K te) S (dL ds.reverse) := ew_revL (h.ew (.inr ⟨j, ds, rfl, hm, rfl, rfl⟩))
end
end D2
set_option Elab.async false
set_option linter.all false
set_option maxRecDepth 100000
set_option maxHeartbeats 4000000
/-! DLC: enumerate of a text and of a list. -/
namespace D2
open PySem PySem.Spec PyProof.Rows L2
/-- the signs of a text with their places, in new pairs -/
def Ites (x : Str) : It :=
  ⟨fun i _ => i < x.cps.size, fun i H v H' => ∃ T c, v = .ref T ∧ H T = none ∧ H' = upd H T (.tup [.int (i : Nat), .str ⟨#[c]⟩]) ∧ x.cps[i]? = some c, fun i _ => i = x.cps.size⟩
theorem turn_enumS {P : Program} {w : World} {K : PySem.W.Frag} {elts : List Expr} {kk : Nat} {tpos : Pos} (x : Str) (t : Tok) (ty : String) (hty : ty = "str_ascii_iterator" ∨ ty = "str_iterator") (e it : Addr) :
    Turn P w K (.Tuple elts kk tpos) (Ites x) [e, it] e (fun i h => (∃ old, IsEnum h e it ((i : Nat) : Int) old) ∧ h.IsStrIter it ty x t i ∧ e ≠ it) where
  mem := by simp
  obj := fun i h st b hb => by
    obtain ⟨⟨old, he⟩, ⟨o, ho, hc, hd⟩, _⟩ := st
    have e' : b = e ∨ b = it := by simpa using hb
    rcases e' with z | z
    · rw [z]; exact ⟨_, he, fun v q => nomatch q⟩
    · rw [z]; exact ⟨o, ho, fun v q => by rw [hd] at q; cases q⟩
  keep := fun i h h' st k => let ⟨⟨old, he⟩, ⟨o, ho, r⟩, hne⟩ := st; ⟨⟨old, k e (by simp) _ he⟩, ⟨o, k it (by simp) o ho, r⟩, hne⟩
  item := by
    intro X hP hw hK hc i pins s σ H E I hf st hg
    subst hP hw hK
    obtain ⟨⟨old, he⟩, hit, hne⟩ := st
    have hh : X.A.in1.handled = none := I.ok.hd hc
    have D : Draws X.prog X.w X.A.in1 it [it] x.cps.size (fun i v => ∃ c u, x.cps[i]? = some c ∧ v = .str ⟨#[c]⟩ u) (fun i h => h.IsStrIter it ty x t i) := by
      rcases hty with z | z
      · rw [z]; exact Draws.strAscii hh it x t
      · rw [z]; exact Draws.strWide hh it x t
    have hel : e < s.heap.objs.size := Heap.lt_size he
    have hil : it < s.heap.objs.size := by obtain ⟨_, q, _⟩ := hit; exact Heap.lt_size q
    refine wpAny_pyNext_enum_itemD D he hit hg hne (by simpa using hne) fun v h' tk hPx ho hit' hT hsz hk => ?_
    obtain ⟨c, u, hcx, rfl⟩ := hPx
    refine ⟨_, rfl, wpAny_letOwnedTupleGo_enum (s := { s with heap := h', toks := tk + 1 }) ho fun h'' he' sb => ?_⟩
    have hT2 : h''.get? s.heap.objs.size = some { cls := .type "tuple", data := .seq #[.int i tk, .str ⟨#[c]⟩ u] } := (sb.2 _ (Nat.ne_of_gt hel)).trans hT
    have new : ObjOk X.prog X.w (upd H s.heap.objs.size (.tup [.int (i : Nat), .str ⟨#[c]⟩])) h'' s.heap.objs.size (.tup [.int (i : Nat), .str ⟨#[c]⟩]) :=
      ⟨by show 2 ≤ sizeLine; decide, [.int i tk, .str ⟨#[c]⟩ u], .cons ⟨_, rfl⟩ (.cons ⟨_, rfl⟩ .nil), ⟨_, hT2, rfl, _, rfl⟩⟩
    have I1 : L2.Inv X pins σ (upd H s.heap.objs.size (.tup [.int (i : Nat), .str ⟨#[c]⟩])) { s with heap := h'', toks := tk + 1 } :=
      I.turnedNew (ch := [e, it]) (fun b ob hb q => (sb.2 b (fun z => hb (by simp [z]))).trans (hk b ob (fun z => hb (by simp [z])) (fun z => hb (by simp [z])) q)) hf (Nat.le_refl _) new
    refine ⟨.ref s.heap.objs.size, _, I1, rfl, ⟨_, c, rfl, I.hok.fresh (Nat.le_refl _), rfl, hcx⟩, ⟨⟨.str ⟨#[c]⟩ u, ?_⟩, ?_, hne⟩, fun b hb => ?_⟩
    · have e1 : ((i + 1 : Nat) : Int) = (i : Int) + 1 := by omega
      rw [e1]; exact he'
    · obtain ⟨o, h1, h2⟩ := hit'
      exact ⟨o, (sb.2 it (Ne.symm hne)).trans h1, h2⟩
    · have hb' : b < s.heap.objs.size := by
        have e' : b = e ∨ b = it := by simpa using hb
        rcases e' with z | z
        · rw [z]; exact hel
        · rw [z]; exact hil
      rw [upd_ne (Nat.ne_of_lt hb')]
      exact (hf b hb).1
  done := by
    intro X hP hw hK hc i pins s σ H E I hf st hg
    subst hP hw hK
    obtain ⟨⟨old, he⟩, hit, hne⟩ := st
    have hi : i = x.cps.size := hg
    subst hi
    have hh : X.A.in1.handled = none := I.ok.hd hc
    have D : Draws X.prog X.w X.A.in1 it [it] x.cps.size (fun i v => ∃ c u, x.cps[i]? = some c ∧ v = .str ⟨#[c]⟩ u) (fun i h => h.IsStrIter it ty x t i) := by
      rcases hty with z | z
      · rw [z]; exact Draws.strAscii hh it x t
      · rw [z]; exact Draws.strWide hh it x t
    obtain ⟨f0, f1, f2, f3, f4, f5⟩ := hf it (by simp)
    exact wpAny_pyNext_enum_endD D he hit fun h' eb => ⟨rfl, I.turned (t' := s.toks) (fun b o hb q => eb b o hb q) f0 f1 f3 f4 f5⟩
  self := fun A i s Q E st h => let ⟨⟨_, he⟩, _⟩ := st; wpAny_pyIter_enum he h
def iEnumS (ta : TA) : TI := fun σ H R => ta σ H fun vs H1 => ∃ x, vs = [.str x] ∧ R (Ites x) H1
theorem strIter_ty (x : Str) : strIterType x = "str_ascii_iterator" ∨ strIterType x = "str_iterator" := by
  unfold strIterType
  split
  · exact .inl rfl
  · exact .inr rfl
theorem pi_enumS {X : Cx} {e : Expr} {ta : TA} {p pos tpos : Pos} {elts : List Expr} {kk : Nat} (hg : Gl X "enumerate") (hm : X.mg "enumerate" = none) (ha : PA X [e] ta) (hs : starEach [e] X.env = [(false, eval e X.env)] := by rfl) :
    PI X (.Tuple elts kk tpos) (.Call (.Name "enumerate" p) [e] [] pos) (iEnumS ta) := by
  refine ⟨fun pins s σ H R I h => ?_⟩
  refine Call_ (ld_blt I hg hm boot_enumerate (PyProof.Rows.callWith_type1 (thn (ha.run pos pins s σ H _ I h) fun us s1 ⟨vs, H1, I1, r1, q1⟩ => ?_) hs rfl))
  obtain ⟨x, ex, q⟩ := q1
  subst ex
  cases r1 with
  | cons r rr =>
    cases rr
    obtain ⟨t, rfl⟩ := r
    refine call_enumerate_str fun h' he hit hsz hk => wpAny_pyIter_enum he ?_
    have I2 : L2.Inv X pins σ H1 { s1 with heap := h' } := I1.kept (t' := s1.toks) hk
    refine ⟨s1.heap.objs.size + 1, [s1.heap.objs.size + 1, s1.heap.objs.size], _, _, H1, rfl, I2, turn_enumS x t _ (strIter_ty x) (s1.heap.objs.size + 1) s1.heap.objs.size, ⟨⟨.none, he⟩, hit, Nat.succ_ne_self _⟩, fun b hb => ?_, q⟩
    have e' : b = s1.heap.objs.size + 1 ∨ b = s1.heap.objs.size := by simpa using hb
    have hle : s1.heap.objs.size ≤ b := by
      rcases e' with z | z
      · rw [z]; exact Nat.le_add_right _ _
      · rw [z]; exact Nat.le_refl _
    exact I1.fpOk hle (I1.hok.fresh hle)
theorem pi_enumK {X : Cx} {K : PySem.W.Frag} (hK : X.K = K) {e : Expr} {ta : TA} {p pos tpos : Pos} {elts : List Expr} {kk : Nat} (hg : Gl X "enumerate") (hm : X.mg "enumerate" = none) (ha : PA X [e] ta) (hs : starEach [e] X.env = [(false, eval e X.env)] := by rfl) :
    PI X (.Tuple elts kk tpos) (.Call (.Name "enumerate" p) [e] [] pos) (iEnum K ta) := by subst hK; exact pi_enum hg hm ha hs
section
variable {K : PySem.W.Frag} {S : AS}
theorem eiw_enumS {t : TA} {P : List PyData → Mu → Prop} (h : AW K t S fun avs mu => ∃ l : List Nat, avs = [dS l] ∧ P ((List.range l.length).map fun i => .tuple [pn i, pS [l.getD i 0]]) mu) : EIW K (iEnumS t) S P := fun Z as0 as fr σ H ok R q =>
  h Z as0 as fr σ H ok _ fun vs H1 avs mu1 g1 ok1 r1 ⟨l, e, p⟩ => by
    subst e
    cases r1 with
    | cons r1 r2 =>
      cases r2
      cases r1
      refine ⟨_, rfl, q (Ites ⟨l.toArray⟩) H1 _ (fun _ => True) mu1 g1 ok1 ⟨fun i M H _ hi => ?_, fun i M H x H' _ hex hi hy => ?_, fun M H _ => ?_, fun _ _ _ _ => trivial⟩ trivial p⟩
      · show i < l.toArray.size
        rw [List.length_map, List.length_range] at hi; simpa using hi
      · obtain ⟨T, c, e1, e2, e3, e4⟩ := hy
        subst e1; subst e3
        rw [List.length_map, List.length_range] at hi
        have hc : l[i]? = some c := by simpa using e4
        have hT : T ∉ M := fun z => by obtain ⟨o, ho⟩ := hex T z; rw [e2] at ho; cases ho
        refine ⟨.tuple [pn i, pS [l.getD i 0]], ?_, Ex.new e2, .tup (xs := [.int (i : Nat), .str ⟨#[c]⟩]) (sqT_of ?_) (.cons (.int _) (.cons ?_ .nil))⟩
        · rw [List.getElem?_map, List.getElem?_range hi]; rfl
        · rw [off_at hT, upd_same]
        · rw [List.getD_eq_getElem?_getD, hc]; exact .str _
      · show _ = l.toArray.size
        rw [List.length_map, List.length_range]; simp
theorem ei_enumS {t : TA} {l : List Nat} (h : AVs K t S [dS l]) : EI K (iEnumS t) S ((List.range l.length).map fun i => .tuple [pn i, pS [l.getD i 0]]) := eiw_enumS (h.ew ⟨l, rfl, rfl, rfl⟩)
theorem eiw_enum {t : TA} {P : List PyData → Mu → Prop} (h : AW K t S fun avs mu => ∃ ds, avs = [dL ds] ∧ P ((List.range ds.length).map fun i => .tuple [pn i, ds.getD i .none]) mu) : EIW K (iEnum K t) S P := fun Z as0 as fr σ H ok R q =>
  h Z as0 as fr σ H ok _ fun vs H1 avs mu1 g1 ok1 r1 ⟨ds, e, p⟩ => by
    subst e
    cases r1 with
    | cons r1 r2 =>
      cases r2
      cases r1 with
      | lst hs ha =>
        rename_i b xs
        refine ⟨b, xs, rfl, sqL_ex off_le hs, q (Ite K b) H1 _ (fun Hf => SqL K Hf b xs ∧ DpAll K Hf xs ds) mu1 g1 ok1 ⟨fun i M H hg hi => ?_, fun i M H x H' hg hex hi hy => ?_, fun M H hg => ?_, fun _ _ hg e => ⟨sqL_ex e hg.1, da_ex e hg.2⟩⟩ ⟨hs, ha⟩ p⟩
        · rw [List.length_map, List.length_range] at hi
          obtain ⟨v, hv, _⟩ := da_get hg.2 (List.getElem?_eq_getElem hi)
          exact ⟨xs, v, sqL_ex off_le hg.1, hv⟩
        · obtain ⟨T, v, e1, e2, e3, e4⟩ := hy
          subst e1; subst e3
          rw [List.length_map, List.length_range] at hi
          have hv := e4 xs (sqL_ex off_le hg.1)
          obtain ⟨d, hd, hr⟩ := da_getV hg.2 hv
          have hT : T ∉ M := fun z => by obtain ⟨o, ho⟩ := hex T z; rw [e2] at ho; cases ho
          refine ⟨.tuple [pn i, ds.getD i .none], ?_, Ex.new e2, .tup (xs := [.int (i : Nat), v]) (sqT_of ?_) (.cons (.int _) (.cons ?_ .nil))⟩
          · rw [List.getElem?_map, List.getElem?_range hi]; rfl
          · rw [off_at hT, upd_same]
          · rw [List.getD_eq_getElem?_getD, hd]; exact dp_ex (off_ex (Ex.new e2)) hr
        · rw [List.length_map, List.length_range]
          exact ⟨xs, sqL_ex off_le hg.1, by rw [da_length hg.2]; exact Nat.le_refl _⟩
theorem ei_enum {t : TA} {ds : List PyData} (h : AVs K t S [dL ds]) : EI K (iEnum K t) S ((List.range ds.length).map fun i => .tuple [pn i, ds.getD i .none]) := eiw_enum (h.ew ⟨ds, rfl, rfl, rfl⟩)
end
end D2
set_option Elab.async false
set_option linter.all false
set_option maxRecDepth 100000
set_option maxHeartbeats 4000000
/-! DLD: ranges as things of our own; a thing of our own that is forgotten. -/
namespace D2
open PySem PySem.Spec PyProof.Rows L2
section
variable {K : PySem.W.Frag} {S : AS} {t : TS} {A : AE}
def loseA (j : Nat) : Option AV → Option AV
  | some (.o k) => if k = j then none else if j < k then some (.o (k - 1)) else some (.o k)
  | x => x
theorem sw_lose {j : Nat} (hjm : j < S.mu.length) (hj : A.n0 ≤ j) (h : SW K t ⟨S.sl.map (loseA j), S.mu.eraseIdx j⟩ A) : SW K t S A := fun Z as0 as fr σ H D ok im => by
  refine h Z as0 (as.eraseIdx j) fr σ H D ?_ im
  have hjl : j < as.length := by rw [ok.mu.1]; exact hjm
  obtain ⟨p, hp⟩ : ∃ p, as[j]? = some p := ⟨_, List.getElem?_eq_getElem hjl⟩
  have sub : ∀ b ∈ as.eraseIdx j ++ fr, b ∈ as ++ fr := fun b hb => by
    rcases List.mem_append.mp hb with z | z
    · exact List.mem_append_left _ (List.mem_of_mem_eraseIdx z)
    · exact List.mem_append_right _ z
  have eo : Ex (off (as ++ fr) H) (off (as.eraseIdx j ++ fr) H) := off_mono sub
  have nd := List.nodup_append.mp ok.nd
  have pne : p ∉ as.eraseIdx j ++ fr := fun z => by
    rcases List.mem_append.mp z with z | z
    · obtain ⟨i, hne, hi⟩ := List.mem_eraseIdx_iff_getElem?.mp z
      obtain ⟨h1, e1⟩ := List.getElem?_eq_some_iff.mp hi
      obtain ⟨h2, e2⟩ := List.getElem?_eq_some_iff.mp hp
      exact hne ((List.getElem_inj nd.1).mp (e1.trans e2.symm))
    · exact nd.2.2 p (List.mem_of_getElem? hp) p z rfl
  have ge : ∀ (i : Nat), (as.eraseIdx j)[i]? = if i < j then as[i]? else as[i + 1]? := fun i => List.getElem?_eraseIdx
  refine ⟨by rw [List.length_map]; exact ok.len, fun i av e => ?_, ⟨?_, fun i q m hi hm' => ?_⟩, ?_, fun q hq => ok.ex q (sub q hq), ?_, fun b o e => ?_⟩
  · have e' : (S.sl.map (loseA j))[i]? = some (some av) := e
    rw [List.getElem?_map] at e'
    obtain ⟨x, hx, ex⟩ : ∃ x, S.sl[i]? = some x ∧ loseA j x = some av := by
      cases hs : S.sl[i]? with
      | none => rw [hs] at e'; cases e'
      | some x => rw [hs] at e'; exact ⟨x, rfl, Option.some.inj e'⟩
    cases x with
    | none => cases ex
    | some a =>
      obtain ⟨v, h1, h2⟩ := ok.sl i a hx
      cases a with
      | d x => cases ex; exact ⟨v, h1, h2.ex eo⟩
      | o k =>
        obtain ⟨q, hq, e2⟩ := h2
        subst e2
        refine ⟨.ref q, h1, ?_⟩
        unfold loseA at ex
        by_cases c : k = j
        · simp only [c, if_true] at ex
          cases ex
        · simp only [c, if_false] at ex
          by_cases c2 : j < k
          · simp only [c2, if_true] at ex
            cases ex
            refine ⟨q, ?_, rfl⟩
            rw [ge, if_neg (by omega)]
            rw [show k - 1 + 1 = k by omega]; exact hq
          · simp only [c2, if_false] at ex
            cases ex
            refine ⟨q, ?_, rfl⟩
            rw [ge, if_pos (by omega)]; exact hq
  · show (as.eraseIdx j).length = (S.mu.eraseIdx j).length
    rw [List.length_eraseIdx, List.length_eraseIdx, ok.mu.1]
  · have hm'' : (S.mu.eraseIdx j)[i]? = some m := hm'
    rw [List.getElem?_eraseIdx] at hm''
    rw [ge] at hi
    by_cases c : i < j
    · rw [if_pos c] at hi hm''
      exact (ok.mu.2 i q m hi hm'').ex eo rfl
    · rw [if_neg c] at hi hm''
      exact (ok.mu.2 (i + 1) q m hi hm'').ex eo rfl
  · refine List.nodup_append.mpr ⟨nd.1.sublist (List.eraseIdx_sublist _ _), nd.2.1, fun a ha b hb => nd.2.2 a (List.mem_of_mem_eraseIdx ha) b hb⟩
  · obtain ⟨more, e⟩ := ok.pre
    refine ⟨more.eraseIdx (j - as0.length), ?_⟩
    rw [e, List.eraseIdx_append_of_length_le (by rw [im.n0]; exact hj)]
  · obtain ⟨h1, h2⟩ := ok.pres b o e
    exact ⟨fun z => h1 (List.mem_of_mem_eraseIdx z), h2⟩
end
section
variable {X : Cx}
def rRngV : List V → Hp → VK → Prop := fun vs H Q => ∃ i j, vs = [V.int i, V.int j] ∧ ∀ p, H p = none → Q (.ref p) (upd H p (.rng i j))
theorem cr_rngV : CallR X (.type "range") rRngV := cr_range2
/-- a range as a value, walked -/
def iRngV (te : TE) : TI := fun σ H R => te σ H fun v H1 => ∃ a lo hi, v = .ref a ∧ H1 a = some (.rng lo hi) ∧ (-(2 ^ 62) ≤ lo ∧ lo < 2 ^ 62 ∧ -(2 ^ 62) ≤ hi ∧ hi < 2 ^ 62) ∧ R (Itr lo (hi - lo).toNat) H1
theorem pi_rngV {tg e : Expr} {te : TE} (he : PE X e te) : PI X tg e (iRngV te) := by
  refine ⟨fun pins s σ H R I h => ?_⟩
  refine thn (he.run pins s σ H _ I h) fun v s1 ⟨x, H1, I1, r1, q1⟩ => ?_
  obtain ⟨a, lo, hi, ex, hr, ⟨h1, h2, h3, h4⟩, q⟩ := q1
  subst ex
  cases r1
  obtain ⟨t, u, v, ho⟩ := I1.hok _ _ hr
  refine wpAny_pyIter_range (a := lo) (b := hi) (c := 1) (t := t) (u := u) (v := v) ho (small_one h1 h2 h3 h4) ?_
  refine ⟨s1.heap.objs.size, [s1.heap.objs.size], _, _, H1, rfl, I1.kept (t' := s1.toks) fun b o e => Heap.get?_push_of_some _ e, turn_range _ lo (hi - lo).toNat, ?_, fun b hb => ?_, q⟩
  · have e1 : lo + ((0 : Nat) : Int) * 1 = lo := by simp
    have e2 : (((hi - lo).toNat : Nat) : Int) - ((0 : Nat) : Int) = Builtin.Range.rangeSize lo hi 1 := by rw [rangeSize_one]; split <;> omega
    show IsRangeIter _ _ (lo + ((0 : Nat) : Int) * 1) ((((hi - lo).toNat : Nat) : Int) - ((0 : Nat) : Int)) 1
    rw [e1, e2]
    exact Heap.get?_push_size _ rfl
  · have e : b = s1.heap.objs.size := by simpa using hb
    subst e
    exact I1.fpOk (Nat.le_refl _) (I1.hok.fresh (Nat.le_refl _))
end
section
variable {K : PySem.W.Frag} {S : AS} {t : TS} {A : AE}
/-- x = range(i, j) -/
theorem sw_asgR {i : Nat} {ta : TA} (h : AW K ta S fun avs mu => ∃ lo hi, avs = [dI lo, dI hi] ∧ A.nx ⟨S.sl.set i (some (.o mu.length)), mu ++ [.r lo hi]⟩) : SW K (tAsg (tCB rRngV ta) (gName i)) S A := fun Z as0 as fr σ H D ok im =>
  h Z as0 as fr σ H ok _ fun vs H1 avs mu1 g ok1 r ⟨lo, hi, e, k⟩ => by
    subst e
    cases r with
    | cons r1 r => cases r with
      | cons r2 r =>
        cases r
        cases r1
        cases r2
        refine ⟨lo, hi, rfl, fun p hp => ?_⟩
        have ok2 := ok1.own (o := .rng lo hi) (m := .r lo hi) hp upd_same
        refine im.nx _ _ _ _ (ok2.store (i := i) (v := .ref p) (av := .o mu1.length) ⟨p, ?_, rfl⟩) k
        rw [← ok1.mu.1, List.getElem?_append_right (Nat.le_refl _), Nat.sub_self]; rfl
theorem ei_rngV {i j : Nat} {lo hi : Int} (hi0 : S.sl[i]? = some (some (.o j))) (hm : S.mu[j]? = some (.r lo hi)) (hb : -(2 ^ 62) ≤ lo ∧ lo < 2 ^ 62 ∧ -(2 ^ 62) ≤ hi ∧ hi < 2 ^ 62) :
    EI K (iRngV (tVar i)) S ((List.range (hi - lo).toNat).map fun (k : Nat) => PyData.int (lo + (k : Int))) := fun Z as0 as fr σ H ok R q => by
  obtain ⟨v, h1, p, hp, e⟩ := ok.sl i _ hi0
  subst e
  have hr : H p = some (.rng lo hi) := ok.mu.2 j p _ hp hm
  refine ⟨.ref p, h1, p, lo, hi, rfl, hr, hb, q (Itr lo (hi - lo).toNat) H _ (fun _ => True) S.mu Gr.refl ok ⟨fun i M H _ hi => ?_, fun i M H x H' _ _ hi hy => ?_, fun M H _ => ?_, fun _ _ _ _ => trivial⟩ trivial ⟨rfl, rfl⟩⟩
  · rw [List.length_map, List.length_range] at hi; exact hi
  · obtain ⟨e1, e2⟩ := hy
    subst e1; subst e2
    refine ⟨.int (lo + (i : Nat)), ?_, Ex.refl _, .int _⟩
    rw [List.length_map, List.length_range] at hi
    rw [List.getElem?_map, List.getElem?_range hi]; rfl
  · show (hi - lo).toNat ≤ _
    rw [List.length_map, List.length_range]; exact Nat.le_refl _
theorem ei_rngVN {i j a b : Nat} (hi0 : S.sl[i]? = some (some (.o j))) (hm : S.mu[j]? = some (.r (a : Int) (b : Int))) (ha : a ≤ 1000000) (hb : b ≤ 1000000) :
    EI K (iRngV (tVar i)) S ((List.range (b - a)).map fun k => pn (a + k)) := by
  have := ei_rngV (K := K) (S := S) hi0 hm (by omega)
  have e : ((b : Int) - a).toNat = b - a := by omega
  rw [e] at this
  have e2 : (fun (k : Nat) => PyData.int ((a : Int) + (k : Int))) = fun k => pn (a + k) := by
    funext k; show PyData.int _ = PyData.int _; rw [Int.natCast_add]
  rw [e2] at this; exact this
end
end D2
set_option linter.all false
set_option maxRecDepth 100000
set_option maxHeartbeats 4000000
/-! text.index(sign), list.index(any data), max of three -/
namespace D2
open PySem PySem.Spec PyProof.Rows L2
theorem u65 {k : Nat} {A : Around} (r : Room k A) : A.units + 65 < cLine := by have := r.un; omega
def rSIdx : V → List V → Hp → VK → Prop := fun x xs H Q => ∃ a b i rest, x = .str a ∧ xs = [.str b] ∧ Builtin.Str.occurrences a b 0 a.length 1 = i :: rest ∧ Q (.int (i : Nat)) H
theorem mt_sidx {X : Cx} : MtR X "str.index" rSIdx := mt_sindex
theorem mt_idxD {X : Cx} {K : PySem.W.Frag} (hK : X.K = K) (hu : X.A.units + 65 < cLine) : MtR X "list.index" (rIndexD K) := by subst hK; exact mt_indexD hu
theorem call_max3U {X : Cx} (hc : X.calm = true) : CallR X (.builtin "max") (rNuC3 nuMax3) := call_max3Nu hc
section
variable {K : PySem.W.Frag} {mu : Mu}
theorem occ_one {l : List Nat} {c i : Nat} : Occ l [c] i ↔ l[i]? = some c := by
  unfold Occ
  constructor
  · rintro ⟨h1, h2⟩
    have h1 : i + 1 ≤ l.length := h1
    have h2 : (l.drop i).take 1 = [c] := h2
    have := congrArg (fun z => z[0]?) h2
    have e : ((l.drop i).take 1)[0]? = some c := this
    rw [List.getElem?_take_of_lt (by omega), List.getElem?_drop] at e
    exact e
  · intro h
    have hi := (List.getElem?_eq_some_iff.mp h).1
    refine ⟨hi, ?_⟩
    show (l.drop i).take 1 = [c]
    rw [List.drop_eq_getElem_cons hi, (List.getElem?_eq_some_iff.mp h).2]; rfl
theorem rm_sidx {l : List Nat} {c j : Nat} (h : l[j]? = some c) (hn : ∀ m, m < j → l[m]? ≠ some c) : RM K mu rSIdx (dS l) [dS [c]] (dn j) := fun as fr H v vs hk r1 r2 Q k => by
  cases r2 with
  | cons r2 r3 =>
    cases r3
    cases r2
    cases r1
    rcases StrLaws.occ_head ⟨l.toArray⟩ ⟨[c].toArray⟩ 1 (Nat.le_refl _) with ⟨_, h2⟩ | ⟨i, r, h1, h2, h3⟩
    · exact absurd (at_occ.mpr (occ_one.mpr h)) (h2 j)
    · have e : i = j := by
        have g := occ_one.mp (at_occ.mp h2)
        rcases Nat.lt_trichotomy i j with z | z | z
        · exact absurd g (hn i z)
        · exact z
        · exact absurd (at_occ.mpr (occ_one.mpr h)) (h3 j z)
      subst e
      exact ⟨_, _, i, r, rfl, rfl, h1, k.int⟩
theorem rm_idxX {ds : List PyData} {d z : PyData} {j : Nat} (s1 : SeqAt.shaped (.list ds) = true) (s2 : SeqAt.shaped d = true) (h : ds[j]? = some z) (he : PyData.eqv z d = true) (hn : ∀ m z', m < j → ds[m]? = some z' → PyData.eqv z' d = false) : RM K mu (rIndexD K) (dL ds) [.d d] (dn j) := fun as fr H v vs hk r1 r2 Q k => by
  cases r2 with
  | cons r2 r3 =>
    cases r3
    have q1 := dp_ex off_le r1
    have q2 := dp_ex off_le r2
    cases r1 with
    | lst hs ha => exact ⟨_, _, d, ds, j, z, rfl, rfl, q1, q2, s1, s2, h, he, hn, k.int⟩
theorem nuMax2N {a b : Nat} : nuMax2 (.int (a : Int)) (.int (b : Int)) = some (.int ((max a b : Nat) : Int)) := by
  show some (if decide ((a : Int) < (b : Int)) = true then V.int (b : Int) else V.int (a : Int)) = _
  by_cases h : a < b
  · rw [if_pos (decide_eq_true (by omega)), Nat.max_eq_right (by omega)]
  · rw [if_neg (fun z => by have := of_decide_eq_true z; omega), Nat.max_eq_left (by omega)]
theorem ra_max3N {a b c : Nat} : RA K mu (rNuC3 nuMax3) [dn a, dn b, dn c] (dn (max (max a b) c)) := fun as fr H vs hk r Q k => by
  cases r with
  | cons r1 r =>
    cases r with
    | cons r2 r =>
      cases r with
      | cons r3 r =>
        cases r
        cases r1; cases r2; cases r3
        refine ⟨_, _, _, .int ((max (max a b) c : Nat) : Int), rfl, ?_, k.int⟩
        unfold nuMax3
        rw [nuMax2N]
        exact nuMax2N
end
theorem pe_bmC {X : Cx} {K : PySem.W.Frag} (hK : X.K = K) {e : Expr} {te : TE} {T : String} {r : V → List V → Hp → VK → Prop} {t : TA} (h : PE X e (tBM X.K T r te t)) : PE X e (tBM K T r te t) := by subst hK; exact h
theorem inV_nats {a : Nat} : ∀ ns : List Nat, inV (.int (a : Int)) (ns.map fun n : Nat => V.int (n : Int)) = decide (a ∈ ns)
  | [] => rfl
  | b :: r => by
    have ih := inV_nats (a := a) r
    unfold inV at ih ⊢
    rw [List.map_cons, List.any_cons, ih]
    have e : eqV (.int (b : Int)) (.int (a : Int)) = decide (b = a) := by
      by_cases h : b = a
      · subst h; simp [eqV]
      · have h2 : ¬ (b : Int) = (a : Int) := by omega
        simp [eqV, h, h2]
    rw [e]
    by_cases h : b = a
    · subst h; simp
    · simp [h, Ne.symm h]
theorem rb_ninON {K : PySem.W.Frag} {mu : Mu} {j a : Nat} {ns : List Nat} (hm : mu[j]? = some (.l (ns.map pn))) : RB K mu (rNotInU K) (dn a) (.o j) (dB (!decide (a ∈ ns))) := fun as fr H v1 v2 hk r1 r2 Q k => by
  cases r1
  obtain ⟨p, hp, e⟩ := r2
  subst e
  obtain ⟨vs, hv, ha⟩ := hk.mu.2 j p _ hp hm
  have e1 : ns.map pn = (ns.map Int.ofNat).map PyData.int := by rw [List.map_map]; rfl
  rw [e1] at ha
  have e2 := da_ints ha
  rw [List.map_map] at e2
  subst e2
  refine .inr (.inl ⟨_, _, rfl, .inl (sqL_of hv), rfl, ?_, ?_⟩)
  · rw [List.all_eq_true]; intro x hx; obtain ⟨y, _, e⟩ := List.mem_map.mp hx; subst e; rfl
  · rw [if_pos rfl]
    have := inV_nats (a := a) ns
    have e3 : inV (.int (a : Int)) (ns.map (V.int ∘ Int.ofNat)) = decide (a ∈ ns) := this
    rw [e3]; exact k.bl
/-! lists of whole numbers as data: order, equality, the greatest, the place -/
open PySem.W (dataLt alike alikeAll AlikeAll minD maxD)
def lN (a : List Nat) : PyData := .list (a.map pn)
theorem lN_alikeAll : ∀ a b : List Nat, alikeAll (a.map pn) (b.map pn) = true
  | [], _ => by rw [List.map_nil, alikeAll]
  | _ :: _, [] => by rw [List.map_nil, List.map_cons, alikeAll]
  | a :: r, b :: s => by rw [List.map_cons, List.map_cons, alikeAll, lN_alikeAll r s]; rfl
theorem lN_alike (a b : List Nat) : alike (lN a) (lN b) = true := by unfold lN; rw [alike]; exact lN_alikeAll a b
theorem lN_depthAll : ∀ a : List Nat, PyData.depthAll (a.map pn) = 0
  | [] => by simp [PyData.depthAll]
  | x :: r => by rw [List.map_cons, PyData.depthAll, lN_depthAll r]; rfl
theorem lN_depth (a : List Nat) : (lN a).depth = 1 := by unfold lN; rw [PyData.depth, lN_depthAll]
theorem lN_layAll : ∀ a : List Nat, PyData.canLayAll0 (a.map pn) = true
  | [] => rfl
  | _ :: r => by rw [List.map_cons, PyData.canLayAll0, lN_layAll r]; rfl
theorem lN_lay (a : List Nat) : (lN a).canLay0 = true := by unfold lN; rw [PyData.canLay0]; exact lN_layAll a
theorem lN_shaped (a : List Nat) : SeqAt.shaped (lN a) = true := by
  unfold SeqAt.shaped
  rw [lN_lay, lN_depth]; rfl
theorem lNs_layAll : ∀ L : List (List Nat), PyData.canLayAll0 (L.map lN) = true
  | [] => rfl
  | a :: r => by rw [List.map_cons, PyData.canLayAll0, lNs_layAll r, lN_lay]; rfl
theorem lNs_depthAll : ∀ L : List (List Nat), PyData.depthAll (L.map lN) ≤ 1
  | [] => by simp [PyData.depthAll]
  | a :: r => by
    rw [List.map_cons, PyData.depthAll, lN_depth]
    have := lNs_depthAll r
    omega
theorem lNs_shaped (L : List (List Nat)) : SeqAt.shaped (.list (L.map lN)) = true := by
  unfold SeqAt.shaped
  rw [PyData.canLay0, lNs_layAll, PyData.depth]
  have := lNs_depthAll L
  exact decide_eq_true (by omega)
theorem lN_eqvAll : ∀ a b : List Nat, PyData.eqvAll (a.map pn) (b.map pn) = decide (a = b)
  | [], [] => by simp [PyData.eqvAll]
  | [], _ :: _ => by simp [PyData.eqvAll]
  | _ :: _, [] => by simp [PyData.eqvAll]
  | a :: r, b :: s => by
    have e : PyData.eqv (pn a) (pn b) = decide (a = b) := by
      show PyData.eqv (.int (a : Int)) (.int (b : Int)) = _
      by_cases h : a = b
      · simp [PyData.eqv, h]
      · have h2 : ¬ (a : Int) = (b : Int) := by omega
        simp [PyData.eqv, h, h2]
    rw [List.map_cons, List.map_cons, PyData.eqvAll, lN_eqvAll r s, e]
    by_cases h : a = b <;> by_cases h' : r = s <;> simp [h, h']
theorem lN_eqv (a b : List Nat) : PyData.eqv (lN a) (lN b) = decide (a = b) := by unfold lN; rw [PyData.eqv]; exact lN_eqvAll a b
theorem lN_lexAll : ∀ a b : List Nat, PyProof.Rows.lexLt PyProof.Rows.itemOrd (PySem.W.keyToksAll (a.map pn)) (PySem.W.keyToksAll (b.map pn)) = decide (a < b)
  | [], [] => by simp [PySem.W.keyToksAll, PyProof.Rows.lexLt, PyProof.Rows.itemLt]
  | [], b :: s => by simp [PySem.W.keyToksAll, PyProof.Rows.lexLt, PyProof.Rows.itemLt]
  | a :: r, [] => by simp [PySem.W.keyToksAll, PyProof.Rows.lexLt, PyProof.Rows.itemLt]
  | a :: r, b :: s => by
    rw [List.map_cons, List.map_cons]
    by_cases h : a = b
    · subst h
      rw [PySem.W.dataLt_all_yes rfl (by show PyData.eqv (.int (a : Int)) (.int (a : Int)) = true; simp [PyData.eqv]), lN_lexAll r s]
      simp
    · rw [PySem.W.dataLt_all_no rfl (by show PyData.eqv (.int (a : Int)) (.int (b : Int)) = false; simp [PyData.eqv]; omega)]
      show dataLt (.int (a : Int)) (.int (b : Int)) = _
      rw [PySem.W.dataLt_int]
      simp [h, List.cons_lt_cons_iff]
theorem lN_lt (a b : List Nat) : dataLt (lN a) (lN b) = decide (a < b) := by unfold lN; rw [PySem.W.dataLt_list]; exact lN_lexAll a b
theorem maxD_lN : ∀ (L : List (List Nat)) (a : List Nat), maxD (lN a) (L.map lN) = lN (L.foldl (fun a y => if a < y then y else a) a)
  | [], a => rfl
  | b :: r, a => by
    have ih := maxD_lN r (if a < b then b else a)
    unfold maxD at ih ⊢
    rw [List.map_cons, List.foldl_cons, List.foldl_cons, ← ih, lN_lt]
    congr 1
    by_cases h : a < b <;> simp [h]
theorem foldM : ∀ (L : List (List Nat)) (a : List Nat), L.foldl (fun a y => if a < y then y else a) a ∈ a :: L ∧ ∀ y, y ∈ a :: L → ¬ L.foldl (fun a y => if a < y then y else a) a < y
  | [], a => ⟨List.mem_cons_self, fun y hy => by rw [List.mem_singleton.mp hy]; exact List.lt_irrefl _⟩
  | b :: r, a => by
    rw [List.foldl_cons]
    obtain ⟨h1, h2⟩ := foldM r (if a < b then b else a)
    have h3 := h2 _ List.mem_cons_self
    generalize r.foldl (fun a y => if a < y then y else a) (if a < b then b else a) = m at h1 h2 h3
    constructor
    · rcases List.mem_cons.mp h1 with e | e
      · rw [e]
        split
        · exact List.mem_cons_of_mem _ List.mem_cons_self
        · exact List.mem_cons_self
      · exact List.mem_cons_of_mem _ (List.mem_cons_of_mem _ e)
    · intro y hy z
      rcases List.mem_cons.mp hy with e | e
      · subst e
        by_cases c : y < b
        · rw [if_pos c] at h3; exact h3 (List.lt_trans z c)
        · rw [if_neg c] at h3; exact h3 z
      · rcases List.mem_cons.mp e with e | e
        · subst e
          by_cases c : a < y
          · rw [if_pos c] at h3; exact h3 z
          · rw [if_neg c] at h3
            by_cases c2 : a = y
            · subst c2; exact h3 z
            · have : y < a := by
                apply Classical.byContradiction
                intro q
                exact c2 (List.le_antisymm (List.not_lt.mp q) (List.not_lt.mp c))
              exact h3 (List.lt_trans z this)
        · exact h2 y (List.mem_cons_of_mem _ e) z
section
variable {K : PySem.W.Frag} {mu : Mu}
theorem rb_gtLL {a b : List Nat} : RB K mu (rGtU K) (.d (lN a)) (.d (lN b)) (dB (decide (b < a))) := by
  rw [← lN_lt]
  exact rb_gtX (lN_alike a b) (fun z => by cases z) (by rw [lN_depth]; omega)
theorem ra_maxLL {L : List (List Nat)} {m : List Nat} (hm : m ∈ L) (hx : ∀ y, y ∈ L → ¬ m < y) : RA K mu (rMaxU K) [dL (L.map lN)] (.d (lN m)) := by
  cases L with
  | nil => simp at hm
  | cons a r =>
    have e : m = r.foldl (fun a y => if a < y then y else a) a := by
      obtain ⟨h1, h2⟩ := foldM r a
      exact List.le_antisymm (List.not_lt.mp (h2 m hm)) (List.not_lt.mp (hx _ h1))
    rw [e, ← maxD_lN, List.map_cons]
    refine ra_maxX ⟨fun x hx y hy => ?_, fun x hx => ?_⟩ ?_
    · rw [← List.map_cons] at hx hy
      obtain ⟨x, _, rfl⟩ := List.mem_map.mp hx
      obtain ⟨y, _, rfl⟩ := List.mem_map.mp hy
      exact lN_alike x y
    · rw [← List.map_cons] at hx
      obtain ⟨x, _, rfl⟩ := List.mem_map.mp hx
      exact fun z => by cases z
    · rw [← List.map_cons]
      have := lNs_depthAll (a :: r)
      omega
theorem rm_idxLL {L : List (List Nat)} {a : List Nat} {j : Nat} (h : L[j]? = some a) (hn : ∀ m, m < j → L[m]? ≠ some a) : RM K mu (rIndexD K) (dL (L.map lN)) [.d (lN a)] (dn j) := by
  refine rm_idxX (z := lN a) (lNs_shaped L) (lN_shaped a) (by rw [List.getElem?_map, h]; rfl) (by rw [lN_eqv, decide_eq_true rfl]) fun m z' hm hz => ?_
  rw [List.getElem?_map] at hz
  cases e : L[m]? with
  | none => rw [e] at hz; cases hz
  | some b =>
    rw [e] at hz
    cases hz
    rw [lN_eqv]
    exact decide_eq_false fun q => hn m hm (by rw [e, q])
end
end D2
set_option Elab.async false
set_option linter.all false
set_option maxRecDepth 100000
set_option maxHeartbeats 4000000
/-! DLF: enumerate of a tuple; a dict display of one pair. -/
namespace PySem
open Sem (wp)
set_option maxHeartbeats 4000000 in
theorem meets_enumerate_newT2 (l : Addr) (items : Array Value) :
    Meets (Builtin.«enumerate.__new__» ⟨[.type "enumerate", .ref l], []⟩) (fun _ R s => s.heap.IsTuple l items ∧
      R (.ok (.ret (.ref (s.heap.push { cls := .type "tuple_iterator", data := .fields #[.ref l, .int 0 0] }).objs.size)))
        { s with heap := (s.heap.push { cls := .type "tuple_iterator", data := .fields #[.ref l, .int 0 0] }).push { cls := .type "enumerate", data := .fields #[.none, .bool false, .ref s.heap.objs.size, rawInt 0, .none, .none] } }) :=
  .of_wp fun prog w A R s h => by
    obtain ⟨hp, g, d, tk, os⟩ := s; obtain ⟨hL, h⟩ := h
    have hsub := sub_enumerate
    have q1 : ∀ {A' : Around} {E : Value → Shared → Prop} {Q : Value → Shared → Prop}, Q (.ref hp.objs.size) ⟨hp.push { cls := .type "tuple_iterator", data := .fields #[.ref l, .int 0 0] }, g, d, tk, os⟩ → wpAny (model prog w) A' (pyIter (.ref l)) Q E ⟨hp, g, d, tk, os⟩ :=
      fun q => wpAny_pyIter_tuple (s := ⟨hp, g, d, tk, os⟩) hL q
    wp_walk using q1
    refine wpAny_stack_any fun st => wpAny_pure ?_
    split
    · rename_i c _ _ _ _ _
      cases (c == Value.type "enumerate")
      · wp_walk using q1
        exact ⟨_, rfl, h⟩
      · wp_walk using q1
        exact ⟨_, rfl, h⟩
    · wp_walk using q1
      exact ⟨_, rfl, h⟩
section
variable {prog : Program} {w : World} {A : Around} {E : Value → Shared → Prop} {s : Shared}
theorem call_enumerate_tup2 {l : Addr} {items : Array Value} {Q : Value → Shared → Prop} (hL : s.heap.IsTuple l items)
    (h : ∀ h', IsEnum h' (s.heap.objs.size + 1) s.heap.objs.size 0 .none → h'.IsTupleIter s.heap.objs.size l 0 → h'.objs.size = s.heap.objs.size + 2 →
      (∀ b o, s.heap.get? b = some o → h'.get? b = some o) → Q (.ref (s.heap.objs.size + 1)) { s with heap := h' }) :
    wpAny (model prog w) A (call (.type "enumerate") [.ref l]) Q E s := by
  refine callType_new F.called_enumerate (by decide) (F.typeCall_enumerate_1 _) (F.newCall_enumerate_1 _) (fun obj => F.args_object_init_2 obj _) F.entry_enumerate_new
    (meets_enumerate_newT2 l items) ⟨hL, ?_⟩
  have hz : (s.heap.push { cls := .type "tuple_iterator", data := .fields #[.ref l, .int 0 0] }).objs.size = s.heap.objs.size + 1 := Heap.size_push ..
  show _ ∧ _
  rw [hz]
  have he : IsEnum ((s.heap.push { cls := .type "tuple_iterator", data := .fields #[.ref l, .int 0 0] }).push
      { cls := .type "enumerate", data := .fields #[.none, .bool false, .ref s.heap.objs.size, rawInt 0, .none, .none] }) (s.heap.objs.size + 1) s.heap.objs.size 0 .none := by
    have := Heap.get?_push_size (s.heap.push { cls := .type "tuple_iterator", data := .fields #[.ref l, .int 0 0] })
      (o := { cls := .type "enumerate", data := .fields #[.none, .bool false, .ref s.heap.objs.size, rawInt 0, .none, .none] }) rfl
    rw [hz] at this; exact this
  refine ⟨⟨_, he, rfl⟩, h _ he ⟨_, Heap.get?_push_of_some _ (Heap.get?_push_size _ rfl), rfl, rfl⟩ (by rw [Heap.size_push, hz]) fun b o y => Heap.get?_push_of_some _ (Heap.get?_push_of_some _ y)⟩
end
end PySem
namespace D2
open PySem PySem.Spec PyProof.Rows L2
/-- the items of a tuple with their places, in new pairs -/
def IteT (K : PySem.W.Frag) (a : Addr) : It :=
  ⟨fun i H => ∃ (xs : List V) (x : V), SqT K H a xs ∧ xs[i]? = some x, fun i H v H' => ∃ T x, v = .ref T ∧ H T = none ∧ H' = upd H T (.tup [.int (i : Nat), x]) ∧ ∀ xs, SqT K H a xs → xs[i]? = some x, fun i H => ∃ xs : List V, SqT K H a xs ∧ xs.length = i⟩
theorem turn_enumT {P : Program} {w : World} {K : PySem.W.Frag} {elts : List Expr} {kk : Nat} {tpos : Pos} (a e it : Addr) :
    Turn P w K (.Tuple elts kk tpos) (IteT K a) [e, it] e (fun i h => (∃ old, IsEnum h e it ((i : Nat) : Int) old) ∧ h.IsTupleIter it a i ∧ e ≠ it) where
  mem := by simp
  obj := fun i h st b hb => by
    obtain ⟨⟨old, he⟩, ⟨o, ho, hc, hd⟩, _⟩ := st
    have e' : b = e ∨ b = it := by simpa using hb
    rcases e' with z | z
    · rw [z]; exact ⟨_, he, fun v q => nomatch q⟩
    · rw [z]; exact ⟨o, ho, fun v q => by rw [hd] at q; cases q⟩
  keep := fun i h h' st k => let ⟨⟨old, he⟩, ⟨o, ho, r⟩, hne⟩ := st; ⟨⟨old, k e (by simp) _ he⟩, ⟨o, k it (by simp) o ho, r⟩, hne⟩
  item := by
    intro X hP hw hK hc i pins s σ H E I hf st hg
    subst hP hw hK
    obtain ⟨⟨old, he⟩, hit, hne⟩ := st
    obtain ⟨xs, x, hq, hx⟩ := hg
    obtain ⟨its, rv, p, hz⟩ := I.tuple hq
    obtain ⟨u, hu, ru⟩ := rv.get hx
    have hh : X.A.in1.handled = none := I.ok.hd hc
    have hel : e < s.heap.objs.size := Heap.lt_size he
    have hil : it < s.heap.objs.size := by obtain ⟨_, q, _⟩ := hit; exact Heap.lt_size q
    have hai : a ≠ it := fun z => by
      obtain ⟨o1, g1, c1, _⟩ := p
      obtain ⟨o2, g2, c2, _⟩ := hit
      rw [z, g2] at g1
      cases g1
      rw [c1] at c2; exact absurd c2 (by decide)
    have hae : e ≠ a := fun z => by
      obtain ⟨o1, g1, c1, _⟩ := p
      have g2 : s.heap.get? e = some _ := he
      rw [← z, g2] at g1
      cases g1
      have c3 : Value.type "enumerate" = Value.type "tuple" := c1
      injection c3 with c3
      exact absurd c3 (by decide)
    have D := Draws.tuple (prog := X.prog) (w := X.w) (A := X.A.in1) hh it a hai its.toArray
    have hil2 : i < its.toArray.size := by
      have := (List.getElem?_eq_some_iff.mp hu).1
      simpa using this
    refine wpAny_pyNext_enum_itemD D he ⟨hit, p⟩ hil2 hne (by simp [hne, hae]) fun v h' tk hPx ho hit' hT hsz hk => ?_
    have hv : v = u := by
      have h2 : its[i]? = some v := by simpa using hPx
      rw [hu] at h2; exact (Option.some.inj h2).symm
    subst hv
    refine ⟨_, rfl, wpAny_letOwnedTupleGo_enum (s := { s with heap := h', toks := tk + 1 }) ho fun h'' he' sb => ?_⟩
    have hT2 : h''.get? s.heap.objs.size = some { cls := .type "tuple", data := .seq #[.int i tk, v] } := (sb.2 _ (Nat.ne_of_gt hel)).trans hT
    have new : ObjOk X.prog X.w (upd H s.heap.objs.size (.tup [.int (i : Nat), x])) h'' s.heap.objs.size (.tup [.int (i : Nat), x]) :=
      ⟨by show 2 ≤ sizeLine; decide, [.int i tk, v], .cons ⟨_, rfl⟩ (.cons ru .nil), ⟨_, hT2, rfl, _, rfl⟩⟩
    have I1 : L2.Inv X pins σ (upd H s.heap.objs.size (.tup [.int (i : Nat), x])) { s with heap := h'', toks := tk + 1 } :=
      I.turnedNew (ch := [e, it]) (fun b ob hb q => (sb.2 b (fun z => hb (by simp [z]))).trans (hk b ob (fun z => hb (by simp [z])) (fun z => hb (by simp [z])) q)) hf (Nat.le_refl _) new
    refine ⟨.ref s.heap.objs.size, _, I1, rfl, ⟨_, x, rfl, I.hok.fresh (Nat.le_refl _), rfl, fun ys hy => by rw [I.tuple_inj hy hq]; exact hx⟩, ⟨⟨v, ?_⟩, ?_, hne⟩, fun b hb => ?_⟩
    · have e1 : ((i + 1 : Nat) : Int) = (i : Int) + 1 := by omega
      rw [e1]; exact he'
    · obtain ⟨o, h1, h2⟩ := hit'.1
      exact ⟨o, (sb.2 it (Ne.symm hne)).trans h1, h2⟩
    · have hb' : b < s.heap.objs.size := by
        have e' : b = e ∨ b = it := by simpa using hb
        rcases e' with z | z
        · rw [z]; exact hel
        · rw [z]; exact hil
      rw [upd_ne (Nat.ne_of_lt hb')]
      exact (hf b hb).1
  done := by
    intro X hP hw hK hc i pins s σ H E I hf st hg
    subst hP hw hK
    obtain ⟨⟨old, he⟩, hit, hne⟩ := st
    obtain ⟨xs, hq, hx⟩ := hg
    obtain ⟨its, rv, p, hz⟩ := I.tuple hq
    have hh : X.A.in1.handled = none := I.ok.hd hc
    have hai : a ≠ it := fun z => by
      obtain ⟨o1, g1, c1, _⟩ := p
      obtain ⟨o2, g2, c2, _⟩ := hit
      rw [z, g2] at g1
      cases g1
      rw [c1] at c2; exact absurd c2 (by decide)
    have D := Draws.tuple (prog := X.prog) (w := X.w) (A := X.A.in1) hh it a hai its.toArray
    have hl : its.toArray.size = i := by
      have := rv.length
      rw [List.size_toArray]; omega
    obtain ⟨f0, f1, f2, f3, f4, f5⟩ := hf it (by simp)
    exact wpAny_pyNext_enum_endD D he (by rw [hl]; exact ⟨hit, p⟩) fun h' eb => ⟨rfl, I.turned (t' := s.toks) (fun b o hb q => eb b o hb q) f0 f1 f3 f4 f5⟩
  self := fun A i s Q E st h => let ⟨⟨_, he⟩, _⟩ := st; wpAny_pyIter_enum he h
def iEnumT (K : PySem.W.Frag) (ta : TA) : TI := fun σ H R => ta σ H fun vs H1 => ∃ a xs, vs = [.ref a] ∧ SqT K H1 a xs ∧ R (IteT K a) H1
theorem pi_enumT {X : Cx} {K : PySem.W.Frag} (hK : X.K = K) {e : Expr} {ta : TA} {p pos tpos : Pos} {elts : List Expr} {kk : Nat} (hg : Gl X "enumerate") (hm : X.mg "enumerate" = none) (ha : PA X [e] ta) (hs : starEach [e] X.env = [(false, eval e X.env)] := by rfl) :
    PI X (.Tuple elts kk tpos) (.Call (.Name "enumerate" p) [e] [] pos) (iEnumT K ta) := by
  subst hK
  refine ⟨fun pins s σ H R I h => ?_⟩
  refine Call_ (ld_blt I hg hm boot_enumerate (PyProof.Rows.callWith_type1 (thn (ha.run pos pins s σ H _ I h) fun us s1 ⟨vs, H1, I1, r1, q1⟩ => ?_) hs rfl))
  obtain ⟨a, xs, ex, hq, q⟩ := q1
  subst ex
  cases r1 with
  | cons r rr =>
    cases rr
    cases r
    obtain ⟨its, rv, p', hz⟩ := I1.tuple hq
    refine call_enumerate_tup2 p' fun h' he hit hsz hk => wpAny_pyIter_enum he ?_
    have I2 : L2.Inv X pins σ H1 { s1 with heap := h' } := I1.kept (t' := s1.toks) hk
    refine ⟨s1.heap.objs.size + 1, [s1.heap.objs.size + 1, s1.heap.objs.size], _, _, H1, rfl, I2, turn_enumT a (s1.heap.objs.size + 1) s1.heap.objs.size, ⟨⟨.none, he⟩, hit, Nat.succ_ne_self _⟩, fun b hb => ?_, q⟩
    have e' : b = s1.heap.objs.size + 1 ∨ b = s1.heap.objs.size := by simpa using hb
    have hle : s1.heap.objs.size ≤ b := by
      rcases e' with z | z
      · rw [z]; exact Nat.le_add_right _ _
      · rw [z]; exact Nat.le_refl _
    exact I1.fpOk hle (I1.hok.fresh hle)
section
variable {K : PySem.W.Frag} {S : AS}
theorem eiw_enumT {t : TA} {P : List PyData → Mu → Prop} (h : AW K t S fun avs mu => ∃ ds, avs = [dT ds] ∧ P ((List.range ds.length).map fun i => .tuple [pn i, ds.getD i .none]) mu) : EIW K (iEnumT K t) S P := fun Z as0 as fr σ H ok R q =>
  h Z as0 as fr σ H ok _ fun vs H1 avs mu1 g1 ok1 r1 ⟨ds, e, p⟩ => by
    subst e
    cases r1 with
    | cons r1 r2 =>
      cases r2
      cases r1 with
      | tup hs ha =>
        rename_i b xs
        refine ⟨b, xs, rfl, sqT_ex off_le hs, q (IteT K b) H1 _ (fun Hf => SqT K Hf b xs ∧ DpAll K Hf xs ds) mu1 g1 ok1 ⟨fun i M H hg hi => ?_, fun i M H x H' hg hex hi hy => ?_, fun M H hg => ?_, fun _ _ hg e => ⟨sqT_ex e hg.1, da_ex e hg.2⟩⟩ ⟨hs, ha⟩ p⟩
        · rw [List.length_map, List.length_range] at hi
          obtain ⟨v, hv, _⟩ := da_get hg.2 (List.getElem?_eq_getElem hi)
          exact ⟨xs, v, sqT_ex off_le hg.1, hv⟩
        · obtain ⟨T, v, e1, e2, e3, e4⟩ := hy
          subst e1; subst e3
          rw [List.length_map, List.length_range] at hi
          have hv := e4 xs (sqT_ex off_le hg.1)
          obtain ⟨d, hd, hr⟩ := da_getV hg.2 hv
          have hT : T ∉ M := fun z => by obtain ⟨o, ho⟩ := hex T z; rw [e2] at ho; cases ho
          refine ⟨.tuple [pn i, ds.getD i .none], ?_, Ex.new e2, .tup (xs := [.int (i : Nat), v]) (sqT_of ?_) (.cons (.int _) (.cons ?_ .nil))⟩
          · rw [List.getElem?_map, List.getElem?_range hi]; rfl
          · rw [off_at hT, upd_same]
          · rw [List.getD_eq_getElem?_getD, hd]; exact dp_ex (off_ex (Ex.new e2)) hr
        · rw [List.length_map, List.length_range]
          exact ⟨xs, sqT_ex off_le hg.1, da_length hg.2⟩
theorem ei_enumT {t : TA} {ds : List PyData} (h : AVs K t S [dT ds]) : EI K (iEnumT K t) S ((List.range ds.length).map fun i => .tuple [pn i, ds.getD i .none]) := eiw_enumT (h.ew ⟨ds, rfl, rfl, rfl⟩)
end
/-! a dict of one pair -/
section
variable {K : PySem.W.Frag} {S : AS} {A : AE}
theorem upd_upd {H : Hp} {p : Addr} {o o' : HO} : upd (upd H p o) p o' = upd H p o' := by
  funext b
  by_cases h : b = p
  · subst h; rw [upd_same, upd_same]
  · rw [upd_ne h, upd_ne h, upd_ne h]
theorem sw_asgD1 {i : Nat} {k : Key} {n : Int} (h : A.nx ⟨S.sl.set i (some (.o S.mu.length)), S.mu ++ [.k [(k, .int n)]]⟩) : SW K (tAsg (tDisp [(tC (kV k), tC (.int n))]) (gName i)) S A := fun Z as0 as fr σ H D ok im p hp => by
  refine ⟨upd_same, [(k, .int n)], rfl, (show 1 ≤ 15 by decide), ?_⟩
  rw [upd_upd]
  have e : mergeK [] [(k, V.int n)] = [(k, V.int n)] := rfl
  rw [e]
  have ok2 := ok.own (o := .dK [(k, .int n)]) (m := .k [(k, .int n)]) hp ⟨[(k, .int n)], upd_same, rfl, .cons (.int _) .nil⟩
  refine im.nx _ _ _ _ (ok2.store (i := i) (v := .ref p) (av := .o S.mu.length) ⟨p, ?_, rfl⟩) h
  rw [← ok.mu.1, List.getElem?_append_right (Nat.le_refl _), Nat.sub_self]; rfl
end
/-! lists of our own that hold texts -/
section
variable {K : PySem.W.Frag} {mu : Mu}
theorem ty_own {j : Nat} {ds : List PyData} (hm : mu[j]? = some (.l ds)) : TyR K mu "list" (.o j) := fun as fr H v hk r => by
  obtain ⟨p, hp, e⟩ := r
  subst e
  obtain ⟨vs, hv, ha⟩ := hk.mu.2 j p _ hp hm
  show _
  exact .inl ⟨rfl, _, sqL_of hv⟩
theorem rb_ninOS {j : Nat} {a : List Nat} {ls : List (List Nat)} (hm : mu[j]? = some (.l (ls.map pS))) : RB K mu (rNotInU K) (dS a) (.o j) (dB (!decide (a ∈ ls))) := fun as fr H v1 v2 hk r1 r2 Q k => by
  cases r1
  obtain ⟨p, hp, e⟩ := r2
  subst e
  obtain ⟨vs, hv, ha⟩ := hk.mu.2 j p _ hp hm
  have e := strsV ha
  subst e
  refine .inr (.inl ⟨_, _, rfl, .inl (sqL_of hv), rfl, flat_strs _, ?_⟩)
  rw [if_pos rfl, inV_strs]
  have : decide ((⟨a.toArray⟩ : Str) ∈ ls.map fun l => (⟨l.toArray⟩ : Str)) = decide (a ∈ ls) := by
    by_cases h : a ∈ ls
    · rw [decide_eq_true h, decide_eq_true (List.mem_map.mpr ⟨a, h, rfl⟩)]
    · rw [decide_eq_false h, decide_eq_false]
      intro h2
      obtain ⟨b, h3, h4⟩ := List.mem_map.mp h2
      exact h (txt_inj h4 ▸ h3)
  rw [this]; exact k.bl
theorem rm_indexOS {j n : Nat} {ls : List (List Nat)} {a : List Nat} (hm : mu[j]? = some (.l (ls.map pS))) (h : ls[n]? = some a) (hn : ∀ m, m < n → ls[m]? ≠ some a) : RM K mu (rIndex K) (.o j) [dS a] (dn n) := fun as fr H v vs0 hk r1 r2 Q k => by
  cases r2 with
  | cons r2 r3 =>
    cases r3
    cases r2
    obtain ⟨p, hp, e⟩ := r1
    subst e
    obtain ⟨vs, hv, ha⟩ := hk.mu.2 j p _ hp hm
    have e := strsV ha
    subst e
    refine ⟨_, _, _, n, .str ⟨a.toArray⟩, rfl, rfl, sqL_of hv, rfl, flat_strs _, by rw [List.getElem?_map, List.getElem?_map, h]; rfl, by simp [eqV], fun m z' hm' hz => ?_, k.int⟩
    rw [List.getElem?_map, List.getElem?_map] at hz
    cases e : ls[m]? with
    | none => rw [e] at hz; cases hz
    | some b =>
      rw [e] at hz
      cases hz
      have : b ≠ a := fun z => hn m hm' (by rw [e, z])
      show ((⟨b.toArray⟩ : Str) == ⟨a.toArray⟩) = false
      simpa using fun z => this (by simpa using z)
end
section
variable {K : PySem.W.Frag} {mu : Mu} {S : AS}
/-- "".join(xs), xs a list of our own -/
theorem rm_joinO {j : Nat} {ls : List (List Nat)} (hm : mu[j]? = some (.l (ls.map pS))) (h : ls.flatten.length ≤ 1000000) : RM K mu (rJoin K) (dS []) [.o j] (dS ls.flatten) := fun as fr H v vs hk r1 r2 Q k => by
  cases r1
  cases r2 with
  | cons r2 r3 =>
    cases r3
    obtain ⟨p, hp, e⟩ := r2
    subst e
    obtain ⟨ws, hv, ha⟩ := hk.mu.2 j p _ hp hm
    have e := strsV ha
    subst e
    refine ⟨_, _, _, rfl, rfl, .inl (sqL_of hv), ?_, ?_⟩
    · rw [sum_len, len_txt]
      simp only [List.length_nil, Nat.mul_zero, Nat.add_zero]
      omega
    · rw [show (⟨([] : List Nat).toArray⟩ : Str) = ⟨#[]⟩ from rfl, join_nil]; exact k.str
theorem ev_joinO {to : TE} {i j : Nat} {ls : List (List Nat)} (h : EV K to S (dS [])) (hi : S.sl[i]? = some (some (.o j))) (hm : S.mu[j]? = some (.l (ls.map pS))) (hl : ls.flatten.length ≤ 1000000) : EV K (tM1 (rJoin K) to (tVar i)) S (dS ls.flatten) :=
  ew_m1 (h.ew ⟨⟨_, rfl⟩, (ev_var hi).ew ⟨_, rm_joinO hm hl, rfl, rfl⟩⟩)
end
end D2
set_option linter.all false
set_option maxHeartbeats 4000000
/-! plain mathematics of exponents and pieces that come again -/
namespace M11
def rep (l : List Nat) : Nat → List Nat
  | 0 => []
  | n + 1 => l ++ rep l n
/-- p is a period -/
def Per (w : List Nat) (p : Nat) : Prop := ∀ i, i + p < w.length → w[i]? = w[i + p]?
theorem per_cut (w : List Nat) (p : Nat) : w.drop p = w.take (w.length - p) ↔ Per w p := by
  constructor
  · intro h i hi
    have h2 := congrArg (fun l => l[i]?) h
    simp only [List.getElem?_drop] at h2
    rw [List.getElem?_take_of_lt (by omega)] at h2
    rw [← h2, Nat.add_comm]
  · intro h
    apply List.ext_getElem?
    intro i
    rw [List.getElem?_drop]
    by_cases hi : i + p < w.length
    · rw [List.getElem?_take_of_lt (by omega), h i hi, Nat.add_comm]
    · rw [List.getElem?_eq_none (by omega), List.getElem?_eq_none (by rw [List.length_take]; omega)]
theorem rep_get (l : List Nat) (hl : 0 < l.length) : ∀ (n i : Nat), i < n * l.length → (rep l n)[i]? = l[i % l.length]?
  | 0, i, h => by omega
  | n + 1, i, h => by
    show (l ++ rep l n)[i]? = _
    by_cases c : i < l.length
    · rw [List.getElem?_append_left c, Nat.mod_eq_of_lt c]
    · rw [List.getElem?_append_right (by omega), rep_get l hl n (i - l.length) (by rw [Nat.succ_mul] at h; omega)]
      have : i % l.length = (i - l.length) % l.length := by
        rw [Nat.mod_eq_sub_mod (by omega)]
      rw [this]
theorem rep_len (l : List Nat) : ∀ n, (rep l n).length = n * l.length
  | 0 => by simp [rep]
  | n + 1 => by show (l ++ rep l n).length = _; rw [List.length_append, rep_len l n, Nat.succ_mul]; omega
theorem per_mod {w : List Nat} {p : Nat} (hp : 0 < p) (h : Per w p) : ∀ (i : Nat), i < w.length → w[i]? = w[i % p]? := by
  intro i
  induction i using Nat.strongRecOn with
  | ind i ih =>
    intro hi
    by_cases c : i < p
    · rw [Nat.mod_eq_of_lt c]
    · have h1 := h (i - p) (by omega)
      rw [show i - p + p = i by omega] at h1
      rw [← h1, ih (i - p) (by omega) (by omega), Nat.mod_eq_sub_mod (show p ≤ i by omega)]
theorem per_rep {w : List Nat} {p : Nat} (hp : 0 < p) (hn : p ≤ w.length) : (rep (w.take p) w.length).take w.length = w ↔ Per w p := by
  have hl : (w.take p).length = p := by rw [List.length_take]; omega
  constructor
  · intro h i hi
    have g : ∀ j, j < w.length → w[j]? = (w.take p)[j % p]? := fun j hj => by
      have h2 := congrArg (fun l => l[j]?) h
      have h2 : (List.take w.length (rep (List.take p w) w.length))[j]? = w[j]? := h2
      rw [List.getElem?_take_of_lt hj, rep_get _ (by omega) _ _ (by rw [hl]; exact Nat.lt_of_lt_of_le hj (Nat.le_mul_of_pos_right _ hp)), hl] at h2
      exact h2.symm
    rw [g i (by omega), g (i + p) hi, Nat.add_mod_right]
  · intro h
    apply List.ext_getElem?
    intro j
    by_cases hj : j < w.length
    · rw [List.getElem?_take_of_lt hj, rep_get _ (by omega) _ _ (by rw [hl]; exact Nat.lt_of_lt_of_le hj (Nat.le_mul_of_pos_right _ hp)), hl, List.getElem?_take_of_lt (Nat.mod_lt _ hp), ← per_mod hp h j hj]
    · rw [List.getElem?_eq_none (by rw [List.length_take]; omega), List.getElem?_eq_none (by omega)]
theorem per_self (w : List Nat) : Per w w.length := fun i hi => by omega
instance (w : List Nat) (p : Nat) : Decidable (Per w p) := decidable_of_iff _ (per_cut w p)
/-- the first number from a on, of n, that passes; else a + n -/
def first (b : Nat → Bool) : Nat → Nat → Nat
  | a, 0 => a
  | a, n + 1 => if b a = true then a else first b (a + 1) n
theorem first_le (b : Nat → Bool) : ∀ n a, a ≤ first b a n ∧ first b a n ≤ a + n
  | 0, a => ⟨Nat.le_refl _, Nat.le_refl _⟩
  | n + 1, a => by
    unfold first
    split
    · omega
    · have := first_le b n (a + 1); omega
theorem first_not (b : Nat → Bool) : ∀ n a i, a ≤ i → i < first b a n → b i = false
  | 0, a, i, h1, h2 => by unfold first at h2; omega
  | n + 1, a, i, h1, h2 => by
    unfold first at h2
    split at h2
    · omega
    · rename_i h
      by_cases e : i = a
      · subst e; simpa using h
      · exact first_not b n (a + 1) i (by omega) h2
theorem first_yes (b : Nat → Bool) : ∀ n a, first b a n < a + n → b (first b a n) = true
  | 0, a, h => by unfold first at h; omega
  | n + 1, a, h => by
    unfold first at h ⊢
    split
    · assumption
    · rename_i h2
      rw [if_neg h2] at h
      exact first_yes b n (a + 1) (by omega)
/-- the least period of a word with letters -/
def lper (w : List Nat) : Nat := first (fun p => decide (Per w p)) 1 (w.length - 1)
theorem lper_pos (w : List Nat) : 1 ≤ lper w := (first_le _ _ _).1
theorem lper_le {w : List Nat} (h : 0 < w.length) : lper w ≤ w.length := by
  have := (first_le (fun p => decide (Per w p)) (w.length - 1) 1).2
  unfold lper; omega
theorem lper_per {w : List Nat} (h : 0 < w.length) : Per w (lper w) := by
  by_cases c : lper w < w.length
  · have := first_yes (fun p => decide (Per w p)) (w.length - 1) 1 (by unfold lper at c; omega)
    exact of_decide_eq_true this
  · have : lper w = w.length := by have := lper_le h; omega
    rw [this]; exact per_self w
theorem lper_min {w : List Nat} {p : Nat} (hp : 1 ≤ p) (h : Per w p) (hw : 0 < w.length) : lper w ≤ p := by
  by_cases c : p < lper w
  · have := first_not (fun p => decide (Per w p)) (w.length - 1) 1 p hp c
    exact absurd h (of_decide_eq_false this)
  · omega
theorem lper_unique {w : List Nat} {p : Nat} (hw : 0 < w.length) (hp : 1 ≤ p) (h : Per w p) (hm : ∀ q, 1 ≤ q → q < p → ¬ Per w q) : p = lper w := by
  have h1 := lper_min hp h hw
  by_cases c : lper w < p
  · exact absurd (lper_per hw) (hm _ (lper_pos w) c)
  · omega
/-! greatest exponents: candidates (length, period) -/
abbrev Cand := Nat × Nat
def lt (x y : Cand) : Prop := x.1 * y.2 < y.1 * x.2
instance (x y : Cand) : Decidable (lt x y) := inferInstanceAs (Decidable (_ < _))
def better (b x : Cand) : Cand := if lt b x then x else b
theorem lt_trans' {x y z : Cand} (hy : 0 < y.2) (hx : 0 < x.2) (hz : 0 < z.2) (h1 : ¬ lt y x) (h2 : lt y z) : lt x z := by
  unfold lt at *
  have a : x.1 * y.2 ≤ y.1 * x.2 := by
    have := Nat.not_lt.mp h1; exact this
  -- x1 y2 ≤ y1 x2 , y1 z2 < z1 y2
  have b : x.1 * y.2 * z.2 ≤ y.1 * x.2 * z.2 := Nat.mul_le_mul_right _ a
  have c : y.1 * z.2 * x.2 < z.1 * y.2 * x.2 := Nat.mul_lt_mul_of_pos_right h2 hx
  have d : x.1 * z.2 * y.2 < z.1 * x.2 * y.2 := by
    calc x.1 * z.2 * y.2 = x.1 * y.2 * z.2 := by rw [Nat.mul_assoc, Nat.mul_comm z.2, ← Nat.mul_assoc]
      _ ≤ y.1 * x.2 * z.2 := b
      _ = y.1 * z.2 * x.2 := by rw [Nat.mul_assoc, Nat.mul_comm x.2, ← Nat.mul_assoc]
      _ < z.1 * y.2 * x.2 := c
      _ = z.1 * x.2 * y.2 := by rw [Nat.mul_assoc, Nat.mul_comm y.2, ← Nat.mul_assoc]
  exact Nat.lt_of_mul_lt_mul_right d
/-- what the fold ends with -/
theorem fold_spec : ∀ (xs : List Cand) (b : Cand), 0 < b.2 → (∀ x ∈ xs, 0 < x.2) →
    (xs.foldl better b = b ∧ ∀ x ∈ xs, ¬ lt b x) ∨
    ∃ i : Nat, xs[i]? = some (xs.foldl better b) ∧ lt b (xs.foldl better b) ∧ (∀ (j : Nat) (x : Cand), j < i → xs[j]? = some x → lt x (xs.foldl better b)) ∧ ∀ x ∈ xs, ¬ lt (xs.foldl better b) x
  | [], b, _, _ => .inl ⟨rfl, fun _ h => by simp at h⟩
  | y :: xs, b, hb, hx => by
    have hy := hx y List.mem_cons_self
    have hxs : ∀ x ∈ xs, 0 < x.2 := fun x h => hx x (List.mem_cons_of_mem _ h)
    rw [List.foldl_cons]
    by_cases c : lt b y
    · have e : better b y = y := by unfold better; rw [if_pos c]
      rw [e]
      rcases fold_spec xs y hy hxs with ⟨h1, h2⟩ | ⟨i, h1, h2, h3, h4⟩
      · refine .inr ⟨0, by rw [h1]; rfl, by rw [h1]; exact c, fun j x hj => by omega, fun x hm => ?_⟩
        rw [h1]
        rcases List.mem_cons.mp hm with e | hm
        · subst e; unfold lt; omega
        · exact h2 x hm
      · have hr : 0 < (xs.foldl better y).2 := hxs _ (List.mem_of_getElem? h1)
        have hbr : lt b (xs.foldl better y) := lt_trans' hy hb hr (by unfold lt at *; omega) h2
        refine .inr ⟨i + 1, by simpa using h1, hbr, fun j x hj hjx => ?_, fun x hm => ?_⟩
        · cases j with
          | zero => simp at hjx; subst hjx; exact h2
          | succ j => exact h3 j x (by omega) (by simpa using hjx)
        · rcases List.mem_cons.mp hm with e | hm
          · subst e; unfold lt at *; omega
          · exact h4 x hm
    · have e : better b y = b := by unfold better; rw [if_neg c]
      rw [e]
      rcases fold_spec xs b hb hxs with ⟨h1, h2⟩ | ⟨i, h1, h2, h3, h4⟩
      · refine .inl ⟨h1, fun x hm => ?_⟩
        rcases List.mem_cons.mp hm with e | hm
        · subst e; exact c
        · exact h2 x hm
      · have hr : 0 < (xs.foldl better b).2 := hxs _ (List.mem_of_getElem? h1)
        refine .inr ⟨i + 1, by simpa using h1, h2, fun j x hj hjx => ?_, fun x hm => ?_⟩
        · cases j with
          | zero => simp at hjx; subst hjx; exact lt_trans' hb hy hr c h2
          | succ j => exact h3 j x (by omega) (by simpa using hjx)
        · rcases List.mem_cons.mp hm with e | hm
          · subst e
            intro hlt
            exact c (by
              have : lt b x := lt_trans' hr hb (hx x List.mem_cons_self) (by unfold lt at *; omega) hlt
              exact this)
          · exact h4 x hm
/-- the pieces of v (the word from a place on): by length; by period -/
def L (v : List Nat) (p : Nat) : Nat := first (fun n => decide (¬ (n < v.length ∧ v[n]? = v[n - p]?))) p (v.length - p)
theorem L_ge (v : List Nat) (p : Nat) : p ≤ L v p := (first_le _ _ _).1
theorem L_le {v : List Nat} {p : Nat} (h : p ≤ v.length) : L v p ≤ v.length := by
  have := (first_le (fun n => decide (¬ (n < v.length ∧ v[n]? = v[n - p]?))) (v.length - p) p).2
  unfold L; omega
theorem L_per {v : List Nat} {p : Nat} (hp : 1 ≤ p) (h : p ≤ v.length) : Per (v.take (L v p)) p := fun i hi => by
  have hl : (v.take (L v p)).length = L v p := by rw [List.length_take]; exact Nat.min_eq_left (L_le h)
  rw [hl] at hi
  have := first_not (fun n => decide (¬ (n < v.length ∧ v[n]? = v[n - p]?))) (v.length - p) p (i + p) (by omega) hi
  have h2 := of_decide_eq_false this
  have h3 : v[i + p]? = v[i + p - p]? := (Classical.not_not.mp h2).2
  rw [List.getElem?_take_of_lt (by omega), List.getElem?_take_of_lt hi, h3, Nat.add_sub_cancel]
theorem L_max {v : List Nat} {p n : Nat} (hp : 1 ≤ p) (hn : n ≤ v.length) (hpn : p ≤ n) (h : Per (v.take n) p) : n ≤ L v p := by
  by_cases c : n ≤ L v p
  · exact c
  · have c2 : L v p < v.length := by omega
    have h1 := first_yes (fun n => decide (¬ (n < v.length ∧ v[n]? = v[n - p]?))) (v.length - p) p (by unfold L at c2; omega)
    have h2 := of_decide_eq_true h1
    have hl : (v.take n).length = n := by rw [List.length_take]; exact Nat.min_eq_left hn
    have hge := L_ge v p
    have h3 := h (L v p - p) (by rw [hl]; omega)
    rw [List.getElem?_take_of_lt (by omega), List.getElem?_take_of_lt (by omega), show L v p - p + p = L v p by omega] at h3
    exact absurd ⟨c2, h3.symm⟩ h2
def byLen (v : List Nat) : List Cand := (List.range v.length).map fun k => (k + 1, lper (v.take (k + 1)))
def byPer (v : List Nat) : List Cand := (List.range v.length).map fun k => (L v (k + 1), k + 1)
theorem byLen_at {v : List Nat} {i : Nat} {x : Cand} (h : (byLen v)[i]? = some x) : i < v.length ∧ x = (i + 1, lper (v.take (i + 1))) := by
  unfold byLen at h
  rw [List.getElem?_map] at h
  by_cases c : i < v.length
  · rw [List.getElem?_range c] at h; exact ⟨c, (Option.some.inj h).symm⟩
  · rw [List.getElem?_eq_none (by simpa using c)] at h; cases h
theorem byPer_at {v : List Nat} {i : Nat} {x : Cand} (h : (byPer v)[i]? = some x) : i < v.length ∧ x = (L v (i + 1), i + 1) := by
  unfold byPer at h
  rw [List.getElem?_map] at h
  by_cases c : i < v.length
  · rw [List.getElem?_range c] at h; exact ⟨c, (Option.some.inj h).symm⟩
  · rw [List.getElem?_eq_none (by simpa using c)] at h; cases h
theorem byLen_mem {v : List Nat} {n : Nat} (h1 : 1 ≤ n) (h2 : n ≤ v.length) : (byLen v)[n - 1]? = some (n, lper (v.take n)) := by
  unfold byLen
  rw [List.getElem?_map, List.getElem?_range (by omega)]
  show some (n - 1 + 1, lper (v.take (n - 1 + 1))) = _
  rw [show n - 1 + 1 = n by omega]
theorem byPer_mem {v : List Nat} {p : Nat} (h1 : 1 ≤ p) (h2 : p ≤ v.length) : (byPer v)[p - 1]? = some (L v p, p) := by
  unfold byPer
  rw [List.getElem?_map, List.getElem?_range (by omega)]
  show some (L v (p - 1 + 1), p - 1 + 1) = _
  rw [show p - 1 + 1 = p by omega]
theorem take_len {v : List Nat} {n : Nat} (h : n ≤ v.length) : (v.take n).length = n := by rw [List.length_take]; exact Nat.min_eq_left h
/-- each of the one is reached by one of the other -/
theorem len_to_per {v : List Nat} {n : Nat} (h1 : 1 ≤ n) (h2 : n ≤ v.length) : lper (v.take n) ≤ v.length ∧ n ≤ L v (lper (v.take n)) := by
  have hl := take_len h2
  have h3 := lper_le (w := v.take n) (by omega)
  exact ⟨by omega, L_max (lper_pos _) h2 (by omega) (lper_per (by omega))⟩
theorem per_to_len {v : List Nat} {p : Nat} (h1 : 1 ≤ p) (h2 : p ≤ v.length) : lper (v.take (L v p)) ≤ p := by
  have hl := take_len (L_le h2)
  exact lper_min h1 (L_per h1 h2) (by have := L_ge v p; omega)
theorem same_best (v : List Nat) (b : Cand) (hb : 0 < b.2) : (byPer v).foldl better b = (byLen v).foldl better b := by
  have pP : ∀ x ∈ byPer v, 0 < x.2 := fun x hx => by
    obtain ⟨i, hi⟩ := List.getElem?_of_mem hx
    obtain ⟨_, e⟩ := byPer_at hi
    subst e; exact Nat.succ_pos _
  have pL : ∀ x ∈ byLen v, 0 < x.2 := fun x hx => by
    obtain ⟨i, hi⟩ := List.getElem?_of_mem hx
    obtain ⟨_, e⟩ := byLen_at hi
    subst e; exact lper_pos _
  -- no less among the others
  have up : ∀ x ∈ byLen v, ∃ y ∈ byPer v, y.2 = x.2 ∧ x.1 ≤ y.1 := fun x hx => by
    obtain ⟨i, hi⟩ := List.getElem?_of_mem hx
    obtain ⟨h1, e⟩ := byLen_at hi
    subst e
    obtain ⟨h2, h3⟩ := len_to_per (v := v) (n := i + 1) (by omega) (by omega)
    exact ⟨_, List.mem_of_getElem? (byPer_mem (lper_pos _) h2), rfl, h3⟩
  have dn : ∀ y ∈ byPer v, ∃ x ∈ byLen v, x.1 = y.1 ∧ x.2 ≤ y.2 := fun y hy => by
    obtain ⟨i, hi⟩ := List.getElem?_of_mem hy
    obtain ⟨h1, e⟩ := byPer_at hi
    subst e
    have h3 := per_to_len (v := v) (p := i + 1) (by omega) (by omega)
    have h4 := L_ge v (i + 1)
    exact ⟨_, List.mem_of_getElem? (byLen_mem (n := L v (i + 1)) (by omega) (L_le (by omega))), rfl, h3⟩
  have up' : ∀ (r : Cand), (∀ y ∈ byPer v, ¬ lt r y) → ∀ x ∈ byLen v, ¬ lt r x := fun r h x hx hlt => by
    obtain ⟨y, hy, e, hle⟩ := up x hx
    refine h y hy ?_
    unfold lt at *
    rw [e]
    exact Nat.lt_of_lt_of_le hlt (Nat.mul_le_mul_right _ hle)
  have dn' : ∀ (r : Cand), (∀ x ∈ byLen v, ¬ lt r x) → ∀ y ∈ byPer v, ¬ lt r y := fun r h y hy hlt => by
    obtain ⟨x, hx, e, hle⟩ := dn y hy
    refine h x hx ?_
    unfold lt at *
    rw [e]
    exact Nat.lt_of_le_of_lt (Nat.mul_le_mul_left _ hle) hlt
  rcases fold_spec (byPer v) b hb pP with ⟨p1, p2⟩ | ⟨i, p1, p2, p3, p4⟩
  · rcases fold_spec (byLen v) b hb pL with ⟨q1, q2⟩ | ⟨j, q1, q2, q3, q4⟩
    · rw [p1, q1]
    · exact absurd q2 (up' b p2 _ (List.mem_of_getElem? q1))
  · rcases fold_spec (byLen v) b hb pL with ⟨q1, q2⟩ | ⟨j, q1, q2, q3, q4⟩
    · exact absurd p2 (dn' b q2 _ (List.mem_of_getElem? p1))
    · generalize hr : (byPer v).foldl better b = r at *
      generalize hs : (byLen v).foldl better b = s at *
      obtain ⟨hi, er⟩ := byPer_at p1
      obtain ⟨hj, es⟩ := byLen_at q1
      -- the same quotient
      have e1 : ¬ lt r s := up' r p4 s (List.mem_of_getElem? q1)
      have e2 : ¬ lt s r := dn' s q4 r (List.mem_of_getElem? p1)
      have eq : r.1 * s.2 = s.1 * r.2 := by unfold lt at *; omega
      -- the law's: its period's longest is itself
      obtain ⟨g1, g2⟩ := len_to_per (v := v) (n := j + 1) (by omega) (by omega)
      have gm := byPer_mem (v := v) (p := lper (v.take (j + 1))) (lper_pos _) g1
      have g3 : ¬ lt r (L v (lper (v.take (j + 1))), lper (v.take (j + 1))) := p4 _ (List.mem_of_getElem? gm)
      have s2 : s.2 = lper (v.take (j + 1)) := by rw [es]
      have s1 : s.1 = j + 1 := by rw [es]
      have r1 : r.1 = L v (i + 1) := by rw [er]
      have r2 : r.2 = i + 1 := by rw [er]
      -- i + 1 ≤ s.2
      have le1 : i + 1 ≤ s.2 := by
        by_cases c : s.2 - 1 < i
        · have := p3 (s.2 - 1) _ c (by rw [s2]; exact gm)
          exfalso
          unfold lt at this g3
          simp only [] at this g3
          rw [← s2] at this g3
          -- L(s2) * r2 < r1 * s2 = s1 * r2, but s1 ≤ L(s2)
          rw [eq] at this
          have h := Nat.lt_of_mul_lt_mul_right this
          rw [← s2] at g2
          omega
        · have := lper_pos (v.take (j + 1)); omega
      -- r.1 ≤ s.1
      have le2 : r.1 ≤ s.1 := by
        have h : r.1 * s.2 ≤ s.1 * s.2 := by rw [eq, r2]; exact Nat.mul_le_mul_left _ le1
        exact Nat.le_of_mul_le_mul_right h (by rw [s2]; exact lper_pos _)
      -- the program's: as a piece
      have h4 := L_ge v (i + 1)
      have lm := byLen_mem (v := v) (n := L v (i + 1)) (by omega) (L_le (by omega))
      have h5 := per_to_len (v := v) (p := i + 1) (by omega) (by omega)
      have ge2 : s.1 ≤ r.1 := by
        by_cases c : r.1 < s.1
        · exfalso
          have h6 := q3 (L v (i + 1) - 1) _ (by omega) lm
          unfold lt at h6
          simp only [] at h6
          rw [← r1] at h6
          -- r1 * s2 < s1 * lper ≤ s1 * r2 = r1 * s2
          have h7 : s.1 * lper (v.take r.1) ≤ s.1 * r.2 := Nat.mul_le_mul_left _ (by rw [r1, r2]; exact h5)
          omega
        · omega
      have e3 : r.1 = s.1 := Nat.le_antisymm le2 ge2
      have e4 : r.2 = s.2 := by
        rw [e3] at eq
        exact (Nat.eq_of_mul_eq_mul_left (by rw [s1]; exact Nat.succ_pos _) eq).symm
      exact Prod.ext e3 e4
theorem first_eq {b : Nat → Bool} {a n x : Nat} (h1 : a ≤ x) (h2 : x ≤ a + n) (h3 : ∀ i, a ≤ i → i < x → b i = false) (h4 : x = a + n ∨ b x = true) : x = first b a n := by
  have hf := first_le b n a
  by_cases c : first b a n < x
  · have h5 := first_yes b n a (by omega)
    rw [h3 _ hf.1 c] at h5; cases h5
  · by_cases c2 : x < first b a n
    · rcases h4 with e | e
      · omega
      · rw [first_not b n a x h1 c2] at e; cases e
    · omega
/-! the place is told too -/
def betterT (pl : Nat) (b : Nat × Cand) (x : Cand) : Nat × Cand := if lt b.2 x then (pl, x) else b
theorem foldT (pl : Nat) : ∀ (xs : List Cand) (b : Nat × Cand), 0 < b.2.2 → (∀ x ∈ xs, 0 < x.2) → xs.foldl (betterT pl) b = (if xs.foldl better b.2 = b.2 then b.1 else pl, xs.foldl better b.2)
  | [], b, _, _ => by simp
  | y :: xs, b, hb, hx => by
    have hxs : ∀ x ∈ xs, 0 < x.2 := fun x h => hx x (List.mem_cons_of_mem _ h)
    rw [List.foldl_cons, List.foldl_cons]
    by_cases c : lt b.2 y
    · have e1 : betterT pl b y = (pl, y) := by unfold betterT; rw [if_pos c]
      have e2 : better b.2 y = y := by unfold better; rw [if_pos c]
      rw [e1, e2, foldT pl xs (pl, y) (hx y List.mem_cons_self) hxs]
      have ne : xs.foldl better y ≠ b.2 := by
        rcases fold_spec xs y (hx y List.mem_cons_self) hxs with ⟨h, _⟩ | ⟨i, h1, h2, _, _⟩
        · rw [h]; intro e; rw [e] at c; unfold lt at c; omega
        · intro e
          rw [e] at h2
          unfold lt at c h2; omega
      rw [if_neg ne]
      simp
    · have e1 : betterT pl b y = b := by unfold betterT; rw [if_neg c]
      have e2 : better b.2 y = b.2 := by unfold better; rw [if_neg c]
      rw [e1, e2, foldT pl xs b hb hxs]
theorem byPer_pos (v : List Nat) : ∀ x ∈ byPer v, 0 < x.2 := fun x hx => by
  obtain ⟨i, hi⟩ := List.getElem?_of_mem hx
  obtain ⟨_, e⟩ := byPer_at hi
  subst e; exact Nat.succ_pos _
theorem byLen_pos (v : List Nat) : ∀ x ∈ byLen v, 0 < x.2 := fun x hx => by
  obtain ⟨i, hi⟩ := List.getElem?_of_mem hx
  obtain ⟨_, e⟩ := byLen_at hi
  subst e; exact lper_pos _
theorem sameT (pl : Nat) (v : List Nat) (b : Nat × Cand) (hb : 0 < b.2.2) : (byPer v).foldl (betterT pl) b = (byLen v).foldl (betterT pl) b := by
  rw [foldT pl _ b hb (byPer_pos v), foldT pl _ b hb (byLen_pos v), same_best v b.2 hb]
theorem foldT_pos (pl : Nat) : ∀ (xs : List Cand) (b : Nat × Cand), 0 < b.2.2 → (∀ x ∈ xs, 0 < x.2) → 0 < (xs.foldl (betterT pl) b).2.2
  | [], b, hb, _ => hb
  | y :: xs, b, hb, hx => by
    rw [List.foldl_cons]
    refine foldT_pos pl xs _ ?_ fun x h => hx x (List.mem_cons_of_mem _ h)
    unfold betterT
    split
    · exact hx y List.mem_cons_self
    · exact hb
/-- behind so many places -/
def gr (w : List Nat) (i : Nat) : Nat × Cand := (List.range i).foldl (fun b pl => (byPer (w.drop pl)).foldl (betterT pl) b) (0, (1, 1))
theorem gr_succ (w : List Nat) (i : Nat) : gr w (i + 1) = (byPer (w.drop i)).foldl (betterT i) (gr w i) := by
  unfold gr; rw [List.range_succ, List.foldl_append]; rfl
theorem gr_pos (w : List Nat) : ∀ i, 0 < (gr w i).2.2
  | 0 => Nat.one_pos
  | i + 1 => by rw [gr_succ]; exact foldT_pos _ _ _ (gr_pos w i) (byPer_pos _)
/-- what comes again: the first place from a on whose piece was there before -/
def ag (pcs : List (List Nat)) : Nat := first (fun a => decide (pcs.getD a [] ∈ pcs.take a)) 0 pcs.length
end M11
set_option linter.all false
set_option maxHeartbeats 4000000
/-! plain mathematics of phrases: the longest known piece and a letter -/
namespace M47
/-- the place of a text in a row -/
def ix (ls : List (List Nat)) (a : List Nat) : Nat := M11.first (fun k => decide (ls[k]? = some a)) 0 ls.length
theorem ix_at {ls : List (List Nat)} {a : List Nat} (h : a ∈ ls) : ls[ix ls a]? = some a ∧ ∀ m, m < ix ls a → ls[m]? ≠ some a := by
  obtain ⟨n, hn, e⟩ := List.mem_iff_getElem.mp h
  have he : ls[n]? = some a := by rw [List.getElem?_eq_getElem hn, e]
  have hlt : ix ls a < ls.length := by
    apply Classical.byContradiction
    intro z
    have := M11.first_not (fun k => decide (ls[k]? = some a)) ls.length 0 n (Nat.zero_le _) (by unfold ix at z; omega)
    rw [decide_eq_true he] at this; cases this
  refine ⟨of_decide_eq_true (M11.first_yes (fun k => decide (ls[k]? = some a)) ls.length 0 (by unfold ix at hlt; omega)), fun m hm z => ?_⟩
  have := M11.first_not (fun k => decide (ls[k]? = some a)) ls.length 0 m (Nat.zero_le _) hm
  rw [decide_eq_true z] at this; cases this
/-- the pairs of a word: parts, what is known; part, what was read since -/
def lz : List (List Nat) → List Nat → List Nat → List (Nat × List Nat)
  | parts, part, [] => if part = [] then [] else [(ix parts part, [])]
  | parts, part, c :: r => if part ++ [c] ∈ parts then lz parts (part ++ [c]) r else (ix parts part, [c]) :: lz (parts ++ [part ++ [c]]) [] r
theorem lz_run : ∀ (u : List Nat) (parts : List (List Nat)) (part r : List Nat), (∀ s, 1 ≤ s → s ≤ u.length → part ++ u.take s ∈ parts) → lz parts part (u ++ r) = lz parts (part ++ u) r
  | [], parts, part, r, _ => by rw [List.nil_append, List.append_nil]
  | c :: u, parts, part, r, h => by
    have h1 := h 1 (by omega) (by simp)
    rw [List.take_succ_cons, List.take_zero] at h1
    rw [List.cons_append, lz, if_pos h1, lz_run u parts (part ++ [c]) r fun s hs hl => ?_, List.append_assoc]
    · rfl
    · have := h (s + 1) (by omega) (by rw [List.length_cons]; omega)
      rwa [List.take_succ_cons, show part ++ c :: u.take s = part ++ [c] ++ u.take s by simp] at this
/-- a phrase of so many letters is new -/
theorem lz_new {parts : List (List Nat)} {w : List Nat} {s : Nat} (h1 : 1 ≤ s) (h2 : s ≤ w.length) (hn : w.take s ∉ parts) (hk : ∀ t, 1 ≤ t → t < s → w.take t ∈ parts) :
    lz parts [] w = (ix parts (w.take (s - 1)), [w.getD (s - 1) 0]) :: lz (parts ++ [w.take s]) [] (w.drop s) := by
  have e : w = w.take (s - 1) ++ (w.getD (s - 1) 0 :: w.drop s) := by
    conv => lhs; rw [← List.take_append_drop (s - 1) w, List.drop_eq_getElem_cons (show s - 1 < w.length by omega), show s - 1 + 1 = s by omega]
    rw [List.getD_eq_getElem?_getD, List.getElem?_eq_getElem (show s - 1 < w.length by omega)]; rfl
  have e2 : w.take (s - 1) ++ [w.getD (s - 1) 0] = w.take s := by
    obtain ⟨q, rfl⟩ : ∃ q, s = q + 1 := ⟨s - 1, by omega⟩
    rw [Nat.add_sub_cancel, List.take_succ, List.getD_eq_getElem?_getD, List.getElem?_eq_getElem (show q < w.length by omega)]; rfl
  conv => lhs; rw [e]
  rw [lz_run (w.take (s - 1)) parts [] _ fun t t1 t2 => ?_, List.nil_append, lz, if_neg (by rw [e2]; exact hn), e2]
  rw [List.length_take] at t2
  rw [List.nil_append, List.take_take, Nat.min_eq_left (by omega)]
  exact hk t t1 (by omega)
/-- all that is left is known -/
theorem lz_end {parts : List (List Nat)} {w : List Nat} (h0 : w ≠ []) (hk : ∀ t, 1 ≤ t → t ≤ w.length → w.take t ∈ parts) : lz parts [] w = [(ix parts w, [])] := by
  have := lz_run w parts [] [] fun s h1 h2 => by rw [List.nil_append]; exact hk s h1 h2
  rw [List.append_nil, List.nil_append] at this
  rw [this, lz, if_neg h0]
/-- what pairs make, one behind the other -/
def un : List (List Nat) → List (Nat × List Nat) → List (List Nat)
  | parts, [] => parts
  | parts, p :: r => un (parts ++ [parts.getD p.1 [] ++ p.2]) r
/-- pairs that may stand there: so many parts are known, so many pairs are left -/
def good : Nat → List (Nat × List Nat) → Prop
  | _, [] => True
  | n, p :: r => p.1 ≤ n ∧ ((∃ c, p.2 = [c] ∧ 97 ≤ c ∧ c ≤ 122) ∨ (p.2 = [] ∧ r = [] ∧ p.1 ≠ 0)) ∧ good (n + 1) r
theorem lz_good : ∀ (r : List Nat) (parts : List (List Nat)) (part : List Nat) (n : Nat), parts.length = n + 1 → parts[0]? = some [] → part ∈ parts → (∀ c, c ∈ r → 97 ≤ c ∧ c ≤ 122) →
    good n (lz parts part r) ∧ (un parts (lz parts part r)).flatten = parts.flatten ++ part ++ r
  | [], parts, part, n, hl, h0, hm, _ => by
    rw [lz]
    have hx := ix_at hm
    have hlt := (List.getElem?_eq_some_iff.mp hx.1).1
    split
    · rename_i e
      subst e
      exact ⟨trivial, by rw [un]; simp⟩
    · rename_i e
      refine ⟨⟨by show ix parts part ≤ n; omega, .inr ⟨rfl, rfl, fun z => ?_⟩, trivial⟩, ?_⟩
      · have z : ix parts part = 0 := z
        have := hx.1
        rw [z, h0] at this
        exact e (Option.some.inj this).symm
      · rw [un, un]
        show (parts ++ [parts.getD (ix parts part) [] ++ []]).flatten = _
        rw [List.getD_eq_getElem?_getD, hx.1]
        simp
  | c :: r, parts, part, n, hl, h0, hm, hc => by
    rw [lz]
    have hx := ix_at hm
    have hlt := (List.getElem?_eq_some_iff.mp hx.1).1
    split
    · rename_i e
      have := lz_good r parts (part ++ [c]) n hl h0 e fun x hx => hc x (List.mem_cons_of_mem _ hx)
      refine ⟨this.1, ?_⟩
      rw [this.2]; simp
    · rename_i e
      have := lz_good r (parts ++ [part ++ [c]]) [] (n + 1) (by rw [List.length_append, hl]; rfl) (by rw [List.getElem?_append_left (by omega)]; exact h0) (List.mem_append_left _ (List.mem_of_getElem? h0)) fun x hx => hc x (List.mem_cons_of_mem _ hx)
      refine ⟨⟨by show ix parts part ≤ n; omega, .inl ⟨c, rfl, hc c List.mem_cons_self⟩, this.1⟩, ?_⟩
      rw [un]
      show (un (parts ++ [parts.getD (ix parts part) [] ++ [c]]) _).flatten = _
      rw [List.getD_eq_getElem?_getD, hx.1]
      show (un (parts ++ [part ++ [c]]) _).flatten = _
      rw [this.2]; simp
end M47
set_option Elab.async false
set_option pp.maxSteps 1200
set_option linter.all false
set_option maxRecDepth 100000
set_option maxHeartbeats 4000000
namespace LW
open PySem PySem.Spec PyProof.Rows L2 D2
def topS (i : Nat) : Stmt := PySem.Challenge.pw_wordsalike_k47_lists_of_phrases.main.body.getD i (.Pass ⟨0, 0, 0, 0⟩)
structure Bl (mg : Str → Option Value) : Prop where
  b_any : mg "any" = none
  b_bool : mg "bool" = none
  b_enumerate : mg "enumerate" = none
  b_int : mg "int" = none
  b_isinstance : mg "isinstance" = none
  b_len : mg "len" = none
  b_list : mg "list" = none
  b_max : mg "max" = none
  b_min : mg "min" = none
  b_range : mg "range" = none
  b_str : mg "str" = none
  b_tuple : mg "tuple" = none
  c_LETTERS : ∃ t, mg "LETTERS" = some (.str "abcdefghijklmnopqrstuvwxyz" t)
  c_MOST_LETTERS : ∃ t, mg "MOST_LETTERS" = some (.int 400 t)
local macro_rules | `(tactic| walk_at "le") => `(tactic| (refine ⟨?_, rfl⟩; repeat (first | exact LeS.nil | apply LeS.skip | apply LeS.same)))
local macro_rules | `(tactic| walk_at "sd") => `(tactic| (first | assumption | omega | (simp only [List.length_append, List.length_take, List.length_drop, List.length_reverse, List.length_cons, List.length_nil, D2.rep_length]; omega)))
section
variable {P : Program} {w : World} {K : PySem.W.Frag} {mg : Str → Option Value} {base : Heap}
/-! ### the drawn numbers -/
abbrev s__law_draws : Stmt := topS 8
abbrev n__law_draws : List Str := ["script"]
theorem sc__law_draws : FnScope n__law_draws ["script"] (defScope s__law_draws) := ⟨rfl, rfl, rfl, by decide +kernel, rfl, by decide +kernel, by decide +kernel⟩
abbrev s__law_draw : Stmt := topS 9
abbrev n__law_draw : List Str := ["draws", "limit", "cell", "value"]
theorem sc__law_draw : FnScope n__law_draw ["draws", "limit"] (defScope s__law_draw) := ⟨rfl, rfl, rfl, by decide +kernel, rfl, by decide +kernel, by decide +kernel⟩
def drM (ns : List Int) (at_ : Nat) (big seed : Int) : MO := .l [.list (ns.map PyData.int), pn at_, .int big, .int seed]
def DOk (m : MO) : Prop := ∃ ns at_ big seed, m = drM ns at_ big seed
def R__law_draws (ds : List PyData) (r : List PyData) : Prop := ∃ ns : List Int, ds = [.list (ns.map PyData.int)] ∧ r = [.list (ns.map PyData.int), pn 0, .int 0, .int 1]
def R__law_draw (avs : List AV) (m : MO) (Post : PyData → MO → Prop) : Prop := ∃ L : Nat, 0 < L ∧ L < 1073741824 ∧ avs = [.o 0, dn L] ∧ DOk m ∧ Post = fun r m' => ∃ x : Nat, x < L ∧ r = pn x ∧ DOk m'
theorem ok__law_draws (T : Bl mg) (D : Def K mg "_law_draws" "_law_draws" s__law_draws ["script"]) : Has P w K mg base 1 "_law_draws" ["script"] (spN K R__law_draws) := by
  refine def_N D sc__law_draws (fun ds r ⟨ns, e, _⟩ => by rw [e]; rfl) fun f cdv A outer s H E hr => ⟨_, (pss_one (ps_ret (pe_lst (pa_cons (pe_callTy (call_listU (K := K) rfl) (by rfl) T.b_list (by decide +kernel) (pa_cons (pv 0) pa_nil)) (pa_cons pe_int (pa_cons pe_int (pa_cons pe_int pa_nil))))))), fun ds r hR => ?_⟩
  obtain ⟨ns, rfl, rfl⟩ := hR
  refine sw_retNew (nw_lst (AVs.ew (av_cons (ev_cb (av_cons (ev_var rfl) av_nil) ra_listL) (av_cons ev_int (av_cons ev_int (av_cons ev_int av_nil)))) ⟨[.list (ns.map PyData.int), .int 0, .int 0, .int 1], rfl, (by show 4 ≤ 1000000; decide), ?_⟩))
  rfl
theorem fmod_nat (x : Int) (L : Nat) (h : 0 < L) : ∃ y : Nat, y < L ∧ x.fmod (L : Int) = (y : Int) := by
  have h1 : 0 ≤ x.fmod (L : Int) := Int.fmod_nonneg_of_pos _ (by omega)
  have h2 : x.fmod (L : Int) < L := Int.fmod_lt_of_pos _ (by omega)
  exact ⟨(x.fmod (L : Int)).toNat, by omega, by omega⟩
theorem ok__law_draw (T : Bl mg) (D : Def K mg "_law_draw" "_law_draw" s__law_draw ["draws", "limit"]) : Has P w K mg base 1 "_law_draw" ["draws", "limit"] (spD K R__law_draw) := by
  refine def_D D sc__law_draw (fun ds _ r ⟨L, _, _, e, _⟩ => by rw [e]; rfl) fun f cdv A outer s H E hr => ⟨_, (pss_cons (ps_if (PW.pt (pw_and (pt_cmpR (op_eqU (K := K) rfl hr.units) (pe_ix (ix_U (K := K) rfl) (pv 0) pe_int (fun _ _ => rfl)) pe_int (nomark _)) (pw_and1 (pt_cmpR (op_ltU (K := K) rfl hr.units) (pe_ix (ix_U (K := K) rfl) (pv 0) pe_int (fun _ _ => rfl)) (pe_callB (call_lenU (K := K) rfl) (by rfl) T.b_len PySem.boot_len (pa_cons (pe_ix (ix_U (K := K) rfl) (pv 0) pe_int (fun _ _ => rfl)) pa_nil)) (nomark _)))))
      (pss_cons (ps_set (i := 2) sc__law_draw.nd rfl (Or.inl rfl) (pe_ix (ix_U (K := K) rfl) (pe_ix (ix_U (K := K) rfl) (pv 0) pe_int (fun _ _ => rfl)) (pe_ix (ix_U (K := K) rfl) (pv 0) pe_int (fun _ _ => rfl)) (fun _ _ => rfl)))
      (pss_cons (ps_asg (pe_op (op_addU (K := K)) (pe_ix (ix_U (K := K) rfl) (pv 0) pe_int (fun _ _ => rfl)) pe_int) (pg_sub (pv 0) pe_int set_list))
      (pss_cons (ps_if (pt_cmpR (op_geU (K := K) rfl hr.units) (pv 2) (pe_op op_pow pe_int pe_int) (nomark _))
        (pss_one (ps_asg (pv 2) (pg_sub (pv 0) pe_int set_list)))
        pss_nil)
      (pss_one (ps_asg (pe_op op_modN (pe_callTy call_intU (by rfl) T.b_int (by decide +kernel) (pa_cons (pe_op (op_addU (K := K)) (pe_op (op_addU (K := K)) (pe_op op_mulU (pe_ix (ix_U (K := K) rfl) (pv 0) pe_int (fun _ _ => rfl)) pe_int) (pv 2)) pe_int) pa_nil)) pe_int) (pg_sub (pv 0) pe_int set_list))))))
      pss_nil)
    (pss_cons (ps_if (pt_cmpR (op_gtU (K := K) rfl hr.units) (pe_ix (ix_U (K := K) rfl) (pv 0) pe_int (fun _ _ => rfl)) pe_int (nomark _))
      (pss_cons (ps_set (i := 3) sc__law_draw.nd rfl (Or.inl rfl) (pe_op op_modN (pe_callTy call_intU (by rfl) T.b_int (by decide +kernel) (pa_cons (pe_ix (ix_U (K := K) rfl) (pv 0) pe_int (fun _ _ => rfl)) pa_nil)) (pv 1)))
      (pss_cons (ps_asg (pe_op op_fdivN (pe_ix (ix_U (K := K) rfl) (pv 0) pe_int (fun _ _ => rfl)) (pv 1)) (pg_sub (pv 0) pe_int set_list))
      (pss_one (ps_ret (pv 3)))))
      pss_nil)
    (pss_cons (ps_asg (pe_op op_modN (pe_callTy call_intU (by rfl) T.b_int (by decide +kernel) (pa_cons (pe_op (op_addU (K := K)) (pe_op op_mulU (pe_ix (ix_U (K := K) rfl) (pv 0) pe_int (fun _ _ => rfl)) pe_int) pe_int) pa_nil)) pe_int) (pg_sub (pv 0) pe_int set_list))
    (pss_one (ps_ret (pe_op op_modN (pe_callTy call_intU (by rfl) T.b_int (by decide +kernel) (pa_cons (pe_op op_fdivN (pe_ix (ix_U (K := K) rfl) (pv 0) pe_int (fun _ _ => rfl)) pe_int) pa_nil)) (pv 1))))))), fun avs m Post hR => ?_⟩
  obtain ⟨L, hL0, hL1, rfl, ⟨ns, at_, big, seed, rfl⟩, rfl⟩ := hR
  refine sw_mid (fun S' => ∃ (a : Nat) (bg sd : Int), Le ⟨[some (.o 0), some (dn L), none, none], [drM ns a bg sd]⟩ S') ?_ ?_
  · refine sw_ifE (tv_and (tv_test (ev_op (ev_op (ev_var rfl) (ev_nat 2) (rb_ixON rfl rfl)) (ev_nat 0) rb_eqI)) (fun _ => (tv_test (ev_op (ev_op (ev_var rfl) (ev_nat 1) (rb_ixON rfl rfl)) (ev_cb (av_cons (ev_op (ev_var rfl) (ev_nat 0) (rb_ixON rfl rfl)) av_nil) ra_lenLI) rb_ltN)))) (fun hb => ?_) (fun hb => ?_)
    · have ha : at_ < ns.length := by simp at hb; exact hb.2
      refine sw_seq (sw_asgE (ev_op (ev_op (ev_var rfl) (ev_nat 0) (rb_ixON rfl rfl)) (ev_op (ev_var rfl) (ev_nat 1) (rb_ixON rfl rfl)) (rb_ixLI ha)) ?_)
      refine sw_seq (sw_setL (j := 0) rfl (EV.ew (ev_op (ev_op (ev_var rfl) (ev_nat 1) (rb_ixON rfl rfl)) (ev_nat 1) rb_addN) (EV.ew (ev_nat 1) ⟨_, _, 1, rfl, rfl, rfl, (by show 1 < 4; decide), ?_⟩)))
      refine sw_mid (fun S' => ∃ (bg : Int), Le ⟨[some (.o 0), some (dn L), some (dI (ns.getD at_ 0)), none], [drM ns (at_ + 1) bg seed]⟩ S') ?_ ?_
      · refine sw_ifE (tv_test (ev_op (ev_var rfl) (ev_op ev_int ev_int (rb_pow ⟨by decide, by decide, by decide⟩)) rb_ge)) (fun hb => ?_) (fun hb => ?_)
        · refine sw_setL (j := 0) rfl (EV.ew (ev_var rfl) (EV.ew (ev_nat 2) ⟨_, _, 2, rfl, rfl, rfl, (by show 2 < 4; decide), ?_⟩))
          exact ⟨_, Le.refl _⟩
        · exact sw_next ⟨_, Le.refl _⟩
      · rintro S' ⟨bg, hS⟩
        refine sw_le ?_ hS
        refine sw_setL (j := 0) rfl (EV.ew (ev_op (ev_cb (av_cons (ev_op (ev_op (ev_op (ev_op (ev_var rfl) (ev_nat 3) (rb_ixON rfl rfl)) ev_int (rb_mul (.inr (by decide)))) (ev_var rfl) rb_add) ev_int rb_add) av_nil) ra_int) ev_int (rb_mod (by decide))) (EV.ew (ev_nat 3) ⟨_, _, 3, rfl, rfl, rfl, (by show 3 < 4; decide), ?_⟩))
        exact ⟨at_ + 1, bg, _, .same (.same (.skip (.same .nil))), rfl⟩
    · exact sw_next ⟨at_, big, seed, .same (.same (.skip (.skip .nil))), rfl⟩
  rintro S' ⟨a, bg, sd, hS⟩
  refine sw_le ?_ hS
  clear hS
  refine sw_seq (sw_ifE (tv_test (ev_op (ev_op (ev_var rfl) (ev_nat 2) (rb_ixON rfl rfl)) (ev_nat 0) rb_gt)) (fun hb => ?_) (fun hb => ?_))
  · refine sw_seq (sw_asgE (ev_op (ev_cb (av_cons (ev_op (ev_var rfl) (ev_nat 2) (rb_ixON rfl rfl)) av_nil) ra_int) (ev_var rfl) (rb_mod (by omega))) ?_)
    refine sw_seq (sw_setL (j := 0) rfl (EV.ew (ev_op (ev_op (ev_var rfl) (ev_nat 2) (rb_ixON rfl rfl)) (ev_var rfl) (rb_fdiv ⟨by omega, by omega⟩)) (EV.ew (ev_nat 2) ⟨_, _, 2, rfl, rfl, rfl, (by show 2 < 4; decide), ?_⟩)))
    obtain ⟨y, h1, h2⟩ := fmod_nat bg L hL0
    exact sw_retE (ev_var rfl) ⟨_, rfl, y, h1, congrArg PyData.int h2, ns, a, bg.fdiv L, sd, rfl⟩
  · refine sw_next ?_
    refine sw_seq (sw_setL (j := 0) rfl (EV.ew (ev_op (ev_cb (av_cons (ev_op (ev_op (ev_op (ev_var rfl) (ev_nat 3) (rb_ixON rfl rfl)) ev_int (rb_mul (.inr (by decide)))) ev_int rb_add) av_nil) ra_int) ev_int (rb_mod (by decide))) (EV.ew (ev_nat 3) ⟨_, _, 3, rfl, rfl, rfl, (by show 3 < 4; decide), ?_⟩)))
    obtain ⟨y, h1, h2⟩ := fmod_nat ((((sd * 69621 + 7).fmod 2147483629).fdiv 11)) L hL0
    exact sw_retE (ev_op (ev_cb (av_cons (ev_op (ev_op (ev_var rfl) (ev_nat 3) (rb_ixON rfl rfl)) ev_int (rb_fdiv ⟨by decide, by decide⟩)) av_nil) ra_int) (ev_var rfl) (rb_mod (by omega))) ⟨_, rfl, y, h1, congrArg PyData.int h2, ns, a, bg, _, rfl⟩
/-- a number is drawn -/
theorem ew_draw {S : AS} {te : TE} {i j L : Nat} {m : MO} {E : XK} {Q : AV → Mu → Prop} (hi : S.sl[i]? = some (some (.o j))) (hm : S.mu[j]? = some m) (hd : DOk m) (hE : EV K te S (dn L)) (h0 : 0 < L) (h1 : L < 1073741824)
    (k : ∀ x, x < L → ∀ m', DOk m' → Q (dn x) (S.mu.set j m')) : EW K (tCall (spD K R__law_draw) [] E (tCons (tVar i) (tCons te tNil))) S Q :=
  ew_callD (AVs.ew (av_cons (ev_var hi) (av_cons hE av_nil)) ⟨j, m, [.o 0, dn L], _, hm, rfl, ⟨L, h0, h1, rfl, hd, rfl⟩, fun r m' ⟨x, hx, e, hd'⟩ => by subst e; exact k x hx m' hd'⟩)
def Ltr (l : List Nat) : Prop := ∀ c ∈ l, 97 ≤ c ∧ c ≤ 122
theorem Ltr.app {a b : List Nat} (h1 : Ltr a) (h2 : Ltr b) : Ltr (a ++ b) := fun c hc => (List.mem_append.mp hc).elim (h1 c) (h2 c)
theorem Ltr.take {a : List Nat} (h : Ltr a) (n : Nat) : Ltr (a.take n) := fun c hc => h c (List.mem_of_mem_take hc)
theorem Ltr.drop {a : List Nat} (h : Ltr a) (n : Nat) : Ltr (a.drop n) := fun c hc => h c (List.mem_of_mem_drop hc)
theorem Ltr.rev {a : List Nat} (h : Ltr a) : Ltr a.reverse := fun c hc => h c (List.mem_reverse.mp hc)
theorem Ltr.nil : Ltr [] := fun c hc => by simp at hc
theorem Ltr.rep {a : List Nat} (h : Ltr a) : ∀ n, Ltr (D2.rep a n)
  | 0 => Ltr.nil
  | n + 1 => Ltr.app h (Ltr.rep h n)
theorem Ltr.one {a : List Nat} (h : Ltr a) {n : Nat} (hn : n < a.length) : Ltr [a.getD n 0] := fun c hc => by
  rw [List.mem_singleton.mp hc, List.getD_eq_getElem?_getD, List.getElem?_eq_getElem hn]
  exact h _ (List.getElem_mem hn)
/-! ### a word is drawn -/
abbrev s__law_word : Stmt := topS 10
abbrev n__law_word : List Str := ["draws", "most", "many", "pool", "found", "k", "kind", "part", "one", "at"]
theorem sc__law_word : FnScope n__law_word ["draws", "most"] (defScope s__law_word) := ⟨rfl, rfl, rfl, by decide +kernel, rfl, by decide +kernel, by decide +kernel⟩
def R__law_word (avs : List AV) (m : MO) (Post : PyData → MO → Prop) : Prop := ∃ most : Nat, most ≤ 1000 ∧ avs = [.o 0, dn most] ∧ DOk m ∧ Post = fun r m' => ∃ l : List Nat, l.length ≤ max 3 most ∧ Ltr l ∧ r = pS l ∧ DOk m'
def pools : List (List Nat) := [[97, 98], [97], [97, 98, 99], [97, 98, 99, 100, 101, 102, 103, 104, 105, 106, 107, 108, 109, 110, 111, 112, 113, 114, 115, 116, 117, 118, 119, 120, 121, 122]]
theorem pools_ok : ∀ l ∈ pools, Ltr l ∧ 0 < l.length ∧ l.length ≤ 26 := by unfold pools Ltr; decide
theorem ok__law_word (T : Bl mg) (D : Def K mg "_law_word" "_law_word" s__law_word ["draws", "most"])
    (H__law_draw : Has P w K mg base 1 "_law_draw" ["draws", "limit"] (spD K R__law_draw)) : Has P w K mg base 2 "_law_word" ["draws", "most"] (spD K R__law_word) := by
  obtain ⟨_, _, G__law_draw, m__law_draw, k__law_draw, bd__law_draw⟩ := H__law_draw
  refine def_D D sc__law_word (fun ds _ r ⟨L, _, e, _⟩ => by rw [e]; rfl) fun f cdv A outer s H E hr => ⟨_, (pss_cons (ps_set (i := 2) sc__law_word.nd rfl (Or.inl rfl) (pe_ix (ix_U (K := K) rfl) (pe_lst (pa_cons (pe_call G__law_draw (hr.mono (by omega)) (by rfl) m__law_draw k__law_draw bd__law_draw .nil pass0 (pa_cons (pv 0) (pa_cons pe_int pa_nil))) (pa_cons (pe_call G__law_draw (hr.mono (by omega)) (by rfl) m__law_draw k__law_draw bd__law_draw .nil pass0 (pa_cons (pv 0) (pa_cons (pe_op (op_addU (K := K)) (pv 1) pe_int) pa_nil))) (pa_cons (pv 1) pa_nil)))) (pe_callB (call_minU (K := K) rfl rfl hr.units) (by rfl) T.b_min (by decide +kernel) (pa_cons pe_int (pa_cons (pe_op op_fdivN (pe_call G__law_draw (hr.mono (by omega)) (by rfl) m__law_draw k__law_draw bd__law_draw .nil pass0 (pa_cons (pv 0) (pa_cons pe_int pa_nil))) pe_int) pa_nil))) (fun _ _ => rfl)))
    (pss_cons (ps_set (i := 3) sc__law_word.nd rfl (Or.inl rfl) (pe_ix (ix_U (K := K) rfl) (pe_lst (pa_cons pe_str (pa_cons pe_str (pa_cons pe_str (pa_cons pe_str pa_nil))))) (pe_op op_mulU (pe_call G__law_draw (hr.mono (by omega)) (by rfl) m__law_draw k__law_draw bd__law_draw .nil pass0 (pa_cons (pv 0) (pa_cons pe_int pa_nil))) (pe_callTy call_intU (by rfl) T.b_int (by decide +kernel) (pa_cons (pe_cmpR (op_gtU (K := K) rfl hr.units) (pe_call G__law_draw (hr.mono (by omega)) (by rfl) m__law_draw k__law_draw bd__law_draw .nil pass0 (pa_cons (pv 0) (pa_cons pe_int pa_nil))) pe_int (nomark _)) pa_nil))) (fun _ _ => rfl)))
    (pss_cons (ps_set (i := 4) sc__law_word.nd rfl (Or.inl rfl) pe_str)
    (pss_cons (ps_for PassesOwn.never rfl (pi_range1 (by rfl) T.b_range (pa_cons (pv 2) pa_nil)) (pg_name (i := 5) sc__law_word.nd rfl (Or.inl rfl))
      (pss_one (ps_set (i := 4) sc__law_word.nd rfl (Or.inl rfl) (pe_op (op_addU (K := K)) (pv 4) (pe_ix (ix_U (K := K) rfl) (pv 3) (pe_call G__law_draw (hr.mono (by omega)) (by rfl) m__law_draw k__law_draw bd__law_draw .nil pass0 (pa_cons (pv 0) (pa_cons (pe_callB (call_lenU (K := K) rfl) (by rfl) T.b_len PySem.boot_len (pa_cons (pv 3) pa_nil)) pa_nil))) (fun _ _ => rfl))))))
    (pss_cons (ps_set (i := 6) sc__law_word.nd rfl (Or.inl rfl) (pe_call G__law_draw (hr.mono (by omega)) (by rfl) m__law_draw k__law_draw bd__law_draw .nil pass0 (pa_cons (pv 0) (pa_cons pe_int pa_nil))))
    (pss_cons (ps_if (pt_cmpR (op_eqU (K := K) rfl hr.units) (pv 6) pe_int (nomark _))
      (pss_cons (ps_set (i := 7) sc__law_word.nd rfl (Or.inl rfl) (pe_slice (sl_U (K := K) rfl) (pv 4) po_none (po_some (pe_op (op_addU (K := K)) pe_int (pe_call G__law_draw (hr.mono (by omega)) (by rfl) m__law_draw k__law_draw bd__law_draw .nil pass0 (pa_cons (pv 0) (pa_cons pe_int pa_nil)))))))
      (pss_one (ps_set (i := 4) sc__law_word.nd rfl (Or.inl rfl) (pe_slice (sl_U (K := K) rfl) (pe_op op_mulU (pv 7) (pe_op (op_addU (K := K)) pe_int (pe_op op_fdivN (pv 2) (pe_callB (call_maxU (K := K) rfl rfl hr.units) (by rfl) T.b_max (by decide +kernel) (pa_cons pe_int (pa_cons (pe_callB (call_lenU (K := K) rfl) (by rfl) T.b_len PySem.boot_len (pa_cons (pv 7) pa_nil)) pa_nil)))))) po_none (po_some (pv 2))))))
      (pss_one (ps_if (pt_cmpR (op_eqU (K := K) rfl hr.units) (pv 6) pe_int (nomark _))
        (pss_one (ps_set (i := 4) sc__law_word.nd rfl (Or.inl rfl) (pe_slice (sl_U (K := K) rfl) (pe_op (op_addU (K := K)) (pe_slice (sl_U (K := K) rfl) (pv 4) po_none (po_some (pe_op op_fdivN (pv 2) pe_int))) (pe_revS (pe_slice (sl_U (K := K) rfl) (pv 4) po_none (po_some (pe_op op_fdivN (pv 2) pe_int))))) po_none (po_some (pv 2)))))
        (pss_one (ps_if (pt_cmpR (op_eqU (K := K) rfl hr.units) (pv 6) pe_int (nomark _))
          (pss_cons (ps_set (i := 8) sc__law_word.nd rfl (Or.inl rfl) (pe_slice (sl_U (K := K) rfl) (pv 4) po_none (po_some (pe_op op_fdivN (pv 2) pe_int))))
          (pss_one (ps_set (i := 4) sc__law_word.nd rfl (Or.inl rfl) (pe_slice (sl_U (K := K) rfl) (pe_op (op_addU (K := K)) (pe_op (op_addU (K := K)) (pe_op (op_addU (K := K)) (pv 8) (pe_revS (pv 8))) (pe_slice (sl_U (K := K) rfl) (pv 4) po_none (po_some (pe_op op_fdivN (pv 2) pe_int)))) (pv 8)) po_none (po_some (pv 2))))))
          pss_nil)))))
    (pss_cons (ps_if (PW.pt (pw_and (pt_cmpR (op_gtU (K := K) rfl hr.units) (pv 6) pe_int (nomark _)) (pw_and (pt_cmpR (op_gtU (K := K) rfl hr.units) (pe_callB (call_lenU (K := K) rfl) (by rfl) T.b_len PySem.boot_len (pa_cons (pv 4) pa_nil)) pe_int (nomark _)) (pw_and1 (pt_cmpR (op_eqU (K := K) rfl hr.units) (pe_call G__law_draw (hr.mono (by omega)) (by rfl) m__law_draw k__law_draw bd__law_draw .nil pass0 (pa_cons (pv 0) (pa_cons pe_int pa_nil))) pe_int (nomark _))))))
      (pss_cons (ps_set (i := 9) sc__law_word.nd rfl (Or.inl rfl) (pe_call G__law_draw (hr.mono (by omega)) (by rfl) m__law_draw k__law_draw bd__law_draw .nil pass0 (pa_cons (pv 0) (pa_cons (pe_callB (call_lenU (K := K) rfl) (by rfl) T.b_len PySem.boot_len (pa_cons (pv 4) pa_nil)) pa_nil))))
      (pss_one (ps_set (i := 4) sc__law_word.nd rfl (Or.inl rfl) (pe_op (op_addU (K := K)) (pe_op (op_addU (K := K)) (pe_slice (sl_U (K := K) rfl) (pv 4) po_none (po_some (pv 9))) (pe_ix (ix_U (K := K) rfl) (pv 3) (pe_call G__law_draw (hr.mono (by omega)) (by rfl) m__law_draw k__law_draw bd__law_draw .nil pass0 (pa_cons (pv 0) (pa_cons (pe_callB (call_lenU (K := K) rfl) (by rfl) T.b_len PySem.boot_len (pa_cons (pv 3) pa_nil)) pa_nil))) (fun _ _ => rfl))) (pe_slice (sl_U (K := K) rfl) (pv 4) (po_some (pe_op (op_addU (K := K)) (pv 9) pe_int)) po_none)))))
      pss_nil)
    (pss_one (ps_ret (pv 4)))))))))), fun avs m Post hR => ?_⟩
  obtain ⟨most, hmost, rfl, hd, rfl⟩ := hR
  refine sw_seq (sw_asg (ew_op (ew_lst (aw_cons (ew_draw rfl rfl hd (ev_nat 4) (by omega) (by omega) fun x hx m1 d1 => aw_cons (ew_draw rfl rfl d1 (ev_op (ev_var rfl) (ev_nat 1) rb_addN) (by omega) (by omega) fun y hy m2 d2 => aw_cons (EV.ew (ev_var rfl) (aw_nil ⟨[pn x, pn y, pn most], rfl, (by show 3 ≤ 1000000; decide), ?_⟩))))))))
  refine ew_cb (aw_cons (EV.ew (ev_nat 2) (aw_cons (ew_op (ew_draw rfl rfl d2 (ev_nat 10) (by omega) (by omega) fun z hz m3 d3 => EV.ew (ev_nat 4) ⟨_, rb_fdivNN ⟨by omega, by omega⟩, aw_nil ⟨_, ra_min2N, _, rb_ixLNN (ls := [x, y, most]) (by show min 2 (z / 4) < 3; omega), ?_⟩⟩)))))
  have hmany : [x, y, most].getD (min 2 (z / 4)) 0 ≤ max 3 most := by
    have : min 2 (z / 4) = 0 ∨ min 2 (z / 4) = 1 ∨ min 2 (z / 4) = 2 := by omega
    rcases this with e | e | e <;> rw [e] <;> simp <;> omega
  generalize [x, y, most].getD (min 2 (z / 4)) 0 = many at hmany
  -- pool
  refine sw_seq (sw_asg (ew_op (EV.ew (ev_lst (ds := pools.map pS) (av_cons (ev_txt (l := [97, 98]) (by decide +kernel)) (av_cons (ev_txt (l := [97]) (by decide +kernel)) (av_cons (ev_txt (l := [97, 98, 99]) (by decide +kernel)) (av_cons (ev_txt (l := [97, 98, 99, 100, 101, 102, 103, 104, 105, 106, 107, 108, 109, 110, 111, 112, 113, 114, 115, 116, 117, 118, 119, 120, 121, 122]) (by decide +kernel)) av_nil))))) ?_)))
  refine ew_op (ew_draw rfl rfl d3 (ev_nat 4) (by omega) (by omega) fun a ha m4 d4 => ew_cb (aw_cons (ew_op (ew_draw rfl rfl d4 (ev_nat 3) (by omega) (by omega) fun b hb m5 d5 => EV.ew (ev_nat 0) ⟨_, rb_gtN, aw_nil ⟨_, ra_intBN, _, rb_mulN (by omega), _, rb_ixLS (ls := pools) ?_, ?_⟩⟩))))
  · have : (decide (0 < b)).toNat ≤ 1 := Bool.toNat_le _
    have h2 : a * (decide (0 < b)).toNat ≤ a * 1 := Nat.mul_le_mul_left _ this
    show _ < 4
    omega
  have hpool : pools.getD (a * (decide (0 < b)).toNat) [] ∈ pools := by
    have : (decide (0 < b)).toNat ≤ 1 := Bool.toNat_le _
    have h2 : a * (decide (0 < b)).toNat ≤ a * 1 := Nat.mul_le_mul_left _ this
    have h3 : a * (decide (0 < b)).toNat < pools.length := by show _ < 4; omega
    rw [List.getD_eq_getElem?_getD, List.getElem?_eq_getElem h3]
    exact List.getElem_mem h3
  generalize pools.getD (a * (decide (0 < b)).toNat) [] = pool at hpool
  obtain ⟨pl, p0, p26⟩ := pools_ok pool hpool
  -- found
  refine sw_seq (sw_asgE (ev_txt (l := []) (by decide +kernel)) ?_)
  refine sw_mid (fun S' => ∃ l m, l.length = many ∧ Ltr l ∧ DOk m ∧ Le ⟨[some (.o 0), some (dn most), some (dn many), some (dS pool), some (dS l), none, none, none, none, none], [m]⟩ S') ?_ ?_
  · refine sw_for (js := [5]) (EI.ew (ei_rngN (av_cons (ev_var rfl) av_nil) (by omega)) ⟨fun i S' => ∃ l m, l.length = i ∧ Ltr l ∧ DOk m ∧ Le ⟨[some (.o 0), some (dn most), some (dn many), some (dS pool), some (dS l), none, none, none, none, none], [m]⟩ S', ⟨[], m5, rfl, Ltr.nil, d5, by walk_at "le"⟩, ?_, ?_⟩)
    · rintro i d S' hdi ⟨l, m, hl, hL, hm, hS⟩
      obtain ⟨hi, rfl⟩ := rngN_at hdi
      refine gw_le hS ?_
      refine sw_asg (ew_op (EV.ew (ev_var rfl) (ew_op (EV.ew (ev_var rfl) (ew_draw rfl rfl hm (ev_cb (av_cons (ev_var rfl) av_nil) (ra_lenSN (by omega))) p0 (by omega) fun c hc m' d' => ⟨_, rb_ixSN hc (by omega), _, rb_addS (by walk_at "sd"), ?_⟩)))))
      exact ⟨_, m', by rw [List.length_append, hl]; rfl, Ltr.app hL (Ltr.one pl hc), d', by walk_at "le"⟩
    · rintro S' ⟨l, m, hl, hL, hm, hS⟩
      rw [List.length_map, List.length_range] at hl
      exact ⟨l, m, hl, hL, hm, hS⟩
  rintro S' ⟨l, m6, hl, hL, d6, hS⟩
  refine sw_le ?_ hS
  clear hS
  -- kind
  refine sw_seq (sw_asg (ew_draw rfl rfl d6 (ev_nat 5) (by omega) (by omega) fun kind hk m7 d7 => ?_))
  refine sw_mid (fun S' => ∃ l : List Nat, l.length ≤ many ∧ Ltr l ∧ ∃ m, DOk m ∧ Le ⟨[some (.o 0), some (dn most), some (dn many), some (dS pool), some (dS l), none, some (dn kind), none, none, none], [m]⟩ S') ?_ ?_
  · refine sw_ifE (tv_test (ev_op (ev_var rfl) (ev_nat 1) rb_eqN)) (fun hb => ?_) (fun hb => ?_)
    · refine sw_seq <| sw_asg <| ew_sl <| EV.ew (ev_var rfl) <| OV.ew ov_none <| ow_some <| ew_op <| EV.ew (ev_nat 1) <| ew_draw rfl rfl d7 (ev_nat 6) (by omega) (by omega) fun x hx m8 d8 => ⟨_, rb_addN, _, rfl, _, rsl_toN (by omega), ?_⟩
      have h1 : (l.take (1 + x)).length ≤ 6 := by rw [List.length_take]; omega
      have hq : many / max 1 (l.take (1 + x)).length ≤ many := Nat.div_le_self _ _
      refine sw_asgE (ev_sl (ev_op (ev_var rfl) (ev_op (ev_nat 1) (ev_op (ev_var rfl) (ev_cb (av_cons (ev_nat 1) (av_cons (ev_cb (av_cons (ev_var rfl) av_nil) (ra_lenSN (by omega))) av_nil)) ra_max2N) (rb_fdivNN ⟨by omega, by omega⟩)) rb_addN) (rb_mulSN (by omega) ?_)) ov_none (ov_some (ev_var rfl)) (rsl_toN ?_)) ?_
      · exact Nat.le_trans (Nat.mul_le_mul h1 (show 1 + many / max 1 (l.take (1 + x)).length ≤ 2000 by omega)) (by decide)
      · rw [D2.rep_length]
        exact Nat.le_trans (Nat.mul_le_mul (show 1 + many / max 1 (l.take (1 + x)).length ≤ 2000 by omega) h1) (by decide)
      · refine ⟨_, ?_, ?_, m8, d8, by walk_at "le"⟩
        · rw [List.length_take]; omega
        · exact Ltr.take (Ltr.rep (Ltr.take hL _) _) _
    · refine sw_ifE (tv_test (ev_op (ev_var rfl) (ev_nat 2) rb_eqN)) (fun hb => ?_) (fun hb => ?_)
      · refine sw_asgE (ev_sl (ev_op (ev_sl (ev_var rfl) ov_none (ov_some (ev_op (ev_var rfl) (ev_nat 2) (rb_fdivNN ⟨by omega, by omega⟩))) (rsl_toN (by omega))) (ev_revS (ev_sl (ev_var rfl) ov_none (ov_some (ev_op (ev_var rfl) (ev_nat 2) (rb_fdivNN ⟨by omega, by omega⟩))) (rsl_toN (by omega))) (by walk_at "sd")) (rb_addS (by walk_at "sd"))) ov_none (ov_some (ev_var rfl)) (rsl_toN (by walk_at "sd"))) ?_
        refine ⟨_, ?_, ?_, m7, d7, by walk_at "le"⟩
        · rw [List.length_take]; omega
        · exact Ltr.take (Ltr.app (Ltr.take hL _) (Ltr.rev (Ltr.take hL _))) _
      · refine sw_ifE (tv_test (ev_op (ev_var rfl) (ev_nat 3) rb_eqN)) (fun hb => ?_) (fun hb => ?_)
        · refine sw_seq (sw_asgE (ev_sl (ev_var rfl) ov_none (ov_some (ev_op (ev_var rfl) (ev_nat 4) (rb_fdivNN ⟨by omega, by omega⟩))) (rsl_toN (by omega))) ?_)
          refine sw_asgE (ev_sl (ev_op (ev_op (ev_op (ev_var rfl) (ev_revS (ev_var rfl) (by walk_at "sd")) (rb_addS (by walk_at "sd"))) (ev_sl (ev_var rfl) ov_none (ov_some (ev_op (ev_var rfl) (ev_nat 6) (rb_fdivNN ⟨by omega, by omega⟩))) (rsl_toN (by omega))) (rb_addS (by walk_at "sd"))) (ev_var rfl) (rb_addS (by walk_at "sd"))) ov_none (ov_some (ev_var rfl)) (rsl_toN (by walk_at "sd"))) ?_
          refine ⟨_, ?_, ?_, m7, d7, by walk_at "le"⟩
          · rw [List.length_take]; omega
          · exact Ltr.take (Ltr.app (Ltr.app (Ltr.app (Ltr.take hL _) (Ltr.rev (Ltr.take hL _))) (Ltr.take hL _)) (Ltr.take hL _)) _
        · exact sw_next ⟨l, by omega, hL, m7, d7, by walk_at "le"⟩
  rintro S' ⟨l2, hl2, hL2, m8, d8, hS⟩
  refine sw_le ?_ hS
  clear hS
  -- a letter changed
  refine sw_mid (fun S' => ∃ l : List Nat, l.length ≤ many ∧ Ltr l ∧ ∃ m, DOk m ∧ Le ⟨[some (.o 0), some (dn most), some (dn many), some (dS pool), some (dS l), none, some (dn kind), none, none, none], [m]⟩ S') ?_ ?_
  · refine sw_ifM (fun b mu => ∃ m, mu = [m] ∧ DOk m ∧ (b = true → 0 < l2.length)) ?_ ?_ ?_
    · refine tw_andE (tv_test (ev_op (ev_var rfl) (ev_nat 0) rb_gtN)) (fun _ => ?_) (fun _ => ⟨m8, rfl, d8, fun h => by cases h⟩)
      refine tw_andE (tv_test (ev_op (ev_cb (av_cons (ev_var rfl) av_nil) (ra_lenSN (by omega))) (ev_nat 0) rb_gtN)) (fun hpos => ?_) (fun _ => ⟨m8, rfl, d8, fun h => by cases h⟩)
      exact tw_test <| ew_op <| ew_draw rfl rfl d8 (ev_nat 2) (by omega) (by omega) fun x hx m' d' => EV.ew (ev_nat 1) ⟨_, rb_eqN, _, rfl, m', rfl, d', fun _ => of_decide_eq_true hpos⟩
    · rintro mu ⟨m, rfl, dm, hpos⟩
      have hpos := hpos rfl
      refine sw_seq <| sw_asg <| ew_draw rfl rfl dm (ev_cb (av_cons (ev_var rfl) av_nil) (ra_lenSN (by omega))) hpos (by omega) fun x hx m' d' => ?_
      refine sw_asg <| ew_op <| ew_op <| EV.ew (ev_sl (ev_var rfl) ov_none (ov_some (ev_var rfl)) (rsl_toN (by omega))) <| ew_op <| EV.ew (ev_var rfl) <| ew_draw rfl rfl d' (ev_cb (av_cons (ev_var rfl) av_nil) (ra_lenSN (by omega))) p0 (by omega) fun c hc m2 d2 => ⟨_, rb_ixSN hc (by omega), _, rb_addS (by walk_at "sd"), EV.ew (ev_sl (ev_var rfl) (ov_some (ev_op (ev_var rfl) (ev_nat 1) rb_addN)) ov_none (rsl_fromN (by omega))) ⟨_, rb_addS (by walk_at "sd"), ?_⟩⟩
      refine ⟨_, ?_, ?_, m2, d2, by walk_at "le"⟩
      · walk_at "sd"
      · exact Ltr.app (Ltr.app (Ltr.take hL2 _) (Ltr.one pl hc)) (Ltr.drop hL2 _)
    · rintro mu ⟨m, rfl, dm, _⟩
      exact sw_next ⟨l2, hl2, hL2, m, dm, by walk_at "le"⟩
  rintro S' ⟨l3, hl3, hL3, m9, d9, hS⟩
  refine sw_le ?_ hS
  exact sw_retE (ev_var rfl) ⟨m9, rfl, l3, by omega, hL3, rfl, d9⟩
theorem ew_word {S : AS} {te : TE} {i j most : Nat} {m : MO} {E : XK} {Q : AV → Mu → Prop} (hi : S.sl[i]? = some (some (.o j))) (hm : S.mu[j]? = some m) (hd : DOk m) (hE : EV K te S (dn most)) (h1 : most ≤ 1000)
    (k : ∀ l : List Nat, l.length ≤ max 3 most → Ltr l → ∀ m', DOk m' → Q (dS l) (S.mu.set j m')) : EW K (tCall (spD K R__law_word) [] E (tCons (tVar i) (tCons te tNil))) S Q :=
  ew_callD (AVs.ew (av_cons (ev_var hi) (av_cons hE av_nil)) ⟨j, m, [.o 0, dn most], _, hm, rfl, ⟨most, h1, rfl, hd, rfl⟩, fun r m' ⟨l, hl, hL, e, hd'⟩ => by subst e; exact k l hl hL m' hd'⟩)
def kS (x : List Nat) : Key := .inr ⟨x.toArray⟩
theorem kS_inj {x y : List Nat} : kS x = kS y ↔ x = y := ⟨fun h => by unfold kS at h; injection h with h; exact txt_inj h, fun h => by rw [h]⟩
def pD (p : Nat × List Nat) : PyData := .tuple [pn p.1, pS p.2]
/-- the numbers of known parts -/
def kn (ls : List (List Nat)) (kvs : List (Key × PyData)) : Prop := kvs.length ≤ ls.length ∧ ∀ x, lookD kvs (kS x) = if x ∈ ls then some (pn (M47.ix ls x)) else none
theorem ix_old {ls : List (List Nat)} {x y : List Nat} (h : y ∈ ls) : M47.ix (ls ++ [x]) y = M47.ix ls y := by
  have h1 := M47.ix_at h
  have h2 := M47.ix_at (List.mem_append_left [x] h)
  have hl := (List.getElem?_eq_some_iff.mp h1.1).1
  rcases Nat.lt_trichotomy (M47.ix (ls ++ [x]) y) (M47.ix ls y) with z | z | z
  · refine absurd ?_ (h1.2 _ z)
    rw [← List.getElem?_append_left (l₂ := [x]) (by omega)]; exact h2.1
  · exact z
  · refine absurd ?_ (h2.2 _ z)
    rw [List.getElem?_append_left hl]; exact h1.1
theorem ix_new {ls : List (List Nat)} {x : List Nat} (h : x ∉ ls) : M47.ix (ls ++ [x]) x = ls.length := by
  have h2 := M47.ix_at (List.mem_append_right ls (List.mem_singleton.mpr (rfl : x = x)))
  rcases Nat.lt_trichotomy (M47.ix (ls ++ [x]) x) ls.length with z | z | z
  · have := h2.1
    rw [List.getElem?_append_left z] at this
    exact absurd (List.mem_of_getElem? this) h
  · exact z
  · have := h2.2 _ z
    rw [List.getElem?_append_right (Nat.le_refl _), Nat.sub_self] at this
    exact absurd rfl this
theorem kn_put {ls : List (List Nat)} {kvs : List (Key × PyData)} {x : List Nat} (h : kn ls kvs) (hx : x ∉ ls) : kn (ls ++ [x]) (putD kvs (kS x) (pn ls.length)) := by
  refine ⟨Nat.le_trans (putD_length _ _ _) (by rw [List.length_append]; have := h.1; simp; omega), fun y => ?_⟩
  by_cases c : y = x
  · subst c
    rw [lookD_put_same, if_pos (List.mem_append_right _ (List.mem_singleton.mpr rfl)), ix_new hx]
  · rw [lookD_put_other _ _ _ _ (fun z => c (kS_inj.mp z).symm), h.2 y]
    by_cases hy : y ∈ ls
    · rw [if_pos hy, if_pos (List.mem_append_left _ hy), ix_old hy]
    · rw [if_neg hy, if_neg (fun z => (List.mem_append.mp z).elim hy (fun z => c (List.mem_singleton.mp z)))]
def R_listed (ds : List PyData) (r : PyData) : Prop := ∃ w : List Nat, w.length ≤ 1000 ∧ ds = [pS w] ∧ r = .tuple ((M47.lz [[]] [] w).map pD)
abbrev s_listed : Stmt := topS 5
abbrev n_listed : List Str := ["word", "numbers", "found", "part", "letter"]
theorem sc_listed : FnScope n_listed ["word"] (defScope s_listed) := ⟨rfl, rfl, rfl, by decide +kernel, rfl, by decide +kernel, by decide +kernel⟩
theorem ok_listed (T : Bl mg) (D : Def K mg "listed" "listed" s_listed ["word"]) : Has P w K mg base 1 "listed" ["word"] (spP K R_listed) := by
  refine def_P D sc_listed (fun ds r ⟨_, _, e, _⟩ => by rw [e]; rfl) fun f cdv A outer s H E hr => ⟨_, (pss_cons (ps_set (i := 1) sc_listed.nd rfl (Or.inl rfl) (pe_disp (pps_cons pe_str pe_int pps_nil) (by rfl) (by rfl) (List.cons_ne_nil _ _) (by decide)))
    (pss_cons (ps_set (i := 2) sc_listed.nd rfl (Or.inl rfl) (pe_lst pa_nil))
    (pss_cons (ps_set (i := 3) sc_listed.nd rfl (Or.inl rfl) pe_str)
    (pss_cons (ps_for PassesOwn.never rfl (pi_str (pv 0)) (pg_name (i := 4) sc_listed.nd rfl (Or.inl rfl))
      (pss_one (ps_if (pt_cmp (pc_din (hu_of hr) (pe_op (op_addU (K := K)) (pv 3) (pv 4)) (pv 1)))
        (pss_one (ps_set (i := 3) sc_listed.nd rfl (Or.inl rfl) (pe_op (op_addU (K := K)) (pv 3) (pv 4))))
        (pss_cons (ps_expr (pe_bm PySem.F.plainAttrs_list PySem.F.slot_list_append PySem.F.type_list_append mt_append (pv 2) (pa_cons (pe_tup (pa_cons (pe_dget (hu_of hr) (pv 1) (pv 3) (fun _ _ => rfl)) (pa_cons (pv 4) pa_nil))) pa_nil)))
        (pss_cons (ps_dput (hu_of hr) (pv 1) (pe_op (op_addU (K := K)) (pv 3) (pv 4)) (pe_callB (call_lenU (K := K) rfl) (by rfl) T.b_len PySem.boot_len (pa_cons (pv 2) pa_nil)) rfl)
        (pss_one (ps_set (i := 3) sc_listed.nd rfl (Or.inl rfl) pe_str)))))))
    (pss_cons (ps_if (pt_cmpR (op_neU (K := K) rfl hr.units) (pv 3) pe_str (nomark _))
      (pss_one (ps_expr (pe_bm PySem.F.plainAttrs_list PySem.F.slot_list_append PySem.F.type_list_append mt_append (pv 2) (pa_cons (pe_tup (pa_cons (pe_dget (hu_of hr) (pv 1) (pv 3) (fun _ _ => rfl)) (pa_cons pe_str pa_nil))) pa_nil))))
      pss_nil)
    (pss_one (ps_ret (pe_callTy (call_tupU (K := K) rfl) (by rfl) T.b_tuple (by decide +kernel) (pa_cons (pv 2) pa_nil))))))))), fun ds r hR => ?_⟩
  obtain ⟨w, h1, rfl, rfl⟩ := hR
  refine sw_seq (sw_asgD1 (k := kS []) ?_)
  refine sw_seq (sw_asgN (nw_lst (AVs.ew av_nil ⟨[], rfl, by decide, ?_⟩)))
  refine sw_seq (sw_asgE (ev_txt (l := []) (by decide +kernel)) ?_)
  refine sw_midL (fun S' => ∃ ls part kvs acc, (kn ls kvs ∧ part ∈ ls ∧ acc.length ≤ w.length ∧ acc ++ M47.lz ls part [] = M47.lz [[]] [] w) ∧ S' = ⟨[some (dS w), some (.o 0), some (.o 1), some (dS part), none], [.k kvs, .l (acc.map pD)]⟩) ?_ ?_
  · refine sw_forL (js := [4]) (fun i S' => ∃ ls part kvs acc, (kn ls kvs ∧ part ∈ ls ∧ ls[0]? = some [] ∧ acc.length ≤ i ∧ part.length ≤ i ∧ ls.length = acc.length + 1 ∧ acc ++ M47.lz ls part (w.drop i) = M47.lz [[]] [] w) ∧ S' = ⟨[some (dS w), some (.o 0), some (.o 1), some (dS part), none], [.k kvs, .l (acc.map pD)]⟩) (ei_str (ev_var rfl)) ⟨_, by walk_at "le", [[]], [], [(kS [], .int 0)], [], ⟨⟨Nat.le_refl _, fun x => ?_⟩, List.mem_cons_self, rfl, Nat.le_refl _, Nat.le_refl _, rfl, rfl⟩, rfl⟩ ?_ ?_
    · rw [lookD_cons, lookD_nil]
      by_cases c : x = []
      · subst c; rw [if_pos rfl, if_pos List.mem_cons_self]; rfl
      · rw [if_neg (fun z => c (kS_inj.mp z).symm), if_neg (fun z => c (List.mem_singleton.mp z))]
    · rintro i d S' hd ⟨ls, part, kvs, acc, ⟨hk, hp, hls0, ha, hpl, hll, he⟩, rfl⟩
      obtain ⟨c, hc, rfl⟩ := lst_at hd
      have hi := (List.getElem?_eq_some_iff.mp hc).1
      have hdr : w.drop i = c :: w.drop (i + 1) := by rw [List.drop_eq_getElem_cons hi, (List.getElem?_eq_some_iff.mp hc).2]
      rw [hdr, M47.lz] at he
      refine gw_name ?_
      refine sw_ifE (tv_B (ev_din (k := kS (part ++ [c])) (j := 0) rfl rfl (ev_op (ev_var rfl) (ev_var rfl) (rb_addS (by simp; omega))))) (fun hb => ?_) (fun hb => ?_)
      · rw [hk.2] at hb
        have hm : part ++ [c] ∈ ls := by
          apply Classical.byContradiction
          intro z
          rw [if_neg z] at hb; cases hb
        rw [if_pos hm] at he
        exact sw_asgE (ev_op (ev_var rfl) (ev_var rfl) (rb_addS (by simp; omega))) ⟨_, by walk_at "le", ls, part ++ [c], kvs, acc, ⟨hk, hm, hls0, by omega, by rw [List.length_append]; simp; omega, hll, he⟩, rfl⟩
      · rw [hk.2] at hb
        have hm : part ++ [c] ∉ ls := fun z => by rw [if_pos z] at hb; cases hb
        rw [if_neg hm] at he
        refine sw_seq (sw_app (j := 1) rfl rfl (EV.ew (ev_tup (ds := [pn (M47.ix ls part), pS [c]]) (av_cons (ev_dget (k := kS part) (j := 0) rfl rfl (ev_var rfl) (by rw [hk.2, if_pos hp])) (av_cons (ev_var rfl) av_nil))) ⟨_, _, rfl, rfl, by rw [List.length_map]; omega, ?_⟩))
        refine sw_seq (sw_dput (j := 0) rfl (EV.ew (ev_cb (av_cons (ev_var rfl) av_nil) (ra_lenO rfl)) (EV.ew (ev_op (ev_var rfl) (ev_var rfl) (rb_addS (by simp; omega))) ⟨pn ls.length, kS (part ++ [c]), kvs, ?_, rfl, rfl, by have := hk.1; omega, ?_⟩)))
        · rw [List.length_append, List.length_map, hll]; rfl
        refine sw_asgE (ev_txt (l := []) (by decide +kernel)) ⟨_, ?_, ls ++ [part ++ [c]], [], putD kvs (kS (part ++ [c])) (pn ls.length), acc ++ [(M47.ix ls part, [c])], ⟨kn_put hk hm, List.mem_append_left _ (List.mem_of_getElem? hls0), by rw [List.getElem?_append_left (by omega)]; exact hls0, by rw [List.length_append]; simp; omega, by simp, by rw [List.length_append, List.length_append, hll]; simp, by rw [← he]; simp⟩, rfl⟩
        rw [List.map_append]
        walk_at "le"
    · rintro S' ⟨ls, part, kvs, acc, ⟨hk, hp, hls0, ha, hpl, hll, he⟩, rfl⟩
      rw [List.length_map] at ha he
      rw [List.drop_of_length_le (Nat.le_refl _)] at he
      exact ⟨_, Le.refl _, ls, part, kvs, acc, ⟨hk, hp, ha, he⟩, rfl⟩
  rintro S' ⟨ls, part, kvs, acc, ⟨hk, hp, ha, he⟩, rfl⟩
  rw [M47.lz] at he
  by_cases c : part = []
  · subst c
    rw [if_pos rfl, List.append_nil] at he
    refine sw_seq (sw_ifF (tv_test (ev_op (ev_var rfl) (ev_txt (l := []) (by decide +kernel)) rb_neS)) (by simp) (sw_next ?_))
    exact sw_retE (ev_cb (av_cons (ev_var rfl) av_nil) (ra_tupO rfl)) (by rw [he])
  · rw [if_neg c] at he
    refine sw_seq (sw_ifT (tv_test (ev_op (ev_var rfl) (ev_txt (l := []) (by decide +kernel)) rb_neS)) (by rw [decide_eq_false c]; rfl) (sw_app (j := 1) rfl rfl (EV.ew (ev_tup (ds := [pn (M47.ix ls part), pS []]) (av_cons (ev_dget (k := kS part) (j := 0) rfl rfl (ev_var rfl) (by rw [hk.2, if_pos hp])) (av_cons (ev_txt (l := []) (by decide +kernel)) av_nil))) ⟨_, _, rfl, rfl, by rw [List.length_map]; omega, ?_⟩)))
    exact sw_retE (ev_cb (av_cons (ev_var rfl) av_nil) (ra_tupO rfl)) (by rw [← he, List.map_append]; rfl)
end
end LW
set_option Elab.async false
set_option pp.maxSteps 1200
set_option linter.all false
set_option maxRecDepth 100000
set_option maxHeartbeats 4000000
namespace LW
open PySem PySem.Spec PyProof.Rows L2 D2
local macro_rules | `(tactic| walk_at "le") => `(tactic| (refine ⟨?_, rfl⟩; repeat (first | exact LeS.nil | apply LeS.skip | apply LeS.same)))
local macro_rules | `(tactic| walk_at "sd") => `(tactic| (first | assumption | omega | (simp only [List.length_append, List.length_take, List.length_drop, List.length_reverse, List.length_cons, List.length_nil, D2.rep_length]; omega)))
section
variable {P : Program} {w : World} {K : PySem.W.Frag} {mg : Str → Option Value} {base : Heap}
/-! ### what the law itself finds -/
def R__law_pairs (ds : List PyData) (r : PyData) : Prop := ∃ w : List Nat, w.length ≤ 1000 ∧ ds = [pS w] ∧ r = .tuple ((M47.lz [[]] [] w).map pD)
abbrev s__law_pairs : Stmt := topS 11
abbrev n__law_pairs : List Str := ["word", "parts", "found", "at", "turn", "sizes", "part", "size"]
theorem sc__law_pairs : FnScope n__law_pairs ["word"] (defScope s__law_pairs) := ⟨rfl, rfl, rfl, by decide +kernel, rfl, by decide +kernel, by decide +kernel⟩
theorem cut_at {w : List Nat} {a s : Nat} : (w.take (a + s)).drop a = (w.drop a).take s := by rw [List.drop_take, Nat.add_sub_cancel_left]
theorem ok__law_pairs (T : Bl mg) (D : Def K mg "_law_pairs" "_law_pairs" s__law_pairs ["word"]) : Has P w K mg base 1 "_law_pairs" ["word"] (spP K R__law_pairs) := by
  refine def_P D sc__law_pairs (fun ds r ⟨_, _, e, _⟩ => by rw [e]; rfl) fun f cdv A outer s H E hr => ⟨_, (pss_cons (ps_set (i := 1) sc__law_pairs.nd rfl (Or.inr rfl) (pe_lst (pa_cons pe_str pa_nil)))
    (pss_cons (ps_set (i := 2) sc__law_pairs.nd rfl (Or.inl rfl) (pe_lst pa_nil))
    (pss_cons (ps_set (i := 3) sc__law_pairs.nd rfl (Or.inr rfl) pe_int)
    (pss_cons (ps_for PassesOwn.never rfl (pi_range1 (by rfl) T.b_range (pa_cons (pe_callB (call_lenU (K := K) rfl) (by rfl) T.b_len PySem.boot_len (pa_cons (pv 0) pa_nil)) pa_nil)) (pg_name (i := 4) sc__law_pairs.nd rfl (Or.inl rfl))
      (pss_one (ps_if (pt_cmpR (op_ltU (K := K) rfl hr.units) (pv 3) (pe_callB (call_lenU (K := K) rfl) (by rfl) T.b_len PySem.boot_len (pa_cons (pv 0) pa_nil)) (nomark _))
        (pss_cons (ps_setLc (i := 5) (own := [("size", 7)]) (g := gName 7) rfl sc__law_pairs.nd rfl rfl (sw_true rfl rfl rfl (by decide +kernel)) (pi_range2 (by rfl) T.b_range (pa_cons pe_int (pa_cons (pe_op (op_addU (K := K)) (pe_op op_sub (pe_callB (call_lenU (K := K) rfl) (by rfl) T.b_len PySem.boot_len (pa_cons (pv 0) pa_nil)) (pv 3)) pe_int) pa_nil))) (blkOk_by (N := n__law_pairs) (sc := defScope s__law_pairs) (by decide +kernel)) (fun _ _ _ _ _ => (pg_name (i := 7) sc__law_pairs.nd rfl (Or.inl rfl))) (fun _ _ _ _ _ => (pts_one (pt_cmpR (op_notInU (K := K) rfl hr.units) (pe_slice (sl_U (K := K) rfl) (pv 0) (po_some (pv 3)) (po_some (pe_op (op_addU (K := K)) (pv 3) (pv 7)))) (pv 1) (by rfl)))) (fun _ _ _ _ _ => (pv 7)))
        (pss_one (ps_if (pt_cmpR (op_gtU (K := K) rfl hr.units) (pe_callB (call_lenU (K := K) rfl) (by rfl) T.b_len PySem.boot_len (pa_cons (pv 5) pa_nil)) pe_int (nomark _))
          (pss_cons (ps_set (i := 6) sc__law_pairs.nd rfl (Or.inl rfl) (pe_slice (sl_U (K := K) rfl) (pv 0) (po_some (pv 3)) (po_some (pe_op (op_addU (K := K)) (pv 3) (pe_ix (ix_U (K := K) rfl) (pv 5) pe_int (fun _ _ => rfl))))))
          (pss_cons (ps_expr (pe_bm PySem.F.plainAttrs_list PySem.F.slot_list_append PySem.F.type_list_append mt_append (pv 2) (pa_cons (pe_tup (pa_cons (pe_bm PySem.F.plainAttrs_list PySem.F.slot_list_index PySem.F.type_list_index (mt_indexK (K := K) rfl) (pv 1) (pa_cons (pe_slice (sl_U (K := K) rfl) (pv 6) po_none (po_some (pe_op op_sub (pe_callB (call_lenU (K := K) rfl) (by rfl) T.b_len PySem.boot_len (pa_cons (pv 6) pa_nil)) pe_int))) pa_nil)) (pa_cons (pe_ix (ix_U (K := K) rfl) (pv 6) (pe_op op_sub (pe_callB (call_lenU (K := K) rfl) (by rfl) T.b_len PySem.boot_len (pa_cons (pv 6) pa_nil)) pe_int) (fun _ _ => rfl)) pa_nil))) pa_nil)))
          (pss_cons (ps_expr (pe_bm PySem.F.plainAttrs_list PySem.F.slot_list_append PySem.F.type_list_append mt_append (pv 1) (pa_cons (pv 6) pa_nil)))
          (pss_one (ps_set (i := 3) sc__law_pairs.nd rfl (Or.inr rfl) (pe_op (op_addU (K := K)) (pv 3) (pe_callB (call_lenU (K := K) rfl) (by rfl) T.b_len PySem.boot_len (pa_cons (pv 6) pa_nil))))))))
          (pss_cons (ps_expr (pe_bm PySem.F.plainAttrs_list PySem.F.slot_list_append PySem.F.type_list_append mt_append (pv 2) (pa_cons (pe_tup (pa_cons (pe_bm PySem.F.plainAttrs_list PySem.F.slot_list_index PySem.F.type_list_index (mt_indexK (K := K) rfl) (pv 1) (pa_cons (pe_slice (sl_U (K := K) rfl) (pv 0) (po_some (pv 3)) po_none) pa_nil)) (pa_cons pe_str pa_nil))) pa_nil)))
          (pss_one (ps_set (i := 3) sc__law_pairs.nd rfl (Or.inr rfl) (pe_callB (call_lenU (K := K) rfl) (by rfl) T.b_len PySem.boot_len (pa_cons (pv 0) pa_nil))))))))
        pss_nil)))
    (pss_one (ps_ret (pe_callTy (call_tupU (K := K) rfl) (by rfl) T.b_tuple (by decide +kernel) (pa_cons (pv 2) pa_nil)))))))), fun ds r hR => ?_⟩
  obtain ⟨w, h1, rfl, rfl⟩ := hR
  refine sw_seq (sw_asgN (nw_lst (AVs.ew (av_cons (ev_txt (l := []) (by decide +kernel)) av_nil) ⟨[pS []], rfl, (show 1 ≤ 1000000 by decide), ?_⟩)))
  refine sw_seq (sw_asgN (nw_lst (AVs.ew av_nil ⟨[], rfl, by decide, ?_⟩)))
  refine sw_seq (sw_asgE (ev_nat 0) ?_)
  refine sw_midL (fun S' => ∃ ls : List (List Nat), S' = ⟨[some (dS w), none, some (.o 1), none, none, none, none, none], [.l (ls.map pS), .l ((M47.lz [[]] [] w).map pD)]⟩) ?_ ?_
  · refine sw_forL (js := [4]) (fun i S' => ∃ (ls : List (List Nat)) (a : Nat) (acc : List (Nat × List Nat)), (a ≤ w.length ∧ (i ≤ a ∨ a = w.length) ∧ [] ∈ ls ∧ acc.length ≤ i ∧ ls.length ≤ i + 1 ∧ acc ++ M47.lz ls [] (w.drop a) = M47.lz [[]] [] w) ∧ S' = ⟨[some (dS w), some (.o 0), some (.o 1), some (dn a), none, none, none, none], [.l (ls.map pS), .l (acc.map pD)]⟩) (ei_rngN (av_cons (ev_cb (av_cons (ev_var rfl) av_nil) (ra_lenSN (by omega))) av_nil) (by omega)) ⟨_, by walk_at "le", [[]], 0, [], ⟨Nat.zero_le _, .inl (Nat.le_refl _), List.mem_cons_self, Nat.le_refl _, Nat.le_refl _, rfl⟩, rfl⟩ ?_ ?_
    · rintro i d S' hd ⟨ls, a, acc, ⟨ha, hp, h0, hacc, hll, he⟩, rfl⟩
      obtain ⟨hi, rfl⟩ := rngN_at hd
      refine gw_name ?_
      refine sw_ifE (tv_test (ev_op (ev_var rfl) (ev_cb (av_cons (ev_var rfl) av_nil) (ra_lenSN (by omega))) rb_ltN)) (fun hb => ?_) (fun hb => ?_)
      · have hlt := of_decide_eq_true hb
        have hdl : (w.drop a).length = w.length - a := List.length_drop
        refine sw_seq (sw_asgE (EV.is (a' := dL (gath (fun k => !decide ((w.drop a).take (1 + k) ∈ ls)) (fun k => pn (1 + k)) (w.length - a + 1 - 1))) (ev_lc (js := [7]) (fun k => !decide ((w.drop a).take (1 + k) ∈ ls)) (fun k => pn (1 + k)) (ei_rng2N (av_cons (ev_nat 1) (av_cons (ev_op (ev_op (ev_cb (av_cons (ev_var rfl) av_nil) (ra_lenSN (by omega))) (ev_var rfl) (rb_subN (by omega))) (ev_nat 1) rb_addN) av_nil)) (by omega) (by omega)) (by simp; omega) (by simp) fun k d hd => ?_) ?_) ?_)
        · obtain ⟨hk, rfl⟩ := rng2N_at hd
          refine gw_name ⟨rfl, tv_test (ev_op (EV.is (ev_sl (ev_var rfl) (ov_some (ev_var rfl)) (ov_some (ev_op (ev_var rfl) (ev_var rfl) rb_addN)) (rsl_midN (by omega))) (by rw [cut_at])) (ev_var rfl) (rb_ninOS rfl)), fun _ => ev_var rfl⟩
        · rw [List.length_map, List.length_range]
        by_cases c : ∃ s, 1 ≤ s ∧ s ≤ w.length - a ∧ (w.drop a).take s ∉ ls ∧ ∀ t, 1 ≤ t → t < s → (w.drop a).take t ∈ ls
        · obtain ⟨s, s1, s2, s3, s4⟩ := c
          have hg : (gath (fun k => !decide ((w.drop a).take (1 + k) ∈ ls)) (fun k => pn (1 + k)) (w.length - a + 1 - 1))[0]? = some (pn s) := by
            rw [gath_head (k := s - 1) (by omega) (by rw [show 1 + (s - 1) = s by omega, decide_eq_false s3]; rfl) fun j hj => by rw [decide_eq_true (s4 (1 + j) (by omega) (by omega))]; rfl]
            congr 2; omega
          have hgl := (List.getElem?_eq_some_iff.mp hg).1
          generalize gath (fun k => !decide ((w.drop a).take (1 + k) ∈ ls)) (fun k => pn (1 + k)) (w.length - a + 1 - 1) = G at hg hgl
          have hz := M47.lz_new (parts := ls) s1 (by omega) s3 s4
          have hpl : ((w.drop a).take s).length = s := by rw [List.length_take]; omega
          have hpt : ((w.drop a).take s).take (s - 1) = (w.drop a).take (s - 1) := by rw [List.take_take, Nat.min_eq_left (by omega)]
          have hgd : ((w.drop a).take s).getD (s - 1) 0 = (w.drop a).getD (s - 1) 0 := by rw [List.getD_eq_getElem?_getD, List.getD_eq_getElem?_getD, List.getElem?_take_of_lt (by omega)]
          have hmem : (w.drop a).take (s - 1) ∈ ls := by
            by_cases z : s = 1
            · subst z; exact h0
            · exact s4 (s - 1) (by omega) (by omega)
          have hix := M47.ix_at hmem
          refine sw_ifT (tv_test (ev_op (ev_cb (av_cons (ev_var rfl) av_nil) ra_lenL) (ev_nat 0) rb_gt)) (decide_eq_true (by omega)) ?_
          refine sw_seq (sw_asgE (EV.is (ev_sl (ev_var rfl) (ov_some (ev_var rfl)) (ov_some (ev_op (ev_var rfl) (ev_op (ev_var rfl) (ev_nat 0) (rb_ixLN hg)) rb_addN)) (rsl_midN (by omega))) (by rw [cut_at])) ?_)
          refine sw_seq (sw_app (j := 1) rfl rfl (EV.ew (ev_tup (ds := [pn (M47.ix ls ((w.drop a).take (s - 1))), pS [(w.drop a).getD (s - 1) 0]]) (av_cons (ev_bm (ev_var rfl) (ty_own rfl) (av_cons (EV.is (ev_sl (ev_var rfl) ov_none (ov_some (ev_op (ev_cb (av_cons (ev_var rfl) av_nil) (ra_lenSN (by omega))) (ev_nat 1) (rb_subN (by omega)))) (rsl_toN (by omega))) (by rw [hpl, hpt])) av_nil) (rm_indexOS rfl hix.1 hix.2)) (av_cons (EV.is (ev_op (ev_var rfl) (ev_op (ev_cb (av_cons (ev_var rfl) av_nil) (ra_lenSN (by omega))) (ev_nat 1) (rb_subN (by omega))) (rb_ixSN (by omega) (by omega))) (by rw [hpl, hgd])) av_nil))) ⟨_, _, rfl, rfl, by rw [List.length_map]; omega, ?_⟩))
          refine sw_seq (sw_app (j := 0) rfl rfl (EV.ew (ev_var rfl) ⟨_, _, rfl, rfl, by rw [List.length_map]; omega, ?_⟩))
          refine sw_asgE (ev_op (ev_var rfl) (ev_cb (av_cons (ev_var rfl) av_nil) (ra_lenSN (by omega))) rb_addN) ⟨_, ?_, ls ++ [(w.drop a).take s], a + s, acc ++ [(M47.ix ls ((w.drop a).take (s - 1)), [(w.drop a).getD (s - 1) 0])], ⟨by omega, .inl (by omega), List.mem_append_left _ h0, by rw [List.length_append]; simp; omega, by rw [List.length_append]; simp; omega, by rw [← he, hz, List.drop_drop]; simp⟩, rfl⟩
          rw [List.map_append, List.map_append, hpl]
          walk_at "le"
        · have hk : ∀ t, 1 ≤ t → t ≤ w.length - a → (w.drop a).take t ∈ ls := fun t => Nat.strongRecOn t fun t ih t1 t2 => Classical.byContradiction fun z => c ⟨t, t1, t2, z, fun u u1 u2 => ih u u2 u1 (by omega)⟩
          have hg : gath (fun k => !decide ((w.drop a).take (1 + k) ∈ ls)) (fun k => pn (1 + k)) (w.length - a + 1 - 1) = [] := by
            unfold gath
            rw [List.map_eq_nil_iff, List.filter_eq_nil_iff]
            intro k hk2
            rw [List.mem_range] at hk2
            rw [decide_eq_true (hk (1 + k) (by omega) (by omega))]; simp
          rw [hg]
          have hne : w.drop a ≠ [] := fun z => by
            rw [z] at hdl
            simp at hdl
            omega
          have hz := M47.lz_end (parts := ls) hne fun t t1 t2 => hk t t1 (by omega)
          have hmem : w.drop a ∈ ls := by
            have := hk (w.length - a) (by omega) (Nat.le_refl _)
            rwa [List.take_of_length_le (by omega)] at this
          have hix := M47.ix_at hmem
          refine sw_ifF (tv_test (ev_op (ev_cb (av_cons (ev_var rfl) av_nil) ra_lenL) (ev_nat 0) rb_gt)) rfl ?_
          refine sw_seq (sw_app (j := 1) rfl rfl (EV.ew (ev_tup (ds := [pn (M47.ix ls (w.drop a)), pS []]) (av_cons (ev_bm (ev_var rfl) (ty_own rfl) (av_cons (ev_sl (ev_var rfl) (ov_some (ev_var rfl)) ov_none (rsl_fromN (by omega))) av_nil) (rm_indexOS rfl hix.1 hix.2)) (av_cons (ev_txt (l := []) (by decide +kernel)) av_nil))) ⟨_, _, rfl, rfl, by rw [List.length_map]; omega, ?_⟩))
          refine sw_asgE (ev_cb (av_cons (ev_var rfl) av_nil) (ra_lenSN (by omega))) ⟨_, ?_, ls, w.length, acc ++ [(M47.ix ls (w.drop a), [])], ⟨Nat.le_refl _, .inr rfl, h0, by rw [List.length_append]; simp; omega, by omega, by rw [← he, hz, List.drop_of_length_le (Nat.le_refl _), M47.lz, if_pos rfl, List.append_nil]⟩, rfl⟩
          rw [List.map_append]
          walk_at "le"
      · have hn : a = w.length := by have := of_decide_eq_false hb; omega
        refine sw_next ⟨_, by walk_at "le", ls, a, acc, ⟨ha, .inr hn, h0, by omega, by omega, he⟩, rfl⟩
    · rintro S' ⟨ls, a, acc, ⟨ha, hp, h0, hacc, hll, he⟩, rfl⟩
      rw [List.length_map, List.length_range] at hp
      have hn : a = w.length := by omega
      subst hn
      rw [List.drop_of_length_le (Nat.le_refl _), M47.lz, if_pos rfl, List.append_nil] at he
      rw [he]
      exact ⟨_, by walk_at "le", ls, rfl⟩
  · rintro S' ⟨ls, rfl⟩
    exact sw_retE (ev_cb (av_cons (ev_var rfl) av_nil) (ra_tupO rfl)) rfl
end
end LW
set_option Elab.async false
set_option pp.maxSteps 1200
set_option linter.all false
set_option maxRecDepth 100000
set_option maxHeartbeats 4000000
namespace LW
open PySem PySem.Spec PyProof.Rows L2 D2
local macro_rules | `(tactic| walk_at "le") => `(tactic| (refine ⟨?_, rfl⟩; repeat (first | exact LeS.nil | apply LeS.skip | apply LeS.same)))
local macro_rules | `(tactic| walk_at "sd") => `(tactic| (first | assumption | omega | (simp only [List.length_append, List.length_take, List.length_drop, List.length_reverse, List.length_cons, List.length_nil, D2.rep_length]; omega)))
section
variable {P : Program} {w : World} {K : PySem.W.Frag} {mg : Str → Option Value} {base : Heap}
/-! ### places, letters -/
def plB : PyData → Nat → Bool
  | .int i, m => decide (0 ≤ i) && decide (i ≤ (m : Int))
  | _, _ => false
def R_is_place (ds : List PyData) (r : PyData) : Prop := ∃ (v : PyData) (m : Nat), ((∃ i, v = .int i) ∨ (∃ b, v = .bool b) ∨ ∃ z, v = .str z) ∧ ds = [v, pn 0, pn m] ∧ r = .bool (plB v m)
abbrev s_is_place : Stmt := topS 3
abbrev n_is_place : List Str := ["value", "least", "most"]
theorem sc_is_place : FnScope n_is_place ["value", "least", "most"] (defScope s_is_place) := ⟨rfl, rfl, rfl, by decide +kernel, rfl, by decide +kernel, by decide +kernel⟩
theorem ok_is_place (T : Bl mg) (D : Def K mg "is_place" "is_place" s_is_place ["value", "least", "most"]) : Has P w K mg base 1 "is_place" ["value", "least", "most"] (spP K R_is_place) := by
  refine def_P D sc_is_place (fun ds r ⟨_, _, _, e, _⟩ => by rw [e]; rfl) fun f cdv A outer s H E hr => ⟨_, (pss_one (ps_ret (pe_and (pe_callB (call_isiU (K := K) rfl) (by rfl) T.b_isinstance (by decide +kernel) (pa_cons (pv 0) (pa_cons (pe_bltn (v := .ty "int") (by rfl) T.b_int (by decide +kernel) rfl) pa_nil))) (pe_and (pe_not (pe_callB (call_isiU (K := K) rfl) (by rfl) T.b_isinstance (by decide +kernel) (pa_cons (pv 0) (pa_cons (pe_bltn (v := .ty "bool") (by rfl) T.b_bool (by decide +kernel) rfl) pa_nil)))) (pe_one (pe_chain (op_leU (K := K) rfl hr.units) (op_leU (K := K) rfl hr.units) (pv 1) (pv 0) (pv 2))))))), fun ds r hR => ?_⟩
  obtain ⟨v, m, hv, rfl, rfl⟩ := hR
  rcases hv with ⟨i, rfl⟩ | ⟨b, rfl⟩ | ⟨z, rfl⟩
  · exact sw_retE (ev_and (b := true) (ev_isi (ev_var rfl) (by rfl)) fun _ => ev_and (b := !false) (ev_not (ev_isi (ev_var rfl) (by rfl))) fun _ => ev_chain (ev_var rfl) (ev_var rfl) rb_le (fun _ => ev_var rfl) fun _ => rb_le) rfl
  · exact sw_retE (ev_and (b := true) (ev_isi (ev_var rfl) (by rfl)) fun _ => ev_and (b := !true) (c := false) (ev_not (ev_isi (ev_var rfl) (by rfl))) fun h => by cases h) rfl
  · exact sw_retE (ev_and (b := false) (c := false) (ev_isi (ev_var rfl) (by rfl)) fun h => by cases h) rfl
def ltB : PyData → Bool
  | .str z => decide (z.cps.size = 1) && decide (z.cps.toList.headD 0 ∈ (List.range 26).map fun i => 97 + i)
  | _ => false
def R_is_letter (ds : List PyData) (r : PyData) : Prop := ∃ v : PyData, ((∃ i, v = .int i) ∨ v = .none ∨ ∃ l : List Nat, l.length ≤ 1000 ∧ v = pS l) ∧ ds = [v] ∧ r = .bool (ltB v)
abbrev s_is_letter : Stmt := topS 4
abbrev n_is_letter : List Str := ["value"]
theorem sc_is_letter : FnScope n_is_letter ["value"] (defScope s_is_letter) := ⟨rfl, rfl, rfl, by decide +kernel, rfl, by decide +kernel, by decide +kernel⟩
theorem ok_is_letter (T : Bl mg) (D : Def K mg "is_letter" "is_letter" s_is_letter ["value"]) : Has P w K mg base 1 "is_letter" ["value"] (spP K R_is_letter) := by
  refine def_P D sc_is_letter (fun ds r ⟨_, _, e, _⟩ => by rw [e]; rfl) fun f cdv A outer s H E hr => ⟨_, (pss_one (ps_ret (pe_and (pe_callB (call_isiU (K := K) rfl) (by rfl) T.b_isinstance (by decide +kernel) (pa_cons (pv 0) (pa_cons (pe_bltn (v := .ty "str") (by rfl) T.b_str (by decide +kernel) rfl) pa_nil))) (pe_and (pe_cmpR (op_eqU (K := K) rfl hr.units) (pe_callB (call_lenU (K := K) rfl) (by rfl) T.b_len PySem.boot_len (pa_cons (pv 0) pa_nil)) pe_int (nomark _)) (pe_one (pe_cmpR (op_inU (K := K) rfl hr.units) (pv 0) (pe_gS (by rfl) T.c_LETTERS) (by rfl))))))), fun ds r hR => ?_⟩
  obtain ⟨v, hv, rfl, rfl⟩ := hR
  rcases hv with ⟨i, rfl⟩ | rfl | ⟨l, hl, rfl⟩
  · exact sw_retE (ev_and (b := false) (c := false) (ev_isi (ev_var rfl) (by rfl)) fun h => by cases h) rfl
  · exact sw_retE (ev_and (b := false) (c := false) (ev_isi (ev_var rfl) (by rfl)) fun h => by cases h) rfl
  · by_cases c : l.length = 1
    · obtain ⟨x, rfl⟩ : ∃ x, l = [x] := by
        cases l with
        | nil => simp at c
        | cons x r => cases r with
          | nil => exact ⟨x, rfl⟩
          | cons y z => simp at c
      refine sw_retE (ev_and (b := true) (ev_isi (ev_var rfl) (by rfl)) fun _ => ev_and (ev_op (ev_cb (av_cons (ev_var rfl) av_nil) (ra_lenSN (by omega))) (ev_nat 1) rb_eqN) fun _ => ev_op (ev_var rfl) (ev_txt (l := (List.range 26).map fun i => 97 + i) (by decide +kernel)) rb_inC) ?_
      simp [ltB]
    · refine sw_retE (ev_and (b := true) (ev_isi (ev_var rfl) (by rfl)) fun _ => ev_and (b := false) (c := false) (EV.is (ev_op (ev_cb (av_cons (ev_var rfl) av_nil) (ra_lenSN (by omega))) (ev_nat 1) rb_eqN) (by rw [decide_eq_false c])) fun h => by cases h) ?_
      simp [ltB, c]
end
end LW
set_option Elab.async false
set_option pp.maxSteps 1200
set_option linter.all false
set_option maxRecDepth 100000
set_option maxHeartbeats 4000000
namespace LW
open PySem PySem.Spec PyProof.Rows L2 D2
local macro_rules | `(tactic| walk_at "le") => `(tactic| (refine ⟨?_, rfl⟩; repeat (first | exact LeS.nil | apply LeS.skip | apply LeS.same)))
local macro_rules | `(tactic| walk_at "sd") => `(tactic| (first | assumption | omega | (simp only [List.length_append, List.length_take, List.length_drop, List.length_reverse, List.length_cons, List.length_nil, D2.rep_length]; omega)))
section
variable {P : Program} {w : World} {K : PySem.W.Frag} {mg : Str → Option Value} {base : Heap}
theorem flat_le : ∀ {l : List (List Nat)} {b : Nat}, (∀ x, x ∈ l → x.length ≤ b) → l.flatten.length ≤ l.length * b
  | [], b, _ => by simp
  | a :: r, b, h => by
    have := flat_le (l := r) (b := b) fun x hx => h x (List.mem_cons_of_mem _ hx)
    have h2 := h a List.mem_cons_self
    rw [List.flatten_cons, List.length_append, List.length_cons, Nat.add_mul, Nat.one_mul]
    omega
/-- what the pairs make, as texts -/
theorem good_drop : ∀ {ps : List (Nat × List Nat)} {n i : Nat}, M47.good n ps → M47.good (n + i) (ps.drop i)
  | [], n, i, _ => by rw [List.drop_nil]; trivial
  | p :: r, n, 0, h => h
  | p :: r, n, i + 1, h => by
    have := good_drop (i := i) h.2.2
    rw [List.drop_succ_cons]
    rwa [show n + 1 + i = n + (i + 1) by omega] at this
theorem good_len {ps : List (Nat × List Nat)} {n : Nat} {p : Nat × List Nat} {r : List (Nat × List Nat)} (h : M47.good n (p :: r)) : p.1 ≤ n ∧ p.2.length ≤ 1 := by
  refine ⟨h.1, ?_⟩
  rcases h.2.1 with ⟨c, e, _⟩ | ⟨e, _⟩
  · rw [e]; exact Nat.le_refl _
  · rw [e]; exact Nat.zero_le _
def R__law_word_of (ds : List PyData) (r : PyData) : Prop := ∃ ps : List (Nat × List Nat), ps.length ≤ 200 ∧ M47.good 0 ps ∧ ds = [.list (ps.map pD)] ∧ r = pS (M47.un [[]] ps).flatten
abbrev s__law_word_of : Stmt := topS 12
abbrev n__law_word_of : List Str := ["pairs", "parts", "number", "letter"]
theorem sc__law_word_of : FnScope n__law_word_of ["pairs"] (defScope s__law_word_of) := ⟨rfl, rfl, rfl, by decide +kernel, rfl, by decide +kernel, by decide +kernel⟩
theorem ok__law_word_of (T : Bl mg) (D : Def K mg "_law_word_of" "_law_word_of" s__law_word_of ["pairs"]) : Has P w K mg base 1 "_law_word_of" ["pairs"] (spP K R__law_word_of) := by
  refine def_P D sc__law_word_of (fun ds r ⟨_, _, _, e, _⟩ => by rw [e]; rfl) fun f cdv A outer s H E hr => ⟨_, (pss_cons (ps_set (i := 1) sc__law_word_of.nd rfl (Or.inl rfl) (pe_lst (pa_cons pe_str pa_nil)))
    (pss_cons (ps_for PassesOwn.never rfl (pi_listK (K := K) rfl (pv 0)) (pg_tup rfl (pgs_cons (pg_name (i := 2) sc__law_word_of.nd rfl (Or.inl rfl)) (pgs_cons (pg_name (i := 3) sc__law_word_of.nd rfl (Or.inl rfl)) pgs_nil)))
      (pss_one (ps_expr (pe_bm PySem.F.plainAttrs_list PySem.F.slot_list_append PySem.F.type_list_append mt_append (pv 1) (pa_cons (pe_op (op_addU (K := K)) (pe_ix (ix_U (K := K) rfl) (pv 1) (pv 2) (fun _ _ => rfl)) (pv 3)) pa_nil)))))
    (pss_one (ps_ret (pe_joinK (K := K) rfl pe_str (pv 1)))))), fun ds r hR => ?_⟩
  obtain ⟨ps, h1, hg, rfl, rfl⟩ := hR
  refine sw_seq (sw_asgN (nw_lst (AVs.ew (av_cons (ev_txt (l := []) (by decide +kernel)) av_nil) ⟨[pS []], rfl, (show 1 ≤ 1000000 by decide), ?_⟩)))
  refine sw_midL (fun S' => ∃ ls : List (List Nat), (ls = M47.un [[]] ps ∧ ls.length ≤ 201 ∧ ∀ x, x ∈ ls → x.length ≤ 200) ∧ S' = ⟨[none, some (.o 0), none, none], [.l (ls.map pS)]⟩) ?_ ?_
  · refine sw_forL (js := [2, 3]) (fun i S' => ∃ ls : List (List Nat), (M47.un ls (ps.drop i) = M47.un [[]] ps ∧ ls.length = i + 1 ∧ ∀ x, x ∈ ls → x.length ≤ i) ∧ S' = ⟨[some (dL (ps.map pD)), some (.o 0), none, none], [.l (ls.map pS)]⟩) (ei_list (ev_var rfl)) ⟨_, by walk_at "le", [[]], ⟨rfl, rfl, fun x hx => by rw [List.mem_singleton.mp hx]; exact Nat.le_refl _⟩, rfl⟩ ?_ ?_
    · rintro i d S' hd ⟨ls, ⟨he, hl, hb⟩, rfl⟩
      obtain ⟨p, hp, rfl⟩ := lst_at hd
      have hi := (List.getElem?_eq_some_iff.mp hp).1
      have hdr : ps.drop i = p :: ps.drop (i + 1) := by rw [List.drop_eq_getElem_cons hi, (List.getElem?_eq_some_iff.mp hp).2]
      have hgd := good_drop (i := i) hg
      rw [hdr] at hgd
      obtain ⟨g1, g2⟩ := good_len (ps := ps) hgd
      rw [hdr, M47.un] at he
      have hn : p.1 < ls.length := by omega
      have hgl : (ls.getD p.1 []).length ≤ i := hb _ (by rw [List.getD_eq_getElem?_getD, List.getElem?_eq_getElem hn]; exact List.getElem_mem hn)
      refine gw_tup2 ?_
      refine sw_app (j := 0) rfl rfl (EV.ew (ev_op (ev_op (ev_var rfl) (ev_var rfl) (rb_ixON rfl (d := pS (ls.getD p.1 [])) (by rw [List.getElem?_map, getD_some (d := []) hn]; rfl))) (ev_var rfl) (rb_addS (by omega))) ⟨_, _, rfl, rfl, by rw [List.length_map]; omega, ?_⟩)
      refine ⟨_, ?_, ls ++ [ls.getD p.1 [] ++ p.2], ⟨he, by rw [List.length_append, hl]; rfl, fun x hx => ?_⟩, rfl⟩
      · rw [List.map_append]; walk_at "le"
      · rcases List.mem_append.mp hx with z | z
        · have := hb x z; omega
        · rw [List.mem_singleton.mp z, List.length_append]; omega
    · rintro S' ⟨ls, ⟨he, hl, hb⟩, rfl⟩
      rw [List.length_map] at he hl hb
      rw [List.drop_of_length_le (Nat.le_refl _), M47.un] at he
      exact ⟨_, by walk_at "le", ls, ⟨he, by omega, fun x hx => by have := hb x hx; omega⟩, rfl⟩
  · rintro S' ⟨ls, ⟨he, hl, hb⟩, rfl⟩
    have := flat_le hb
    have h3 : ls.length * 200 ≤ 201 * 200 := Nat.mul_le_mul hl (Nat.le_refl _)
    exact sw_retE (ev_joinO (ev_txt (l := []) (by decide +kernel)) rfl rfl (by omega)) (by rw [he])
end
end LW
set_option Elab.async false
set_option pp.maxSteps 1200
set_option linter.all false
set_option maxRecDepth 100000
set_option maxHeartbeats 4000000
namespace LW
open PySem PySem.Spec PyProof.Rows L2 D2
local macro_rules | `(tactic| walk_at "le") => `(tactic| (refine ⟨?_, rfl⟩; repeat (first | exact LeS.nil | apply LeS.skip | apply LeS.same)))
local macro_rules | `(tactic| walk_at "sd") => `(tactic| (first | assumption | omega | (simp only [List.length_append, List.length_take, List.length_drop, List.length_reverse, List.length_cons, List.length_nil, D2.rep_length]; omega)))
section
variable {P : Program} {w : World} {K : PySem.W.Frag} {mg : Str → Option Value} {base : Heap}
/-- pairs that may stand at so-and-so many, of so many in all -/
def stp (t n : Nat) (p : Nat × List Nat) : Prop := p.1 ≤ n ∧ ((∃ c, p.2 = [c] ∧ 97 ≤ c ∧ c ≤ 122) ∨ (p.2 = [] ∧ n + 1 = t ∧ p.1 ≠ 0))
theorem good_stp : ∀ {ps : List (Nat × List Nat)} {n i : Nat} {p : Nat × List Nat}, M47.good n ps → ps[i]? = some p → stp (n + ps.length) (n + i) p
  | [], _, _, _, _, h => by simp at h
  | q :: r, n, 0, p, h, e => by
    rw [List.getElem?_cons_zero] at e
    cases e
    refine ⟨h.1, ?_⟩
    rcases h.2.1 with z | ⟨z1, z2, z3⟩
    · exact .inl z
    · exact .inr ⟨z1, by rw [z2]; rfl, z3⟩
  | q :: r, n, i + 1, p, h, e => by
    rw [List.getElem?_cons_succ] at e
    have := good_stp h.2.2 e
    rwa [show n + 1 + r.length = n + (q :: r).length by rw [List.length_cons]; omega, show n + 1 + i = n + (i + 1) by omega] at this
/-- none that may stand there -/
def odd (t n : Nat) (d : PyData) : Prop := (d = .none ∨ (∃ i, d = .int i) ∨ ∃ l, d = .list l) ∨ (∃ xs, d = .tuple xs ∧ xs.length ≠ 2) ∨
  (∃ a b, d = .tuple [a, b] ∧ ((∃ i, a = .int i) ∨ (∃ b, a = .bool b) ∨ ∃ z, a = .str z) ∧ plB a n = false) ∨
  (∃ (i : Int) (b : PyData), d = .tuple [.int i, b] ∧ plB (.int i) n = true ∧ ltB b = false ∧ ((∃ i, b = .int i) ∨ b = .none ∨ ∃ l : List Nat, l.length ≤ 1000 ∧ b = pS l) ∧ (PyData.eqv b (pS []) = false ∨ n + 1 < t ∨ i = 0))
def R_unlisted (ds : List PyData) (r : PyData) : Prop :=
  (∃ (es : List PyData) (ps : List (Nat × List Nat)), es.length ≤ 200 ∧ ps.length ≤ es.length ∧ (∀ i p, ps[i]? = some p → es[i]? = some (pD p) ∧ stp es.length i p) ∧ ds = [.tuple es] ∧
    ((ps.length = es.length ∧ r = if (M47.un [[]] ps).flatten.length ≤ 400 then pS (M47.un [[]] ps).flatten else .none) ∨ ((∃ d, es[ps.length]? = some d ∧ odd es.length ps.length d) ∧ r = .none))) ∨
  ((ds = [.none] ∨ ∃ l, ds = [.list l]) ∧ r = .none)
abbrev s_unlisted : Stmt := topS 6
abbrev n_unlisted : List Str := ["pairs", "parts", "at", "pair", "found"]
theorem sc_unlisted : FnScope n_unlisted ["pairs"] (defScope s_unlisted) := ⟨rfl, rfl, rfl, by decide +kernel, rfl, by decide +kernel, by decide +kernel⟩
theorem ok_unlisted (T : Bl mg) (D : Def K mg "unlisted" "unlisted" s_unlisted ["pairs"])
    (H_is_place : Has P w K mg base 1 "is_place" ["value", "least", "most"] (spP K R_is_place))
    (H_is_letter : Has P w K mg base 1 "is_letter" ["value"] (spP K R_is_letter)) : Has P w K mg base 2 "unlisted" ["pairs"] (spP K R_unlisted) := by
  obtain ⟨_, _, G_is_place, m_is_place, k_is_place, bd_is_place⟩ := H_is_place
  obtain ⟨_, _, G_is_letter, m_is_letter, k_is_letter, bd_is_letter⟩ := H_is_letter
  refine def_P D sc_unlisted (fun ds r h => by rcases h with ⟨_, _, _, _, _, e, _⟩ | ⟨e | ⟨_, e⟩, _⟩ <;> rw [e] <;> rfl) fun f cdv A outer s H E hr => ⟨_, (pss_cons (ps_if (pt_not (pt_val (pe_callB (call_isiU (K := K) rfl) (by rfl) T.b_isinstance (by decide +kernel) (pa_cons (pv 0) (pa_cons (pe_bltn (v := .ty "tuple") (by rfl) T.b_tuple (by decide +kernel) rfl) pa_nil)))))
      (pss_one (ps_ret pe_non))
      pss_nil)
    (pss_cons (ps_set (i := 1) sc_unlisted.nd rfl (Or.inl rfl) (pe_lst (pa_cons pe_str pa_nil)))
    (pss_cons (ps_for PassesOwn.never rfl (pi_enumT (K := K) rfl (by rfl) T.b_enumerate (pa_cons (pv 0) pa_nil)) (pg_tup rfl (pgs_cons (pg_name (i := 2) sc_unlisted.nd rfl (Or.inl rfl)) (pgs_cons (pg_name (i := 3) sc_unlisted.nd rfl (Or.inl rfl)) pgs_nil)))
      (pss_cons (ps_if (PW.pt (pw_or (pt_not (pt_val (pe_callB (call_isiU (K := K) rfl) (by rfl) T.b_isinstance (by decide +kernel) (pa_cons (pv 3) (pa_cons (pe_bltn (v := .ty "tuple") (by rfl) T.b_tuple (by decide +kernel) rfl) pa_nil))))) (pw_or (pt_cmpR (op_neU (K := K) rfl hr.units) (pe_callB (call_lenU (K := K) rfl) (by rfl) T.b_len PySem.boot_len (pa_cons (pv 3) pa_nil)) pe_int (nomark _)) (pw_or1 (pt_not (pt_val (pe_call G_is_place (hr.mono (by omega)) (by rfl) m_is_place k_is_place bd_is_place .nil pass0 (pa_cons (pe_ix (ix_U (K := K) rfl) (pv 3) pe_int (fun _ _ => rfl)) (pa_cons pe_int (pa_cons (pv 2) pa_nil))))))))))
        (pss_one (ps_ret pe_non))
        pss_nil)
      (pss_cons (ps_if (PW.pt (pw_and (pt_not (pt_val (pe_call G_is_letter (hr.mono (by omega)) (by rfl) m_is_letter k_is_letter bd_is_letter .nil pass0 (pa_cons (pe_ix (ix_U (K := K) rfl) (pv 3) pe_int (fun _ _ => rfl)) pa_nil)))) (pw_and1 (PW.pt (pw_or (pt_cmpR (op_neU (K := K) rfl hr.units) (pe_ix (ix_U (K := K) rfl) (pv 3) pe_int (fun _ _ => rfl)) pe_str (nomark _)) (pw_or (pt_cmpR (op_ltU (K := K) rfl hr.units) (pv 2) (pe_op op_sub (pe_callB (call_lenU (K := K) rfl) (by rfl) T.b_len PySem.boot_len (pa_cons (pv 0) pa_nil)) pe_int) (nomark _)) (pw_or1 (pt_cmpR (op_eqU (K := K) rfl hr.units) (pe_ix (ix_U (K := K) rfl) (pv 3) pe_int (fun _ _ => rfl)) pe_int (nomark _)))))))))
        (pss_one (ps_ret pe_non))
        pss_nil)
      (pss_one (ps_expr (pe_bm PySem.F.plainAttrs_list PySem.F.slot_list_append PySem.F.type_list_append mt_append (pv 1) (pa_cons (pe_op (op_addU (K := K)) (pe_ix (ix_U (K := K) rfl) (pv 1) (pe_ix (ix_U (K := K) rfl) (pv 3) pe_int (fun _ _ => rfl)) (fun _ _ => rfl)) (pe_ix (ix_U (K := K) rfl) (pv 3) pe_int (fun _ _ => rfl))) pa_nil)))))))
    (pss_cons (ps_set (i := 4) sc_unlisted.nd rfl (Or.inl rfl) (pe_joinK (K := K) rfl pe_str (pv 1)))
    (pss_one (ps_ret (pe_ifExp (pt_cmpR (op_leU (K := K) rfl hr.units) (pe_callB (call_lenU (K := K) rfl) (by rfl) T.b_len PySem.boot_len (pa_cons (pv 4) pa_nil)) (pe_gI (by rfl) T.c_MOST_LETTERS) (nomark _)) (pv 4) pe_non))))))), fun ds r hR => ?_⟩
  rcases hR with ⟨es, ps, h1, h2, hp, rfl, hr2⟩ | ⟨e, rfl⟩
  · refine sw_seq (sw_ifF (tv_not (b := true) (tv_B (ev_isi (ev_var rfl) (by rfl)))) rfl (sw_next ?_))
    refine sw_seq (sw_asgN (nw_lst (AVs.ew (av_cons (ev_txt (l := []) (by decide +kernel)) av_nil) ⟨[pS []], rfl, (show 1 ≤ 1000000 by decide), ?_⟩)))
    refine sw_midL (fun S' => ∃ ls : List (List Nat), (ps.length = es.length ∧ r = (if (M47.un [[]] ps).flatten.length ≤ 400 then pS (M47.un [[]] ps).flatten else .none)) ∧ (ls = M47.un [[]] ps ∧ ls.length ≤ 201 ∧ ∀ x, x ∈ ls → x.length ≤ 200) ∧ S' = ⟨[none, some (.o 0), none, none, none], [.l (ls.map pS)]⟩) ?_ ?_
    · refine sw_forL (js := [2, 3]) (fun i S' => ∃ ls : List (List Nat), (i ≤ ps.length ∧ M47.un ls (ps.drop i) = M47.un [[]] ps ∧ ls.length = i + 1 ∧ ∀ x, x ∈ ls → x.length ≤ i) ∧ S' = ⟨[some (dT es), some (.o 0), none, none, none], [.l (ls.map pS)]⟩) (ei_enumT (av_cons (ev_var rfl) av_nil)) ⟨_, by walk_at "le", [[]], ⟨Nat.zero_le _, rfl, rfl, fun x hx => by rw [List.mem_singleton.mp hx]; exact Nat.le_refl _⟩, rfl⟩ ?_ ?_
      · rintro i d S' hd ⟨ls, ⟨hip, he, hl, hb⟩, rfl⟩
        obtain ⟨hi, rfl⟩ := map_at hd
        by_cases c : i < ps.length
        · obtain ⟨p, hpi⟩ : ∃ p, ps[i]? = some p := ⟨_, List.getElem?_eq_getElem c⟩
          obtain ⟨e1, g1, g2⟩ := hp i p hpi
          have e2 : es.getD i .none = pD p := by rw [List.getD_eq_getElem?_getD, e1]; rfl
          rw [e2]
          have hdr : ps.drop i = p :: ps.drop (i + 1) := by rw [List.drop_eq_getElem_cons c, (List.getElem?_eq_some_iff.mp hpi).2]
          rw [hdr, M47.un] at he
          have hn : p.1 < ls.length := by omega
          have hgl : (ls.getD p.1 []).length ≤ i := hb _ (by rw [List.getD_eq_getElem?_getD, List.getElem?_eq_getElem hn]; exact List.getElem_mem hn)
          have hp2 : p.2.length ≤ 1 := by rcases g2 with ⟨x, e, _⟩ | ⟨e, _⟩ <;> rw [e] <;> simp
          refine gw_tup2 ?_
          refine sw_seq (sw_ifF (tv_or (b := false) (tv_not (b := true) (tv_B (ev_isi (ev_var rfl) (by rfl)))) fun _ => tv_or (b := false) (tv_test (ev_op (ev_cb (av_cons (ev_var rfl) av_nil) ra_lenT) (ev_nat 2) rb_neI)) fun _ => tv_not (b := true) (tv_B (ev_call (ds := [pn p.1, pn 0, pn i]) (r := .bool true) (av_cons (ev_op (ev_var rfl) (ev_nat 0) (rb_ixTN rfl)) (av_cons (ev_nat 0) (av_cons (ev_var rfl) av_nil))) ⟨pn p.1, i, .inl ⟨_, rfl⟩, rfl, ?_⟩))) rfl (sw_next ?_))
          · show _ = PyData.bool (decide ((0 : Int) ≤ (p.1 : Int)) && decide ((p.1 : Int) ≤ (i : Int)))
            rw [decide_eq_true (by omega), decide_eq_true (by omega)]; rfl
          refine sw_seq (sw_ifF (b := false) ?_ rfl (sw_next ?_))
          · rcases g2 with ⟨x, e, hx⟩ | ⟨e, g3, g4⟩
            · exact tv_and (b := !true) (c := false) (tv_not (tv_B (ev_call (ds := [pS p.2]) (r := .bool true) (av_cons (ev_op (ev_var rfl) (ev_nat 1) (rb_ixTN rfl)) av_nil) ⟨pS p.2, .inr (.inr ⟨p.2, by omega, rfl⟩), rfl, by
                rw [e]
                have : x ∈ (List.range 26).map fun i => 97 + i := List.mem_map.mpr ⟨x - 97, List.mem_range.mpr (by omega), by omega⟩
                show PyData.bool true = PyData.bool (decide (([x] : List Nat).toArray.size = 1) && decide (([x] : List Nat).toArray.toList.headD 0 ∈ (List.range 26).map fun i => 97 + i))
                have h4 : decide (([x] : List Nat).toArray.toList.headD 0 ∈ (List.range 26).map fun i => 97 + i) = true := decide_eq_true this
                rw [h4]; rfl⟩))) fun h => by cases h
            · refine TV.is (tv_and (b := !false) (tv_not (tv_B (ev_call (ds := [pS p.2]) (r := .bool false) (av_cons (ev_op (ev_var rfl) (ev_nat 1) (rb_ixTN rfl)) av_nil) ⟨pS p.2, .inr (.inr ⟨p.2, by omega, rfl⟩), rfl, by rw [e]; rfl⟩))) fun _ => tv_or (tv_test (ev_op (ev_op (ev_var rfl) (ev_nat 1) (rb_ixTN (d := pS p.2) rfl)) (ev_txt (l := []) (by decide +kernel)) rb_neS)) fun _ => tv_or (tv_test (ev_op (ev_var rfl) (ev_op (ev_cb (av_cons (ev_var rfl) av_nil) ra_lenT) (ev_nat 1) (rb_subN (a := es.length) (by omega))) rb_ltN)) fun _ => tv_test (ev_op (ev_op (ev_var rfl) (ev_nat 0) (rb_ixTN (d := pn p.1) rfl)) (ev_nat 0) rb_eqN)) ?_
              rw [e, decide_eq_false (show ¬ i < es.length - 1 by omega), decide_eq_false g4]; simp
          refine sw_app (j := 0) rfl rfl (EV.ew (ev_op (ev_op (ev_var rfl) (ev_op (ev_var rfl) (ev_nat 0) (rb_ixTN (d := pn p.1) rfl)) (rb_ixON rfl (d := pS (ls.getD p.1 [])) (by rw [List.getElem?_map, getD_some (d := []) hn]; rfl))) (ev_op (ev_var rfl) (ev_nat 1) (rb_ixTN (d := pS p.2) rfl)) (rb_addS (by omega))) ⟨_, _, rfl, rfl, by rw [List.length_map]; omega, ?_⟩)
          refine ⟨_, ?_, ls ++ [ls.getD p.1 [] ++ p.2], ⟨c, he, by rw [List.length_append, hl]; rfl, fun x hx => ?_⟩, rfl⟩
          · rw [List.map_append]; walk_at "le"
          · rcases List.mem_append.mp hx with z | z
            · have := hb x z; omega
            · rw [List.mem_singleton.mp z, List.length_append]; omega
        · have hii : i = ps.length := by omega
          subst hii
          rcases hr2 with ⟨h3, _⟩ | ⟨⟨d, hd2, ho⟩, rfl⟩
          · omega
          have e2 : es.getD ps.length .none = d := by rw [List.getD_eq_getElem?_getD, hd2]; rfl
          rw [e2]
          refine gw_tup2 ?_
          rcases ho with (rfl | ⟨i, rfl⟩ | ⟨l, rfl⟩) | ⟨xs, rfl, hx⟩ | ⟨a, b, rfl, ha, hpl⟩ | ⟨i, b, rfl, hpl, hlt, hbk, hor⟩
          · exact sw_seq (sw_ifT (tv_or (b := true) (c := true) (tv_not (b := false) (tv_B (ev_isi (ev_var rfl) (by rfl)))) fun h => by cases h) rfl (sw_retE ev_non rfl))
          · exact sw_seq (sw_ifT (tv_or (b := true) (c := true) (tv_not (b := false) (tv_B (ev_isi (ev_var rfl) (by rfl)))) fun h => by cases h) rfl (sw_retE ev_non rfl))
          · exact sw_seq (sw_ifT (tv_or (b := true) (c := true) (tv_not (b := false) (tv_B (ev_isi (ev_var rfl) (by rfl)))) fun h => by cases h) rfl (sw_retE ev_non rfl))
          · exact sw_seq (sw_ifT (tv_or (b := false) (tv_not (b := true) (tv_B (ev_isi (ev_var rfl) (by rfl)))) fun _ => tv_or (b := true) (c := true) (TV.is (tv_test (ev_op (ev_cb (av_cons (ev_var rfl) av_nil) ra_lenT) (ev_nat 2) rb_neI)) (by simp; omega)) fun h => by cases h) rfl (sw_retE ev_non rfl))
          · exact sw_seq (sw_ifT (tv_or (b := false) (tv_not (b := true) (tv_B (ev_isi (ev_var rfl) (by rfl)))) fun _ => tv_or (b := false) (tv_test (ev_op (ev_cb (av_cons (ev_var rfl) av_nil) ra_lenT) (ev_nat 2) rb_neI)) fun _ => tv_not (b := false) (tv_B (ev_call (ds := [a, pn 0, pn ps.length]) (r := .bool false) (av_cons (ev_op (ev_var rfl) (ev_nat 0) (rb_ixTN (d := a) rfl)) (av_cons (ev_nat 0) (av_cons (ev_var rfl) av_nil))) ⟨a, ps.length, ha, rfl, by rw [hpl]⟩))) rfl (sw_retE ev_non rfl))
          · refine sw_seq (sw_ifF (tv_or (b := false) (tv_not (b := true) (tv_B (ev_isi (ev_var rfl) (by rfl)))) fun _ => tv_or (b := false) (tv_test (ev_op (ev_cb (av_cons (ev_var rfl) av_nil) ra_lenT) (ev_nat 2) rb_neI)) fun _ => tv_not (b := true) (tv_B (ev_call (ds := [.int i, pn 0, pn ps.length]) (r := .bool true) (av_cons (ev_op (ev_var rfl) (ev_nat 0) (rb_ixTN (d := .int i) rfl)) (av_cons (ev_nat 0) (av_cons (ev_var rfl) av_nil))) ⟨.int i, ps.length, .inl ⟨_, rfl⟩, rfl, by rw [hpl]⟩))) rfl (sw_next ?_))
            have hdb : min b.depth (pS []).depth ≤ 60 := by
              have : (pS []).depth = 0 := by rw [PyData.depth]
              omega
            refine sw_seq (sw_ifT (tv_and (b := !false) (tv_not (tv_B (ev_call (ds := [b]) (r := .bool false) (av_cons (ev_op (ev_var rfl) (ev_nat 1) (rb_ixTN (d := b) rfl)) av_nil) ⟨b, hbk, rfl, by rw [hlt]⟩))) fun _ => tv_or (tv_test (ev_op (ev_op (ev_var rfl) (ev_nat 1) (rb_ixTN (d := b) rfl)) (ev_txt (l := []) (by decide +kernel)) (rb_neX hdb))) fun _ => tv_or (tv_test (ev_op (ev_var rfl) (ev_op (ev_cb (av_cons (ev_var rfl) av_nil) ra_lenT) (ev_nat 1) (rb_subN (a := es.length) (by omega))) rb_ltN)) fun _ => tv_test (ev_op (ev_op (ev_var rfl) (ev_nat 0) (rb_ixTN (d := .int i) rfl)) (ev_nat 0) rb_eqI)) ?_ (sw_retE ev_non rfl))
            rcases hor with h | h | h
            · rw [h]; rfl
            · rw [decide_eq_true (show ps.length < es.length - 1 by omega)]; simp
            · subst h; simp
      · rintro S' ⟨ls, ⟨hip, he, hl, hb⟩, rfl⟩
        rw [List.length_map, List.length_range] at hip he hl hb
        have h3 : ps.length = es.length := by omega
        rw [List.drop_of_length_le (by omega), M47.un] at he
        refine ⟨_, by walk_at "le", ls, ⟨h3, ?_⟩, ⟨he, by omega, fun x hx => by have := hb x hx; omega⟩, rfl⟩
        rcases hr2 with ⟨_, h4⟩ | ⟨⟨d, hd2, _⟩, _⟩
        · exact h4
        · have := (List.getElem?_eq_some_iff.mp hd2).1
          omega
    · rintro S' ⟨ls, ⟨h3, hr3⟩, ⟨he, hl, hb⟩, rfl⟩
      have hfl := flat_le hb
      have h4 : ls.length * 200 ≤ 201 * 200 := Nat.mul_le_mul hl (Nat.le_refl _)
      subst he
      refine sw_seq (sw_asgE (ev_joinO (ev_txt (l := []) (by decide +kernel)) rfl rfl (by omega)) ?_)
      by_cases c : (M47.un [[]] ps).flatten.length ≤ 400
      · rw [if_pos c] at hr3
        exact sw_retE (ev_if (b := true) (TV.is (tv_test (ev_op (ev_cb (av_cons (ev_var rfl) av_nil) (ra_lenSN (by omega))) (ev_nat 400) rb_leN)) (decide_eq_true c)) (fun _ => ev_var rfl) fun h => by cases h) hr3.symm
      · rw [if_neg c] at hr3
        exact sw_retE (ev_if (b := false) (TV.is (tv_test (ev_op (ev_cb (av_cons (ev_var rfl) av_nil) (ra_lenSN (by omega))) (ev_nat 400) rb_leN)) (decide_eq_false c)) (fun h => by cases h) fun _ => ev_non) hr3.symm
  · rcases e with rfl | ⟨l, rfl⟩
    · exact sw_seq (sw_ifT (tv_not (b := false) (tv_B (ev_isi (ev_var rfl) (by rfl)))) rfl (sw_retE ev_non rfl))
    · exact sw_seq (sw_ifT (tv_not (b := false) (tv_B (ev_isi (ev_var rfl) (by rfl)))) rfl (sw_retE ev_non rfl))
end
end LW
set_option Elab.async false
set_option pp.maxSteps 1200
set_option linter.all false
set_option maxRecDepth 100000
set_option maxHeartbeats 4000000
namespace LW
open PySem PySem.Spec PyProof.Rows L2 D2
local macro_rules | `(tactic| walk_at "le") => `(tactic| (refine ⟨?_, rfl⟩; repeat (first | exact LeS.nil | apply LeS.skip | apply LeS.same)))
local macro_rules | `(tactic| walk_at "sd") => `(tactic| (first | assumption | omega | (simp only [List.length_append, List.length_take, List.length_drop, List.length_reverse, List.length_cons, List.length_nil, D2.rep_length]; omega)))
section
variable {P : Program} {w : World} {K : PySem.W.Frag} {mg : Str → Option Value} {base : Heap}
/-- the odd ones, behind so many pairs -/
def OD (n : Nat) : List PyData := [.tuple [pn 0, pS [97, 98]], .tuple [pn 0, pS [65]], .tuple [pn (n + 1), pS [97]], .tuple [.int (-1), pS [97]], .tuple [.bool true, pS [97]], .tuple [pn 0], .tuple [pn 0, pS [97], pn 1], .none, pn 7, .list [pn 0, pS [97]], .tuple [pS [48], pS [97]], .tuple [pn 0, pn 0], .tuple [pn 0, .none]]
theorem pl0 (a : Nat) : plB (.int 0) a = true := by
  show (decide ((0 : Int) ≤ 0) && decide ((0 : Int) ≤ (a : Int))) = true
  rw [decide_eq_true (by omega), decide_eq_true (by omega)]; rfl
theorem odd_all {n a : Nat} (h : a ≤ n) : ∀ x, x ∈ OD n → odd (n + 1) a x := fun x hx => by
  unfold OD at hx
  simp only [List.mem_cons, List.not_mem_nil, or_false] at hx
  rcases hx with rfl | rfl | rfl | rfl | rfl | rfl | rfl | rfl | rfl | rfl | rfl | rfl | rfl
  · exact .inr (.inr (.inr ⟨0, pS [97, 98], rfl, pl0 a, by decide +kernel, .inr (.inr ⟨[97, 98], by decide, rfl⟩), .inl (by simp [PyData.eqv])⟩))
  · exact .inr (.inr (.inr ⟨0, pS [65], rfl, pl0 a, by decide +kernel, .inr (.inr ⟨[65], by decide, rfl⟩), .inl (by simp [PyData.eqv])⟩))
  · refine .inr (.inr (.inl ⟨pn (n + 1), pS [97], rfl, .inl ⟨_, rfl⟩, ?_⟩))
    show (decide ((0 : Int) ≤ ((n + 1 : Nat) : Int)) && decide (((n + 1 : Nat) : Int) ≤ (a : Int))) = false
    rw [decide_eq_false (show ¬ ((n + 1 : Nat) : Int) ≤ (a : Int) by omega), Bool.and_false]
  · exact .inr (.inr (.inl ⟨.int (-1), pS [97], rfl, .inl ⟨_, rfl⟩, rfl⟩))
  · exact .inr (.inr (.inl ⟨.bool true, pS [97], rfl, .inr (.inl ⟨_, rfl⟩), rfl⟩))
  · exact .inr (.inl ⟨_, rfl, by simp⟩)
  · exact .inr (.inl ⟨_, rfl, by simp⟩)
  · exact .inl (.inl rfl)
  · exact .inl (.inr (.inl ⟨_, rfl⟩))
  · exact .inl (.inr (.inr ⟨_, rfl⟩))
  · exact .inr (.inr (.inl ⟨pS [48], pS [97], rfl, .inr (.inr ⟨_, rfl⟩), rfl⟩))
  · exact .inr (.inr (.inr ⟨0, pn 0, rfl, pl0 a, rfl, .inl ⟨_, rfl⟩, .inl (by simp [PyData.eqv])⟩))
  · exact .inr (.inr (.inr ⟨0, .none, rfl, pl0 a, rfl, .inr (.inl rfl), .inl (by simp [PyData.eqv])⟩))
def R__law_wrong (avs : List AV) (m : MO) (Post : PyData → MO → Prop) : Prop := ∃ ps : List (Nat × List Nat), ps.length ≤ 100 ∧ avs = [.o 0, .d (.list (ps.map pD))] ∧ DOk m ∧ Post = fun r m' => (∃ a x, a ≤ ps.length ∧ odd (ps.length + 1) a x ∧ r = .tuple ((ps.take a).map pD ++ [x] ++ (ps.drop a).map pD)) ∧ DOk m'
abbrev s__law_wrong : Stmt := topS 13
abbrev n__law_wrong : List Str := ["draws", "pairs", "odd", "at"]
theorem sc__law_wrong : FnScope n__law_wrong ["draws", "pairs"] (defScope s__law_wrong) := ⟨rfl, rfl, rfl, by decide +kernel, rfl, by decide +kernel, by decide +kernel⟩
theorem ok__law_wrong (T : Bl mg) (D : Def K mg "_law_wrong" "_law_wrong" s__law_wrong ["draws", "pairs"])
    (H__law_draw : Has P w K mg base 1 "_law_draw" ["draws", "limit"] (spD K R__law_draw)) : Has P w K mg base 2 "_law_wrong" ["draws", "pairs"] (spD K R__law_wrong) := by
  obtain ⟨_, _, G__law_draw, m__law_draw, k__law_draw, bd__law_draw⟩ := H__law_draw
  refine def_D D sc__law_wrong (fun ds _ r ⟨_, _, e, _⟩ => by rw [e]; rfl) fun f cdv A outer s H E hr => ⟨_, (pss_cons (ps_set (i := 2) sc__law_wrong.nd rfl (Or.inl rfl) (pe_lst (pa_cons (pe_tup (pa_cons pe_int (pa_cons pe_str pa_nil))) (pa_cons (pe_tup (pa_cons pe_int (pa_cons pe_str pa_nil))) (pa_cons (pe_tup (pa_cons (pe_op (op_addU (K := K)) (pe_callB (call_lenU (K := K) rfl) (by rfl) T.b_len PySem.boot_len (pa_cons (pv 1) pa_nil)) pe_int) (pa_cons pe_str pa_nil))) (pa_cons (pe_tup (pa_cons (pe_un un_neg pe_int) (pa_cons pe_str pa_nil))) (pa_cons (pe_tup (pa_cons pe_bl (pa_cons pe_str pa_nil))) (pa_cons (pe_tup (pa_cons pe_int pa_nil)) (pa_cons (pe_tup (pa_cons pe_int (pa_cons pe_str (pa_cons pe_int pa_nil)))) (pa_cons pe_non (pa_cons pe_int (pa_cons (pe_lst (pa_cons pe_int (pa_cons pe_str pa_nil))) (pa_cons (pe_tup (pa_cons pe_str (pa_cons pe_str pa_nil))) (pa_cons (pe_tup (pa_cons pe_int (pa_cons pe_int pa_nil))) (pa_cons (pe_tup (pa_cons pe_int (pa_cons pe_non pa_nil))) pa_nil)))))))))))))))
    (pss_cons (ps_set (i := 3) sc__law_wrong.nd rfl (Or.inl rfl) (pe_call G__law_draw (hr.mono (by omega)) (by rfl) m__law_draw k__law_draw bd__law_draw .nil pass0 (pa_cons (pv 0) (pa_cons (pe_op (op_addU (K := K)) (pe_callB (call_lenU (K := K) rfl) (by rfl) T.b_len PySem.boot_len (pa_cons (pv 1) pa_nil)) pe_int) pa_nil))))
    (pss_one (ps_ret (pe_callTy (call_tupU (K := K) rfl) (by rfl) T.b_tuple (by decide +kernel) (pa_cons (pe_op (op_addU (K := K)) (pe_op (op_addU (K := K)) (pe_slice (sl_U (K := K) rfl) (pv 1) po_none (po_some (pv 3))) (pe_lst (pa_cons (pe_ix (ix_U (K := K) rfl) (pv 2) (pe_call G__law_draw (hr.mono (by omega)) (by rfl) m__law_draw k__law_draw bd__law_draw .nil pass0 (pa_cons (pv 0) (pa_cons (pe_callB (call_lenU (K := K) rfl) (by rfl) T.b_len PySem.boot_len (pa_cons (pv 2) pa_nil)) pa_nil))) (fun _ _ => rfl)) pa_nil))) (pe_slice (sl_U (K := K) rfl) (pv 1) (po_some (pv 3)) po_none)) pa_nil)))))), fun avs m Post hR => ?_⟩
  obtain ⟨ps, h1, rfl, hm, rfl⟩ := hR
  refine sw_seq (sw_asgE (ev_lst (ds := OD ps.length) (av_cons (ev_tup (ds := [pn 0, pS [97, 98]]) (av_cons (ev_nat 0) (av_cons (ev_txt (l := [97, 98]) (by decide +kernel)) av_nil))) (av_cons (ev_tup (ds := [pn 0, pS [65]]) (av_cons (ev_nat 0) (av_cons (ev_txt (l := [65]) (by decide +kernel)) av_nil))) (av_cons (ev_tup (ds := [pn (ps.length + 1), pS [97]]) (av_cons (EV.is (ev_op (ev_cb (av_cons (ev_var rfl) av_nil) ra_lenL) (ev_nat 1) rb_addN) (by rw [List.length_map])) (av_cons (ev_txt (l := [97]) (by decide +kernel)) av_nil))) (av_cons (ev_tup (ds := [.int (-1), pS [97]]) (av_cons ev_m1c (av_cons (ev_txt (l := [97]) (by decide +kernel)) av_nil))) (av_cons (ev_tup (ds := [.bool true, pS [97]]) (av_cons ev_bl (av_cons (ev_txt (l := [97]) (by decide +kernel)) av_nil))) (av_cons (ev_tup (ds := [pn 0]) (av_cons (ev_nat 0) av_nil)) (av_cons (ev_tup (ds := [pn 0, pS [97], pn 1]) (av_cons (ev_nat 0) (av_cons (ev_txt (l := [97]) (by decide +kernel)) (av_cons (ev_nat 1) av_nil)))) (av_cons ev_non (av_cons (ev_nat 7) (av_cons (ev_lst (ds := [pn 0, pS [97]]) (av_cons (ev_nat 0) (av_cons (ev_txt (l := [97]) (by decide +kernel)) av_nil))) (av_cons (ev_tup (ds := [pS [48], pS [97]]) (av_cons (ev_txt (l := [48]) (by decide +kernel)) (av_cons (ev_txt (l := [97]) (by decide +kernel)) av_nil))) (av_cons (ev_tup (ds := [pn 0, pn 0]) (av_cons (ev_nat 0) (av_cons (ev_nat 0) av_nil))) (av_cons (ev_tup (ds := [pn 0, .none]) (av_cons (ev_nat 0) (av_cons ev_non av_nil))) av_nil))))))))))))) (show 13 ≤ 1000000 by decide)) ?_)
  refine sw_seq (sw_asg (ew_draw rfl rfl hm (EV.is (a' := dn (ps.length + 1)) (ev_op (ev_cb (av_cons (ev_var rfl) av_nil) ra_lenL) (ev_nat 1) rb_addN) (by rw [List.length_map])) (by omega) (by omega) fun a ha m1 d1 => ?_))
  refine sw_ret (ew_cb (aw_cons (ew_op (ew_op (EV.ew (ev_sl (ev_var rfl) ov_none (ov_some (ev_var rfl)) rsl_LtoN) (ew_lst (aw_cons (ew_op (EV.ew (ev_var rfl) (ew_draw (L := 13) rfl rfl d1 (EV.is (a' := dn 13) (ev_cb (av_cons (ev_var rfl) av_nil) (ra_lenL (ds := OD ps.length))) rfl) (by decide) (by decide) fun x hx m2 d2 => ⟨_, rb_ixLN (List.getElem?_eq_getElem (l := OD ps.length) hx), aw_nil ⟨[(OD ps.length)[x]'hx], rfl, (show 1 ≤ 1000000 by decide), _, rb_addL ?_, EV.ew (ev_sl (ev_var rfl) (ov_some (ev_var rfl)) ov_none rsl_LfromN) ⟨_, rb_addL ?_, aw_nil ⟨_, ra_tupL, _, rfl, m2, rfl, ⟨a, (OD ps.length)[x]'hx, by omega, odd_all (by omega) _ (List.getElem_mem (l := OD ps.length) hx), ?_⟩, d2⟩⟩⟩⟩))))))))))
  · rw [List.length_take, List.length_map]; simp; omega
  · rw [List.length_append, List.length_take, List.length_map, List.length_drop, List.length_map]; simp; omega
  · rw [List.map_take, List.map_drop]
end
end LW
set_option Elab.async false
set_option pp.maxSteps 1200
set_option linter.all false
set_option maxRecDepth 100000
set_option maxHeartbeats 4000000
namespace LW
open PySem PySem.Spec PyProof.Rows L2 D2
local macro_rules | `(tactic| walk_at "le") => `(tactic| (refine ⟨?_, rfl⟩; repeat (first | exact LeS.nil | apply LeS.skip | apply LeS.same)))
local macro_rules | `(tactic| walk_at "sd") => `(tactic| (first | assumption | omega | (simp only [List.length_append, List.length_take, List.length_drop, List.length_reverse, List.length_cons, List.length_nil, D2.rep_length]; omega)))
section
variable {P : Program} {w : World} {K : PySem.W.Frag} {mg : Str → Option Value} {base : Heap}
theorem pD_fits (l : List (Nat × List Nat)) : ∀ x, x ∈ l.map pD → x.plain = true := fun x hx => by
  obtain ⟨p, _, rfl⟩ := List.mem_map.mp hx
  rfl
theorem pDs_plain : ∀ l : List (Nat × List Nat), PyData.plainAll (l.map pD) = true
  | [] => rfl
  | x :: r => by rw [List.map_cons, PyData.plainAll, pDs_plain r]; rfl
theorem pDs_depth : ∀ l : List (Nat × List Nat), PyData.depthAll (l.map pD) ≤ 1
  | [] => by simp [PyData.depthAll]
  | x :: r => by
    have := pDs_depth r
    have h2 : (pD x).depth = 1 := by simp [pD, PyData.depth, PyData.depthAll]
    rw [List.map_cons, PyData.depthAll, h2]; omega
theorem tupP_self (l : List (Nat × List Nat)) : PyData.eqv (.tuple (l.map pD)) (.tuple (l.map pD)) = true := PySem.SeqAt.eqv_refl_plain _ (by rw [PyData.plain]; exact pDs_plain l)
theorem tupP_depth (l : List (Nat × List Nat)) (d : PyData) : min (PyData.tuple (l.map pD)).depth d.depth ≤ 60 := by
  have : (PyData.tuple (l.map pD)).depth ≤ 2 := by
    rw [PyData.depth]
    have := pDs_depth l
    omega
  omega
/-- good pairs make their word -/
theorem R_good {ps : List (Nat × List Nat)} {r : PyData} (h : M47.good 0 ps) (h1 : ps.length ≤ 200) (hr : r = if (M47.un [[]] ps).flatten.length ≤ 400 then pS (M47.un [[]] ps).flatten else .none) : R_unlisted [.tuple (ps.map pD)] r :=
  .inl ⟨ps.map pD, ps, by rw [List.length_map]; exact h1, by rw [List.length_map]; exact Nat.le_refl _, fun i p e => ⟨by rw [List.getElem?_map, e]; rfl, by
    have := good_stp h e
    rw [List.length_map]
    rwa [Nat.zero_add, Nat.zero_add] at this⟩, rfl, .inl ⟨by rw [List.length_map], hr⟩⟩
theorem lz_word {w : List Nat} (h : Ltr w) : M47.good 0 (M47.lz [[]] [] w) ∧ (M47.un [[]] (M47.lz [[]] [] w)).flatten = w := by
  have := M47.lz_good w [[]] [] 0 rfl rfl List.mem_cons_self h
  exact ⟨this.1, by rw [this.2]; rfl⟩
theorem lz_len : ∀ (r : List Nat) (parts : List (List Nat)) (part : List Nat), (M47.lz parts part r).length ≤ r.length + part.length
  | [], parts, part => by
    rw [M47.lz]
    split
    · simp
    · rename_i h
      have := List.length_pos_iff.mpr h
      simp; omega
  | c :: r, parts, part => by
    rw [M47.lz]
    split
    · have := lz_len r parts (part ++ [c])
      rw [List.length_append] at this
      simp at this ⊢; omega
    · have := lz_len r (parts ++ [part ++ [c]]) []
      simp at this ⊢; omega
theorem good_of : ∀ {ps : List (Nat × List Nat)} {n : Nat}, (∀ i p, ps[i]? = some p → stp (n + ps.length) (n + i) p) → M47.good n ps
  | [], _, _ => trivial
  | q :: r, n, h => by
    have h0 := h 0 q rfl
    refine ⟨h0.1, ?_, good_of fun i p e => ?_⟩
    · rcases h0.2 with z | ⟨z1, z2, z3⟩
      · exact .inl z
      · refine .inr ⟨z1, ?_, z3⟩
        cases r with
        | nil => rfl
        | cons a b => simp at z2
    · have := h (i + 1) p (by rw [List.getElem?_cons_succ]; exact e)
      rwa [List.length_cons, show n + (r.length + 1) = n + 1 + r.length by omega, show n + (i + 1) = n + 1 + i by omega] at this
theorem un_length : ∀ (ps : List (Nat × List Nat)) (ls : List (List Nat)), (M47.un ls ps).length = ls.length + ps.length
  | [], ls => rfl
  | p :: r, ls => by rw [M47.un, un_length r, List.length_append, List.length_cons]; simp; omega
theorem un_le : ∀ (ps : List (Nat × List Nat)) (ls : List (List Nat)) (b : Nat), (∀ x, x ∈ ls → x.length ≤ b) → (∀ p, p ∈ ps → p.2.length ≤ 1) → ∀ x, x ∈ M47.un ls ps → x.length ≤ b + ps.length
  | [], ls, b, h, _ => h
  | p :: r, ls, b, h, hp => fun x hx => by
    rw [M47.un] at hx
    have := un_le r (ls ++ [ls.getD p.1 [] ++ p.2]) (b + 1) (fun y hy => ?_) (fun q hq => hp q (List.mem_cons_of_mem _ hq)) x hx
    · rw [List.length_cons]; omega
    · rcases List.mem_append.mp hy with z | z
      · have := h y z; omega
      · rw [List.mem_singleton.mp z, List.length_append]
        have h2 := hp p List.mem_cons_self
        have h3 : (ls.getD p.1 []).length ≤ b := by
          by_cases c : p.1 < ls.length
          · rw [List.getD_eq_getElem?_getD, List.getElem?_eq_getElem c]; exact h _ (List.getElem_mem c)
          · rw [List.getD_eq_getElem?_getD, List.getElem?_eq_none (by omega)]; exact Nat.zero_le _
        omega
/-- pairs with letters, each with a number that is there -/
def nice (ps : List (Nat × List Nat)) : Prop := ∀ (i : Nat) (p : Nat × List Nat), ps[i]? = some p → p.1 ≤ i ∧ ∃ c, p.2 = [c] ∧ 97 ≤ c ∧ c ≤ 122
theorem nice_good {ps : List (Nat × List Nat)} (h : nice ps) : M47.good 0 ps := good_of fun i p e => ⟨by have := (h i p e).1; omega, .inl (h i p e).2⟩
theorem nice_one {ps : List (Nat × List Nat)} (h : nice ps) (h0 : 0 < ps.length) : M47.good 0 (ps ++ [(1, [])]) := good_of fun i p e => by
  by_cases c : i < ps.length
  · rw [List.getElem?_append_left c] at e
    exact ⟨by have := (h i p e).1; omega, .inl (h i p e).2⟩
  · have hi := (List.getElem?_eq_some_iff.mp e).1
    rw [List.length_append] at hi
    have hi : i < ps.length + 1 := hi
    have e2 : i = ps.length := by omega
    subst e2
    rw [List.getElem?_append_right (Nat.le_refl _), Nat.sub_self] at e
    cases e
    exact ⟨by show 1 ≤ 0 + ps.length; omega, .inr ⟨rfl, by rw [List.length_append]; rfl, by decide⟩⟩
theorem un_small {ps : List (Nat × List Nat)} (h : M47.good 0 ps) (hl : ps.length ≤ 14) : (M47.un [[]] ps).flatten.length ≤ 400 := by
  have h1 := un_le ps [[]] 0 (fun x hx => by rw [List.mem_singleton.mp hx]; exact Nat.le_refl _) fun p hp => by
    obtain ⟨i, hi, e⟩ := List.mem_iff_getElem.mp hp
    have := good_stp h (show ps[i]? = some p by rw [List.getElem?_eq_getElem hi, e])
    rcases this.2 with ⟨c, e, _⟩ | ⟨e, _⟩ <;> rw [e] <;> simp
  have h2 := flat_le h1
  rw [un_length] at h2
  have h3 : ([[]] : List (List Nat)).length + ps.length ≤ 15 := by show 1 + ps.length ≤ 15; omega
  have h4 : (([[]] : List (List Nat)).length + ps.length) * (0 + ps.length) ≤ 15 * 14 := Nat.mul_le_mul h3 (by omega)
  omega
/-- an odd one somewhere -/
theorem R_odd {ps : List (Nat × List Nat)} {es : List PyData} {a : Nat} {d : PyData} (h : nice ps) (ha : a ≤ ps.length) (he : es.length ≤ 200) (h1 : ∀ (i : Nat) (p : Nat × List Nat), (ps.take a)[i]? = some p → es[i]? = some (pD p)) (hd : es[a]? = some d) (ho : odd es.length a d) : R_unlisted [.tuple es] .none := by
  have hl : (ps.take a).length = a := by rw [List.length_take]; omega
  have := (List.getElem?_eq_some_iff.mp hd).1
  refine .inl ⟨es, ps.take a, he, by omega, fun i p e => ⟨h1 i p e, ?_⟩, rfl, .inr ⟨⟨d, by rw [hl]; exact hd, by rw [hl]; exact ho⟩, rfl⟩⟩
  have hi := (List.getElem?_eq_some_iff.mp e).1
  rw [List.getElem?_take_of_lt (by omega)] at e
  exact ⟨(h i p e).1, .inl (h i p e).2⟩
def LP (n : Nat) : List (Nat × List Nat) := (List.range n).map fun k => (k, [97])
theorem LP_nice (n : Nat) : nice (LP n) := fun i p e => by
  unfold LP at e
  rw [List.getElem?_map] at e
  by_cases c : i < n
  · rw [List.getElem?_range c] at e
    cases e
    exact ⟨Nat.le_refl _, 97, rfl, by decide, by decide⟩
  · rw [List.getElem?_eq_none (by rw [List.length_range]; omega)] at e; cases e
theorem LP_28 : ¬ (M47.un [[]] (LP 28)).flatten.length ≤ 400 := by decide +kernel
theorem LP_27 : (M47.un [[]] (LP 27)).flatten = D2.rep [97] 378 := by decide +kernel
end
end LW
set_option Elab.async false
set_option pp.maxSteps 1200
set_option linter.all false
set_option maxRecDepth 100000
set_option maxHeartbeats 4000000
namespace LW
open PySem PySem.Spec PyProof.Rows L2 D2
local macro_rules | `(tactic| walk_at "le") => `(tactic| (refine ⟨?_, rfl⟩; repeat (first | exact LeS.nil | apply LeS.skip | apply LeS.same)))
local macro_rules | `(tactic| walk_at "sd") => `(tactic| (first | assumption | omega | (simp only [List.length_append, List.length_take, List.length_drop, List.length_reverse, List.length_cons, List.length_nil, D2.rep_length]; omega)))
section
variable {P : Program} {w : World} {K : PySem.W.Frag} {mg : Str → Option Value} {base : Heap}
theorem nice_snoc {ps : List (Nat × List Nat)} {a c : Nat} (h : nice ps) (ha : a ≤ ps.length) (hc : 97 ≤ c ∧ c ≤ 122) : nice (ps ++ [(a, [c])]) := fun i p e => by
  by_cases k : i < ps.length
  · rw [List.getElem?_append_left k] at e; exact h i p e
  · have hi := (List.getElem?_eq_some_iff.mp e).1
    rw [List.length_append] at hi
    have hi : i < ps.length + 1 := hi
    have e2 : i = ps.length := by omega
    subst e2
    rw [List.getElem?_append_right (Nat.le_refl _), Nat.sub_self] at e
    cases e
    exact ⟨ha, c, rfl, hc⟩
theorem ab_at {b : Nat} (h : b < ([97, 98] : List Nat).length) : 97 ≤ ([97, 98] : List Nat).getD b 0 ∧ ([97, 98] : List Nat).getD b 0 ≤ 122 := by
  match b, h with
  | 0, _ => decide
  | 1, _ => decide
theorem ew_wrong {S : AS} {te : TE} {i j : Nat} {ps : List (Nat × List Nat)} {m : MO} {E : XK} {Q : AV → Mu → Prop} (hi : S.sl[i]? = some (some (.o j))) (hm : S.mu[j]? = some m) (hl : ps.length ≤ 100) (hd : DOk m) (hE : EV K te S (.d (.list (ps.map pD))))
    (k : ∀ a x, a ≤ ps.length → odd (ps.length + 1) a x → ∀ m', DOk m' → Q (.d (.tuple ((ps.take a).map pD ++ [x] ++ (ps.drop a).map pD))) (S.mu.set j m')) : EW K (tCall (spD K R__law_wrong) [] E (tCons (tVar i) (tCons te tNil))) S Q :=
  ew_callD (AVs.ew (av_cons (ev_var hi) (av_cons hE av_nil)) ⟨j, m, [.o 0, .d (.list (ps.map pD))], _, hm, rfl, ⟨ps, hl, rfl, hd, rfl⟩, fun r m' ⟨⟨a, x, ha, ho, e⟩, hd'⟩ => by subst e; exact k a x ha ho m' hd'⟩)
theorem R_oddW {ps : List (Nat × List Nat)} {a : Nat} {x : PyData} (h : nice ps) (ha : a ≤ ps.length) (ho : odd (ps.length + 1) a x) (hl : ps.length ≤ 100) : R_unlisted [.tuple ((ps.take a).map pD ++ [x] ++ (ps.drop a).map pD)] .none := by
  have e : ((ps.take a).map pD ++ [x] ++ (ps.drop a).map pD).length = ps.length + 1 := by simp; omega
  have e1 : ((ps.take a).map pD).length = a := by simp; omega
  refine R_odd (a := a) (d := x) h ha (by omega) (fun i p hp => ?_) ?_ (by rw [e]; exact ho)
  · have hi := (List.getElem?_eq_some_iff.mp hp).1
    have hi2 : i < ((ps.take a).map pD).length := by rw [List.length_map]; exact hi
    rw [List.append_assoc, List.getElem?_append_left hi2, List.getElem?_map, hp]; rfl
  · rw [List.append_assoc, List.getElem?_append_right (by omega), e1, Nat.sub_self]; rfl
theorem odd_zero {n m : Nat} (h : n + 1 = m) : odd m n (pD (0, [])) := .inr (.inr (.inr ⟨0, pS [], rfl, pl0 n, by decide +kernel, .inr (.inr ⟨[], by decide, rfl⟩), .inr (.inr rfl)⟩))
theorem R_zero {ps : List (Nat × List Nat)} (h : nice ps) (hl : ps.length ≤ 100) : R_unlisted [.tuple (ps.map pD ++ [pD (0, [])])] .none := by
  have e1 : (ps.map pD).length = ps.length := List.length_map _
  refine R_odd (a := ps.length) (d := pD (0, [])) h (Nat.le_refl _) (by simp; omega) (fun i p hp => ?_) ?_ (odd_zero (by simp))
  · have hi := (List.getElem?_eq_some_iff.mp hp).1
    rw [List.take_of_length_le (Nat.le_refl _)] at hp hi
    rw [List.getElem?_append_left (by omega), List.getElem?_map, hp]; rfl
  · rw [List.getElem?_append_right (by omega), e1, Nat.sub_self]; rfl
theorem R_early {ps : List (Nat × List Nat)} (h : nice ps) (hl : ps.length ≤ 100) : R_unlisted [.tuple (ps.map pD ++ [pD (1, []), pD (0, [97])])] .none := by
  have e1 : (ps.map pD).length = ps.length := List.length_map _
  by_cases h0 : ps.length = 0
  · have : ps = [] := List.eq_nil_of_length_eq_zero h0
    subst this
    refine R_odd (ps := []) (a := 0) (d := pD (1, [])) h (Nat.le_refl _) (by simp) (fun i p hp => by simp at hp) rfl (.inr (.inr (.inl ⟨pn 1, pS [], rfl, .inl ⟨_, rfl⟩, rfl⟩)))
  · refine R_odd (a := ps.length) (d := pD (1, [])) h (Nat.le_refl _) (by simp; omega) (fun i p hp => ?_) ?_ (.inr (.inr (.inr ⟨1, pS [], rfl, ?_, by decide +kernel, .inr (.inr ⟨[], by decide, rfl⟩), .inr (.inl (by simp))⟩)))
    · have hi := (List.getElem?_eq_some_iff.mp hp).1
      rw [List.take_of_length_le (Nat.le_refl _)] at hp hi
      rw [List.getElem?_append_left (by omega), List.getElem?_map, hp]; rfl
    · rw [List.getElem?_append_right (by omega), e1, Nat.sub_self]; rfl
    · show (decide ((0 : Int) ≤ 1) && decide ((1 : Int) ≤ (ps.length : Int))) = true
      rw [decide_eq_true (by omega), decide_eq_true (by omega)]; rfl
abbrev s_law : Stmt := topS 14
abbrev n_law : List Str := ["script", "draws", "turn", "word", "due", "again", "told", "pairs", "k", "long", "pair"]
theorem sc_law : FnScope n_law ["script"] (defScope s_law) := ⟨rfl, rfl, rfl, by decide +kernel, rfl, by decide +kernel, by decide +kernel⟩
theorem ok_law (T : Bl mg) {f : Addr} {fd : FuncData} (F : Fun K "law" "law" s_law f fd)
    (H__law_draws : Has P w K mg base 1 "_law_draws" ["script"] (spN K R__law_draws))
    (H__law_word : Has P w K mg base 2 "_law_word" ["draws", "most"] (spD K R__law_word))
    (H__law_pairs : Has P w K mg base 1 "_law_pairs" ["word"] (spP K R__law_pairs))
    (H_listed : Has P w K mg base 1 "listed" ["word"] (spP K R_listed))
    (H_unlisted : Has P w K mg base 2 "unlisted" ["pairs"] (spP K R_unlisted))
    (H__law_draw : Has P w K mg base 1 "_law_draw" ["draws", "limit"] (spD K R__law_draw))
    (H__law_word_of : Has P w K mg base 1 "_law_word_of" ["pairs"] (spP K R__law_word_of))
    (H__law_wrong : Has P w K mg base 2 "_law_wrong" ["draws", "pairs"] (spD K R__law_wrong)) :
    FnOk P w K mg base CX0 3 f fd ["script"] (spP K R_law) := by
  obtain ⟨_, _, G__law_draws, m__law_draws, k__law_draws, bd__law_draws⟩ := H__law_draws
  obtain ⟨_, _, G__law_word, m__law_word, k__law_word, bd__law_word⟩ := H__law_word
  obtain ⟨_, _, G__law_pairs, m__law_pairs, k__law_pairs, bd__law_pairs⟩ := H__law_pairs
  obtain ⟨_, _, G_listed, m_listed, k_listed, bd_listed⟩ := H_listed
  obtain ⟨_, _, G_unlisted, m_unlisted, k_unlisted, bd_unlisted⟩ := H_unlisted
  obtain ⟨_, _, G__law_draw, m__law_draw, k__law_draw, bd__law_draw⟩ := H__law_draw
  obtain ⟨_, _, G__law_word_of, m__law_word_of, k__law_word_of, bd__law_word_of⟩ := H__law_word_of
  obtain ⟨_, _, G__law_wrong, m__law_wrong, k__law_wrong, bd__law_wrong⟩ := H__law_wrong
  refine def_L F sc_law (fun ds r ⟨_, _, e, _⟩ => by rw [e]; rfl) fun f cdv A outer s H E hr => ⟨_, (pss_cons (ps_set (i := 1) sc_law.nd rfl (Or.inl rfl) (pe_call G__law_draws (hr.mono (by omega)) (by rfl) m__law_draws k__law_draws bd__law_draws .nil pass0 (pa_cons (pv 0) pa_nil)))
    (pss_cons (ps_for PassesOwn.never rfl (pi_range1 (by rfl) T.b_range (pa_cons pe_int pa_nil)) (pg_name (i := 2) sc_law.nd rfl (Or.inl rfl))
      (pss_cons (ps_set (i := 3) sc_law.nd rfl (Or.inl rfl) (pe_call G__law_word (hr.mono (by omega)) (by rfl) m__law_word k__law_word bd__law_word .nil pass0 (pa_cons (pv 1) (pa_cons pe_int pa_nil))))
      (pss_cons (ps_set (i := 4) sc_law.nd rfl (Or.inl rfl) (pe_call G__law_pairs (hr.mono (by omega)) (by rfl) m__law_pairs k__law_pairs bd__law_pairs .nil pass0 (pa_cons (pv 3) pa_nil)))
      (pss_cons (ps_for PassesOwn.never rfl (pi_range1 (by rfl) T.b_range (pa_cons pe_int pa_nil)) (pg_name (i := 5) sc_law.nd rfl (Or.inl rfl))
        (pss_cons (ps_set (i := 6) sc_law.nd rfl (Or.inl rfl) (pe_call G_listed (hr.mono (by omega)) (by rfl) m_listed k_listed bd_listed .nil pass0 (pa_cons (pv 3) pa_nil)))
        (pss_one (ps_if (PW.pt (pw_or (pt_not (pt_val (pe_callB (call_isiU (K := K) rfl) (by rfl) T.b_isinstance (by decide +kernel) (pa_cons (pv 6) (pa_cons (pe_bltn (v := .ty "tuple") (by rfl) T.b_tuple (by decide +kernel) rfl) pa_nil))))) (pw_or (pt_cmpR (op_neU (K := K) rfl hr.units) (pv 6) (pv 4) (nomark _)) (pw_or (pt_val (pe_callB (call_anyU (K := K) rfl rfl) (by rfl) T.b_any (by decide +kernel) (pa_cons (pe_lc (own := [("pair", 10)]) (g := gName 10) rfl sc_law.nd (pi_tupK (K := K) rfl (pv 6)) (blkOk_by (N := n_law) (sc := defScope s_law) (by decide +kernel)) (fun _ _ _ _ _ => (pg_name (i := 10) sc_law.nd rfl (Or.inl rfl))) (fun _ _ _ _ _ => pts_nil) (fun _ _ _ _ _ => (pe_callB (call_isiU (K := K) rfl) (by rfl) T.b_isinstance (by decide +kernel) (pa_cons (pe_ix (ix_U (K := K) rfl) (pv 10) pe_int (fun _ _ => rfl)) (pa_cons (pe_bltn (v := .ty "bool") (by rfl) T.b_bool (by decide +kernel) rfl) pa_nil))))) pa_nil))) (pw_or1 (pt_cmpR (op_neU (K := K) rfl hr.units) (pe_call G_unlisted (hr.mono (by omega)) (by rfl) m_unlisted k_unlisted bd_unlisted .nil pass0 (pa_cons (pv 4) pa_nil)) (pv 3) (nomark _)))))))
          (pss_one (ps_ret pe_bl))
          pss_nil))))
      (pss_cons (ps_set (i := 7) sc_law.nd rfl (Or.inl rfl) (pe_lst pa_nil))
      (pss_cons (ps_for PassesOwn.never rfl (pi_range1 (by rfl) T.b_range (pa_cons (pe_call G__law_draw (hr.mono (by omega)) (by rfl) m__law_draw k__law_draw bd__law_draw .nil pass0 (pa_cons (pv 1) (pa_cons pe_int pa_nil))) pa_nil)) (pg_name (i := 8) sc_law.nd rfl (Or.inl rfl))
        (pss_one (ps_expr (pe_bm PySem.F.plainAttrs_list PySem.F.slot_list_append PySem.F.type_list_append mt_append (pv 7) (pa_cons (pe_tup (pa_cons (pe_call G__law_draw (hr.mono (by omega)) (by rfl) m__law_draw k__law_draw bd__law_draw .nil pass0 (pa_cons (pv 1) (pa_cons (pe_op (op_addU (K := K)) (pv 8) pe_int) pa_nil))) (pa_cons (pe_ix (ix_U (K := K) rfl) pe_str (pe_call G__law_draw (hr.mono (by omega)) (by rfl) m__law_draw k__law_draw bd__law_draw .nil pass0 (pa_cons (pv 1) (pa_cons pe_int pa_nil))) (fun _ _ => rfl)) pa_nil))) pa_nil)))))
      (pss_cons (ps_if (PW.pt (pw_or (pt_cmpR (op_neU (K := K) rfl hr.units) (pe_call G_unlisted (hr.mono (by omega)) (by rfl) m_unlisted k_unlisted bd_unlisted .nil pass0 (pa_cons (pe_callTy (call_tupU (K := K) rfl) (by rfl) T.b_tuple (by decide +kernel) (pa_cons (pv 7) pa_nil)) pa_nil)) (pe_call G__law_word_of (hr.mono (by omega)) (by rfl) m__law_word_of k__law_word_of bd__law_word_of .nil pass0 (pa_cons (pv 7) pa_nil)) (nomark _)) (pw_or1 (pt_cmpR op_notN (pe_call G_unlisted (hr.mono (by omega)) (by rfl) m_unlisted k_unlisted bd_unlisted .nil pass0 (pa_cons (pe_callTy (call_listU (K := K) rfl) (by rfl) T.b_list (by decide +kernel) (pa_cons (pv 7) pa_nil)) pa_nil)) pe_non (nomark _)))))
        (pss_one (ps_ret pe_bl))
        pss_nil)
      (pss_cons (ps_if (PW.pt (pw_and (pt_cmpR (op_gtU (K := K) rfl hr.units) (pe_callB (call_lenU (K := K) rfl) (by rfl) T.b_len PySem.boot_len (pa_cons (pv 7) pa_nil)) pe_int (nomark _)) (pw_and1 (pt_cmpR (op_neU (K := K) rfl hr.units) (pe_call G_unlisted (hr.mono (by omega)) (by rfl) m_unlisted k_unlisted bd_unlisted .nil pass0 (pa_cons (pe_op (op_addU (K := K)) (pe_callTy (call_tupU (K := K) rfl) (by rfl) T.b_tuple (by decide +kernel) (pa_cons (pv 7) pa_nil)) (pe_tup (pa_cons (pe_tup (pa_cons pe_int (pa_cons pe_str pa_nil))) pa_nil))) pa_nil)) (pe_call G__law_word_of (hr.mono (by omega)) (by rfl) m__law_word_of k__law_word_of bd__law_word_of .nil pass0 (pa_cons (pe_op (op_addU (K := K)) (pv 7) (pe_lst (pa_cons (pe_tup (pa_cons pe_int (pa_cons pe_str pa_nil))) pa_nil))) pa_nil)) (nomark _)))))
        (pss_one (ps_ret pe_bl))
        pss_nil)
      (pss_cons (ps_if (PW.pt (pw_or (pt_cmpR op_notN (pe_call G_unlisted (hr.mono (by omega)) (by rfl) m_unlisted k_unlisted bd_unlisted .nil pass0 (pa_cons (pe_call G__law_wrong (hr.mono (by omega)) (by rfl) m__law_wrong k__law_wrong bd__law_wrong .nil pass0 (pa_cons (pv 1) (pa_cons (pv 7) pa_nil))) pa_nil)) pe_non (nomark _)) (pw_or1 (pt_cmpR op_notN (pe_call G_unlisted (hr.mono (by omega)) (by rfl) m_unlisted k_unlisted bd_unlisted .nil pass0 (pa_cons (pe_op (op_addU (K := K)) (pe_callTy (call_tupU (K := K) rfl) (by rfl) T.b_tuple (by decide +kernel) (pa_cons (pv 7) pa_nil)) (pe_tup (pa_cons (pe_tup (pa_cons pe_int (pa_cons pe_str pa_nil))) pa_nil))) pa_nil)) pe_non (nomark _)))))
        (pss_one (ps_ret pe_bl))
        pss_nil)
      (pss_one (ps_if (PW.pt (pw_and (pt_cmpR (op_gtU (K := K) rfl hr.units) (pe_callB (call_lenU (K := K) rfl) (by rfl) T.b_len PySem.boot_len (pa_cons (pv 7) pa_nil)) pe_int (nomark _)) (pw_and1 (pt_cmpR op_notN (pe_call G_unlisted (hr.mono (by omega)) (by rfl) m_unlisted k_unlisted bd_unlisted .nil pass0 (pa_cons (pe_op (op_addU (K := K)) (pe_callTy (call_tupU (K := K) rfl) (by rfl) T.b_tuple (by decide +kernel) (pa_cons (pv 7) pa_nil)) (pe_tup (pa_cons (pe_tup (pa_cons pe_int (pa_cons pe_str pa_nil))) (pa_cons (pe_tup (pa_cons pe_int (pa_cons pe_str pa_nil))) pa_nil)))) pa_nil)) pe_non (nomark _)))))
        (pss_one (ps_ret pe_bl))
        pss_nil)))))))))))
    (pss_cons (ps_set (i := 9) sc_law.nd rfl (Or.inl rfl) (pe_callTy (call_tupU (K := K) rfl) (by rfl) T.b_tuple (by decide +kernel) (pa_cons (pe_lc (own := [("k", 8)]) (g := gName 8) rfl sc_law.nd (pi_range1 (by rfl) T.b_range (pa_cons pe_int pa_nil)) (blkOk_by (N := n_law) (sc := defScope s_law) (by decide +kernel)) (fun _ _ _ _ _ => (pg_name (i := 8) sc_law.nd rfl (Or.inl rfl))) (fun _ _ _ _ _ => pts_nil) (fun _ _ _ _ _ => (pe_tup (pa_cons (pv 8) (pa_cons pe_str pa_nil))))) pa_nil)))
    (pss_one (ps_ret (pe_and (pe_cmpR op_isN (pe_call G_unlisted (hr.mono (by omega)) (by rfl) m_unlisted k_unlisted bd_unlisted .nil pass0 (pa_cons (pv 9) pa_nil)) pe_non (nomark _)) (pe_and (pe_cmpR (op_eqU (K := K) rfl hr.units) (pe_call G_unlisted (hr.mono (by omega)) (by rfl) m_unlisted k_unlisted bd_unlisted .nil pass0 (pa_cons (pe_slice (sl_U (K := K) rfl) (pv 9) po_none (po_some pe_int)) pa_nil)) (pe_op op_mulU pe_str pe_int) (nomark _)) (pe_and (pe_cmpR (op_eqU (K := K) rfl hr.units) (pe_call G_listed (hr.mono (by omega)) (by rfl) m_listed k_listed bd_listed .nil pass0 (pa_cons pe_str pa_nil)) (pe_tup pa_nil) (nomark _)) (pe_and (pe_cmpR (op_eqU (K := K) rfl hr.units) (pe_call G_unlisted (hr.mono (by omega)) (by rfl) m_unlisted k_unlisted bd_unlisted .nil pass0 (pa_cons (pe_tup pa_nil) pa_nil)) pe_str (nomark _)) (pe_one (pe_cmpR op_isN (pe_call G_unlisted (hr.mono (by omega)) (by rfl) m_unlisted k_unlisted bd_unlisted .nil pass0 (pa_cons pe_non pa_nil)) pe_non (nomark _)))))))))))), fun ds r hR => ?_⟩
  obtain ⟨ns, hns, rfl, rfl⟩ := hR
  refine sw_seq (sw_asgN (nw_call (AVs.ew (av_cons (ev_var rfl) av_nil) ⟨[.list (ns.map PyData.int)], _, rfl, ⟨ns, rfl, rfl⟩, ?_⟩)))
  refine sw_mid (fun S' => ∃ m, DOk m ∧ Le ⟨[some (dLI ns), some (.o 0), none, none, none, none, none, none, none, none, none], [m]⟩ S') ?_ ?_
  · refine sw_for (js := [2]) (EI.ew (ei_rngN (av_cons (ev_nat 3) av_nil) (by omega)) ⟨fun i S' => ∃ m, DOk m ∧ Le ⟨[some (dLI ns), some (.o 0), none, none, none, none, none, none, none, none, none], [m]⟩ S', ⟨drM ns 0 0 1, ⟨_, _, _, _, rfl⟩, by walk_at "le"⟩, ?_, fun S' h => h⟩)
    rintro i d S' hdi ⟨m, hm, hS⟩
    obtain ⟨hi, rfl⟩ := rngN_at hdi
    refine gw_le hS ?_
    clear hS
    refine sw_seq (sw_asg (ew_word rfl rfl hm (ev_nat 150) (by omega) fun w hw hl m1 d1 => ?_))
    have hw : w.length ≤ 150 := by omega
    have hlz := lz_word hl
    have hzl := lz_len w [[]] []
    simp only [List.length_nil, Nat.add_zero] at hzl
    refine sw_seq (sw_asgE (ev_call (ds := [pS w]) (av_cons (ev_var rfl) av_nil) ⟨w, by omega, rfl, rfl⟩) ?_)
    refine sw_midL (fun S' => S' = ⟨[some (dLI ns), some (.o 0), none, none, none, none, none, none, none, none, none], [m1]⟩) ?_ ?_
    · refine sw_forL (js := [5]) (fun i S' => S' = ⟨[some (dLI ns), some (.o 0), none, some (dS w), some (dT ((M47.lz [[]] [] w).map pD)), none, none, none, none, none, none], [m1]⟩) (ei_rngN (av_cons (ev_nat 2) av_nil) (by omega)) ⟨_, by walk_at "le", rfl⟩ ?_ ?_
      · rintro i d S' hd rfl
        obtain ⟨hi, rfl⟩ := rngN_at hd
        refine gw_name ?_
        refine sw_seq (sw_asgE (ev_call (ds := [pS w]) (av_cons (ev_var rfl) av_nil) ⟨w, by omega, rfl, rfl⟩) ?_)
        refine sw_ifF (tv_or (b := false) (tv_not (b := true) (tv_B (ev_isi (ev_var rfl) (by rfl)))) fun _ => tv_or (b := false) (tv_test (ev_op (ev_var rfl) (ev_var rfl) (rb_is (rb_neX (tupP_depth _ _)) (by rw [tupP_self]; rfl)))) fun _ => tv_or (b := false) (tv_B (ev_cb (av_cons (EV.is (ev_lcA (js := [10]) (fun i => .bool false) (ei_tup (ev_var rfl)) (by simp; omega) (by simp) fun i d hd => ?_) (a' := dL ((List.replicate (M47.lz [[]] [] w).length false).map PyData.bool)) ?_) av_nil) (ra_is ra_any (by simp)))) fun _ => tv_test (ev_op (ev_call (r := pS w) (av_cons (ev_var rfl) av_nil) (R_good hlz.1 (by omega) ?_)) (ev_var rfl) rb_neS)) (by simp) (sw_next ⟨_, by walk_at "le", rfl⟩)
        · obtain ⟨p, hp, rfl⟩ := lst_at hd
          exact gw_name ⟨rfl, ev_isi (ev_op (ev_var rfl) (ev_nat 0) (rb_ixTN (d := pn p.1) rfl)) (by rfl)⟩
        · simp
          refine List.ext_getElem (by simp) fun j h1 h2 => by simp
        · rw [hlz.2, if_pos (by omega)]
      · rintro S' rfl
        exact ⟨_, by walk_at "le", rfl⟩
    rintro S' rfl
    refine sw_seq (sw_asgN (nw_lst (AVs.ew av_nil ⟨[], rfl, by decide, ?_⟩)))
    refine sw_mid (fun S' => ∃ ps m, (nice ps ∧ ps.length ≤ 13 ∧ DOk m) ∧ Le ⟨[some (dLI ns), some (.o 0), none, none, none, none, none, some (.o 1), none, none, none], [m, .l (ps.map pD)]⟩ S') ?_ ?_
    · refine sw_forW (js := [8]) (eiw_rng1 (aw_cons (ew_draw rfl rfl d1 (ev_nat 14) (by decide) (by decide) fun n hn m2 d2 => aw_nil ⟨(n : Int), rfl, by omega, by omega, fun i S' => ∃ ps m, (nice ps ∧ ps.length = i ∧ DOk m) ∧ S' = ⟨[some (dLI ns), some (.o 0), none, none, none, none, none, some (.o 1), none, none, none], [m, .l (ps.map pD)]⟩, ⟨_, by walk_at "le", [], m2, ⟨fun i p e => by simp at e, rfl, d2⟩, rfl⟩, ?_, ?_⟩)))
      · rintro i d S' hdi ⟨ps, m, ⟨hni, hl2, dm⟩, rfl⟩
        obtain ⟨hi, rfl⟩ := rng_at hdi
        have hi : i < n := by omega
        refine gw_name ?_
        refine sw_app (j := 1) rfl rfl (ew_tup (aw_cons (ew_draw rfl rfl dm (ev_op (ev_var rfl) (ev_nat 1) rb_addN) (by omega) (by omega) fun a ha m1 d1 => aw_cons (ew_op (EV.ew (ev_txt (l := [97, 98]) (by decide +kernel)) (ew_draw rfl rfl d1 (ev_nat 2) (by decide) (by decide) fun b hb m3 d3 => ⟨dS [([97, 98] : List Nat).getD b 0], rb_ixSN hb (by decide), aw_nil ⟨[pn a, pS [([97, 98] : List Nat).getD b 0]], rfl, (show 2 ≤ 1000000 by decide), ⟨_, _, rfl, rfl, by rw [List.length_map]; omega, ⟨_, ?_, ps ++ [(a, [([97, 98] : List Nat).getD b 0])], m3, ⟨nice_snoc hni (by omega) (ab_at hb), by rw [List.length_append, hl2]; rfl, d3⟩, rfl⟩⟩⟩⟩))))))
        rw [List.map_append]
        walk_at "le"
      · rintro S' ⟨ps, m, ⟨hni, hl2, dm⟩, rfl⟩
        rw [List.length_map, List.length_range] at hl2
        exact ⟨ps, m, ⟨hni, by omega, dm⟩, Le.refl _⟩
    rintro S' ⟨ps, m2, ⟨hn, hpl, d2⟩, hS⟩
    refine sw_le ?_ hS
    clear hS
    refine sw_frz (j := 1) rfl (Nat.zero_le _) ?_
    show SW K _ ⟨[some (dLI ns), some (.o 0), none, none, none, none, none, some (dL (ps.map pD)), none, none, none], [m2]⟩ _
    have hg := nice_good hn
    have hps : (ps.map pD).length = ps.length := List.length_map _
    have hsm := un_small hg (by omega)
    refine sw_seq (sw_ifF (tv_or (b := false) (tv_test (ev_op (ev_call (r := pS (M47.un [[]] ps).flatten) (av_cons (ev_cb (av_cons (ev_var rfl) av_nil) ra_tupL) av_nil) (R_good hg (by omega) (by rw [if_pos hsm]))) (ev_call (av_cons (ev_var rfl) av_nil) ⟨ps, by omega, hg, rfl, rfl⟩) (rb_is rb_neS (by rw [decide_eq_true rfl]; rfl)))) fun _ => tv_test (ev_op (ev_call (r := .none) (av_cons (ev_cb (av_cons (ev_var rfl) av_nil) ra_listL) av_nil) (.inr ⟨.inr ⟨_, rfl⟩, rfl⟩)) ev_non rb_notN)) rfl (sw_next ?_))
    refine sw_seq (sw_ifF (tv_and (c := false) (tv_test (ev_op (ev_cb (av_cons (ev_var rfl) av_nil) ra_lenL) (ev_nat 0) rb_gt)) fun hb => ?_) (Bool.and_false _) (sw_next ?_))
    · have h0 : 0 < ps.length := by have := of_decide_eq_true hb; omega
      have hg1 := nice_one hn h0
      have hs1 := un_small hg1 (by rw [List.length_append]; simp; omega)
      exact tv_test (ev_op (ev_call (r := pS (M47.un [[]] (ps ++ [(1, [])])).flatten) (av_cons (EV.is (ev_op (ev_cb (av_cons (ev_var rfl) av_nil) ra_tupL) (ev_tup (ds := [.tuple [pn 1, pS []]]) (av_cons (ev_tup (ds := [pn 1, pS []]) (av_cons (ev_nat 1) (av_cons (ev_txt (l := []) (by decide +kernel)) av_nil))) av_nil)) (rb_addT (by rw [hps]; simp; omega))) (a' := .d (.tuple ((ps ++ [(1, [])]).map pD))) (by rw [List.map_append]; rfl)) av_nil) (R_good hg1 (by rw [List.length_append]; simp; omega) (by rw [if_pos hs1]))) (ev_call (av_cons (EV.is (ev_op (ev_var rfl) (ev_lst (ds := [.tuple [pn 1, pS []]]) (av_cons (ev_tup (ds := [pn 1, pS []]) (av_cons (ev_nat 1) (av_cons (ev_txt (l := []) (by decide +kernel)) av_nil))) av_nil)) (rb_addL (by rw [hps]; simp; omega))) (a' := .d (.list ((ps ++ [(1, [])]).map pD))) (by rw [List.map_append]; rfl)) av_nil) ⟨_, by rw [List.length_append]; simp; omega, hg1, rfl, rfl⟩) (rb_is rb_neS (by rw [decide_eq_true rfl]; rfl)))
    refine sw_seq (sw_ifM (fun b mu => b = false ∧ ∃ m, mu = [m] ∧ DOk m) ?_ ?_ ?_)
    · refine tw_or (tw_test (ew_op (ew_call (aw_cons (ew_wrong rfl rfl (by omega) d2 (ev_var rfl) fun a x ha ho m3 d3 => aw_nil ⟨_, .none, rfl, R_oddW hn ha ho (by omega), EV.ew ev_non ⟨_, rb_notN, false, rfl, ?_⟩⟩)))))
      rw [if_neg Bool.false_ne_true]
      exact (tv_test (ev_op (ev_call (r := .none) (av_cons (EV.is (ev_op (ev_cb (av_cons (ev_var rfl) av_nil) ra_tupL) (ev_tup (ds := [.tuple [pn 0, pS []]]) (av_cons (ev_tup (ds := [pn 0, pS []]) (av_cons (ev_nat 0) (av_cons (ev_txt (l := []) (by decide +kernel)) av_nil))) av_nil)) (rb_addT (by rw [hps]; simp; omega))) (a' := .d (.tuple (ps.map pD ++ [pD (0, [])]))) rfl) av_nil) (R_zero hn (by omega))) ev_non rb_notN)).ew ⟨rfl, m3, rfl, d3⟩
    · rintro mu ⟨h, _⟩; cases h
    rintro mu ⟨_, m3, rfl, d3⟩
    refine sw_next ?_
    refine sw_ifF (tv_and (c := false) (tv_test (ev_op (ev_cb (av_cons (ev_var rfl) av_nil) ra_lenL) (ev_nat 0) rb_gt)) fun hb => ?_) (Bool.and_false _) (sw_next ⟨m3, d3, by walk_at "le"⟩)
    have h0 : 0 < ps.length := by have := of_decide_eq_true hb; omega
    exact tv_test (ev_op (ev_call (r := .none) (av_cons (EV.is (ev_op (ev_cb (av_cons (ev_var rfl) av_nil) ra_tupL) (ev_tup (ds := [.tuple [pn 1, pS []], .tuple [pn 0, pS [97]]]) (av_cons (ev_tup (ds := [pn 1, pS []]) (av_cons (ev_nat 1) (av_cons (ev_txt (l := []) (by decide +kernel)) av_nil))) (av_cons (ev_tup (ds := [pn 0, pS [97]]) (av_cons (ev_nat 0) (av_cons (ev_txt (l := [97]) (by decide +kernel)) av_nil))) av_nil))) (rb_addT (by rw [hps]; simp; omega))) (a' := .d (.tuple (ps.map pD ++ [pD (1, []), pD (0, [97])]))) rfl) av_nil) (R_early hn (by omega))) ev_non rb_notN)
  rintro S' ⟨m, hm, hS⟩
  refine sw_le ?_ hS
  clear hS
  have hLP : ∀ n, ((LP n).map pD) = (List.range n).map fun i => .tuple [pn i, pS [97]] := fun n => by rw [LP, List.map_map]; rfl
  refine sw_seq (sw_asgE (EV.is (ev_cb (av_cons (ev_lcA (js := [8]) (fun i => .tuple [pn i, pS [97]]) (ei_rngN (av_cons (ev_nat 28) av_nil) (by omega)) (by simp) (by simp) fun i d hd => ?_) av_nil) ra_tupL) (a' := dT ((LP 28).map pD)) (by rw [hLP]; simp)) ?_)
  · obtain ⟨hi, rfl⟩ := rngN_at hd
    exact gw_name ⟨rfl, ev_tup (ds := [pn i, pS [97]]) (av_cons (ev_var rfl) (av_cons (ev_txt (l := [97]) (by decide +kernel)) av_nil))⟩
  have tk : ((LP 28).map pD).take 27 = (LP 27).map pD := by rw [← List.map_take]; rfl
  refine sw_retE (EV.is (ev_and (b := true) (ev_op (ev_call (r := .none) (av_cons (ev_var rfl) av_nil) (R_good (nice_good (LP_nice 28)) (by decide) (by rw [if_neg LP_28]))) ev_non rb_isN) fun _ => ev_and (b := true) (ev_op (ev_call (r := pS (D2.rep [97] 378)) (av_cons (EV.is (ev_sl (ev_var rfl) ov_none (ov_some (ev_nat 27)) rsl_TtoN) (congrArg dT tk)) av_nil) (R_good (nice_good (LP_nice 27)) (by decide) (by rw [LP_27, if_pos (by rw [rep_length]; decide)]))) (ev_op (ev_txt (l := [97]) (by decide +kernel)) (ev_nat 378) (rb_mulSN (by decide) (by decide))) (rb_is rb_eqS (by rw [decide_eq_true rfl]))) fun _ => ev_and (b := true) (ev_op (ev_call (r := .tuple []) (av_cons (ev_txt (l := []) (by decide +kernel)) av_nil) ⟨[], by decide, rfl, rfl⟩) (ev_tup (ds := []) av_nil) (rb_is (rb_eqX (by decide)) rfl)) fun _ => ev_and (b := true) (ev_op (ev_call (r := pS []) (av_cons (ev_tup (ds := []) av_nil) av_nil) (R_good (ps := []) trivial (by decide) rfl)) (ev_txt (l := []) (by decide +kernel)) (rb_is rb_eqS (by rw [decide_eq_true rfl]))) fun _ => ev_op (ev_call (r := .none) (av_cons ev_non av_nil) (.inr ⟨.inl rfl, rfl⟩)) ev_non rb_isN) rfl) rfl
end
theorem all_mk {l : PySem.W.OpenLaw} {w : World} {K : PySem.W.Frag} {h : Heap} {mg : Str → Option Value} {fa : Addr} (X : K.In h) (G : h.Ns mainGlobals mg) (hfa : mg "law" = some (.ref fa))
    {f0 : Addr} {od0 an0 : Option Addr} {sl0 : Array (Option Value)} {oc0 kV0 dc0 pm0 cd0 ct0 : Value}
    (a0 : PySem.W.nsIn K mainGlobals "_law_draws" = some (some (.ref f0))) (l0 : K.lookup f0 = some ⟨oc0, od0, .func (PySem.W.fnOf "_law_draws" "_law_draws" (defArgs s__law_draws) (defBody s__law_draws) (defScope s__law_draws) .none kV0 dc0 pm0 an0 cd0 ct0), sl0⟩) (c0 : PySem.W.codeIn K cd0 "_law_draws" = true) (k0 : PySem.W.keepIn K (.ref f0) = true)
    {f1 : Addr} {od1 an1 : Option Addr} {sl1 : Array (Option Value)} {oc1 kV1 dc1 pm1 cd1 ct1 : Value}
    (a1 : PySem.W.nsIn K mainGlobals "_law_draw" = some (some (.ref f1))) (l1 : K.lookup f1 = some ⟨oc1, od1, .func (PySem.W.fnOf "_law_draw" "_law_draw" (defArgs s__law_draw) (defBody s__law_draw) (defScope s__law_draw) .none kV1 dc1 pm1 an1 cd1 ct1), sl1⟩) (c1 : PySem.W.codeIn K cd1 "_law_draw" = true) (k1 : PySem.W.keepIn K (.ref f1) = true)
    {f2 : Addr} {od2 an2 : Option Addr} {sl2 : Array (Option Value)} {oc2 kV2 dc2 pm2 cd2 ct2 : Value}
    (a2 : PySem.W.nsIn K mainGlobals "_law_word" = some (some (.ref f2))) (l2 : K.lookup f2 = some ⟨oc2, od2, .func (PySem.W.fnOf "_law_word" "_law_word" (defArgs s__law_word) (defBody s__law_word) (defScope s__law_word) .none kV2 dc2 pm2 an2 cd2 ct2), sl2⟩) (c2 : PySem.W.codeIn K cd2 "_law_word" = true) (k2 : PySem.W.keepIn K (.ref f2) = true)
    {f3 : Addr} {od3 an3 : Option Addr} {sl3 : Array (Option Value)} {oc3 kV3 dc3 pm3 cd3 ct3 : Value}
    (a3 : PySem.W.nsIn K mainGlobals "_law_pairs" = some (some (.ref f3))) (l3 : K.lookup f3 = some ⟨oc3, od3, .func (PySem.W.fnOf "_law_pairs" "_law_pairs" (defArgs s__law_pairs) (defBody s__law_pairs) (defScope s__law_pairs) .none kV3 dc3 pm3 an3 cd3 ct3), sl3⟩) (c3 : PySem.W.codeIn K cd3 "_law_pairs" = true) (k3 : PySem.W.keepIn K (.ref f3) = true)
    {f4 : Addr} {od4 an4 : Option Addr} {sl4 : Array (Option Value)} {oc4 kV4 dc4 pm4 cd4 ct4 : Value}
    (a4 : PySem.W.nsIn K mainGlobals "listed" = some (some (.ref f4))) (l4 : K.lookup f4 = some ⟨oc4, od4, .func (PySem.W.fnOf "listed" "listed" (defArgs s_listed) (defBody s_listed) (defScope s_listed) .none kV4 dc4 pm4 an4 cd4 ct4), sl4⟩) (c4 : PySem.W.codeIn K cd4 "listed" = true) (k4 : PySem.W.keepIn K (.ref f4) = true)
    {f5 : Addr} {od5 an5 : Option Addr} {sl5 : Array (Option Value)} {oc5 kV5 dc5 pm5 cd5 ct5 : Value}
    (a5 : PySem.W.nsIn K mainGlobals "is_place" = some (some (.ref f5))) (l5 : K.lookup f5 = some ⟨oc5, od5, .func (PySem.W.fnOf "is_place" "is_place" (defArgs s_is_place) (defBody s_is_place) (defScope s_is_place) .none kV5 dc5 pm5 an5 cd5 ct5), sl5⟩) (c5 : PySem.W.codeIn K cd5 "is_place" = true) (k5 : PySem.W.keepIn K (.ref f5) = true)
    {f6 : Addr} {od6 an6 : Option Addr} {sl6 : Array (Option Value)} {oc6 kV6 dc6 pm6 cd6 ct6 : Value}
    (a6 : PySem.W.nsIn K mainGlobals "is_letter" = some (some (.ref f6))) (l6 : K.lookup f6 = some ⟨oc6, od6, .func (PySem.W.fnOf "is_letter" "is_letter" (defArgs s_is_letter) (defBody s_is_letter) (defScope s_is_letter) .none kV6 dc6 pm6 an6 cd6 ct6), sl6⟩) (c6 : PySem.W.codeIn K cd6 "is_letter" = true) (k6 : PySem.W.keepIn K (.ref f6) = true)
    {f7 : Addr} {od7 an7 : Option Addr} {sl7 : Array (Option Value)} {oc7 kV7 dc7 pm7 cd7 ct7 : Value}
    (a7 : PySem.W.nsIn K mainGlobals "unlisted" = some (some (.ref f7))) (l7 : K.lookup f7 = some ⟨oc7, od7, .func (PySem.W.fnOf "unlisted" "unlisted" (defArgs s_unlisted) (defBody s_unlisted) (defScope s_unlisted) .none kV7 dc7 pm7 an7 cd7 ct7), sl7⟩) (c7 : PySem.W.codeIn K cd7 "unlisted" = true) (k7 : PySem.W.keepIn K (.ref f7) = true)
    {f8 : Addr} {od8 an8 : Option Addr} {sl8 : Array (Option Value)} {oc8 kV8 dc8 pm8 cd8 ct8 : Value}
    (a8 : PySem.W.nsIn K mainGlobals "_law_word_of" = some (some (.ref f8))) (l8 : K.lookup f8 = some ⟨oc8, od8, .func (PySem.W.fnOf "_law_word_of" "_law_word_of" (defArgs s__law_word_of) (defBody s__law_word_of) (defScope s__law_word_of) .none kV8 dc8 pm8 an8 cd8 ct8), sl8⟩) (c8 : PySem.W.codeIn K cd8 "_law_word_of" = true) (k8 : PySem.W.keepIn K (.ref f8) = true)
    {f9 : Addr} {od9 an9 : Option Addr} {sl9 : Array (Option Value)} {oc9 kV9 dc9 pm9 cd9 ct9 : Value}
    (a9 : PySem.W.nsIn K mainGlobals "_law_wrong" = some (some (.ref f9))) (l9 : K.lookup f9 = some ⟨oc9, od9, .func (PySem.W.fnOf "_law_wrong" "_law_wrong" (defArgs s__law_wrong) (defBody s__law_wrong) (defScope s__law_wrong) .none kV9 dc9 pm9 an9 cd9 ct9), sl9⟩) (c9 : PySem.W.codeIn K cd9 "_law_wrong" = true) (k9 : PySem.W.keepIn K (.ref f9) = true)
    {f10 : Addr} {od10 an10 : Option Addr} {sl10 : Array (Option Value)} {oc10 kV10 dc10 pm10 cd10 ct10 : Value}
    (a10 : PySem.W.nsIn K mainGlobals "law" = some (some (.ref f10))) (l10 : K.lookup f10 = some ⟨oc10, od10, .func (PySem.W.fnOf "law" "law" (defArgs s_law) (defBody s_law) (defScope s_law) .none kV10 dc10 pm10 an10 cd10 ct10), sl10⟩) (c10 : PySem.W.codeIn K cd10 "law" = true) (k10 : PySem.W.keepIn K (.ref f10) = true)
    (z_any : PySem.W.nsIn K mainGlobals "any" = some none)
    (z_bool : PySem.W.nsIn K mainGlobals "bool" = some none)
    (z_enumerate : PySem.W.nsIn K mainGlobals "enumerate" = some none)
    (z_int : PySem.W.nsIn K mainGlobals "int" = some none)
    (z_isinstance : PySem.W.nsIn K mainGlobals "isinstance" = some none)
    (z_len : PySem.W.nsIn K mainGlobals "len" = some none)
    (z_list : PySem.W.nsIn K mainGlobals "list" = some none)
    (z_max : PySem.W.nsIn K mainGlobals "max" = some none)
    (z_min : PySem.W.nsIn K mainGlobals "min" = some none)
    (z_range : PySem.W.nsIn K mainGlobals "range" = some none)
    (z_str : PySem.W.nsIn K mainGlobals "str" = some none)
    (z_tuple : PySem.W.nsIn K mainGlobals "tuple" = some none)
    {t_LETTERS : Tok} (y_LETTERS : PySem.W.nsIn K mainGlobals "LETTERS" = some (some (.str "abcdefghijklmnopqrstuvwxyz" t_LETTERS)))
    {t_MOST_LETTERS : Tok} (y_MOST_LETTERS : PySem.W.nsIn K mainGlobals "MOST_LETTERS" = some (some (.int 400 t_MOST_LETTERS)))
    : ∃ fd : FuncData, (∀ (s : Shared) (v : Value), BindsTo s fd ⟨[v], []⟩ [("script", v)]) ∧ ∀ base : Heap, K.In base → base.Ns mainGlobals mg → FnOk l.prog w K mg base CX0 3 fa fd ["script"] (spP K R_law) := by
  have e := hfa.symm.trans (PySem.W.mg_of X G a10)
  cases e
  have T : Bl mg := ⟨PySem.W.mg_none_of X G z_any, PySem.W.mg_none_of X G z_bool, PySem.W.mg_none_of X G z_enumerate, PySem.W.mg_none_of X G z_int, PySem.W.mg_none_of X G z_isinstance, PySem.W.mg_none_of X G z_len, PySem.W.mg_none_of X G z_list, PySem.W.mg_none_of X G z_max, PySem.W.mg_none_of X G z_min, PySem.W.mg_none_of X G z_range, PySem.W.mg_none_of X G z_str, PySem.W.mg_none_of X G z_tuple, ⟨_, PySem.W.mg_of X G y_LETTERS⟩, ⟨_, PySem.W.mg_of X G y_MOST_LETTERS⟩⟩
  have D__law_draws : Def K mg "_law_draws" "_law_draws" s__law_draws ["script"] := def_mk X G a0 l0 c0 k0 fun _ _ _ _ _ _ us hl => match us, hl with | [_], _ => rfl
  have D__law_draw : Def K mg "_law_draw" "_law_draw" s__law_draw ["draws", "limit"] := def_mk X G a1 l1 c1 k1 fun _ _ _ _ _ _ us hl => match us, hl with | [_, _], _ => rfl
  have D__law_word : Def K mg "_law_word" "_law_word" s__law_word ["draws", "most"] := def_mk X G a2 l2 c2 k2 fun _ _ _ _ _ _ us hl => match us, hl with | [_, _], _ => rfl
  have D__law_pairs : Def K mg "_law_pairs" "_law_pairs" s__law_pairs ["word"] := def_mk X G a3 l3 c3 k3 fun _ _ _ _ _ _ us hl => match us, hl with | [_], _ => rfl
  have D_listed : Def K mg "listed" "listed" s_listed ["word"] := def_mk X G a4 l4 c4 k4 fun _ _ _ _ _ _ us hl => match us, hl with | [_], _ => rfl
  have D_is_place : Def K mg "is_place" "is_place" s_is_place ["value", "least", "most"] := def_mk X G a5 l5 c5 k5 fun _ _ _ _ _ _ us hl => match us, hl with | [_, _, _], _ => rfl
  have D_is_letter : Def K mg "is_letter" "is_letter" s_is_letter ["value"] := def_mk X G a6 l6 c6 k6 fun _ _ _ _ _ _ us hl => match us, hl with | [_], _ => rfl
  have D_unlisted : Def K mg "unlisted" "unlisted" s_unlisted ["pairs"] := def_mk X G a7 l7 c7 k7 fun _ _ _ _ _ _ us hl => match us, hl with | [_], _ => rfl
  have D__law_word_of : Def K mg "_law_word_of" "_law_word_of" s__law_word_of ["pairs"] := def_mk X G a8 l8 c8 k8 fun _ _ _ _ _ _ us hl => match us, hl with | [_], _ => rfl
  have D__law_wrong : Def K mg "_law_wrong" "_law_wrong" s__law_wrong ["draws", "pairs"] := def_mk X G a9 l9 c9 k9 fun _ _ _ _ _ _ us hl => match us, hl with | [_, _], _ => rfl
  refine ⟨PySem.W.fnOf "law" "law" (defArgs s_law) (defBody s_law) (defScope s_law) .none kV10 dc10 pm10 an10 cd10 ct10, fun s v => .of_eq rfl, fun base _ _ => ?_⟩
  have H__law_draws : Has l.prog w K mg base 1 "_law_draws" ["script"] (spN K R__law_draws) := ok__law_draws T D__law_draws
  have H__law_draw : Has l.prog w K mg base 1 "_law_draw" ["draws", "limit"] (spD K R__law_draw) := ok__law_draw T D__law_draw
  have H__law_word : Has l.prog w K mg base 2 "_law_word" ["draws", "most"] (spD K R__law_word) := ok__law_word T D__law_word H__law_draw
  have H__law_pairs : Has l.prog w K mg base 1 "_law_pairs" ["word"] (spP K R__law_pairs) := ok__law_pairs T D__law_pairs
  have H_listed : Has l.prog w K mg base 1 "listed" ["word"] (spP K R_listed) := ok_listed T D_listed
  have H_is_place : Has l.prog w K mg base 1 "is_place" ["value", "least", "most"] (spP K R_is_place) := ok_is_place T D_is_place
  have H_is_letter : Has l.prog w K mg base 1 "is_letter" ["value"] (spP K R_is_letter) := ok_is_letter T D_is_letter
  have H_unlisted : Has l.prog w K mg base 2 "unlisted" ["pairs"] (spP K R_unlisted) := ok_unlisted T D_unlisted H_is_place H_is_letter
  have H__law_word_of : Has l.prog w K mg base 1 "_law_word_of" ["pairs"] (spP K R__law_word_of) := ok__law_word_of T D__law_word_of
  have H__law_wrong : Has l.prog w K mg base 2 "_law_wrong" ["draws", "pairs"] (spD K R__law_wrong) := ok__law_wrong T D__law_wrong H__law_draw
  exact ok_law T (fun_mk (st := s_law) l10 c10 k10) H__law_draws H__law_word H__law_pairs H_listed H_unlisted H__law_draw H__law_word_of H__law_wrong
end LW
open PySem PySem.W PyProof.Rows
set_option maxHeartbeats 0 in
theorem PySem.Challenge.cw_wordsalike_k47_lists_of_phrases_holds : PySem.Challenge.rw_wordsalike_k47_lists_of_phrases.Holds := by
  w_on; o_law; k_head; (case hw => w_witness2)
  k_fill
  refine L2.walk_of (l := PySem.Challenge.rw_wordsalike_k47_lists_of_phrases) (n := 63) (k := 3) (x := "script") (CX := fun _ => L2.CX0) (sp := fun w => D2.spP _ D2.R_law) rfl (by decide) rfl ⟨rfl, by decide, by decide⟩ (fun w h Y => PySem.W.kIn_of Y) ?F (fun _ _ a ns hl _ hS => D2.law_start hl hS) (fun _ _ _ _ _ h => h)
  case F =>
    intro w mg fa h KX G hmg
    refine' LW.all_mk KX G hmg ?a0 ?l0 ?c0 ?k0 ?a1 ?l1 ?c1 ?k1 ?a2 ?l2 ?c2 ?k2 ?a3 ?l3 ?c3 ?k3 ?a4 ?l4 ?c4 ?k4 ?a5 ?l5 ?c5 ?k5 ?a6 ?l6 ?c6 ?k6 ?a7 ?l7 ?c7 ?k7 ?a8 ?l8 ?c8 ?k8 ?a9 ?l9 ?c9 ?k9 ?a10 ?l10 ?c10 ?k10 ?z_any ?z_bool ?z_enumerate ?z_int ?z_isinstance ?z_len ?z_list ?z_max ?z_min ?z_range ?z_str ?z_tuple ?y_LETTERS ?y_MOST_LETTERS
    (case a0 => k_is); (case l0 => k_is); (case c0 => k_is); (case k0 => k_is)
    (case a1 => k_is); (case l1 => k_is); (case c1 => k_is); (case k1 => k_is)
    (case a2 => k_is); (case l2 => k_is); (case c2 => k_is); (case k2 => k_is)
    (case a3 => k_is); (case l3 => k_is); (case c3 => k_is); (case k3 => k_is)
    (case a4 => k_is); (case l4 => k_is); (case c4 => k_is); (case k4 => k_is)
    (case a5 => k_is); (case l5 => k_is); (case c5 => k_is); (case k5 => k_is)
    (case a6 => k_is); (case l6 => k_is); (case c6 => k_is); (case k6 => k_is)
    (case a7 => k_is); (case l7 => k_is); (case c7 => k_is); (case k7 => k_is)
    (case a8 => k_is); (case l8 => k_is); (case c8 => k_is); (case k8 => k_is)
    (case a9 => k_is); (case l9 => k_is); (case c9 => k_is); (case k9 => k_is)
    (case a10 => k_is); (case l10 => k_is); (case c10 => k_is); (case k10 => k_is)
    (case z_any => k_is); (case z_bool => k_is); (case z_enumerate => k_is); (case z_int => k_is)
    (case z_isinstance => k_is); (case z_len => k_is); (case z_list => k_is); (case z_max => k_is)
    (case z_min => k_is); (case z_range => k_is); (case z_str => k_is); (case z_tuple => k_is)
    (case y_LETTERS => k_is); (case y_MOST_LETTERS => k_is)
