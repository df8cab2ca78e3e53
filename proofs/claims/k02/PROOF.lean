import PyProof.Rows.All
import HandS.ForMost
import HandS.Evl
import KE.DataMinMax
import KE.SortData
import KE.DataEq
import HandS.IsInst
import HandS.StrMore
import HandS.TupAny
import PyProof.Rows.StrRev
import PyProof.Rows.StrFirst
import HandS.Style
import PyProof.Draws
import HandS.Sort
import HandS.Deep
import HandS.Replace
import HandS.Flt
import PyProof.EnumMake
import KE.GoesMore
import HandS.Gcd
import PyProof.Rows.RegReprOcc
import KE.SortCalls
import PyProof.TupleOfStr
import PyProof.ListStr
import HandS.DictComp
import HandS.WordsDict
import HandS.Conv
import HandS.TupMul
import PyProof.AutoIntOps
import HandS.WordsExc
import HandS.ExcInit
import HandS.ExcField
import HandS.ClsMeth
import HandS.HotCalls
import HandS.ExcInitHot
import PySem.Challenge.RW_wordsalike_k02_borders_and_periods
set_option Elab.async false
set_option linter.all false
set_option maxRecDepth 100000
set_option maxHeartbeats 4000000
/-! DL1: data over the hand layer. S: slots hold data, or lists and dicts of our own. -/
namespace D2
open PySem L2
/-- the heap without the addresses of M -/
def off (M : List Addr) (H : Hp) : Hp := fun b => if b ∈ M then none else H b
theorem off_of {M : List Addr} {H : Hp} {b : Addr} {o : HO} (h : off M H b = some o) : H b = some o ∧ b ∉ M := by
  unfold off at h
  by_cases hb : b ∈ M
  · rw [if_pos hb] at h; cases h
  · rw [if_neg hb] at h; exact ⟨h, hb⟩
theorem off_at {M : List Addr} {H : Hp} {b : Addr} (hb : b ∉ M) : off M H b = H b := by unfold off; rw [if_neg hb]
abbrev Ex (H H' : Hp) : Prop := ∀ a o, H a = some o → H' a = some o
theorem Ex.refl (H : Hp) : Ex H H := fun _ _ h => h
theorem Ex.trans {H H1 H2 : Hp} (a : Ex H H1) (b : Ex H1 H2) : Ex H H2 := fun x o h => b x o (a x o h)
theorem Ex.new {H : Hp} {p : Addr} {o : HO} (h : H p = none) : Ex H (upd H p o) := fun a u e => by rw [upd_ne (ne_of_none e h)]; exact e
theorem off_le {M : List Addr} {H : Hp} : Ex (off M H) H := fun _ _ h => (off_of h).1
theorem off_mono {M M' : List Addr} {H : Hp} (h : ∀ b ∈ M', b ∈ M) : Ex (off M H) (off M' H) := fun a o e => by
  obtain ⟨e1, e2⟩ := off_of e
  rw [off_at fun z => e2 (h a z)]; exact e1
theorem off_ex {M : List Addr} {H H' : Hp} (h : Ex H H') : Ex (off M H) (off M H') := fun a o e => by
  obtain ⟨e1, e2⟩ := off_of e
  rw [off_at e2]; exact h a o e1
theorem Rd.ex {H H' : Hp} {a : Addr} {u : HO} (e : Ex H H') (h : Rd H a u) : Rd H' a u := by
  rcases h with h | ⟨o, h⟩
  · exact .inl (e a _ h)
  · exact .inr ⟨o, e a _ h⟩
theorem sqL_ex {K : PySem.W.Frag} {H H' : Hp} {a : Addr} {xs : List V} (e : Ex H H') (h : SqL K H a xs) : SqL K H' a xs := by
  rcases h with h | h
  · exact .inl (Rd.ex e h)
  · exact .inr h
theorem sqT_ex {K : PySem.W.Frag} {H H' : Hp} {a : Addr} {xs : List V} (e : Ex H H') (h : SqT K H a xs) : SqT K H' a xs := by
  rcases h with h | h
  · exact .inl (Rd.ex e h)
  · exact .inr h
mutual
theorem dp_ex {K : PySem.W.Frag} {H H' : Hp} (e : Ex H H') : ∀ {v : V} {d : PyData}, Dp K H v d → Dp K H' v d
  | _, _, .non => .non
  | _, _, .bl b => .bl b
  | _, _, .int i => .int i
  | _, _, .str x => .str x
  | _, _, .lst h a => .lst (sqL_ex e h) (da_ex e a)
  | _, _, .tup h a => .tup (sqT_ex e h) (da_ex e a)
theorem da_ex {K : PySem.W.Frag} {H H' : Hp} (e : Ex H H') : ∀ {vs : List V} {ds : List PyData}, DpAll K H vs ds → DpAll K H' vs ds
  | _, _, .nil => .nil
  | _, _, .cons h a => .cons (dp_ex e h) (da_ex e a)
end
section
variable {K : PySem.W.Frag} {H H' : Hp}
theorem da_length : ∀ {vs : List V} {ds : List PyData}, DpAll K H vs ds → vs.length = ds.length
  | _, _, .nil => rfl
  | _, _, .cons _ a => by simp [da_length a]
theorem da_get : ∀ {vs : List V} {ds : List PyData} {i : Nat} {d : PyData}, DpAll K H vs ds → ds[i]? = some d → ∃ v, vs[i]? = some v ∧ Dp K H v d
  | _, _, _, _, .nil, e => by simp at e
  | _, _, 0, _, .cons h _, e => by simp at e; subst e; exact ⟨_, rfl, h⟩
  | _, _, i + 1, d, .cons _ a, e => by
    obtain ⟨v, h1, h2⟩ := da_get (i := i) (d := d) a (by simpa using e)
    exact ⟨v, by simpa using h1, h2⟩
theorem da_getV : ∀ {vs : List V} {ds : List PyData} {i : Nat} {v : V}, DpAll K H vs ds → vs[i]? = some v → ∃ d, ds[i]? = some d ∧ Dp K H v d
  | _, _, _, _, .nil, e => by simp at e
  | _, _, 0, _, .cons h _, e => by simp at e; subst e; exact ⟨_, rfl, h⟩
  | _, _, i + 1, v, .cons _ a, e => by
    obtain ⟨d, h1, h2⟩ := da_getV (i := i) (v := v) a (by simpa using e)
    exact ⟨d, by simpa using h1, h2⟩
theorem da_append : ∀ {vs ws : List V} {ds es : List PyData}, DpAll K H vs ds → DpAll K H ws es → DpAll K H (vs ++ ws) (ds ++ es)
  | _, _, _, _, .nil, b => b
  | _, _, _, _, .cons h a, b => .cons h (da_append a b)
theorem da_take : ∀ {vs : List V} {ds : List PyData} (n : Nat), DpAll K H vs ds → DpAll K H (vs.take n) (ds.take n)
  | _, _, 0, _ => by simp; exact .nil
  | _, _, _ + 1, .nil => .nil
  | _, _, n + 1, .cons h a => .cons h (da_take n a)
theorem da_drop : ∀ {vs : List V} {ds : List PyData} (n : Nat), DpAll K H vs ds → DpAll K H (vs.drop n) (ds.drop n)
  | _, _, 0, h => h
  | _, _, _ + 1, .nil => .nil
  | _, _, n + 1, .cons h a => da_drop n a
theorem da_set : ∀ {vs : List V} {ds : List PyData} {v : V} {d : PyData} (n : Nat), Dp K H v d → DpAll K H vs ds → DpAll K H (vs.set n v) (ds.set n d)
  | _, _, _, _, _, _, .nil => .nil
  | _, _, _, _, 0, h, .cons _ a => .cons h a
  | _, _, _, _, n + 1, h, .cons g a => .cons g (da_set n h a)
theorem da_dropLast {vs : List V} {ds : List PyData} (h : DpAll K H vs ds) : DpAll K H vs.dropLast ds.dropLast := by
  rw [List.dropLast_eq_take, List.dropLast_eq_take, da_length h]; exact da_take _ h
theorem da_replicate {v : V} {d : PyData} (h : Dp K H v d) : ∀ n, DpAll K H (List.replicate n v) (List.replicate n d)
  | 0 => .nil
  | n + 1 => .cons h (da_replicate h n)
theorem da_ints : ∀ {vs : List V} {ns : List Int}, DpAll K H vs (ns.map PyData.int) → vs = ns.map V.int
  | _, [], h => by cases h; rfl
  | _, n :: ns, h => by cases h with | cons h a => cases h; rw [da_ints a]; rfl
theorem da_of_ints : ∀ (ns : List Int), DpAll K H (ns.map V.int) (ns.map PyData.int)
  | [] => .nil
  | _ :: ns => .cons (.int _) (da_of_ints ns)
theorem da_strs : ∀ {vs : List V} {ns : List Str}, DpAll K H vs (ns.map PyData.str) → vs = ns.map V.str
  | _, [], h => by cases h; rfl
  | _, n :: ns, h => by cases h with | cons h a => cases h; rw [da_strs a]; rfl
theorem da_of_strs : ∀ (ns : List Str), DpAll K H (ns.map V.str) (ns.map PyData.str)
  | [] => .nil
  | _ :: ns => .cons (.str _) (da_of_strs ns)
theorem da_bls : ∀ {vs : List V} {ns : List Bool}, DpAll K H vs (ns.map PyData.bool) → vs = ns.map V.bl
  | _, [], h => by cases h; rfl
  | _, n :: ns, h => by cases h with | cons h a => cases h; rw [da_bls a]; rfl
end
/-- a thing of our own: a list; a dict -/
inductive MO where
  | l (xs : List PyData)
  | k (kvs : List (Key × PyData))
  | r (lo hi : Int)
/-- what a slot holds: data; the j-th thing of our own -/
inductive AV where
  | d (x : PyData)
  | o (j : Nat)
structure AS where
  sl : List (Option AV)
  mu : List MO
def MoOk (K : PySem.W.Frag) (Hf H : Hp) (p : Addr) : MO → Prop
  | .l xs => ∃ vs, H p = some (.lst vs) ∧ DpAll K Hf vs xs
  | .k kvs => ∃ vs, H p = some (.dK vs) ∧ vs.map (·.1) = kvs.map (·.1) ∧ DpAll K Hf (vs.map (·.2)) (kvs.map (·.2))
  | .r lo hi => H p = some (.rng lo hi)
def MuOk (K : PySem.W.Frag) (Hf H : Hp) (as : List Addr) (mu : List MO) : Prop := as.length = mu.length ∧ ∀ (j : Nat) p m, as[j]? = some p → mu[j]? = some m → MoOk K Hf H p m
def RepV (K : PySem.W.Frag) (Hf : Hp) (as : List Addr) (v : V) : AV → Prop
  | .d x => Dp K Hf v x
  | .o j => ∃ p, as[j]? = some p ∧ v = .ref p
inductive RepA (K : PySem.W.Frag) (Hf : Hp) (as : List Addr) : List V → List AV → Prop
  | nil : RepA K Hf as [] []
  | cons {v : V} {vs : List V} {a : AV} {avs : List AV} : RepV K Hf as v a → RepA K Hf as vs avs → RepA K Hf as (v :: vs) (a :: avs)
theorem MoOk.ex {K : PySem.W.Frag} {Hf Hf' H H' : Hp} {p : Addr} {m : MO} (e1 : Ex Hf Hf') (e2 : H p = H' p) (h : MoOk K Hf H p m) : MoOk K Hf' H' p m := by
  cases m with
  | l xs => obtain ⟨vs, h1, h2⟩ := h; exact ⟨vs, e2 ▸ h1, da_ex e1 h2⟩
  | k kvs => obtain ⟨vs, h1, h2, h3⟩ := h; exact ⟨vs, e2 ▸ h1, h2, da_ex e1 h3⟩
  | r lo hi => exact e2.symm.trans h
theorem RepV.ex {K : PySem.W.Frag} {Hf Hf' : Hp} {as : List Addr} {v : V} {a : AV} (e : Ex Hf Hf') (h : RepV K Hf as v a) : RepV K Hf' as v a := by
  cases a with
  | d x => exact dp_ex e h
  | o j => exact h
theorem RepA.ex {K : PySem.W.Frag} {Hf Hf' : Hp} {as : List Addr} (e : Ex Hf Hf') : ∀ {vs : List V} {avs : List AV}, RepA K Hf as vs avs → RepA K Hf' as vs avs
  | _, _, .nil => .nil
  | _, _, .cons h a => .cons (h.ex e) (RepA.ex e a)
theorem RepA.all {K : PySem.W.Frag} {Hf : Hp} {as : List Addr} : ∀ {vs : List V} {ds : List PyData}, RepA K Hf as vs (ds.map AV.d) → DpAll K Hf vs ds
  | _, [], h => by cases h; exact .nil
  | _, d :: ds, h => by cases h with | cons h a => exact .cons h (RepA.all a)
/-- the state: S told by the slots σ and the heap H; as: where our own things stand; fr: things that are others' -/
structure Ok (K : PySem.W.Frag) (Z : Hp) (as0 as fr : List Addr) (S : AS) (σ : L2.St) (H : Hp) : Prop where
  len : σ.length = S.sl.length
  sl : ∀ (i : Nat) av, S.sl[i]? = some (some av) → ∃ v, σ[i]? = some (some v) ∧ RepV K (off (as ++ fr) H) as v av
  mu : MuOk K (off (as ++ fr) H) H as S.mu
  nd : (as ++ fr).Nodup
  ex : ∀ q ∈ as ++ fr, ∃ o, H q = some o
  pre : ∃ more, as = as0 ++ more
  pres : ∀ b o, Z b = some o → b ∉ as ∧ H b = some o
section
variable {K : PySem.W.Frag} {Z H H' : Hp} {as0 as fr : List Addr} {S : AS} {σ : L2.St}
theorem Ok.grow (h : Ok K Z as0 as fr S σ H) (e : Ex H H') : Ok K Z as0 as fr S σ H' where
  len := h.len
  sl := fun i av hi => let ⟨v, h1, h2⟩ := h.sl i av hi; ⟨v, h1, h2.ex (off_ex e)⟩
  mu := ⟨h.mu.1, fun j p m hj hm => (h.mu.2 j p m hj hm).ex (off_ex e) (by
    obtain ⟨o, ho⟩ := h.ex p (List.mem_append_left _ (List.mem_of_getElem? hj))
    rw [ho, e p o ho])⟩
  nd := h.nd
  ex := fun q hq => let ⟨o, ho⟩ := h.ex q hq; ⟨o, e q o ho⟩
  pre := h.pre
  pres := fun b o h1 => ⟨(h.pres b o h1).1, e b o (h.pres b o h1).2⟩
theorem Ok.fresh (h : Ok K Z as0 as fr S σ H) {p : Addr} (hp : H p = none) : p ∉ as ++ fr := fun hm => by
  obtain ⟨o, ho⟩ := h.ex p hm
  rw [hp] at ho; cases ho
theorem Ok.weak {S' : AS} (h : Ok K Z as0 as fr S σ H) (hl : S'.sl.length = S.sl.length) (w : ∀ (i : Nat) av, S'.sl[i]? = some (some av) → S.sl[i]? = some (some av)) (hm : S'.mu = S.mu) : Ok K Z as0 as fr S' σ H where
  len := h.len.trans hl.symm
  sl := fun i av hi => h.sl i av (w i av hi)
  mu := hm ▸ h.mu
  nd := h.nd
  ex := h.ex
  pre := h.pre
  pres := h.pres
/-- a slot is stored -/
theorem Ok.store (h : Ok K Z as0 as fr S σ H) {i : Nat} {v : V} {av : AV} (r : RepV K (off (as ++ fr) H) as v av) : Ok K Z as0 as fr ⟨S.sl.set i (some av), S.mu⟩ (σ.set i (some v)) H where
  len := by simp [h.len]
  sl := fun j a hj => by
    have hj' : (S.sl.set i (some av))[j]? = some (some a) := hj
    by_cases e : i = j
    · subst e
      have hi : i < S.sl.length := by
        have := (List.getElem?_eq_some_iff.mp hj').1
        simpa using this
      rw [List.getElem?_set_self hi] at hj'
      cases hj'
      exact ⟨v, List.getElem?_set_self (by rw [h.len]; exact hi), r⟩
    · rw [List.getElem?_set_ne e] at hj'
      obtain ⟨u, h1, h2⟩ := h.sl j a hj'
      exact ⟨u, by rw [List.getElem?_set_ne e]; exact h1, h2⟩
  mu := h.mu
  nd := h.nd
  ex := h.ex
  pre := h.pre
  pres := h.pres
/-- a thing of our own is changed -/
theorem Ok.put (h : Ok K Z as0 as fr S σ H) {j : Nat} {p : Addr} {o : HO} {m : MO} (hp : as[j]? = some p) (hm : MoOk K (off (as ++ fr) H) (upd H p o) p m) : Ok K Z as0 as fr ⟨S.sl, S.mu.set j m⟩ σ (upd H p o) := by
  have pin : p ∈ as := List.mem_of_getElem? hp
  have eo : Ex (off (as ++ fr) H) (off (as ++ fr) (upd H p o)) := fun a u e => by
    obtain ⟨e1, e2⟩ := off_of e
    rw [off_at e2, upd_ne (fun z => e2 (by rw [z]; exact List.mem_append_left _ pin))]; exact e1
  refine ⟨h.len, fun i av hi => let ⟨v, h1, h2⟩ := h.sl i av hi; ⟨v, h1, h2.ex eo⟩, ⟨by simpa using h.mu.1, fun i q m' hi hm' => ?_⟩, h.nd, fun q hq => ?_, h.pre, fun b u h1 => ?_⟩
  · have hm'' : (S.mu.set j m)[i]? = some m' := hm'
    by_cases e : j = i
    · subst e
      have hj : j < S.mu.length := by
        have := (List.getElem?_eq_some_iff.mp hm'').1
        simpa using this
      rw [List.getElem?_set_self hj] at hm''
      cases hm''
      rw [hp] at hi; cases hi
      exact hm.ex eo rfl
    · rw [List.getElem?_set_ne e] at hm''
      refine (h.mu.2 i q m' hi hm'').ex eo ?_
      have : q ≠ p := fun z => by
        subst z
        have nda : as.Nodup := (List.nodup_append.mp h.nd).1
        obtain ⟨h1, e1⟩ := List.getElem?_eq_some_iff.mp hi
        obtain ⟨h2, e2⟩ := List.getElem?_eq_some_iff.mp hp
        exact e ((List.getElem_inj nda).mp (e2.trans e1.symm))
      rw [upd_ne this]
  · by_cases e : q = p
    · subst e; exact ⟨o, upd_same⟩
    · obtain ⟨u, hu⟩ := h.ex q hq
      exact ⟨u, by rw [upd_ne e]; exact hu⟩
  · obtain ⟨h3, h4⟩ := h.pres b u h1
    exact ⟨h3, by rw [upd_ne (fun z => h3 (by rw [z]; exact pin))]; exact h4⟩
/-- a new thing of our own -/
theorem Ok.own (h : Ok K Z as0 as fr S σ H) {p : Addr} {o : HO} {m : MO} (hp : H p = none) (hm : MoOk K (off (as ++ fr) H) (upd H p o) p m) : Ok K Z as0 (as ++ [p]) fr ⟨S.sl, S.mu ++ [m]⟩ σ (upd H p o) := by
  have hf := h.fresh hp
  have eo : Ex (off (as ++ fr) H) (off ((as ++ [p]) ++ fr) (upd H p o)) := fun a u e => by
    obtain ⟨e1, e2⟩ := off_of e
    have ne : a ≠ p := ne_of_none e1 hp
    rw [off_at (fun z => e2 ?_), upd_ne ne]
    · exact e1
    · rcases List.mem_append.mp z with z | z
      · rcases List.mem_append.mp z with z | z
        · exact List.mem_append_left _ z
        · exact absurd (List.mem_singleton.mp z) ne
      · exact List.mem_append_right _ z
  have ro : ∀ v av, RepV K (off (as ++ fr) H) as v av → RepV K (off ((as ++ [p]) ++ fr) (upd H p o)) (as ++ [p]) v av := fun v av r => by
    cases av with
    | d x => exact dp_ex eo r
    | o j =>
      obtain ⟨q, h1, h2⟩ := r
      exact ⟨q, by rw [List.getElem?_append_left (List.getElem?_eq_some_iff.mp h1).1]; exact h1, h2⟩
  refine ⟨h.len, fun i av hi => let ⟨v, h1, h2⟩ := h.sl i av hi; ⟨v, h1, ro v av h2⟩, ⟨by simpa using h.mu.1, fun i q m' hi hm' => ?_⟩, ?_, fun q hq => ?_, ?_, fun b u h1 => ?_⟩
  · by_cases e : i < as.length
    · rw [List.getElem?_append_left e] at hi
      have hm'' : (S.mu ++ [m])[i]? = some m' := hm'
      rw [List.getElem?_append_left (by rw [← h.mu.1]; exact e)] at hm''
      refine (h.mu.2 i q m' hi hm'').ex eo ?_
      have : q ≠ p := fun z => hf (z ▸ List.mem_append_left _ (List.mem_of_getElem? hi))
      rw [upd_ne this]
    · have hm'' : (S.mu ++ [m])[i]? = some m' := hm'
      have hi' := (List.getElem?_eq_some_iff.mp hi).1
      have ei : i = as.length := by simp at hi'; omega
      subst ei
      rw [List.getElem?_append_right (Nat.le_refl _), Nat.sub_self] at hi
      rw [h.mu.1, List.getElem?_append_right (Nat.le_refl _), Nat.sub_self] at hm''
      cases hi; cases hm''
      exact hm.ex eo rfl
  · have := h.nd
    rw [List.append_assoc]
    refine List.nodup_append.mpr ⟨(List.nodup_append.mp this).1, List.nodup_cons.mpr ⟨fun z => hf (List.mem_append_right _ z), (List.nodup_append.mp this).2.1⟩, fun a ha b hb => ?_⟩
    rcases List.mem_cons.mp hb with e | hb
    · rw [e]; exact fun z => hf (z ▸ List.mem_append_left _ ha)
    · exact (List.nodup_append.mp this).2.2 a ha b hb
  · by_cases e : q = p
    · subst e; exact ⟨o, upd_same⟩
    · rw [upd_ne e]
      refine h.ex q ?_
      rcases List.mem_append.mp hq with z | z
      · rcases List.mem_append.mp z with z | z
        · exact List.mem_append_left _ z
        · exact absurd (List.mem_singleton.mp z) e
      · exact List.mem_append_right _ z
  · obtain ⟨more, e⟩ := h.pre
    exact ⟨more ++ [p], by rw [e, List.append_assoc]⟩
  · obtain ⟨h3, h4⟩ := h.pres b u h1
    have ne : b ≠ p := ne_of_none h4 hp
    refine ⟨fun z => ?_, by rw [upd_ne ne]; exact h4⟩
    rcases List.mem_append.mp z with z | z
    · exact h3 z
    · exact ne (List.mem_singleton.mp z)
end
end D2
set_option Elab.async false
set_option linter.all false
set_option maxRecDepth 100000
set_option maxHeartbeats 4000000
/-! DL2: what readings do, said over data: EW (with what it does to our own things), EV (pure), tests, arguments, loops, comprehensions, statements. -/
namespace D2
open PySem L2
abbrev Mu := List MO
abbrev dI (i : Int) : AV := .d (.int i)
abbrev dB (b : Bool) : AV := .d (.bool b)
abbrev dN : AV := .d .none
abbrev dS (l : List Nat) : AV := .d (.str ⟨l.toArray⟩)
abbrev pS (l : List Nat) : PyData := .str ⟨l.toArray⟩
abbrev dL (xs : List PyData) : AV := .d (.list xs)
abbrev dT (xs : List PyData) : AV := .d (.tuple xs)
def Gr (as fr : List Addr) (H H' : Hp) : Prop := Ex (off (as ++ fr) H) (off (as ++ fr) H')
theorem Gr.refl {as fr : List Addr} {H : Hp} : Gr as fr H H := Ex.refl _
theorem Gr.trans {as fr : List Addr} {H H1 H2 : Hp} (a : Gr as fr H H1) (b : Gr as fr H1 H2) : Gr as fr H H2 := Ex.trans a b
theorem Gr.of {as fr : List Addr} {H H' : Hp} (e : Ex H H') : Gr as fr H H' := off_ex e
/-- what may be known of a heap where values are handled -/
structure Hk (K : PySem.W.Frag) (as fr : List Addr) (mu : Mu) (H : Hp) : Prop where
  mu : MuOk K (off (as ++ fr) H) H as mu
  ex : ∀ q ∈ as ++ fr, ∃ o, H q = some o
theorem Ok.hk {K : PySem.W.Frag} {Z H : Hp} {as0 as fr : List Addr} {S : AS} {σ : L2.St} (h : Ok K Z as0 as fr S σ H) : Hk K as fr S.mu H := ⟨h.mu, h.ex⟩
theorem Hk.fresh {K : PySem.W.Frag} {as fr : List Addr} {mu : Mu} {H : Hp} (h : Hk K as fr mu H) {p : Addr} (hp : H p = none) : p ∉ as ++ fr := fun hm => by
  obtain ⟨o, ho⟩ := h.ex p hm
  rw [hp] at ho; cases ho
theorem Hk.grow {K : PySem.W.Frag} {as fr : List Addr} {mu : Mu} {H H' : Hp} (h : Hk K as fr mu H) (e : Ex H H') : Hk K as fr mu H' :=
  ⟨⟨h.mu.1, fun j p m hj hm => (h.mu.2 j p m hj hm).ex (off_ex e) (by
    obtain ⟨o, ho⟩ := h.ex p (List.mem_append_left _ (List.mem_of_getElem? hj))
    rw [ho, e p o ho])⟩, fun q hq => let ⟨o, ho⟩ := h.ex q hq; ⟨o, e q o ho⟩⟩
/-- a new object is data -/
theorem Hk.lay {K : PySem.W.Frag} {as fr : List Addr} {mu : Mu} {H : Hp} (h : Hk K as fr mu H) {p : Addr} {o : HO} (hp : H p = none) : off (as ++ fr) (upd H p o) p = some o := by
  rw [off_at (h.fresh hp), upd_same]
theorem sqL_of {K : PySem.W.Frag} {H : Hp} {a : Addr} {xs : List V} (h : H a = some (.lst xs)) : SqL K H a xs := .inl (.inl h)
theorem sqT_of {K : PySem.W.Frag} {H : Hp} {a : Addr} {xs : List V} (h : H a = some (.tup xs)) : SqT K H a xs := .inl (.inl h)
theorem sz_of {n : Nat} (h : n ≤ 1000000) : n ≤ sizeLine := Nat.le_trans h (by decide)
theorem sz_lt {n : Nat} (h : n < 1000000) : n < sizeLine := Nat.lt_of_lt_of_le h (by decide)
/-! ### by values -/
section
variable (K : PySem.W.Frag)
def Kv (as fr : List Addr) (H : Hp) (a : AV) (Q : VK) : Prop := ∀ v H', Ex H H' → RepV K (off (as ++ fr) H') as v a → Q v H'
def RB (mu : Mu) (r : R2) (a1 a2 a : AV) : Prop := ∀ as fr H v1 v2, Hk K as fr mu H → RepV K (off (as ++ fr) H) as v1 a1 → RepV K (off (as ++ fr) H) as v2 a2 → ∀ Q : VK, Kv K as fr H a Q → r v1 v2 H Q
def RU (mu : Mu) (r : V → Hp → VK → Prop) (a1 a : AV) : Prop := ∀ as fr H v1, Hk K as fr mu H → RepV K (off (as ++ fr) H) as v1 a1 → ∀ Q : VK, Kv K as fr H a Q → r v1 H Q
def RA (mu : Mu) (r : List V → Hp → VK → Prop) (avs : List AV) (a : AV) : Prop := ∀ as fr H vs, Hk K as fr mu H → RepA K (off (as ++ fr) H) as vs avs → ∀ Q : VK, Kv K as fr H a Q → r vs H Q
/-- a method by values: x its thing -/
def RM (mu : Mu) (r : V → List V → Hp → VK → Prop) (x : AV) (avs : List AV) (a : AV) : Prop := ∀ as fr H v vs, Hk K as fr mu H → RepV K (off (as ++ fr) H) as v x → RepA K (off (as ++ fr) H) as vs avs → ∀ Q : VK, Kv K as fr H a Q → r v vs H Q
end
section
variable {K : PySem.W.Frag} {Hf : Hp} {as : List Addr}
theorem rv_int {i : Int} : RepV K Hf as (.int i) (dI i) := .int i
theorem rv_bl {i : Bool} : RepV K Hf as (.bl i) (dB i) := .bl i
theorem rv_non : RepV K Hf as .non dN := .non
theorem rv_str {i : Str} : RepV K Hf as (.str i) (.d (.str i)) := .str i
theorem rv_lst {p : Addr} {vs : List V} {ds : List PyData} (h : SqL K Hf p vs) (a : DpAll K Hf vs ds) : RepV K Hf as (.ref p) (dL ds) := .lst h a
theorem rv_tup {p : Addr} {vs : List V} {ds : List PyData} (h : SqT K Hf p vs) (a : DpAll K Hf vs ds) : RepV K Hf as (.ref p) (dT ds) := .tup h a
end
theorem Kv.same {K : PySem.W.Frag} {as fr : List Addr} {H : Hp} {a : AV} {Q : VK} (k : Kv K as fr H a Q) {v : V} (h : RepV K (off (as ++ fr) H) as v a) : Q v H := k v H (Ex.refl H) h
theorem Kv.int {K : PySem.W.Frag} {as fr : List Addr} {H : Hp} {i : Int} {Q : VK} (k : Kv K as fr H (dI i) Q) : Q (.int i) H := k _ H (Ex.refl H) (.int i)
theorem Kv.bl {K : PySem.W.Frag} {as fr : List Addr} {H : Hp} {i : Bool} {Q : VK} (k : Kv K as fr H (dB i) Q) : Q (.bl i) H := k _ H (Ex.refl H) (.bl i)
theorem Kv.str {K : PySem.W.Frag} {as fr : List Addr} {H : Hp} {i : Str} {Q : VK} (k : Kv K as fr H (.d (.str i)) Q) : Q (.str i) H := k _ H (Ex.refl H) (.str i)
/-- a new list, a new tuple -/
theorem Kv.lst {K : PySem.W.Frag} {as fr : List Addr} {mu : Mu} {H : Hp} {xs : List PyData} {vs : List V} {Q : VK} (k : Kv K as fr H (dL xs) Q) (h : Hk K as fr mu H) {p : Addr} (hp : H p = none) (ha : DpAll K (off (as ++ fr) H) vs xs) : Q (.ref p) (upd H p (.lst vs)) :=
  k _ _ (Ex.new hp) (.lst (sqL_of (h.lay hp)) (da_ex (off_ex (Ex.new hp)) ha))
theorem Kv.tup {K : PySem.W.Frag} {as fr : List Addr} {mu : Mu} {H : Hp} {xs : List PyData} {vs : List V} {Q : VK} (k : Kv K as fr H (dT xs) Q) (h : Hk K as fr mu H) {p : Addr} (hp : H p = none) (ha : DpAll K (off (as ++ fr) H) vs xs) : Q (.ref p) (upd H p (.tup vs)) :=
  k _ _ (Ex.new hp) (.tup (sqT_of (h.lay hp)) (da_ex (off_ex (Ex.new hp)) ha))
/-! ### expressions -/
section
variable (K : PySem.W.Frag)
def EW (t : TE) (S : AS) (P : AV → Mu → Prop) : Prop := ∀ Z as0 as fr σ H, Ok K Z as0 as fr S σ H → ∀ Q : VK,
  (∀ v H' a mu', Gr as fr H H' → Ok K Z as0 as fr ⟨S.sl, mu'⟩ σ H' → RepV K (off (as ++ fr) H') as v a → P a mu' → Q v H') → t σ H Q
def EV (t : TE) (S : AS) (a : AV) : Prop := EW K t S fun a' mu' => a' = a ∧ mu' = S.mu
def TW (t : TT) (S : AS) (P : Bool → Mu → Prop) : Prop := ∀ Z as0 as fr σ H, Ok K Z as0 as fr S σ H → ∀ Q : Bool → Hp → Prop,
  (∀ b H' mu', Gr as fr H H' → Ok K Z as0 as fr ⟨S.sl, mu'⟩ σ H' → P b mu' → Q b H') → t σ H Q
def TV (t : TT) (S : AS) (b : Bool) : Prop := TW K t S fun b' mu' => b' = b ∧ mu' = S.mu
def AW (t : TA) (S : AS) (P : List AV → Mu → Prop) : Prop := ∀ Z as0 as fr σ H, Ok K Z as0 as fr S σ H → ∀ Q : List V → Hp → Prop,
  (∀ vs H' avs mu', Gr as fr H H' → Ok K Z as0 as fr ⟨S.sl, mu'⟩ σ H' → RepA K (off (as ++ fr) H') as vs avs → P avs mu' → Q vs H') → t σ H Q
def AVs (t : TA) (S : AS) (avs : List AV) : Prop := AW K t S fun avs' mu' => avs' = avs ∧ mu' = S.mu
/-- an optional part of a slice -/
def OW (t : TO) (S : AS) (P : Option Int → Mu → Prop) : Prop := ∀ Z as0 as fr σ H, Ok K Z as0 as fr S σ H → ∀ Q : Option Int → Hp → Prop,
  (∀ o H' mu', Gr as fr H H' → Ok K Z as0 as fr ⟨S.sl, mu'⟩ σ H' → P o mu' → Q o H') → t σ H Q
def OV (t : TO) (S : AS) (o : Option Int) : Prop := OW K t S fun o' mu' => o' = o ∧ mu' = S.mu
end
section
variable {K : PySem.W.Frag} {S : AS} {ta tb te tx : TE} {t u : TT} {a a1 a2 a3 : AV} {P P' : AV → Mu → Prop}
theorem EW.mono (h : EW K te S P) (k : ∀ a mu, P a mu → P' a mu) : EW K te S P' := fun Z as0 as fr σ H ok Q q => h Z as0 as fr σ H ok Q fun v H' a mu' g ok' r p => q v H' a mu' g ok' r (k a mu' p)
theorem TW.mono {P P' : Bool → Mu → Prop} (h : TW K t S P) (k : ∀ a mu, P a mu → P' a mu) : TW K t S P' := fun Z as0 as fr σ H ok Q q => h Z as0 as fr σ H ok Q fun b H' mu' g ok' p => q b H' mu' g ok' (k b mu' p)
theorem AW.mono {t : TA} {P P' : List AV → Mu → Prop} (h : AW K t S P) (k : ∀ a mu, P a mu → P' a mu) : AW K t S P' := fun Z as0 as fr σ H ok Q q => h Z as0 as fr σ H ok Q fun b H' a mu' g ok' r p => q b H' a mu' g ok' r (k a mu' p)
theorem OW.mono {t : TO} {P P' : Option Int → Mu → Prop} (h : OW K t S P) (k : ∀ a mu, P a mu → P' a mu) : OW K t S P' := fun Z as0 as fr σ H ok Q q => h Z as0 as fr σ H ok Q fun b H' mu' g ok' p => q b H' mu' g ok' (k b mu' p)
theorem EV.ew (h : EV K te S a) (k : P a S.mu) : EW K te S P := h.mono fun _ _ ⟨e1, e2⟩ => by subst e1 e2; exact k
theorem TV.ew {b : Bool} {P : Bool → Mu → Prop} (h : TV K t S b) (k : P b S.mu) : TW K t S P := h.mono fun _ _ ⟨e1, e2⟩ => by subst e1 e2; exact k
theorem AVs.ew {t : TA} {avs : List AV} {P : List AV → Mu → Prop} (h : AVs K t S avs) (k : P avs S.mu) : AW K t S P := h.mono fun _ _ ⟨e1, e2⟩ => by subst e1 e2; exact k
theorem OV.ew {t : TO} {o : Option Int} {P : Option Int → Mu → Prop} (h : OV K t S o) (k : P o S.mu) : OW K t S P := h.mono fun _ _ ⟨e1, e2⟩ => by subst e1 e2; exact k
theorem EV.is {a' : AV} (h : EV K te S a) (e : a = a') : EV K te S a' := e ▸ h
theorem TV.is {b b' : Bool} (h : TV K t S b) (e : b = b') : TV K t S b' := e ▸ h
theorem ev_var {i : Nat} (h : S.sl[i]? = some (some a)) : EV K (tVar i) S a := fun Z as0 as fr σ H ok Q q =>
  let ⟨v, h1, h2⟩ := ok.sl i a h
  ⟨v, h1, q v H a S.mu Gr.refl ok h2 ⟨rfl, rfl⟩⟩
theorem ev_int {i : Int} : EV K (tC (.int i)) S (dI i) := fun Z as0 as fr σ H ok Q q => q _ H _ S.mu Gr.refl ok rv_int ⟨rfl, rfl⟩
theorem ev_bl {i : Bool} : EV K (tC (.bl i)) S (dB i) := fun Z as0 as fr σ H ok Q q => q _ H _ S.mu Gr.refl ok rv_bl ⟨rfl, rfl⟩
theorem ev_non : EV K (tC .non) S dN := fun Z as0 as fr σ H ok Q q => q _ H _ S.mu Gr.refl ok rv_non ⟨rfl, rfl⟩
theorem ev_str {i : Str} : EV K (tC (.str i)) S (.d (.str i)) := fun Z as0 as fr σ H ok Q q => q _ H _ S.mu Gr.refl ok rv_str ⟨rfl, rfl⟩
/-- a written text, by its letters -/
theorem ev_txt {i : Str} {l : List Nat} (e : i = ⟨l.toArray⟩) : EV K (tC (.str i)) S (dS l) := by subst e; exact ev_str
theorem ew_op {r : R2} (h : EW K ta S fun a1 mu1 => EW K tb ⟨S.sl, mu1⟩ fun a2 mu2 => ∃ a, RB K mu2 r a1 a2 a ∧ P a mu2) : EW K (tOp r ta tb) S P := fun Z as0 as fr σ H ok Q q =>
  h Z as0 as fr σ H ok _ fun v1 H1 a1 mu1 g1 ok1 r1 p1 => p1 Z as0 as fr σ H1 ok1 _ fun v2 H2 a2 mu2 g2 ok2 r2 ⟨a, hb, p⟩ =>
    hb as fr H2 v1 v2 ok2.hk (r1.ex g2) r2 Q fun v H' e rv => q v H' a mu2 ((g1.trans g2).trans (.of e)) (ok2.grow e) rv p
theorem ev_op {r : R2} (ha : EV K ta S a1) (hb : EV K tb S a2) (hr : RB K S.mu r a1 a2 a) : EV K (tOp r ta tb) S a := ew_op (ha.ew (hb.ew ⟨a, hr, rfl, rfl⟩))
theorem ew_un {r : V → Hp → VK → Prop} (h : EW K ta S fun a1 mu1 => ∃ a, RU K mu1 r a1 a ∧ P a mu1) : EW K (tUn r ta) S P := fun Z as0 as fr σ H ok Q q =>
  h Z as0 as fr σ H ok _ fun v1 H1 a1 mu1 g1 ok1 r1 ⟨a, hb, p⟩ => hb as fr H1 v1 ok1.hk r1 Q fun v H' e rv => q v H' a mu1 (g1.trans (.of e)) (ok1.grow e) rv p
theorem ev_un {r : V → Hp → VK → Prop} (ha : EV K ta S a1) (hr : RU K S.mu r a1 a) : EV K (tUn r ta) S a := ew_un (ha.ew ⟨a, hr, rfl, rfl⟩)
theorem ew_chain {r r' : R2} {tc : TE} (h : EW K ta S fun a1 mu1 => EW K tb ⟨S.sl, mu1⟩ fun a2 mu2 => ∃ b, RB K mu2 r a1 a2 (dB b) ∧ if b = true then EW K tc ⟨S.sl, mu2⟩ fun a3 mu3 => ∃ a, RB K mu3 r' a2 a3 a ∧ P a mu3 else P (dB false) mu2) : EW K (tChain r r' ta tb tc) S P := fun Z as0 as fr σ H ok Q q =>
  h Z as0 as fr σ H ok _ fun v1 H1 a1 mu1 g1 ok1 r1 p1 => p1 Z as0 as fr σ H1 ok1 _ fun v2 H2 a2 mu2 g2 ok2 r2 ⟨b, hb, p⟩ =>
    hb as fr H2 v1 v2 ok2.hk (r1.ex g2) r2 _ fun v H3 e rv => by
      cases rv
      refine ⟨b, rfl, ?_⟩
      cases b with
      | true =>
        rw [if_pos rfl] at p ⊢
        exact p Z as0 as fr σ H3 (ok2.grow e) _ fun v3 H4 a3 mu3 g3 ok3 r3 ⟨a, hb', p'⟩ => hb' as fr H4 v2 v3 ok3.hk (r2.ex ((Gr.of e).trans g3)) r3 Q fun v H' e' rv' => q v H' a mu3 ((g1.trans g2).trans (((Gr.of e).trans g3).trans (.of e'))) (ok3.grow e') rv' p'
      | false =>
        rw [if_neg Bool.false_ne_true] at p ⊢
        exact q _ H3 _ mu2 ((g1.trans g2).trans (.of e)) (ok2.grow e) rv_bl p
theorem ev_chain {r r' : R2} {tc : TE} {b b' : Bool} (ha : EV K ta S a1) (hb : EV K tb S a2) (hr : RB K S.mu r a1 a2 (dB b)) (hc : b = true → EV K tc S a3) (hr' : b = true → RB K S.mu r' a2 a3 (dB b')) : EV K (tChain r r' ta tb tc) S (dB (b && b')) :=
  ew_chain (ha.ew (hb.ew ⟨b, hr, by
    cases b with
    | true => rw [if_pos rfl]; exact (hc rfl).ew ⟨dB b', hr' rfl, rfl, rfl⟩
    | false => rw [if_neg Bool.false_ne_true]; exact ⟨rfl, rfl⟩⟩))
/-! and, or, not, if by values -/
theorem ew_and (h : EW K ta S fun a1 mu1 => ∃ b, a1 = dB b ∧ if b = true then EW K tb ⟨S.sl, mu1⟩ P else P (dB false) mu1) : EW K (tAndV ta tb) S P := fun Z as0 as fr σ H ok Q q =>
  h Z as0 as fr σ H ok _ fun v1 H1 a1 mu1 g1 ok1 r1 ⟨b, e, p⟩ => by
    subst e
    cases r1
    refine ⟨b, rfl, ?_⟩
    cases b with
    | true =>
      rw [if_pos rfl] at p ⊢
      exact p Z as0 as fr σ H1 ok1 Q fun v H' a mu' g ok' r pp => q v H' a mu' (g1.trans g) ok' r pp
    | false =>
      rw [if_neg Bool.false_ne_true] at p ⊢
      exact q _ H1 _ mu1 g1 ok1 rv_bl p
theorem ev_and {b c : Bool} (ha : EV K ta S (dB b)) (hb : b = true → EV K tb S (dB c)) : EV K (tAndV ta tb) S (dB (b && c)) := ew_and (ha.ew ⟨b, rfl, by
  cases b with
  | true => rw [if_pos rfl]; exact hb rfl
  | false => rw [if_neg Bool.false_ne_true]; exact ⟨rfl, rfl⟩⟩)
theorem ew_or (h : EW K ta S fun a1 mu1 => ∃ b, a1 = dB b ∧ if b = true then P (dB true) mu1 else EW K tb ⟨S.sl, mu1⟩ P) : EW K (tOrV ta tb) S P := fun Z as0 as fr σ H ok Q q =>
  h Z as0 as fr σ H ok _ fun v1 H1 a1 mu1 g1 ok1 r1 ⟨b, e, p⟩ => by
    subst e
    cases r1
    refine ⟨b, rfl, ?_⟩
    cases b with
    | false =>
      rw [if_neg Bool.false_ne_true] at p ⊢
      exact p Z as0 as fr σ H1 ok1 Q fun v H' a mu' g ok' r pp => q v H' a mu' (g1.trans g) ok' r pp
    | true =>
      rw [if_pos rfl] at p ⊢
      exact q _ H1 _ mu1 g1 ok1 rv_bl p
theorem ev_or {b c : Bool} (ha : EV K ta S (dB b)) (hb : b = false → EV K tb S (dB c)) : EV K (tOrV ta tb) S (dB (b || c)) := ew_or (ha.ew ⟨b, rfl, by
  cases b with
  | false => rw [if_neg Bool.false_ne_true]; exact hb rfl
  | true => rw [if_pos rfl]; exact ⟨rfl, rfl⟩⟩)
theorem ew_not (h : EW K ta S fun a1 mu1 => ∃ b, a1 = dB b ∧ P (dB (!b)) mu1) : EW K (tNotV ta) S P := fun Z as0 as fr σ H ok Q q =>
  h Z as0 as fr σ H ok _ fun v1 H1 a1 mu1 g1 ok1 r1 ⟨b, e, p⟩ => by
    subst e
    cases r1
    exact ⟨b, rfl, q _ H1 _ mu1 g1 ok1 rv_bl p⟩
theorem ev_not {b : Bool} (ha : EV K ta S (dB b)) : EV K (tNotV ta) S (dB (!b)) := ew_not (ha.ew ⟨b, rfl, rfl, rfl⟩)
theorem ew_if (h : TW K t S fun b mu1 => if b = true then EW K ta ⟨S.sl, mu1⟩ P else EW K tb ⟨S.sl, mu1⟩ P) : EW K (tIf t ta tb) S P := fun Z as0 as fr σ H ok Q q =>
  h Z as0 as fr σ H ok _ fun b H1 mu1 g1 ok1 p => by
    cases b with
    | true =>
      rw [if_pos rfl] at p ⊢
      exact p Z as0 as fr σ H1 ok1 Q fun v H' a mu' g ok' r pp => q v H' a mu' (g1.trans g) ok' r pp
    | false =>
      rw [if_neg Bool.false_ne_true] at p ⊢
      exact p Z as0 as fr σ H1 ok1 Q fun v H' a mu' g ok' r pp => q v H' a mu' (g1.trans g) ok' r pp
theorem ev_if {b : Bool} (h : TV K t S b) (ha : b = true → EV K ta S a) (hb : b = false → EV K tb S a) : EV K (tIf t ta tb) S a := ew_if (h.ew (by
  cases b with
  | true => rw [if_pos rfl]; exact ha rfl
  | false => rw [if_neg Bool.false_ne_true]; exact hb rfl))
/-! tests -/
theorem tw_test {P : Bool → Mu → Prop} (h : EW K te S fun a mu => ∃ b, a = dB b ∧ P b mu) : TW K (tTest te) S P := fun Z as0 as fr σ H ok Q q =>
  h Z as0 as fr σ H ok _ fun v1 H1 a1 mu1 g1 ok1 r1 ⟨b, e, p⟩ => by
    subst e
    cases r1
    exact ⟨b, rfl, q b H1 mu1 g1 ok1 p⟩
theorem tv_test {b : Bool} (h : EV K te S (dB b)) : TV K (tTest te) S b := tw_test (h.ew ⟨b, rfl, rfl, rfl⟩)
theorem tw_B {P : Bool → Mu → Prop} (h : EW K te S fun a mu => ∃ b, a = dB b ∧ P b mu) : TW K (tB te) S P := fun Z as0 as fr σ H ok Q q =>
  h Z as0 as fr σ H ok _ fun v1 H1 a1 mu1 g1 ok1 r1 ⟨b, e, p⟩ => by
    subst e
    cases r1
    exact ⟨b, rfl, q b H1 mu1 g1 ok1 p⟩
theorem tv_B {b : Bool} (h : EV K te S (dB b)) : TV K (tB te) S b := tw_B (h.ew ⟨b, rfl, rfl, rfl⟩)
theorem tw_and {P : Bool → Mu → Prop} (h : TW K t S fun b mu1 => if b = true then TW K u ⟨S.sl, mu1⟩ P else P false mu1) : TW K (tAnd t u) S P := fun Z as0 as fr σ H ok Q q =>
  h Z as0 as fr σ H ok _ fun b H1 mu1 g1 ok1 p => by
    cases b with
    | true =>
      rw [if_pos rfl] at p ⊢
      exact p Z as0 as fr σ H1 ok1 Q fun b H' mu' g ok' pp => q b H' mu' (g1.trans g) ok' pp
    | false =>
      rw [if_neg Bool.false_ne_true] at p ⊢
      exact q _ H1 mu1 g1 ok1 p
theorem tv_and {b c : Bool} (h : TV K t S b) (k : b = true → TV K u S c) : TV K (tAnd t u) S (b && c) := tw_and (h.ew (by
  cases b with
  | true => rw [if_pos rfl]; exact k rfl
  | false => rw [if_neg Bool.false_ne_true]; exact ⟨rfl, rfl⟩))
theorem tw_or {P : Bool → Mu → Prop} (h : TW K t S fun b mu1 => if b = true then P true mu1 else TW K u ⟨S.sl, mu1⟩ P) : TW K (tOr t u) S P := fun Z as0 as fr σ H ok Q q =>
  h Z as0 as fr σ H ok _ fun b H1 mu1 g1 ok1 p => by
    cases b with
    | false =>
      rw [if_neg Bool.false_ne_true] at p ⊢
      exact p Z as0 as fr σ H1 ok1 Q fun b H' mu' g ok' pp => q b H' mu' (g1.trans g) ok' pp
    | true =>
      rw [if_pos rfl] at p ⊢
      exact q _ H1 mu1 g1 ok1 p
theorem tv_or {b c : Bool} (h : TV K t S b) (k : b = false → TV K u S c) : TV K (tOr t u) S (b || c) := tw_or (h.ew (by
  cases b with
  | false => rw [if_neg Bool.false_ne_true]; exact k rfl
  | true => rw [if_pos rfl]; exact ⟨rfl, rfl⟩))
theorem tw_not {P : Bool → Mu → Prop} (h : TW K t S fun b mu1 => P (!b) mu1) : TW K (tNot t) S P := fun Z as0 as fr σ H ok Q q =>
  h Z as0 as fr σ H ok _ fun b H1 mu1 g1 ok1 p => q _ H1 mu1 g1 ok1 p
theorem tv_not {b : Bool} (h : TV K t S b) : TV K (tNot t) S (!b) := tw_not (h.ew ⟨rfl, rfl⟩)
/-! arguments -/
theorem aw_nil {P : List AV → Mu → Prop} (h : P [] S.mu) : AW K tNil S P := fun Z as0 as fr σ H ok Q q => q [] H [] S.mu Gr.refl ok .nil h
theorem aw_cons {tr : TA} {P : List AV → Mu → Prop} (h : EW K te S fun a mu1 => AW K tr ⟨S.sl, mu1⟩ fun avs mu2 => P (a :: avs) mu2) : AW K (tCons te tr) S P := fun Z as0 as fr σ H ok Q q =>
  h Z as0 as fr σ H ok _ fun v1 H1 a1 mu1 g1 ok1 r1 p1 => p1 Z as0 as fr σ H1 ok1 _ fun vs H2 avs mu2 g2 ok2 r2 p => q _ H2 _ mu2 (g1.trans g2) ok2 (.cons (r1.ex g2) r2) p
theorem av_nil : AVs K tNil S [] := aw_nil ⟨rfl, rfl⟩
theorem av_cons {tr : TA} {avs : List AV} (h : EV K te S a) (hr : AVs K tr S avs) : AVs K (tCons te tr) S (a :: avs) := aw_cons (h.ew (hr.ew ⟨rfl, rfl⟩))
/-! displays -/
theorem ew_tup {t : TA} (h : AW K t S fun avs mu => ∃ ds, avs = ds.map AV.d ∧ ds.length ≤ 1000000 ∧ P (dT ds) mu) : EW K (tTup t) S P := fun Z as0 as fr σ H ok Q q =>
  h Z as0 as fr σ H ok _ fun vs H1 avs mu1 g1 ok1 r1 ⟨ds, e, hl, p⟩ => by
    subst e
    have ra := r1.all
    exact ⟨sz_of (by rw [da_length ra]; exact hl), fun x hx => q _ _ _ mu1 (g1.trans (.of (Ex.new hx))) (ok1.grow (Ex.new hx)) (rv_tup (sqT_of (ok1.hk.lay hx)) (da_ex (off_ex (Ex.new hx)) ra)) p⟩
theorem ev_tup {t : TA} {ds : List PyData} (h : AVs K t S (ds.map AV.d)) (hl : ds.length ≤ 1000000 := by first | decide | simp) : EV K (tTup t) S (dT ds) := ew_tup (h.ew ⟨ds, rfl, hl, rfl, rfl⟩)
theorem ew_lst {t : TA} (h : AW K t S fun avs mu => ∃ ds, avs = ds.map AV.d ∧ ds.length ≤ 1000000 ∧ P (dL ds) mu) : EW K (tLst t) S P := fun Z as0 as fr σ H ok Q q =>
  h Z as0 as fr σ H ok _ fun vs H1 avs mu1 g1 ok1 r1 ⟨ds, e, hl, p⟩ => by
    subst e
    have ra := r1.all
    exact ⟨sz_of (by rw [da_length ra]; exact hl), fun x hx => q _ _ _ mu1 (g1.trans (.of (Ex.new hx))) (ok1.grow (Ex.new hx)) (rv_lst (sqL_of (ok1.hk.lay hx)) (da_ex (off_ex (Ex.new hx)) ra)) p⟩
theorem ev_lst {t : TA} {ds : List PyData} (h : AVs K t S (ds.map AV.d)) (hl : ds.length ≤ 1000000 := by first | decide | simp) : EV K (tLst t) S (dL ds) := ew_lst (h.ew ⟨ds, rfl, hl, rfl, rfl⟩)
/-! calls of built-ins, methods -/
theorem ew_cb {r : List V → Hp → VK → Prop} {t : TA} (h : AW K t S fun avs mu => ∃ a, RA K mu r avs a ∧ P a mu) : EW K (tCB r t) S P := fun Z as0 as fr σ H ok Q q =>
  h Z as0 as fr σ H ok _ fun vs H1 avs mu1 g1 ok1 r1 ⟨a, hb, p⟩ => hb as fr H1 vs ok1.hk r1 Q fun v H' e rv => q v H' a mu1 (g1.trans (.of e)) (ok1.grow e) rv p
theorem ev_cb {r : List V → Hp → VK → Prop} {t : TA} {avs : List AV} (h : AVs K t S avs) (hr : RA K S.mu r avs a) : EV K (tCB r t) S a := ew_cb (h.ew ⟨a, hr, rfl, rfl⟩)
/-- the type's own look at the thing -/
def TyR (K : PySem.W.Frag) (mu : Mu) (T : String) (x : AV) : Prop := ∀ as fr H v, Hk K as fr mu H → RepV K (off (as ++ fr) H) as v x → tyV K T v H
theorem ew_bm {T : String} {r : V → List V → Hp → VK → Prop} {t : TA} (h : EW K te S fun x mu1 => TyR K mu1 T x ∧ AW K t ⟨S.sl, mu1⟩ fun avs mu2 => ∃ a, RM K mu2 r x avs a ∧ P a mu2) : EW K (tBM K T r te t) S P := fun Z as0 as fr σ H ok Q q =>
  h Z as0 as fr σ H ok _ fun v1 H1 x mu1 g1 ok1 r1 ⟨ht, p1⟩ => ⟨ht as fr H1 v1 ok1.hk r1, p1 Z as0 as fr σ H1 ok1 _ fun vs H2 avs mu2 g2 ok2 r2 ⟨a, hb, p⟩ => hb as fr H2 v1 vs ok2.hk (r1.ex g2) r2 Q fun v H' e rv => q v H' a mu2 ((g1.trans g2).trans (.of e)) (ok2.grow e) rv p⟩
theorem ev_bm {T : String} {r : V → List V → Hp → VK → Prop} {t : TA} {x : AV} {avs : List AV} (hx : EV K te S x) (ht : TyR K S.mu T x) (h : AVs K t S avs) (hr : RM K S.mu r x avs a) : EV K (tBM K T r te t) S a := ew_bm (hx.ew ⟨ht, h.ew ⟨a, hr, rfl, rfl⟩⟩)
theorem ew_bm0 {T : String} {r : V → List V → Hp → VK → Prop} (h : EW K te S fun x mu1 => TyR K mu1 T x ∧ ∃ a, RM K mu1 r x [] a ∧ P a mu1) : EW K (tBM0 K T r te) S P := fun Z as0 as fr σ H ok Q q =>
  h Z as0 as fr σ H ok _ fun v1 H1 x mu1 g1 ok1 r1 ⟨ht, a, hb, p⟩ => ⟨ht as fr H1 v1 ok1.hk r1, hb as fr H1 v1 [] ok1.hk r1 .nil Q fun v H' e rv => q v H' a mu1 (g1.trans (.of e)) (ok1.grow e) rv p⟩
theorem ev_bm0 {T : String} {r : V → List V → Hp → VK → Prop} {x : AV} (hx : EV K te S x) (ht : TyR K S.mu T x) (hr : RM K S.mu r x [] a) : EV K (tBM0 K T r te) S a := ew_bm0 (hx.ew ⟨ht, a, hr, rfl, rfl⟩)
/-- methods of texts by the short forms -/
theorem ew_m1 {r : V → List V → Hp → VK → Prop} (h : EW K ta S fun x mu1 => (∃ z, x = .d (.str z)) ∧ EW K tb ⟨S.sl, mu1⟩ fun y mu2 => ∃ a, RM K mu2 r x [y] a ∧ P a mu2) : EW K (tM1 r ta tb) S P := fun Z as0 as fr σ H ok Q q =>
  h Z as0 as fr σ H ok _ fun v1 H1 x mu1 g1 ok1 r1 ⟨⟨z, hz⟩, p1⟩ => ⟨by subst hz; cases r1; exact ⟨z, rfl⟩, p1 Z as0 as fr σ H1 ok1 _ fun v2 H2 y mu2 g2 ok2 r2 ⟨a, hb, p⟩ =>
    hb as fr H2 v1 [v2] ok2.hk (r1.ex g2) (.cons r2 .nil) Q fun v H' e rv => q v H' a mu2 ((g1.trans g2).trans (.of e)) (ok2.grow e) rv p⟩
theorem ev_m1 {r : V → List V → Hp → VK → Prop} {z : Str} {y : AV} (ha : EV K ta S (.d (.str z))) (hb : EV K tb S y) (hr : RM K S.mu r (.d (.str z)) [y] a) : EV K (tM1 r ta tb) S a := ew_m1 (ha.ew ⟨⟨z, rfl⟩, hb.ew ⟨a, hr, rfl, rfl⟩⟩)
/-! slices -/
theorem ow_none {P : Option Int → Mu → Prop} (h : P none S.mu) : OW K tNoPart S P := fun Z as0 as fr σ H ok Q q => q none H S.mu Gr.refl ok h
theorem ow_some {P : Option Int → Mu → Prop} (h : EW K te S fun a mu => ∃ i, a = dI i ∧ P (some i) mu) : OW K (tPart te) S P := fun Z as0 as fr σ H ok Q q =>
  h Z as0 as fr σ H ok _ fun v1 H1 a1 mu1 g1 ok1 r1 ⟨i, e, p⟩ => by
    subst e
    cases r1
    exact ⟨i, rfl, q _ H1 mu1 g1 ok1 p⟩
theorem ov_none : OV K tNoPart S none := ow_none ⟨rfl, rfl⟩
theorem ov_some {i : Int} (h : EV K te S (dI i)) : OV K (tPart te) S (some i) := ow_some (h.ew ⟨i, rfl, rfl, rfl⟩)
def RSl (K : PySem.W.Frag) (mu : Mu) (r : V → Option Int → Option Int → Hp → VK → Prop) (x : AV) (lo hi : Option Int) (a : AV) : Prop := ∀ as fr H v, Hk K as fr mu H → RepV K (off (as ++ fr) H) as v x → ∀ Q : VK, Kv K as fr H a Q → r v lo hi H Q
theorem ew_sl {r : V → Option Int → Option Int → Hp → VK → Prop} {tl th : TO} (h : EW K te S fun x mu1 => OW K tl ⟨S.sl, mu1⟩ fun lo mu2 => OW K th ⟨S.sl, mu2⟩ fun hi mu3 => ∃ a, RSl K mu3 r x lo hi a ∧ P a mu3) : EW K (tSl r te tl th) S P := fun Z as0 as fr σ H ok Q q =>
  h Z as0 as fr σ H ok _ fun v1 H1 x mu1 g1 ok1 r1 p1 => p1 Z as0 as fr σ H1 ok1 _ fun lo H2 mu2 g2 ok2 p2 => p2 Z as0 as fr σ H2 ok2 _ fun hi H3 mu3 g3 ok3 ⟨a, hb, p⟩ =>
    hb as fr H3 v1 ok3.hk ((r1.ex g2).ex g3) Q fun v H' e rv => q v H' a mu3 (((g1.trans g2).trans g3).trans (.of e)) (ok3.grow e) rv p
theorem ev_sl {r : V → Option Int → Option Int → Hp → VK → Prop} {tl th : TO} {x : AV} {lo hi : Option Int} (hx : EV K te S x) (h1 : OV K tl S lo) (h2 : OV K th S hi) (hr : RSl K S.mu r x lo hi a) : EV K (tSl r te tl th) S a := ew_sl (hx.ew (h1.ew (h2.ew ⟨a, hr, rfl, rfl⟩)))
end
end D2
set_option Elab.async false
set_option linter.all false
set_option maxRecDepth 100000
set_option maxHeartbeats 4000000
/-! DL3: what is walked, targets, comprehensions, statements, loops, defs, over data. -/
namespace D2
open PySem L2
section
variable {K : PySem.W.Frag} {Z Z' H H' H1 : Hp} {as0 as fr : List Addr} {S : AS} {σ : L2.St}
theorem Ok.anchor (h : Ok K Z' as0 as fr S σ H) (k : ∀ b o, Z b = some o → Z' b = some o) : Ok K Z as0 as fr S σ H := ⟨h.len, h.sl, h.mu, h.nd, h.ex, h.pre, fun b o e => h.pres b o (k b o e)⟩
theorem Ok.here (h : Ok K Z as0 as fr S σ H) : Ok K (off as H) as0 as fr S σ H := ⟨h.len, h.sl, h.mu, h.nd, h.ex, h.pre, fun b o e => ⟨(off_of e).2, (off_of e).1⟩⟩
theorem Ok.z_le (h : Ok K Z as0 as fr S σ H) : ∀ b o, Z b = some o → off as H b = some o := fun b o e => by
  obtain ⟨h1, h2⟩ := h.pres b o e
  rw [off_at h1]; exact h2
/-- the heap of the one, the slots of the other -/
theorem Ok.shift {sl sl2 : List (Option AV)} {mu mu' : Mu} {σ2 : L2.St} (h : Ok K Z as0 as fr ⟨sl, mu⟩ σ H) (g : Gr as fr H H') (h2 : Ok K Z as0 as fr ⟨sl2, mu'⟩ σ2 H') : Ok K Z as0 as fr ⟨sl, mu'⟩ σ H' :=
  ⟨h.len, fun i av e => let ⟨v, h1, r⟩ := h.sl i av e; ⟨v, h1, r.ex g⟩, h2.mu, h2.nd, h2.ex, h2.pre, h2.pres⟩
def del (p : Addr) (H : Hp) : Hp := fun b => if b = p then none else H b
theorem del_same {p : Addr} {H : Hp} : del p H p = none := by unfold del; rw [if_pos rfl]
theorem del_ne {p b : Addr} {H : Hp} (h : b ≠ p) : del p H b = H b := by unfold del; rw [if_neg h]
theorem upd_del {p : Addr} {H : Hp} {o : HO} (h : H p = some o) : upd (del p H) p o = H := by
  funext b
  by_cases e : b = p
  · subst e; rw [upd_same, h]
  · rw [upd_ne e, del_ne e]
theorem off_del {p : Addr} {H : Hp} : off (as ++ p :: fr) H = off (as ++ fr) (del p H) := by
  funext b
  unfold off del
  by_cases e : b = p
  · subst e; rw [if_pos (by simp)]; by_cases h : b ∈ as ++ fr
    · rw [if_pos h]
    · rw [if_neg h, if_pos rfl]
  · have : b ∈ as ++ p :: fr ↔ b ∈ as ++ fr := by simp [e]
    by_cases h : b ∈ as ++ fr
    · rw [if_pos (this.mpr h), if_pos h]
    · rw [if_neg (fun z => h (this.mp z)), if_neg h, if_neg e]
/-- a thing is set aside: it stands in fr, or it is taken out of the heap -/
theorem Ok.aside {p : Addr} (h : Ok K Z as0 as (p :: fr) S σ H) (hz : Z p = none) : Ok K Z as0 as fr S σ (del p H) := by
  have nd := List.nodup_append.mp h.nd
  have pa : p ∉ as := fun z => nd.2.2 p z p List.mem_cons_self rfl
  have pf : p ∉ fr := (List.nodup_cons.mp nd.2.1).1
  refine ⟨h.len, fun i av e => by rw [← off_del]; exact h.sl i av e, ⟨h.mu.1, fun j q m hj hm => ?_⟩, ?_, fun q hq => ?_, h.pre, fun b o e => ?_⟩
  · rw [← off_del]
    exact (h.mu.2 j q m hj hm).ex (Ex.refl _) (by rw [del_ne]; exact fun z => pa (z ▸ List.mem_of_getElem? hj))
  · exact List.nodup_append.mpr ⟨nd.1, (List.nodup_cons.mp nd.2.1).2, fun a ha b hb => nd.2.2 a ha b (List.mem_cons_of_mem _ hb)⟩
  · have ne : q ≠ p := fun z => by
      subst z
      rcases List.mem_append.mp hq with z | z
      · exact pa z
      · exact pf z
    rw [del_ne ne]
    refine h.ex q ?_
    rcases List.mem_append.mp hq with z | z
    · exact List.mem_append_left _ z
    · exact List.mem_append_right _ (List.mem_cons_of_mem _ z)
  · obtain ⟨h1, h2⟩ := h.pres b o e
    exact ⟨h1, by rw [del_ne (fun z => by subst z; rw [hz] at e; cases e)]; exact h2⟩
/-- a new thing set aside -/
theorem Ok.laid {p : Addr} {o : HO} (h : Ok K Z as0 as fr S σ H) (hp : H p = none) : Ok K Z as0 as (p :: fr) S σ (upd H p o) := by
  have hf := h.fresh hp
  have pa : p ∉ as := fun z => hf (List.mem_append_left _ z)
  have pf : p ∉ fr := fun z => hf (List.mem_append_right _ z)
  have nd := List.nodup_append.mp h.nd
  have e0 : off (as ++ p :: fr) (upd H p o) = off (as ++ fr) H := by
    rw [off_del]
    congr 1
    funext b
    by_cases e : b = p
    · subst e; rw [del_same, hp]
    · rw [del_ne e, upd_ne e]
  refine ⟨h.len, fun i av e => by rw [e0]; exact h.sl i av e, ⟨h.mu.1, fun j q m hj hm => ?_⟩, ?_, fun q hq => ?_, h.pre, fun b u e => ?_⟩
  · rw [e0]
    exact (h.mu.2 j q m hj hm).ex (Ex.refl _) (by rw [upd_ne]; exact fun z => pa (z ▸ List.mem_of_getElem? hj))
  · exact List.nodup_append.mpr ⟨nd.1, List.nodup_cons.mpr ⟨pf, nd.2.1⟩, fun a ha b hb => by
      rcases List.mem_cons.mp hb with e | hb
      · subst e; exact fun z => pa (z ▸ ha)
      · exact nd.2.2 a ha b hb⟩
  · by_cases e : q = p
    · subst e; exact ⟨o, upd_same⟩
    · rw [upd_ne e]
      refine h.ex q ?_
      rcases List.mem_append.mp hq with z | z
      · exact List.mem_append_left _ z
      · rcases List.mem_cons.mp z with z | z
        · exact absurd z e
        · exact List.mem_append_right _ z
  · obtain ⟨h1, h2⟩ := h.pres b u e
    exact ⟨h1, by rw [upd_ne (ne_of_none h2 hp)]; exact h2⟩
theorem Ok.z_none (h : Ok K Z as0 as fr S σ H) {p : Addr} (hp : H p = none) : Z p = none := by
  cases e : Z p with
  | none => rfl
  | some o =>
    have := (h.pres p o e).2
    rw [hp] at this; cases this
theorem Ok.pin {p : Addr} {o : HO} (h : Ok K Z as0 as (p :: fr) S σ H) (hp : H p = some o) : Ok K (upd Z p o) as0 as (p :: fr) S σ H :=
  ⟨h.len, h.sl, h.mu, h.nd, h.ex, h.pre, fun b u e => by
    by_cases hb : b = p
    · subst hb
      rw [upd_same] at e; cases e
      exact ⟨fun z => (List.nodup_append.mp h.nd).2.2 b z b List.mem_cons_self rfl, hp⟩
    · rw [upd_ne hb] at e; exact h.pres b u e⟩
/-- a thing set aside is written -/
theorem Ok.turn {p : Addr} {o : HO} (h : Ok K Z as0 as (p :: fr) S σ H) (hz : Z p = none) : Ok K Z as0 as (p :: fr) S σ (upd H p o) := by
  have h1 := (h.aside hz).laid (p := p) (o := o) del_same
  have e : upd (del p H) p o = upd H p o := by
    funext b
    by_cases e : b = p
    · subst e; rw [upd_same, upd_same]
    · rw [upd_ne e, upd_ne e, del_ne e]
  rw [e] at h1; exact h1
theorem off_turn {p : Addr} {o : HO} : off (as ++ p :: fr) (upd H p o) = off (as ++ p :: fr) H := by
  rw [off_del, off_del]; congr 1; funext b
  by_cases e : b = p
  · subst e; rw [del_same, del_same]
  · rw [del_ne e, del_ne e, upd_ne e]
def wp (sl : List (Option AV)) : List Nat → List (Option AV)
  | [] => sl
  | v :: vs => (wp sl vs).set v none
theorem wp_length {sl : List (Option AV)} : ∀ vs : List Nat, (wp sl vs).length = sl.length
  | [] => rfl
  | v :: vs => by unfold wp; rw [List.length_set, wp_length vs]
theorem Ok.wipe {sl : List (Option AV)} {mu : Mu} (h : Ok K Z as0 as fr ⟨sl, mu⟩ σ H) : ∀ vs : List Nat, Ok K Z as0 as fr ⟨wp sl vs, mu⟩ (wipe σ vs) H
  | [] => h
  | v :: vs => by
    have ih := Ok.wipe h vs
    refine ⟨?_, fun i av e => ?_, ih.mu, ih.nd, ih.ex, ih.pre, ih.pres⟩
    · show ((L2.wipe σ vs).set v none).length = ((wp sl vs).set v none).length
      rw [List.length_set, List.length_set]; exact ih.len
    · have e' : ((wp sl vs).set v none)[i]? = some (some av) := e
      by_cases hi : v = i
      · subst hi
        by_cases hv : v < (wp sl vs).length
        · rw [List.getElem?_set_self hv] at e'; cases e'
        · rw [List.getElem?_eq_none (by simpa using hv)] at e'; cases e'
      · rw [List.getElem?_set_ne hi] at e'
        obtain ⟨u, h1, h2⟩ := ih.sl i av e'
        exact ⟨u, by show ((L2.wipe σ vs).set v none)[i]? = _; rw [List.getElem?_set_ne hi]; exact h1, h2⟩
end
theorem wipe_get {σ : L2.St} {i : Nat} : ∀ {vs : List Nat}, (wipe σ vs)[i]? = if i ∈ vs then (if i < σ.length then some none else none) else σ[i]?
  | [] => by simp [wipe]
  | v :: vs => by
    unfold wipe
    by_cases e : v = i
    · subst e
      rw [if_pos List.mem_cons_self]
      by_cases h : v < σ.length
      · rw [if_pos h, List.getElem?_set_self (by rw [wipe_length]; exact h)]
      · rw [if_neg h, List.getElem?_eq_none (by rw [List.length_set, wipe_length]; omega)]
    · rw [List.getElem?_set_ne e, wipe_get]
      have : i ∈ v :: vs ↔ i ∈ vs := by simp [Ne.symm e]
      by_cases h : i ∈ vs
      · rw [if_pos h, if_pos (this.mpr h)]
      · rw [if_neg h, if_neg (fun z => h (this.mp z))]
theorem wipe_set {σ : L2.St} {j : Nat} {x : Option V} {vs : List Nat} (h : j ∈ vs) : wipe (σ.set j x) vs = wipe σ vs := by
  apply List.ext_getElem?
  intro i
  rw [wipe_get, wipe_get]
  by_cases hi : i ∈ vs
  · rw [if_pos hi, if_pos hi, List.length_set]
  · rw [if_neg hi, if_neg hi, List.getElem?_set_ne (fun e => hi (by rw [← e]; exact h))]
theorem wipe_wipe {σ : L2.St} {vs : List Nat} : wipe (wipe σ vs) vs = wipe σ vs := by
  apply List.ext_getElem?
  intro i
  rw [wipe_get, wipe_get, wipe_length]
  by_cases hi : i ∈ vs
  · rw [if_pos hi, if_pos hi]
  · rw [if_neg hi, if_neg hi]
/-! ### what is walked -/
structure Fd (K : PySem.W.Frag) (J : It) (ds : List PyData) (G : Hp → Prop) : Prop where
  go : ∀ i M H, G (off M H) → i < ds.length → J.go i H
  yld : ∀ i M H x H', G (off M H) → (∀ q ∈ M, ∃ o, H q = some o) → i < ds.length → J.yld i H x H' → ∃ d, ds[i]? = some d ∧ Ex H H' ∧ Dp K (off M H') x d
  stop : ∀ M H, G (off M H) → J.stop ds.length H
  stay : ∀ Hf Hf', G Hf → Ex Hf Hf' → G Hf'
def EIW (K : PySem.W.Frag) (wi : TI) (S : AS) (P : List PyData → Mu → Prop) : Prop := ∀ Z as0 as fr σ H, Ok K Z as0 as fr S σ H → ∀ R : It → Hp → Prop,
  (∀ J H' ds G mu', Gr as fr H H' → Ok K Z as0 as fr ⟨S.sl, mu'⟩ σ H' → Fd K J ds G → G (off (as ++ fr) H') → P ds mu' → R J H') → wi σ H R
def EI (K : PySem.W.Frag) (wi : TI) (S : AS) (ds : List PyData) : Prop := EIW K wi S fun ds' mu' => ds' = ds ∧ mu' = S.mu
section
variable {K : PySem.W.Frag} {S : AS} {ta te : TE} {ds : List PyData}
theorem EIW.mono {wi : TI} {P P' : List PyData → Mu → Prop} (h : EIW K wi S P) (k : ∀ a mu, P a mu → P' a mu) : EIW K wi S P' := fun Z as0 as fr σ H ok R q => h Z as0 as fr σ H ok R fun J H' ds G mu' g ok' f hg p => q J H' ds G mu' g ok' f hg (k ds mu' p)
theorem EI.ew {wi : TI} {P : List PyData → Mu → Prop} (h : EI K wi S ds) (k : P ds S.mu) : EIW K wi S P := h.mono fun _ _ ⟨e1, e2⟩ => by subst e1 e2; exact k
theorem EI.is {wi : TI} {ds' : List PyData} (h : EI K wi S ds) (e : ds = ds') : EI K wi S ds' := e ▸ h
theorem eiw_rng1 {t : TA} {P : List PyData → Mu → Prop} (h : AW K t S fun avs mu => ∃ n : Int, avs = [dI n] ∧ -(2 ^ 62) ≤ n ∧ n < 2 ^ 62 ∧ P ((List.range n.toNat).map fun (k : Nat) => PyData.int (k : Int)) mu) : EIW K (iRng1 t) S P := fun Z as0 as fr σ H ok R q =>
  h Z as0 as fr σ H ok _ fun vs H1 avs mu1 g1 ok1 r1 ⟨n, e, h1, h2, p⟩ => by
    subst e
    cases r1 with
    | cons r1 r2 =>
      cases r2
      cases r1
      refine ⟨n, rfl, h1, h2, q (Itr 0 n.toNat) H1 _ (fun _ => True) mu1 g1 ok1 ⟨fun i M H _ hi => ?_, fun i M H x H' _ _ hi hy => ?_, fun M H _ => ?_, fun _ _ _ _ => trivial⟩ trivial p⟩
      · show i < n.toNat
        rw [List.length_map, List.length_range] at hi; exact hi
      · obtain ⟨e1, e2⟩ := hy
        subst e1; subst e2
        refine ⟨.int (i : Int), ?_, Ex.refl _, ?_⟩
        · have : i < n.toNat := by rw [List.length_map, List.length_range] at hi; exact hi
          rw [List.getElem?_map, List.getElem?_range this]; rfl
        · rw [Int.zero_add]; exact .int _
      · show n.toNat ≤ _
        rw [List.length_map, List.length_range]; exact Nat.le_refl _
theorem ei_rng1 {t : TA} {n : Int} (h : AVs K t S [dI n]) (h1 : -(2 ^ 62) ≤ n := by omega) (h2 : n < 2 ^ 62 := by omega) : EI K (iRng1 t) S ((List.range n.toNat).map fun (k : Nat) => PyData.int (k : Int)) := eiw_rng1 (h.ew ⟨n, rfl, h1, h2, rfl, rfl⟩)
theorem eiw_rng2 {t : TA} {P : List PyData → Mu → Prop} (h : AW K t S fun avs mu => ∃ m n : Int, avs = [dI m, dI n] ∧ (-(2 ^ 62) ≤ m ∧ m < 2 ^ 62 ∧ -(2 ^ 62) ≤ n ∧ n < 2 ^ 62) ∧ P ((List.range (n - m).toNat).map fun (k : Nat) => PyData.int (m + (k : Int))) mu) : EIW K (iRng2 t) S P := fun Z as0 as fr σ H ok R q =>
  h Z as0 as fr σ H ok _ fun vs H1 avs mu1 g1 ok1 r1 ⟨m, n, e, h1, p⟩ => by
    subst e
    cases r1 with
    | cons r1 r2 =>
      cases r2 with
      | cons r2 r3 =>
      cases r3
      cases r1
      cases r2
      refine ⟨m, n, rfl, h1, q (Itr m (n - m).toNat) H1 _ (fun _ => True) mu1 g1 ok1 ⟨fun i M H _ hi => ?_, fun i M H x H' _ _ hi hy => ?_, fun M H _ => ?_, fun _ _ _ _ => trivial⟩ trivial p⟩
      · show i < (n - m).toNat
        rw [List.length_map, List.length_range] at hi; exact hi
      · obtain ⟨e1, e2⟩ := hy
        subst e1; subst e2
        refine ⟨.int (m + i), ?_, Ex.refl _, .int _⟩
        have : i < (n - m).toNat := by rw [List.length_map, List.length_range] at hi; exact hi
        rw [List.getElem?_map, List.getElem?_range this]; rfl
      · show (n - m).toNat ≤ _
        rw [List.length_map, List.length_range]; exact Nat.le_refl _
theorem ei_rng2 {t : TA} {m n : Int} (h : AVs K t S [dI m, dI n]) (hb : -(2 ^ 62) ≤ m ∧ m < 2 ^ 62 ∧ -(2 ^ 62) ≤ n ∧ n < 2 ^ 62 := by omega) : EI K (iRng2 t) S ((List.range (n - m).toNat).map fun (k : Nat) => PyData.int (m + (k : Int))) := eiw_rng2 (h.ew ⟨m, n, rfl, hb, rfl, rfl⟩)
theorem sqL_inj {H : Hp} {a : Addr} {xs ys : List V} (h : H a = some (.lst xs)) (h' : Rd H a (.lst ys)) : xs = ys := by
  rcases h' with z | ⟨o, z⟩
  · rw [h] at z; cases z; rfl
  · rw [h] at z; cases z
theorem eiw_list {P : List PyData → Mu → Prop} (h : EW K te S fun a mu => ∃ ds, a = dL ds ∧ P ds mu) : EIW K (iList K te) S P := fun Z as0 as fr σ H ok R q =>
  h Z as0 as fr σ H ok _ fun v H1 a mu1 g1 ok1 r1 ⟨ds, e, p⟩ => by
    subst e
    cases r1 with
    | lst hs ha =>
      rename_i b vs
      refine ⟨b, rfl, ⟨vs, sqL_ex off_le hs⟩, q (Itl K b) H1 ds (fun Hf => SqL K Hf b vs ∧ DpAll K Hf vs ds) mu1 g1 ok1 ⟨fun i M H hg hi => ?_, fun i M H x H' hg hex hi hy => ?_, fun M H hg => ?_, fun _ _ hg e => ⟨sqL_ex e hg.1, da_ex e hg.2⟩⟩ ⟨hs, ha⟩ p⟩
      · obtain ⟨v, hv, _⟩ := da_get hg.2 (List.getElem?_eq_getElem hi)
        exact ⟨vs, v, sqL_ex off_le hg.1, hv⟩
      · obtain ⟨e1, hy⟩ := hy
        subst e1
        have := hy vs (sqL_ex off_le hg.1)
        obtain ⟨d, hd, r⟩ := da_getV hg.2 this
        exact ⟨d, hd, Ex.refl _, r⟩
      · exact ⟨vs, sqL_ex off_le hg.1, by rw [da_length hg.2]; exact Nat.le_refl _⟩
theorem ei_list (h : EV K te S (dL ds)) : EI K (iList K te) S ds := eiw_list (h.ew ⟨ds, rfl, rfl, rfl⟩)
theorem eiw_tup {P : List PyData → Mu → Prop} (h : EW K te S fun a mu => ∃ ds, a = dT ds ∧ P ds mu) : EIW K (iTup K te) S P := fun Z as0 as fr σ H ok R q =>
  h Z as0 as fr σ H ok _ fun v H1 a mu1 g1 ok1 r1 ⟨ds, e, p⟩ => by
    subst e
    cases r1 with
    | tup hs ha =>
      rename_i b vs
      refine ⟨b, rfl, ⟨vs, sqT_ex off_le hs⟩, q (Itt K b) H1 ds (fun Hf => SqT K Hf b vs ∧ DpAll K Hf vs ds) mu1 g1 ok1 ⟨fun i M H hg hi => ?_, fun i M H x H' hg hex hi hy => ?_, fun M H hg => ?_, fun _ _ hg e => ⟨sqT_ex e hg.1, da_ex e hg.2⟩⟩ ⟨hs, ha⟩ p⟩
      · obtain ⟨v, hv, _⟩ := da_get hg.2 (List.getElem?_eq_getElem hi)
        exact ⟨vs, v, sqT_ex off_le hg.1, hv⟩
      · obtain ⟨e1, hy⟩ := hy
        subst e1
        have := hy vs (sqT_ex off_le hg.1)
        obtain ⟨d, hd, r⟩ := da_getV hg.2 this
        exact ⟨d, hd, Ex.refl _, r⟩
      · exact ⟨vs, sqT_ex off_le hg.1, by rw [da_length hg.2]; exact Nat.le_refl _⟩
theorem ei_tup (h : EV K te S (dT ds)) : EI K (iTup K te) S ds := eiw_tup (h.ew ⟨ds, rfl, rfl, rfl⟩)
theorem eiw_str {P : List PyData → Mu → Prop} (h : EW K te S fun a mu => ∃ l : List Nat, a = dS l ∧ P (l.map fun c => pS [c]) mu) : EIW K (iStr te) S P := fun Z as0 as fr σ H ok R q =>
  h Z as0 as fr σ H ok _ fun v H1 a mu1 g1 ok1 r1 ⟨l, e, p⟩ => by
    subst e
    cases r1
    refine ⟨_, rfl, q (Its _) H1 _ (fun _ => True) mu1 g1 ok1 ⟨fun i M H _ hi => ?_, fun i M H x H' _ _ hi hy => ?_, fun M H _ => ?_, fun _ _ _ _ => trivial⟩ trivial p⟩
    · show i < l.toArray.size
      simpa using hi
    · obtain ⟨e1, c, e2, e3⟩ := hy
      subst e1; subst e3
      refine ⟨pS [c], ?_, Ex.refl _, .str _⟩
      have e2' : l[i]? = some c := by simpa using e2
      rw [List.getElem?_map, e2']; rfl
    · show l.toArray.size ≤ _
      simp
theorem ei_str {l : List Nat} (h : EV K te S (dS l)) : EI K (iStr te) S (l.map fun c => pS [c]) := eiw_str (h.ew ⟨l, rfl, rfl, rfl⟩)
end
/-! ### targets -/
def GW (K : PySem.W.Frag) (g : TG) (js : List Nat) (d : PyData) (S : AS) (P : AS → Prop) : Prop := ∀ Z as0 as fr σ H x, Ok K Z as0 as fr S σ H → Dp K (off (as ++ fr) H) x d → ∀ Q : L2.St → Hp → Prop,
  (∀ S' σ', Ok K Z as0 as fr S' σ' H → (∀ vs : List Nat, (∀ j ∈ js, j ∈ vs) → wipe σ' vs = wipe σ vs) → P S' → Q σ' H) → g x σ H Q
section
variable {K : PySem.W.Frag} {S : AS} {P : AS → Prop} {d d1 d2 d3 : PyData} {i j k : Nat}
theorem gw_name (h : P ⟨S.sl.set j (some (.d d)), S.mu⟩) : GW K (gName j) [j] d S P := fun Z as0 as fr σ H x ok r Q q =>
  q _ _ (ok.store (av := .d d) r) (fun vs hv => wipe_set (hv j List.mem_cons_self)) h
theorem gw_tup2 (h : P ⟨(S.sl.set i (some (.d d1))).set j (some (.d d2)), S.mu⟩) : GW K (gTup K 2 (gCons (gName i) (gCons (gName j) gNil))) [i, j] (.tuple [d1, d2]) S P := fun Z as0 as fr σ H x ok r Q q => by
  cases r with
  | tup hs ha =>
    cases ha with
    | cons r1 ha =>
      cases ha with
      | cons r2 ha =>
        cases ha
        refine ⟨_, _, rfl, sqT_ex off_le hs, rfl, _, _, rfl, _, _, rfl, rfl, ?_⟩
        exact q _ _ ((ok.store (av := .d d1) r1).store (av := .d d2) r2) (fun vs hv => by rw [wipe_set (hv j (by simp)), wipe_set (hv i (by simp))]) h
theorem gw_tup3 (h : P ⟨((S.sl.set i (some (.d d1))).set j (some (.d d2))).set k (some (.d d3)), S.mu⟩) : GW K (gTup K 3 (gCons (gName i) (gCons (gName j) (gCons (gName k) gNil)))) [i, j, k] (.tuple [d1, d2, d3]) S P := fun Z as0 as fr σ H x ok r Q q => by
  cases r with
  | tup hs ha =>
    cases ha with
    | cons r1 ha =>
      cases ha with
      | cons r2 ha =>
        cases ha with
        | cons r3 ha =>
        cases ha
        refine ⟨_, _, rfl, sqT_ex off_le hs, rfl, _, _, rfl, _, _, rfl, _, _, rfl, rfl, ?_⟩
        exact q _ _ (((ok.store (av := .d d1) r1).store (av := .d d2) r2).store (av := .d d3) r3) (fun vs hv => by rw [wipe_set (hv k (by simp)), wipe_set (hv j (by simp)), wipe_set (hv i (by simp))]) h
end
/-! ### new lists -/
def NW (K : PySem.W.Frag) (t : TE) (S : AS) (P : List PyData → Mu → Prop) : Prop := ∀ Z as0 as fr σ H, Ok K Z as0 as fr S σ H → ∀ Q : VK,
  (∀ p H1 vs ds mu', H1 p = none → Gr as fr H H1 → Ok K Z as0 as fr ⟨S.sl, mu'⟩ σ H1 → DpAll K (off (as ++ fr) H1) vs ds → P ds mu' → Q (.ref p) (upd H1 p (.lst vs))) → t σ H Q
section
variable {K : PySem.W.Frag} {S : AS} {ta te : TE} {P : List PyData → Mu → Prop}
theorem NW.mono {P' : List PyData → Mu → Prop} (h : NW K te S P) (k : ∀ a mu, P a mu → P' a mu) : NW K te S P' := fun Z as0 as fr σ H ok Q q => h Z as0 as fr σ H ok Q fun p H1 vs ds mu' h1 g ok' r pp => q p H1 vs ds mu' h1 g ok' r (k _ _ pp)
/-- as data -/
theorem NW.ew {P : AV → Mu → Prop} (h : NW K te S fun ds mu => P (dL ds) mu) : EW K te S P := fun Z as0 as fr σ H ok Q q =>
  h Z as0 as fr σ H ok Q fun p H1 vs ds mu' hp g ok' r pp => q _ _ _ mu' (g.trans (.of (Ex.new hp))) (ok'.grow (Ex.new hp)) (rv_lst (sqL_of (ok'.hk.lay hp)) (da_ex (off_ex (Ex.new hp)) r)) pp
theorem NW.ev {ds : List PyData} (h : NW K te S fun ds' mu => ds' = ds ∧ mu = S.mu) : EV K te S (dL ds) := (h.mono fun _ _ ⟨e1, e2⟩ => ⟨by rw [e1], e2⟩).ew
theorem nw_lst {t : TA} (h : AW K t S fun avs mu => ∃ ds, avs = ds.map AV.d ∧ ds.length ≤ 1000000 ∧ P ds mu) : NW K (tLst t) S P := fun Z as0 as fr σ H ok Q q =>
  h Z as0 as fr σ H ok _ fun vs H1 avs mu1 g1 ok1 r1 ⟨ds, e, hl, p⟩ => by
    subst e
    have ra := r1.all
    exact ⟨sz_of (by rw [da_length ra]; exact hl), fun x hx => q x H1 vs ds mu1 hx g1 ok1 ra p⟩
/-- a comprehension: st i acc mu behind i turns -/
theorem nw_lc {wi : TI} {g : TG} {js vs : List Nat} {tt : TT} (hj : ∀ j ∈ js, j ∈ vs) (hI : EIW K wi S fun ds mu1 => ds.length ≤ 1000000 ∧ ∃ st : Nat → List PyData → Mu → Prop, st 0 [] mu1 ∧
      (∀ i d acc mu, ds[i]? = some d → st i acc mu → GW K g js d ⟨wp S.sl vs, mu⟩ fun S2 => TW K tt S2 fun b mu2 => if b = true then EW K te ⟨S2.sl, mu2⟩ fun a mu3 => ∃ e, a = .d e ∧ st (i + 1) (acc ++ [e]) mu3 else st (i + 1) acc mu2) ∧
      ∀ acc mu, st ds.length acc mu → P acc mu) : NW K (tLc wi g tt te vs) S P := fun Z as0 as fr σ H ok Q q =>
  hI Z as0 as fr σ H ok _ fun J H1 ds G mu1 g1 ok1 F hG ⟨hl, st, s0, sT, sE⟩ => fun Dl hD => by
    have hz := ok1.z_none hD
    have ok2 := ok1.laid (o := .lst []) hD
    have hG2 : G (off (as ++ Dl :: fr) (upd H1 Dl (.lst []))) := F.stay _ _ hG (fun b o e => by
      rw [off_del]
      obtain ⟨e1, e2⟩ := off_of e
      have : b ≠ Dl := ne_of_none e1 hD
      rw [off_at e2, del_ne this, upd_ne this]; exact e1)
    have g2 : Gr as fr H (del Dl (upd H1 Dl (.lst []))) := g1.trans (fun b o e => by
      obtain ⟨e1, e2⟩ := off_of e
      have : b ≠ Dl := ne_of_none e1 hD
      rw [off_at e2, del_ne this, upd_ne this]; exact e1)
    refine ⟨fun i m H' => m = ds.length - i ∧ i ≤ ds.length ∧ ∃ vs' acc mu, H' Dl = some (.lst vs') ∧ Ok K Z as0 as (Dl :: fr) ⟨S.sl, mu⟩ σ H' ∧ DpAll K (off (as ++ Dl :: fr) H') vs' acc ∧ acc.length ≤ i ∧ st i acc mu ∧ G (off (as ++ Dl :: fr) H') ∧ Gr as fr H (del Dl H'),
      ⟨ds.length, by simp, Nat.zero_le _, [], [], mu1, upd_same, ok2, .nil, Nat.zero_le _, s0, hG2, g2⟩, ?_⟩
    rintro i m H' ⟨rfl, hi, vs', acc, mu, hDl, ok', ra, hal, hst, hg, gr⟩
    by_cases hlt : i < ds.length
    · refine .inr ⟨F.go i _ H' hg hlt, fun H'' => i + 1 ≤ ds.length ∧ ∃ vs' acc mu, H'' Dl = some (.lst vs') ∧ Ok K Z as0 as (Dl :: fr) ⟨S.sl, mu⟩ σ H'' ∧ DpAll K (off (as ++ Dl :: fr) H'') vs' acc ∧ acc.length ≤ i + 1 ∧ st (i + 1) acc mu ∧ G (off (as ++ Dl :: fr) H'') ∧ Gr as fr H (del Dl H''),
        fun H'' h => ⟨ds.length - (i + 1), by omega, rfl, h.1, h.2⟩, fun x H2 hy => ?_⟩
      obtain ⟨d, hd, e2, rx⟩ := F.yld i (as ++ Dl :: fr) H' x H2 hg ok'.ex hlt hy
      have okx := ok'.grow e2
      have h2D : H2 Dl = some (.lst vs') := e2 _ _ hDl
      have zle : ∀ b o, Z b = some o → upd Z Dl (.lst vs') b = some o := fun b o e => by
        rw [upd_ne (fun z => by subst z; rw [hz] at e; cases e)]; exact e
      have hT := sT i d acc mu hd hst (upd Z Dl (.lst vs')) as0 as (Dl :: fr) (wipe σ vs) H2 x (Ok.wipe (okx.pin h2D) vs) rx
      have gD : ∀ {Ha Hb : Hp}, Gr as (Dl :: fr) Ha Hb → Gr as fr (del Dl Ha) (del Dl Hb) := fun g => by
        unfold Gr at g ⊢; rw [off_del, off_del] at g; exact g
      have dU : ∀ (Ha : Hp) (o : HO), del Dl (upd Ha Dl o) = del Dl Ha := fun Ha o => by
        funext b
        by_cases e : b = Dl
        · subst e; rw [del_same, del_same]
        · rw [del_ne e, del_ne e, upd_ne e]
      refine hT _ fun S2 σ2 okS hwp pS2 => ⟨by rw [hwp vs hj, wipe_wipe], ?_⟩
      refine pS2 _ as0 as (Dl :: fr) σ2 H2 okS _ fun b H3 mu2 g3 ok3 pb => ?_
      cases b with
      | true =>
        rw [if_pos rfl] at pb ⊢
        refine pb _ as0 as (Dl :: fr) σ2 H3 ok3 _ fun y H4 a mu3 g4 ok4 r4 ⟨e, ea, ps⟩ => ?_
        subst ea
        have h4D : H4 Dl = some (.lst vs') := (ok4.pres Dl _ upd_same).2
        have gr24 : Gr as (Dl :: fr) H2 H4 := g3.trans g4
        have okS4 : Ok K Z as0 as (Dl :: fr) ⟨S.sl, mu3⟩ σ H4 := okx.shift gr24 (ok4.anchor zle)
        have gr'4 : Gr as (Dl :: fr) H' H4 := (Gr.of e2).trans gr24
        refine ⟨vs', h4D, sz_lt (by rw [da_length ra]; omega), hlt, vs' ++ [y], acc ++ [e], mu3, upd_same, okS4.turn hz, ?_, by simp; omega, ps, ?_, ?_⟩
        · rw [off_turn]; exact da_append (da_ex gr'4 ra) (.cons r4 .nil)
        · rw [off_turn]; exact F.stay _ _ hg gr'4
        · rw [dU]; exact gr.trans (gD gr'4)
      | false =>
        rw [if_neg Bool.false_ne_true] at pb ⊢
        have h4D : H3 Dl = some (.lst vs') := (ok3.pres Dl _ upd_same).2
        have okS4 : Ok K Z as0 as (Dl :: fr) ⟨S.sl, mu2⟩ σ H3 := okx.shift g3 (ok3.anchor zle)
        have gr'4 : Gr as (Dl :: fr) H' H3 := (Gr.of e2).trans g3
        exact ⟨hlt, vs', acc, mu2, h4D, okS4, da_ex gr'4 ra, by omega, pb, F.stay _ _ hg gr'4, gr.trans (gD gr'4)⟩
    · have e : i = ds.length := by omega
      subst e
      refine .inl ⟨F.stop _ _ hg, ?_⟩
      have := q Dl (del Dl H') vs' acc mu del_same gr (ok'.aside hz) (by rw [← off_del]; exact ra) (sE acc mu hst)
      rw [upd_del hDl] at this
      exact this
end
end D2
set_option Elab.async false
set_option linter.all false
set_option maxRecDepth 100000
set_option maxHeartbeats 4000000
/-! DL4: statements, loops, promises, over data. -/
namespace D2
open PySem L2
/-- what is wanted behind a statement; n0: so many things of our own were the caller's -/
structure AE where
  n0 : Nat
  nx : AS → Prop
  rt : PyData → Mu → Prop
  rn : List PyData → Mu → Prop := fun _ _ => False
  bk : AS → Prop := fun _ => False
  ct : AS → Prop := fun _ => False
structure Imp (K : PySem.W.Frag) (Z : Hp) (as0 fr : List Addr) (A : AE) (D : Ends) : Prop where
  n0 : as0.length = A.n0
  nx : ∀ S' σ' H' as', Ok K Z as0 as' fr S' σ' H' → A.nx S' → D.nx σ' H'
  bk : ∀ S' σ' H' as', Ok K Z as0 as' fr S' σ' H' → A.bk S' → D.bk σ' H'
  ct : ∀ S' σ' H' as', Ok K Z as0 as' fr S' σ' H' → A.ct S' → D.ct σ' H'
  rt : ∀ v d mu' H', Dp K (off (as0 ++ fr) H') v d → MuOk K (off (as0 ++ fr) H') H' as0 mu' → (∀ b o, Z b = some o → H' b = some o) → A.rt d mu' → D.rt v H'
  rn : ∀ p vs ds mu' H1, H1 p = none → DpAll K (off (as0 ++ fr) H1) vs ds → MuOk K (off (as0 ++ fr) H1) H1 as0 mu' → (∀ b o, Z b = some o → H1 b = some o) → A.rn ds mu' → D.rt (.ref p) (upd H1 p (.lst vs))
def SW (K : PySem.W.Frag) (t : TS) (S : AS) (A : AE) : Prop := ∀ Z as0 as fr σ H D, Ok K Z as0 as fr S σ H → Imp K Z as0 fr A D → t D σ H
/-- S knows no more than S' -/
inductive LeS : List (Option AV) → List (Option AV) → Prop
  | nil : LeS [] []
  | skip {a : Option AV} {xs ys : List (Option AV)} : LeS xs ys → LeS (none :: xs) (a :: ys)
  | same {a : Option AV} {xs ys : List (Option AV)} : LeS xs ys → LeS (a :: xs) (a :: ys)
theorem LeS.len : ∀ {xs ys : List (Option AV)}, LeS xs ys → xs.length = ys.length
  | _, _, .nil => rfl
  | _, _, .skip h => by simp [LeS.len h]
  | _, _, .same h => by simp [LeS.len h]
theorem LeS.get : ∀ {xs ys : List (Option AV)}, LeS xs ys → ∀ (i : Nat) a, xs[i]? = some (some a) → ys[i]? = some (some a)
  | _, _, .nil, _, _, h => by simp at h
  | _, _, .skip h, 0, _, e => by simp at e
  | _, _, .skip h, i + 1, a, e => by simp at e ⊢; exact LeS.get h i a e
  | _, _, .same h, 0, _, e => by simpa using e
  | _, _, .same h, i + 1, a, e => by simp at e ⊢; exact LeS.get h i a e
theorem LeS.refl : ∀ xs : List (Option AV), LeS xs xs
  | [] => .nil
  | _ :: xs => .same (LeS.refl xs)
/-- S' is S or knows more -/
def Le (S S' : AS) : Prop := LeS S.sl S'.sl ∧ S.mu = S'.mu
theorem Le.refl (S : AS) : Le S S := ⟨LeS.refl _, rfl⟩
theorem Ok.le {K : PySem.W.Frag} {Z H : Hp} {as0 as fr : List Addr} {S S' : AS} {σ : L2.St} (h : Ok K Z as0 as fr S' σ H) (l : Le S S') : Ok K Z as0 as fr S σ H := h.weak l.1.len l.1.get l.2
section
variable {K : PySem.W.Frag} {S : AS} {ta te tb : TE} {t u : TS} {tt : TT} {A : AE} {a : AV}
theorem sw_le {S' : AS} (h : SW K t S A) (l : Le S S') : SW K t S' A := fun Z as0 as fr σ H D ok im => h Z as0 as fr σ H D (ok.le l) im
theorem sw_next (h : A.nx S) : SW K tNext S A := fun Z as0 as fr σ H D ok im => im.nx S σ H as ok h
theorem sw_seq (h : SW K t S { A with nx := fun S' => SW K u S' A }) : SW K (tSeq t u) S A := fun Z as0 as fr σ H D ok im =>
  h Z as0 as fr σ H _ ok ⟨im.n0, fun S' σ' H' as' ok' k => k Z as0 as' fr σ' H' D ok' im, im.bk, im.ct, im.rt, im.rn⟩
theorem sw_asg {i : Nat} (h : EW K te S fun a mu => A.nx ⟨S.sl.set i (some a), mu⟩) : SW K (tAsg te (gName i)) S A := fun Z as0 as fr σ H D ok im =>
  h Z as0 as fr σ H ok _ fun v H1 a mu1 g ok1 r p => im.nx _ _ _ _ (ok1.store r) p
theorem sw_asgE {i : Nat} (h : EV K te S a) (k : A.nx ⟨S.sl.set i (some a), S.mu⟩) : SW K (tAsg te (gName i)) S A := sw_asg (h.ew k)
/-- a new list becomes our own -/
theorem sw_asgN {i : Nat} (h : NW K te S fun ds mu => A.nx ⟨S.sl.set i (some (.o mu.length)), mu ++ [.l ds]⟩) : SW K (tAsg te (gName i)) S A := fun Z as0 as fr σ H D ok im =>
  h Z as0 as fr σ H ok _ fun p H1 vs ds mu1 hp g ok1 r k => by
    have ok2 := ok1.own (o := .lst vs) (m := .l ds) hp ⟨vs, upd_same, r⟩
    refine im.nx _ _ _ _ (ok2.store (i := i) (v := .ref p) (av := .o mu1.length) ⟨p, ?_, rfl⟩) k
    have : as.length = mu1.length := ok1.mu.1
    rw [← this, List.getElem?_append_right (Nat.le_refl _), Nat.sub_self]; rfl
/-- unpacking -/
theorem sw_asgG {g : TG} {js : List Nat} (h : EW K te S fun a mu => ∃ d, a = .d d ∧ GW K g js d ⟨S.sl, mu⟩ A.nx) : SW K (tAsg te g) S A := fun Z as0 as fr σ H D ok im =>
  h Z as0 as fr σ H ok _ fun v H1 a mu1 g ok1 r ⟨d, e, p⟩ => by
    subst e
    exact p Z as0 as fr σ H1 v ok1 r _ fun S' σ' ok' _ k => im.nx _ _ _ _ ok' k
theorem sw_par {i j : Nat} {t : TA} (h : AW K t S fun avs mu => ∃ a b, avs = [a, b] ∧ A.nx ⟨(S.sl.set i (some a)).set j (some b), mu⟩) : SW K (tPar i j t) S A := fun Z as0 as fr σ H D ok im =>
  h Z as0 as fr σ H ok _ fun vs H1 avs mu1 g ok1 r ⟨a, b, e, k⟩ => by
    subst e
    cases r with
    | cons r1 r =>
      cases r with
      | cons r2 r =>
        cases r
        exact ⟨_, _, rfl, im.nx _ _ _ _ ((ok1.store r1).store r2) k⟩
theorem sw_drop (h : EW K te S fun _ mu => A.nx ⟨S.sl, mu⟩) : SW K (tDrop te) S A := fun Z as0 as fr σ H D ok im =>
  h Z as0 as fr σ H ok _ fun v H1 a mu1 g ok1 r p => im.nx _ _ _ _ ok1 p
theorem sw_if (h : TW K tt S fun b mu => if b = true then SW K t ⟨S.sl, mu⟩ A else SW K u ⟨S.sl, mu⟩ A) : SW K (tIfS tt t u) S A := fun Z as0 as fr σ H D ok im =>
  h Z as0 as fr σ H ok _ fun b H1 mu1 g ok1 p => by
    cases b with
    | true => rw [if_pos rfl] at p ⊢; exact p Z as0 as fr σ H1 D ok1 im
    | false => rw [if_neg Bool.false_ne_true] at p ⊢; exact p Z as0 as fr σ H1 D ok1 im
theorem sw_ifE {b : Bool} (h : TV K tt S b) (h1 : b = true → SW K t S A) (h2 : b = false → SW K u S A) : SW K (tIfS tt t u) S A := sw_if (h.ew (by
  cases b with
  | true => rw [if_pos rfl]; exact h1 rfl
  | false => rw [if_neg Bool.false_ne_true]; exact h2 rfl))
theorem mu_take {Hf H : Hp} {as as0 more : List Addr} {mu : Mu} (h : MuOk K Hf H as mu) (e : as = as0 ++ more) : MuOk K Hf H as0 (mu.take as0.length) := by
  subst e
  refine ⟨by have := h.1; simp at this ⊢; omega, fun j p m hj hm => h.2 j p m ?_ ?_⟩
  · rw [List.getElem?_append_left (List.getElem?_eq_some_iff.mp hj).1]; exact hj
  · have := (List.getElem?_eq_some_iff.mp hj).1
    rw [List.getElem?_take_of_lt this] at hm; exact hm
theorem MuOk.ex {Hf Hf' H : Hp} {as : List Addr} {mu : Mu} (h : MuOk K Hf H as mu) (e : Ex Hf Hf') : MuOk K Hf' H as mu := ⟨h.1, fun j p m hj hm => (h.2 j p m hj hm).ex e rfl⟩
theorem sw_ret (h : EW K te S fun a mu => ∃ d, a = .d d ∧ A.rt d (mu.take A.n0)) : SW K (tRet te) S A := fun Z as0 as fr σ H D ok im =>
  h Z as0 as fr σ H ok _ fun v H1 a mu1 g ok1 r ⟨d, e, p⟩ => by
    subst e
    obtain ⟨more, hm⟩ := ok1.pre
    have eo : Ex (off (as ++ fr) H1) (off (as0 ++ fr) H1) := off_mono fun b hb => by
      rcases List.mem_append.mp hb with z | z
      · exact List.mem_append_left _ (by rw [hm]; exact List.mem_append_left _ z)
      · exact List.mem_append_right _ z
    exact im.rt v d _ H1 (dp_ex eo r) ((mu_take ok1.mu hm).ex eo) (fun b o e => (ok1.pres b o e).2) (by rw [im.n0]; exact p)
theorem sw_retE {d : PyData} (h : EV K te S (.d d)) (k : A.rt d (S.mu.take A.n0)) : SW K (tRet te) S A := sw_ret (h.ew ⟨d, rfl, k⟩)
theorem sw_retN (k : A.rt .none (S.mu.take A.n0)) : SW K tRetN S A := fun Z as0 as fr σ H D ok im =>
  sw_retE (te := tC .non) ev_non k Z as0 as fr σ H D ok im
theorem sw_retNew (h : NW K te S fun ds mu => A.rn ds (mu.take A.n0)) : SW K (tRet te) S A := fun Z as0 as fr σ H D ok im =>
  h Z as0 as fr σ H ok _ fun p H1 vs ds mu1 hp g ok1 r k => by
    obtain ⟨more, hm⟩ := ok1.pre
    have eo : Ex (off (as ++ fr) H1) (off (as0 ++ fr) H1) := off_mono fun b hb => by
      rcases List.mem_append.mp hb with z | z
      · exact List.mem_append_left _ (by rw [hm]; exact List.mem_append_left _ z)
      · exact List.mem_append_right _ z
    exact im.rn p vs ds _ H1 hp (da_ex eo r) ((mu_take ok1.mu hm).ex eo) (fun b o e => (ok1.pres b o e).2) (by rw [im.n0]; exact k)
theorem sw_break (h : A.bk S) : SW K tBreak S A := fun Z as0 as fr σ H D ok im => im.bk _ _ _ _ ok h
theorem sw_cont (h : A.ct S) : SW K tCont S A := fun Z as0 as fr σ H D ok im => im.ct _ _ _ _ ok h
/-- x op= e -/
theorem sw_aug {i : Nat} {ti : TIp} {a1 : AV} (hx : S.sl[i]? = some (some a1)) (h : EW K te S fun a2 mu => ∃ a, RB K mu ti a1 a2 a ∧ A.nx ⟨S.sl.set i (some a), mu⟩) : SW K (tAug i te ti) S A := fun Z as0 as fr σ H D ok im => by
  obtain ⟨x, h1, r1⟩ := ok.sl i _ hx
  refine ⟨x, h1, h Z as0 as fr σ H ok _ fun v H1 a2 mu1 g ok1 r ⟨a, hb, k⟩ => ?_⟩
  exact hb as fr H1 x v ok1.hk (r1.ex g) r _ fun z H2 e rz => im.nx _ _ _ _ ((ok1.grow e).store rz) k
theorem own_ty {as fr : List Addr} {mu : Mu} {H : Hp} {j : Nat} {p : Addr} {xs : List PyData} (h : MuOk K (off (as ++ fr) H) H as mu) (hp : as[j]? = some p) (hm : mu[j]? = some (.l xs)) : tyV K "list" (.ref p) H := by
  obtain ⟨vs, hv, _⟩ := h.2 j p _ hp hm
  exact .inl ⟨rfl, vs, .inl (.inl hv)⟩
/-- xs.append(e), xs our own -/
theorem sw_app {i j : Nat} {xs0 : List PyData} (hi : S.sl[i]? = some (some (.o j))) (hj : S.mu[j]? = some (.l xs0)) (h : EW K te S fun a mu => ∃ d xs, a = .d d ∧ mu[j]? = some (.l xs) ∧ xs.length < 1000000 ∧ A.nx ⟨S.sl, mu.set j (.l (xs ++ [d]))⟩) :
    SW K (tDrop (tBM K "list" rAppend (tVar i) (tCons te tNil))) S A := fun Z as0 as fr σ H D ok im => by
  obtain ⟨v, h1, p, hp, e⟩ := ok.sl i _ hi
  subst e
  refine ⟨.ref p, h1, own_ty ok.mu hp hj, ?_⟩
  · refine h Z as0 as fr σ H ok _ fun v H1 a mu1 g ok1 r ⟨d, xs, e, hm, hz, k⟩ => ?_
    subst e
    obtain ⟨vs, hv, ra⟩ := ok1.mu.2 j p _ hp hm
    exact ⟨p, vs, v, rfl, rfl, hv, sz_lt (by rw [da_length ra]; exact hz), im.nx _ _ _ _ (ok1.put (m := .l (xs ++ [d])) hp ⟨vs ++ [v], upd_same, da_append ra (.cons r .nil)⟩) k⟩
theorem ixN_nat {n j : Nat} (hj : j < n) : ixN n (j : Int) = some j := by
  unfold ixN
  rw [if_pos (by omega), if_pos (by omega)]
  simp
/-- xs[k] = e, xs our own -/
theorem sw_setL {i j : Nat} (hi : S.sl[i]? = some (some (.o j))) (h : EW K te S fun a mu1 => EW K tb ⟨S.sl, mu1⟩ fun b mu2 => ∃ (d : PyData) (xs : List PyData) (k : Nat), a = .d d ∧ b = dI k ∧ mu2[j]? = some (.l xs) ∧ k < xs.length ∧ A.nx ⟨S.sl, mu2.set j (.l (xs.set k d))⟩) :
    SW K (tAsg te (gSub (tVar i) tb rSetL)) S A := fun Z as0 as fr σ H D ok im =>
  h Z as0 as fr σ H ok _ fun v H1 a mu1 g1 ok1 r1 p1 => by
    obtain ⟨w, h1, p, hp, e⟩ := ok1.sl i _ hi
    subst e
    refine ⟨.ref p, h1, p1 Z as0 as fr σ H1 ok1 _ fun v2 H2 b mu2 g2 ok2 r2 ⟨d, xs, k, e1, e2, hm, hk, q⟩ => ?_⟩
    subst e1; subst e2
    cases r2
    obtain ⟨vs, hv, ra⟩ := ok2.mu.2 j p _ hp hm
    refine ⟨p, vs, (k : Int), k, rfl, rfl, hv, ixN_nat (by rw [da_length ra]; exact hk), im.nx _ _ _ _ (ok2.put (m := .l (xs.set k d)) hp ⟨vs.set k v, upd_same, da_set k (r1.ex g2) ra⟩) q⟩
/-! freezing: a thing of our own is data from here on -/
def frzA (j : Nat) (ds : List PyData) : Option AV → Option AV
  | some (.o k) => if k = j then some (.d (.list ds)) else if j < k then some (.o (k - 1)) else some (.o k)
  | x => x
theorem sw_frz {j : Nat} {ds : List PyData} (hm : S.mu[j]? = some (.l ds)) (hj : A.n0 ≤ j) (h : SW K t ⟨S.sl.map (frzA j ds), S.mu.eraseIdx j⟩ A) : SW K t S A := fun Z as0 as fr σ H D ok im => by
  refine h Z as0 (as.eraseIdx j) fr σ H D ?_ im
  have hjl : j < as.length := by rw [ok.mu.1]; exact (List.getElem?_eq_some_iff.mp hm).1
  obtain ⟨p, hp⟩ : ∃ p, as[j]? = some p := ⟨_, List.getElem?_eq_getElem hjl⟩
  have sub : ∀ b ∈ as.eraseIdx j ++ fr, b ∈ as ++ fr := fun b hb => by
    rcases List.mem_append.mp hb with z | z
    · exact List.mem_append_left _ (List.mem_of_mem_eraseIdx z)
    · exact List.mem_append_right _ z
  have eo : Ex (off (as ++ fr) H) (off (as.eraseIdx j ++ fr) H) := off_mono sub
  have nd := List.nodup_append.mp ok.nd
  have pne : p ∉ as.eraseIdx j ++ fr := fun z => by
    rcases List.mem_append.mp z with z | z
    · obtain ⟨i, hne, hi⟩ := List.mem_eraseIdx_iff_getElem?.mp z
      obtain ⟨h1, e1⟩ := List.getElem?_eq_some_iff.mp hi
      obtain ⟨h2, e2⟩ := List.getElem?_eq_some_iff.mp hp
      exact hne ((List.getElem_inj nd.1).mp (e1.trans e2.symm))
    · exact nd.2.2 p (List.mem_of_getElem? hp) p z rfl
  obtain ⟨vs, hv, ra⟩ := ok.mu.2 j p _ hp hm
  have ge : ∀ (i : Nat), (as.eraseIdx j)[i]? = if i < j then as[i]? else as[i + 1]? := fun i => List.getElem?_eraseIdx
  refine ⟨by rw [List.length_map]; exact ok.len, fun i av e => ?_, ⟨?_, fun i q m hi hm' => ?_⟩, ?_, fun q hq => ok.ex q (sub q hq), ?_, fun b o e => ?_⟩
  · have e' : (S.sl.map (frzA j ds))[i]? = some (some av) := e
    rw [List.getElem?_map] at e'
    obtain ⟨x, hx, ex⟩ : ∃ x, S.sl[i]? = some x ∧ frzA j ds x = some av := by
      cases hs : S.sl[i]? with
      | none => rw [hs] at e'; cases e'
      | some x => rw [hs] at e'; exact ⟨x, rfl, Option.some.inj e'⟩
    cases x with
    | none => cases ex
    | some a =>
      obtain ⟨v, h1, h2⟩ := ok.sl i a hx
      cases a with
      | d x => cases ex; exact ⟨v, h1, h2.ex eo⟩
      | o k =>
        obtain ⟨q, hq, e2⟩ := h2
        subst e2
        refine ⟨.ref q, h1, ?_⟩
        unfold frzA at ex
        by_cases c : k = j
        · simp only [c, if_true] at ex
          cases ex
          subst c
          rw [hp] at hq; cases hq
          exact .lst (sqL_of (by rw [off_at pne]; exact hv)) (da_ex eo ra)
        · simp only [c, if_false] at ex
          by_cases c2 : j < k
          · simp only [c2, if_true] at ex
            cases ex
            refine ⟨q, ?_, rfl⟩
            rw [ge, if_neg (by omega)]
            rw [show k - 1 + 1 = k by omega]; exact hq
          · simp only [c2, if_false] at ex
            cases ex
            refine ⟨q, ?_, rfl⟩
            rw [ge, if_pos (by omega)]; exact hq
  · show (as.eraseIdx j).length = (S.mu.eraseIdx j).length
    rw [List.length_eraseIdx, List.length_eraseIdx, ok.mu.1]
  · have hm'' : (S.mu.eraseIdx j)[i]? = some m := hm'
    rw [List.getElem?_eraseIdx] at hm''
    rw [ge] at hi
    by_cases c : i < j
    · rw [if_pos c] at hi hm''
      exact (ok.mu.2 i q m hi hm'').ex eo rfl
    · rw [if_neg c] at hi hm''
      exact (ok.mu.2 (i + 1) q m hi hm'').ex eo rfl
  · refine List.nodup_append.mpr ⟨nd.1.sublist (List.eraseIdx_sublist _ _), nd.2.1, fun a ha b hb => nd.2.2 a (List.mem_of_mem_eraseIdx ha) b hb⟩
  · obtain ⟨more, e⟩ := ok.pre
    refine ⟨more.eraseIdx (j - as0.length), ?_⟩
    rw [e, List.eraseIdx_append_of_length_le (by rw [im.n0]; exact hj)]
  · obtain ⟨h1, h2⟩ := ok.pres b o e
    exact ⟨fun z => h1 (List.mem_of_mem_eraseIdx z), h2⟩
/-! ### loops -/
theorem sw_for {wi : TI} {g : TG} {js : List Nat} (hI : EIW K wi S fun ds mu1 => ∃ st : Nat → AS → Prop, st 0 ⟨S.sl, mu1⟩ ∧
      (∀ i d S', ds[i]? = some d → st i S' → GW K g js d S' fun S2 => SW K t S2 { A with nx := st (i + 1), ct := st (i + 1), bk := A.nx }) ∧ ∀ S', st ds.length S' → A.nx S') : SW K (tFor wi g t) S A := fun Z as0 as fr σ H D ok im =>
  hI Z as0 as fr σ H ok _ fun J H1 ds G mu1 g1 ok1 F hG ⟨st, s0, sT, sE⟩ => by
    have zle := ok1.z_le
    have imZ : Imp K (off as H1) as0 fr A D := ⟨im.n0, fun S' σ' H' as' h => im.nx S' σ' H' as' (h.anchor zle), fun S' σ' H' as' h => im.bk S' σ' H' as' (h.anchor zle), fun S' σ' H' as' h => im.ct S' σ' H' as' (h.anchor zle),
      fun v d mu' H' h1 h2 h3 => im.rt v d mu' H' h1 h2 fun b o e => h3 b o (zle b o e), fun p vs ds mu' H' h0 h1 h2 h3 => im.rn p vs ds mu' H' h0 h1 h2 fun b o e => h3 b o (zle b o e)⟩
    have gk : ∀ {as' : List Addr} {S' : AS} {σ' : L2.St} {H' : Hp}, Ok K (off as H1) as0 as' fr S' σ' H' → G (off (as' ++ fr) H') := fun {as' S' σ' H'} h => F.stay _ _ hG fun b o e => by
      obtain ⟨e1, e2⟩ := off_of e
      obtain ⟨h1, h2⟩ := h.pres b o (by rw [off_at fun z => e2 (List.mem_append_left _ z)]; exact e1)
      rw [off_at fun z => ?_]
      · exact h2
      · rcases List.mem_append.mp z with z | z
        · exact h1 z
        · exact e2 (List.mem_append_right _ z)
    refine ⟨fun i m σ' H' => m = ds.length - i ∧ i ≤ ds.length ∧ ∃ S' as', Ok K (off as H1) as0 as' fr S' σ' H' ∧ st i S', ⟨ds.length, by simp, Nat.zero_le _, _, as, ok1.here, s0⟩, ?_⟩
    rintro i m σ' H' ⟨rfl, hi, S', as', ok', hs⟩
    by_cases hlt : i < ds.length
    · refine .inr ⟨F.go i _ H' (gk ok') hlt, fun σ2 H2 => i + 1 ≤ ds.length ∧ ∃ S' as', Ok K (off as H1) as0 as' fr S' σ2 H2 ∧ st (i + 1) S', fun σ2 H2 h => ⟨ds.length - (i + 1), by omega, rfl, h⟩, fun x H2 hy => ?_⟩
      obtain ⟨d, hd, e2, rx⟩ := F.yld i _ H' x H2 (gk ok') ok'.ex hlt hy
      refine sT i d S' hd hs _ as0 as' fr σ' H2 x (ok'.grow e2) rx _ fun S2 σ2 okS _ body => ?_
      refine body _ as0 as' fr σ2 H2 _ okS ⟨im.n0, fun S3 σ3 H3 as3 h k => ⟨hlt, S3, as3, h, k⟩, fun S3 σ3 H3 as3 h k => imZ.nx _ _ _ _ h k, fun S3 σ3 H3 as3 h k => ⟨hlt, S3, as3, h, k⟩, imZ.rt, imZ.rn⟩
    · have e : i = ds.length := by omega
      subst e
      exact .inl ⟨F.stop _ _ (gk ok'), imZ.nx _ _ _ _ ok' (sE _ hs)⟩
theorem sw_while (W : Nat → AS → Prop) (h0 : ∃ m, W m S) (hs : ∀ m S', W m S' → TW K tt S' fun b mu => if b = true then SW K t ⟨S'.sl, mu⟩ { A with nx := fun S2 => ∃ m', m' < m ∧ W m' S2, ct := fun S2 => ∃ m', m' < m ∧ W m' S2, bk := A.nx } else A.nx ⟨S'.sl, mu⟩) : SW K (tWhile tt t) S A := fun Z as0 as fr σ H D ok im => by
  obtain ⟨m0, w0⟩ := h0
  refine ⟨fun m σ' H' => ∃ S' as', Ok K Z as0 as' fr S' σ' H' ∧ W m S', ⟨m0, S, as, ok, w0⟩, ?_⟩
  rintro m σ' H' ⟨S', as', ok', w⟩
  refine hs m S' w Z as0 as' fr σ' H' ok' _ fun b H1 mu1 g ok1 p => ?_
  cases b with
  | true =>
    rw [if_pos rfl] at p ⊢
    refine ⟨fun σ2 H2 => ∃ m', m' < m ∧ ∃ S' as', Ok K Z as0 as' fr S' σ2 H2 ∧ W m' S', fun σ2 H2 h => h, ?_⟩
    exact p Z as0 as' fr σ' H1 _ ok1 ⟨im.n0, fun S3 σ3 H3 as3 h ⟨m', k1, k2⟩ => ⟨m', k1, S3, as3, h, k2⟩, fun S3 σ3 H3 as3 h k => im.nx _ _ _ _ h k, fun S3 σ3 H3 as3 h ⟨m', k1, k2⟩ => ⟨m', k1, S3, as3, h, k2⟩, im.rt, im.rn⟩
  | false =>
    rw [if_neg Bool.false_ne_true] at p ⊢
    exact im.nx _ _ _ _ ok1 p
/-! ### promises -/
/-- a pure def: R tells the answer to the arguments -/
def spP (K : PySem.W.Frag) (R : List PyData → PyData → Prop) : Sp := fun vs H Q _ => ∃ (fr : List Addr) (ds : List PyData) (r : PyData), fr.Nodup ∧ (∀ q ∈ fr, ∃ o, H q = some o) ∧ DpAll K (off fr H) vs ds ∧ R ds r ∧
  ∀ v H', Ex H H' → Dp K (off fr H') v r → Q v H'
/-- a def that gives a new list -/
def spN (K : PySem.W.Frag) (R : List PyData → List PyData → Prop) : Sp := fun vs H Q _ => ∃ (fr : List Addr) (ds : List PyData) (rs : List PyData), fr.Nodup ∧ (∀ q ∈ fr, ∃ o, H q = some o) ∧ DpAll K (off fr H) vs ds ∧ R ds rs ∧
  ∀ p H1 ws, H1 p = none → Ex H H1 → DpAll K (off fr H1) ws rs → Q (.ref p) (upd H1 p (.lst ws))
/-- a def that changes one list that is handed in (.o 0 among the arguments) -/
def spD (K : PySem.W.Frag) (R : List AV → MO → (PyData → MO → Prop) → Prop) : Sp := fun vs H Q _ => ∃ (p : Addr) (fr : List Addr) (avs : List AV) (m : MO) (Post : PyData → MO → Prop), (p :: fr).Nodup ∧ (∀ q ∈ p :: fr, ∃ o, H q = some o) ∧
  MoOk K (off (p :: fr) H) H p m ∧ RepA K (off (p :: fr) H) [p] vs avs ∧ R avs m Post ∧
  ∀ v H' r m', (∀ b o, H b = some o → b ≠ p → H' b = some o) → MoOk K (off (p :: fr) H') H' p m' → Dp K (off (p :: fr) H') v r → Post r m' → Q v H'
theorem ew_call {R : List PyData → PyData → Prop} {E : XK} {ta : TA} {P : AV → Mu → Prop} (h : AW K ta S fun avs mu => ∃ ds r, avs = ds.map AV.d ∧ R ds r ∧ P (.d r) mu) : EW K (tCall (spP K R) [] E ta) S P := fun Z as0 as fr σ H ok Q q =>
  h Z as0 as fr σ H ok _ fun vs H1 avs mu1 g1 ok1 r1 ⟨ds, r, e, hR, p⟩ => by
    subst e
    refine ⟨as ++ fr, ds, r, ok1.nd, ok1.ex, by rw [List.append_nil]; exact r1.all, hR, fun v H' e rv => q v H' (.d r) mu1 (g1.trans (.of e)) (ok1.grow e) rv p⟩
theorem ev_call {R : List PyData → PyData → Prop} {E : XK} {ta : TA} {ds : List PyData} {r : PyData} (h : AVs K ta S (ds.map AV.d)) (hR : R ds r) : EV K (tCall (spP K R) [] E ta) S (.d r) := ew_call (h.ew ⟨ds, r, rfl, hR, rfl, rfl⟩)
theorem nw_call {R : List PyData → List PyData → Prop} {E : XK} {ta : TA} {P : List PyData → Mu → Prop} (h : AW K ta S fun avs mu => ∃ ds rs, avs = ds.map AV.d ∧ R ds rs ∧ P rs mu) : NW K (tCall (spN K R) [] E ta) S P := fun Z as0 as fr σ H ok Q q =>
  h Z as0 as fr σ H ok _ fun vs H1 avs mu1 g1 ok1 r1 ⟨ds, rs, e, hR, p⟩ => by
    subst e
    refine ⟨as ++ fr, ds, rs, ok1.nd, ok1.ex, by rw [List.append_nil]; exact r1.all, hR, fun l H' ws hl e ra => q l H' ws rs mu1 hl (g1.trans (.of e)) (ok1.grow e) ra p⟩
def ren (j : Nat) : AV → AV
  | .o _ => .o j
  | x => x
theorem repA_ren {H : Hp} {as : List Addr} {j : Nat} {p : Addr} (hp : as[j]? = some p) : ∀ {vs : List V} {avs : List AV}, RepA K H as vs (avs.map (ren j)) → RepA K H [p] vs (avs.map (ren 0))
  | _, [], h => by cases h; exact .nil
  | _, .d x :: avs, h => by cases h with | cons h a => exact .cons h (repA_ren hp a)
  | _, .o k :: avs, h => by
    cases h with
    | cons h a =>
      obtain ⟨q, hq, e⟩ := h
      rw [hp] at hq; cases hq
      exact .cons ⟨p, rfl, e⟩ (repA_ren hp a)
theorem ew_callD {R : List AV → MO → (PyData → MO → Prop) → Prop} {E : XK} {ta : TA} {P : AV → Mu → Prop} (h : AW K ta S fun avs mu => ∃ (j : Nat) (m : MO) (avs' : List AV) (Post : PyData → MO → Prop), mu[j]? = some m ∧ avs = avs'.map (ren j) ∧ R (avs'.map (ren 0)) m Post ∧ ∀ r m', Post r m' → P (.d r) (mu.set j m')) :
    EW K (tCall (spD K R) [] E ta) S P := fun Z as0 as fr σ H ok Q q =>
  h Z as0 as fr σ H ok _ fun vs H1 avs mu1 g1 ok1 r1 ⟨j, m, avs', Post, hm, e, hR, k⟩ => by
    subst e
    have hjl : j < as.length := by rw [ok1.mu.1]; exact (List.getElem?_eq_some_iff.mp hm).1
    obtain ⟨p, hp⟩ : ∃ p, as[j]? = some p := ⟨_, List.getElem?_eq_getElem hjl⟩
    have nd := List.nodup_append.mp ok1.nd
    have mem : ∀ b, b ∈ p :: (as.eraseIdx j ++ fr) ↔ b ∈ as ++ fr := fun b => by
      constructor
      · intro hb
        rcases List.mem_cons.mp hb with e | hb
        · subst e; exact List.mem_append_left _ (List.mem_of_getElem? hp)
        · rcases List.mem_append.mp hb with z | z
          · exact List.mem_append_left _ (List.mem_of_mem_eraseIdx z)
          · exact List.mem_append_right _ z
      · intro hb
        rcases List.mem_append.mp hb with z | z
        · obtain ⟨i, hi⟩ := List.getElem?_of_mem z
          by_cases c : i = j
          · subst c; rw [hp] at hi; cases hi; exact List.mem_cons_self
          · exact List.mem_cons_of_mem _ (List.mem_append_left _ (List.mem_eraseIdx_iff_getElem?.mpr ⟨i, c, hi⟩))
        · exact List.mem_cons_of_mem _ (List.mem_append_right _ z)
    have oe : ∀ Hx : Hp, off (p :: (as.eraseIdx j ++ fr)) Hx = off (as ++ fr) Hx := fun Hx => by
      funext b; unfold off
      by_cases c : b ∈ as ++ fr
      · rw [if_pos c, if_pos ((mem b).mpr c)]
      · rw [if_neg c, if_neg fun z => c ((mem b).mp z)]
    have pne : p ∉ as.eraseIdx j ++ fr := fun z => by
      rcases List.mem_append.mp z with z | z
      · obtain ⟨i, hne, hi⟩ := List.mem_eraseIdx_iff_getElem?.mp z
        obtain ⟨h1, e1⟩ := List.getElem?_eq_some_iff.mp hi
        obtain ⟨h2, e2⟩ := List.getElem?_eq_some_iff.mp hp
        exact hne ((List.getElem_inj nd.1).mp (e1.trans e2.symm))
      · exact nd.2.2 p (List.mem_of_getElem? hp) p z rfl
    have ndp : (p :: (as.eraseIdx j ++ fr)).Nodup := List.nodup_cons.mpr ⟨pne, List.nodup_append.mpr ⟨nd.1.sublist (List.eraseIdx_sublist _ _), nd.2.1, fun a ha b hb => nd.2.2 a (List.mem_of_mem_eraseIdx ha) b hb⟩⟩
    refine ⟨p, as.eraseIdx j ++ fr, avs'.map (ren 0), m, Post, ndp, fun q hq => ok1.ex q ((mem q).mp hq), ?_, ?_, hR, fun v H' r m' hk hmo rv hp' => ?_⟩
    · rw [oe]; exact ok1.mu.2 j p m hp hm
    · rw [oe, List.append_nil]; exact repA_ren hp r1
    · rw [oe] at hmo rv
      have pm : p ∈ as := List.mem_of_getElem? hp
      have g2 : Gr as fr H1 H' := fun b o e => by
        obtain ⟨e1, e2⟩ := off_of e
        rw [off_at e2]; exact hk b o e1 fun z => e2 (by rw [z]; exact List.mem_append_left _ pm)
      refine q v H' (.d r) (mu1.set j m') (g1.trans g2) ?_ rv (k r m' hp')
      refine ⟨ok1.len, fun i av e => let ⟨v, h1, r⟩ := ok1.sl i av e; ⟨v, h1, r.ex g2⟩, ⟨by simpa using ok1.mu.1, fun i q m2 hi hm2 => ?_⟩, ok1.nd, fun q hq => ?_, ok1.pre, fun b o e => ?_⟩
      · have hm2' : (mu1.set j m')[i]? = some m2 := hm2
        by_cases c : j = i
        · subst c
          rw [hp] at hi; cases hi
          rw [List.getElem?_set_self (List.getElem?_eq_some_iff.mp hm).1] at hm2'
          cases hm2'
          exact hmo
        · rw [List.getElem?_set_ne c] at hm2'
          have old := ok1.mu.2 i q m2 hi hm2'
          have qp : q ≠ p := fun z => by
            subst z
            obtain ⟨h1, e1⟩ := List.getElem?_eq_some_iff.mp hi
            obtain ⟨h2, e2⟩ := List.getElem?_eq_some_iff.mp hp
            exact c ((List.getElem_inj nd.1).mp (e2.trans e1.symm))
          obtain ⟨o, ho⟩ := ok1.ex q (List.mem_append_left _ (List.mem_of_getElem? hi))
          exact old.ex g2 (by rw [ho, hk q o ho qp])
      · by_cases c : q = p
        · subst c
          cases m' with
          | l xs => obtain ⟨vs, hv, _⟩ := hmo; exact ⟨_, hv⟩
          | k kvs => obtain ⟨vs, hv, _⟩ := hmo; exact ⟨_, hv⟩
          | r lo hi => exact ⟨_, hmo⟩
        · obtain ⟨o, ho⟩ := ok1.ex q hq
          exact ⟨o, hk q o ho c⟩
      · obtain ⟨h1, h2⟩ := ok1.pres b o e
        exact ⟨h1, hk b o h2 fun z => h1 (by rw [z]; exact pm)⟩
/-! the body of a def -/
theorem da_repA {Hf : Hp} {as : List Addr} : ∀ {vs : List V} {ds : List PyData}, DpAll K Hf vs ds → RepA K Hf as vs (ds.map AV.d)
  | _, _, .nil => .nil
  | _, _, .cons h a => .cons h (da_repA a)
theorem repA_len {Hf : Hp} {as : List Addr} : ∀ {vs : List V} {avs : List AV}, RepA K Hf as vs avs → vs.length = avs.length
  | _, _, .nil => rfl
  | _, _, .cons _ a => by simp [repA_len a]
theorem repA_get {Hf : Hp} {as : List Addr} : ∀ {vs : List V} {avs : List AV} {i : Nat} {a : AV}, RepA K Hf as vs avs → avs[i]? = some a → ∃ v, vs[i]? = some v ∧ RepV K Hf as v a
  | _, _, _, _, .nil, e => by simp at e
  | _, _, 0, _, .cons h _, e => by simp at e; subst e; exact ⟨_, rfl, h⟩
  | _, _, i + 1, d, .cons _ a, e => by
    obtain ⟨v, h1, h2⟩ := repA_get (i := i) a (by simpa using e)
    exact ⟨v, by simpa using h1, h2⟩
def ini (N : List Str) (avs : List AV) : List (Option AV) := avs.map some ++ List.replicate (N.length - avs.length) none
theorem ini_ok {N : List Str} {Hf : Hp} {as : List Addr} {vs : List V} {avs : List AV} (r : RepA K Hf as vs avs) : (L2.start N vs).length = (ini N avs).length ∧ ∀ (i : Nat) av, (ini N avs)[i]? = some (some av) → ∃ v, (L2.start N vs)[i]? = some (some v) ∧ RepV K Hf as v av := by
  have hl := repA_len r
  refine ⟨by unfold L2.start ini; simp [hl], fun i av e => ?_⟩
  unfold ini at e
  unfold L2.start
  by_cases c : i < avs.length
  · rw [List.getElem?_append_left (by simpa using c), List.getElem?_map] at e
    rw [List.getElem?_append_left (by simpa [hl] using c), List.getElem?_map]
    cases ha : avs[i]? with
    | none => rw [ha] at e; cases e
    | some a =>
      rw [ha] at e
      cases e
      obtain ⟨v, h1, h2⟩ := repA_get r ha
      exact ⟨v, by rw [h1]; rfl, h2⟩
  · rw [List.getElem?_append_right (by simpa using c)] at e
    have := List.mem_of_getElem? e
    rw [List.mem_replicate] at this
    exact nomatch this.2
theorem body_P {N : List Str} {R : List PyData → PyData → Prop} {vs : List V} {H : Hp} {Q : VK} {E : XK} (hsp : spP K R vs H Q E)
    (h : ∀ ds r, R ds r → SW K t ⟨ini N (ds.map AV.d), []⟩ { n0 := 0, nx := fun _ => r = .none, rt := fun d _ => d = r }) : t { nx := fun _ H' => Q .non H', rt := Q } (L2.start N vs) H := by
  obtain ⟨fr, ds, r, nd, ex, ra, hR, q⟩ := hsp
  have r0 : RepA K (off ([] ++ fr) H) [] vs (ds.map AV.d) := da_repA ra
  obtain ⟨i1, i2⟩ := ini_ok (N := N) r0
  refine h ds r hR H [] [] fr (L2.start N vs) H _ ⟨i1, i2, ⟨rfl, fun j p m hj => by simp at hj⟩, nd, ex, ⟨[], rfl⟩, fun b o e => ⟨by simp, e⟩⟩ ⟨rfl, fun S' σ' H' as' ok k => ?_, fun _ _ _ _ _ k => k.elim, fun _ _ _ _ _ k => k.elim, fun v d mu' H' rv _ pz k => ?_, fun _ _ _ _ _ _ _ _ _ k => k.elim⟩
  · exact q .non H' (fun b o e => (ok.pres b o e).2) (by rw [k]; exact .non)
  · exact q v H' pz (by rw [← (show d = r from k)]; exact rv)
theorem body_N {N : List Str} {R : List PyData → List PyData → Prop} {vs : List V} {H : Hp} {Q : VK} {E : XK} (hsp : spN K R vs H Q E)
    (h : ∀ ds r, R ds r → SW K t ⟨ini N (ds.map AV.d), []⟩ { n0 := 0, nx := fun _ => False, rt := fun d _ => False, rn := fun ds' _ => ds' = r }) : t { nx := fun _ H' => Q .non H', rt := Q } (L2.start N vs) H := by
  obtain ⟨fr, ds, r, nd, ex, ra, hR, q⟩ := hsp
  have r0 : RepA K (off ([] ++ fr) H) [] vs (ds.map AV.d) := da_repA ra
  obtain ⟨i1, i2⟩ := ini_ok (N := N) r0
  refine h ds r hR H [] [] fr (L2.start N vs) H _ ⟨i1, i2, ⟨rfl, fun j p m hj => by simp at hj⟩, nd, ex, ⟨[], rfl⟩, fun b o e => ⟨by simp, e⟩⟩ ⟨rfl, fun S' σ' H' as' ok k => k.elim, fun _ _ _ _ _ k => k.elim, fun _ _ _ _ _ k => k.elim, fun v d mu' H' rv _ pz k => k.elim, fun p ws ds' mu' H1 hp ra' _ pz k => ?_⟩
  exact q p H1 ws hp pz (by rw [← (show ds' = r from k)]; exact ra')
theorem body_D {N : List Str} {R : List AV → MO → (PyData → MO → Prop) → Prop} {vs : List V} {H : Hp} {Q : VK} {E : XK} (hsp : spD K R vs H Q E)
    (h : ∀ avs m Post, R avs m Post → SW K t ⟨ini N avs, [m]⟩ { n0 := 1, nx := fun S' => ∃ m', S'.mu.take 1 = [m'] ∧ Post .none m', rt := fun d mu => ∃ m', mu = [m'] ∧ Post d m' }) : t { nx := fun _ H' => Q .non H', rt := Q } (L2.start N vs) H := by
  obtain ⟨p, fr, avs, m, Post, nd, ex, mo, ra, hR, q⟩ := hsp
  have r0 : RepA K (off ([p] ++ fr) H) [p] vs avs := ra
  obtain ⟨i1, i2⟩ := ini_ok (N := N) r0
  have m1 : MuOk K (off ([p] ++ fr) H) H [p] [m] := ⟨rfl, fun j p' m' hj hm => by
    cases j with
    | zero => cases hj; cases hm; exact mo
    | succ j => simp at hj⟩
  refine h avs m Post hR (off [p] H) [p] [p] fr (L2.start N vs) H _ ⟨i1, i2, m1, nd, ex, ⟨[], rfl⟩, fun b o e => ⟨(off_of e).2, (off_of e).1⟩⟩ ⟨rfl, fun S' σ' H' as' ok ⟨m', e, k⟩ => ?_, fun _ _ _ _ _ k => k.elim, fun _ _ _ _ _ k => k.elim, fun v d mu' H' rv hmu pz ⟨m', e, k⟩ => ?_, fun _ _ _ _ _ _ _ _ _ k => k.elim⟩
  · obtain ⟨more, hm⟩ := ok.pre
    have eo : Ex (off (as' ++ fr) H') (off ([p] ++ fr) H') := off_mono fun b hb => by
      rcases List.mem_append.mp hb with z | z
      · exact List.mem_append_left _ (by rw [hm]; exact List.mem_append_left _ z)
      · exact List.mem_append_right _ z
    have := (mu_take ok.mu hm).ex eo
    rw [show [p].length = 1 from rfl, e] at this
    exact q .non H' .none m' (fun b o eb nb => (ok.pres b o (by rw [off_at (by simpa using nb)]; exact eb)).2) (this.2 0 p m' rfl rfl) .non k
  · subst e
    exact q v H' d m' (fun b o eb nb => pz b o (by rw [off_at (by simpa using nb)]; exact eb)) (hmu.2 0 p m' rfl rfl) rv k
end
end D2
set_option Elab.async false
set_option linter.all false
set_option maxRecDepth 100000
set_option maxHeartbeats 4000000
/-! DLA: rules over data: order, least and greatest, sorted. -/
namespace D2
open PySem PySem.Spec PyProof.Rows L2
open PySem.W (dataLt alike alikeAll AlikeAll minD maxD AllAlike Sortable dataLe)
section
variable {X : Cx}
def rLtX (K : PySem.W.Frag) : R2 := fun x y H Q => ∃ d e, Dp K H x d ∧ Dp K H y e ∧ alike d e = true ∧ d ≠ .none ∧ min d.depth e.depth ≤ 60 ∧ Q (.bl (dataLt d e)) H
def rGtX (K : PySem.W.Frag) : R2 := fun x y H Q => ∃ d e, Dp K H x d ∧ Dp K H y e ∧ alike d e = true ∧ d ≠ .none ∧ min d.depth e.depth ≤ 60 ∧ Q (.bl (dataLt e d)) H
def rLeX (K : PySem.W.Frag) : R2 := fun x y H Q => ∃ d e, Dp K H x d ∧ Dp K H y e ∧ alike d e = true ∧ d ≠ .none ∧ min d.depth e.depth ≤ 60 ∧ Q (.bl (!dataLt e d)) H
def rGeX (K : PySem.W.Frag) : R2 := fun x y H Q => ∃ d e, Dp K H x d ∧ Dp K H y e ∧ alike d e = true ∧ d ≠ .none ∧ min d.depth e.depth ≤ 60 ∧ Q (.bl (!dataLt d e)) H
theorem op_ltX (hu : X.A.units + 64 < cLine) : OpR X (compareOp .Lt) (rLtX X.K) := by
  intro pins s σ H x y v u Q I rx ry h
  obtain ⟨d, e, hd, he, ha, hn, hz, q⟩ := h
  obtain ⟨as, r1⟩ := Dp.reads I d x v hd rx
  obtain ⟨bs, r2⟩ := Dp.reads I e y u he ry
  exact PySem.W.lt_data r1 r2 ha hn (by omega) ⟨.bl _, H, I, rfl, q⟩
theorem op_gtX (hu : X.A.units + 64 < cLine) : OpR X (compareOp .Gt) (rGtX X.K) := by
  intro pins s σ H x y v u Q I rx ry h
  obtain ⟨d, e, hd, he, ha, hn, hz, q⟩ := h
  obtain ⟨as, r1⟩ := Dp.reads I d x v hd rx
  obtain ⟨bs, r2⟩ := Dp.reads I e y u he ry
  exact PySem.W.gt_data r1 r2 ha hn (by omega) ⟨.bl _, H, I, rfl, q⟩
theorem op_leX (hu : X.A.units + 64 < cLine) : OpR X (compareOp .LtE) (rLeX X.K) := by
  intro pins s σ H x y v u Q I rx ry h
  obtain ⟨d, e, hd, he, ha, hn, hz, q⟩ := h
  obtain ⟨as, r1⟩ := Dp.reads I d x v hd rx
  obtain ⟨bs, r2⟩ := Dp.reads I e y u he ry
  exact PySem.W.le_data r1 r2 ha hn (by omega) ⟨.bl _, H, I, rfl, q⟩
theorem op_geX (hu : X.A.units + 64 < cLine) : OpR X (compareOp .GtE) (rGeX X.K) := by
  intro pins s σ H x y v u Q I rx ry h
  obtain ⟨d, e, hd, he, ha, hn, hz, q⟩ := h
  obtain ⟨as, r1⟩ := Dp.reads I d x v hd rx
  obtain ⟨bs, r2⟩ := Dp.reads I e y u he ry
  exact PySem.W.ge_data r1 r2 ha hn (by omega) ⟨.bl _, H, I, rfl, q⟩
/-- min(xs), max(xs) of a list of data -/
def rMinX (K : PySem.W.Frag) : List V → Hp → VK → Prop := fun vs H Q => ∃ (a : Addr) (xs : List V) (d : PyData) (ds : List PyData), vs = [V.ref a] ∧ SqL K H a xs ∧ DpAll K H xs (d :: ds) ∧ AlikeAll (d :: ds) ∧ PyData.depthAll (d :: ds) ≤ 60 ∧ ∀ (i : Nat) v, xs[i]? = some v → (d :: ds)[i]? = some (minD d ds) → Q v H
def rMaxX (K : PySem.W.Frag) : List V → Hp → VK → Prop := fun vs H Q => ∃ (a : Addr) (xs : List V) (d : PyData) (ds : List PyData), vs = [V.ref a] ∧ SqL K H a xs ∧ DpAll K H xs (d :: ds) ∧ AlikeAll (d :: ds) ∧ PyData.depthAll (d :: ds) ≤ 60 ∧ ∀ (i : Nat) v, xs[i]? = some v → (d :: ds)[i]? = some (maxD d ds) → Q v H
theorem fold_mem (f : PyData → PyData → Bool) : ∀ (ds : List PyData) (d : PyData), ds.foldl (fun a y => if f y a then y else a) d ∈ d :: ds
  | [], d => List.mem_cons_self
  | e :: ds, d => by
    rw [List.foldl_cons]
    by_cases h : f e d = true
    · rw [if_pos h]; exact List.mem_cons_of_mem _ (fold_mem f ds e)
    · rw [if_neg h]
      rcases List.mem_cons.mp (fold_mem f ds d) with h2 | h2
      · rw [h2]; exact List.mem_cons_self
      · exact List.mem_cons_of_mem _ (List.mem_cons_of_mem _ h2)
theorem minD_mem (d : PyData) (ds : List PyData) : minD d ds ∈ d :: ds := fold_mem dataLt ds d
theorem maxD_mem (d : PyData) (ds : List PyData) : maxD d ds ∈ d :: ds := fold_mem (fun y a => dataLt a y) ds d
theorem item_is {h : Heap} {pins : List (Addr × Obj)} {s : Shared} {σ : L2.St} {H : Hp} (I : Inv X pins σ H s) {xs : List V} {its : List Value} {ds : List PyData} {i : Nat} {v : Value} {e : PyData} {bs : List Addr}
    (rv : Vals xs its) (ha : DpAll X.K H xs ds) (al : AlikeAll ds) (he : e ∈ ds) (hv : its[i]? = some v) (k : ∀ b o, s.heap.get? b = some o → h.get? b = some o) (r : Reads h v e bs) : ∃ x, RelV x v ∧ xs[i]? = some x ∧ ds[i]? = some e := by
  have hl := rv.length
  have hi : i < xs.length := by rw [hl]; exact (List.getElem?_eq_some_iff.mp hv).1
  obtain ⟨d, hd, hx⟩ := da_getV ha (List.getElem?_eq_getElem hi)
  obtain ⟨u, hu, ru⟩ := rv.get (List.getElem?_eq_getElem hi)
  rw [hv] at hu
  cases hu
  obtain ⟨as, r0⟩ := Dp.reads I d _ v hx ru
  have e1 : d = e := PySem.W.alike_unique d e v as bs (al.1 d (List.mem_of_getElem? hd) e he) (Reads.keeps k r0) r
  subst e1
  exact ⟨_, ru, List.getElem?_eq_getElem hi, hd⟩
theorem cr_minX (hc : X.calm = true) (hu : X.A.units + 64 < cLine) : CallR X (.builtin "min") (rMinX X.K) := by
  intro pins s σ H vs us Q I r h
  obtain ⟨a, xs, d, ds, rfl, hs, ha, al, hz, q⟩ := h
  obtain ⟨its, rv, hl, _⟩ := I.list hs
  obtain ⟨as, rr⟩ := Dp.readsAll I (d :: ds) xs its ha rv
  rw [Vals.ref1 r]
  refine PySem.W.min_list_data (I.ok.hd hc) hl.isList rr al (by omega) fun i v h' tk bs hv hr hk => ?_
  obtain ⟨x, rx, hx, hd⟩ := item_is I rv ha al (minD_mem d ds) (by simpa using hv) hk hr
  exact ⟨x, H, I.kept hk, rx, q i x hx hd⟩
theorem cr_maxX (hc : X.calm = true) (hu : X.A.units + 64 < cLine) : CallR X (.builtin "max") (rMaxX X.K) := by
  intro pins s σ H vs us Q I r h
  obtain ⟨a, xs, d, ds, rfl, hs, ha, al, hz, q⟩ := h
  obtain ⟨its, rv, hl, _⟩ := I.list hs
  obtain ⟨as, rr⟩ := Dp.readsAll I (d :: ds) xs its ha rv
  rw [Vals.ref1 r]
  refine PySem.W.max_list_data (I.ok.hd hc) hl.isList rr al (by omega) fun i v h' tk bs hv hr hk => ?_
  obtain ⟨x, rx, hx, hd⟩ := item_is I rv ha al (maxD_mem d ds) (by simpa using hv) hk hr
  exact ⟨x, H, I.kept hk, rx, q i x hx hd⟩
/-- sorted(xs) of a list of data -/
def rSortX (K : PySem.W.Frag) : List V → Hp → VK → Prop := fun vs H Q => ∃ (a : Addr) (xs : List V) (ds : List PyData), vs = [V.ref a] ∧ SqL K H a xs ∧ DpAll K H xs ds ∧ AllAlike ds ∧ Sortable ds ∧ (∀ d ∈ ds, d.depth ≤ 60) ∧
  ∀ p : Addr, H p = none → Q (.ref p) (upd H p (.lst (((xs.zip ds).mergeSort (dataLe false fun b : V × PyData => b.2)).map (·.1))))
theorem zip_each {X : Cx} {pins : List (Addr × Obj)} {s : Shared} {σ : L2.St} {H : Hp} (I : Inv X pins σ H s) : ∀ {xs : List V} {its : List Value} {ds : List PyData}, Vals xs its → DpAll X.K H xs ds →
    (xs.zip ds).map (·.2) = ds ∧ PySem.W.EachIs (fun v (b : V × PyData) => RelV b.1 v ∧ Dp X.K H b.1 b.2) its (xs.zip ds)
  | _, _, _, .nil, .nil => ⟨rfl, .nil⟩
  | _, _, _, .cons r rr, .cons a aa => by
    obtain ⟨e, h⟩ := zip_each I rr aa
    exact ⟨by rw [List.zip_cons_cons, List.map_cons, e], .cons ⟨r, a⟩ h⟩
theorem zip_dp {K : PySem.W.Frag} {H : Hp} : ∀ {xs : List V} {ds : List PyData}, DpAll K H xs ds → ∀ b ∈ xs.zip ds, Dp K H b.1 b.2
  | _, _, .nil, b, hb => by simp at hb
  | _, _, .cons a aa, b, hb => by
    rw [List.zip_cons_cons] at hb
    rcases List.mem_cons.mp hb with h | h
    · rw [h]; exact a
    · exact zip_dp aa b h
theorem zip_snd : ∀ {xs : List V} {ds : List PyData}, xs.length = ds.length → (xs.zip ds).map (·.2) = ds
  | [], [], _ => rfl
  | [], _ :: _, h => by simp at h
  | _ :: _, [], h => by simp at h
  | x :: xs, d :: ds, h => by rw [List.zip_cons_cons, List.map_cons, zip_snd (by simpa using h)]
theorem dp_of_all {K : PySem.W.Frag} {H : Hp} : ∀ {bs : List (V × PyData)}, (∀ b ∈ bs, Dp K H b.1 b.2) → DpAll K H (bs.map (·.1)) (bs.map (·.2))
  | [], _ => .nil
  | b :: r, h => .cons (h b List.mem_cons_self) (dp_of_all fun x hx => h x (List.mem_cons_of_mem _ hx))
theorem sort_dp {K : PySem.W.Frag} {H : Hp} {xs : List V} {ds : List PyData} (hl : xs.length = ds.length) (h : DpAll K H xs ds) : DpAll K H (((xs.zip ds).mergeSort (dataLe false fun b : V × PyData => b.2)).map (·.1)) (ds.mergeSort (dataLe false id)) := by
  have em : ((xs.zip ds).mergeSort (dataLe false fun b : V × PyData => b.2)).map (·.2) = ds.mergeSort (dataLe false id) := by
    conv => rhs; rw [← zip_snd hl]
    rw [List.map_mergeSort]
    intro a _ b _
    rfl
  rw [← em]
  exact dp_of_all fun b hb => zip_dp h b (List.mem_mergeSort.mp hb)
theorem each_out {K : PySem.W.Frag} {H : Hp} : ∀ {out : List Value} {bs : List (V × PyData)}, PySem.W.EachIs (fun v (b : V × PyData) => RelV b.1 v ∧ Dp K H b.1 b.2) out bs → Vals (bs.map (·.1)) out ∧ DpAll K H (bs.map (·.1)) (bs.map (·.2))
  | _, _, .nil => ⟨.nil, .nil⟩
  | _, _, .cons r rr => ⟨.cons r.1 (each_out rr).1, .cons r.2 (each_out rr).2⟩
theorem cr_sortX (hu : X.A.units + 64 < cLine) : CallR X (.builtin "sorted") (rSortX X.K) := by
  intro pins s σ H vs us Q I r h
  obtain ⟨a, xs, ds, rfl, hs, ha, al, so, hz, q⟩ := h
  obtain ⟨its, rv, hl, hzl⟩ := I.list hs
  obtain ⟨e, hb⟩ := zip_each I rv ha
  have hbl := hb.length
  have hvl := rv.length
  rw [Vals.ref1 r]
  refine PySem.W.sorted_data (enc := fun b : V × PyData => b.2) hl.isList hb (hb.mono fun v b ⟨rl, hd⟩ => Dp.reads I b.2 b.1 v hd rl) (by rw [e]; exact al) (by rw [e]; exact so) (by rw [← hbl, ← hvl]; exact hzl) (fun b hb2 => Nat.lt_of_le_of_lt (Nat.add_le_add_left (hz b.2 (by rw [← e]; exact List.mem_map_of_mem hb2)) _) (by omega)) fun out ho he => ?_
  obtain ⟨ep, he'⟩ := PyProof.Rows.sortedAll_at s.heap its (List.toArray out)
  obtain ⟨o1, o2⟩ := each_out he
  refine ⟨.ref _, upd H (s.heap.objs.size + 1) (.lst _), I.laid (t' := s.toks) (fun _ _ => PyProof.Rows.sortedAll_old) (Nat.le_succ _) ⟨?_, out, ep, o1, he'⟩, rfl, q _ (I.hok.fresh (Nat.le_succ _))⟩
  rw [List.length_map, List.length_mergeSort, ← hbl, ← hvl]; exact hzl
/-! ==, in, over any data -/
mutual
theorem dp_plain {K : PySem.W.Frag} {H : Hp} : ∀ {v : V} {d : PyData}, Dp K H v d → d.plain = true
  | _, _, .non => rfl
  | _, _, .bl _ => rfl
  | _, _, .int _ => rfl
  | _, _, .str _ => rfl
  | _, _, .lst _ a => by rw [PyData.plain]; exact da_plain a
  | _, _, .tup _ a => by rw [PyData.plain]; exact da_plain a
theorem da_plain {K : PySem.W.Frag} {H : Hp} : ∀ {vs : List V} {ds : List PyData}, DpAll K H vs ds → PyData.plainAll ds = true
  | _, _, .nil => rfl
  | _, _, .cons a aa => by rw [PyData.plainAll, dp_plain a, da_plain aa]; rfl
end
def rEqP (K : PySem.W.Frag) : R2 := fun x y H Q => ∃ d e, Dp K H x d ∧ Dp K H y e ∧ min d.depth e.depth ≤ 60 ∧ Q (.bl (PyData.eqv d e)) H
def rNeP (K : PySem.W.Frag) : R2 := fun x y H Q => ∃ d e, Dp K H x d ∧ Dp K H y e ∧ min d.depth e.depth ≤ 60 ∧ Q (.bl (!PyData.eqv d e)) H
theorem op_eqP (hu : X.A.units + 64 < cLine) : OpR X (compareOp .Eq) (rEqP X.K) := by
  intro pins s σ H x y v u Q I rx ry h
  obtain ⟨d, e, hd, he, hz, q⟩ := h
  obtain ⟨as, r1⟩ := Dp.reads I d x v hd rx
  obtain ⟨bs, r2⟩ := Dp.reads I e y u he ry
  exact PySem.SeqAt.eq_plain r1 r2 (dp_plain hd) (dp_plain he) (by omega) ⟨.bl _, H, I, rfl, q⟩
theorem op_neP (hu : X.A.units + 64 < cLine) : OpR X (compareOp .NotEq) (rNeP X.K) := by
  intro pins s σ H x y v u Q I rx ry h
  obtain ⟨d, e, hd, he, hz, q⟩ := h
  obtain ⟨as, r1⟩ := Dp.reads I d x v hd rx
  obtain ⟨bs, r2⟩ := Dp.reads I e y u he ry
  exact PySem.SeqAt.ne_plain r1 r2 (dp_plain hd) (dp_plain he) (by omega) ⟨.bl _, H, I, rfl, q⟩
def rInP (K : PySem.W.Frag) (neg : Bool) : R2 := fun x y H Q => ∃ d ds, Dp K H x d ∧ (Dp K H y (.list ds) ∨ Dp K H y (.tuple ds)) ∧ min (PyData.depthAll ds) d.depth ≤ 60 ∧ Q (.bl (if neg then !(ds.any fun z => PyData.eqv z d) else ds.any fun z => PyData.eqv z d)) H
theorem op_inP (hu : X.A.units + 64 < cLine) : OpR X (compareOp .In) (rInP X.K false) := by
  intro pins s σ H x y v u Q I rx ry h
  obtain ⟨d, ds, hd, he, hz, q⟩ := h
  obtain ⟨as, r1⟩ := Dp.reads I d x v hd rx
  rcases he with he | he
  · obtain ⟨bs, r2⟩ := Dp.reads I _ y u he ry
    have := dp_plain he
    rw [PyData.plain] at this
    exact PySem.SeqAt.in_list_data r2 r1 this (dp_plain hd) (by omega) ⟨.bl _, H, I, rfl, q⟩
  · obtain ⟨bs, r2⟩ := Dp.reads I _ y u he ry
    have := dp_plain he
    rw [PyData.plain] at this
    exact PySem.SeqAt.in_tuple_data r2 r1 this (dp_plain hd) (by omega) ⟨.bl _, H, I, rfl, q⟩
theorem op_notInP (hu : X.A.units + 64 < cLine) : OpR X (compareOp .NotIn) (rInP X.K true) := by
  intro pins s σ H x y v u Q I rx ry h
  obtain ⟨d, ds, hd, he, hz, q⟩ := h
  obtain ⟨as, r1⟩ := Dp.reads I d x v hd rx
  rcases he with he | he
  · obtain ⟨bs, r2⟩ := Dp.reads I _ y u he ry
    have := dp_plain he
    rw [PyData.plain] at this
    exact PySem.SeqAt.notIn_list_data r2 r1 this (dp_plain hd) (by omega) ⟨.bl _, H, I, rfl, q⟩
  · obtain ⟨bs, r2⟩ := Dp.reads I _ y u he ry
    have := dp_plain he
    rw [PyData.plain] at this
    exact PySem.SeqAt.notIn_tuple_data r2 r1 this (dp_plain hd) (by omega) ⟨.bl _, H, I, rfl, q⟩
end
end D2
set_option Elab.async false
set_option linter.all false
set_option maxRecDepth 100000
set_option maxHeartbeats 4000000
/-! DL5: operations by values, over data. -/
namespace D2
open PySem PySem.Spec PyProof.Rows L2
open PySem.W (dataLt alike alikeAll AlikeAll minD maxD AllAlike Sortable dataLe)
/-! ### further rules of the hand layer's kind -/
section
variable {X : Cx}
/-- text * int -/
def rMulS : R2 := fun x y H Q => ∃ z n, x = .str z ∧ y = .int n ∧ MulOk z n ∧ Q (.str (Txt.mul z n)) H
theorem op_mulS : OpR X (binaryOp .Mult) rMulS := by
  intro pins s σ H x y v u Q I rx ry h
  obtain ⟨z, n, rfl, rfl, hm, q⟩ := h
  obtain ⟨t, rfl⟩ := rx
  obtain ⟨t', rfl⟩ := ry
  exact SB.mul hm fun t'' k => ⟨.str _, H, I.tok k, ⟨_, rfl⟩, q⟩
/-- s[::-1] of a text -/
def tRevS (te : TE) : TE := fun σ H Q => te σ H fun x H1 => ∃ z, x = .str z ∧ z.length ≤ sizeLine ∧ Q (.str ⟨z.cps.toList.reverse.toArray⟩) H1
theorem rev_list (x : Str) (u : Tok) : Txt.sliceBy x none none (-1, u) = ⟨x.cps.toList.reverse.toArray⟩ := by
  have h : (Txt.sliceBy x none none (-1, u)).cps.toList = x.cps.toList.reverse := by
    rw [step_rev_list]
    apply List.ext_getElem
    · simp [Str.length]
    · intro i h1 h2
      have hi : i < x.cps.size := by simpa using h2
      rw [List.getElem_map, List.getElem_range, List.getElem_reverse]
      simp only [Str.length, Array.length_toList, Array.getElem_toList]
      have : x.cps.size - 1 - i < x.cps.size := by omega
      simp [Array.getD, this]
  cases hz : Txt.sliceBy x none none (-1, u) with
  | mk c =>
    rw [hz] at h
    have h' : c.toList = x.cps.toList.reverse := h
    rw [← h']
theorem letGo_str (e : Expr) (z : Str) (t : Tok) (r : Value) : letTemporaryGo e (.str z t) r = pure () := by cases e <;> rfl
theorem pe_revS {e : Expr} {te : TE} {k : Nat} {p1 p2 p3 pos : Pos} (he : PE X e te) : PE X (.Subscript e (.Slice none none (some (.UnaryOp .USub (.Constant (.int 1) k p1) p2)) p3) pos) (tRevS te) := by
  refine ⟨fun pins s σ H Q I h => ?_⟩
  refine Subscript_ (thn (he.run pins s σ H _ I h) fun v s1 ⟨x, H1, I1, r1, q1⟩ => ?_)
  obtain ⟨z, ex, hz, q⟩ := q1
  subst ex
  obtain ⟨t, rfl⟩ := r1
  have hst : PO X (some (.UnaryOp .USub (.Constant (.int 1) k p1) p2)) (tPart (tUn (L2.rU fun i => .int (-i)) (tC (.int 1)))) := po_some (pe_un un_neg pe_int)
  refine wpAny_Slice (thn (po_none.run pins s1 σ H1 (fun o H2 => o = none ∧ H2 = H1) I1 ⟨rfl, rfl⟩) fun vl s2 ⟨l, H2, I2, pl, el, e2⟩ => ?_)
  subst el e2
  refine thn (po_none.run pins s2 σ H2 (fun o H3 => o = none ∧ H3 = H2) I2 ⟨rfl, rfl⟩) fun vu s3 ⟨u, H3, I3, pu, eu, e3⟩ => ?_
  subst eu e3
  refine thn (hst.run pins s3 σ H3 (fun o H4 => o = some (-1) ∧ H4 = H3) I3 ⟨1, rfl, -1, rfl, rfl, rfl⟩) fun vs s4 ⟨o, H4, I4, ps, eo, e4⟩ => ?_
  subst eo e4
  obtain ⟨l, e1, e2⟩ := IsPart.raw pl
  obtain ⟨u, e3, e4⟩ := IsPart.raw pu
  obtain ⟨w, e5, e6⟩ := IsPart.raw ps
  cases l with
  | some l => cases e2
  | none =>
  cases u with
  | some u => cases e4
  | none =>
  cases w with
  | none => cases e6
  | some w =>
  obtain ⟨w1, w2⟩ := w
  have ew : w1 = -1 := Option.some.inj e6
  subst ew
  have I5 : Inv X pins σ H4 { s4 with heap := s4.heap.push { cls := .type "slice", data := .fields #[vl, vu, vs] } } := I4.kept (t' := s4.toks) fun b ob q => Heap.get?_push_of_some _ q
  show wpAny (model X.prog X.w) X.A (subscriptTail e (.Slice none none (some (.UnaryOp .USub (.Constant (.int 1) k p1) p2)) p3) (.str z t) (.ref s4.heap.objs.size)) (EP X pins σ Q) X.xe { s4 with heap := s4.heap.push { cls := .type "slice", data := .fields #[vl, vu, vs] } }
  refine tail_of_ItemOn (ops := [.ref s4.heap.objs.size, .str z t]) ⟨"str", _, F.slot_str_getitem.lookup, typeIs_str _ _ _, wpAny_getItem_str_slice (l := none) (u := none) (st := some (-1, w2)) ⟨_, Heap.get?_push_size _ rfl, rfl, by rw [e1, e3, e5]⟩ (by rfl) ?_⟩ (by with_unfolding_all rfl) (fun r => letGo_str e _ _ r)
  refine post_val_or_str ⟨Nat.le_trans (Txt.sliceBy_le z none none (-1, w2) (show (-1 : Int) ≠ 0 by decide)) hz, fun t' c => ?_⟩
  have er := rev_list z w2
  unfold Txt.sliceBy at er
  rw [er]
  exact ⟨.str _, H4, I5.tok c, ⟨_, rfl⟩, q⟩
/-- list + list, wherever they lie -/
def rCatS (K : PySem.W.Frag) : R2 := fun x y H Q => ∃ l b xs zs, x = .ref l ∧ y = .ref b ∧ SqL K H l xs ∧ SqL K H b zs ∧ xs.length + zs.length ≤ sizeLine ∧ ∀ p, H p = none → Q (.ref p) (upd H p (.lst (xs ++ zs)))
theorem op_catS : OpR X (binaryOp .Add) (rCatS X.K) := by
  intro pins s σ H x y v u Q I rx ry h
  obtain ⟨l, b, xs, zs, rfl, rfl, hH, hB, hz, q⟩ := h
  cases rx
  cases ry
  obtain ⟨its, r, ⟨⟨cls, dd, data, sl⟩, n, ho, hc, hdd, hd⟩, hs⟩ := I.list hH
  obtain ⟨its2, r2, ⟨⟨cls2, dd2, data2, sl2⟩, n2, ho2, hc2, hdd2, hd2⟩, hs2⟩ := I.list hB
  simp only at hc hd hdd hc2 hd2 hdd2
  subst hc hd hdd hc2 hd2 hdd2
  have e : its.toArray ++ its2.toArray = (its ++ its2).toArray := by simp
  have e1 := r.length
  have e2 := r2.length
  refine PySem.concat_meets ⟨_, ho, rfl⟩ ⟨_, ho2, rfl⟩ PySem.noFill_list_add PySem.seq_list_add PySem.F.slot_list_add PySem.F.entry_list_add (PySem.F.args_list_add_2 _ _) (list_addW l b its.toArray its2.toArray n n2 none none sl sl2 (by rw [List.size_toArray, List.size_toArray]; omega)) ⟨ho, ho2, ?_⟩
  rw [e]
  exact ⟨.ref _, _, I.lnew (t' := s.toks) (r.append r2) (by rw [List.length_append]; omega), rfl, q _ I.fresh⟩
def rAddU (K : PySem.W.Frag) : R2 := fun x y H Q => (rI0 (fun i j => .int (i + j)) x y H Q ∨ (∃ i j, x = .str i ∧ y = .str j ∧ i.length + j.length ≤ sizeLine ∧ Q (.str (i ++ j)) H)) ∨ (rCatS K x y H Q ∨ rCatA K x y H Q)
theorem op_addU' : OpR X (binaryOp .Add) (rAddU X.K) := (op_add.or op_add_str).or (op_catS.or op_catA)
theorem op_addU {K : PySem.W.Frag} (hK : X.K = K := by rfl) : OpR X (binaryOp .Add) (rAddU K) := by subst hK; exact op_addU'
def rMulU : R2 := fun x y H Q => (rI CMul (fun i j => .int (i * j)) x y H Q ∨ rMulS x y H Q) ∨ rRep x y H Q
theorem op_mulU : OpR X (binaryOp .Mult) rMulU := (op_mul.or op_mulS).or op_rep
def rEqU (K : PySem.W.Frag) : R2 := fun x y H Q => rEq x y H Q ∨ (rEqD K x y H Q ∨ rEqP K x y H Q)
theorem op_eqU {K : PySem.W.Frag} (hK : X.K = K) (hu : X.A.units + 64 < cLine) : OpR X (compareOp .Eq) (rEqU K) := by subst hK; exact op_eq.or ((op_eqD hu).or (op_eqP hu))
def rNeU (K : PySem.W.Frag) : R2 := fun x y H Q => rNe x y H Q ∨ (rNeD K x y H Q ∨ rNeP K x y H Q)
theorem op_neU {K : PySem.W.Frag} (hK : X.K = K) (hu : X.A.units + 64 < cLine) : OpR X (compareOp .NotEq) (rNeU K) := by subst hK; exact op_ne.or ((op_neD hu).or (op_neP hu))
def rLtU (K : PySem.W.Frag) : R2 := fun x y H Q => (rI0 (fun i j => .bl (decide (i < j))) x y H Q ∨ (∃ i j, x = .str i ∧ y = .str j ∧ Q (.bl (decide (i.cps.toList < j.cps.toList))) H)) ∨ rLtX K x y H Q
theorem op_ltU {K : PySem.W.Frag} (hK : X.K = K) (hu : X.A.units + 64 < cLine) : OpR X (compareOp .Lt) (rLtU K) := by subst hK; exact (op_lt.or op_lt_str).or (op_ltX hu)
def rGtU (K : PySem.W.Frag) : R2 := fun x y H Q => (rI0 (fun i j => .bl (decide (j < i))) x y H Q ∨ (∃ i j, x = .str i ∧ y = .str j ∧ Q (.bl (decide (j.cps.toList < i.cps.toList))) H)) ∨ rGtX K x y H Q
theorem op_gtU {K : PySem.W.Frag} (hK : X.K = K) (hu : X.A.units + 64 < cLine) : OpR X (compareOp .Gt) (rGtU K) := by subst hK; exact (op_gt.or op_gt_str).or (op_gtX hu)
def rLeU (K : PySem.W.Frag) : R2 := fun x y H Q => (rI0 (fun i j => .bl (decide (i ≤ j))) x y H Q ∨ (∃ i j, x = .str i ∧ y = .str j ∧ Q (.bl (!decide (j.cps.toList < i.cps.toList))) H)) ∨ rLeX K x y H Q
theorem op_leU {K : PySem.W.Frag} (hK : X.K = K) (hu : X.A.units + 64 < cLine) : OpR X (compareOp .LtE) (rLeU K) := by subst hK; exact (op_le.or op_le_str).or (op_leX hu)
def rGeU (K : PySem.W.Frag) : R2 := fun x y H Q => (rI0 (fun i j => .bl (decide (j ≤ i))) x y H Q ∨ (∃ i j, x = .str i ∧ y = .str j ∧ Q (.bl (!decide (i.cps.toList < j.cps.toList))) H)) ∨ rGeX K x y H Q
theorem op_geU {K : PySem.W.Frag} (hK : X.K = K) (hu : X.A.units + 64 < cLine) : OpR X (compareOp .GtE) (rGeU K) := by subst hK; exact (op_ge.or op_ge_str).or (op_geX hu)
def rSlU (K : PySem.W.Frag) : V → Option Int → Option Int → Hp → VK → Prop := fun x lo hi H Q => (rSlL K x lo hi H Q ∨ rSlS x lo hi H Q) ∨ rSlA K x lo hi H Q
theorem sl_U {K : PySem.W.Frag} (hK : X.K = K) : SlR X (rSlU K) := by subst hK; exact (sl_list.or sl_str).or sl_tupA
theorem ix_U {K : PySem.W.Frag} (hK : X.K = K) : IxR X (rIx K) := by subst hK; exact ix_seq
/-- x in c: a sign in a text; in a list or tuple of flat things; in a list of data -/
def rInU (K : PySem.W.Frag) : R2 := fun x y H Q => (∃ (c : Nat) (z : Str), x = .str ⟨#[c]⟩ ∧ y = .str z ∧ Q (.bl (decide (c ∈ z.cps.toList))) H) ∨ (rIn K false x y H Q ∨ (rInP K false x y H Q ∨ (∃ i j, x = .str i ∧ y = .str j ∧ Q (.bl (!(Builtin.Str.occurrences j i 0 j.length 1).isEmpty)) H)))
theorem op_inU {K : PySem.W.Frag} (hK : X.K = K) (hu : X.A.units + 64 < cLine) : OpR X (compareOp .In) (rInU K) := by subst hK; exact op_in_sign.or (op_in_seq.or ((op_inP hu).or op_in_str))
def rNotInU (K : PySem.W.Frag) : R2 := fun x y H Q => (∃ (c : Nat) (z : Str), x = .str ⟨#[c]⟩ ∧ y = .str z ∧ Q (.bl (!decide (c ∈ z.cps.toList))) H) ∨ (rIn K true x y H Q ∨ (rInP K true x y H Q ∨ (∃ i j, x = .str i ∧ y = .str j ∧ Q (.bl (!(!(Builtin.Str.occurrences j i 0 j.length 1).isEmpty))) H)))
theorem op_notInU {K : PySem.W.Frag} (hK : X.K = K) (hu : X.A.units + 64 < cLine) : OpR X (compareOp .NotIn) (rNotInU K) := by subst hK; exact op_notIn_sign.or (op_notIn_seq.or ((op_notInP hu).or op_notin_str))
def rLen (K : PySem.W.Frag) : List V → Hp → VK → Prop := fun xs H Q => ∃ x n, xs = [x] ∧ LenV K x H n ∧ Q (.int n) H
theorem call_lenU {K : PySem.W.Frag} (hK : X.K = K) : CallR X (.builtin "len") (rLen K) := by subst hK; exact call_len
def rMinU (K : PySem.W.Frag) : List V → Hp → VK → Prop := fun xs H Q => ((∃ i j, xs = [.int i, .int j] ∧ Q (.int (if j < i then j else i)) H) ∨ rMin K xs H Q) ∨ rMinX K xs H Q
theorem call_minU {K : PySem.W.Frag} (hK : X.K = K) (hc : X.calm = true) (hu : X.A.units + 64 < cLine) : CallR X (.builtin "min") (rMinU K) := by subst hK; exact ((call_min2 hc).or (cr_min hc)).or (cr_minX hc hu)
def rMaxU (K : PySem.W.Frag) : List V → Hp → VK → Prop := fun xs H Q => ((∃ i j, xs = [.int i, .int j] ∧ Q (.int (if j > i then j else i)) H) ∨ rMax K xs H Q) ∨ rMaxX K xs H Q
theorem call_maxU {K : PySem.W.Frag} (hK : X.K = K) (hc : X.calm = true) (hu : X.A.units + 64 < cLine) : CallR X (.builtin "max") (rMaxU K) := by subst hK; exact ((call_max2 hc).or (cr_max hc)).or (cr_maxX hc hu)
theorem call_sumU {K : PySem.W.Frag} (hK : X.K = K) (hc : X.calm = true) : CallR X (.builtin "sum") (rSum K) := by subst hK; exact cr_sum hc
theorem call_anyU {K : PySem.W.Frag} (hK : X.K = K) (hc : X.calm = true) : CallR X (.builtin "any") (rAny K) := by subst hK; exact cr_any hc
theorem call_allU {K : PySem.W.Frag} (hK : X.K = K) (hc : X.calm = true) : CallR X (.builtin "all") (rAll K) := by subst hK; exact cr_all hc
theorem call_isiU {K : PySem.W.Frag} (hK : X.K = K) : CallR X (.builtin "isinstance") (rIsi K) := by subst hK; exact call_isi
def rIntU : List V → Hp → VK → Prop := fun xs H Q => (∃ i, xs = [.int i] ∧ Q (.int i) H) ∨ ∃ k, xs = [.bl k] ∧ Q (.int (if k then 1 else 0)) H
theorem call_intU : CallR X (.type "int") rIntU := call_int1
def rListU (K : PySem.W.Frag) : List V → Hp → VK → Prop := fun xs H Q => ∃ p ys, xs = [.ref p] ∧ (SqL K H p ys ∨ SqT K H p ys) ∧ ∀ l, H l = none → Q (.ref l) (upd H l (.lst ys))
theorem call_listU {K : PySem.W.Frag} (hK : X.K = K) : CallR X (.type "list") (rListU K) := by subst hK; exact call_list_of
def rTupU (K : PySem.W.Frag) : List V → Hp → VK → Prop := fun xs H Q => ∃ p ys, xs = [.ref p] ∧ ((SqL K H p ys ∧ ∀ l, H l = none → Q (.ref l) (upd H l (.tup ys))) ∨ (SqT K H p ys ∧ Q (.ref p) H))
theorem call_tupU {K : PySem.W.Frag} (hK : X.K = K) : CallR X (.type "tuple") (rTupU K) := by subst hK; exact call_tuple_of
theorem pe_bmK {K : PySem.W.Frag} (hK : X.K = K) {e o : Expr} {es : List Expr} {te : TE} {T : String} {r : V → List V → Hp → VK → Prop} {t : TA} {pos : Pos} (h : PE X e (tBM X.K T r te t)) : PE X e (tBM K T r te t) := by subst hK; exact h
theorem pe_bm0K {K : PySem.W.Frag} (hK : X.K = K) {e : Expr} {te : TE} {T : String} {r : V → List V → Hp → VK → Prop} (h : PE X e (tBM0 X.K T r te)) : PE X e (tBM0 K T r te) := by subst hK; exact h
theorem pi_listK {K : PySem.W.Frag} (hK : X.K = K) {tg e : Expr} {te : TE} (h : PE X e te) : PI X tg e (iList K te) := by subst hK; exact pi_list h
theorem pi_tupK {K : PySem.W.Frag} (hK : X.K = K) {tg e : Expr} {te : TE} (h : PE X e te) : PI X tg e (iTup K te) := by subst hK; exact pi_tup h
theorem mt_indexK {K : PySem.W.Frag} (hK : X.K = K) : MtR X "list.index" (rIndex K) := by subst hK; exact mt_index
def rJoin (K : PySem.W.Frag) : V → List V → Hp → VK → Prop := fun x xs H Q => ∃ a p ys, x = V.str a ∧ xs = [V.ref p] ∧ (SqL K H p (List.map V.str ys) ∨ SqT K H p (List.map V.str ys)) ∧ (List.map (fun x => x.length) ys).sum + ys.length * a.length ≤ 16777216 ∧ Q (V.str (Txt.join a ys)) H
end
section
variable {X : Cx}
theorem pe_joinK {K : PySem.W.Frag} (hK : X.K = K) {o e : Expr} {to te : TE} {apos pos : Pos} (ho : PE X o to) (he : PE X e te) (hs : starEach [e] X.env = [(false, eval e X.env)] := by rfl)
    (hb : attributeBase o "join" X.env (eval o X.env) = eval o X.env := by rfl) (hl : (apos.endLine == pos.line) = true := by rfl) : PE X (.Call (.Attribute o "join" apos) [e] [] pos) (tM1 (rJoin K) to te) := by subst hK; exact pe_join ho he hs hb hl
end
/-! ### texts by their letters -/
theorem app_txt (a b : List Nat) : (⟨a.toArray⟩ : Str) ++ ⟨b.toArray⟩ = ⟨(a ++ b).toArray⟩ := by
  show Str.mk (a.toArray ++ b.toArray) = _
  simp
theorem len_txt (a : List Nat) : (⟨a.toArray⟩ : Str).length = a.length := by simp [Str.length]
theorem txt_inj {a b : List Nat} (h : (⟨a.toArray⟩ : Str) = ⟨b.toArray⟩) : a = b := by
  have := congrArg (fun s : Str => s.cps.toList) h
  simpa using this
def rep (l : List Nat) : Nat → List Nat
  | 0 => []
  | n + 1 => l ++ rep l n
theorem foldl_app : ∀ (n : Nat) (a : Array Nat) (l : List Nat), List.foldl (fun x1 x2 => x1 ++ x2) a (List.replicate n l.toArray) = a ++ (rep l n).toArray
  | 0, a, l => by simp [rep]
  | n + 1, a, l => by
    rw [List.replicate_succ, List.foldl_cons, foldl_app n _ l]
    simp [rep]
theorem rep_nil : ∀ n, rep [] n = []
  | 0 => rfl
  | n + 1 => by show [] ++ rep [] n = []; rw [rep_nil n]; rfl
theorem rep_one (l : List Nat) : rep l 1 = l := by show l ++ [] = l; simp
theorem rep_length (l : List Nat) : ∀ n, (rep l n).length = n * l.length
  | 0 => by simp [rep]
  | n + 1 => by show (l ++ rep l n).length = _; rw [List.length_append, rep_length l n, Nat.succ_mul]; omega
theorem mul_txt (l : List Nat) (n : Int) : Txt.mul ⟨l.toArray⟩ n = ⟨(rep l n.toNat).toArray⟩ := by
  unfold Txt.mul
  by_cases h1 : n < 1
  · rw [if_pos h1, show n.toNat = 0 by omega]; rfl
  · rw [if_neg h1]
    by_cases h2 : (n == 1 || (⟨l.toArray⟩ : Str).length == 0) = true
    · rw [if_pos h2]
      rcases (Bool.or_eq_true _ _).mp h2 with h | h
      · have : n = 1 := by simpa using h
        subst this
        rw [show (1 : Int).toNat = 1 from rfl, rep_one]
      · have : l = [] := by simpa [len_txt] using h
        subst this
        rw [rep_nil]
    · rw [if_neg h2, foldl_app]; simp
def cutL {α : Type} (l : List α) (lo hi : Option Int) : List α := (l.drop (HT.sIx l.length 0 lo)).take (HT.sIx l.length l.length hi - HT.sIx l.length 0 lo)
theorem cutS_txt (l : List Nat) (lo hi : Option Int) : cutS ⟨l.toArray⟩ lo hi = ⟨(cutL l lo hi).toArray⟩ := by
  unfold cutS cutL
  rw [len_txt]
theorem sIx_nat (n d k : Nat) : HT.sIx n d (some (k : Int)) = min k n := by
  unfold HT.sIx
  simp only []
  rw [if_neg (by omega)]; simp
theorem cutL_to {α : Type} (l : List α) (k : Nat) : cutL l none (some (k : Int)) = l.take k := by
  unfold cutL
  rw [sIx_nat]
  show (l.drop 0).take (min k l.length - 0) = _
  rw [List.drop_zero, Nat.sub_zero]
  rcases Nat.le_total k l.length with h | h
  · rw [Nat.min_eq_left h]
  · rw [Nat.min_eq_right h, List.take_of_length_le h, List.take_of_length_le (Nat.le_refl _)]
theorem cutL_from {α : Type} (l : List α) (k : Nat) : cutL l (some (k : Int)) none = l.drop k := by
  unfold cutL
  rw [sIx_nat]
  show (l.drop (min k l.length)).take (l.length - min k l.length) = _
  rcases Nat.le_total k l.length with h | h
  · rw [Nat.min_eq_left h, List.take_of_length_le (by rw [List.length_drop]; exact Nat.le_refl _)]
  · rw [Nat.min_eq_right h, List.drop_of_length_le h, List.drop_of_length_le (Nat.le_refl _)]; simp
theorem cutL_mid {α : Type} (l : List α) (a b : Nat) : cutL l (some (a : Int)) (some (b : Int)) = (l.take b).drop a := by
  unfold cutL
  rw [sIx_nat, sIx_nat, List.drop_take]
  rcases Nat.le_total a l.length with h | h
  · rw [Nat.min_eq_left h]
    rcases Nat.le_total b l.length with h2 | h2
    · rw [Nat.min_eq_left h2]
    · rw [Nat.min_eq_right h2, List.take_of_length_le (by rw [List.length_drop]; exact Nat.le_refl _), List.take_of_length_le (by rw [List.length_drop]; omega)]
  · rw [Nat.min_eq_right h, List.drop_of_length_le h, List.drop_of_length_le (Nat.le_refl _)]; simp
theorem cutL_all {α : Type} (l : List α) : cutL l none none = l := by
  unfold cutL
  show (l.drop 0).take (l.length - 0) = l
  simp
/-- a text handed to a rule, by its letters -/
theorem str_of (z : Str) : z = ⟨z.cps.toList.toArray⟩ := by cases z; simp
section
variable {K : PySem.W.Frag} {mu : Mu} {S : AS}
theorem rb_i0 {g : Int → Int → Int} {i j : Int} : RB K mu (rI0 fun i j => .int (g i j)) (dI i) (dI j) (dI (g i j)) := fun as fr H v1 v2 hk r1 r2 Q k => by cases r1; cases r2; exact ⟨i, j, rfl, rfl, k.int⟩
theorem rb_b0 {g : Int → Int → Bool} {i j : Int} : RB K mu (rI0 fun i j => .bl (g i j)) (dI i) (dI j) (dB (g i j)) := fun as fr H v1 v2 hk r1 r2 Q k => by cases r1; cases r2; exact ⟨i, j, rfl, rfl, k.bl⟩
theorem rb_i {C : Int → Int → Prop} {g : Int → Int → Int} {i j : Int} (hc : C i j) : RB K mu (rI C fun i j => .int (g i j)) (dI i) (dI j) (dI (g i j)) := fun as fr H v1 v2 hk r1 r2 Q k => by cases r1; cases r2; exact ⟨i, j, rfl, rfl, hc, k.int⟩
theorem rb_add {i j : Int} : RB K mu (rAddU K) (dI i) (dI j) (dI (i + j)) := fun as fr H v1 v2 hk r1 r2 Q k => .inl (.inl (rb_i0 as fr H v1 v2 hk r1 r2 Q k))
theorem rb_addS {a b : List Nat} (h : a.length + b.length ≤ 1000000) : RB K mu (rAddU K) (dS a) (dS b) (dS (a ++ b)) := fun as fr H v1 v2 hk r1 r2 Q k => by
  cases r1; cases r2
  exact .inl (.inr ⟨_, _, rfl, rfl, by rw [len_txt, len_txt]; exact sz_of h, by rw [app_txt]; exact k.str⟩)
/-- list + list, tuple + tuple, of data -/
theorem rb_addL {a b : List PyData} (h : a.length + b.length ≤ 1000000) : RB K mu (rAddU K) (dL a) (dL b) (dL (a ++ b)) := fun as fr H v1 v2 hk r1 r2 Q k => by
  cases r1 with
  | lst h1 a1 => cases r2 with
    | lst h2 a2 => exact .inr (.inl ⟨_, _, _, _, rfl, rfl, sqL_ex off_le h1, sqL_ex off_le h2, by rw [da_length a1, da_length a2]; exact sz_of h, fun p hp => k.lst hk hp (da_append a1 a2)⟩)
theorem rb_addT {a b : List PyData} (h : a.length + b.length ≤ 1000000) : RB K mu (rAddU K) (dT a) (dT b) (dT (a ++ b)) := fun as fr H v1 v2 hk r1 r2 Q k => by
  cases r1 with
  | tup h1 a1 => cases r2 with
    | tup h2 a2 =>
      refine .inr (.inr ⟨_, _, _, _, rfl, rfl, sqT_ex off_le h1, sqT_ex off_le h2, by rw [da_length a1, da_length a2]; exact sz_of h, fun e => ?_, fun _ e => ?_, fun _ _ p hp => k.tup hk hp (da_append a1 a2)⟩)
      · subst e
        cases a1
        exact k.same (.tup h2 a2)
      · subst e
        cases a2
        rw [List.append_nil] at k
        exact k.same (.tup h1 a1)
theorem rb_addO {i j : Nat} {a b : List PyData} (hi : mu[i]? = some (.l a)) (hj : mu[j]? = some (.l b)) (h : a.length + b.length ≤ 1000000) : RB K mu (rAddU K) (.o i) (.o j) (dL (a ++ b)) := fun as fr H v1 v2 hk r1 r2 Q k => by
  obtain ⟨p, hp, e⟩ := r1
  subst e
  obtain ⟨q, hq, e⟩ := r2
  subst e
  obtain ⟨vs, hv, ha⟩ := hk.mu.2 i p _ hp hi
  obtain ⟨ws, hw, hb⟩ := hk.mu.2 j q _ hq hj
  exact .inr (.inl ⟨_, _, _, _, rfl, rfl, sqL_of hv, sqL_of hw, by rw [da_length ha, da_length hb]; exact sz_of h, fun p hp => k.lst hk hp (da_append ha hb)⟩)
theorem rb_addOL {i : Nat} {a b : List PyData} (hi : mu[i]? = some (.l a)) (h : a.length + b.length ≤ 1000000) : RB K mu (rAddU K) (.o i) (dL b) (dL (a ++ b)) := fun as fr H v1 v2 hk r1 r2 Q k => by
  obtain ⟨p, hp, e⟩ := r1
  subst e
  obtain ⟨vs, hv, ha⟩ := hk.mu.2 i p _ hp hi
  cases r2 with
  | lst h2 a2 => exact .inr (.inl ⟨_, _, _, _, rfl, rfl, sqL_of hv, sqL_ex off_le h2, by rw [da_length ha, da_length a2]; exact sz_of h, fun p hp => k.lst hk hp (da_append ha a2)⟩)
theorem rb_sub {i j : Int} : RB K mu (rI0 fun i j => .int (i - j)) (dI i) (dI j) (dI (i - j)) := rb_i0
theorem rb_mul {i j : Int} (h : (-(2 ^ 64) < i ∧ i < 2 ^ 64) ∨ (-(2 ^ 64) < j ∧ j < 2 ^ 64)) : RB K mu rMulU (dI i) (dI j) (dI (i * j)) := fun as fr H v1 v2 hk r1 r2 Q k => .inl (.inl (rb_i (C := CMul) h as fr H v1 v2 hk r1 r2 Q k))
theorem rb_mulS {a : List Nat} {n : Int} (N : Nat) (h0 : n ≤ N) (h1 : -(2 ^ 63) ≤ n) (h2 : N ≤ 1000000) (h : a.length * N ≤ 1000000) : RB K mu rMulU (dS a) (dI n) (dS (rep a n.toNat)) := fun as fr H v1 v2 hk r1 r2 Q k => by
  cases r1; cases r2
  exact .inl (.inr ⟨_, _, rfl, rfl, mulOk_of a.length N (by rw [len_txt]; exact Nat.le_refl _) h0 h1 (by omega) (by omega), by rw [mul_txt]; exact k.str⟩)
theorem rb_fdiv {i j : Int} (h : CDivN i j) : RB K mu (rI CDivN fun i j => .int (i.fdiv j)) (dI i) (dI j) (dI (i.fdiv j)) := rb_i h
theorem rb_mod {i j : Int} (h : j ≠ 0) : RB K mu (rI (fun _ j => j ≠ 0) fun i j => .int (i.fmod j)) (dI i) (dI j) (dI (i.fmod j)) := rb_i (C := fun _ j => j ≠ 0) h
theorem rb_pow {i j : Int} (h : CPow i j) : RB K mu (rI CPow fun i j => .int (i ^ j.toNat)) (dI i) (dI j) (dI (i ^ j.toNat)) := rb_i h
theorem nat_fdiv (a b : Nat) : (a : Int).fdiv (b : Int) = ((a / b : Nat) : Int) := by
  rw [Int.fdiv_eq_ediv_of_nonneg _ (Int.natCast_nonneg b)]; rfl
theorem nat_fmod (a b : Nat) : (a : Int).fmod (b : Int) = ((a % b : Nat) : Int) := by
  rw [Int.fmod_eq_emod_of_nonneg _ (Int.natCast_nonneg b)]; rfl
/-- // and % of numbers that are not negative -/
theorem rb_fdivN {i j : Int} {a b : Nat} (ha : i = a) (hb : j = b) (h : 0 < b ∧ b < 1073741824) : RB K mu (rI CDivN fun i j => .int (i.fdiv j)) (dI i) (dI j) (dI ((a / b : Nat) : Int)) := by
  subst ha; subst hb
  rw [← nat_fdiv]; exact rb_fdiv ⟨by omega, by omega⟩
theorem rb_modN {i j : Int} {a b : Nat} (ha : i = a) (hb : j = b) (h : 0 < b) : RB K mu (rI (fun _ j => j ≠ 0) fun i j => .int (i.fmod j)) (dI i) (dI j) (dI ((a % b : Nat) : Int)) := by
  subst ha; subst hb
  rw [← nat_fmod]; exact rb_mod (by omega)
/-! == -/
def scalD : PyData → PyData → Bool
  | .none, .none => true | .none, .int _ => true | .int _, .none => true | .none, .bool _ => true | .bool _, .none => true | .none, .str _ => true | .str _, .none => true
  | .int _, .int _ => true | .bool _, .bool _ => true | .str _, .str _ => true | .int _, .str _ => true | .str _, .int _ => true | .bool _, .str _ => true | .str _, .bool _ => true
  | _, _ => false
theorem rb_eqI {i j : Int} : RB K mu (rEqU K) (dI i) (dI j) (dB (decide (i = j))) := fun as fr H v1 v2 hk r1 r2 Q k => by
  cases r1; cases r2
  refine .inl ⟨rfl, ?_⟩
  have e : decide (V.int i = V.int j) = decide (i = j) := by simp
  rw [e]; exact k.bl
theorem rb_eqS {a b : List Nat} : RB K mu (rEqU K) (dS a) (dS b) (dB (decide (a = b))) := fun as fr H v1 v2 hk r1 r2 Q k => by
  cases r1; cases r2
  refine .inl ⟨rfl, ?_⟩
  have e : decide (V.str ⟨a.toArray⟩ = V.str ⟨b.toArray⟩) = decide (a = b) := by
    by_cases h : a = b
    · subst h; simp
    · rw [decide_eq_false h, decide_eq_false]; intro h2; injection h2 with h2; exact h (txt_inj h2)
  rw [e]; exact k.bl
theorem rb_eqB {i j : Bool} : RB K mu (rEqU K) (dB i) (dB j) (dB (decide (i = j))) := fun as fr H v1 v2 hk r1 r2 Q k => by
  cases r1; cases r2
  refine .inl ⟨rfl, ?_⟩
  have e : decide (V.bl i = V.bl j) = decide (i = j) := by cases i <;> cases j <;> rfl
  rw [e]; exact k.bl
theorem rb_eqD {d e : PyData} (h1 : SeqAt.shaped d = true) (h2 : SeqAt.shaped e = true) : RB K mu (rEqU K) (.d d) (.d e) (dB (PyData.eqv d e)) := fun as fr H v1 v2 hk r1 r2 Q k => .inr (.inl ⟨d, e, dp_ex off_le r1, dp_ex off_le r2, h1, h2, k.bl⟩)
theorem rb_eqX {d e : PyData} (hz : min d.depth e.depth ≤ 60) : RB K mu (rEqU K) (.d d) (.d e) (dB (PyData.eqv d e)) := fun as fr H v1 v2 hk r1 r2 Q k => .inr (.inr ⟨d, e, dp_ex off_le r1, dp_ex off_le r2, hz, k.bl⟩)
theorem rb_neX {d e : PyData} (hz : min d.depth e.depth ≤ 60) : RB K mu (rNeU K) (.d d) (.d e) (dB (!PyData.eqv d e)) := fun as fr H v1 v2 hk r1 r2 Q k => .inr (.inr ⟨d, e, dp_ex off_le r1, dp_ex off_le r2, hz, k.bl⟩)
theorem rb_neI {i j : Int} : RB K mu (rNeU K) (dI i) (dI j) (dB (!decide (i = j))) := fun as fr H v1 v2 hk r1 r2 Q k => by
  cases r1; cases r2
  refine .inl ⟨rfl, ?_⟩
  have e : decide (V.int i = V.int j) = decide (i = j) := by simp
  rw [e]; exact k.bl
theorem rb_neS {a b : List Nat} : RB K mu (rNeU K) (dS a) (dS b) (dB (!decide (a = b))) := fun as fr H v1 v2 hk r1 r2 Q k => by
  cases r1; cases r2
  refine .inl ⟨rfl, ?_⟩
  have e : decide (V.str ⟨a.toArray⟩ = V.str ⟨b.toArray⟩) = decide (a = b) := by
    by_cases h : a = b
    · subst h; simp
    · rw [decide_eq_false h, decide_eq_false]; intro h2; injection h2 with h2; exact h (txt_inj h2)
  rw [e]; exact k.bl
theorem rb_neB {i j : Bool} : RB K mu (rNeU K) (dB i) (dB j) (dB (!decide (i = j))) := fun as fr H v1 v2 hk r1 r2 Q k => by
  cases r1; cases r2
  refine .inl ⟨rfl, ?_⟩
  have e : decide (V.bl i = V.bl j) = decide (i = j) := by cases i <;> cases j <;> rfl
  rw [e]; exact k.bl
theorem rb_neD {d e : PyData} (h1 : SeqAt.shaped d = true) (h2 : SeqAt.shaped e = true) : RB K mu (rNeU K) (.d d) (.d e) (dB (!PyData.eqv d e)) := fun as fr H v1 v2 hk r1 r2 Q k => .inr (.inl ⟨d, e, dp_ex off_le r1, dp_ex off_le r2, h1, h2, k.bl⟩)
theorem rb_isN {d : PyData} : RB K mu (fun x y H Q => y = .non ∧ Q (.bl (decide (x = .non))) H) (.d d) dN (dB (match d with | .none => true | _ => false)) := fun as fr H v1 v2 hk r1 r2 Q k => by
  cases r2
  refine ⟨rfl, ?_⟩
  cases r1 <;> exact k.bl
theorem rb_notN {d : PyData} : RB K mu (fun x y H Q => y = .non ∧ Q (.bl (!decide (x = .non))) H) (.d d) dN (dB (match d with | .none => false | _ => true)) := fun as fr H v1 v2 hk r1 r2 Q k => by
  cases r2
  refine ⟨rfl, ?_⟩
  cases r1 <;> exact k.bl
theorem rb_ltI {i j : Int} : RB K mu (rLtU K) (dI i) (dI j) (dB (decide (i < j))) := fun as fr H v1 v2 hk r1 r2 Q k => .inl (.inl (rb_b0 as fr H v1 v2 hk r1 r2 Q k))
theorem rb_ltS {a b : List Nat} : RB K mu (rLtU K) (dS a) (dS b) (dB (decide (a < b))) := fun as fr H v1 v2 hk r1 r2 Q k => by
  cases r1; cases r2
  exact .inl (.inr ⟨_, _, rfl, rfl, by simpa using k.bl⟩)
theorem rb_le {i j : Int} : RB K mu (rLeU K) (dI i) (dI j) (dB (decide (i ≤ j))) := fun as fr H v1 v2 hk r1 r2 Q k => .inl (.inl (rb_b0 as fr H v1 v2 hk r1 r2 Q k))
theorem rb_gt {i j : Int} : RB K mu (rGtU K) (dI i) (dI j) (dB (decide (j < i))) := fun as fr H v1 v2 hk r1 r2 Q k => .inl (.inl (rb_b0 as fr H v1 v2 hk r1 r2 Q k))
theorem rb_gtS {a b : List Nat} : RB K mu (rGtU K) (dS a) (dS b) (dB (decide (b < a))) := fun as fr H v1 v2 hk r1 r2 Q k => by
  cases r1; cases r2
  exact .inl (.inr ⟨_, _, rfl, rfl, k.bl⟩)
theorem rb_leS {a b : List Nat} : RB K mu (rLeU K) (dS a) (dS b) (dB (!decide (b < a))) := fun as fr H v1 v2 hk r1 r2 Q k => by
  cases r1; cases r2
  exact .inl (.inr ⟨_, _, rfl, rfl, k.bl⟩)
theorem rb_geS {a b : List Nat} : RB K mu (rGeU K) (dS a) (dS b) (dB (!decide (a < b))) := fun as fr H v1 v2 hk r1 r2 Q k => by
  cases r1; cases r2
  exact .inl (.inr ⟨_, _, rfl, rfl, k.bl⟩)
theorem rb_ltX {d e : PyData} (ha : alike d e = true) (hn : d ≠ .none) (hz : min d.depth e.depth ≤ 60) : RB K mu (rLtU K) (.d d) (.d e) (dB (dataLt d e)) := fun as fr H v1 v2 hk r1 r2 Q k => .inr ⟨d, e, dp_ex off_le r1, dp_ex off_le r2, ha, hn, hz, k.bl⟩
theorem rb_gtX {d e : PyData} (ha : alike d e = true) (hn : d ≠ .none) (hz : min d.depth e.depth ≤ 60) : RB K mu (rGtU K) (.d d) (.d e) (dB (dataLt e d)) := fun as fr H v1 v2 hk r1 r2 Q k => .inr ⟨d, e, dp_ex off_le r1, dp_ex off_le r2, ha, hn, hz, k.bl⟩
theorem rb_leX {d e : PyData} (ha : alike d e = true) (hn : d ≠ .none) (hz : min d.depth e.depth ≤ 60) : RB K mu (rLeU K) (.d d) (.d e) (dB (!dataLt e d)) := fun as fr H v1 v2 hk r1 r2 Q k => .inr ⟨d, e, dp_ex off_le r1, dp_ex off_le r2, ha, hn, hz, k.bl⟩
theorem rb_geX {d e : PyData} (ha : alike d e = true) (hn : d ≠ .none) (hz : min d.depth e.depth ≤ 60) : RB K mu (rGeU K) (.d d) (.d e) (dB (!dataLt d e)) := fun as fr H v1 v2 hk r1 r2 Q k => .inr ⟨d, e, dp_ex off_le r1, dp_ex off_le r2, ha, hn, hz, k.bl⟩
theorem rb_ge {i j : Int} : RB K mu (rGeU K) (dI i) (dI j) (dB (decide (j ≤ i))) := fun as fr H v1 v2 hk r1 r2 Q k => .inl (.inl (rb_b0 as fr H v1 v2 hk r1 r2 Q k))
/-! in -/
theorem rb_inC {c : Nat} {l : List Nat} : RB K mu (rInU K) (dS [c]) (dS l) (dB (decide (c ∈ l))) := fun as fr H v1 v2 hk r1 r2 Q k => by
  cases r1; cases r2
  exact .inl ⟨c, _, rfl, rfl, by simpa using k.bl⟩
theorem rb_ninC {c : Nat} {l : List Nat} : RB K mu (rNotInU K) (dS [c]) (dS l) (dB (!decide (c ∈ l))) := fun as fr H v1 v2 hk r1 r2 Q k => by
  cases r1; cases r2
  exact .inl ⟨c, _, rfl, rfl, by simpa using k.bl⟩
theorem inV_strs {a : Str} : ∀ {xs : List Str}, inV (.str a) (xs.map V.str) = decide (a ∈ xs)
  | [] => rfl
  | b :: xs => by
    have ih := inV_strs (a := a) (xs := xs)
    unfold inV at ih ⊢
    rw [List.map_cons, List.any_cons, ih]
    have e : eqV (.str b) (.str a) = decide (b = a) := by
      show (b == a) = decide (b = a)
      by_cases h : b = a
      · subst h; simp
      · rw [decide_eq_false h]; simpa using h
    rw [e]
    by_cases h : b = a
    · subst h; simp
    · simp [h, Ne.symm h]
theorem flat_strs : ∀ xs : List Str, (xs.map V.str).all flatV = true
  | [] => rfl
  | _ :: xs => by rw [List.map_cons, List.all_cons, flat_strs xs]; rfl
theorem strsV {H : Hp} {vs : List V} {ls : List (List Nat)} (h : DpAll K H vs (ls.map pS)) : vs = (ls.map fun l => (⟨l.toArray⟩ : Str)).map V.str := by
  have e : ls.map pS = (ls.map fun l => (⟨l.toArray⟩ : Str)).map PyData.str := by simp
  rw [e] at h; exact da_strs h
theorem rb_inLS {a : List Nat} {ls : List (List Nat)} : RB K mu (rInU K) (dS a) (dL (ls.map pS)) (dB (decide (a ∈ ls))) := fun as fr H v1 v2 hk r1 r2 Q k => by
  cases r1
  cases r2 with
  | lst hs ha =>
    have e := strsV ha
    subst e
    refine .inr (.inl ⟨_, _, rfl, .inl (sqL_ex off_le hs), rfl, flat_strs _, ?_⟩)
    rw [if_neg Bool.false_ne_true, inV_strs]
    have : decide ((⟨a.toArray⟩ : Str) ∈ ls.map fun l => (⟨l.toArray⟩ : Str)) = decide (a ∈ ls) := by
      by_cases h : a ∈ ls
      · rw [decide_eq_true h, decide_eq_true (List.mem_map.mpr ⟨a, h, rfl⟩)]
      · rw [decide_eq_false h, decide_eq_false]
        intro h2
        obtain ⟨b, h3, h4⟩ := List.mem_map.mp h2
        exact h (txt_inj h4 ▸ h3)
    rw [this]; exact k.bl
theorem rb_ninLS {a : List Nat} {ls : List (List Nat)} : RB K mu (rNotInU K) (dS a) (dL (ls.map pS)) (dB (!decide (a ∈ ls))) := fun as fr H v1 v2 hk r1 r2 Q k => by
  cases r1
  cases r2 with
  | lst hs ha =>
    have e := strsV ha
    subst e
    refine .inr (.inl ⟨_, _, rfl, .inl (sqL_ex off_le hs), rfl, flat_strs _, ?_⟩)
    rw [if_pos rfl, inV_strs]
    have : decide ((⟨a.toArray⟩ : Str) ∈ ls.map fun l => (⟨l.toArray⟩ : Str)) = decide (a ∈ ls) := by
      by_cases h : a ∈ ls
      · rw [decide_eq_true h, decide_eq_true (List.mem_map.mpr ⟨a, h, rfl⟩)]
      · rw [decide_eq_false h, decide_eq_false]
        intro h2
        obtain ⟨b, h3, h4⟩ := List.mem_map.mp h2
        exact h (txt_inj h4 ▸ h3)
    rw [this]; exact k.bl
theorem rb_inLX {d : PyData} {ds : List PyData} (hz : min (PyData.depthAll ds) d.depth ≤ 60) : RB K mu (rInU K) (.d d) (dL ds) (dB (ds.any fun z => PyData.eqv z d)) := fun as fr H v1 v2 hk r1 r2 Q k => .inr (.inr (.inl ⟨d, ds, dp_ex off_le r1, .inl (dp_ex off_le r2), hz, k.bl⟩))
theorem rb_inTX {d : PyData} {ds : List PyData} (hz : min (PyData.depthAll ds) d.depth ≤ 60) : RB K mu (rInU K) (.d d) (dT ds) (dB (ds.any fun z => PyData.eqv z d)) := fun as fr H v1 v2 hk r1 r2 Q k => .inr (.inr (.inl ⟨d, ds, dp_ex off_le r1, .inr (dp_ex off_le r2), hz, k.bl⟩))
theorem rb_ninLX {d : PyData} {ds : List PyData} (hz : min (PyData.depthAll ds) d.depth ≤ 60) : RB K mu (rNotInU K) (.d d) (dL ds) (dB (!ds.any fun z => PyData.eqv z d)) := fun as fr H v1 v2 hk r1 r2 Q k => .inr (.inr (.inl ⟨d, ds, dp_ex off_le r1, .inl (dp_ex off_le r2), hz, k.bl⟩))
theorem rb_ninTX {d : PyData} {ds : List PyData} (hz : min (PyData.depthAll ds) d.depth ≤ 60) : RB K mu (rNotInU K) (.d d) (dT ds) (dB (!ds.any fun z => PyData.eqv z d)) := fun as fr H v1 v2 hk r1 r2 Q k => .inr (.inr (.inl ⟨d, ds, dp_ex off_le r1, .inr (dp_ex off_le r2), hz, k.bl⟩))
/-! places -/
theorem atI_nat {α : Type} {xs : List α} {n : Nat} {v : α} (h : xs[n]? = some v) : atI xs (n : Int) = some v := by
  have hn := (List.getElem?_eq_some_iff.mp h).1
  unfold atI
  rw [ixN_nat hn]; exact h
theorem rb_ixS {l : List Nat} {i : Int} {c : Nat} (n : Nat) (hi : i = n) (h : l[n]? = some c) (hl : l.length ≤ 1000000) : RB K mu (rIx K) (dS l) (dI i) (dS [c]) := fun as fr H v1 v2 hk r1 r2 Q k => by
  cases r1; cases r2
  subst hi
  exact .inr (.inr ⟨_, _, c, rfl, rfl, by rw [len_txt]; exact sz_of hl, by simpa using atI_nat h, k.str⟩)
theorem atI_get {i : Int} {xs : List V} {ds : List PyData} {H : Hp} {d : PyData} (ha : DpAll K H xs ds) (h : atI ds i = some d) : ∃ v, atI xs i = some v ∧ Dp K H v d := by
  unfold atI at h ⊢
  rw [da_length ha]
  cases e : ixN ds.length i with
  | none => rw [e] at h; cases h
  | some j =>
    rw [e] at h
    exact da_get ha h
theorem rb_ixL {ds : List PyData} {i : Int} {d : PyData} (h : atI ds i = some d) : RB K mu (rIx K) (dL ds) (dI i) (.d d) := fun as fr H v1 v2 hk r1 r2 Q k => by
  cases r2
  cases r1 with
  | lst hs ha =>
    obtain ⟨v, h1, h2⟩ := atI_get ha h
    exact .inl ⟨_, _, i, v, rfl, rfl, sqL_ex off_le hs, h1, k.same h2⟩
theorem rb_ixT {ds : List PyData} {i : Int} {d : PyData} (h : atI ds i = some d) : RB K mu (rIx K) (dT ds) (dI i) (.d d) := fun as fr H v1 v2 hk r1 r2 Q k => by
  cases r2
  cases r1 with
  | tup hs ha =>
    obtain ⟨v, h1, h2⟩ := atI_get ha h
    exact .inr (.inl ⟨_, _, i, v, rfl, rfl, sqT_ex off_le hs, h1, k.same h2⟩)
/-- of our own list -/
theorem rb_ixO {j : Nat} {ds : List PyData} {i : Int} {d : PyData} (hm : mu[j]? = some (.l ds)) (h : atI ds i = some d) : RB K mu (rIx K) (.o j) (dI i) (.d d) := fun as fr H v1 v2 hk r1 r2 Q k => by
  cases r2
  obtain ⟨p, hp, e⟩ := r1
  subst e
  obtain ⟨vs, hv, ha⟩ := hk.mu.2 j p _ hp hm
  obtain ⟨v, h1, h2⟩ := atI_get ha h
  exact .inl ⟨_, _, i, v, rfl, rfl, sqL_of hv, h1, k.same h2⟩
/-! slices of texts -/
theorem rsl_S {l : List Nat} {lo hi : Option Int} (hl : l.length ≤ 1000000) : RSl K mu (rSlU K) (dS l) lo hi (dS (cutL l lo hi)) := fun as fr H v hk r Q k => by
  cases r
  exact .inl (.inr ⟨_, rfl, by rw [len_txt]; exact sz_of hl, by rw [cutS_txt]; exact k.str⟩)
theorem rsl_to {l : List Nat} {i : Int} (n : Nat) (h : i = n) (hl : l.length ≤ 1000000) : RSl K mu (rSlU K) (dS l) none (some i) (dS (l.take n)) := by
  subst h; rw [← cutL_to]; exact rsl_S hl
theorem rsl_from {l : List Nat} {i : Int} (n : Nat) (h : i = n) (hl : l.length ≤ 1000000) : RSl K mu (rSlU K) (dS l) (some i) none (dS (l.drop n)) := by
  subst h; rw [← cutL_from]; exact rsl_S hl
theorem rsl_mid {l : List Nat} {i j : Int} (m n : Nat) (h : i = m) (h' : j = n) (hl : l.length ≤ 1000000) : RSl K mu (rSlU K) (dS l) (some i) (some j) (dS ((l.take n).drop m)) := by
  subst h; subst h'; rw [← cutL_mid]; exact rsl_S hl
theorem cutV_all {H : Hp} {vs : List V} {ds : List PyData} (h : DpAll K H vs ds) (lo hi : Option Int) : DpAll K H (cutV vs lo hi) (cutL ds lo hi) := by
  unfold cutV cutL
  rw [da_length h]; exact da_take _ (da_drop _ h)
theorem rsl_L {ds : List PyData} {lo hi : Option Int} : RSl K mu (rSlU K) (dL ds) lo hi (dL (cutL ds lo hi)) := fun as fr H v hk r Q k => by
  cases r with
  | lst hs ha => exact .inl (.inl ⟨_, _, rfl, sqL_ex off_le hs, fun p hp => k.lst hk hp (cutV_all ha lo hi)⟩)
theorem rsl_T {ds : List PyData} {lo hi : Option Int} : RSl K mu (rSlU K) (dT ds) lo hi (dT (cutL ds lo hi)) := fun as fr H v hk r Q k => by
  cases r with
  | tup hs ha =>
    refine .inr ⟨_, _, rfl, sqT_ex off_le hs, fun hw => ?_, fun _ p hp => k.tup hk hp (cutV_all ha lo hi)⟩
    have e : cutL ds lo hi = ds := by
      unfold cutL
      rw [da_length ha] at hw
      rw [hw.1, hw.2, Nat.sub_zero, List.drop_zero, List.take_length]
    rw [e] at k
    exact k.same (.tup hs ha)
theorem ew_revS {te : TE} {P : AV → Mu → Prop} (h : EW K te S fun a mu => ∃ l : List Nat, a = dS l ∧ l.length ≤ 1000000 ∧ P (dS l.reverse) mu) : EW K (tRevS te) S P := fun Z as0 as fr σ H ok Q q =>
  h Z as0 as fr σ H ok _ fun v H1 a mu1 g ok1 r ⟨l, e, hl, p⟩ => by
    subst e
    cases r
    refine ⟨_, rfl, by rw [len_txt]; exact sz_of hl, ?_⟩
    have e : (⟨(⟨l.toArray⟩ : Str).cps.toList.reverse.toArray⟩ : Str) = ⟨l.reverse.toArray⟩ := by simp
    rw [e]
    exact q _ H1 (dS l.reverse) mu1 g ok1 rv_str p
theorem ev_revS {te : TE} {l : List Nat} (h : EV K te S (dS l)) (hl : l.length ≤ 1000000) : EV K (tRevS te) S (dS l.reverse) := ew_revS (h.ew ⟨l, rfl, hl, rfl, rfl⟩)
/-! calls -/
theorem ra_lenS {l : List Nat} (hl : l.length ≤ 1000000) : RA K mu (rLen K) [dS l] (dI l.length) := fun as fr H vs hk r Q k => by
  cases r with
  | cons r1 r =>
    cases r; cases r1
    exact ⟨_, l.length, rfl, ⟨by rw [len_txt]; exact sz_of hl, by rw [len_txt]⟩, k.int⟩
theorem ra_lenL {ds : List PyData} : RA K mu (rLen K) [dL ds] (dI ds.length) := fun as fr H vs hk r Q k => by
  cases r with
  | cons r1 r =>
    cases r
    cases r1 with
    | lst hs ha => exact ⟨_, _, rfl, .inl ⟨_, sqL_ex off_le hs, rfl⟩, by rw [da_length ha]; exact k.int⟩
theorem ra_lenT {ds : List PyData} : RA K mu (rLen K) [dT ds] (dI ds.length) := fun as fr H vs hk r Q k => by
  cases r with
  | cons r1 r =>
    cases r
    cases r1 with
    | tup hs ha => exact ⟨_, _, rfl, .inr ⟨_, sqT_ex off_le hs, rfl⟩, by rw [da_length ha]; exact k.int⟩
theorem ra_lenO {j : Nat} {ds : List PyData} (hm : mu[j]? = some (.l ds)) : RA K mu (rLen K) [.o j] (dI ds.length) := fun as fr H vs hk r Q k => by
  cases r with
  | cons r1 r =>
    cases r
    obtain ⟨p, hp, e⟩ := r1
    subst e
    obtain ⟨vs, hv, ha⟩ := hk.mu.2 j p _ hp hm
    exact ⟨_, _, rfl, .inl ⟨_, sqL_of hv, rfl⟩, by rw [da_length ha]; exact k.int⟩
theorem ra_int {i : Int} : RA K mu rIntU [dI i] (dI i) := fun as fr H vs hk r Q k => by
  cases r with
  | cons r1 r => cases r; cases r1; exact .inl ⟨i, rfl, k.int⟩
theorem ra_intB {b : Bool} : RA K mu rIntU [dB b] (dI (if b then 1 else 0)) := fun as fr H vs hk r Q k => by
  cases r with
  | cons r1 r => cases r; cases r1; exact .inr ⟨b, rfl, k.int⟩
theorem ra_min2 {i j : Int} : RA K mu (rMinU K) [dI i, dI j] (dI (if j < i then j else i)) := fun as fr H vs hk r Q k => by
  cases r with
  | cons r1 r => cases r with | cons r2 r => cases r; cases r1; cases r2; exact .inl (.inl ⟨i, j, rfl, k.int⟩)
theorem ra_max2 {i j : Int} : RA K mu (rMaxU K) [dI i, dI j] (dI (if j > i then j else i)) := fun as fr H vs hk r Q k => by
  cases r with
  | cons r1 r => cases r with | cons r2 r => cases r; cases r1; cases r2; exact .inl (.inl ⟨i, j, rfl, k.int⟩)
theorem ra_minL {ns : List Int} {m : Int} (h1 : m ∈ ns) (h2 : ∀ y ∈ ns, m ≤ y) : RA K mu (rMinU K) [dL (ns.map PyData.int)] (dI m) := fun as fr H vs hk r Q k => by
  cases r with
  | cons r1 r =>
    cases r
    cases r1 with
    | lst hs ha =>
      have e := da_ints ha
      subst e
      refine .inl (.inr ⟨_, ns, rfl, sqL_ex off_le hs, List.length_pos_of_mem h1, fun m' h3 h4 => ?_⟩)
      have : m' = m := Int.le_antisymm (h4 m h1) (h2 m' h3)
      subst this; exact k.int
theorem ra_maxL {ns : List Int} {m : Int} (h1 : m ∈ ns) (h2 : ∀ y ∈ ns, y ≤ m) : RA K mu (rMaxU K) [dL (ns.map PyData.int)] (dI m) := fun as fr H vs hk r Q k => by
  cases r with
  | cons r1 r =>
    cases r
    cases r1 with
    | lst hs ha =>
      have e := da_ints ha
      subst e
      refine .inl (.inr ⟨_, ns, rfl, sqL_ex off_le hs, List.length_pos_of_mem h1, fun m' h3 h4 => ?_⟩)
      have : m' = m := Int.le_antisymm (h2 m' h3) (h4 m h1)
      subst this; exact k.int
theorem ra_minX {d : PyData} {ds : List PyData} (al : AlikeAll (d :: ds)) (hz : PyData.depthAll (d :: ds) ≤ 60) : RA K mu (rMinU K) [dL (d :: ds)] (.d (minD d ds)) := fun as fr H vs hk r Q k => by
  cases r with
  | cons r1 r =>
    cases r
    cases r1 with
    | lst hs ha =>
      refine .inr ⟨_, _, d, ds, rfl, sqL_ex off_le hs, da_ex off_le ha, al, hz, fun i v hv hd => ?_⟩
      obtain ⟨w, hw, hx⟩ := da_get ha hd
      rw [hv] at hw; cases hw
      exact k.same hx
theorem ra_maxX {d : PyData} {ds : List PyData} (al : AlikeAll (d :: ds)) (hz : PyData.depthAll (d :: ds) ≤ 60) : RA K mu (rMaxU K) [dL (d :: ds)] (.d (maxD d ds)) := fun as fr H vs hk r Q k => by
  cases r with
  | cons r1 r =>
    cases r
    cases r1 with
    | lst hs ha =>
      refine .inr ⟨_, _, d, ds, rfl, sqL_ex off_le hs, da_ex off_le ha, al, hz, fun i v hv hd => ?_⟩
      obtain ⟨w, hw, hx⟩ := da_get ha hd
      rw [hv] at hw; cases hw
      exact k.same hx
theorem ra_sum {ns : List Int} : RA K mu (rSum K) [dL (ns.map PyData.int)] (dI ns.sum) := fun as fr H vs hk r Q k => by
  cases r with
  | cons r1 r =>
    cases r
    cases r1 with
    | lst hs ha =>
      have e := da_ints ha
      subst e
      exact ⟨_, ns, rfl, sqL_ex off_le hs, k.int⟩
theorem ra_any {bs : List Bool} : RA K mu (rAny K) [dL (bs.map PyData.bool)] (dB (bs.any id)) := fun as fr H vs hk r Q k => by
  cases r with
  | cons r1 r =>
    cases r
    cases r1 with
    | lst hs ha =>
      have e := da_bls ha
      subst e
      exact ⟨_, bs, rfl, sqL_ex off_le hs, k.bl⟩
theorem ra_all {bs : List Bool} : RA K mu (rAll K) [dL (bs.map PyData.bool)] (dB (bs.all id)) := fun as fr H vs hk r Q k => by
  cases r with
  | cons r1 r =>
    cases r
    cases r1 with
    | lst hs ha =>
      have e := da_bls ha
      subst e
      exact ⟨_, bs, rfl, sqL_ex off_le hs, k.bl⟩
theorem ra_tupL {ds : List PyData} : RA K mu (rTupU K) [dL ds] (dT ds) := fun as fr H vs hk r Q k => by
  cases r with
  | cons r1 r =>
    cases r
    cases r1 with
    | lst hs ha => exact ⟨_, _, rfl, .inl ⟨sqL_ex off_le hs, fun l hl => k.tup hk hl ha⟩⟩
theorem ra_tupT {ds : List PyData} : RA K mu (rTupU K) [dT ds] (dT ds) := fun as fr H vs hk r Q k => by
  cases r with
  | cons r1 r =>
    cases r
    cases r1 with
    | tup hs ha => exact ⟨_, _, rfl, .inr ⟨sqT_ex off_le hs, k.same (.tup hs ha)⟩⟩
theorem ra_tupO {j : Nat} {ds : List PyData} (hm : mu[j]? = some (.l ds)) : RA K mu (rTupU K) [.o j] (dT ds) := fun as fr H vs hk r Q k => by
  cases r with
  | cons r1 r =>
    cases r
    obtain ⟨p, hp, e⟩ := r1
    subst e
    obtain ⟨vs, hv, ha⟩ := hk.mu.2 j p _ hp hm
    exact ⟨_, _, rfl, .inl ⟨sqL_of hv, fun l hl => k.tup hk hl ha⟩⟩
theorem ra_listL {ds : List PyData} : RA K mu (rListU K) [dL ds] (dL ds) := fun as fr H vs hk r Q k => by
  cases r with
  | cons r1 r =>
    cases r
    cases r1 with
    | lst hs ha => exact ⟨_, _, rfl, .inl (sqL_ex off_le hs), fun l hl => k.lst hk hl ha⟩
theorem ra_listT {ds : List PyData} : RA K mu (rListU K) [dT ds] (dL ds) := fun as fr H vs hk r Q k => by
  cases r with
  | cons r1 r =>
    cases r
    cases r1 with
    | tup hs ha => exact ⟨_, _, rfl, .inr (sqT_ex off_le hs), fun l hl => k.lst hk hl ha⟩
/-! isinstance -/
def tyN : PyData → String
  | .none => "NoneType" | .bool _ => "bool" | .int _ => "int" | .str _ => "str" | .list _ => "list" | .tuple _ => "tuple" | .dict _ => "dict"
theorem tyx_of {H : Hp} {v : V} {d : PyData} (h : Dp K H v d) : TyX K H v (.type (tyN d)) := by
  cases h with
  | non => exact .base .non
  | bl b => exact .base (.bl b)
  | int i => exact .base (.int i)
  | str x => exact .base (.str x)
  | lst h _ =>
    rcases h with (h | ⟨o, h⟩) | ⟨o, its, n, h1, h2, _⟩
    · exact .base (.lst h)
    · exact .base (.frz h)
    · exact .kList h1 h2
  | tup h _ =>
    rcases h with (h | ⟨o, h⟩) | ⟨o, its, n, h1, h2, _⟩
    · exact .base (.tup h)
    · exact .fTuple h
    · exact .kTuple h1 h2
theorem ew_isi {te : TE} {n : String} {P : AV → Mu → Prop} (h : EW K te S fun a mu => ∃ d b, a = .d d ∧ kitB (tyN d) n = some b ∧ P (dB b) mu) : EW K (tCB (rIsi K) (tCons te (tCons (tC (.ty n)) tNil))) S P := fun Z as0 as fr σ H ok Q q =>
  h Z as0 as fr σ H ok _ fun v H1 a mu1 g ok1 r ⟨d, b, e, hb, p⟩ => by
    subst e
    exact ⟨v, .ty n, _, _, b, rfl, .ty n, tyx_of (dp_ex off_le r), kit_ty hb, q _ H1 (dB b) mu1 g ok1 rv_bl p⟩
theorem ev_isi {te : TE} {n : String} {d : PyData} {b : Bool} (h : EV K te S (.d d)) (hb : kitB (tyN d) n = some b) : EV K (tCB (rIsi K) (tCons te (tCons (tC (.ty n)) tNil))) S (dB b) := ew_isi (h.ew ⟨d, b, rfl, hb, rfl, rfl⟩)
/-! methods of texts -/
theorem fold_cat (ls : List (List Nat)) : ∀ acc : Array Nat, (ls.map fun l => (⟨l.toArray⟩ : Str)).foldl (fun acc p => acc ++ (⟨#[]⟩ : Str).cps ++ p.cps) acc = acc ++ ls.flatten.toArray := by
  induction ls with
  | nil => intro acc; simp
  | cons l ls ih => intro acc; rw [List.map_cons, List.foldl_cons, ih]; simp
theorem join_nil (ls : List (List Nat)) : Txt.join (⟨#[]⟩ : Str) (ls.map fun l => ⟨l.toArray⟩) = ⟨ls.flatten.toArray⟩ := by
  unfold Txt.join Builtin.Str.glued
  cases ls with
  | nil => rfl
  | cons l ls =>
    show Str.mk (List.foldl _ (l.toArray) (ls.map fun l => (⟨l.toArray⟩ : Str))) = _
    rw [fold_cat]; simp
theorem sum_len (ls : List (List Nat)) : ((ls.map fun l => (⟨l.toArray⟩ : Str)).map fun x => x.length).sum = ls.flatten.length := by
  induction ls with
  | nil => rfl
  | cons l ls ih => rw [List.map_cons, List.map_cons, List.sum_cons, ih, len_txt]; simp
/-- "".join(xs) -/
theorem rm_join {ls : List (List Nat)} (h : ls.flatten.length ≤ 1000000) : RM K mu (rJoin K) (dS []) [dL (ls.map pS)] (dS ls.flatten) := fun as fr H v vs hk r1 r2 Q k => by
  cases r1
  cases r2 with
  | cons r2 r3 =>
    cases r3
    cases r2 with
    | lst hs ha =>
      have e := strsV ha
      subst e
      refine ⟨_, _, _, rfl, rfl, .inl (sqL_ex off_le hs), ?_, ?_⟩
      · rw [sum_len, len_txt]
        simp only [List.length_nil, Nat.mul_zero, Nat.add_zero]
        omega
      · rw [show (⟨([] : List Nat).toArray⟩ : Str) = ⟨#[]⟩ from rfl, join_nil]; exact k.str
theorem ew_join {to te : TE} {P : AV → Mu → Prop} (h : EW K to S fun x mu1 => x = dS [] ∧ EW K te ⟨S.sl, mu1⟩ fun y mu2 => ∃ ls : List (List Nat), y = dL (ls.map pS) ∧ ls.flatten.length ≤ 1000000 ∧ P (dS ls.flatten) mu2) : EW K (tM1 (rJoin K) to te) S P :=
  ew_m1 (h.mono fun x mu1 ⟨e, h2⟩ => ⟨⟨_, e⟩, h2.mono fun y mu2 ⟨ls, e2, hl, p⟩ => ⟨_, by rw [e, e2]; exact rm_join hl, p⟩⟩)
theorem ev_join {to te : TE} {ls : List (List Nat)} (h : EV K to S (dS [])) (h2 : EV K te S (dL (ls.map pS))) (hl : ls.flatten.length ≤ 1000000) : EV K (tM1 (rJoin K) to te) S (dS ls.flatten) := ew_join (h.ew ⟨rfl, h2.ew ⟨ls, rfl, hl, rfl, rfl⟩⟩)
/-- sorted(xs) of ints, of texts (fewer than 64) -/
def rSortU (K : PySem.W.Frag) : List V → Hp → VK → Prop := fun xs H Q => (rSorted K xs H Q ∨ rSortedS K xs H Q) ∨ rSortX K xs H Q
end
section
variable {X : Cx}
theorem cr_sortU {K : PySem.W.Frag} (hK : X.K = K) (hu : X.A.units + 64 < cLine) : CallR X (.builtin "sorted") (rSortU K) := by subst hK; exact (cr_sorted.or cr_sortedS).or (cr_sortX hu)
end
/-- the item of a comprehension or a walk over range -/
theorem rng_at {n i : Nat} {d : PyData} (h : ((List.range n).map fun (k : Nat) => PyData.int (k : Int))[i]? = some d) : i < n ∧ d = .int (i : Int) := by
  rw [List.getElem?_map] at h
  by_cases c : i < n
  · rw [List.getElem?_range c] at h
    exact ⟨c, (Option.some.inj h).symm⟩
  · rw [List.getElem?_eq_none (by simpa using c)] at h; cases h
theorem rng2_at {m : Int} {n i : Nat} {d : PyData} (h : ((List.range n).map fun (k : Nat) => PyData.int (m + (k : Int)))[i]? = some d) : i < n ∧ d = .int (m + (i : Int)) := by
  rw [List.getElem?_map] at h
  by_cases c : i < n
  · rw [List.getElem?_range c] at h
    exact ⟨c, (Option.some.inj h).symm⟩
  · rw [List.getElem?_eq_none (by simpa using c)] at h; cases h
theorem txt_at {l : List Nat} {i : Nat} {d : PyData} (h : (l.map fun c => pS [c])[i]? = some d) : ∃ c, l[i]? = some c ∧ d = pS [c] := by
  rw [List.getElem?_map] at h
  cases e : l[i]? with
  | none => rw [e] at h; cases h
  | some c => rw [e] at h; exact ⟨c, rfl, (Option.some.inj h).symm⟩
section
variable {K : PySem.W.Frag} {mu : Mu}
theorem ra_sortX {ds : List PyData} (al : AllAlike ds) (so : Sortable ds) (hz : ∀ d ∈ ds, d.depth ≤ 60) : RA K mu (rSortU K) [dL ds] (dL (ds.mergeSort (dataLe false id))) := fun as fr H vs hk r Q k => by
  cases r with
  | cons r1 r =>
    cases r
    cases r1 with
    | lst hs ha => exact .inr ⟨_, _, ds, rfl, sqL_ex off_le hs, da_ex off_le ha, al, so, hz, fun p hp => k.lst hk hp (sort_dp (da_length ha) ha)⟩
theorem ra_sortO {j : Nat} {ds : List PyData} (hm : mu[j]? = some (.l ds)) (al : AllAlike ds) (so : Sortable ds) (hz : ∀ d ∈ ds, d.depth ≤ 60) : RA K mu (rSortU K) [.o j] (dL (ds.mergeSort (dataLe false id))) := fun as fr H vs hk r Q k => by
  cases r with
  | cons r1 r =>
    cases r
    obtain ⟨p, hp, e⟩ := r1
    subst e
    obtain ⟨vs, hv, ha⟩ := hk.mu.2 j p _ hp hm
    exact .inr ⟨_, _, ds, rfl, sqL_of hv, da_ex off_le ha, al, so, hz, fun p hp => k.lst hk hp (sort_dp (da_length ha) ha)⟩
end
end D2
set_option Elab.async false
set_option linter.all false
set_option maxRecDepth 100000
set_option maxHeartbeats 4000000
/-! DL6: comprehensions that are pure; defs by name. -/
namespace D2
open PySem PySem.Spec PyProof.Rows L2
def gath (b : Nat → Bool) (e : Nat → PyData) (n : Nat) : List PyData := ((List.range n).filter b).map e
theorem gath_yes {n : Nat} {b : Nat → Bool} {e : Nat → PyData} (h : b n = true) : gath b e (n + 1) = gath b e n ++ [e n] := by
  unfold gath
  rw [List.range_succ, List.filter_append, List.map_append, List.filter_cons, if_pos h] <;> rfl
theorem gath_no {n : Nat} {b : Nat → Bool} {e : Nat → PyData} (h : b n = false) : gath b e (n + 1) = gath b e n := by
  unfold gath
  rw [List.range_succ, List.filter_append, List.map_append, List.filter_cons, if_neg (by rw [h]; decide)]
  simp
theorem gath_all (e : Nat → PyData) (n : Nat) : gath (fun _ => true) e n = (List.range n).map e := by
  unfold gath; congr 1; simp
section
variable {K : PySem.W.Frag} {S : AS} {te : TE} {tt : TT}
theorem tv_yes : TV K tYes S true := fun Z as0 as fr σ H ok Q q => q true H S.mu Gr.refl ok ⟨rfl, rfl⟩
theorem nwe_lc {wi : TI} {g : TG} {js vs : List Nat} {ds : List PyData} (b : Nat → Bool) (e : Nat → PyData) (hI : EI K wi S ds) (hl : ds.length ≤ 1000000) (hj : ∀ j ∈ js, j ∈ vs)
    (hT : ∀ i d, ds[i]? = some d → GW K g js d ⟨wp S.sl vs, S.mu⟩ fun S2 => S2.mu = S.mu ∧ TV K tt S2 (b i) ∧ (b i = true → EV K te S2 (.d (e i)))) : NW K (tLc wi g tt te vs) S fun ds' mu => ds' = gath b e ds.length ∧ mu = S.mu :=
  nw_lc hj (hI.ew ⟨hl, fun i acc mu => acc = gath b e i ∧ mu = S.mu, ⟨rfl, rfl⟩, fun i d acc mu hd ⟨ha, hm⟩ => by
    subst ha; subst hm
    intro Z as0 as fr σ H x ok r Q q
    refine hT i d hd Z as0 as fr σ H x ok r Q fun S' σ' ok' hw ⟨hm, hb, he⟩ => q S' σ' ok' hw (hb.ew ?_)
    cases hbi : b i with
    | true => rw [if_pos rfl]; exact (he hbi).ew ⟨e i, rfl, (gath_yes hbi).symm, hm⟩
    | false => rw [if_neg Bool.false_ne_true]; exact ⟨(gath_no hbi).symm, hm⟩, fun acc mu h => h⟩)
theorem ev_lc {wi : TI} {g : TG} {js vs : List Nat} {ds : List PyData} (b : Nat → Bool) (e : Nat → PyData) (hI : EI K wi S ds) (hl : ds.length ≤ 1000000) (hj : ∀ j ∈ js, j ∈ vs)
    (hT : ∀ i d, ds[i]? = some d → GW K g js d ⟨wp S.sl vs, S.mu⟩ fun S2 => S2.mu = S.mu ∧ TV K tt S2 (b i) ∧ (b i = true → EV K te S2 (.d (e i)))) : EV K (tLc wi g tt te vs) S (dL (gath b e ds.length)) := (nwe_lc b e hI hl hj hT).ev
/-- no test -/
theorem ev_lcA {wi : TI} {g : TG} {js vs : List Nat} {ds : List PyData} (e : Nat → PyData) (hI : EI K wi S ds) (hl : ds.length ≤ 1000000) (hj : ∀ j ∈ js, j ∈ vs)
    (hT : ∀ i d, ds[i]? = some d → GW K g js d ⟨wp S.sl vs, S.mu⟩ fun S2 => S2.mu = S.mu ∧ EV K te S2 (.d (e i))) : EV K (tLc wi g tYes te vs) S (dL ((List.range ds.length).map e)) := by
  rw [← gath_all]
  refine ev_lc (fun _ => true) e hI hl hj fun i d hd => ?_
  intro Z as0 as fr σ H x ok r Q q
  exact hT i d hd Z as0 as fr σ H x ok r Q fun S' σ' ok' hw ⟨hm, he⟩ => q S' σ' ok' hw ⟨hm, tv_yes, fun _ => he⟩
end
section
variable {K : PySem.W.Frag} {S : AS} {t u : TS} {A : AE}
/-- a statement, then the rest, a word M between -/
theorem sw_mid (M : AS → Prop) (h1 : SW K t S { A with nx := M }) (h2 : ∀ S', M S' → SW K u S' A) : SW K (tSeq t u) S A := sw_seq fun Z as0 as fr σ H D ok im =>
  h1 Z as0 as fr σ H D ok ⟨im.n0, fun S' σ' H' as' o m => im.nx S' σ' H' as' o (h2 S' m), im.bk, im.ct, im.rt, im.rn⟩
/-- the end's states: one of which S knows at least so much -/
theorem le_nx {S0 : AS} {M : AS → Prop} (h : Le S0 S) (m : M S0) : ∃ S0, Le S0 S ∧ M S0 := ⟨S0, h, m⟩
end
/-! ### defs by name -/
section
variable (P : Program) (w : World) (K : PySem.W.Frag) (mg : Str → Option Value) (base : Heap)
def Def (x qual : Str) (st : Stmt) (ps : List Str) : Prop := ∃ f fd, Fun K x qual st f fd ∧ mg x = some (.ref f) ∧ Binds K fd ps []
def Has (k : Nat) (x : Str) (ps : List Str) (sp : Sp) : Prop := ∃ f fd, FnOk P w K mg base CX0 k f fd ps sp ∧ mg x = some (.ref f) ∧ PySem.W.keepIn K (.ref f) = true ∧ Binds K fd ps []
end
section
variable {P : Program} {w : World} {K : PySem.W.Frag} {mg : Str → Option Value} {base : Heap}
theorem spP_len {R : List PyData → PyData → Prop} {n : Nat} (h : ∀ ds r, R ds r → ds.length = n) {vs : List V} {H : Hp} {Q : VK} {E : XK} (q : spP K R vs H Q E) : vs.length = n := by
  obtain ⟨fr, ds, r, _, _, ra, hR, _⟩ := q
  rw [da_length ra]; exact h ds r hR
theorem spN_len {R : List PyData → List PyData → Prop} {n : Nat} (h : ∀ ds r, R ds r → ds.length = n) {vs : List V} {H : Hp} {Q : VK} {E : XK} (q : spN K R vs H Q E) : vs.length = n := by
  obtain ⟨fr, ds, r, _, _, ra, hR, _⟩ := q
  rw [da_length ra]; exact h ds r hR
theorem spD_len {R : List AV → MO → (PyData → MO → Prop) → Prop} {n : Nat} (h : ∀ ds m r, R ds m r → ds.length = n) {vs : List V} {H : Hp} {Q : VK} {E : XK} (q : spD K R vs H Q E) : vs.length = n := by
  obtain ⟨p, fr, avs, m, Post, _, _, _, ra, hR, _⟩ := q
  rw [repA_len ra]; exact h _ _ _ hR
theorem Has.mono {j k : Nat} {x : Str} {ps : List Str} {sp : Sp} (h : Has P w K mg base j x ps sp) (hk : j ≤ k) : Has P w K mg base k x ps sp := by
  obtain ⟨f, fd, F, r⟩ := h
  exact ⟨f, fd, F.mono hk, r⟩
theorem def_mk {x qual : Str} {st : Stmt} {ps : List Str} {h : Heap} {f : Addr} {oc : Value} {od an : Option Addr} {osl : Array (Option Value)} {kV doc pm cdv ct : Value} (X : K.In h) (G : h.Ns mainGlobals mg)
    (a : PySem.W.nsIn K mainGlobals x = some (some (.ref f))) (l : K.lookup f = some ⟨oc, od, .func (PySem.W.fnOf x qual (defArgs st) (defBody st) (defScope st) .none kV doc pm an cdv ct), osl⟩) (c : PySem.W.codeIn K cdv qual = true) (k : PySem.W.keepIn K (.ref f) = true)
    (hb : ∀ (kV doc pm : Value) (an : Option Addr) (cdv ct : Value) (us : List Value), us.length = ps.length → bindArgs (PySem.W.fnOf x qual (defArgs st) (defBody st) (defScope st) .none kV doc pm an cdv ct) ⟨us, []⟩ = pure (ps.zip us)) : Def K mg x qual st ps :=
  ⟨f, _, fun_mk l c k, PySem.W.mg_of X G a, (fun_mk l c k).binds hb⟩
end
end D2
set_option Elab.async false
set_option linter.all false
set_option maxRecDepth 100000
set_option maxHeartbeats 4000000
/-! DL7: numbers that are not negative as Nat; lists of texts and numbers; sides. -/
namespace D2
open PySem PySem.Spec PyProof.Rows L2
abbrev dn (n : Nat) : AV := .d (.int (n : Int))
abbrev pn (n : Nat) : PyData := .int (n : Int)
abbrev dLS (ls : List (List Nat)) : AV := .d (.list (ls.map pS))
abbrev dLI (ns : List Int) : AV := .d (.list (ns.map PyData.int))
abbrev dLN (ns : List Nat) : AV := .d (.list (ns.map pn))
section
variable {K : PySem.W.Frag} {mu : Mu} {S : AS}
theorem ev_nat (n : Nat) {i : Int} (h : i = (n : Int) := by rfl) : EV K (tC (.int i)) S (dn n) := by subst h; exact ev_int
theorem rb_addN {a b : Nat} : RB K mu (rAddU K) (dn a) (dn b) (dn (a + b)) := by
  have h := rb_add (K := K) (mu := mu) (i := (a : Int)) (j := (b : Int))
  rw [← Int.natCast_add] at h; exact h
theorem rb_subN {a b : Nat} (h : b ≤ a) : RB K mu (rI0 fun i j => .int (i - j)) (dn a) (dn b) (dn (a - b)) := by
  have h2 := rb_sub (K := K) (mu := mu) (i := (a : Int)) (j := (b : Int))
  rw [← Int.ofNat_sub h] at h2; exact h2
theorem rb_mulN {a b : Nat} (h : a < 2 ^ 64 ∨ b < 2 ^ 64) : RB K mu rMulU (dn a) (dn b) (dn (a * b)) := by
  have h2 := rb_mul (K := K) (mu := mu) (i := (a : Int)) (j := (b : Int)) (by omega)
  rw [← Int.natCast_mul] at h2; exact h2
theorem rb_fdivNN {a b : Nat} (h : 0 < b ∧ b < 1073741824) : RB K mu (rI CDivN fun i j => .int (i.fdiv j)) (dn a) (dn b) (dn (a / b)) := rb_fdivN rfl rfl h
theorem rb_modNN {a b : Nat} (h : 0 < b) : RB K mu (rI (fun _ j => j ≠ 0) fun i j => .int (i.fmod j)) (dn a) (dn b) (dn (a % b)) := rb_modN rfl rfl h
theorem rb_ipadd {i j : Int} : RB K mu (ipI fun i j => i + j) (dI i) (dI j) (dI (i + j)) := fun as fr H v1 v2 hk r1 r2 Q k => by cases r1; cases r2; exact ⟨i, j, rfl, rfl, k.int⟩
theorem rb_ipsub {i j : Int} : RB K mu (ipI fun i j => i - j) (dI i) (dI j) (dI (i - j)) := fun as fr H v1 v2 hk r1 r2 Q k => by cases r1; cases r2; exact ⟨i, j, rfl, rfl, k.int⟩
theorem rb_ipaddN {a b : Nat} : RB K mu (ipI fun i j => i + j) (dn a) (dn b) (dn (a + b)) := by
  have h := rb_ipadd (K := K) (mu := mu) (i := (a : Int)) (j := (b : Int))
  rw [← Int.natCast_add] at h; exact h
theorem rb_ipsubN {a b : Nat} (hb : b ≤ a) : RB K mu (ipI fun i j => i - j) (dn a) (dn b) (dn (a - b)) := by
  have h := rb_ipsub (K := K) (mu := mu) (i := (a : Int)) (j := (b : Int))
  rw [← Int.ofNat_sub hb] at h; exact h
theorem rb_is {r : R2} {a1 a2 a a' : AV} (h : RB K mu r a1 a2 a) (e : a = a') : RB K mu r a1 a2 a' := e ▸ h
theorem rb_eqN {a b : Nat} : RB K mu (rEqU K) (dn a) (dn b) (dB (decide (a = b))) := rb_is rb_eqI (by congr 2; simp [Int.ofNat_inj])
theorem rb_neN {a b : Nat} : RB K mu (rNeU K) (dn a) (dn b) (dB (!decide (a = b))) := rb_is rb_neI (by congr 2; simp [Int.ofNat_inj])
theorem rb_ltN {a b : Nat} : RB K mu (rLtU K) (dn a) (dn b) (dB (decide (a < b))) := rb_is rb_ltI (by congr 2; simp [Int.ofNat_lt])
theorem rb_leN {a b : Nat} : RB K mu (rLeU K) (dn a) (dn b) (dB (decide (a ≤ b))) := rb_is rb_le (by congr 2; simp [Int.ofNat_le])
theorem rb_gtN {a b : Nat} : RB K mu (rGtU K) (dn a) (dn b) (dB (decide (b < a))) := rb_is rb_gt (by congr 2; simp [Int.ofNat_lt])
theorem rb_geN {a b : Nat} : RB K mu (rGeU K) (dn a) (dn b) (dB (decide (b ≤ a))) := rb_is rb_ge (by congr 2; simp [Int.ofNat_le])
theorem rsl_toN {l : List Nat} {n : Nat} (hl : l.length ≤ 1000000) : RSl K mu (rSlU K) (dS l) none (some (n : Int)) (dS (l.take n)) := rsl_to n rfl hl
theorem rsl_fromN {l : List Nat} {n : Nat} (hl : l.length ≤ 1000000) : RSl K mu (rSlU K) (dS l) (some (n : Int)) none (dS (l.drop n)) := rsl_from n rfl hl
theorem rsl_midN {l : List Nat} {m n : Nat} (hl : l.length ≤ 1000000) : RSl K mu (rSlU K) (dS l) (some (m : Int)) (some (n : Int)) (dS ((l.take n).drop m)) := rsl_mid m n rfl rfl hl
theorem cutL_map {α β : Type} (f : α → β) (l : List α) (lo hi : Option Int) : cutL (l.map f) lo hi = (cutL l lo hi).map f := by
  unfold cutL; rw [List.length_map, List.map_take, List.map_drop]
theorem rsl_LS {ls : List (List Nat)} {lo hi : Option Int} : RSl K mu (rSlU K) (dLS ls) lo hi (dLS (cutL ls lo hi)) := by
  show RSl K mu (rSlU K) (dL (ls.map pS)) lo hi (dL ((cutL ls lo hi).map pS))
  rw [← cutL_map]; exact rsl_L
theorem rsl_LStoN {ls : List (List Nat)} {n : Nat} : RSl K mu (rSlU K) (dLS ls) none (some (n : Int)) (dLS (ls.take n)) := by rw [← cutL_to]; exact rsl_LS
theorem getD_some {α : Type} {l : List α} {n : Nat} {d : α} (h : n < l.length) : l[n]? = some (l.getD n d) := by
  rw [List.getD_eq_getElem?_getD, List.getElem?_eq_getElem h]; rfl
theorem rb_ixSN {l : List Nat} {n : Nat} (h : n < l.length) (hl : l.length ≤ 1000000) : RB K mu (rIx K) (dS l) (dn n) (dS [l.getD n 0]) := rb_ixS n rfl (getD_some h) hl
theorem rb_ixLN {ds : List PyData} {n : Nat} {d : PyData} (h : ds[n]? = some d) : RB K mu (rIx K) (dL ds) (dn n) (.d d) := rb_ixL (atI_nat h)
theorem rb_ixTN {ds : List PyData} {n : Nat} {d : PyData} (h : ds[n]? = some d) : RB K mu (rIx K) (dT ds) (dn n) (.d d) := rb_ixT (atI_nat h)
theorem rb_ixLS {ls : List (List Nat)} {n : Nat} (h : n < ls.length) : RB K mu (rIx K) (dLS ls) (dn n) (dS (ls.getD n [])) := rb_ixLN (by rw [List.getElem?_map, getD_some h]; rfl)
theorem rb_ixLI {ls : List Int} {n : Nat} (h : n < ls.length) : RB K mu (rIx K) (dLI ls) (dn n) (dI (ls.getD n 0)) := rb_ixLN (by rw [List.getElem?_map, getD_some h]; rfl)
theorem rb_ixLNN {ls : List Nat} {n : Nat} (h : n < ls.length) : RB K mu (rIx K) (dLN ls) (dn n) (dn (ls.getD n 0)) := rb_ixLN (by rw [List.getElem?_map, getD_some h]; rfl)
theorem rb_ixON {j n : Nat} {ds : List PyData} {d : PyData} (hm : mu[j]? = some (.l ds)) (h : ds[n]? = some d) : RB K mu (rIx K) (.o j) (dn n) (.d d) := rb_ixO hm (atI_nat h)
theorem ra_is {r : List V → Hp → VK → Prop} {avs : List AV} {a a' : AV} (h : RA K mu r avs a) (e : a = a') : RA K mu r avs a' := e ▸ h
theorem ra_lenSN {l : List Nat} (hl : l.length ≤ 1000000) : RA K mu (rLen K) [dS l] (dn l.length) := ra_lenS hl
theorem ra_lenLS {ls : List (List Nat)} : RA K mu (rLen K) [dLS ls] (dn ls.length) := ra_is ra_lenL (by rw [List.length_map])
theorem ra_lenLI {ls : List Int} : RA K mu (rLen K) [dLI ls] (dn ls.length) := ra_is ra_lenL (by rw [List.length_map])
theorem ra_lenLN {ls : List Nat} : RA K mu (rLen K) [dLN ls] (dn ls.length) := ra_is ra_lenL (by rw [List.length_map])
theorem ra_intN {n : Nat} : RA K mu rIntU [dn n] (dn n) := ra_int
theorem ra_intBN {b : Bool} : RA K mu rIntU [dB b] (dn b.toNat) := ra_is ra_intB (by cases b <;> rfl)
theorem ra_min2N {a b : Nat} : RA K mu (rMinU K) [dn a, dn b] (dn (min a b)) := ra_is ra_min2 (by
  congr 2
  by_cases h : (b : Int) < a
  · rw [if_pos h, Nat.min_eq_right (by omega)]
  · rw [if_neg h, Nat.min_eq_left (by omega)])
theorem ra_max2N {a b : Nat} : RA K mu (rMaxU K) [dn a, dn b] (dn (max a b)) := ra_is ra_max2 (by
  congr 2
  by_cases h : (b : Int) > a
  · rw [if_pos h, Nat.max_eq_right (by omega)]
  · rw [if_neg h, Nat.max_eq_left (by omega)])
theorem rb_mulSN {a : List Nat} {n : Nat} (h2 : n ≤ 1000000) (h : a.length * n ≤ 1000000) : RB K mu rMulU (dS a) (dn n) (dS (rep a n)) := rb_is (rb_mulS n (Int.le_refl _) (by omega) h2 h) (by rw [Int.toNat_natCast])
theorem rb_inLSN {a : List Nat} {ls : List (List Nat)} : RB K mu (rInU K) (dS a) (dLS ls) (dB (decide (a ∈ ls))) := rb_inLS
/-- what is walked, by Nat -/
theorem ei_rngN {t : TA} {n : Nat} (h : AVs K t S [dn n]) (h2 : n ≤ 1000000) : EI K (iRng1 t) S ((List.range n).map pn) := by
  have := ei_rng1 h (by omega) (by omega)
  rw [Int.toNat_natCast] at this; exact this
theorem rngN_at {n i : Nat} {d : PyData} (h : ((List.range n).map pn)[i]? = some d) : i < n ∧ d = pn i := rng_at h
theorem ei_rng2N {t : TA} {m n : Nat} (h : AVs K t S [dn m, dn n]) (h1 : m ≤ 1000000) (h2 : n ≤ 1000000) : EI K (iRng2 t) S ((List.range (n - m)).map fun k => pn (m + k)) := by
  have := ei_rng2 h (by omega)
  have e : ((n : Int) - m).toNat = n - m := by omega
  rw [e] at this
  have e2 : (fun (k : Nat) => PyData.int ((m : Int) + (k : Int))) = fun k => pn (m + k) := by
    funext k; show PyData.int _ = PyData.int _; rw [Int.natCast_add]
  rw [e2] at this; exact this
theorem rng2N_at {m n i : Nat} {d : PyData} (h : ((List.range n).map fun k => pn (m + k))[i]? = some d) : i < n ∧ d = pn (m + i) := by
  rw [List.getElem?_map] at h
  by_cases c : i < n
  · rw [List.getElem?_range c] at h
    exact ⟨c, (Option.some.inj h).symm⟩
  · rw [List.getElem?_eq_none (by simpa using c)] at h; cases h
end
end D2
set_option Elab.async false
set_option linter.all false
set_option maxRecDepth 100000
set_option maxHeartbeats 4000000
/-! DL8: dicts of our own, keys ints and texts. -/
namespace D2
open PySem PySem.Spec PyProof.Rows L2
def lookD (kvs : List (Key × PyData)) (k : Key) : Option PyData := (kvs.find? fun kv => decide (kv.1 = k)).map (·.2)
def putD (kvs : List (Key × PyData)) (k : Key) (v : PyData) : List (Key × PyData) :=
  if (kvs.any fun kv => decide (kv.1 = k)) = true then kvs.map (fun kv => if kv.1 = k then (kv.1, v) else kv) else kvs ++ [(k, v)]
abbrev kS (l : List Nat) : Key := .inr ⟨l.toArray⟩
theorem kS_inj {a b : List Nat} : kS a = kS b ↔ a = b := ⟨fun h => txt_inj (Sum.inr.inj h), fun h => by rw [h]⟩
theorem lookD_nil (k : Key) : lookD [] k = none := rfl
theorem lookD_cons (p : Key × PyData) (r : List (Key × PyData)) (k : Key) : lookD (p :: r) k = if p.1 = k then some p.2 else lookD r k := by
  unfold lookD
  rw [List.find?_cons]
  by_cases h : p.1 = k
  · rw [if_pos h]; simp [h]
  · rw [if_neg h]; simp [h]
theorem lookD_any (k : Key) : ∀ kvs : List (Key × PyData), (kvs.any fun kv => decide (kv.1 = k)) = (lookD kvs k).isSome
  | [] => rfl
  | p :: r => by
    rw [List.any_cons, lookD_cons, lookD_any k r]
    by_cases h : p.1 = k
    · simp [h]
    · simp [h]
theorem lookD_put_same (kvs : List (Key × PyData)) (k : Key) (v : PyData) : lookD (putD kvs k v) k = some v := by
  unfold putD
  split
  · rename_i h
    induction kvs with
    | nil => simp at h
    | cons p r ih =>
      rw [List.map_cons, lookD_cons]
      by_cases e : p.1 = k
      · simp [e]
      · rw [if_neg e, if_neg e]
        exact ih (by rw [List.any_cons] at h; simpa [e] using h)
  · rename_i h
    rw [lookD_any] at h
    have hn : lookD kvs k = none := by
      cases q : lookD kvs k with
      | none => rfl
      | some d => rw [q] at h; simp at h
    clear h
    induction kvs with
    | nil => simp [lookD_cons]
    | cons p r ih =>
      rw [lookD_cons] at hn
      by_cases e : p.1 = k
      · rw [if_pos e] at hn; cases hn
      · rw [if_neg e] at hn
        rw [List.cons_append, lookD_cons, if_neg e]; exact ih hn
theorem lookD_put_other (kvs : List (Key × PyData)) (k k2 : Key) (v : PyData) (hk : k ≠ k2) : lookD (putD kvs k v) k2 = lookD kvs k2 := by
  unfold putD
  split
  · induction kvs with
    | nil => rfl
    | cons p r ih =>
      rw [List.map_cons, lookD_cons, lookD_cons]
      by_cases e : p.1 = k
      · rw [if_pos e]
        have : ¬ p.1 = k2 := fun z => hk (e.symm.trans z)
        by_cases h : (r.any fun kv => decide (kv.1 = k)) = true
        · show (if p.1 = k2 then some v else _) = _
          rw [if_neg this, if_neg this]; exact ih h
        · show (if p.1 = k2 then some v else _) = _
          rw [if_neg this, if_neg this]
          congr 1
          have : r.map (fun kv => if kv.1 = k then (kv.1, v) else kv) = r := by
            have h' : ∀ q ∈ r, ¬ q.1 = k := fun q hq e2 => h (List.any_eq_true.mpr ⟨q, hq, decide_eq_true e2⟩)
            rw [List.map_congr_left (g := id) fun q hq => by rw [if_neg (h' q hq)]; rfl]; simp
          exact this
      · rename_i h
        rw [if_neg e]
        have h2 : (r.any fun kv => decide (kv.1 = k)) = true := by rw [List.any_cons] at h; simpa [e] using h
        by_cases e2 : p.1 = k2
        · rw [if_pos e2, if_pos e2]
        · rw [if_neg e2, if_neg e2]; exact ih h2
  · induction kvs with
    | nil => simp [lookD_cons, hk, lookD_nil]
    | cons p r ih =>
      rename_i h
      rw [List.cons_append, lookD_cons, lookD_cons]
      by_cases e2 : p.1 = k2
      · rw [if_pos e2, if_pos e2]
      · rw [if_neg e2, if_neg e2]
        exact ih (by rw [List.any_cons] at h; intro z; exact h (by rw [z]; simp))
theorem putD_length (kvs : List (Key × PyData)) (k : Key) (v : PyData) : (putD kvs k v).length ≤ kvs.length + 1 := by
  unfold putD
  split
  · simp
  · simp
section
variable {K : PySem.W.Frag} {Hf : Hp}
theorem lookD_val {k : Key} : ∀ {vs : List (Key × V)} {kvs : List (Key × PyData)}, vs.map (·.1) = kvs.map (·.1) → DpAll K Hf (vs.map (·.2)) (kvs.map (·.2)) → (lookD kvs k = none ∧ valV vs k = none) ∨ ∃ d v, lookD kvs k = some d ∧ valV vs k = some v ∧ Dp K Hf v d
  | [], [], _, _ => .inl ⟨rfl, rfl⟩
  | [], _ :: _, h, _ => by simp at h
  | _ :: _, [], h, _ => by simp at h
  | p :: r, q :: s, h, ha => by
    rw [List.map_cons, List.map_cons] at h
    injection h with h1 h2
    cases ha with
    | cons a b =>
      by_cases e : p.1 = k
      · exact .inr ⟨q.2, p.2, by rw [lookD_cons, if_pos (h1 ▸ e)], valV_pos e, a⟩
      · rw [lookD_cons, if_neg (fun z => e (h1.trans z)), valV_neg e]
        exact lookD_val h2 b
theorem map_put {k : Key} {v : V} {d : PyData} (hv : Dp K Hf v d) : ∀ {vs : List (Key × V)} {kvs : List (Key × PyData)}, vs.map (·.1) = kvs.map (·.1) → DpAll K Hf (vs.map (·.2)) (kvs.map (·.2)) →
    (vs.map (fun kv => if kv.1 = k then (kv.1, v) else kv)).map (·.1) = (kvs.map (fun kv => if kv.1 = k then (kv.1, d) else kv)).map (·.1) ∧
    DpAll K Hf ((vs.map (fun kv => if kv.1 = k then (kv.1, v) else kv)).map (·.2)) ((kvs.map (fun kv => if kv.1 = k then (kv.1, d) else kv)).map (·.2))
  | [], [], _, _ => ⟨rfl, .nil⟩
  | [], _ :: _, h, _ => by simp at h
  | _ :: _, [], h, _ => by simp at h
  | p :: r, q :: s, h, ha => by
    rw [List.map_cons, List.map_cons] at h
    injection h with h1 h2
    cases ha with
    | cons a b =>
      obtain ⟨i1, i2⟩ := map_put hv h2 b
      simp only [List.map_cons]
      by_cases e : p.1 = k
      · rw [if_pos e, if_pos (h1 ▸ e)]
        exact ⟨by rw [i1, h1], .cons hv i2⟩
      · rw [if_neg e, if_neg (fun z => e (h1.trans z))]
        exact ⟨by rw [i1, h1], .cons a i2⟩
theorem any_key {k : Key} : ∀ {vs : List (Key × V)} {kvs : List (Key × PyData)}, vs.map (·.1) = kvs.map (·.1) → (vs.any fun kv => decide (kv.1 = k)) = (kvs.any fun kv => decide (kv.1 = k))
  | [], [], _ => rfl
  | [], _ :: _, h => by simp at h
  | _ :: _, [], h => by simp at h
  | p :: r, q :: s, h => by
    rw [List.map_cons, List.map_cons] at h
    injection h with h1 h2
    rw [List.any_cons, List.any_cons, any_key h2, h1]
theorem put_val {k : Key} {v : V} {d : PyData} {vs : List (Key × V)} {kvs : List (Key × PyData)} (h : vs.map (·.1) = kvs.map (·.1)) (ha : DpAll K Hf (vs.map (·.2)) (kvs.map (·.2))) (hv : Dp K Hf v d) :
    (putK vs k v).map (·.1) = (putD kvs k d).map (·.1) ∧ DpAll K Hf ((putK vs k v).map (·.2)) ((putD kvs k d).map (·.2)) := by
  unfold putK putD
  rw [any_key h]
  split
  · exact map_put hv h ha
  · refine ⟨by rw [List.map_append, List.map_append, h]; rfl, ?_⟩
    rw [List.map_append, List.map_append]
    exact da_append ha (.cons hv .nil)
end
section
variable {K : PySem.W.Frag} {S : AS} {te ty : TE} {A : AE}
/-- a key as a value -/
def kA : Key → AV
  | .inl i => dI i
  | .inr x => .d (.str x)
theorem kA_rep {Hf : Hp} {as : List Addr} {v : V} {k : Key} (h : RepV K Hf as v (kA k)) : v = kV k := by
  cases k with
  | inl i => cases h; rfl
  | inr x => cases h; rfl
theorem sw_asgD {i : Nat} (h : A.nx ⟨S.sl.set i (some (.o S.mu.length)), S.mu ++ [.k []]⟩) : SW K (tAsg tDNewK (gName i)) S A := fun Z as0 as fr σ H D ok im p hp => by
  have ok2 := ok.own (o := .dK []) (m := .k []) hp ⟨[], upd_same, rfl, .nil⟩
  refine im.nx _ _ _ _ (ok2.store (i := i) (v := .ref p) (av := .o S.mu.length) ⟨p, ?_, rfl⟩) h
  rw [← ok.mu.1, List.getElem?_append_right (Nat.le_refl _), Nat.sub_self]; rfl
theorem ew_din {i j : Nat} {k : Key} {P : AV → Mu → Prop} (hi : S.sl[i]? = some (some (.o j))) (h : EW K ty S fun a mu => ∃ k kvs, a = kA k ∧ mu[j]? = some (.k kvs) ∧ P (dB (lookD kvs k).isSome) mu) : EW K (tDIn ty (tVar i)) S P := fun Z as0 as fr σ H ok Q q =>
  h Z as0 as fr σ H ok _ fun v H1 a mu1 g ok1 r ⟨k, kvs, e, hm, p⟩ => by
    subst e
    obtain ⟨w, h1, pp, hp, e⟩ := ok1.sl i _ hi
    subst e
    obtain ⟨vs, hv, hk, ha⟩ := ok1.mu.2 j pp _ hp hm
    refine ⟨.ref pp, h1, pp, valV vs k, rfl, ?_, ?_⟩
    · rw [kA_rep r]; exact DGet.k hv
    · have e2 : (valV vs k).isSome = (lookD kvs k).isSome := by
        rcases lookD_val (k := k) hk ha with ⟨a, b⟩ | ⟨d, v, a, b, _⟩
        · rw [a, b]; rfl
        · rw [a, b]; rfl
      rw [e2]
      exact q _ H1 (dB (lookD kvs k).isSome) mu1 g ok1 rv_bl p
theorem ew_dnin {i j : Nat} {k : Key} {P : AV → Mu → Prop} (hi : S.sl[i]? = some (some (.o j))) (h : EW K ty S fun a mu => ∃ k kvs, a = kA k ∧ mu[j]? = some (.k kvs) ∧ P (dB (!(lookD kvs k).isSome)) mu) : EW K (tDNotIn ty (tVar i)) S P := fun Z as0 as fr σ H ok Q q =>
  h Z as0 as fr σ H ok _ fun v H1 a mu1 g ok1 r ⟨k, kvs, e, hm, p⟩ => by
    subst e
    obtain ⟨w, h1, pp, hp, e⟩ := ok1.sl i _ hi
    subst e
    obtain ⟨vs, hv, hk, ha⟩ := ok1.mu.2 j pp _ hp hm
    refine ⟨.ref pp, h1, pp, valV vs k, rfl, ?_, ?_⟩
    · rw [kA_rep r]; exact DGet.k hv
    · have e2 : (valV vs k).isSome = (lookD kvs k).isSome := by
        rcases lookD_val (k := k) hk ha with ⟨a, b⟩ | ⟨d, v, a, b, _⟩
        · rw [a, b]; rfl
        · rw [a, b]; rfl
      rw [e2]
      exact q _ H1 (dB (!(lookD kvs k).isSome)) mu1 g ok1 rv_bl p
theorem ev_din {i j : Nat} {k : Key} {kvs : List (Key × PyData)} (hi : S.sl[i]? = some (some (.o j))) (hm : S.mu[j]? = some (.k kvs)) (h : EV K ty S (kA k)) : EV K (tDIn ty (tVar i)) S (dB (lookD kvs k).isSome) := ew_din (k := k) hi (h.ew ⟨k, kvs, rfl, hm, rfl, rfl⟩)
theorem ev_dnin {i j : Nat} {k : Key} {kvs : List (Key × PyData)} (hi : S.sl[i]? = some (some (.o j))) (hm : S.mu[j]? = some (.k kvs)) (h : EV K ty S (kA k)) : EV K (tDNotIn ty (tVar i)) S (dB (!(lookD kvs k).isSome)) := ew_dnin (k := k) hi (h.ew ⟨k, kvs, rfl, hm, rfl, rfl⟩)
theorem ew_dget {i j : Nat} {P : AV → Mu → Prop} (hi : S.sl[i]? = some (some (.o j))) (h : EW K ty S fun a mu => ∃ k kvs d, a = kA k ∧ mu[j]? = some (.k kvs) ∧ lookD kvs k = some d ∧ P (.d d) mu) : EW K (tDGet (tVar i) ty) S P := fun Z as0 as fr σ H ok Q q => by
  obtain ⟨w, h1, pp, hp, e⟩ := ok.sl i _ hi
  subst e
  exact ⟨.ref pp, h1, h Z as0 as fr σ H ok _ fun v H1 a mu1 g ok1 r ⟨k, kvs, d, e, hm, hd, p⟩ => by
    subst e
    obtain ⟨vs, hv, hk, ha⟩ := ok1.mu.2 j pp _ hp hm
    rcases lookD_val (k := k) hk ha with ⟨a, b⟩ | ⟨d2, v2, a, b, c⟩
    · rw [a] at hd; cases hd
    · rw [a] at hd; cases hd
      refine ⟨pp, v2, rfl, ?_, q v2 H1 (.d d) mu1 g ok1 c p⟩
      rw [kA_rep r, ← b]; exact DGet.k hv⟩
theorem ev_dget {i j : Nat} {k : Key} {kvs : List (Key × PyData)} {d : PyData} (hi : S.sl[i]? = some (some (.o j))) (hm : S.mu[j]? = some (.k kvs)) (h : EV K ty S (kA k)) (hd : lookD kvs k = some d) : EV K (tDGet (tVar i) ty) S (.d d) := ew_dget hi (h.ew ⟨k, kvs, d, rfl, hm, hd, rfl, rfl⟩)
theorem sw_dput {i j : Nat} (hi : S.sl[i]? = some (some (.o j))) (h : EW K te S fun a mu1 => EW K ty ⟨S.sl, mu1⟩ fun b mu2 => ∃ d k kvs, a = .d d ∧ b = kA k ∧ mu2[j]? = some (.k kvs) ∧ kvs.length < 1000000 ∧ A.nx ⟨S.sl, mu2.set j (.k (putD kvs k d))⟩) : SW K (sDPut (tVar i) ty te) S A := fun Z as0 as fr σ H D ok im =>
  h Z as0 as fr σ H ok _ fun v H1 a mu1 g1 ok1 r1 p1 => by
    obtain ⟨w, h1, p, hp, e⟩ := ok1.sl i _ hi
    subst e
    refine ⟨.ref p, h1, p1 Z as0 as fr σ H1 ok1 _ fun v2 H2 b mu2 g2 ok2 r2 ⟨d, k, kvs, e1, e2, hm, hz, q⟩ => ?_⟩
    subst e1; subst e2
    obtain ⟨vs, hv, hk, ha⟩ := ok2.mu.2 j p _ hp hm
    obtain ⟨q1, q2⟩ := put_val (k := k) hk ha (r1.ex g2)
    have hl : vs.length = kvs.length := by have := congrArg List.length hk; simpa using this
    refine ⟨p, _, rfl, ?_, im.nx _ _ _ _ (ok2.put (m := .k (putD kvs k d)) hp ⟨putK vs k v, upd_same, q1, q2⟩) q⟩
    rw [kA_rep r2]; exact DPut.k hv (by rw [hl]; exact sz_lt hz)
end
end D2
set_option Elab.async false
set_option linter.all false
set_option maxRecDepth 100000
set_option maxHeartbeats 4000000
/-! DL9: further sides. -/
namespace D2
open PySem PySem.Spec PyProof.Rows L2
theorem filter_head {b : Nat → Bool} {k : Nat} (hk : b k = true) (hn : ∀ j, j < k → b j = false) : ∀ n, k < n → ((List.range n).filter b)[0]? = some k
  | 0, h => by omega
  | n + 1, h => by
    rw [List.range_succ, List.filter_append]
    by_cases c : k < n
    · have ih := filter_head hk hn n c
      rw [List.getElem?_append_left]
      · exact ih
      · exact (List.getElem?_eq_some_iff.mp ih).1
    · have e : n = k := by omega
      subst e
      have e0 : (List.range n).filter b = [] := List.filter_eq_nil_iff.mpr fun j hj => by
        rw [hn j (List.mem_range.mp hj)]; simp
      rw [e0, List.nil_append, List.filter_cons, if_pos hk]; rfl
theorem gath_head {b : Nat → Bool} {e : Nat → PyData} {k n : Nat} (h : k < n) (hk : b k = true) (hn : ∀ j, j < k → b j = false) : (gath b e n)[0]? = some (e k) := by
  unfold gath
  rw [List.getElem?_map, filter_head hk hn n h]; rfl
theorem eqv_ints : ∀ (a b : List Int), PyData.eqvAll (a.map PyData.int) (b.map PyData.int) = decide (a = b)
  | [], [] => rfl
  | [], _ :: _ => rfl
  | _ :: _, [] => rfl
  | x :: a, y :: b => by
    show (PyData.eqv (.int x) (.int y) && PyData.eqvAll (a.map PyData.int) (b.map PyData.int)) = _
    rw [eqv_ints a b]
    show ((x == y) && _) = _
    by_cases h : x = y
    · subst h; simp
    · simp [h]
theorem shaped_ints (a : List Int) : SeqAt.shaped (.tuple (a.map PyData.int)) = true ∧ SeqAt.shaped (.list (a.map PyData.int)) = true := by
  have h1 : ∀ a : List Int, PyData.canLayAll0 (a.map PyData.int) = true := fun a => by
    induction a with
    | nil => rfl
    | cons x a ih => show (PyData.canLay0 (.int x) && PyData.canLayAll0 (a.map PyData.int)) = true; rw [ih]; rfl
  have h2 : ∀ a : List Int, PyData.depthAll (a.map PyData.int) = 0 := fun a => by
    induction a with
    | nil => rfl
    | cons x a ih => show max (PyData.depth (.int x)) (PyData.depthAll (a.map PyData.int)) = 0; rw [ih]; rfl
  constructor
  · show (PyData.canLayAll0 (a.map PyData.int) && decide (PyData.depthAll (a.map PyData.int) + 1 ≤ 64)) = true
    rw [h1, h2]; rfl
  · show (PyData.canLayAll0 (a.map PyData.int) && decide (PyData.depthAll (a.map PyData.int) + 1 ≤ 64)) = true
    rw [h1, h2]; rfl
section
variable {K : PySem.W.Frag} {S : AS}
theorem eiw_rng3 {t : TA} {P : List PyData → Mu → Prop} (h : AW K t S fun avs mu => ∃ (i j c : Int) (n : Nat), avs = [dI i, dI j, dI c] ∧ RgC i j c n ∧ P ((List.range n).map fun (k : Nat) => PyData.int (i + (k : Int) * c)) mu) : EIW K (iRng3 t) S P := fun Z as0 as fr σ H ok R q =>
  h Z as0 as fr σ H ok _ fun vs H1 avs mu1 g1 ok1 r1 ⟨i, j, c, n, e, h1, p⟩ => by
    subst e
    cases r1 with
    | cons r1 r2 =>
      cases r2 with
      | cons r2 r3 =>
      cases r3 with
      | cons r3 r4 =>
      cases r4
      cases r1
      cases r2
      cases r3
      refine ⟨i, j, c, n, rfl, h1, q (Itc i c n) H1 _ (fun _ => True) mu1 g1 ok1 ⟨fun k M H _ hi => ?_, fun k M H x H' _ _ hi hy => ?_, fun M H _ => ?_, fun _ _ _ _ => trivial⟩ trivial p⟩
      · show k < n
        rw [List.length_map, List.length_range] at hi; exact hi
      · obtain ⟨e1, e2⟩ := hy
        subst e1; subst e2
        refine ⟨.int (i + (k : Int) * c), ?_, Ex.refl _, .int _⟩
        have : k < n := by rw [List.length_map, List.length_range] at hi; exact hi
        rw [List.getElem?_map, List.getElem?_range this]; rfl
      · show n ≤ _
        rw [List.length_map, List.length_range]; exact Nat.le_refl _
/-- downward from a to b (not with it): a - k -/
theorem ei_rngD {t : TA} {a b : Nat} (h : AVs K t S [dn a, dn b, dI (-1)]) (hb : b ≤ a) (ha : a ≤ 1000000) : EI K (iRng3 t) S ((List.range (a - b)).map fun k => pn (a - k)) := eiw_rng3 (h.ew ⟨(a : Int), (b : Int), -1, a - b, rfl, by
  have := RgC.neg (i := (a : Int)) (j := (b : Int)) (by omega) (by omega) (by omega) (by omega)
  rw [show ((a : Int) - b).toNat = a - b by omega] at this; exact this, by
  apply List.map_congr_left
  intro k hk
  have := List.mem_range.mp hk
  show PyData.int _ = PyData.int _
  congr 1; omega, rfl⟩)
/-- down to 0: a, a - 1, .. 0 -/
theorem ei_rngD0 {t : TA} {a : Int} {n : Nat} (h : AVs K t S [dI a, dI (-1), dI (-1)]) (hn : a = (n : Int) - 1) (ha : n ≤ 1000000) : EI K (iRng3 t) S ((List.range n).map fun k => pn (n - 1 - k)) := eiw_rng3 (h.ew ⟨a, -1, -1, n, rfl, by
  have := RgC.neg (i := a) (j := -1) (by omega) (by omega) (by omega) (by omega)
  rw [show (a - -1).toNat = n by omega] at this; exact this, by
  apply List.map_congr_left
  intro k hk
  have := List.mem_range.mp hk
  show PyData.int _ = PyData.int _
  congr 1; omega, rfl⟩)
theorem map_at {α : Type} {f : Nat → α} {n i : Nat} {d : α} (h : ((List.range n).map f)[i]? = some d) : i < n ∧ d = f i := by
  rw [List.getElem?_map] at h
  by_cases c : i < n
  · rw [List.getElem?_range c] at h
    exact ⟨c, (Option.some.inj h).symm⟩
  · rw [List.getElem?_eq_none (by simpa using c)] at h; cases h
theorem lst_at {α β : Type} {f : α → β} {l : List α} {i : Nat} {d : β} (h : (l.map f)[i]? = some d) : ∃ a, l[i]? = some a ∧ d = f a := by
  rw [List.getElem?_map] at h
  cases e : l[i]? with
  | none => rw [e] at h; cases h
  | some a => rw [e] at h; exact ⟨a, rfl, (Option.some.inj h).symm⟩
/-- xs.index(x) of texts -/
theorem eqV_str {a b : Str} : eqV (.str a) (.str b) = decide (a = b) := by
  show (a == b) = decide (a = b)
  by_cases h : a = b
  · subst h; simp
  · rw [decide_eq_false h]; simpa using h
theorem rm_indexS {mu : Mu} {ls : List (List Nat)} {a : List Nat} {j : Nat} (h : ls[j]? = some a) (hn : ∀ m, m < j → ls[m]? ≠ some a) : RM K mu (rIndex K) (dLS ls) [dS a] (dn j) := fun as fr H v vs hk r1 r2 Q k => by
  cases r2 with
  | cons r2 r3 =>
    cases r3
    cases r2
    cases r1 with
    | lst hs ha =>
      have e := strsV ha
      subst e
      refine ⟨_, _, _, j, .str ⟨a.toArray⟩, rfl, rfl, sqL_ex off_le hs, rfl, flat_strs _, by rw [List.getElem?_map, List.getElem?_map, h]; rfl, by rw [eqV_str]; simp, fun m z' hm hz => ?_, k.int⟩
      rw [List.getElem?_map, List.getElem?_map] at hz
      cases e : ls[m]? with
      | none => rw [e] at hz; cases hz
      | some b =>
        rw [e] at hz
        cases hz
        rw [eqV_str]
        exact decide_eq_false fun z => hn m hm (by rw [e]; congr 1; exact txt_inj z)
theorem rm_indexI {mu : Mu} {ns : List Int} {a : Int} {j : Nat} (h : ns[j]? = some a) (hn : ∀ m, m < j → ns[m]? ≠ some a) : RM K mu (rIndex K) (dLI ns) [dI a] (dn j) := fun as fr H v vs hk r1 r2 Q k => by
  cases r2 with
  | cons r2 r3 =>
    cases r3
    cases r2
    cases r1 with
    | lst hs ha =>
      have e := da_ints ha
      subst e
      refine ⟨_, _, _, j, .int a, rfl, rfl, sqL_ex off_le hs, rfl, ?_, by rw [List.getElem?_map, h]; rfl, by simp [eqV], fun m z' hm hz => ?_, k.int⟩
      · rw [List.all_eq_true]; intro x hx; obtain ⟨y, _, e⟩ := List.mem_map.mp hx; subst e; rfl
      · rw [List.getElem?_map] at hz
        cases e : ns[m]? with
        | none => rw [e] at hz; cases hz
        | some b =>
          rw [e] at hz
          cases hz
          have : b ≠ a := fun z => hn m hm (by rw [e, z])
          simp [eqV, this]
theorem ty_lst {mu : Mu} {ds : List PyData} : TyR K mu "list" (dL ds) := fun as fr H v hk r => by
  cases r with
  | lst hs _ =>
    show _
    rename_i a xs
    exact .inl ⟨rfl, _, sqL_ex off_le hs⟩
theorem ty_str {mu : Mu} {z : Str} : TyR K mu "str" (.d (.str z)) := fun as fr H v hk r => by
  cases r
  first | rfl | exact trivial | (unfold tyV; simp)
end
theorem LeS.set {a : Option AV} : ∀ {xs ys : List (Option AV)}, LeS xs ys → ∀ j, LeS (xs.set j a) (ys.set j a)
  | _, _, .nil, _ => .nil
  | _, _, .skip h, 0 => .same h
  | _, _, .skip h, j + 1 => .skip (LeS.set h j)
  | _, _, .same h, 0 => .same h
  | _, _, .same h, j + 1 => .same (LeS.set h j)
theorem Le.set {S S' : AS} (h : Le S S') (j : Nat) (a : Option AV) : Le ⟨S.sl.set j a, S.mu⟩ ⟨S'.sl.set j a, S'.mu⟩ := ⟨LeS.set h.1 j, h.2⟩
section
variable {K : PySem.W.Frag} {S S' : AS} {t : TS} {A : AE} {d d1 d2 d3 : PyData} {i j k : Nat}
theorem gw_le (hS : Le S S') (h : SW K t ⟨S.sl.set j (some (.d d)), S.mu⟩ A) : GW K (gName j) [j] d S' fun S2 => SW K t S2 A := gw_name (sw_le h (hS.set j _))
theorem gw_le2 (hS : Le S S') (h : SW K t ⟨(S.sl.set i (some (.d d1))).set j (some (.d d2)), S.mu⟩ A) : GW K (gTup K 2 (gCons (gName i) (gCons (gName j) gNil))) [i, j] (.tuple [d1, d2]) S' fun S2 => SW K t S2 A := gw_tup2 (sw_le h ((hS.set i _).set j _))
end
section
variable {K : PySem.W.Frag} {S : AS} {t u : TT} {s1 s2 : TS} {A : AE} {P : Bool → Mu → Prop}
theorem tw_andE {b : Bool} (h : TV K t S b) (h1 : b = true → TW K u S P) (h2 : b = false → P false S.mu) : TW K (tAnd t u) S P := tw_and (h.ew (by
  cases b with
  | true => rw [if_pos rfl]; exact h1 rfl
  | false => rw [if_neg Bool.false_ne_true]; exact h2 rfl))
theorem tw_orE {b : Bool} (h : TV K t S b) (h1 : b = false → TW K u S P) (h2 : b = true → P true S.mu) : TW K (tOr t u) S P := tw_or (h.ew (by
  cases b with
  | true => rw [if_pos rfl]; exact h2 rfl
  | false => rw [if_neg Bool.false_ne_true]; exact h1 rfl))
theorem sw_ifM (P : Bool → Mu → Prop) (h : TW K t S P) (h1 : ∀ mu, P true mu → SW K s1 ⟨S.sl, mu⟩ A) (h2 : ∀ mu, P false mu → SW K s2 ⟨S.sl, mu⟩ A) : SW K (tIfS t s1 s2) S A := sw_if (h.mono fun b mu p => by
  cases b with
  | true => rw [if_pos rfl]; exact h1 mu p
  | false => rw [if_neg Bool.false_ne_true]; exact h2 mu p)
end
section
variable {K : PySem.W.Frag} {S : AS} {t u : TS} {tt : TT} {A : AE}
/-- the same, the states told exactly: behind a turn one that knows as much -/
abbrev Up (M : AS → Prop) : AS → Prop := fun S2 => ∃ S3, Le S3 S2 ∧ M S3
theorem sw_up {M : AS → Prop} (h : ∀ S', M S' → SW K t S' A) : ∀ S', Up M S' → SW K t S' A := fun S' ⟨S3, l, m⟩ => sw_le (h S3 m) l
theorem sw_midL (M : AS → Prop) (h1 : SW K t S { A with nx := Up M }) (h2 : ∀ S', M S' → SW K u S' A) : SW K (tSeq t u) S A := sw_mid (Up M) h1 (sw_up h2)
theorem sw_whileL (W : Nat → AS → Prop) (h0 : ∃ m, Up (W m) S) (hs : ∀ m S', W m S' → TW K tt S' fun b mu => if b = true then SW K t ⟨S'.sl, mu⟩ { A with nx := fun S2 => ∃ m', m' < m ∧ Up (W m') S2, ct := fun S2 => ∃ m', m' < m ∧ Up (W m') S2, bk := A.nx } else A.nx ⟨S'.sl, mu⟩) : SW K (tWhile tt t) S A := fun Z as0 as fr σ H D ok im => by
  obtain ⟨m0, S0, l0, w0⟩ := h0
  refine ⟨fun m σ' H' => ∃ S' as', Ok K Z as0 as' fr S' σ' H' ∧ W m S', ⟨m0, S0, as, ok.le l0, w0⟩, ?_⟩
  rintro m σ' H' ⟨S', as', ok', w⟩
  refine hs m S' w Z as0 as' fr σ' H' ok' _ fun b H1 mu1 g ok1 p => ?_
  cases b with
  | true =>
    rw [if_pos rfl] at p ⊢
    refine ⟨fun σ2 H2 => ∃ m', m' < m ∧ ∃ S' as', Ok K Z as0 as' fr S' σ2 H2 ∧ W m' S', fun σ2 H2 h => h, ?_⟩
    exact p Z as0 as' fr σ' H1 _ ok1 ⟨im.n0, fun S3 σ3 H3 as3 h ⟨m', k1, S4, l4, k2⟩ => ⟨m', k1, S4, as3, h.le l4, k2⟩, fun S3 σ3 H3 as3 h k => im.nx _ _ _ _ h k, fun S3 σ3 H3 as3 h ⟨m', k1, S4, l4, k2⟩ => ⟨m', k1, S4, as3, h.le l4, k2⟩, im.rt, im.rn⟩
  | false =>
    rw [if_neg Bool.false_ne_true] at p ⊢
    exact im.nx _ _ _ _ ok1 p
/-- a pure test -/
theorem sw_whileE (W : Nat → AS → Prop) (b : AS → Bool) (h0 : ∃ m, Up (W m) S) (ht : ∀ m S', W m S' → TV K tt S' (b S')) (hs : ∀ m S', W m S' → b S' = true → SW K t S' { A with nx := fun S2 => ∃ m', m' < m ∧ Up (W m') S2, ct := fun S2 => ∃ m', m' < m ∧ Up (W m') S2, bk := A.nx })
    (hd : ∀ m S', W m S' → b S' = false → A.nx S') : SW K (tWhile tt t) S A := sw_whileL W h0 fun m S' w => (ht m S' w).ew (by
  cases e : b S' with
  | true => rw [if_pos rfl]; exact hs m S' w e
  | false => rw [if_neg Bool.false_ne_true]; exact hd m S' w e)
theorem sw_forU {wi : TI} {g : TG} {js : List Nat} (hI : EIW K wi S fun ds mu1 => ∃ st : Nat → AS → Prop, st 0 ⟨S.sl, mu1⟩ ∧
      (∀ i d S', ds[i]? = some d → st i S' → GW K g js d S' fun S2 => SW K t S2 { A with nx := st (i + 1), ct := st (i + 1), bk := A.nx }) ∧ ∀ S', st ds.length S' → ∃ S3, Le S3 S' ∧ A.nx S3) : SW K (tFor wi g t) S A := fun Z as0 as fr σ H D ok im =>
  hI Z as0 as fr σ H ok _ fun J H1 ds G mu1 g1 ok1 F hG ⟨st, s0, sT, sE⟩ => by
    have zle := ok1.z_le
    have imZ : Imp K (off as H1) as0 fr A D := ⟨im.n0, fun S' σ' H' as' h => im.nx S' σ' H' as' (h.anchor zle), fun S' σ' H' as' h => im.bk S' σ' H' as' (h.anchor zle), fun S' σ' H' as' h => im.ct S' σ' H' as' (h.anchor zle),
      fun v d mu' H' h1 h2 h3 => im.rt v d mu' H' h1 h2 fun b o e => h3 b o (zle b o e), fun p vs ds mu' H' h0 h1 h2 h3 => im.rn p vs ds mu' H' h0 h1 h2 fun b o e => h3 b o (zle b o e)⟩
    have gk : ∀ {as' : List Addr} {S' : AS} {σ' : L2.St} {H' : Hp}, Ok K (off as H1) as0 as' fr S' σ' H' → G (off (as' ++ fr) H') := fun {as' S' σ' H'} h => F.stay _ _ hG fun b o e => by
      obtain ⟨e1, e2⟩ := off_of e
      obtain ⟨h1, h2⟩ := h.pres b o (by rw [off_at fun z => e2 (List.mem_append_left _ z)]; exact e1)
      rw [off_at fun z => ?_]
      · exact h2
      · rcases List.mem_append.mp z with z | z
        · exact h1 z
        · exact e2 (List.mem_append_right _ z)
    refine ⟨fun i m σ' H' => m = ds.length - i ∧ i ≤ ds.length ∧ ∃ S' as', Ok K (off as H1) as0 as' fr S' σ' H' ∧ st i S', ⟨ds.length, by simp, Nat.zero_le _, _, as, ok1.here, s0⟩, ?_⟩
    rintro i m σ' H' ⟨rfl, hi, S', as', ok', hs⟩
    by_cases hlt : i < ds.length
    · refine .inr ⟨F.go i _ H' (gk ok') hlt, fun σ2 H2 => i + 1 ≤ ds.length ∧ ∃ S' as', Ok K (off as H1) as0 as' fr S' σ2 H2 ∧ st (i + 1) S', fun σ2 H2 h => ⟨ds.length - (i + 1), by omega, rfl, h⟩, fun x H2 hy => ?_⟩
      obtain ⟨d, hd, e2, rx⟩ := F.yld i _ H' x H2 (gk ok') ok'.ex hlt hy
      refine sT i d S' hd hs _ as0 as' fr σ' H2 x (ok'.grow e2) rx _ fun S2 σ2 okS _ body => ?_
      refine body _ as0 as' fr σ2 H2 _ okS ⟨im.n0, fun S3 σ3 H3 as3 h k => ⟨hlt, S3, as3, h, k⟩, fun S3 σ3 H3 as3 h k => imZ.nx _ _ _ _ h k, fun S3 σ3 H3 as3 h k => ⟨hlt, S3, as3, h, k⟩, imZ.rt, imZ.rn⟩
    · have e : i = ds.length := by omega
      subst e
      obtain ⟨S3, l3, k3⟩ := sE _ hs
      exact .inl ⟨F.stop _ _ (gk ok'), imZ.nx _ _ _ _ (ok'.le l3) k3⟩
theorem sw_forL {wi : TI} {g : TG} {js : List Nat} {ds : List PyData} (st : Nat → AS → Prop) (hI : EI K wi S ds) (h0 : Up (st 0) S)
    (hs : ∀ i d S', ds[i]? = some d → st i S' → GW K g js d S' fun S2 => SW K t S2 { A with nx := Up (st (i + 1)), ct := Up (st (i + 1)), bk := A.nx }) (hd : ∀ S', st ds.length S' → A.nx S') : SW K (tFor wi g t) S A :=
  sw_forU (js := js) (hI.ew ⟨fun i => Up (st i), h0, fun i d S' hdi ⟨S3, l, s3⟩ => fun Z as0 as fr σ H x ok r Q q => hs i d S3 hdi s3 Z as0 as fr σ H x (ok.le l) r Q q, fun S' ⟨S3, l, h⟩ => ⟨S3, l, hd S3 h⟩⟩)
/-- what is walked is drawn on the way -/
theorem sw_forW {wi : TI} {g : TG} {js : List Nat} (hI : EIW K wi S fun ds mu1 => ∃ st : Nat → AS → Prop, Up (st 0) ⟨S.sl, mu1⟩ ∧
    (∀ i d S', ds[i]? = some d → st i S' → GW K g js d S' fun S2 => SW K t S2 { A with nx := Up (st (i + 1)), ct := Up (st (i + 1)), bk := A.nx }) ∧ ∀ S', st ds.length S' → A.nx S') : SW K (tFor wi g t) S A :=
  sw_forU (js := js) (hI.mono fun ds mu1 ⟨st, h0, hs, hd⟩ => ⟨fun i => Up (st i), h0, fun i d S' hdi ⟨S3, l, s3⟩ => fun Z as0 as fr σ H x ok r Q q => hs i d S3 hdi s3 Z as0 as fr σ H x (ok.le l) r Q q, fun S' ⟨S3, l, h⟩ => ⟨S3, l, hd S3 h⟩⟩)
end
section
variable {K : PySem.W.Frag} {S : AS} {t u : TS} {tt : TT} {A : AE}
/-- a way that is never taken -/
theorem sw_ifF {b : Bool} (h : TV K tt S b) (hb : b = false) (k : SW K u S A) : SW K (tIfS tt t u) S A := sw_ifE h (fun h2 => by rw [hb] at h2; cases h2) (fun _ => k)
theorem sw_ifT {b : Bool} (h : TV K tt S b) (hb : b = true) (k : SW K t S A) : SW K (tIfS tt t u) S A := sw_ifE h (fun _ => k) (fun h2 => by rw [hb] at h2; cases h2)
end
theorem iteB {b : Bool} {A B : Prop} (h1 : b = true → A) (h2 : b = false → B) : if b = true then A else B := by
  cases b with
  | true => rw [if_pos rfl]; exact h1 rfl
  | false => rw [if_neg Bool.false_ne_true]; exact h2 rfl
theorem eqv_self {d : PyData} (h : SeqAt.shaped d = true) : PyData.eqv d d = true := PySem.SeqAt.eqv_refl d (SeqAt.canLay_of_shaped h)
section
variable {P : Program} {w : World} {K : PySem.W.Frag} {mg : Str → Option Value} {base : Heap} {x qual : Str} {st : Stmt} {ps N : List Str} {k : Nat}
theorem def_P {R : List PyData → PyData → Prop} (D : Def K mg x qual st ps) (S : FnScope N ps (defScope st)) (hl : ∀ ds r, R ds r → ds.length = ps.length)
    (hb : ∀ (f : Addr) (cdv : Value) (A : Around) (outer : List Env) (s : Shared) (H : Hp) (E : XK), Room k (A.deeper (envOfC qual (defScope st) s.heap.objs.size f cdv)) →
      ∃ t, PSs (cxOf CX0 P w K mg base N qual (defScope st) f cdv A outer s H E).nox (defBody st) t ∧ ∀ ds r, R ds r → SW K t ⟨ini N (ds.map AV.d), []⟩ { n0 := 0, nx := fun _ => r = .none, rt := fun d _ => d = r }) : Has P w K mg base (k + 1) x ps (spP K R) := by
  obtain ⟨f, fd, F, m, b⟩ := D
  refine ⟨f, fd, F.ok S (fun vs H Q E h => spP_len hl h) (fun cdv A outer s H vs Q E hr h => ?_), m, F.kp, b⟩
  obtain ⟨t, h1, h2⟩ := hb f cdv A outer s H E hr
  exact ⟨t, h1, body_P h h2⟩
theorem def_N {R : List PyData → List PyData → Prop} (D : Def K mg x qual st ps) (S : FnScope N ps (defScope st)) (hl : ∀ ds r, R ds r → ds.length = ps.length)
    (hb : ∀ (f : Addr) (cdv : Value) (A : Around) (outer : List Env) (s : Shared) (H : Hp) (E : XK), Room k (A.deeper (envOfC qual (defScope st) s.heap.objs.size f cdv)) →
      ∃ t, PSs (cxOf CX0 P w K mg base N qual (defScope st) f cdv A outer s H E).nox (defBody st) t ∧ ∀ ds r, R ds r → SW K t ⟨ini N (ds.map AV.d), []⟩ { n0 := 0, nx := fun _ => False, rt := fun d _ => False, rn := fun ds' _ => ds' = r }) : Has P w K mg base (k + 1) x ps (spN K R) := by
  obtain ⟨f, fd, F, m, b⟩ := D
  refine ⟨f, fd, F.ok S (fun vs H Q E h => spN_len hl h) (fun cdv A outer s H vs Q E hr h => ?_), m, F.kp, b⟩
  obtain ⟨t, h1, h2⟩ := hb f cdv A outer s H E hr
  exact ⟨t, h1, body_N h h2⟩
theorem def_D {R : List AV → MO → (PyData → MO → Prop) → Prop} (D : Def K mg x qual st ps) (S : FnScope N ps (defScope st)) (hl : ∀ ds m r, R ds m r → ds.length = ps.length)
    (hb : ∀ (f : Addr) (cdv : Value) (A : Around) (outer : List Env) (s : Shared) (H : Hp) (E : XK), Room k (A.deeper (envOfC qual (defScope st) s.heap.objs.size f cdv)) →
      ∃ t, PSs (cxOf CX0 P w K mg base N qual (defScope st) f cdv A outer s H E).nox (defBody st) t ∧ ∀ avs m Post, R avs m Post → SW K t ⟨ini N avs, [m]⟩ { n0 := 1, nx := fun S' => ∃ m', S'.mu.take 1 = [m'] ∧ Post .none m', rt := fun d mu => ∃ m', mu = [m'] ∧ Post d m' }) : Has P w K mg base (k + 1) x ps (spD K R) := by
  obtain ⟨f, fd, F, m, b⟩ := D
  refine ⟨f, fd, F.ok S (fun vs H Q E h => spD_len hl h) (fun cdv A outer s H vs Q E hr h => ?_), m, F.kp, b⟩
  obtain ⟨t, h1, h2⟩ := hb f cdv A outer s H E hr
  exact ⟨t, h1, body_D h h2⟩
end
end D2
set_option Elab.async false
set_option linter.all false
set_option maxRecDepth 100000
set_option maxHeartbeats 4000000
/-! DL10: the law itself. -/
namespace D2
open PySem PySem.Spec PyProof.Rows L2
section
variable {P : Program} {w : World} {K : PySem.W.Frag} {mg : Str → Option Value} {base : Heap} {x qual : Str} {st : Stmt} {ps N : List Str} {k : Nat}
def R_law (ds : List PyData) (r : PyData) : Prop := ∃ ns : List Int, ns.length ≤ 63 ∧ ds = [.list (ns.map PyData.int)] ∧ r = .bool true
theorem ints_dp {H : Hp} : ∀ ns : List Int, DpAll K H (ns.map V.int) (ns.map PyData.int)
  | [] => .nil
  | n :: r => .cons (.int n) (ints_dp r)
theorem law_start {H : Hp} {a : Addr} {ns : List Int} {E : XK} (hl : ns.length ≤ 63) (hS : SqL K H a (ns.map V.int)) : spP K R_law [.ref a] H (fun v _ => v = .bl true) E := by
  have e : off [] H = H := by funext b; unfold off; simp
  refine ⟨[], [.list (ns.map PyData.int)], .bool true, List.nodup_nil, fun q hq => by simp at hq, .cons (.lst (xs := ns.map V.int) (by rw [e]; exact hS) (ints_dp ns)) .nil, ⟨ns, hl, rfl, rfl⟩, fun v H' _ h => by cases h; rfl⟩
theorem def_L {f : Addr} {fd : FuncData} {R : List PyData → PyData → Prop} (F : Fun K x qual st f fd) (S : FnScope N ps (defScope st)) (hl : ∀ ds r, R ds r → ds.length = ps.length)
    (hb : ∀ (f : Addr) (cdv : Value) (A : Around) (outer : List Env) (s : Shared) (H : Hp) (E : XK), Room k (A.deeper (envOfC qual (defScope st) s.heap.objs.size f cdv)) →
      ∃ t, PSs (cxOf CX0 P w K mg base N qual (defScope st) f cdv A outer s H E).nox (defBody st) t ∧ ∀ ds r, R ds r → SW K t ⟨ini N (ds.map AV.d), []⟩ { n0 := 0, nx := fun _ => r = .none, rt := fun d _ => d = r }) : FnOk P w K mg base CX0 (k + 1) f fd ps (spP K R) :=
  F.ok S (fun vs H Q E h => spP_len hl h) (fun cdv A outer s H vs Q E hr h => by
    obtain ⟨t, h1, h2⟩ := hb f cdv A outer s H E hr
    exact ⟨t, h1, body_P h h2⟩)
end
end D2
set_option Elab.async false
set_option linter.all false
set_option maxRecDepth 100000
set_option maxHeartbeats 4000000
/-! DL11: more by values. -/
namespace D2
open PySem PySem.Spec PyProof.Rows L2
section
variable {K : PySem.W.Frag} {mu : Mu} {S : AS}
theorem ru_neg {i : Int} : RU K mu (rU fun i => .int (-i)) (dI i) (dI (-i)) := fun as fr H v1 hk r1 Q k => by cases r1; exact ⟨i, rfl, k.int⟩
theorem ev_m1c {S : AS} : EV K (tUn (rU fun i => .int (-i)) (tC (.int 1))) S (dI (-1)) := ev_un ev_int ru_neg
theorem da_bools {H : Hp} : ∀ {vs : List V} {bs : List Bool}, DpAll K H vs (bs.map PyData.bool) → vs = bs.map V.bl
  | [], [], _ => rfl
  | [], _ :: _, h => by cases h
  | _ :: _, [], h => by cases h
  | v :: vs, b :: bs, h => by
    cases h with
    | cons a r =>
      cases a
      rw [da_bools r]; rfl
theorem rm_indexB {bs : List Bool} {a : Bool} {j : Nat} (h : bs[j]? = some a) (hn : ∀ m, m < j → bs[m]? ≠ some a) : RM K mu (rIndex K) (dL (bs.map PyData.bool)) [dB a] (dn j) := fun as fr H v vs hk r1 r2 Q k => by
  cases r2 with
  | cons r2 r3 =>
    cases r3
    cases r2
    cases r1 with
    | lst hs ha =>
      have e := da_bools ha
      subst e
      refine ⟨_, _, _, j, .bl a, rfl, rfl, sqL_ex off_le hs, rfl, ?_, by rw [List.getElem?_map, h]; rfl, by cases a <;> rfl, fun m z' hm hz => ?_, k.int⟩
      · rw [List.all_eq_true]; intro x hx; obtain ⟨y, _, e⟩ := List.mem_map.mp hx; subst e; rfl
      · rw [List.getElem?_map] at hz
        cases e : bs[m]? with
        | none => rw [e] at hz; cases hz
        | some b =>
          rw [e] at hz
          cases hz
          have : b ≠ a := fun z => hn m hm (by rw [e, z])
          cases a <;> cases b <;> first | rfl | exact absurd rfl this
theorem cutL_m1 {α : Type} (l : List α) : cutL l none (some (-1)) = l.dropLast := by
  unfold cutL
  have e0 : HT.sIx l.length 0 none = 0 := rfl
  have e1 : HT.sIx l.length l.length (some (-1)) = l.length - 1 := by
    show HT.sIx _ _ _ = _
    unfold HT.sIx
    simp
    omega
  rw [e0, e1, List.drop_zero, Nat.sub_zero, List.dropLast_eq_take]
theorem rsl_m1 {l : List Nat} (hl : l.length ≤ 1000000) : RSl K mu (rSlU K) (dS l) none (some (-1)) (dS l.dropLast) := by
  rw [← cutL_m1]; exact rsl_S hl
theorem rsl_TtoN {ds : List PyData} {n : Nat} : RSl K mu (rSlU K) (dT ds) none (some (n : Int)) (dT (ds.take n)) := by rw [← cutL_to]; exact rsl_T
theorem rsl_TfromN {ds : List PyData} {n : Nat} : RSl K mu (rSlU K) (dT ds) (some (n : Int)) none (dT (ds.drop n)) := by rw [← cutL_from]; exact rsl_T
theorem rsl_LtoN {ds : List PyData} {n : Nat} : RSl K mu (rSlU K) (dL ds) none (some (n : Int)) (dL (ds.take n)) := by rw [← cutL_to]; exact rsl_L
theorem rsl_LfromN {ds : List PyData} {n : Nat} : RSl K mu (rSlU K) (dL ds) (some (n : Int)) none (dL (ds.drop n)) := by rw [← cutL_from]; exact rsl_L
end
end D2
set_option Elab.async false
set_option linter.all false
set_option maxRecDepth 100000
set_option maxHeartbeats 4000000
/-! DL12: constants of the module; a list so many times; names by pairs. -/
namespace D2
open PySem PySem.Spec PyProof.Rows L2
section
variable {X : Cx}
theorem pe_gS {x z : Str} {pos : Pos} (hg : Gl X x) (hm : ∃ t, X.mg x = some (.str z t)) (hd : (x == ("__debug__" : Str)) = false := by decide) : PE X (.Name x pos) (tC (.str z)) := by
  obtain ⟨t, h⟩ := hm
  exact pe_glob hg h ⟨_, rfl⟩ hd
theorem pe_gI {x : Str} {i : Int} {pos : Pos} (hg : Gl X x) (hm : ∃ t, X.mg x = some (.int i t)) (hd : (x == ("__debug__" : Str)) = false := by decide) : PE X (.Name x pos) (tC (.int i)) := by
  obtain ⟨t, h⟩ := hm
  exact pe_glob hg h ⟨_, rfl⟩ hd
end
theorem da_flat {K : PySem.W.Frag} {H : Hp} {vs : List V} {ds : List PyData} (h : DpAll K H vs ds) : ∀ n, DpAll K H (List.replicate n vs).flatten (List.replicate n ds).flatten
  | 0 => .nil
  | n + 1 => by rw [List.replicate_succ, List.replicate_succ, List.flatten_cons, List.flatten_cons]; exact da_append h (da_flat h n)
section
variable {K : PySem.W.Frag} {S : AS} {ta tb : TE} {P : List PyData → Mu → Prop}
theorem del_le {p : Addr} {H : Hp} : Ex (del p H) H := fun b o e => by
  by_cases h : b = p
  · subst h; rw [del_same] at e; cases e
  · rw [del_ne h] at e; exact e
/-- a list so many times -/
theorem nw_rep (h : NW K ta S fun ds mu => EW K tb ⟨S.sl, mu⟩ fun a mu2 => ∃ n : Nat, a = dn n ∧ n ≤ 1000000 ∧ ds.length * n ≤ 1000000 ∧ P (List.replicate n ds).flatten mu2) : NW K (tOp rMulU ta tb) S P := fun Z as0 as fr σ H ok Q q =>
  h Z as0 as fr σ H ok _ fun p H1 vs ds mu1 hp g1 ok1 r1 pb => by
    have ok2 := ok1.laid (o := .lst vs) hp
    have hz := ok1.z_none hp
    have zle : ∀ b o, Z b = some o → upd Z p (.lst vs) b = some o := fun b o e => by
      rw [upd_ne (fun z => by subst z; rw [hz] at e; cases e)]; exact e
    refine pb (upd Z p (.lst vs)) as0 as (p :: fr) σ _ (ok2.pin upd_same) _ fun y H2 a mu2 g2 ok3 r2 ⟨n, e, hn, hl, hP⟩ => ?_
    subst e
    cases r2
    have h2p : H2 p = some (.lst vs) := (ok3.pres p _ upd_same).2
    have g2' : Gr as fr (del p (upd H1 p (.lst vs))) (del p H2) := by
      unfold Gr at g2 ⊢; rw [off_del, off_del] at g2; exact g2
    have e1 : Ex H1 (del p (upd H1 p (.lst vs))) := fun b o e => by
      have : b ≠ p := ne_of_none e hp
      rw [del_ne this, upd_ne this]; exact e
    have gA : Gr as fr H1 H2 := ((Gr.of e1).trans g2').trans (.of del_le)
    refine .inr ⟨p, _, vs, rfl, rfl, h2p, by omega, by omega, ?_, fun q2 hq => ?_⟩
    · rw [Int.toNat_natCast, da_length r1]; exact sz_of hl
    · rw [Int.toNat_natCast]
      exact q q2 H2 _ _ mu2 hq (g1.trans gA) (((ok3.anchor zle).aside hz).grow del_le) (da_flat (da_ex gA r1) n) hP
end
/-! text.find(text) -/
def Occ (l s : List Nat) (i : Nat) : Prop := i + s.length ≤ l.length ∧ (l.drop i).take s.length = s
theorem at_occ {l s : List Nat} {i : Nat} : StrLaws.At ⟨l.toArray⟩ ⟨s.toArray⟩ (⟨l.toArray⟩ : Str).length i ↔ Occ l s i := by
  unfold StrLaws.At Occ
  have e1 : (⟨l.toArray⟩ : Str).length = l.length := len_txt _
  have e2 : (⟨s.toArray⟩ : Str).length = s.length := len_txt _
  rw [e1, e2]
  have e3 : Builtin.Str.subAt ⟨l.toArray⟩ ⟨s.toArray⟩ i = decide ((l.drop i).take s.length = s) := by
    unfold Builtin.Str.subAt
    rw [e2]
    show (l.toArray.extract i (i + s.length) == s.toArray) = _
    rw [List.extract_toArray]
    have e4 : l.extract i (i + s.length) = (l.drop i).take s.length := by
      rw [List.extract_eq_take_drop]; congr 1; omega
    rw [e4]
    by_cases h : (l.drop i).take s.length = s
    · rw [h, decide_eq_true rfl]; simp
    · rw [decide_eq_false h]
      have : ¬ ((l.drop i).take s.length).toArray = s.toArray := fun z => h (by simpa using z)
      simpa using this
  rw [e3]
  simp
theorem find_occ (l s : List Nat) : (Txt.find ⟨l.toArray⟩ ⟨s.toArray⟩ = -1 ∧ ∀ i, ¬ Occ l s i) ∨ ∃ i : Nat, Txt.find ⟨l.toArray⟩ ⟨s.toArray⟩ = (i : Int) ∧ Occ l s i ∧ ∀ k, k < i → ¬ Occ l s k := by
  rcases find_whole ⟨l.toArray⟩ ⟨s.toArray⟩ with ⟨h1, h2⟩ | ⟨i, h1, h2, h3⟩
  · exact .inl ⟨h1, fun i h => h2 i (at_occ.mpr h)⟩
  · exact .inr ⟨i, h1, at_occ.mp h2, fun k hk h => h3 k hk (at_occ.mpr h)⟩
section
variable {K : PySem.W.Frag} {mu : Mu}
theorem rm_find {l s : List Nat} : RM K mu (fun x xs H Q => ∃ a b, x = .str a ∧ xs = [.str b] ∧ Q (.int (Txt.find a b)) H) (dS l) [dS s] (dI (Txt.find ⟨l.toArray⟩ ⟨s.toArray⟩)) := fun as fr H v vs hk r1 r2 Q k => by
  cases r2 with
  | cons r2 r3 =>
    cases r3
    cases r2
    cases r1
    exact ⟨_, _, rfl, rfl, k.int⟩
end
end D2
set_option Elab.async false
set_option linter.all false
set_option maxRecDepth 100000
set_option maxHeartbeats 4000000
/-! DLB: t[::-1] of a tuple, xs[::-1] of a list, by data. -/
namespace D2
open PySem PySem.Spec PyProof.Rows L2 HT
section
variable {prog : Program} {w : World} {A : Around} {E : Value → Shared → Prop} {s : Shared}
theorem places_rev (n : Nat) : Builtin.Slice.slicePlaces ((n : Int) - 1) (-1) (-1) = n := by
  unfold Builtin.Slice.slicePlaces
  have h1 : ¬ ((-1 : Int) > 0) := by omega
  simp only [h1, if_false]
  by_cases h : n = 0
  · subst h; rfl
  · have h2 : (n : Int) - 1 > -1 := by omega
    simp only [h2, if_true]
    have e : ((n : Int) - 1 - -1 - 1) / (- -1) + 1 = (n : Int) := by
      rw [show (- -1 : Int) = 1 by rfl, Int.ediv_one]; omega
    rw [e, Int.toNat_natCast]
theorem sliceApplied_rev {sl : Addr} {n : Nat} {t : Tok} {Q : Int × Int × Nat → Shared → Prop} (hs : s.heap.IsSliceOf sl .none .none (.int (-1) t))
    (h : Q ((n : Int) - 1, -1, n) s) : wpAny (model prog w) A (Builtin.Slice.sliceApplied (.ref sl) (pure (n : Int))) Q E s := by
  obtain ⟨os, hos, hcs, hds⟩ := id hs
  unfold Builtin.Slice.sliceApplied Builtin.Slice.sliceFields
  refine wpAny_bind (wpAny_bind (wpAny_field hos hds (x := .none) rfl (wpAny_bind (wpAny_field hos hds (x := .none) rfl (wpAny_bind (wpAny_field hos hds (x := .int (-1) t) rfl (wpAny_pure ?_)))))))
  refine wpAny_bind (slicePart_int ?_)
  show wpAny _ _ (if ((-1 : Int) == 0) = true then _ else _) _ _ s
  rw [if_neg (by decide)]
  refine wpAny_bind (slicePart_none (wpAny_bind (slicePart_none (wpAny_bind (wpAny_pure ?_)))))
  show wpAny _ _ (pure ((n : Int) - 1, (-1 : Int), Builtin.Slice.slicePlaces ((n : Int) - 1) (-1) (-1))) _ _ s
  rw [places_rev]
  exact wpAny_pure h
theorem pick_rev (xs : Array Value) : ((List.range xs.size).filterMap fun (k : Nat) => xs[((xs.size : Int) - 1 + (k : Int) * -1).toNat]?).toArray = xs.toList.reverse.toArray := by
  congr 1
  have h : ∀ k ∈ List.range xs.size, (fun (k : Nat) => xs[((xs.size : Int) - 1 + (k : Int) * -1).toNat]?) k = some (xs.toList.reverse.getD k default) := fun k hk => by
    have hk2 : k < xs.size := by simpa using hk
    show xs[((xs.size : Int) - 1 + (k : Int) * -1).toNat]? = _
    have e : ((xs.size : Int) - 1 + (k : Int) * -1).toNat = xs.size - 1 - k := by omega
    rw [e, Array.getElem?_eq_getElem (by omega), List.getD_eq_getElem?_getD, List.getElem?_reverse (by simpa using hk2), Array.getElem?_toList, Array.length_toList, Array.getElem?_eq_getElem (by omega)]
    rfl
  have hc : ∀ (f g : Nat → Option Value) (l : List Nat), (∀ k ∈ l, f k = g k) → l.filterMap f = l.filterMap g := fun f g l => by
    induction l with
    | nil => intro _; rfl
    | cons a r ih =>
      intro hh
      rw [List.filterMap_cons, List.filterMap_cons, hh a List.mem_cons_self, ih fun k hk => hh k (List.mem_cons_of_mem _ hk)]
  rw [hc _ _ _ h, List.filterMap_eq_map']
  apply List.ext_getElem?
  intro i
  by_cases hi : i < xs.size
  · rw [List.getElem?_map, List.getElem?_range hi]
    show some (xs.toList.reverse.getD i default) = _
    rw [List.getD_eq_getElem?_getD, List.getElem?_eq_getElem (by simpa using hi)]; rfl
  · rw [List.getElem?_eq_none (by simpa using hi), List.getElem?_eq_none (by simpa using hi)]
theorem getItem_tuple_rev {t sl : Addr} {items : Array Value} {tk : Tok} {Q : Value → Shared → Prop} (ht : IsTup s.heap t items) (hs : s.heap.IsSliceOf sl .none .none (.int (-1) tk))
    (h : Q (.ref s.heap.objs.size) { s with heap := s.heap.push { cls := .type "tuple", data := .seq items.toList.reverse.toArray } })
    (hsz : items.size ≤ sizeLine) : wpAny (model prog w) A (getItem (.ref t) (.ref sl)) Q E s := by
  have htake : sizeOk (.seq items.toList.reverse.toArray) := by
    show items.toList.reverse.toArray.size ≤ sizeLine
    rw [List.size_toArray, List.length_reverse, Array.length_toList]
    exact hsz
  obtain ⟨os, hos, hcs, hds⟩ := id hs
  have hTs : s.TypeIs (.ref sl) "slice" := ⟨os, hos, hcs⟩
  unfold getItem
  try with_reducible refine wpAny_holding ?_
  first | refine wpAny_bind (wpAny_pure ?_) | skip
  refine wpAny_bind (wpAny_sequenceKey ht.typeIs (by decide) ?_)
  refine wpAny_bind (wpAny_callSpecial?_slot (name := Str.ofString "__getitem__") ht.typeIs PyProof.Rows.slot_tuple_getitem
    (wpAny_call_entry PyProof.Rows.slot_tuple_getitem ht.typeIs entry_tuple_getitem ?_ (args_tuple_getitem _ _)))
  show wpAny _ _ (Builtin.Tuple.tupleItemsOf (.ref t) >>= _) _ _ s
  refine wpAny_bind (tupleItemsOf_ ht ?_)
  refine wpAny_bind (wpAny_typeOf hTs ?_)
  rw [if_pos (by decide)]
  refine wpAny_bind (sliceApplied_rev hs ?_)
  have hno : ¬ ((((items.size : Int) - 1) == 0 && (-1 : Int) == 1 && items.size == items.size) = true) := by
    intro q
    rw [Bool.and_eq_true, Bool.and_eq_true] at q
    exact absurd q.1.2 (by decide)
  show wpAny _ _ (if (((items.size : Int) - 1) == 0 && (-1 : Int) == 1 && items.size == items.size) = true then _ else _) _ _ s
  rw [if_neg hno, pick_rev]
  first
    | exact wpAny_bind (m := Builtin.Tuple.tupleExact _) (wpAny_newObj_type (wpAny_pure ⟨_, rfl, wpAny_pure h⟩) htake)
    | exact wpAny_bind (m := Builtin.Tuple.tupleExact _) (wpAny_newObj_type (wpAny_bind (wpAny_pure (wpAny_pure ⟨_, rfl, wpAny_pure h⟩))) htake)
    | exact wpAny_bind (wpAny_bind (m := Builtin.Tuple.tupleExact _) (wpAny_newObj_type (wpAny_pure (wpAny_pure ⟨_, rfl, wpAny_pure h⟩)) htake))
    | exact wpAny_bind (wpAny_bind (m := Builtin.Tuple.tupleExact _) (wpAny_newObj_type (wpAny_pure ⟨_, rfl, wpAny_pure h⟩) htake))
end
section
variable {X : Cx}
/-- t[::-1] of a tuple -/
def tRevT (K : PySem.W.Frag) (te : TE) : TE := fun σ H Q => te σ H fun x H1 => ∃ a xs, x = .ref a ∧ SqT K H1 a xs ∧ ∀ p, H1 p = none → Q (.ref p) (upd H1 p (.tup xs.reverse))
theorem pe_revT {e : Expr} {te : TE} {k : Nat} {p1 p2 p3 pos : Pos} (he : PE X e te) : PE X (.Subscript e (.Slice none none (some (.UnaryOp .USub (.Constant (.int 1) k p1) p2)) p3) pos) (tRevT X.K te) := by
  refine ⟨fun pins s σ H Q I h => ?_⟩
  refine Subscript_ (thn (he.run pins s σ H _ I h) fun v s1 ⟨x, H1, I1, r1, q1⟩ => ?_)
  obtain ⟨a, xs, ex, hx, q⟩ := q1
  subst ex
  cases r1
  have hst : PO X (some (.UnaryOp .USub (.Constant (.int 1) k p1) p2)) (tPart (tUn (rU fun i => .int (-i)) (tC (.int 1)))) := po_some (pe_un un_neg pe_int)
  refine wpAny_Slice (thn (po_none.run pins s1 σ H1 (fun o H2 => o = none ∧ H2 = H1) I1 ⟨rfl, rfl⟩) fun vl s2 ⟨l, H2, I2, pl, el, e2⟩ => ?_)
  subst el e2
  refine thn (po_none.run pins s2 σ H2 (fun o H3 => o = none ∧ H3 = H2) I2 ⟨rfl, rfl⟩) fun vu s3 ⟨u, H3, I3, pu, eu, e3⟩ => ?_
  subst eu e3
  refine thn (hst.run pins s3 σ H3 (fun o H4 => o = some (-1) ∧ H4 = H3) I3 ⟨1, rfl, -1, rfl, rfl, rfl⟩) fun vs s4 ⟨o, H4, I4, ps, eo, e4⟩ => ?_
  subst eo e4
  cases pl
  cases pu
  obtain ⟨tk, rfl⟩ : ∃ tk, vs = .int (-1) tk := by cases ps; exact ⟨_, rfl⟩
  have I5 : L2.Inv X pins σ H4 { s4 with heap := s4.heap.push { cls := .type "slice", data := .fields #[.none, .none, .int (-1) tk] } } := I4.kept (t' := s4.toks) fun b ob q => Heap.get?_push_of_some _ q
  obtain ⟨its, r, ht, hz⟩ := I5.tuple hx
  have hlen := r.length
  show wpAny (model X.prog X.w) X.A (subscriptTail e (.Slice none none (some (.UnaryOp .USub (.Constant (.int 1) k p1) p2)) p3) (.ref a) (.ref s4.heap.objs.size)) (EP X pins σ Q) X.xe { s4 with heap := s4.heap.push { cls := .type "slice", data := .fields #[.none, .none, .int (-1) tk] } }
  refine tail_any (ops := [.ref a, .ref s4.heap.objs.size]) ht.typeIs (PyProof.Rows.slot_tuple_getitem.lookup) ?_ (by with_unfolding_all rfl)
  refine getItem_tuple_rev ht (Heap.IsSliceOf.new _ .none .none (.int (-1) tk)) ?_ (by rw [List.size_toArray]; omega)
  refine ⟨.ref _, _, I5.laid (t' := s4.toks) (o := .tup xs.reverse) (fun b ob q => Heap.get?_push_of_some _ q) (Nat.le_refl _) ?_, rfl, q _ (I5.hok.fresh (Nat.le_refl _))⟩
  exact ⟨by rw [List.length_reverse]; exact hz, _, r.reverse, IsTup.new _ _⟩
theorem pe_revLK {K : PySem.W.Frag} (hK : X.K = K) {e : Expr} {te : TE} {k : Nat} {p1 p2 p3 pos : Pos} (he : PE X e te) : PE X (.Subscript e (.Slice none none (some (.UnaryOp .USub (.Constant (.int 1) k p1) p2)) p3) pos) (tRevL K te) := by subst hK; exact pe_revL he
theorem pe_revTK {K : PySem.W.Frag} (hK : X.K = K) {e : Expr} {te : TE} {k : Nat} {p1 p2 p3 pos : Pos} (he : PE X e te) : PE X (.Subscript e (.Slice none none (some (.UnaryOp .USub (.Constant (.int 1) k p1) p2)) p3) pos) (tRevT K te) := by subst hK; exact pe_revT he
end
theorem da_reverse {K : PySem.W.Frag} {H : Hp} : ∀ {vs : List V} {ds : List PyData}, DpAll K H vs ds → DpAll K H vs.reverse ds.reverse
  | _, _, .nil => .nil
  | _, _, .cons a aa => by rw [List.reverse_cons, List.reverse_cons]; exact da_append (da_reverse aa) (.cons a .nil)
section
variable {K : PySem.W.Frag} {S : AS} {te : TE} {P : AV → Mu → Prop}
theorem ew_revT (h : EW K te S fun a mu => ∃ ds, a = dT ds ∧ P (dT ds.reverse) mu) : EW K (tRevT K te) S P := fun Z as0 as fr σ H ok Q q =>
  h Z as0 as fr σ H ok _ fun v H1 a mu1 g ok1 r ⟨ds, e, p⟩ => by
    subst e
    cases r with
    | tup hs ha =>
      refine ⟨_, _, rfl, sqT_ex off_le hs, fun x hx => ?_⟩
      exact q _ _ _ mu1 (g.trans (.of (Ex.new hx))) (ok1.grow (Ex.new hx)) (rv_tup (sqT_of (ok1.hk.lay hx)) (da_ex (off_ex (Ex.new hx)) (da_reverse ha))) p
theorem ev_revT {ds : List PyData} (h : EV K te S (dT ds)) : EV K (tRevT K te) S (dT ds.reverse) := ew_revT (h.ew ⟨ds, rfl, rfl, rfl⟩)
theorem ew_revL (h : EW K te S fun a mu => (∃ ds, a = dL ds ∧ P (dL ds.reverse) mu) ∨ ∃ j ds, a = .o j ∧ mu[j]? = some (.l ds) ∧ P (dL ds.reverse) mu) : EW K (tRevL K te) S P := fun Z as0 as fr σ H ok Q q =>
  h Z as0 as fr σ H ok _ fun v H1 a mu1 g ok1 r hp => by
    rcases hp with ⟨ds, e, p⟩ | ⟨j, ds, e, hm, p⟩
    · subst e
      cases r with
      | lst hs ha =>
        refine ⟨_, _, rfl, sqL_ex off_le hs, fun x hx => ?_⟩
        exact q _ _ _ mu1 (g.trans (.of (Ex.new hx))) (ok1.grow (Ex.new hx)) (rv_lst (sqL_of (ok1.hk.lay hx)) (da_ex (off_ex (Ex.new hx)) (da_reverse ha))) p
    · subst e
      obtain ⟨pp, hp1, e1⟩ := r
      subst e1
      obtain ⟨vs, hv, ha⟩ := ok1.mu.2 j pp _ hp1 hm
      refine ⟨_, _, rfl, sqL_of hv, fun x hx => ?_⟩
      exact q _ _ _ mu1 (g.trans (.of (Ex.new hx))) (ok1.grow (Ex.new hx)) (rv_lst (sqL_of (ok1.hk.lay hx)) (da_ex (off_ex (Ex.new hx)) (da_reverse ha))) p
theorem ev_revL {ds : List PyData} (h : EV K te S (dL ds)) : EV K (tRevL K te) S (dL ds.reverse) := ew_revL (h.ew (.inl ⟨ds, rfl, rfl, rfl⟩))
theorem ev_revO {j : Nat} {ds : List PyData} (h : EV K te S (.o j)) (hm : S.mu[j]? = some (.l ds)) : EV K (tRevL K te) S (dL ds.reverse) := ew_revL (h.ew (.inr ⟨j, ds, rfl, hm, rfl, rfl⟩))
end
end D2
set_option Elab.async false
set_option linter.all false
set_option maxRecDepth 100000
set_option maxHeartbeats 4000000
/-! DLC: enumerate of a text and of a list. -/
namespace D2
open PySem PySem.Spec PyProof.Rows L2
/-- the signs of a text with their places, in new pairs -/
def Ites (x : Str) : It :=
  ⟨fun i _ => i < x.cps.size, fun i H v H' => ∃ T c, v = .ref T ∧ H T = none ∧ H' = upd H T (.tup [.int (i : Nat), .str ⟨#[c]⟩]) ∧ x.cps[i]? = some c, fun i _ => i = x.cps.size⟩
theorem turn_enumS {P : Program} {w : World} {K : PySem.W.Frag} {elts : List Expr} {kk : Nat} {tpos : Pos} (x : Str) (t : Tok) (ty : String) (hty : ty = "str_ascii_iterator" ∨ ty = "str_iterator") (e it : Addr) :
    Turn P w K (.Tuple elts kk tpos) (Ites x) [e, it] e (fun i h => (∃ old, IsEnum h e it ((i : Nat) : Int) old) ∧ h.IsStrIter it ty x t i ∧ e ≠ it) where
  mem := by simp
  obj := fun i h st b hb => by
    obtain ⟨⟨old, he⟩, ⟨o, ho, hc, hd⟩, _⟩ := st
    have e' : b = e ∨ b = it := by simpa using hb
    rcases e' with z | z
    · rw [z]; exact ⟨_, he, fun v q => nomatch q⟩
    · rw [z]; exact ⟨o, ho, fun v q => by rw [hd] at q; cases q⟩
  keep := fun i h h' st k => let ⟨⟨old, he⟩, ⟨o, ho, r⟩, hne⟩ := st; ⟨⟨old, k e (by simp) _ he⟩, ⟨o, k it (by simp) o ho, r⟩, hne⟩
  item := by
    intro X hP hw hK hc i pins s σ H E I hf st hg
    subst hP hw hK
    obtain ⟨⟨old, he⟩, hit, hne⟩ := st
    have hh : X.A.in1.handled = none := I.ok.hd hc
    have D : Draws X.prog X.w X.A.in1 it [it] x.cps.size (fun i v => ∃ c u, x.cps[i]? = some c ∧ v = .str ⟨#[c]⟩ u) (fun i h => h.IsStrIter it ty x t i) := by
      rcases hty with z | z
      · rw [z]; exact Draws.strAscii hh it x t
      · rw [z]; exact Draws.strWide hh it x t
    have hel : e < s.heap.objs.size := Heap.lt_size he
    have hil : it < s.heap.objs.size := by obtain ⟨_, q, _⟩ := hit; exact Heap.lt_size q
    refine wpAny_pyNext_enum_itemD D he hit hg hne (by simpa using hne) fun v h' tk hPx ho hit' hT hsz hk => ?_
    obtain ⟨c, u, hcx, rfl⟩ := hPx
    refine ⟨_, rfl, wpAny_letOwnedTupleGo_enum (s := { s with heap := h', toks := tk + 1 }) ho fun h'' he' sb => ?_⟩
    have hT2 : h''.get? s.heap.objs.size = some { cls := .type "tuple", data := .seq #[.int i tk, .str ⟨#[c]⟩ u] } := (sb.2 _ (Nat.ne_of_gt hel)).trans hT
    have new : ObjOk X.prog X.w (upd H s.heap.objs.size (.tup [.int (i : Nat), .str ⟨#[c]⟩])) h'' s.heap.objs.size (.tup [.int (i : Nat), .str ⟨#[c]⟩]) :=
      ⟨by show 2 ≤ sizeLine; decide, [.int i tk, .str ⟨#[c]⟩ u], .cons ⟨_, rfl⟩ (.cons ⟨_, rfl⟩ .nil), ⟨_, hT2, rfl, _, rfl⟩⟩
    have I1 : L2.Inv X pins σ (upd H s.heap.objs.size (.tup [.int (i : Nat), .str ⟨#[c]⟩])) { s with heap := h'', toks := tk + 1 } :=
      I.turnedNew (ch := [e, it]) (fun b ob hb q => (sb.2 b (fun z => hb (by simp [z]))).trans (hk b ob (fun z => hb (by simp [z])) (fun z => hb (by simp [z])) q)) hf (Nat.le_refl _) new
    refine ⟨.ref s.heap.objs.size, _, I1, rfl, ⟨_, c, rfl, I.hok.fresh (Nat.le_refl _), rfl, hcx⟩, ⟨⟨.str ⟨#[c]⟩ u, ?_⟩, ?_, hne⟩, fun b hb => ?_⟩
    · have e1 : ((i + 1 : Nat) : Int) = (i : Int) + 1 := by omega
      rw [e1]; exact he'
    · obtain ⟨o, h1, h2⟩ := hit'
      exact ⟨o, (sb.2 it (Ne.symm hne)).trans h1, h2⟩
    · have hb' : b < s.heap.objs.size := by
        have e' : b = e ∨ b = it := by simpa using hb
        rcases e' with z | z
        · rw [z]; exact hel
        · rw [z]; exact hil
      rw [upd_ne (Nat.ne_of_lt hb')]
      exact (hf b hb).1
  done := by
    intro X hP hw hK hc i pins s σ H E I hf st hg
    subst hP hw hK
    obtain ⟨⟨old, he⟩, hit, hne⟩ := st
    have hi : i = x.cps.size := hg
    subst hi
    have hh : X.A.in1.handled = none := I.ok.hd hc
    have D : Draws X.prog X.w X.A.in1 it [it] x.cps.size (fun i v => ∃ c u, x.cps[i]? = some c ∧ v = .str ⟨#[c]⟩ u) (fun i h => h.IsStrIter it ty x t i) := by
      rcases hty with z | z
      · rw [z]; exact Draws.strAscii hh it x t
      · rw [z]; exact Draws.strWide hh it x t
    obtain ⟨f0, f1, f2, f3, f4, f5⟩ := hf it (by simp)
    exact wpAny_pyNext_enum_endD D he hit fun h' eb => ⟨rfl, I.turned (t' := s.toks) (fun b o hb q => eb b o hb q) f0 f1 f3 f4 f5⟩
  self := fun A i s Q E st h => let ⟨⟨_, he⟩, _⟩ := st; wpAny_pyIter_enum he h
def iEnumS (ta : TA) : TI := fun σ H R => ta σ H fun vs H1 => ∃ x, vs = [.str x] ∧ R (Ites x) H1
theorem strIter_ty (x : Str) : strIterType x = "str_ascii_iterator" ∨ strIterType x = "str_iterator" := by
  unfold strIterType
  split
  · exact .inl rfl
  · exact .inr rfl
theorem pi_enumS {X : Cx} {e : Expr} {ta : TA} {p pos tpos : Pos} {elts : List Expr} {kk : Nat} (hg : Gl X "enumerate") (hm : X.mg "enumerate" = none) (ha : PA X [e] ta) (hs : starEach [e] X.env = [(false, eval e X.env)] := by rfl) :
    PI X (.Tuple elts kk tpos) (.Call (.Name "enumerate" p) [e] [] pos) (iEnumS ta) := by
  refine ⟨fun pins s σ H R I h => ?_⟩
  refine Call_ (ld_blt I hg hm boot_enumerate (PyProof.Rows.callWith_type1 (thn (ha.run pos pins s σ H _ I h) fun us s1 ⟨vs, H1, I1, r1, q1⟩ => ?_) hs rfl))
  obtain ⟨x, ex, q⟩ := q1
  subst ex
  cases r1 with
  | cons r rr =>
    cases rr
    obtain ⟨t, rfl⟩ := r
    refine call_enumerate_str fun h' he hit hsz hk => wpAny_pyIter_enum he ?_
    have I2 : L2.Inv X pins σ H1 { s1 with heap := h' } := I1.kept (t' := s1.toks) hk
    refine ⟨s1.heap.objs.size + 1, [s1.heap.objs.size + 1, s1.heap.objs.size], _, _, H1, rfl, I2, turn_enumS x t _ (strIter_ty x) (s1.heap.objs.size + 1) s1.heap.objs.size, ⟨⟨.none, he⟩, hit, Nat.succ_ne_self _⟩, fun b hb => ?_, q⟩
    have e' : b = s1.heap.objs.size + 1 ∨ b = s1.heap.objs.size := by simpa using hb
    have hle : s1.heap.objs.size ≤ b := by
      rcases e' with z | z
      · rw [z]; exact Nat.le_add_right _ _
      · rw [z]; exact Nat.le_refl _
    exact I1.fpOk hle (I1.hok.fresh hle)
theorem pi_enumK {X : Cx} {K : PySem.W.Frag} (hK : X.K = K) {e : Expr} {ta : TA} {p pos tpos : Pos} {elts : List Expr} {kk : Nat} (hg : Gl X "enumerate") (hm : X.mg "enumerate" = none) (ha : PA X [e] ta) (hs : starEach [e] X.env = [(false, eval e X.env)] := by rfl) :
    PI X (.Tuple elts kk tpos) (.Call (.Name "enumerate" p) [e] [] pos) (iEnum K ta) := by subst hK; exact pi_enum hg hm ha hs
section
variable {K : PySem.W.Frag} {S : AS}
theorem eiw_enumS {t : TA} {P : List PyData → Mu → Prop} (h : AW K t S fun avs mu => ∃ l : List Nat, avs = [dS l] ∧ P ((List.range l.length).map fun i => .tuple [pn i, pS [l.getD i 0]]) mu) : EIW K (iEnumS t) S P := fun Z as0 as fr σ H ok R q =>
  h Z as0 as fr σ H ok _ fun vs H1 avs mu1 g1 ok1 r1 ⟨l, e, p⟩ => by
    subst e
    cases r1 with
    | cons r1 r2 =>
      cases r2
      cases r1
      refine ⟨_, rfl, q (Ites ⟨l.toArray⟩) H1 _ (fun _ => True) mu1 g1 ok1 ⟨fun i M H _ hi => ?_, fun i M H x H' _ hex hi hy => ?_, fun M H _ => ?_, fun _ _ _ _ => trivial⟩ trivial p⟩
      · show i < l.toArray.size
        rw [List.length_map, List.length_range] at hi; simpa using hi
      · obtain ⟨T, c, e1, e2, e3, e4⟩ := hy
        subst e1; subst e3
        rw [List.length_map, List.length_range] at hi
        have hc : l[i]? = some c := by simpa using e4
        have hT : T ∉ M := fun z => by obtain ⟨o, ho⟩ := hex T z; rw [e2] at ho; cases ho
        refine ⟨.tuple [pn i, pS [l.getD i 0]], ?_, Ex.new e2, .tup (xs := [.int (i : Nat), .str ⟨#[c]⟩]) (sqT_of ?_) (.cons (.int _) (.cons ?_ .nil))⟩
        · rw [List.getElem?_map, List.getElem?_range hi]; rfl
        · rw [off_at hT, upd_same]
        · rw [List.getD_eq_getElem?_getD, hc]; exact .str _
      · show _ = l.toArray.size
        rw [List.length_map, List.length_range]; simp
theorem ei_enumS {t : TA} {l : List Nat} (h : AVs K t S [dS l]) : EI K (iEnumS t) S ((List.range l.length).map fun i => .tuple [pn i, pS [l.getD i 0]]) := eiw_enumS (h.ew ⟨l, rfl, rfl, rfl⟩)
theorem eiw_enum {t : TA} {P : List PyData → Mu → Prop} (h : AW K t S fun avs mu => ∃ ds, avs = [dL ds] ∧ P ((List.range ds.length).map fun i => .tuple [pn i, ds.getD i .none]) mu) : EIW K (iEnum K t) S P := fun Z as0 as fr σ H ok R q =>
  h Z as0 as fr σ H ok _ fun vs H1 avs mu1 g1 ok1 r1 ⟨ds, e, p⟩ => by
    subst e
    cases r1 with
    | cons r1 r2 =>
      cases r2
      cases r1 with
      | lst hs ha =>
        rename_i b xs
        refine ⟨b, xs, rfl, sqL_ex off_le hs, q (Ite K b) H1 _ (fun Hf => SqL K Hf b xs ∧ DpAll K Hf xs ds) mu1 g1 ok1 ⟨fun i M H hg hi => ?_, fun i M H x H' hg hex hi hy => ?_, fun M H hg => ?_, fun _ _ hg e => ⟨sqL_ex e hg.1, da_ex e hg.2⟩⟩ ⟨hs, ha⟩ p⟩
        · rw [List.length_map, List.length_range] at hi
          obtain ⟨v, hv, _⟩ := da_get hg.2 (List.getElem?_eq_getElem hi)
          exact ⟨xs, v, sqL_ex off_le hg.1, hv⟩
        · obtain ⟨T, v, e1, e2, e3, e4⟩ := hy
          subst e1; subst e3
          rw [List.length_map, List.length_range] at hi
          have hv := e4 xs (sqL_ex off_le hg.1)
          obtain ⟨d, hd, hr⟩ := da_getV hg.2 hv
          have hT : T ∉ M := fun z => by obtain ⟨o, ho⟩ := hex T z; rw [e2] at ho; cases ho
          refine ⟨.tuple [pn i, ds.getD i .none], ?_, Ex.new e2, .tup (xs := [.int (i : Nat), v]) (sqT_of ?_) (.cons (.int _) (.cons ?_ .nil))⟩
          · rw [List.getElem?_map, List.getElem?_range hi]; rfl
          · rw [off_at hT, upd_same]
          · rw [List.getD_eq_getElem?_getD, hd]; exact dp_ex (off_ex (Ex.new e2)) hr
        · rw [List.length_map, List.length_range]
          exact ⟨xs, sqL_ex off_le hg.1, by rw [da_length hg.2]; exact Nat.le_refl _⟩
theorem ei_enum {t : TA} {ds : List PyData} (h : AVs K t S [dL ds]) : EI K (iEnum K t) S ((List.range ds.length).map fun i => .tuple [pn i, ds.getD i .none]) := eiw_enum (h.ew ⟨ds, rfl, rfl, rfl⟩)
end
end D2
set_option Elab.async false
set_option linter.all false
set_option maxRecDepth 100000
set_option maxHeartbeats 4000000
/-! DLD: ranges as things of our own; a thing of our own that is forgotten. -/
namespace D2
open PySem PySem.Spec PyProof.Rows L2
section
variable {K : PySem.W.Frag} {S : AS} {t : TS} {A : AE}
def loseA (j : Nat) : Option AV → Option AV
  | some (.o k) => if k = j then none else if j < k then some (.o (k - 1)) else some (.o k)
  | x => x
theorem sw_lose {j : Nat} (hjm : j < S.mu.length) (hj : A.n0 ≤ j) (h : SW K t ⟨S.sl.map (loseA j), S.mu.eraseIdx j⟩ A) : SW K t S A := fun Z as0 as fr σ H D ok im => by
  refine h Z as0 (as.eraseIdx j) fr σ H D ?_ im
  have hjl : j < as.length := by rw [ok.mu.1]; exact hjm
  obtain ⟨p, hp⟩ : ∃ p, as[j]? = some p := ⟨_, List.getElem?_eq_getElem hjl⟩
  have sub : ∀ b ∈ as.eraseIdx j ++ fr, b ∈ as ++ fr := fun b hb => by
    rcases List.mem_append.mp hb with z | z
    · exact List.mem_append_left _ (List.mem_of_mem_eraseIdx z)
    · exact List.mem_append_right _ z
  have eo : Ex (off (as ++ fr) H) (off (as.eraseIdx j ++ fr) H) := off_mono sub
  have nd := List.nodup_append.mp ok.nd
  have pne : p ∉ as.eraseIdx j ++ fr := fun z => by
    rcases List.mem_append.mp z with z | z
    · obtain ⟨i, hne, hi⟩ := List.mem_eraseIdx_iff_getElem?.mp z
      obtain ⟨h1, e1⟩ := List.getElem?_eq_some_iff.mp hi
      obtain ⟨h2, e2⟩ := List.getElem?_eq_some_iff.mp hp
      exact hne ((List.getElem_inj nd.1).mp (e1.trans e2.symm))
    · exact nd.2.2 p (List.mem_of_getElem? hp) p z rfl
  have ge : ∀ (i : Nat), (as.eraseIdx j)[i]? = if i < j then as[i]? else as[i + 1]? := fun i => List.getElem?_eraseIdx
  refine ⟨by rw [List.length_map]; exact ok.len, fun i av e => ?_, ⟨?_, fun i q m hi hm' => ?_⟩, ?_, fun q hq => ok.ex q (sub q hq), ?_, fun b o e => ?_⟩
  · have e' : (S.sl.map (loseA j))[i]? = some (some av) := e
    rw [List.getElem?_map] at e'
    obtain ⟨x, hx, ex⟩ : ∃ x, S.sl[i]? = some x ∧ loseA j x = some av := by
      cases hs : S.sl[i]? with
      | none => rw [hs] at e'; cases e'
      | some x => rw [hs] at e'; exact ⟨x, rfl, Option.some.inj e'⟩
    cases x with
    | none => cases ex
    | some a =>
      obtain ⟨v, h1, h2⟩ := ok.sl i a hx
      cases a with
      | d x => cases ex; exact ⟨v, h1, h2.ex eo⟩
      | o k =>
        obtain ⟨q, hq, e2⟩ := h2
        subst e2
        refine ⟨.ref q, h1, ?_⟩
        unfold loseA at ex
        by_cases c : k = j
        · simp only [c, if_true] at ex
          cases ex
        · simp only [c, if_false] at ex
          by_cases c2 : j < k
          · simp only [c2, if_true] at ex
            cases ex
            refine ⟨q, ?_, rfl⟩
            rw [ge, if_neg (by omega)]
            rw [show k - 1 + 1 = k by omega]; exact hq
          · simp only [c2, if_false] at ex
            cases ex
            refine ⟨q, ?_, rfl⟩
            rw [ge, if_pos (by omega)]; exact hq
  · show (as.eraseIdx j).length = (S.mu.eraseIdx j).length
    rw [List.length_eraseIdx, List.length_eraseIdx, ok.mu.1]
  · have hm'' : (S.mu.eraseIdx j)[i]? = some m := hm'
    rw [List.getElem?_eraseIdx] at hm''
    rw [ge] at hi
    by_cases c : i < j
    · rw [if_pos c] at hi hm''
      exact (ok.mu.2 i q m hi hm'').ex eo rfl
    · rw [if_neg c] at hi hm''
      exact (ok.mu.2 (i + 1) q m hi hm'').ex eo rfl
  · refine List.nodup_append.mpr ⟨nd.1.sublist (List.eraseIdx_sublist _ _), nd.2.1, fun a ha b hb => nd.2.2 a (List.mem_of_mem_eraseIdx ha) b hb⟩
  · obtain ⟨more, e⟩ := ok.pre
    refine ⟨more.eraseIdx (j - as0.length), ?_⟩
    rw [e, List.eraseIdx_append_of_length_le (by rw [im.n0]; exact hj)]
  · obtain ⟨h1, h2⟩ := ok.pres b o e
    exact ⟨fun z => h1 (List.mem_of_mem_eraseIdx z), h2⟩
end
section
variable {X : Cx}
def rRngV : List V → Hp → VK → Prop := fun vs H Q => ∃ i j, vs = [V.int i, V.int j] ∧ ∀ p, H p = none → Q (.ref p) (upd H p (.rng i j))
theorem cr_rngV : CallR X (.type "range") rRngV := cr_range2
/-- a range as a value, walked -/
def iRngV (te : TE) : TI := fun σ H R => te σ H fun v H1 => ∃ a lo hi, v = .ref a ∧ H1 a = some (.rng lo hi) ∧ (-(2 ^ 62) ≤ lo ∧ lo < 2 ^ 62 ∧ -(2 ^ 62) ≤ hi ∧ hi < 2 ^ 62) ∧ R (Itr lo (hi - lo).toNat) H1
theorem pi_rngV {tg e : Expr} {te : TE} (he : PE X e te) : PI X tg e (iRngV te) := by
  refine ⟨fun pins s σ H R I h => ?_⟩
  refine thn (he.run pins s σ H _ I h) fun v s1 ⟨x, H1, I1, r1, q1⟩ => ?_
  obtain ⟨a, lo, hi, ex, hr, ⟨h1, h2, h3, h4⟩, q⟩ := q1
  subst ex
  cases r1
  obtain ⟨t, u, v, ho⟩ := I1.hok _ _ hr
  refine wpAny_pyIter_range (a := lo) (b := hi) (c := 1) (t := t) (u := u) (v := v) ho (small_one h1 h2 h3 h4) ?_
  refine ⟨s1.heap.objs.size, [s1.heap.objs.size], _, _, H1, rfl, I1.kept (t' := s1.toks) fun b o e => Heap.get?_push_of_some _ e, turn_range _ lo (hi - lo).toNat, ?_, fun b hb => ?_, q⟩
  · have e1 : lo + ((0 : Nat) : Int) * 1 = lo := by simp
    have e2 : (((hi - lo).toNat : Nat) : Int) - ((0 : Nat) : Int) = Builtin.Range.rangeSize lo hi 1 := by rw [rangeSize_one]; split <;> omega
    show IsRangeIter _ _ (lo + ((0 : Nat) : Int) * 1) ((((hi - lo).toNat : Nat) : Int) - ((0 : Nat) : Int)) 1
    rw [e1, e2]
    exact Heap.get?_push_size _ rfl
  · have e : b = s1.heap.objs.size := by simpa using hb
    subst e
    exact I1.fpOk (Nat.le_refl _) (I1.hok.fresh (Nat.le_refl _))
end
section
variable {K : PySem.W.Frag} {S : AS} {t : TS} {A : AE}
/-- x = range(i, j) -/
theorem sw_asgR {i : Nat} {ta : TA} (h : AW K ta S fun avs mu => ∃ lo hi, avs = [dI lo, dI hi] ∧ A.nx ⟨S.sl.set i (some (.o mu.length)), mu ++ [.r lo hi]⟩) : SW K (tAsg (tCB rRngV ta) (gName i)) S A := fun Z as0 as fr σ H D ok im =>
  h Z as0 as fr σ H ok _ fun vs H1 avs mu1 g ok1 r ⟨lo, hi, e, k⟩ => by
    subst e
    cases r with
    | cons r1 r => cases r with
      | cons r2 r =>
        cases r
        cases r1
        cases r2
        refine ⟨lo, hi, rfl, fun p hp => ?_⟩
        have ok2 := ok1.own (o := .rng lo hi) (m := .r lo hi) hp upd_same
        refine im.nx _ _ _ _ (ok2.store (i := i) (v := .ref p) (av := .o mu1.length) ⟨p, ?_, rfl⟩) k
        rw [← ok1.mu.1, List.getElem?_append_right (Nat.le_refl _), Nat.sub_self]; rfl
theorem ei_rngV {i j : Nat} {lo hi : Int} (hi0 : S.sl[i]? = some (some (.o j))) (hm : S.mu[j]? = some (.r lo hi)) (hb : -(2 ^ 62) ≤ lo ∧ lo < 2 ^ 62 ∧ -(2 ^ 62) ≤ hi ∧ hi < 2 ^ 62) :
    EI K (iRngV (tVar i)) S ((List.range (hi - lo).toNat).map fun (k : Nat) => PyData.int (lo + (k : Int))) := fun Z as0 as fr σ H ok R q => by
  obtain ⟨v, h1, p, hp, e⟩ := ok.sl i _ hi0
  subst e
  have hr : H p = some (.rng lo hi) := ok.mu.2 j p _ hp hm
  refine ⟨.ref p, h1, p, lo, hi, rfl, hr, hb, q (Itr lo (hi - lo).toNat) H _ (fun _ => True) S.mu Gr.refl ok ⟨fun i M H _ hi => ?_, fun i M H x H' _ _ hi hy => ?_, fun M H _ => ?_, fun _ _ _ _ => trivial⟩ trivial ⟨rfl, rfl⟩⟩
  · rw [List.length_map, List.length_range] at hi; exact hi
  · obtain ⟨e1, e2⟩ := hy
    subst e1; subst e2
    refine ⟨.int (lo + (i : Nat)), ?_, Ex.refl _, .int _⟩
    rw [List.length_map, List.length_range] at hi
    rw [List.getElem?_map, List.getElem?_range hi]; rfl
  · show (hi - lo).toNat ≤ _
    rw [List.length_map, List.length_range]; exact Nat.le_refl _
theorem ei_rngVN {i j a b : Nat} (hi0 : S.sl[i]? = some (some (.o j))) (hm : S.mu[j]? = some (.r (a : Int) (b : Int))) (ha : a ≤ 1000000) (hb : b ≤ 1000000) :
    EI K (iRngV (tVar i)) S ((List.range (b - a)).map fun k => pn (a + k)) := by
  have := ei_rngV (K := K) (S := S) hi0 hm (by omega)
  have e : ((b : Int) - a).toNat = b - a := by omega
  rw [e] at this
  have e2 : (fun (k : Nat) => PyData.int ((a : Int) + (k : Int))) = fun k => pn (a + k) := by
    funext k; show PyData.int _ = PyData.int _; rw [Int.natCast_add]
  rw [e2] at this; exact this
end
end D2
set_option linter.all false
set_option maxRecDepth 100000
set_option maxHeartbeats 4000000
/-! text.index(sign), list.index(any data), max of three -/
namespace D2
open PySem PySem.Spec PyProof.Rows L2
theorem u65 {k : Nat} {A : Around} (r : Room k A) : A.units + 65 < cLine := by have := r.un; omega
def rSIdx : V → List V → Hp → VK → Prop := fun x xs H Q => ∃ a b i rest, x = .str a ∧ xs = [.str b] ∧ Builtin.Str.occurrences a b 0 a.length 1 = i :: rest ∧ Q (.int (i : Nat)) H
theorem mt_sidx {X : Cx} : MtR X "str.index" rSIdx := mt_sindex
theorem mt_idxD {X : Cx} {K : PySem.W.Frag} (hK : X.K = K) (hu : X.A.units + 65 < cLine) : MtR X "list.index" (rIndexD K) := by subst hK; exact mt_indexD hu
theorem call_max3U {X : Cx} (hc : X.calm = true) : CallR X (.builtin "max") (rNuC3 nuMax3) := call_max3Nu hc
section
variable {K : PySem.W.Frag} {mu : Mu}
theorem occ_one {l : List Nat} {c i : Nat} : Occ l [c] i ↔ l[i]? = some c := by
  unfold Occ
  constructor
  · rintro ⟨h1, h2⟩
    have h1 : i + 1 ≤ l.length := h1
    have h2 : (l.drop i).take 1 = [c] := h2
    have := congrArg (fun z => z[0]?) h2
    have e : ((l.drop i).take 1)[0]? = some c := this
    rw [List.getElem?_take_of_lt (by omega), List.getElem?_drop] at e
    exact e
  · intro h
    have hi := (List.getElem?_eq_some_iff.mp h).1
    refine ⟨hi, ?_⟩
    show (l.drop i).take 1 = [c]
    rw [List.drop_eq_getElem_cons hi, (List.getElem?_eq_some_iff.mp h).2]; rfl
theorem rm_sidx {l : List Nat} {c j : Nat} (h : l[j]? = some c) (hn : ∀ m, m < j → l[m]? ≠ some c) : RM K mu rSIdx (dS l) [dS [c]] (dn j) := fun as fr H v vs hk r1 r2 Q k => by
  cases r2 with
  | cons r2 r3 =>
    cases r3
    cases r2
    cases r1
    rcases StrLaws.occ_head ⟨l.toArray⟩ ⟨[c].toArray⟩ 1 (Nat.le_refl _) with ⟨_, h2⟩ | ⟨i, r, h1, h2, h3⟩
    · exact absurd (at_occ.mpr (occ_one.mpr h)) (h2 j)
    · have e : i = j := by
        have g := occ_one.mp (at_occ.mp h2)
        rcases Nat.lt_trichotomy i j with z | z | z
        · exact absurd g (hn i z)
        · exact z
        · exact absurd (at_occ.mpr (occ_one.mpr h)) (h3 j z)
      subst e
      exact ⟨_, _, i, r, rfl, rfl, h1, k.int⟩
theorem rm_idxX {ds : List PyData} {d z : PyData} {j : Nat} (s1 : SeqAt.shaped (.list ds) = true) (s2 : SeqAt.shaped d = true) (h : ds[j]? = some z) (he : PyData.eqv z d = true) (hn : ∀ m z', m < j → ds[m]? = some z' → PyData.eqv z' d = false) : RM K mu (rIndexD K) (dL ds) [.d d] (dn j) := fun as fr H v vs hk r1 r2 Q k => by
  cases r2 with
  | cons r2 r3 =>
    cases r3
    have q1 := dp_ex off_le r1
    have q2 := dp_ex off_le r2
    cases r1 with
    | lst hs ha => exact ⟨_, _, d, ds, j, z, rfl, rfl, q1, q2, s1, s2, h, he, hn, k.int⟩
theorem nuMax2N {a b : Nat} : nuMax2 (.int (a : Int)) (.int (b : Int)) = some (.int ((max a b : Nat) : Int)) := by
  show some (if decide ((a : Int) < (b : Int)) = true then V.int (b : Int) else V.int (a : Int)) = _
  by_cases h : a < b
  · rw [if_pos (decide_eq_true (by omega)), Nat.max_eq_right (by omega)]
  · rw [if_neg (fun z => by have := of_decide_eq_true z; omega), Nat.max_eq_left (by omega)]
theorem ra_max3N {a b c : Nat} : RA K mu (rNuC3 nuMax3) [dn a, dn b, dn c] (dn (max (max a b) c)) := fun as fr H vs hk r Q k => by
  cases r with
  | cons r1 r =>
    cases r with
    | cons r2 r =>
      cases r with
      | cons r3 r =>
        cases r
        cases r1; cases r2; cases r3
        refine ⟨_, _, _, .int ((max (max a b) c : Nat) : Int), rfl, ?_, k.int⟩
        unfold nuMax3
        rw [nuMax2N]
        exact nuMax2N
end
theorem pe_bmC {X : Cx} {K : PySem.W.Frag} (hK : X.K = K) {e : Expr} {te : TE} {T : String} {r : V → List V → Hp → VK → Prop} {t : TA} (h : PE X e (tBM X.K T r te t)) : PE X e (tBM K T r te t) := by subst hK; exact h
theorem inV_nats {a : Nat} : ∀ ns : List Nat, inV (.int (a : Int)) (ns.map fun n : Nat => V.int (n : Int)) = decide (a ∈ ns)
  | [] => rfl
  | b :: r => by
    have ih := inV_nats (a := a) r
    unfold inV at ih ⊢
    rw [List.map_cons, List.any_cons, ih]
    have e : eqV (.int (b : Int)) (.int (a : Int)) = decide (b = a) := by
      by_cases h : b = a
      · subst h; simp [eqV]
      · have h2 : ¬ (b : Int) = (a : Int) := by omega
        simp [eqV, h, h2]
    rw [e]
    by_cases h : b = a
    · subst h; simp
    · simp [h, Ne.symm h]
theorem rb_ninON {K : PySem.W.Frag} {mu : Mu} {j a : Nat} {ns : List Nat} (hm : mu[j]? = some (.l (ns.map pn))) : RB K mu (rNotInU K) (dn a) (.o j) (dB (!decide (a ∈ ns))) := fun as fr H v1 v2 hk r1 r2 Q k => by
  cases r1
  obtain ⟨p, hp, e⟩ := r2
  subst e
  obtain ⟨vs, hv, ha⟩ := hk.mu.2 j p _ hp hm
  have e1 : ns.map pn = (ns.map Int.ofNat).map PyData.int := by rw [List.map_map]; rfl
  rw [e1] at ha
  have e2 := da_ints ha
  rw [List.map_map] at e2
  subst e2
  refine .inr (.inl ⟨_, _, rfl, .inl (sqL_of hv), rfl, ?_, ?_⟩)
  · rw [List.all_eq_true]; intro x hx; obtain ⟨y, _, e⟩ := List.mem_map.mp hx; subst e; rfl
  · rw [if_pos rfl]
    have := inV_nats (a := a) ns
    have e3 : inV (.int (a : Int)) (ns.map (V.int ∘ Int.ofNat)) = decide (a ∈ ns) := this
    rw [e3]; exact k.bl
/-! lists of whole numbers as data: order, equality, the greatest, the place -/
open PySem.W (dataLt alike alikeAll AlikeAll minD maxD)
def lN (a : List Nat) : PyData := .list (a.map pn)
theorem lN_alikeAll : ∀ a b : List Nat, alikeAll (a.map pn) (b.map pn) = true
  | [], _ => by rw [List.map_nil, alikeAll]
  | _ :: _, [] => by rw [List.map_nil, List.map_cons, alikeAll]
  | a :: r, b :: s => by rw [List.map_cons, List.map_cons, alikeAll, lN_alikeAll r s]; rfl
theorem lN_alike (a b : List Nat) : alike (lN a) (lN b) = true := by unfold lN; rw [alike]; exact lN_alikeAll a b
theorem lN_depthAll : ∀ a : List Nat, PyData.depthAll (a.map pn) = 0
  | [] => by simp [PyData.depthAll]
  | x :: r => by rw [List.map_cons, PyData.depthAll, lN_depthAll r]; rfl
theorem lN_depth (a : List Nat) : (lN a).depth = 1 := by unfold lN; rw [PyData.depth, lN_depthAll]
theorem lN_layAll : ∀ a : List Nat, PyData.canLayAll0 (a.map pn) = true
  | [] => rfl
  | _ :: r => by rw [List.map_cons, PyData.canLayAll0, lN_layAll r]; rfl
theorem lN_lay (a : List Nat) : (lN a).canLay0 = true := by unfold lN; rw [PyData.canLay0]; exact lN_layAll a
theorem lN_shaped (a : List Nat) : SeqAt.shaped (lN a) = true := by
  unfold SeqAt.shaped
  rw [lN_lay, lN_depth]; rfl
theorem lNs_layAll : ∀ L : List (List Nat), PyData.canLayAll0 (L.map lN) = true
  | [] => rfl
  | a :: r => by rw [List.map_cons, PyData.canLayAll0, lNs_layAll r, lN_lay]; rfl
theorem lNs_depthAll : ∀ L : List (List Nat), PyData.depthAll (L.map lN) ≤ 1
  | [] => by simp [PyData.depthAll]
  | a :: r => by
    rw [List.map_cons, PyData.depthAll, lN_depth]
    have := lNs_depthAll r
    omega
theorem lNs_shaped (L : List (List Nat)) : SeqAt.shaped (.list (L.map lN)) = true := by
  unfold SeqAt.shaped
  rw [PyData.canLay0, lNs_layAll, PyData.depth]
  have := lNs_depthAll L
  exact decide_eq_true (by omega)
theorem lN_eqvAll : ∀ a b : List Nat, PyData.eqvAll (a.map pn) (b.map pn) = decide (a = b)
  | [], [] => by simp [PyData.eqvAll]
  | [], _ :: _ => by simp [PyData.eqvAll]
  | _ :: _, [] => by simp [PyData.eqvAll]
  | a :: r, b :: s => by
    have e : PyData.eqv (pn a) (pn b) = decide (a = b) := by
      show PyData.eqv (.int (a : Int)) (.int (b : Int)) = _
      by_cases h : a = b
      · simp [PyData.eqv, h]
      · have h2 : ¬ (a : Int) = (b : Int) := by omega
        simp [PyData.eqv, h, h2]
    rw [List.map_cons, List.map_cons, PyData.eqvAll, lN_eqvAll r s, e]
    by_cases h : a = b <;> by_cases h' : r = s <;> simp [h, h']
theorem lN_eqv (a b : List Nat) : PyData.eqv (lN a) (lN b) = decide (a = b) := by unfold lN; rw [PyData.eqv]; exact lN_eqvAll a b
theorem lN_lexAll : ∀ a b : List Nat, PyProof.Rows.lexLt PyProof.Rows.itemOrd (PySem.W.keyToksAll (a.map pn)) (PySem.W.keyToksAll (b.map pn)) = decide (a < b)
  | [], [] => by simp [PySem.W.keyToksAll, PyProof.Rows.lexLt, PyProof.Rows.itemLt]
  | [], b :: s => by simp [PySem.W.keyToksAll, PyProof.Rows.lexLt, PyProof.Rows.itemLt]
  | a :: r, [] => by simp [PySem.W.keyToksAll, PyProof.Rows.lexLt, PyProof.Rows.itemLt]
  | a :: r, b :: s => by
    rw [List.map_cons, List.map_cons]
    by_cases h : a = b
    · subst h
      rw [PySem.W.dataLt_all_yes rfl (by show PyData.eqv (.int (a : Int)) (.int (a : Int)) = true; simp [PyData.eqv]), lN_lexAll r s]
      simp
    · rw [PySem.W.dataLt_all_no rfl (by show PyData.eqv (.int (a : Int)) (.int (b : Int)) = false; simp [PyData.eqv]; omega)]
      show dataLt (.int (a : Int)) (.int (b : Int)) = _
      rw [PySem.W.dataLt_int]
      simp [h, List.cons_lt_cons_iff]
theorem lN_lt (a b : List Nat) : dataLt (lN a) (lN b) = decide (a < b) := by unfold lN; rw [PySem.W.dataLt_list]; exact lN_lexAll a b
theorem maxD_lN : ∀ (L : List (List Nat)) (a : List Nat), maxD (lN a) (L.map lN) = lN (L.foldl (fun a y => if a < y then y else a) a)
  | [], a => rfl
  | b :: r, a => by
    have ih := maxD_lN r (if a < b then b else a)
    unfold maxD at ih ⊢
    rw [List.map_cons, List.foldl_cons, List.foldl_cons, ← ih, lN_lt]
    congr 1
    by_cases h : a < b <;> simp [h]
theorem foldM : ∀ (L : List (List Nat)) (a : List Nat), L.foldl (fun a y => if a < y then y else a) a ∈ a :: L ∧ ∀ y, y ∈ a :: L → ¬ L.foldl (fun a y => if a < y then y else a) a < y
  | [], a => ⟨List.mem_cons_self, fun y hy => by rw [List.mem_singleton.mp hy]; exact List.lt_irrefl _⟩
  | b :: r, a => by
    rw [List.foldl_cons]
    obtain ⟨h1, h2⟩ := foldM r (if a < b then b else a)
    have h3 := h2 _ List.mem_cons_self
    generalize r.foldl (fun a y => if a < y then y else a) (if a < b then b else a) = m at h1 h2 h3
    constructor
    · rcases List.mem_cons.mp h1 with e | e
      · rw [e]
        split
        · exact List.mem_cons_of_mem _ List.mem_cons_self
        · exact List.mem_cons_self
      · exact List.mem_cons_of_mem _ (List.mem_cons_of_mem _ e)
    · intro y hy z
      rcases List.mem_cons.mp hy with e | e
      · subst e
        by_cases c : y < b
        · rw [if_pos c] at h3; exact h3 (List.lt_trans z c)
        · rw [if_neg c] at h3; exact h3 z
      · rcases List.mem_cons.mp e with e | e
        · subst e
          by_cases c : a < y
          · rw [if_pos c] at h3; exact h3 z
          · rw [if_neg c] at h3
            by_cases c2 : a = y
            · subst c2; exact h3 z
            · have : y < a := by
                apply Classical.byContradiction
                intro q
                exact c2 (List.le_antisymm (List.not_lt.mp q) (List.not_lt.mp c))
              exact h3 (List.lt_trans z this)
        · exact h2 y (List.mem_cons_of_mem _ e) z
section
variable {K : PySem.W.Frag} {mu : Mu}
theorem rb_gtLL {a b : List Nat} : RB K mu (rGtU K) (.d (lN a)) (.d (lN b)) (dB (decide (b < a))) := by
  rw [← lN_lt]
  exact rb_gtX (lN_alike a b) (fun z => by cases z) (by rw [lN_depth]; omega)
theorem ra_maxLL {L : List (List Nat)} {m : List Nat} (hm : m ∈ L) (hx : ∀ y, y ∈ L → ¬ m < y) : RA K mu (rMaxU K) [dL (L.map lN)] (.d (lN m)) := by
  cases L with
  | nil => simp at hm
  | cons a r =>
    have e : m = r.foldl (fun a y => if a < y then y else a) a := by
      obtain ⟨h1, h2⟩ := foldM r a
      exact List.le_antisymm (List.not_lt.mp (h2 m hm)) (List.not_lt.mp (hx _ h1))
    rw [e, ← maxD_lN, List.map_cons]
    refine ra_maxX ⟨fun x hx y hy => ?_, fun x hx => ?_⟩ ?_
    · rw [← List.map_cons] at hx hy
      obtain ⟨x, _, rfl⟩ := List.mem_map.mp hx
      obtain ⟨y, _, rfl⟩ := List.mem_map.mp hy
      exact lN_alike x y
    · rw [← List.map_cons] at hx
      obtain ⟨x, _, rfl⟩ := List.mem_map.mp hx
      exact fun z => by cases z
    · rw [← List.map_cons]
      have := lNs_depthAll (a :: r)
      omega
theorem rm_idxLL {L : List (List Nat)} {a : List Nat} {j : Nat} (h : L[j]? = some a) (hn : ∀ m, m < j → L[m]? ≠ some a) : RM K mu (rIndexD K) (dL (L.map lN)) [.d (lN a)] (dn j) := by
  refine rm_idxX (z := lN a) (lNs_shaped L) (lN_shaped a) (by rw [List.getElem?_map, h]; rfl) (by rw [lN_eqv, decide_eq_true rfl]) fun m z' hm hz => ?_
  rw [List.getElem?_map] at hz
  cases e : L[m]? with
  | none => rw [e] at hz; cases hz
  | some b =>
    rw [e] at hz
    cases hz
    rw [lN_eqv]
    exact decide_eq_false fun q => hn m hm (by rw [e, q])
end
end D2
set_option Elab.async false
set_option linter.all false
set_option maxRecDepth 100000
set_option maxHeartbeats 4000000
/-! DLF: enumerate of a tuple; a dict display of one pair. -/
namespace PySem
open Sem (wp)
set_option maxHeartbeats 4000000 in
theorem meets_enumerate_newT2 (l : Addr) (items : Array Value) :
    Meets (Builtin.«enumerate.__new__» ⟨[.type "enumerate", .ref l], []⟩) (fun _ R s => s.heap.IsTuple l items ∧
      R (.ok (.ret (.ref (s.heap.push { cls := .type "tuple_iterator", data := .fields #[.ref l, .int 0 0] }).objs.size)))
        { s with heap := (s.heap.push { cls := .type "tuple_iterator", data := .fields #[.ref l, .int 0 0] }).push { cls := .type "enumerate", data := .fields #[.none, .bool false, .ref s.heap.objs.size, rawInt 0, .none, .none] } }) :=
  .of_wp fun prog w A R s h => by
    obtain ⟨hp, g, d, tk, os⟩ := s; obtain ⟨hL, h⟩ := h
    have hsub := sub_enumerate
    have q1 : ∀ {A' : Around} {E : Value → Shared → Prop} {Q : Value → Shared → Prop}, Q (.ref hp.objs.size) ⟨hp.push { cls := .type "tuple_iterator", data := .fields #[.ref l, .int 0 0] }, g, d, tk, os⟩ → wpAny (model prog w) A' (pyIter (.ref l)) Q E ⟨hp, g, d, tk, os⟩ :=
      fun q => wpAny_pyIter_tuple (s := ⟨hp, g, d, tk, os⟩) hL q
    wp_walk using q1
    refine wpAny_stack_any fun st => wpAny_pure ?_
    split
    · rename_i c _ _ _ _ _
      cases (c == Value.type "enumerate")
      · wp_walk using q1
        exact ⟨_, rfl, h⟩
      · wp_walk using q1
        exact ⟨_, rfl, h⟩
    · wp_walk using q1
      exact ⟨_, rfl, h⟩
section
variable {prog : Program} {w : World} {A : Around} {E : Value → Shared → Prop} {s : Shared}
theorem call_enumerate_tup2 {l : Addr} {items : Array Value} {Q : Value → Shared → Prop} (hL : s.heap.IsTuple l items)
    (h : ∀ h', IsEnum h' (s.heap.objs.size + 1) s.heap.objs.size 0 .none → h'.IsTupleIter s.heap.objs.size l 0 → h'.objs.size = s.heap.objs.size + 2 →
      (∀ b o, s.heap.get? b = some o → h'.get? b = some o) → Q (.ref (s.heap.objs.size + 1)) { s with heap := h' }) :
    wpAny (model prog w) A (call (.type "enumerate") [.ref l]) Q E s := by
  refine callType_new F.called_enumerate (by decide) (F.typeCall_enumerate_1 _) (F.newCall_enumerate_1 _) (fun obj => F.args_object_init_2 obj _) F.entry_enumerate_new
    (meets_enumerate_newT2 l items) ⟨hL, ?_⟩
  have hz : (s.heap.push { cls := .type "tuple_iterator", data := .fields #[.ref l, .int 0 0] }).objs.size = s.heap.objs.size + 1 := Heap.size_push ..
  show _ ∧ _
  rw [hz]
  have he : IsEnum ((s.heap.push { cls := .type "tuple_iterator", data := .fields #[.ref l, .int 0 0] }).push
      { cls := .type "enumerate", data := .fields #[.none, .bool false, .ref s.heap.objs.size, rawInt 0, .none, .none] }) (s.heap.objs.size + 1) s.heap.objs.size 0 .none := by
    have := Heap.get?_push_size (s.heap.push { cls := .type "tuple_iterator", data := .fields #[.ref l, .int 0 0] })
      (o := { cls := .type "enumerate", data := .fields #[.none, .bool false, .ref s.heap.objs.size, rawInt 0, .none, .none] }) rfl
    rw [hz] at this; exact this
  refine ⟨⟨_, he, rfl⟩, h _ he ⟨_, Heap.get?_push_of_some _ (Heap.get?_push_size _ rfl), rfl, rfl⟩ (by rw [Heap.size_push, hz]) fun b o y => Heap.get?_push_of_some _ (Heap.get?_push_of_some _ y)⟩
end
end PySem
namespace D2
open PySem PySem.Spec PyProof.Rows L2
/-- the items of a tuple with their places, in new pairs -/
def IteT (K : PySem.W.Frag) (a : Addr) : It :=
  ⟨fun i H => ∃ (xs : List V) (x : V), SqT K H a xs ∧ xs[i]? = some x, fun i H v H' => ∃ T x, v = .ref T ∧ H T = none ∧ H' = upd H T (.tup [.int (i : Nat), x]) ∧ ∀ xs, SqT K H a xs → xs[i]? = some x, fun i H => ∃ xs : List V, SqT K H a xs ∧ xs.length = i⟩
theorem turn_enumT {P : Program} {w : World} {K : PySem.W.Frag} {elts : List Expr} {kk : Nat} {tpos : Pos} (a e it : Addr) :
    Turn P w K (.Tuple elts kk tpos) (IteT K a) [e, it] e (fun i h => (∃ old, IsEnum h e it ((i : Nat) : Int) old) ∧ h.IsTupleIter it a i ∧ e ≠ it) where
  mem := by simp
  obj := fun i h st b hb => by
    obtain ⟨⟨old, he⟩, ⟨o, ho, hc, hd⟩, _⟩ := st
    have e' : b = e ∨ b = it := by simpa using hb
    rcases e' with z | z
    · rw [z]; exact ⟨_, he, fun v q => nomatch q⟩
    · rw [z]; exact ⟨o, ho, fun v q => by rw [hd] at q; cases q⟩
  keep := fun i h h' st k => let ⟨⟨old, he⟩, ⟨o, ho, r⟩, hne⟩ := st; ⟨⟨old, k e (by simp) _ he⟩, ⟨o, k it (by simp) o ho, r⟩, hne⟩
  item := by
    intro X hP hw hK hc i pins s σ H E I hf st hg
    subst hP hw hK
    obtain ⟨⟨old, he⟩, hit, hne⟩ := st
    obtain ⟨xs, x, hq, hx⟩ := hg
    obtain ⟨its, rv, p, hz⟩ := I.tuple hq
    obtain ⟨u, hu, ru⟩ := rv.get hx
    have hh : X.A.in1.handled = none := I.ok.hd hc
    have hel : e < s.heap.objs.size := Heap.lt_size he
    have hil : it < s.heap.objs.size := by obtain ⟨_, q, _⟩ := hit; exact Heap.lt_size q
    have hai : a ≠ it := fun z => by
      obtain ⟨o1, g1, c1, _⟩ := p
      obtain ⟨o2, g2, c2, _⟩ := hit
      rw [z, g2] at g1
      cases g1
      rw [c1] at c2; exact absurd c2 (by decide)
    have hae : e ≠ a := fun z => by
      obtain ⟨o1, g1, c1, _⟩ := p
      have g2 : s.heap.get? e = some _ := he
      rw [← z, g2] at g1
      cases g1
      have c3 : Value.type "enumerate" = Value.type "tuple" := c1
      injection c3 with c3
      exact absurd c3 (by decide)
    have D := Draws.tuple (prog := X.prog) (w := X.w) (A := X.A.in1) hh it a hai its.toArray
    have hil2 : i < its.toArray.size := by
      have := (List.getElem?_eq_some_iff.mp hu).1
      simpa using this
    refine wpAny_pyNext_enum_itemD D he ⟨hit, p⟩ hil2 hne (by simp [hne, hae]) fun v h' tk hPx ho hit' hT hsz hk => ?_
    have hv : v = u := by
      have h2 : its[i]? = some v := by simpa using hPx
      rw [hu] at h2; exact (Option.some.inj h2).symm
    subst hv
    refine ⟨_, rfl, wpAny_letOwnedTupleGo_enum (s := { s with heap := h', toks := tk + 1 }) ho fun h'' he' sb => ?_⟩
    have hT2 : h''.get? s.heap.objs.size = some { cls := .type "tuple", data := .seq #[.int i tk, v] } := (sb.2 _ (Nat.ne_of_gt hel)).trans hT
    have new : ObjOk X.prog X.w (upd H s.heap.objs.size (.tup [.int (i : Nat), x])) h'' s.heap.objs.size (.tup [.int (i : Nat), x]) :=
      ⟨by show 2 ≤ sizeLine; decide, [.int i tk, v], .cons ⟨_, rfl⟩ (.cons ru .nil), ⟨_, hT2, rfl, _, rfl⟩⟩
    have I1 : L2.Inv X pins σ (upd H s.heap.objs.size (.tup [.int (i : Nat), x])) { s with heap := h'', toks := tk + 1 } :=
      I.turnedNew (ch := [e, it]) (fun b ob hb q => (sb.2 b (fun z => hb (by simp [z]))).trans (hk b ob (fun z => hb (by simp [z])) (fun z => hb (by simp [z])) q)) hf (Nat.le_refl _) new
    refine ⟨.ref s.heap.objs.size, _, I1, rfl, ⟨_, x, rfl, I.hok.fresh (Nat.le_refl _), rfl, fun ys hy => by rw [I.tuple_inj hy hq]; exact hx⟩, ⟨⟨v, ?_⟩, ?_, hne⟩, fun b hb => ?_⟩
    · have e1 : ((i + 1 : Nat) : Int) = (i : Int) + 1 := by omega
      rw [e1]; exact he'
    · obtain ⟨o, h1, h2⟩ := hit'.1
      exact ⟨o, (sb.2 it (Ne.symm hne)).trans h1, h2⟩
    · have hb' : b < s.heap.objs.size := by
        have e' : b = e ∨ b = it := by simpa using hb
        rcases e' with z | z
        · rw [z]; exact hel
        · rw [z]; exact hil
      rw [upd_ne (Nat.ne_of_lt hb')]
      exact (hf b hb).1
  done := by
    intro X hP hw hK hc i pins s σ H E I hf st hg
    subst hP hw hK
    obtain ⟨⟨old, he⟩, hit, hne⟩ := st
    obtain ⟨xs, hq, hx⟩ := hg
    obtain ⟨its, rv, p, hz⟩ := I.tuple hq
    have hh : X.A.in1.handled = none := I.ok.hd hc
    have hai : a ≠ it := fun z => by
      obtain ⟨o1, g1, c1, _⟩ := p
      obtain ⟨o2, g2, c2, _⟩ := hit
      rw [z, g2] at g1
      cases g1
      rw [c1] at c2; exact absurd c2 (by decide)
    have D := Draws.tuple (prog := X.prog) (w := X.w) (A := X.A.in1) hh it a hai its.toArray
    have hl : its.toArray.size = i := by
      have := rv.length
      rw [List.size_toArray]; omega
    obtain ⟨f0, f1, f2, f3, f4, f5⟩ := hf it (by simp)
    exact wpAny_pyNext_enum_endD D he (by rw [hl]; exact ⟨hit, p⟩) fun h' eb => ⟨rfl, I.turned (t' := s.toks) (fun b o hb q => eb b o hb q) f0 f1 f3 f4 f5⟩
  self := fun A i s Q E st h => let ⟨⟨_, he⟩, _⟩ := st; wpAny_pyIter_enum he h
def iEnumT (K : PySem.W.Frag) (ta : TA) : TI := fun σ H R => ta σ H fun vs H1 => ∃ a xs, vs = [.ref a] ∧ SqT K H1 a xs ∧ R (IteT K a) H1
theorem pi_enumT {X : Cx} {K : PySem.W.Frag} (hK : X.K = K) {e : Expr} {ta : TA} {p pos tpos : Pos} {elts : List Expr} {kk : Nat} (hg : Gl X "enumerate") (hm : X.mg "enumerate" = none) (ha : PA X [e] ta) (hs : starEach [e] X.env = [(false, eval e X.env)] := by rfl) :
    PI X (.Tuple elts kk tpos) (.Call (.Name "enumerate" p) [e] [] pos) (iEnumT K ta) := by
  subst hK
  refine ⟨fun pins s σ H R I h => ?_⟩
  refine Call_ (ld_blt I hg hm boot_enumerate (PyProof.Rows.callWith_type1 (thn (ha.run pos pins s σ H _ I h) fun us s1 ⟨vs, H1, I1, r1, q1⟩ => ?_) hs rfl))
  obtain ⟨a, xs, ex, hq, q⟩ := q1
  subst ex
  cases r1 with
  | cons r rr =>
    cases rr
    cases r
    obtain ⟨its, rv, p', hz⟩ := I1.tuple hq
    refine call_enumerate_tup2 p' fun h' he hit hsz hk => wpAny_pyIter_enum he ?_
    have I2 : L2.Inv X pins σ H1 { s1 with heap := h' } := I1.kept (t' := s1.toks) hk
    refine ⟨s1.heap.objs.size + 1, [s1.heap.objs.size + 1, s1.heap.objs.size], _, _, H1, rfl, I2, turn_enumT a (s1.heap.objs.size + 1) s1.heap.objs.size, ⟨⟨.none, he⟩, hit, Nat.succ_ne_self _⟩, fun b hb => ?_, q⟩
    have e' : b = s1.heap.objs.size + 1 ∨ b = s1.heap.objs.size := by simpa using hb
    have hle : s1.heap.objs.size ≤ b := by
      rcases e' with z | z
      · rw [z]; exact Nat.le_add_right _ _
      · rw [z]; exact Nat.le_refl _
    exact I1.fpOk hle (I1.hok.fresh hle)
section
variable {K : PySem.W.Frag} {S : AS}
theorem eiw_enumT {t : TA} {P : List PyData → Mu → Prop} (h : AW K t S fun avs mu => ∃ ds, avs = [dT ds] ∧ P ((List.range ds.length).map fun i => .tuple [pn i, ds.getD i .none]) mu) : EIW K (iEnumT K t) S P := fun Z as0 as fr σ H ok R q =>
  h Z as0 as fr σ H ok _ fun vs H1 avs mu1 g1 ok1 r1 ⟨ds, e, p⟩ => by
    subst e
    cases r1 with
    | cons r1 r2 =>
      cases r2
      cases r1 with
      | tup hs ha =>
        rename_i b xs
        refine ⟨b, xs, rfl, sqT_ex off_le hs, q (IteT K b) H1 _ (fun Hf => SqT K Hf b xs ∧ DpAll K Hf xs ds) mu1 g1 ok1 ⟨fun i M H hg hi => ?_, fun i M H x H' hg hex hi hy => ?_, fun M H hg => ?_, fun _ _ hg e => ⟨sqT_ex e hg.1, da_ex e hg.2⟩⟩ ⟨hs, ha⟩ p⟩
        · rw [List.length_map, List.length_range] at hi
          obtain ⟨v, hv, _⟩ := da_get hg.2 (List.getElem?_eq_getElem hi)
          exact ⟨xs, v, sqT_ex off_le hg.1, hv⟩
        · obtain ⟨T, v, e1, e2, e3, e4⟩ := hy
          subst e1; subst e3
          rw [List.length_map, List.length_range] at hi
          have hv := e4 xs (sqT_ex off_le hg.1)
          obtain ⟨d, hd, hr⟩ := da_getV hg.2 hv
          have hT : T ∉ M := fun z => by obtain ⟨o, ho⟩ := hex T z; rw [e2] at ho; cases ho
          refine ⟨.tuple [pn i, ds.getD i .none], ?_, Ex.new e2, .tup (xs := [.int (i : Nat), v]) (sqT_of ?_) (.cons (.int _) (.cons ?_ .nil))⟩
          · rw [List.getElem?_map, List.getElem?_range hi]; rfl
          · rw [off_at hT, upd_same]
          · rw [List.getD_eq_getElem?_getD, hd]; exact dp_ex (off_ex (Ex.new e2)) hr
        · rw [List.length_map, List.length_range]
          exact ⟨xs, sqT_ex off_le hg.1, da_length hg.2⟩
theorem ei_enumT {t : TA} {ds : List PyData} (h : AVs K t S [dT ds]) : EI K (iEnumT K t) S ((List.range ds.length).map fun i => .tuple [pn i, ds.getD i .none]) := eiw_enumT (h.ew ⟨ds, rfl, rfl, rfl⟩)
end
/-! a dict of one pair -/
section
variable {K : PySem.W.Frag} {S : AS} {A : AE}
theorem upd_upd {H : Hp} {p : Addr} {o o' : HO} : upd (upd H p o) p o' = upd H p o' := by
  funext b
  by_cases h : b = p
  · subst h; rw [upd_same, upd_same]
  · rw [upd_ne h, upd_ne h, upd_ne h]
theorem sw_asgD1 {i : Nat} {k : Key} {n : Int} (h : A.nx ⟨S.sl.set i (some (.o S.mu.length)), S.mu ++ [.k [(k, .int n)]]⟩) : SW K (tAsg (tDisp [(tC (kV k), tC (.int n))]) (gName i)) S A := fun Z as0 as fr σ H D ok im p hp => by
  refine ⟨upd_same, [(k, .int n)], rfl, (show 1 ≤ 15 by decide), ?_⟩
  rw [upd_upd]
  have e : mergeK [] [(k, V.int n)] = [(k, V.int n)] := rfl
  rw [e]
  have ok2 := ok.own (o := .dK [(k, .int n)]) (m := .k [(k, .int n)]) hp ⟨[(k, .int n)], upd_same, rfl, .cons (.int _) .nil⟩
  refine im.nx _ _ _ _ (ok2.store (i := i) (v := .ref p) (av := .o S.mu.length) ⟨p, ?_, rfl⟩) h
  rw [← ok.mu.1, List.getElem?_append_right (Nat.le_refl _), Nat.sub_self]; rfl
end
/-! lists of our own that hold texts -/
section
variable {K : PySem.W.Frag} {mu : Mu}
theorem ty_own {j : Nat} {ds : List PyData} (hm : mu[j]? = some (.l ds)) : TyR K mu "list" (.o j) := fun as fr H v hk r => by
  obtain ⟨p, hp, e⟩ := r
  subst e
  obtain ⟨vs, hv, ha⟩ := hk.mu.2 j p _ hp hm
  show _
  exact .inl ⟨rfl, _, sqL_of hv⟩
theorem rb_ninOS {j : Nat} {a : List Nat} {ls : List (List Nat)} (hm : mu[j]? = some (.l (ls.map pS))) : RB K mu (rNotInU K) (dS a) (.o j) (dB (!decide (a ∈ ls))) := fun as fr H v1 v2 hk r1 r2 Q k => by
  cases r1
  obtain ⟨p, hp, e⟩ := r2
  subst e
  obtain ⟨vs, hv, ha⟩ := hk.mu.2 j p _ hp hm
  have e := strsV ha
  subst e
  refine .inr (.inl ⟨_, _, rfl, .inl (sqL_of hv), rfl, flat_strs _, ?_⟩)
  rw [if_pos rfl, inV_strs]
  have : decide ((⟨a.toArray⟩ : Str) ∈ ls.map fun l => (⟨l.toArray⟩ : Str)) = decide (a ∈ ls) := by
    by_cases h : a ∈ ls
    · rw [decide_eq_true h, decide_eq_true (List.mem_map.mpr ⟨a, h, rfl⟩)]
    · rw [decide_eq_false h, decide_eq_false]
      intro h2
      obtain ⟨b, h3, h4⟩ := List.mem_map.mp h2
      exact h (txt_inj h4 ▸ h3)
  rw [this]; exact k.bl
theorem rm_indexOS {j n : Nat} {ls : List (List Nat)} {a : List Nat} (hm : mu[j]? = some (.l (ls.map pS))) (h : ls[n]? = some a) (hn : ∀ m, m < n → ls[m]? ≠ some a) : RM K mu (rIndex K) (.o j) [dS a] (dn n) := fun as fr H v vs0 hk r1 r2 Q k => by
  cases r2 with
  | cons r2 r3 =>
    cases r3
    cases r2
    obtain ⟨p, hp, e⟩ := r1
    subst e
    obtain ⟨vs, hv, ha⟩ := hk.mu.2 j p _ hp hm
    have e := strsV ha
    subst e
    refine ⟨_, _, _, n, .str ⟨a.toArray⟩, rfl, rfl, sqL_of hv, rfl, flat_strs _, by rw [List.getElem?_map, List.getElem?_map, h]; rfl, by simp [eqV], fun m z' hm' hz => ?_, k.int⟩
    rw [List.getElem?_map, List.getElem?_map] at hz
    cases e : ls[m]? with
    | none => rw [e] at hz; cases hz
    | some b =>
      rw [e] at hz
      cases hz
      have : b ≠ a := fun z => hn m hm' (by rw [e, z])
      show ((⟨b.toArray⟩ : Str) == ⟨a.toArray⟩) = false
      simpa using fun z => this (by simpa using z)
end
section
variable {K : PySem.W.Frag} {mu : Mu} {S : AS}
/-- "".join(xs), xs a list of our own -/
theorem rm_joinO {j : Nat} {ls : List (List Nat)} (hm : mu[j]? = some (.l (ls.map pS))) (h : ls.flatten.length ≤ 1000000) : RM K mu (rJoin K) (dS []) [.o j] (dS ls.flatten) := fun as fr H v vs hk r1 r2 Q k => by
  cases r1
  cases r2 with
  | cons r2 r3 =>
    cases r3
    obtain ⟨p, hp, e⟩ := r2
    subst e
    obtain ⟨ws, hv, ha⟩ := hk.mu.2 j p _ hp hm
    have e := strsV ha
    subst e
    refine ⟨_, _, _, rfl, rfl, .inl (sqL_of hv), ?_, ?_⟩
    · rw [sum_len, len_txt]
      simp only [List.length_nil, Nat.mul_zero, Nat.add_zero]
      omega
    · rw [show (⟨([] : List Nat).toArray⟩ : Str) = ⟨#[]⟩ from rfl, join_nil]; exact k.str
theorem ev_joinO {to : TE} {i j : Nat} {ls : List (List Nat)} (h : EV K to S (dS [])) (hi : S.sl[i]? = some (some (.o j))) (hm : S.mu[j]? = some (.l (ls.map pS))) (hl : ls.flatten.length ≤ 1000000) : EV K (tM1 (rJoin K) to (tVar i)) S (dS ls.flatten) :=
  ew_m1 (h.ew ⟨⟨_, rfl⟩, (ev_var hi).ew ⟨_, rm_joinO hm hl, rfl, rfl⟩⟩)
end
end D2
set_option Elab.async false
set_option linter.all false
set_option maxRecDepth 100000
set_option maxHeartbeats 4000000
/-! DT1: plain Lean functions in Option, and what a def has to do with them. -/
namespace D2
open PySem L2
theorem bs {α β : Type} {o : Option α} {k : α → Option β} {x : β} (h : o.bind k = some x) : ∃ a, o = some a ∧ k a = some x := by
  cases o with
  | none => cases h
  | some a => exact ⟨a, rfl, h⟩
def gd {α : Type} (p : Prop) [Decidable p] (x : α) : Option α := if p then some x else none
theorem gd_of {α : Type} {p : Prop} [Decidable p] {x y : α} (h : gd p x = some y) : p ∧ x = y := by
  unfold gd at h
  split at h
  · exact ⟨by assumption, Option.some.inj h⟩
  · cases h
theorem gd_eq {α : Type} {p : Prop} [Decidable p] {x : α} (h : p) : gd p x = some x := if_pos h
/-! ways to write values as data -/
abbrev eN (n : Nat) : PyData := .int (n : Int)
abbrev eZ (i : Int) : PyData := .int i
abbrev eB (b : Bool) : PyData := .bool b
abbrev eS (l : List Nat) : PyData := .str ⟨l.toArray⟩
abbrev eC (c : Nat) : PyData := eS [c]
abbrev eU (_ : Unit) : PyData := .none
abbrev eD (d : PyData) : PyData := d
abbrev eL {α : Type} (e : α → PyData) (l : List α) : PyData := .list (l.map e)
abbrev eT {α : Type} (e : α → PyData) (l : List α) : PyData := .tuple (l.map e)
abbrev eO {α : Type} (e : α → PyData) : Option α → PyData
  | none => .none
  | some a => e a
abbrev eP1 {α : Type} (e : α → PyData) (x : α) : PyData := .tuple [e x]
abbrev eP {α β : Type} (e : α → PyData) (f : β → PyData) (p : α × β) : PyData := .tuple [e p.1, f p.2]
abbrev eP3 {α β γ : Type} (e : α → PyData) (f : β → PyData) (g : γ → PyData) (p : α × β × γ) : PyData := .tuple [e p.1, f p.2.1, g p.2.2]
abbrev eP4 {α β γ δ : Type} (e : α → PyData) (f : β → PyData) (g : γ → PyData) (h : δ → PyData) (p : α × β × γ × δ) : PyData := .tuple [e p.1, f p.2.1, g p.2.2.1, h p.2.2.2]
/-- told apart by == -/
def EqE {α : Type} [DecidableEq α] (e : α → PyData) : Prop := ∀ a b, PyData.eqv (e a) (e b) = decide (a = b)
def DpE {α : Type} (k : Nat) (e : α → PyData) : Prop := ∀ a, (e a).depth ≤ k
theorem bd {α : Type} [BEq α] [LawfulBEq α] [DecidableEq α] (a b : α) : (a == b) = decide (a = b) := by
  by_cases h : a = b
  · subst h; simp
  · rw [decide_eq_false h]; exact beq_false_of_ne h
theorem eqv_S (a b : List Nat) : PyData.eqv (.str ⟨a.toArray⟩) (.str ⟨b.toArray⟩) = decide (a = b) := by
  rw [PyData.eqv]
  by_cases h : a = b
  · subst h; rw [decide_eq_true rfl]; exact beq_self_eq_true _
  · rw [decide_eq_false h]; exact beq_false_of_ne fun e => h (txt_inj e)
theorem eq_N : EqE eN := fun a b => by
  have e : (decide ((a : Int) = (b : Int))) = decide (a = b) := by
    by_cases h : a = b
    · rw [decide_eq_true h, decide_eq_true (by omega)]
    · rw [decide_eq_false h, decide_eq_false (by omega)]
  rw [← e]; simp only [PyData.eqv]; exact bd _ _
theorem eq_Z : EqE eZ := fun a b => by simp only [PyData.eqv]; exact bd _ _
theorem eq_B : EqE eB := fun a b => by cases a <;> cases b <;> rfl
theorem eq_S : EqE eS := fun a b => eqv_S a b
theorem eq_C : EqE eC := fun a b => by rw [show (eC a) = eS [a] from rfl, show eC b = eS [b] from rfl, eqv_S]; simp
theorem eq_U : EqE eU := fun a b => by simp [PyData.eqv]
theorem eqv_map {α : Type} [DecidableEq α] {e : α → PyData} (h : EqE e) : ∀ a b : List α, PyData.eqvAll (a.map e) (b.map e) = decide (a = b)
  | [], [] => by simp [PyData.eqvAll]
  | [], y :: ys => by simp [PyData.eqvAll]
  | x :: xs, [] => by simp [PyData.eqvAll]
  | x :: xs, y :: ys => by
    rw [List.map_cons, List.map_cons, PyData.eqvAll, h x y, eqv_map h xs ys]
    by_cases h1 : x = y <;> by_cases h2 : xs = ys <;> simp [h1, h2]
theorem eq_L {α : Type} [DecidableEq α] {e : α → PyData} (h : EqE e) : EqE (eL e) := fun a b => by rw [PyData.eqv]; exact eqv_map h a b
theorem eq_T {α : Type} [DecidableEq α] {e : α → PyData} (h : EqE e) : EqE (eT e) := fun a b => by rw [PyData.eqv]; exact eqv_map h a b
theorem eq_P1 {α : Type} [DecidableEq α] {e : α → PyData} (h : EqE e) : EqE (eP1 e) := fun a b => by
  rw [PyData.eqv]; simp [PyData.eqvAll, h a b]
theorem eq_P {α β : Type} [DecidableEq α] [DecidableEq β] {e : α → PyData} {f : β → PyData} (h : EqE e) (g : EqE f) : EqE (eP e f) := fun a b => by
  obtain ⟨a1, a2⟩ := a; obtain ⟨b1, b2⟩ := b
  rw [PyData.eqv]; simp only [PyData.eqvAll, h a1 b1, g a2 b2, Prod.mk.injEq]
  by_cases h1 : a1 = b1 <;> by_cases h2 : a2 = b2 <;> simp [h1, h2]
theorem eq_P3 {α β γ : Type} [DecidableEq α] [DecidableEq β] [DecidableEq γ] {e : α → PyData} {f : β → PyData} {k : γ → PyData} (h : EqE e) (g : EqE f) (i : EqE k) : EqE (eP3 e f k) := fun a b => by
  obtain ⟨a1, a2, a3⟩ := a; obtain ⟨b1, b2, b3⟩ := b
  rw [PyData.eqv]; simp only [PyData.eqvAll, h a1 b1, g a2 b2, i a3 b3, Prod.mk.injEq]
  by_cases h1 : a1 = b1 <;> by_cases h2 : a2 = b2 <;> by_cases h3 : a3 = b3 <;> simp [h1, h2, h3]
theorem eq_P4 {α β γ δ : Type} [DecidableEq α] [DecidableEq β] [DecidableEq γ] [DecidableEq δ] {e : α → PyData} {f : β → PyData} {k : γ → PyData} {l : δ → PyData} (h : EqE e) (g : EqE f) (i : EqE k) (j : EqE l) : EqE (eP4 e f k l) := fun a b => by
  obtain ⟨a1, a2, a3, a4⟩ := a; obtain ⟨b1, b2, b3, b4⟩ := b
  rw [PyData.eqv]; simp only [PyData.eqvAll, h a1 b1, g a2 b2, i a3 b3, j a4 b4, Prod.mk.injEq]
  by_cases h1 : a1 = b1 <;> by_cases h2 : a2 = b2 <;> by_cases h3 : a3 = b3 <;> by_cases h4 : a4 = b4 <;> simp [h1, h2, h3, h4]
/-- never None -/
def NnE {α : Type} (e : α → PyData) : Prop := ∀ a, PyData.eqv (e a) .none = false ∧ PyData.eqv .none (e a) = false ∧ e a ≠ .none
theorem nn_N : NnE eN := fun a => ⟨by simp [PyData.eqv], by simp [PyData.eqv], by simp⟩
theorem nn_Z : NnE eZ := fun a => ⟨by simp [PyData.eqv], by simp [PyData.eqv], by simp⟩
theorem nn_B : NnE eB := fun a => ⟨by simp [PyData.eqv], by simp [PyData.eqv], by simp⟩
theorem nn_S : NnE eS := fun a => ⟨by simp [PyData.eqv], by simp [PyData.eqv], by simp⟩
theorem nn_C : NnE eC := fun a => ⟨by simp [PyData.eqv], by simp [PyData.eqv], by simp⟩
theorem nn_L {α : Type} {e : α → PyData} : NnE (eL e) := fun a => ⟨by simp [PyData.eqv], by simp [PyData.eqv], by simp⟩
theorem nn_T {α : Type} {e : α → PyData} : NnE (eT e) := fun a => ⟨by simp [PyData.eqv], by simp [PyData.eqv], by simp⟩
theorem nn_P1 {α : Type} {e : α → PyData} : NnE (eP1 e) := fun a => ⟨by simp [PyData.eqv], by simp [PyData.eqv], by simp⟩
theorem nn_P {α β : Type} {e : α → PyData} {f : β → PyData} : NnE (eP e f) := fun a => ⟨by simp [PyData.eqv], by simp [PyData.eqv], by simp⟩
theorem nn_P3 {α β γ : Type} {e : α → PyData} {f : β → PyData} {g : γ → PyData} : NnE (eP3 e f g) := fun a => ⟨by simp [PyData.eqv], by simp [PyData.eqv], by simp⟩
theorem nn_P4 {α β γ δ : Type} {e : α → PyData} {f : β → PyData} {g : γ → PyData} {h : δ → PyData} : NnE (eP4 e f g h) := fun a => ⟨by simp [PyData.eqv], by simp [PyData.eqv], by simp⟩
theorem eq_O {α : Type} [DecidableEq α] {e : α → PyData} (h : EqE e) (n : NnE e) : EqE (eO e) := fun a b => by
  cases a with
  | none => cases b with
    | none => simp [PyData.eqv]
    | some b => simpa using (n b).2.1
  | some a => cases b with
    | none => simpa using (n a).1
    | some b => simpa using h a b
theorem dp_N : DpE 0 eN := fun a => by simp [PyData.depth]
theorem dp_Z : DpE 0 eZ := fun a => by simp [PyData.depth]
theorem dp_B : DpE 0 eB := fun a => by simp [PyData.depth]
theorem dp_S : DpE 0 eS := fun a => by simp [PyData.depth]
theorem dp_C : DpE 0 eC := fun a => by simp [PyData.depth]
theorem dp_U : DpE 0 eU := fun a => by simp [PyData.depth]
theorem dp_map {α : Type} {k : Nat} {e : α → PyData} (h : DpE k e) : ∀ l : List α, PyData.depthAll (l.map e) ≤ k
  | [] => by simp [PyData.depthAll]
  | x :: xs => by
    have := dp_map h xs
    have h2 := h x
    rw [List.map_cons, PyData.depthAll]; omega
theorem dp_L {α : Type} {k : Nat} {e : α → PyData} (h : DpE k e) : DpE (k + 1) (eL e) := fun a => by
  have := dp_map h a
  rw [PyData.depth]; omega
theorem dp_T {α : Type} {k : Nat} {e : α → PyData} (h : DpE k e) : DpE (k + 1) (eT e) := fun a => by
  have := dp_map h a
  rw [PyData.depth]; omega
theorem dp_O {α : Type} {k : Nat} {e : α → PyData} (h : DpE k e) : DpE k (eO e) := fun a => by
  cases a with
  | none => simp [PyData.depth]
  | some a => exact h a
theorem dp_P1 {α : Type} {i : Nat} {e : α → PyData} (h : DpE i e) : DpE (i + 1) (eP1 e) := fun a => by
  have := h a
  rw [PyData.depth]; simp only [PyData.depthAll]; omega
theorem dp_P {α β : Type} {i j : Nat} {e : α → PyData} {f : β → PyData} (h : DpE i e) (g : DpE j f) : DpE (max i j + 1) (eP e f) := fun a => by
  have := h a.1; have := g a.2
  rw [PyData.depth]; simp only [PyData.depthAll]; omega
theorem dp_P3 {α β γ : Type} {i j k : Nat} {e : α → PyData} {f : β → PyData} {g : γ → PyData} (h : DpE i e) (h2 : DpE j f) (h3 : DpE k g) : DpE (max i (max j k) + 1) (eP3 e f g) := fun a => by
  have := h a.1; have := h2 a.2.1; have := h3 a.2.2
  rw [PyData.depth]; simp only [PyData.depthAll]; omega
theorem dp_P4 {α β γ δ : Type} {i j k l : Nat} {e : α → PyData} {f : β → PyData} {g : γ → PyData} {m : δ → PyData} (h : DpE i e) (h2 : DpE j f) (h3 : DpE k g) (h4 : DpE l m) : DpE (max i (max j (max k l)) + 1) (eP4 e f g m) := fun a => by
  have := h a.1; have := h2 a.2.1; have := h3 a.2.2.1; have := h4 a.2.2.2
  rw [PyData.depth]; simp only [PyData.depthAll]; omega
/-! plain parts -/
def subN (a b : Nat) : Option Nat := gd (b ≤ a) (a - b)
def mulN (a b : Nat) : Option Nat := gd (a < 2 ^ 64 ∨ b < 2 ^ 64) (a * b)
def mulZ (a b : Int) : Option Int := gd ((-(2 ^ 64) < a ∧ a < 2 ^ 64) ∨ (-(2 ^ 64) < b ∧ b < 2 ^ 64)) (a * b)
def fdivN (a b : Nat) : Option Nat := gd (0 < b ∧ b < 1073741824) (a / b)
def modN (a b : Nat) : Option Nat := gd (0 < b) (a % b)
def modZ (a b : Int) : Option Int := gd (b ≠ 0) (a.fmod b)
def addS (a b : List Nat) : Option (List Nat) := gd (a.length + b.length ≤ 1000000) (a ++ b)
def addL {α : Type} (a b : List α) : Option (List α) := gd (a.length + b.length ≤ 1000000) (a ++ b)
def mulS (a : List Nat) (n : Nat) : Option (List Nat) := gd (n ≤ 1000000 ∧ a.length * n ≤ 1000000) (rep a n)
def lenS (a : List Nat) : Option Nat := gd (a.length ≤ 1000000) a.length
def ixS (a : List Nat) (n : Nat) : Option Nat := if a.length ≤ 1000000 then a[n]? else none
def ixZ {α : Type} (a : List α) (n : Int) : Option α := if 0 ≤ n then a[n.toNat]? else if 0 ≤ n + a.length then a[(n + a.length).toNat]? else none
def ixSZ (a : List Nat) (n : Int) : Option Nat := if a.length ≤ 1000000 then ixZ a n else none
def toS (a : List Nat) (n : Nat) : Option (List Nat) := gd (a.length ≤ 1000000) (a.take n)
def fromS (a : List Nat) (n : Nat) : Option (List Nat) := gd (a.length ≤ 1000000) (a.drop n)
def midS (a : List Nat) (m n : Nat) : Option (List Nat) := gd (a.length ≤ 1000000) ((a.take n).drop m)
def cutO (a : List Nat) (m n : Option Int) : Option (List Nat) := gd (a.length ≤ 1000000) (cutL a m n)
def revO (a : List Nat) : Option (List Nat) := gd (a.length ≤ 1000000) a.reverse
def joinS (a : List (List Nat)) : Option (List Nat) := gd (a.flatten.length ≤ 1000000) a.flatten
def rngO (n : Nat) : Option (List Nat) := gd (n ≤ 1000000) (List.range n)
def rng2O (m n : Nat) : Option (List Nat) := gd (m ≤ 1000000 ∧ n ≤ 1000000) ((List.range (n - m)).map fun k => m + k)
def rngDO (a b : Nat) : Option (List Nat) := gd (b ≤ a ∧ a ≤ 1000000) ((List.range (a - b)).map fun k => a - k)
def rngD0 (n : Nat) : Option (List Nat) := gd (n ≤ 1000000) ((List.range n).map fun k => n - 1 - k)
def rng2Z (m n : Int) : Option (List Int) := gd (-(2 ^ 62) ≤ m ∧ m < 2 ^ 62 ∧ -(2 ^ 62) ≤ n ∧ n < 2 ^ 62) ((List.range (n - m).toNat).map fun (k : Nat) => m + (k : Int))
def rngZ (n : Int) : Option (List Nat) := gd (-(2 ^ 62) ≤ n ∧ n < 2 ^ 62) (List.range n.toNat)
def enumF {α : Type} : Nat → List α → List (Nat × α)
  | _, [] => []
  | n, x :: xs => (n, x) :: enumF (n + 1) xs
def forS {α σ : Type} (f : α → σ → Option σ) : List α → σ → Option σ
  | [], s => some s
  | x :: xs, s => (f x s).bind fun s' => forS f xs s'
/-- what comes of a turn: on, out of the loop, out of the def -/
inductive Fl (σ ρ : Type) where
  | n (s : σ)
  | b (s : σ)
  | r (v : ρ)
def forF {α σ ρ : Type} (f : α → σ → Option (Fl σ ρ)) : List α → σ → Option (Fl σ ρ)
  | [], s => some (.n s)
  | x :: xs, s => (f x s).bind fun fl => match fl with
    | .n s' => forF f xs s'
    | .b s' => some (.n s')
    | .r v => some (.r v)
def whS {σ : Type} (c : σ → Option Bool) (f : σ → Option σ) : Nat → σ → Option σ
  | 0, _ => none
  | n + 1, s => (c s).bind fun b => if b = true then (f s).bind fun s' => whS c f n s' else some s
def whF {σ ρ : Type} (c : σ → Option Bool) (f : σ → Option (Fl σ ρ)) : Nat → σ → Option (Fl σ ρ)
  | 0, _ => none
  | n + 1, s => (c s).bind fun b => if b = true then (f s).bind fun fl => (match fl with
    | .n s' => whF c f n s'
    | .b s' => some (.n s')
    | .r v => some (.r v)) else some (.n s)
def mapO {α β : Type} (f : α → Option β) : List α → Option (List β)
  | [] => some []
  | x :: xs => (f x).bind fun y => (mapO f xs).bind fun ys => some (y :: ys)
/-- with a test -/
def filO {α β : Type} (f : α → Option (Option β)) : List α → Option (List β)
  | [] => some []
  | x :: xs => (f x).bind fun y => (filO f xs).bind fun ys => some (y.toList ++ ys)
def mapG {α β : Type} (f : α → Option β) (xs : List α) : Option (List β) := if xs.length ≤ 1000000 then mapO f xs else none
def filG {α β : Type} (f : α → Option (Option β)) (xs : List α) : Option (List β) := if xs.length ≤ 1000000 then filO f xs else none
def fuel : Nat := 1000000000000
end D2
set_option Elab.async false
set_option linter.all false
set_option maxRecDepth 100000
set_option maxHeartbeats 4000000
/-! DT2: rules by values, from the plain parts. -/
namespace D2
open PySem L2
section
variable {K : PySem.W.Frag} {mu : Mu} {S : AS} {α β : Type} {e : α → PyData}
theorem own_dp {as fr : List Addr} {H : Hp} {j : Nat} {ds : List PyData} {v : V} (hk : Hk K as fr mu H) (hm : mu[j]? = some (.l ds)) (r : RepV K (off (as ++ fr) H) as v (.o j)) : Dp K H v (.list ds) := by
  obtain ⟨p, hp, e⟩ := r
  subst e
  obtain ⟨vs, hv, ha⟩ := hk.mu.2 j p _ hp hm
  exact .lst (sqL_of hv) (da_ex off_le ha)
theorem rb_subP {a b c : Nat} (h : subN a b = some c) : RB K mu (rI0 fun i j => .int (i - j)) (dn a) (dn b) (dn c) := by obtain ⟨h1, rfl⟩ := gd_of h; exact rb_subN h1
theorem rb_mulP {a b c : Nat} (h : mulN a b = some c) : RB K mu rMulU (dn a) (dn b) (dn c) := by obtain ⟨h1, rfl⟩ := gd_of h; exact rb_mulN h1
theorem rb_mulZP {a b c : Int} (h : mulZ a b = some c) : RB K mu rMulU (dI a) (dI b) (dI c) := by obtain ⟨h1, rfl⟩ := gd_of h; exact rb_mul h1
theorem rb_fdivP {a b c : Nat} (h : fdivN a b = some c) : RB K mu (rI CDivN fun i j => .int (i.fdiv j)) (dn a) (dn b) (dn c) := by obtain ⟨h1, rfl⟩ := gd_of h; exact rb_fdivNN h1
theorem rb_modP {a b c : Nat} (h : modN a b = some c) : RB K mu (rI (fun _ j => j ≠ 0) fun i j => .int (i.fmod j)) (dn a) (dn b) (dn c) := by obtain ⟨h1, rfl⟩ := gd_of h; exact rb_modNN h1
theorem rb_modZP {a b c : Int} (h : modZ a b = some c) : RB K mu (rI (fun _ j => j ≠ 0) fun i j => .int (i.fmod j)) (dI a) (dI b) (dI c) := by obtain ⟨h1, rfl⟩ := gd_of h; exact rb_mod h1
theorem rb_addSP {a b c : List Nat} (h : addS a b = some c) : RB K mu (rAddU K) (dS a) (dS b) (dS c) := by obtain ⟨h1, rfl⟩ := gd_of h; exact rb_addS h1
theorem rb_addLP {a b c : List α} (h : addL a b = some c) : RB K mu (rAddU K) (.d (eL e a)) (.d (eL e b)) (.d (eL e c)) := by
  obtain ⟨h1, rfl⟩ := gd_of h; show RB K mu _ _ _ (dL ((a ++ b).map e)); rw [List.map_append]; exact rb_addL (by simpa using h1)
theorem rb_addTP {a b c : List α} (h : addL a b = some c) : RB K mu (rAddU K) (.d (eT e a)) (.d (eT e b)) (.d (eT e c)) := by
  obtain ⟨h1, rfl⟩ := gd_of h; show RB K mu _ _ _ (dT ((a ++ b).map e)); rw [List.map_append]; exact rb_addT (by simpa using h1)
theorem rb_addOP {i : Nat} {a b c : List α} (hm : mu[i]? = some (.l (a.map e))) (h : addL a b = some c) : RB K mu (rAddU K) (.o i) (.d (eL e b)) (.d (eL e c)) := by
  obtain ⟨h1, rfl⟩ := gd_of h; show RB K mu _ _ _ (dL ((a ++ b).map e)); rw [List.map_append]; exact rb_addOL hm (by simpa using h1)
theorem rb_mulSP {a c : List Nat} {n : Nat} (h : mulS a n = some c) : RB K mu rMulU (dS a) (dn n) (dS c) := by obtain ⟨h1, rfl⟩ := gd_of h; exact rb_mulSN h1.1 h1.2
theorem ra_lenP {a : List Nat} {n : Nat} (h : lenS a = some n) : RA K mu (rLen K) [dS a] (dn n) := by obtain ⟨h1, rfl⟩ := gd_of h; exact ra_lenSN h1
theorem ra_lenLE {l : List α} : RA K mu (rLen K) [.d (eL e l)] (dn l.length) := by have := ra_lenL (K := K) (mu := mu) (ds := l.map e); rwa [List.length_map] at this
theorem ra_lenTE {l : List α} : RA K mu (rLen K) [.d (eT e l)] (dn l.length) := by have := ra_lenT (K := K) (mu := mu) (ds := l.map e); rwa [List.length_map] at this
theorem ra_lenOE {j : Nat} {l : List α} (hm : mu[j]? = some (.l (l.map e))) : RA K mu (rLen K) [.o j] (dn l.length) := by have := ra_lenO (K := K) (mu := mu) hm; rwa [List.length_map] at this
theorem rb_ixSP {a : List Nat} {n c : Nat} (h : ixS a n = some c) : RB K mu (rIx K) (dS a) (dn n) (.d (eC c)) := by
  unfold ixS at h
  split at h
  · exact rb_ixS n rfl h (by assumption)
  · cases h
theorem rb_ixSI {l : List Nat} {i : Int} {c : Nat} (h : atI l i = some c) (hl : l.length ≤ 1000000) : RB K mu (rIx K) (dS l) (dI i) (dS [c]) := fun as fr H v1 v2 hk r1 r2 Q k => by
  cases r1; cases r2
  exact .inr (.inr ⟨_, _, c, rfl, rfl, by rw [len_txt]; exact sz_of hl, by simpa using h, k.str⟩)
def ixSI (a : List Nat) (n : Int) : Option Nat := if a.length ≤ 1000000 then atI a n else none
theorem rb_ixSIP {a : List Nat} {n : Int} {c : Nat} (h : ixSI a n = some c) : RB K mu (rIx K) (dS a) (dI n) (.d (eC c)) := by
  unfold ixSI at h
  split at h
  · exact rb_ixSI h (by assumption)
  · cases h
theorem map_at? {l : List α} {n : Nat} {x : α} (h : l[n]? = some x) : (l.map e)[n]? = some (e x) := by rw [List.getElem?_map, h]; rfl
theorem map_atI {l : List α} {n : Int} {x : α} (h : atI l n = some x) : atI (l.map e) n = some (e x) := by
  unfold atI at h ⊢
  rw [List.length_map]
  cases c : ixN l.length n with
  | none => rw [c] at h; cases h
  | some j => rw [c] at h; exact map_at? h
theorem rb_ixLP {l : List α} {n : Nat} {x : α} (h : l[n]? = some x) : RB K mu (rIx K) (.d (eL e l)) (dn n) (.d (e x)) := rb_ixLN (map_at? h)
theorem rb_ixTP {l : List α} {n : Nat} {x : α} (h : l[n]? = some x) : RB K mu (rIx K) (.d (eT e l)) (dn n) (.d (e x)) := rb_ixTN (map_at? h)
theorem rb_ixOP {j n : Nat} {l : List α} {x : α} (hm : mu[j]? = some (.l (l.map e))) (h : l[n]? = some x) : RB K mu (rIx K) (.o j) (dn n) (.d (e x)) := rb_ixON hm (map_at? h)
theorem rb_ixLI' {l : List α} {n : Int} {x : α} (h : atI l n = some x) : RB K mu (rIx K) (.d (eL e l)) (dI n) (.d (e x)) := rb_ixL (map_atI h)
theorem rb_ixTI' {l : List α} {n : Int} {x : α} (h : atI l n = some x) : RB K mu (rIx K) (.d (eT e l)) (dI n) (.d (e x)) := rb_ixT (map_atI h)
theorem rb_ixOI' {j : Nat} {n : Int} {l : List α} {x : α} (hm : mu[j]? = some (.l (l.map e))) (h : atI l n = some x) : RB K mu (rIx K) (.o j) (dI n) (.d (e x)) := rb_ixO hm (map_atI h)
/-! pieces -/
theorem rsl_toP {l c : List Nat} {n : Nat} (h : toS l n = some c) : RSl K mu (rSlU K) (dS l) none (some (n : Int)) (dS c) := by obtain ⟨h1, rfl⟩ := gd_of h; exact rsl_toN h1
theorem rsl_fromP {l c : List Nat} {n : Nat} (h : fromS l n = some c) : RSl K mu (rSlU K) (dS l) (some (n : Int)) none (dS c) := by obtain ⟨h1, rfl⟩ := gd_of h; exact rsl_fromN h1
theorem rsl_midP {l c : List Nat} {m n : Nat} (h : midS l m n = some c) : RSl K mu (rSlU K) (dS l) (some (m : Int)) (some (n : Int)) (dS c) := by obtain ⟨h1, rfl⟩ := gd_of h; exact rsl_midN h1
theorem rsl_cutP {l c : List Nat} {m n : Option Int} (h : cutO l m n = some c) : RSl K mu (rSlU K) (dS l) m n (dS c) := by obtain ⟨h1, rfl⟩ := gd_of h; exact rsl_S h1
theorem rsl_LcutE {l : List α} {m n : Option Int} : RSl K mu (rSlU K) (.d (eL e l)) m n (.d (eL e (cutL l m n))) := by show RSl K mu _ _ _ _ (dL ((cutL l m n).map e)); rw [← cutL_map]; exact rsl_L
theorem rsl_TcutE {l : List α} {m n : Option Int} : RSl K mu (rSlU K) (.d (eT e l)) m n (.d (eT e (cutL l m n))) := by show RSl K mu _ _ _ _ (dT ((cutL l m n).map e)); rw [← cutL_map]; exact rsl_T
theorem rsl_LtoE {l : List α} {n : Nat} : RSl K mu (rSlU K) (.d (eL e l)) none (some (n : Int)) (.d (eL e (l.take n))) := by have := rsl_LcutE (K := K) (mu := mu) (e := e) (l := l) (m := none) (n := some (n : Int)); rwa [cutL_to] at this
theorem rsl_LfromE {l : List α} {n : Nat} : RSl K mu (rSlU K) (.d (eL e l)) (some (n : Int)) none (.d (eL e (l.drop n))) := by have := rsl_LcutE (K := K) (mu := mu) (e := e) (l := l) (m := some (n : Int)) (n := none); rwa [cutL_from] at this
theorem rsl_LmidE {l : List α} {m n : Nat} : RSl K mu (rSlU K) (.d (eL e l)) (some (m : Int)) (some (n : Int)) (.d (eL e ((l.take n).drop m))) := by have := rsl_LcutE (K := K) (mu := mu) (e := e) (l := l) (m := some (m : Int)) (n := some (n : Int)); rwa [cutL_mid] at this
theorem rsl_TtoE {l : List α} {n : Nat} : RSl K mu (rSlU K) (.d (eT e l)) none (some (n : Int)) (.d (eT e (l.take n))) := by have := rsl_TcutE (K := K) (mu := mu) (e := e) (l := l) (m := none) (n := some (n : Int)); rwa [cutL_to] at this
theorem rsl_TfromE {l : List α} {n : Nat} : RSl K mu (rSlU K) (.d (eT e l)) (some (n : Int)) none (.d (eT e (l.drop n))) := by have := rsl_TcutE (K := K) (mu := mu) (e := e) (l := l) (m := some (n : Int)) (n := none); rwa [cutL_from] at this
theorem rsl_TmidE {l : List α} {m n : Nat} : RSl K mu (rSlU K) (.d (eT e l)) (some (m : Int)) (some (n : Int)) (.d (eT e ((l.take n).drop m))) := by have := rsl_TcutE (K := K) (mu := mu) (e := e) (l := l) (m := some (m : Int)) (n := some (n : Int)); rwa [cutL_mid] at this
/-- a piece of a list of our own: a new list -/
theorem rsl_Ocut {j : Nat} {l : List α} {m n : Option Int} (hm : mu[j]? = some (.l (l.map e))) : RSl K mu (rSlU K) (.o j) m n (.d (eL e (cutL l m n))) := fun as fr H v hk r Q k => by
  obtain ⟨p, hp, rfl⟩ := r
  obtain ⟨vs, hv, ha⟩ := hk.mu.2 j p _ hp hm
  have hc := cutV_all ha m n
  rw [cutL_map] at hc
  exact .inl (.inl ⟨_, _, rfl, sqL_of hv, fun q hq => k.lst hk hq hc⟩)
theorem ev_revP {te : TE} {l c : List Nat} (h : EV K te S (dS l)) (hr : revO l = some c) : EV K (tRevS te) S (dS c) := by obtain ⟨h1, rfl⟩ := gd_of hr; exact ev_revS h h1
theorem ev_revLE {te : TE} {l : List α} (h : EV K te S (.d (eL e l))) : EV K (tRevL K te) S (.d (eL e l.reverse)) := by have := ev_revL h; rwa [← List.map_reverse] at this
theorem ev_revTE {te : TE} {l : List α} (h : EV K te S (.d (eT e l))) : EV K (tRevT K te) S (.d (eT e l.reverse)) := by have := ev_revT h; rwa [← List.map_reverse] at this
theorem ev_revOE {te : TE} {j : Nat} {l : List α} (h : EV K te S (.o j)) (hm : S.mu[j]? = some (.l (l.map e))) : EV K (tRevL K te) S (.d (eL e l.reverse)) := by have := ev_revO h hm; rwa [← List.map_reverse] at this
/-! joins -/
def joinC (a : List Nat) : Option (List Nat) := gd (a.length ≤ 1000000) a
theorem flat_one : ∀ l : List Nat, (l.map fun c => [c]).flatten = l
  | [] => rfl
  | c :: r => by rw [List.map_cons, List.flatten_cons, flat_one r]; rfl
theorem ev_joinP {to te : TE} {ls : List (List Nat)} {c : List Nat} (h : EV K to S (dS [])) (h2 : EV K te S (.d (eL eS ls))) (hj : joinS ls = some c) : EV K (tM1 (rJoin K) to te) S (dS c) := by obtain ⟨h1, rfl⟩ := gd_of hj; exact ev_join h h2 h1
theorem ev_joinCP {to te : TE} {ls c : List Nat} (h : EV K to S (dS [])) (h2 : EV K te S (.d (eL eC ls))) (hj : joinC ls = some c) : EV K (tM1 (rJoin K) to te) S (dS c) := by
  obtain ⟨h1, rfl⟩ := gd_of hj
  have e : eL eC ls = .list ((ls.map fun c => [c]).map pS) := by rw [List.map_map]; rfl
  have := ev_join h (e ▸ h2) (by rw [flat_one]; exact h1)
  rwa [flat_one] at this
theorem ev_joinOP {to : TE} {i j : Nat} {ls : List (List Nat)} {c : List Nat} (h : EV K to S (dS [])) (hi : S.sl[i]? = some (some (.o j))) (hm : S.mu[j]? = some (.l (ls.map eS))) (hj : joinS ls = some c) : EV K (tM1 (rJoin K) to (tVar i)) S (dS c) := by obtain ⟨h1, rfl⟩ := gd_of hj; exact ev_joinO h hi hm h1
theorem rm_joinT {ls : List (List Nat)} (h : ls.flatten.length ≤ 1000000) : RM K mu (rJoin K) (dS []) [dT (ls.map pS)] (dS ls.flatten) := fun as fr H v vs hk r1 r2 Q k => by
  cases r1
  cases r2 with
  | cons r2 r3 =>
    cases r3
    cases r2 with
    | tup hs ha =>
      have e := strsV ha
      subst e
      refine ⟨_, _, _, rfl, rfl, .inr (sqT_ex off_le hs), ?_, ?_⟩
      · rw [sum_len, len_txt]
        simp only [List.length_nil, Nat.mul_zero, Nat.add_zero]
        omega
      · rw [show (⟨([] : List Nat).toArray⟩ : Str) = ⟨#[]⟩ from rfl, join_nil]; exact k.str
theorem ev_joinTP {to te : TE} {ls : List (List Nat)} {c : List Nat} (h : EV K to S (dS [])) (h2 : EV K te S (.d (eT eS ls))) (hj : joinS ls = some c) : EV K (tM1 (rJoin K) to te) S (dS c) := by
  obtain ⟨h1, rfl⟩ := gd_of hj
  exact ev_m1 h h2 (rm_joinT h1)
/-! the same, in -/
theorem rb_eqE [DecidableEq α] {k : Nat} (h : EqE e) (hd : DpE k e) (hk : k ≤ 60) {a b : α} : RB K mu (rEqU K) (.d (e a)) (.d (e b)) (dB (decide (a = b))) := by
  rw [← h a b]; exact rb_eqX (by have := hd a; omega)
theorem rb_neE [DecidableEq α] {k : Nat} (h : EqE e) (hd : DpE k e) (hk : k ≤ 60) {a b : α} : RB K mu (rNeU K) (.d (e a)) (.d (e b)) (dB (!decide (a = b))) := by
  rw [← h a b]; exact rb_neX (by have := hd a; omega)
theorem any_mem [DecidableEq α] (h : EqE e) (x : α) : ∀ l : List α, ((l.map e).any fun z => PyData.eqv z (e x)) = decide (x ∈ l)
  | [] => by simp
  | y :: ys => by
    rw [List.map_cons, List.any_cons, h y x, any_mem h x ys]
    by_cases h1 : y = x
    · subst h1; simp
    · have : ¬ x = y := fun z => h1 z.symm
      simp [h1, this]
theorem rb_inLE [DecidableEq α] {k : Nat} (h : EqE e) (hd : DpE k e) (hk : k ≤ 60) {a : α} {l : List α} : RB K mu (rInU K) (.d (e a)) (.d (eL e l)) (dB (decide (a ∈ l))) := by
  rw [← any_mem h a l]; exact rb_inLX (by have := hd a; omega)
theorem rb_ninLE [DecidableEq α] {k : Nat} (h : EqE e) (hd : DpE k e) (hk : k ≤ 60) {a : α} {l : List α} : RB K mu (rNotInU K) (.d (e a)) (.d (eL e l)) (dB (!decide (a ∈ l))) := by
  rw [← any_mem h a l]; exact rb_ninLX (by have := hd a; omega)
theorem rb_inTE [DecidableEq α] {k : Nat} (h : EqE e) (hd : DpE k e) (hk : k ≤ 60) {a : α} {l : List α} : RB K mu (rInU K) (.d (e a)) (.d (eT e l)) (dB (decide (a ∈ l))) := by
  rw [← any_mem h a l]; exact rb_inTX (by have := hd a; omega)
theorem rb_ninTE [DecidableEq α] {k : Nat} (h : EqE e) (hd : DpE k e) (hk : k ≤ 60) {a : α} {l : List α} : RB K mu (rNotInU K) (.d (e a)) (.d (eT e l)) (dB (!decide (a ∈ l))) := by
  rw [← any_mem h a l]; exact rb_ninTX (by have := hd a; omega)
theorem rb_inOE [DecidableEq α] {k j : Nat} (h : EqE e) (hd : DpE k e) (hk : k ≤ 60) {a : α} {l : List α} (hm : mu[j]? = some (.l (l.map e))) : RB K mu (rInU K) (.d (e a)) (.o j) (dB (decide (a ∈ l))) := fun as fr H v1 v2 hk r1 r2 Q kk => by
  rw [← any_mem h a l] at kk
  exact .inr (.inr (.inl ⟨e a, l.map e, dp_ex off_le r1, .inl (own_dp hk hm r2), by have := hd a; omega, kk.bl⟩))
theorem rb_ninOE [DecidableEq α] {k j : Nat} (h : EqE e) (hd : DpE k e) (hk : k ≤ 60) {a : α} {l : List α} (hm : mu[j]? = some (.l (l.map e))) : RB K mu (rNotInU K) (.d (e a)) (.o j) (dB (!decide (a ∈ l))) := fun as fr H v1 v2 hk r1 r2 Q kk => by
  rw [← any_mem h a l] at kk
  exact .inr (.inr (.inl ⟨e a, l.map e, dp_ex off_le r1, .inl (own_dp hk hm r2), by have := hd a; omega, kk.bl⟩))
theorem rb_isO (h : NnE e) {o : Option α} : RB K mu (fun x y H Q => y = .non ∧ Q (.bl (decide (x = .non))) H) (.d (eO e o)) dN (dB o.isNone) := by
  refine rb_is rb_isN ?_
  cases o with
  | none => rfl
  | some a =>
    show dB _ = dB false
    have := (h a).2.2
    split
    · rename_i z; exact absurd z this
    · rfl
theorem rb_notO (h : NnE e) {o : Option α} : RB K mu (fun x y H Q => y = .non ∧ Q (.bl (!decide (x = .non))) H) (.d (eO e o)) dN (dB o.isSome) := by
  refine rb_is rb_notN ?_
  cases o with
  | none => rfl
  | some a =>
    show dB _ = dB true
    have := (h a).2.2
    split
    · rename_i z; exact absurd z this
    · rfl
/-! what is walked -/
theorem ei_P {t : TA} {n : Nat} {xs : List Nat} (h : AVs K t S [dn n]) (hx : rngO n = some xs) : EI K (iRng1 t) S (xs.map eN) := by obtain ⟨h1, rfl⟩ := gd_of hx; exact ei_rngN h h1
theorem ei_P2 {t : TA} {m n : Nat} {xs : List Nat} (h : AVs K t S [dn m, dn n]) (hx : rng2O m n = some xs) : EI K (iRng2 t) S (xs.map eN) := by
  obtain ⟨h1, rfl⟩ := gd_of hx
  rw [List.map_map]; exact ei_rng2N h h1.1 h1.2
theorem ei_PD {t : TA} {a b : Nat} {xs : List Nat} (h : AVs K t S [dn a, dn b, dI (-1)]) (hx : rngDO a b = some xs) : EI K (iRng3 t) S (xs.map eN) := by
  obtain ⟨h1, rfl⟩ := gd_of hx
  rw [List.map_map]; exact ei_rngD h h1.1 h1.2
theorem ei_PD0 {t : TA} {a : Int} {n : Nat} {xs : List Nat} (h : AVs K t S [dI a, dI (-1), dI (-1)]) (hx : rngD0 n = some xs) (hn : a = (n : Int) - 1) : EI K (iRng3 t) S (xs.map eN) := by
  obtain ⟨h1, rfl⟩ := gd_of hx
  rw [List.map_map]; exact ei_rngD0 h hn h1
theorem ei_PZ {t : TA} {n : Int} {xs : List Nat} (h : AVs K t S [dI n]) (hx : rngZ n = some xs) : EI K (iRng1 t) S (xs.map eN) := by
  obtain ⟨h1, rfl⟩ := gd_of hx
  exact ei_rng1 h h1.1 h1.2
theorem ei_PZ2 {t : TA} {m n : Int} {xs : List Int} (h : AVs K t S [dI m, dI n]) (hx : rng2Z m n = some xs) : EI K (iRng2 t) S (xs.map eZ) := by
  obtain ⟨h1, rfl⟩ := gd_of hx
  rw [List.map_map]; exact ei_rng2 h h1
theorem enumF_range (l : List α) : ∀ (n : Nat) (f : α → PyData), (enumF n l).map (eP eN f) = (List.range l.length).map fun i => PyData.tuple [pn (n + i), (l.map f).getD i .none] := by
  induction l with
  | nil => intro n f; rfl
  | cons x xs ih =>
    intro n f
    rw [enumF, List.map_cons, ih (n + 1) f, List.length_cons, List.range_succ_eq_map, List.map_cons, List.map_map]
    refine List.cons_eq_cons.mpr ⟨rfl, ?_⟩
    refine List.map_congr_left fun i _ => ?_
    show _ = PyData.tuple [pn (n + (i + 1)), _]
    rw [show n + 1 + i = n + (i + 1) by omega]; rfl
theorem ei_enL {t : TA} {l : List α} (h : AVs K t S [.d (eL e l)]) : EI K (iEnum K t) S ((enumF 0 l).map (eP eN e)) := by
  refine (ei_enum h).is ?_
  rw [enumF_range, List.length_map]
  refine List.map_congr_left fun i _ => ?_
  rw [Nat.zero_add]
theorem ei_enT {t : TA} {l : List α} (h : AVs K t S [.d (eT e l)]) : EI K (iEnumT K t) S ((enumF 0 l).map (eP eN e)) := by
  refine (ei_enumT h).is ?_
  rw [enumF_range, List.length_map]
  refine List.map_congr_left fun i _ => ?_
  rw [Nat.zero_add]
theorem ei_enS {t : TA} {l : List Nat} (h : AVs K t S [dS l]) : EI K (iEnumS t) S ((enumF 0 l).map (eP eN eC)) := by
  refine (ei_enumS h).is ?_
  rw [enumF_range]
  refine List.map_congr_left fun i hi => ?_
  rw [Nat.zero_add]
  have hi := List.mem_range.mp hi
  rw [List.getD_eq_getElem?_getD, List.getD_eq_getElem?_getD, List.getElem?_map, List.getElem?_eq_getElem hi]; rfl
end
end D2
set_option Elab.async false
set_option linter.all false
set_option maxRecDepth 100000
set_option maxHeartbeats 4000000
/-! DT3: loops, comprehensions, calls, from plain functions. -/
namespace D2
open PySem L2
section
variable {K : PySem.W.Frag} {Z H : Hp} {as0 as fr : List Addr} {S : AS} {t u : TS} {ta tb te : TE} {A A' : AE} {D : Ends} {a a1 a2 : AV} {mu mu1 mu2 : Mu}
theorem up_up {M : AS → Prop} {S : AS} (h : Up (Up M) S) : Up M S := by
  obtain ⟨S1, l1, S2, l2, m⟩ := h
  refine ⟨S2, ⟨?_, l2.2.trans l1.2⟩, m⟩
  have : ∀ {x y z : List (Option AV)}, LeS x y → LeS y z → LeS x z := by
    intro x y z h1
    induction h1 generalizing z with
    | nil => intro h2; exact h2
    | skip h ih => intro h2; cases h2 with
      | skip h2 => exact .skip (ih h2)
      | same h2 => exact .skip (ih h2)
    | same h ih => intro h2; cases h2 with
      | skip h2 => exact .skip (ih h2)
      | same h2 => exact .same (ih h2)
  exact this l2.1 l1.1
/-- A' wishes no more -/
structure AEle (A A' : AE) : Prop where
  n0 : A.n0 = A'.n0
  nx : ∀ S, A.nx S → Up A'.nx S
  bk : ∀ S, A.bk S → Up A'.bk S
  ct : ∀ S, A.ct S → Up A'.ct S
  rt : ∀ d mu, A.rt d mu → A'.rt d mu
  rn : ∀ ds mu, A.rn ds mu → A'.rn ds mu
theorem SW.le (h : SW K t S A) (l : AEle A A') : SW K t S A' := fun Z as0 as fr σ H D ok im =>
  h Z as0 as fr σ H D ok ⟨im.n0.trans l.n0.symm, fun S' σ' H' as' o k => let ⟨_, z, k'⟩ := l.nx S' k; im.nx _ σ' H' as' (o.le z) k', fun S' σ' H' as' o k => let ⟨_, z, k'⟩ := l.bk S' k; im.bk _ σ' H' as' (o.le z) k', fun S' σ' H' as' o k => let ⟨_, z, k'⟩ := l.ct S' k; im.ct _ σ' H' as' (o.le z) k', fun v d mu' H' a b c k => im.rt v d mu' H' a b c (l.rt _ _ k), fun p vs ds mu' H1 a b c e k => im.rn p vs ds mu' H1 a b c e (l.rn _ _ k)⟩
theorem up_self {M : AS → Prop} {S : AS} (h : M S) : Up M S := ⟨S, Le.refl S, h⟩
theorem sw_last (h : SW K t S { A with nx := fun S' => SW K tNext S' A }) : SW K t S A := fun Z as0 as fr σ H D ok im => sw_seq (u := tNext) h Z as0 as fr σ H D ok im
theorem GW.mono {g : TG} {js : List Nat} {d : PyData} {P P' : AS → Prop} (h : GW K g js d S P) (k : ∀ S2, P S2 → P' S2) : GW K g js d S P' := fun Z as0 as fr σ H x ok r Q q => h Z as0 as fr σ H x ok r Q fun S' σ' o w p => q S' σ' o w (k S' p)
/-! with what is drawn -/
abbrev XE (K : PySem.W.Frag) (t : TE) (S : AS) (a : AV) (mu : Mu) : Prop := EW K t S fun a' mu' => a' = a ∧ mu' = mu
abbrev XT (K : PySem.W.Frag) (t : TT) (S : AS) (b : Bool) (mu : Mu) : Prop := TW K t S fun b' mu' => b' = b ∧ mu' = mu
abbrev XA (K : PySem.W.Frag) (t : TA) (S : AS) (as : List AV) (mu : Mu) : Prop := AW K t S fun a' mu' => a' = as ∧ mu' = mu
abbrev XI (K : PySem.W.Frag) (wi : TI) (S : AS) (ds : List PyData) (mu : Mu) : Prop := EIW K wi S fun ds' mu' => ds' = ds ∧ mu' = mu
theorem XE.ew {P : AV → Mu → Prop} (h : XE K te S a mu) (k : P a mu) : EW K te S P := h.mono fun _ _ ⟨e1, e2⟩ => by subst e1 e2; exact k
theorem XT.ew {tt : TT} {b : Bool} {P : Bool → Mu → Prop} (h : XT K tt S b mu) (k : P b mu) : TW K tt S P := h.mono fun _ _ ⟨e1, e2⟩ => by subst e1 e2; exact k
theorem XA.ew {t : TA} {avs : List AV} {P : List AV → Mu → Prop} (h : XA K t S avs mu) (k : P avs mu) : AW K t S P := h.mono fun _ _ ⟨e1, e2⟩ => by subst e1 e2; exact k
theorem XI.ew {wi : TI} {ds : List PyData} {P : List PyData → Mu → Prop} (h : XI K wi S ds mu) (k : P ds mu) : EIW K wi S P := h.mono fun _ _ ⟨e1, e2⟩ => by subst e1 e2; exact k
theorem xe_is (h : XE K te S a mu) (e : mu = mu1) : XE K te S a mu1 := e ▸ h
theorem xt_is {tt : TT} {b : Bool} (h : XT K tt S b mu) (e : mu = mu1) : XT K tt S b mu1 := e ▸ h
theorem xe_op {r : R2} (ha : XE K ta S a1 mu1) (hb : XE K tb ⟨S.sl, mu1⟩ a2 mu2) (hr : RB K mu2 r a1 a2 a) : XE K (tOp r ta tb) S a mu2 := ew_op (ha.ew (hb.ew ⟨a, hr, rfl, rfl⟩))
theorem xe_un {r : V → Hp → VK → Prop} (ha : XE K ta S a1 mu1) (hr : RU K mu1 r a1 a) : XE K (tUn r ta) S a mu1 := ew_un (ha.ew ⟨a, hr, rfl, rfl⟩)
theorem xa_nil : XA K tNil S [] S.mu := av_nil
theorem xa_cons {tr : TA} {avs : List AV} (h : XE K te S a mu1) (hr : XA K tr ⟨S.sl, mu1⟩ avs mu2) : XA K (tCons te tr) S (a :: avs) mu2 := aw_cons (h.ew (hr.ew ⟨rfl, rfl⟩))
theorem xe_tup {t : TA} {ds : List PyData} (h : XA K t S (ds.map AV.d) mu) (hl : ds.length ≤ 1000000 := by first | decide | simp) : XE K (tTup t) S (dT ds) mu := ew_tup (h.ew ⟨ds, rfl, hl, rfl, rfl⟩)
theorem xe_lst {t : TA} {ds : List PyData} (h : XA K t S (ds.map AV.d) mu) (hl : ds.length ≤ 1000000 := by first | decide | simp) : XE K (tLst t) S (dL ds) mu := ew_lst (h.ew ⟨ds, rfl, hl, rfl, rfl⟩)
theorem xe_cb {r : List V → Hp → VK → Prop} {t : TA} {avs : List AV} (h : XA K t S avs mu) (hr : RA K mu r avs a) : XE K (tCB r t) S a mu := ew_cb (h.ew ⟨a, hr, rfl, rfl⟩)
theorem xe_call {R : List PyData → PyData → Prop} {E : XK} {t : TA} {ds : List PyData} {r : PyData} (h : XA K t S (ds.map AV.d) mu) (hR : R ds r) : XE K (tCall (spP K R) [] E t) S (.d r) mu := ew_call (h.ew ⟨ds, r, rfl, hR, rfl, rfl⟩)
theorem xe_sl {r : V → Option Int → Option Int → Hp → VK → Prop} {tl th : TO} {x : AV} {lo hi : Option Int} (hx : XE K te S x mu) (h1 : OV K tl ⟨S.sl, mu⟩ lo) (h2 : OV K th ⟨S.sl, mu⟩ hi) (hr : RSl K mu r x lo hi a) : XE K (tSl r te tl th) S a mu := ew_sl (hx.ew (h1.ew (h2.ew ⟨a, hr, rfl, rfl⟩)))
abbrev XO (K : PySem.W.Frag) (t : TO) (S : AS) (o : Option Int) (mu : Mu) : Prop := OW K t S fun o' mu' => o' = o ∧ mu' = mu
theorem XO.ew {t : TO} {o : Option Int} {P : Option Int → Mu → Prop} (h : XO K t S o mu) (k : P o mu) : OW K t S P := h.mono fun _ _ ⟨e1, e2⟩ => by subst e1 e2; exact k
theorem xo_none : XO K tNoPart S none S.mu := ov_none
theorem xo_some {i : Int} (h : XE K te S (dI i) mu) : XO K (tPart te) S (some i) mu := ow_some (h.ew ⟨i, rfl, rfl, rfl⟩)
theorem xe_slX {r : V → Option Int → Option Int → Hp → VK → Prop} {tl th : TO} {x : AV} {lo hi : Option Int} {mu3 : Mu} (hx : XE K te S x mu1) (h1 : XO K tl ⟨S.sl, mu1⟩ lo mu2) (h2 : XO K th ⟨S.sl, mu2⟩ hi mu3) (hr : RSl K mu3 r x lo hi a) : XE K (tSl r te tl th) S a mu3 := ew_sl (hx.ew (h1.ew (h2.ew ⟨a, hr, rfl, rfl⟩)))
theorem xt_test {b : Bool} (h : XE K te S (dB b) mu) : XT K (tTest te) S b mu := tw_test (h.ew ⟨b, rfl, rfl, rfl⟩)
theorem xt_B {b : Bool} (h : XE K te S (dB b) mu) : XT K (tB te) S b mu := tw_B (h.ew ⟨b, rfl, rfl, rfl⟩)
theorem xt_not {tt : TT} {b : Bool} (h : XT K tt S b mu) : XT K (tNot tt) S (!b) mu := tw_not (h.ew ⟨rfl, rfl⟩)
/-- the right part is asked only if the left one is true: what it finds -/
theorem xt_and {tt uu : TT} {b c : Bool} (h : XT K tt S b mu1) (k1 : b = true → XT K uu ⟨S.sl, mu1⟩ c mu2) (k2 : b = false → c = false ∧ mu2 = mu1) : XT K (tAnd tt uu) S c mu2 := tw_and (h.ew (by
  cases b with
  | true => rw [if_pos rfl]; exact k1 rfl
  | false => rw [if_neg Bool.false_ne_true]; obtain ⟨e1, e2⟩ := k2 rfl; subst e1 e2; exact ⟨rfl, rfl⟩))
theorem xt_or {tt uu : TT} {b c : Bool} (h : XT K tt S b mu1) (k1 : b = false → XT K uu ⟨S.sl, mu1⟩ c mu2) (k2 : b = true → c = true ∧ mu2 = mu1) : XT K (tOr tt uu) S c mu2 := tw_or (h.ew (by
  cases b with
  | false => rw [if_neg Bool.false_ne_true]; exact k1 rfl
  | true => rw [if_pos rfl]; obtain ⟨e1, e2⟩ := k2 rfl; subst e1 e2; exact ⟨rfl, rfl⟩))
theorem xe_and {b c : Bool} (h : XE K ta S (dB b) mu1) (k1 : b = true → XE K tb ⟨S.sl, mu1⟩ (dB c) mu2) (k2 : b = false → c = false ∧ mu2 = mu1) : XE K (tAndV ta tb) S (dB c) mu2 := ew_and (h.ew ⟨b, rfl, by
  cases b with
  | true => rw [if_pos rfl]; exact k1 rfl
  | false => rw [if_neg Bool.false_ne_true]; obtain ⟨e1, e2⟩ := k2 rfl; subst e1 e2; exact ⟨rfl, rfl⟩⟩)
theorem xe_or {b c : Bool} (h : XE K ta S (dB b) mu1) (k1 : b = false → XE K tb ⟨S.sl, mu1⟩ (dB c) mu2) (k2 : b = true → c = true ∧ mu2 = mu1) : XE K (tOrV ta tb) S (dB c) mu2 := ew_or (h.ew ⟨b, rfl, by
  cases b with
  | false => rw [if_neg Bool.false_ne_true]; exact k1 rfl
  | true => rw [if_pos rfl]; obtain ⟨e1, e2⟩ := k2 rfl; subst e1 e2; exact ⟨rfl, rfl⟩⟩)
theorem xe_if {tt : TT} {b : Bool} (h : XT K tt S b mu1) (k1 : b = true → XE K ta ⟨S.sl, mu1⟩ a mu2) (k2 : b = false → XE K tb ⟨S.sl, mu1⟩ a mu2) : XE K (tIf tt ta tb) S a mu2 := ew_if (h.ew (by
  cases b with
  | true => rw [if_pos rfl]; exact k1 rfl
  | false => rw [if_neg Bool.false_ne_true]; exact k2 rfl))
theorem ew_chainX {r r' : R2} {tc : TE} {b c : Bool} (ha : EV K ta S a1) (hb : EV K tb S a2) (hr : RB K S.mu r a1 a2 (dB b)) (hc : b = true → ∃ a3, EV K tc S a3 ∧ RB K S.mu r' a2 a3 (dB c)) (hn : b = false → c = false) : EV K (tChain r r' ta tb tc) S (dB c) := ew_chain (ha.ew (hb.ew ⟨b, hr, by
  cases b with
  | true => rw [if_pos rfl]; obtain ⟨a3, h1, h2⟩ := hc rfl; exact h1.ew ⟨_, h2, rfl, rfl⟩
  | false => rw [if_neg Bool.false_ne_true]; rw [hn rfl]; exact ⟨rfl, rfl⟩⟩))
theorem xi_P {t : TA} {n : Nat} {xs : List Nat} (h : XA K t S [dn n] mu) (hx : rngO n = some xs) : XI K (iRng1 t) S (xs.map eN) mu := by
  obtain ⟨h1, rfl⟩ := gd_of hx
  exact eiw_rng1 (h.ew ⟨(n : Int), rfl, by omega, by omega, rfl, rfl⟩)
theorem xi_list {ds : List PyData} (h : XE K te S (dL ds) mu) : XI K (iList K te) S ds mu := eiw_list (h.ew ⟨ds, rfl, rfl, rfl⟩)
theorem xi_tup {ds : List PyData} (h : XE K te S (dT ds) mu) : XI K (iTup K te) S ds mu := eiw_tup (h.ew ⟨ds, rfl, rfl, rfl⟩)
/-! statements -/
theorem sw_asgX {i : Nat} (h : XE K te S a mu) (k : A.nx ⟨S.sl.set i (some a), mu⟩) : SW K (tAsg te (gName i)) S A := sw_asg (h.ew k)
theorem sw_retX {d : PyData} (h : XE K te S (.d d) mu) (k : A.rt d (mu.take A.n0)) : SW K (tRet te) S A := sw_ret (h.ew ⟨d, rfl, k⟩)
theorem sw_ifX {tt : TT} {b : Bool} (h : XT K tt S b mu) (h1 : b = true → SW K t ⟨S.sl, mu⟩ A) (h2 : b = false → SW K u ⟨S.sl, mu⟩ A) : SW K (tIfS tt t u) S A := sw_if (h.ew (by
  cases b with
  | true => rw [if_pos rfl]; exact h1 rfl
  | false => rw [if_neg Bool.false_ne_true]; exact h2 rfl))
theorem sw_appX {i j : Nat} {xs0 xs : List PyData} {d : PyData} (hi : S.sl[i]? = some (some (.o j))) (hj : S.mu[j]? = some (.l xs0)) (h : XE K te S (.d d) mu) (hm : mu[j]? = some (.l xs)) (hl : xs.length < 1000000) (k : A.nx ⟨S.sl, mu.set j (.l (xs ++ [d]))⟩) : SW K (tDrop (tBM K "list" rAppend (tVar i) (tCons te tNil))) S A := sw_app hi hj (h.ew ⟨d, xs, rfl, hm, hl, k⟩)
/-- a join: what both ways bring -/
theorem sw_joinS {σ : Type} (st : σ → AS) (s : σ) (h1 : SW K t S { A with nx := fun S' => Le (st s) S' }) (h2 : SW K u (st s) A) : SW K (tSeq t u) S A := sw_midL (fun S' => S' = st s) (h1.le ⟨rfl, fun S' h => up_self ⟨_, h, rfl⟩, fun _ h => up_self h, fun _ h => up_self h, fun _ _ h => h, fun _ _ h => h⟩) fun S' e => by subst e; exact h2
theorem drop_cons {α : Type} {xs : List α} {i : Nat} {x : α} (h : xs[i]? = some x) : xs.drop i = x :: xs.drop (i + 1) := by
  have hi := (List.getElem?_eq_some_iff.mp h).1
  rw [List.drop_eq_getElem_cons hi, (List.getElem?_eq_some_iff.mp h).2]
section loops
variable {α β σ ρ δ : Type} {xs : List α} {ea : α → PyData} {wi : TI} {g : TG} {js : List Nat}
theorem sw_forS {f : α → σ → Option σ} (st : σ → AS) {s0 s1 : σ} (hI : XI K wi S (xs.map ea) mu) (h0 : Le (st s0) ⟨S.sl, mu⟩) (hf : forS f xs s0 = some s1)
    (hb : ∀ x s s', f x s = some s' → GW K g js (ea x) (st s) fun S2 => SW K t S2 { A with nx := fun S3 => Le (st s') S3, ct := fun S3 => Le (st s') S3, bk := fun _ => False })
    (hk : A.nx (st s1)) : SW K (tFor wi g t) S A :=
  sw_forW (js := js) (hI.ew ⟨fun i S' => ∃ s, forS f (xs.drop i) s = some s1 ∧ S' = st s, ⟨_, h0, s0, by simpa using hf, rfl⟩, fun i d S' hd ⟨s, hs, e⟩ => by
    subst e
    obtain ⟨x, hx, rfl⟩ := lst_at hd
    rw [drop_cons hx, forS] at hs
    obtain ⟨s', h1, h2⟩ := bs hs
    refine (hb x s s' h1).mono fun S2 h => h.le ⟨rfl, fun S3 l => up_self ⟨_, l, s', h2, rfl⟩, fun _ l => l.elim, fun S3 l => up_self ⟨_, l, s', h2, rfl⟩, fun _ _ h => h, fun _ _ h => h⟩, fun S' ⟨s, hs, e⟩ => by
    subst e
    rw [List.length_map, List.drop_of_length_le (Nat.le_refl _), forS] at hs
    cases hs; exact hk⟩)
/-- what is wanted of a turn, from what it brings -/
def flA (A : AE) (st : σ → AS) (RT : ρ → PyData → Mu → Prop) (fl : Fl σ ρ) : AE :=
  { n0 := A.n0, nx := fun S' => ∃ s, fl = .n s ∧ Le (st s) S', ct := fun S' => ∃ s, fl = .n s ∧ Le (st s) S', bk := fun S' => ∃ s, fl = .b s ∧ Le (st s) S', rt := fun d mu => ∃ v, fl = .r v ∧ RT v d mu }
def flJ (A : AE) (st : σ → AS) (RT : ρ → PyData → Mu → Prop) (fl : Fl σ ρ) : AE :=
  { n0 := A.n0, nx := fun S' => ∃ s, fl = .n s ∧ Le (st s) S', rt := fun d mu => ∃ v, fl = .r v ∧ RT v d mu }
theorem sw_joinF {t u : TS} {fl : Fl σ ρ} (st : σ → AS) (RT : ρ → PyData → Mu → Prop) (h1 : SW K t S (flJ A st RT fl)) (hn : ∀ s, fl = .n s → SW K u (st s) A) (hr : ∀ v d mu, fl = .r v → RT v d mu → A.rt d mu) : SW K (tSeq t u) S A :=
  sw_seq (h1.le ⟨rfl, fun S' ⟨s, e, l⟩ => ⟨st s, l, hn s e⟩, fun _ h => h.elim, fun _ h => h.elim, fun d mu ⟨v, e, h⟩ => hr v d mu e h, fun _ _ h => h.elim⟩)
theorem sw_forF {f : α → σ → Option (Fl σ ρ)} (st : σ → AS) (RT : ρ → PyData → Mu → Prop) {s0 : σ} {fl : Fl σ ρ} (hI : XI K wi S (xs.map ea) mu) (h0 : Le (st s0) ⟨S.sl, mu⟩) (hf : forF f xs s0 = some fl)
    (hb : ∀ x s fl', f x s = some fl' → GW K g js (ea x) (st s) fun S2 => SW K t S2 (flA A st RT fl'))
    (hn : ∀ s, fl = .n s → A.nx (st s)) (hr : ∀ v d mu, fl = .r v → RT v d mu → A.rt d mu) : SW K (tFor wi g t) S A :=
  sw_forW (js := js) (hI.ew ⟨fun i S' => ∃ s, forF f (xs.drop i) s = some fl ∧ S' = st s, ⟨_, h0, s0, by simpa using hf, rfl⟩, fun i d S' hd ⟨s, hs, e⟩ => by
    subst e
    obtain ⟨x, hx, rfl⟩ := lst_at hd
    rw [drop_cons hx, forF] at hs
    obtain ⟨fl', h1, h2⟩ := bs hs
    refine (hb x s fl' h1).mono fun S2 h => h.le ⟨rfl, fun S3 l => ?_, fun S3 l => ?_, fun S3 l => ?_, fun d mu l => ?_, fun _ _ h => h.elim⟩
    · obtain ⟨s', e, l⟩ := l; subst e; exact up_self ⟨_, l, s', h2, rfl⟩
    · obtain ⟨s', e, l⟩ := l; subst e; exact ⟨_, l, hn s' (Option.some.inj h2).symm⟩
    · obtain ⟨s', e, l⟩ := l; subst e; exact up_self ⟨_, l, s', h2, rfl⟩
    · obtain ⟨v, e, l⟩ := l; subst e; exact hr v d mu (Option.some.inj h2).symm l, fun S' ⟨s, hs, e⟩ => by
    subst e
    rw [List.length_map, List.drop_of_length_le (Nat.le_refl _), forF] at hs
    exact hn s (Option.some.inj hs).symm⟩)
theorem sw_whS {tt : TT} {c : σ → Option Bool} {f : σ → Option σ} {n : Nat} (st : σ → AS) {s0 s1 : σ} (h0 : Le (st s0) S) (hf : whS c f n s0 = some s1)
    (hc : ∀ s b, c s = some b → TV K tt (st s) b)
    (hb : ∀ s s', c s = some true → f s = some s' → SW K t (st s) { A with nx := fun S3 => Le (st s') S3, ct := fun S3 => Le (st s') S3, bk := fun _ => False })
    (hk : A.nx (st s1)) : SW K (tWhile tt t) S A :=
  sw_whileL (fun m S' => ∃ s, whS c f m s = some s1 ∧ S' = st s) ⟨n, _, h0, s0, hf, rfl⟩ fun m S' ⟨s, hs, e⟩ => by
    subst e
    cases m with
    | zero => cases hs
    | succ m =>
      rw [whS] at hs
      obtain ⟨b, h1, h2⟩ := bs hs
      refine (hc s b h1).ew ?_
      cases b with
      | true =>
        rw [if_pos rfl] at h2 ⊢
        obtain ⟨s', h3, h4⟩ := bs h2
        exact (hb s s' h1 h3).le ⟨rfl, fun S3 l => up_self ⟨m, Nat.lt_succ_self m, _, l, s', h4, rfl⟩, fun _ l => l.elim, fun S3 l => up_self ⟨m, Nat.lt_succ_self m, _, l, s', h4, rfl⟩, fun _ _ h => h, fun _ _ h => h⟩
      | false =>
        rw [if_neg Bool.false_ne_true] at h2 ⊢
        cases h2; exact hk
theorem sw_whF {tt : TT} {c : σ → Option Bool} {f : σ → Option (Fl σ ρ)} {n : Nat} (st : σ → AS) (RT : ρ → PyData → Mu → Prop) {s0 : σ} {fl : Fl σ ρ} (h0 : Le (st s0) S) (hf : whF c f n s0 = some fl)
    (hc : ∀ s b, c s = some b → TV K tt (st s) b)
    (hb : ∀ s fl', c s = some true → f s = some fl' → SW K t (st s) (flA A st RT fl'))
    (hn : ∀ s, fl = .n s → A.nx (st s)) (hr : ∀ v d mu, fl = .r v → RT v d mu → A.rt d mu) : SW K (tWhile tt t) S A :=
  sw_whileL (fun m S' => ∃ s, whF c f m s = some fl ∧ S' = st s) ⟨n, _, h0, s0, hf, rfl⟩ fun m S' ⟨s, hs, e⟩ => by
    subst e
    cases m with
    | zero => cases hs
    | succ m =>
      rw [whF] at hs
      obtain ⟨b, h1, h2⟩ := bs hs
      refine (hc s b h1).ew ?_
      cases b with
      | true =>
        rw [if_pos rfl] at h2 ⊢
        obtain ⟨fl', h3, h4⟩ := bs h2
        refine (hb s fl' h1 h3).le ⟨rfl, fun S3 l => ?_, fun S3 l => ?_, fun S3 l => ?_, fun d mu l => ?_, fun _ _ h => h.elim⟩
        · obtain ⟨s', e, l⟩ := l; subst e; exact up_self ⟨m, Nat.lt_succ_self m, _, l, s', h4, rfl⟩
        · obtain ⟨s', e, l⟩ := l; subst e; exact ⟨_, l, hn s' (Option.some.inj h4).symm⟩
        · obtain ⟨s', e, l⟩ := l; subst e; exact up_self ⟨m, Nat.lt_succ_self m, _, l, s', h4, rfl⟩
        · obtain ⟨v, e, l⟩ := l; subst e; exact hr v d mu (Option.some.inj h4).symm l
      | false =>
        rw [if_neg Bool.false_ne_true] at h2 ⊢
        exact hn s (Option.some.inj h2).symm
/-! comprehensions -/
theorem mapG_of {f : α → Option β} {ys : List β} (h : mapG f xs = some ys) : xs.length ≤ 1000000 ∧ mapO f xs = some ys := by
  unfold mapG at h
  split at h
  · exact ⟨by assumption, h⟩
  · cases h
theorem filG_of {f : α → Option (Option β)} {ys : List β} (h : filG f xs = some ys) : xs.length ≤ 1000000 ∧ filO f xs = some ys := by
  unfold filG at h
  split at h
  · exact ⟨by assumption, h⟩
  · cases h
theorem nw_mapG {vs : List Nat} {f : α → Option β} {ys : List β} {eb : β → PyData} (hI : XI K wi S (xs.map ea) S.mu) (hj : ∀ j ∈ js, j ∈ vs) (hm : mapG f xs = some ys)
    (hb : ∀ x y, f x = some y → GW K g js (ea x) ⟨wp S.sl vs, S.mu⟩ fun S2 => S2.mu = S.mu ∧ EV K te S2 (.d (eb y))) : NW K (tLc wi g tYes te vs) S fun ds mu => ds = ys.map eb ∧ mu = S.mu := by
  obtain ⟨hl, hm⟩ := mapG_of hm
  refine nw_lc hj (hI.ew ⟨by rw [List.length_map]; exact hl, fun i acc mu => mu = S.mu ∧ ∃ y1 y2, acc = y1.map eb ∧ mapO f (xs.drop i) = some y2 ∧ y1 ++ y2 = ys, ⟨rfl, [], ys, rfl, by simpa using hm, rfl⟩, fun i d acc mu hd ⟨e1, y1, y2, e2, h, e3⟩ => ?_, fun acc mu ⟨e1, y1, y2, e2, h, e3⟩ => ?_⟩)
  · subst e1; subst e2
    obtain ⟨x, hx, rfl⟩ := lst_at hd
    rw [drop_cons hx, mapO] at h
    obtain ⟨y, h1, h2⟩ := bs h
    obtain ⟨y3, h3, h4⟩ := bs h2
    cases h4
    refine (hb x y h1).mono fun S2 ⟨h5, h6⟩ => tv_yes.ew ?_
    rw [if_pos rfl]
    exact h6.ew ⟨eb y, rfl, h5, y1 ++ [y], y3, by rw [List.map_append]; rfl, h3, by rw [← e3]; simp⟩
  · rw [List.length_map, List.drop_of_length_le (Nat.le_refl _), mapO] at h
    cases h
    rw [List.append_nil] at e3
    exact ⟨by rw [e2, e3], e1⟩
theorem nw_filG {vs : List Nat} {tt : TT} {f : α → Option (Option β)} {ys : List β} {eb : β → PyData} (hI : XI K wi S (xs.map ea) S.mu) (hj : ∀ j ∈ js, j ∈ vs) (hm : filG f xs = some ys)
    (hb : ∀ x y, f x = some y → GW K g js (ea x) ⟨wp S.sl vs, S.mu⟩ fun S2 => S2.mu = S.mu ∧ TV K tt S2 y.isSome ∧ ∀ z, y = some z → EV K te S2 (.d (eb z))) : NW K (tLc wi g tt te vs) S fun ds mu => ds = ys.map eb ∧ mu = S.mu := by
  obtain ⟨hl, hm⟩ := filG_of hm
  refine nw_lc hj (hI.ew ⟨by rw [List.length_map]; exact hl, fun i acc mu => mu = S.mu ∧ ∃ y1 y2, acc = y1.map eb ∧ filO f (xs.drop i) = some y2 ∧ y1 ++ y2 = ys, ⟨rfl, [], ys, rfl, by simpa using hm, rfl⟩, fun i d acc mu hd ⟨e1, y1, y2, e2, h, e3⟩ => ?_, fun acc mu ⟨e1, y1, y2, e2, h, e3⟩ => ?_⟩)
  · subst e1; subst e2
    obtain ⟨x, hx, rfl⟩ := lst_at hd
    rw [drop_cons hx, filO] at h
    obtain ⟨y, h1, h2⟩ := bs h
    obtain ⟨y3, h3, h4⟩ := bs h2
    cases h4
    refine (hb x y h1).mono fun S2 ⟨h5, h6, h7⟩ => h6.ew ?_
    cases y with
    | none => show if false = true then _ else _; rw [if_neg Bool.false_ne_true]; exact ⟨h5, y1, y3, rfl, h3, e3⟩
    | some z =>
      show if true = true then _ else _
      rw [if_pos rfl]
      exact (h7 z rfl).ew ⟨eb z, rfl, h5, y1 ++ [z], y3, by rw [List.map_append]; rfl, h3, by rw [← e3]; simp⟩
  · rw [List.length_map, List.drop_of_length_le (Nat.le_refl _), filO] at h
    cases h
    rw [List.append_nil] at e3
    exact ⟨by rw [e2, e3], e1⟩
theorem ev_mapG {vs : List Nat} {f : α → Option β} {ys : List β} {eb : β → PyData} (hI : XI K wi S (xs.map ea) S.mu) (hj : ∀ j ∈ js, j ∈ vs) (hm : mapG f xs = some ys)
    (hb : ∀ x y, f x = some y → GW K g js (ea x) ⟨wp S.sl vs, S.mu⟩ fun S2 => S2.mu = S.mu ∧ EV K te S2 (.d (eb y))) : EV K (tLc wi g tYes te vs) S (.d (eL eb ys)) := (nw_mapG hI hj hm hb).ev
theorem ev_filG {vs : List Nat} {tt : TT} {f : α → Option (Option β)} {ys : List β} {eb : β → PyData} (hI : XI K wi S (xs.map ea) S.mu) (hj : ∀ j ∈ js, j ∈ vs) (hm : filG f xs = some ys)
    (hb : ∀ x y, f x = some y → GW K g js (ea x) ⟨wp S.sl vs, S.mu⟩ fun S2 => S2.mu = S.mu ∧ TV K tt S2 y.isSome ∧ ∀ z, y = some z → EV K te S2 (.d (eb z))) : EV K (tLc wi g tt te vs) S (.d (eL eb ys)) := (nw_filG hI hj hm hb).ev
def mapS (f : α → δ → Option (β × δ)) : List α → δ → Option (List β × δ)
  | [], s => some ([], s)
  | x :: xs, s => (f x s).bind fun p => (mapS f xs p.2).bind fun q => some (p.1 :: q.1, q.2)
def mapSG (f : α → δ → Option (β × δ)) (xs : List α) (s : δ) : Option (List β × δ) := if xs.length ≤ 1000000 then mapS f xs s else none
theorem nw_mapS {vs : List Nat} {f : α → δ → Option (β × δ)} {r : List β × δ} {s0 : δ} {eb : β → PyData} (M : δ → Mu) (hI : XI K wi S (xs.map ea) (M s0)) (hj : ∀ j ∈ js, j ∈ vs) (hm : mapSG f xs s0 = some r)
    (hb : ∀ x s p, f x s = some p → GW K g js (ea x) ⟨wp S.sl vs, M s⟩ fun S2 => XE K te S2 (.d (eb p.1)) (M p.2)) : NW K (tLc wi g tYes te vs) S fun ds mu => ds = r.1.map eb ∧ mu = M r.2 := by
  have hm2 : xs.length ≤ 1000000 ∧ mapS f xs s0 = some r := by
    unfold mapSG at hm
    split at hm
    · exact ⟨by assumption, hm⟩
    · cases hm
  obtain ⟨hl, hm⟩ := hm2
  refine nw_lc hj (hI.ew ⟨by rw [List.length_map]; exact hl, fun i acc mu => ∃ s y1 q, mu = M s ∧ acc = y1.map eb ∧ mapS f (xs.drop i) s = some q ∧ (y1 ++ q.1, q.2) = r, ⟨s0, [], r, rfl, rfl, by simpa using hm, rfl⟩, fun i d acc mu hd ⟨s, y1, q, e1, e2, h, e3⟩ => ?_, fun acc mu ⟨s, y1, q, e1, e2, h, e3⟩ => ?_⟩)
  · subst e1; subst e2
    obtain ⟨x, hx, rfl⟩ := lst_at hd
    rw [drop_cons hx, mapS] at h
    obtain ⟨p, h1, h2⟩ := bs h
    obtain ⟨q2, h3, h4⟩ := bs h2
    cases h4
    refine (hb x s p h1).mono fun S2 h6 => tv_yes.ew ?_
    rw [if_pos rfl]
    exact h6.ew ⟨eb p.1, rfl, p.2, y1 ++ [p.1], q2, rfl, by rw [List.map_append]; rfl, h3, by rw [← e3]; simp⟩
  · rw [List.length_map, List.drop_of_length_le (Nat.le_refl _), mapS] at h
    cases h
    subst e3
    exact ⟨by rw [e2, List.append_nil], e1⟩
theorem NW.xe {te : TE} {ds : List PyData} (h : NW K te S fun ds' mu' => ds' = ds ∧ mu' = mu) : XE K te S (dL ds) mu := (h.mono fun _ _ ⟨e1, e2⟩ => ⟨by rw [e1], e2⟩).ew
theorem xe_mapS {vs : List Nat} {f : α → δ → Option (β × δ)} {r : List β × δ} {s0 : δ} {eb : β → PyData} (M : δ → Mu) (hI : XI K wi S (xs.map ea) (M s0)) (hj : ∀ j ∈ js, j ∈ vs) (hm : mapSG f xs s0 = some r)
    (hb : ∀ x s p, f x s = some p → GW K g js (ea x) ⟨wp S.sl vs, M s⟩ fun S2 => XE K te S2 (.d (eb p.1)) (M p.2)) : XE K (tLc wi g tYes te vs) S (.d (eL eb r.1)) (M r.2) := (nw_mapS M hI hj hm hb).xe
end loops
end
/-! the drawn numbers -/
structure DS where
  ns : List Int
  at_ : Nat
  big : Int
  seed : Int
def drM (m : DS) : MO := .l [.list (m.ns.map PyData.int), pn m.at_, .int m.big, .int m.seed]
def dr1 (m : DS) : DS := if m.big = 0 ∧ m.at_ < m.ns.length then ⟨m.ns, m.at_ + 1, if 10 ^ 18 ≤ m.ns.getD m.at_ 0 then m.ns.getD m.at_ 0 else m.big, (m.seed * 48271 + m.ns.getD m.at_ 0 + 13).fmod 2147483647⟩ else m
def drx (m : DS) (L : Nat) : Nat × DS := if 0 < m.big then ((m.big.fmod L).toNat, ⟨m.ns, m.at_, m.big.fdiv L, m.seed⟩)
  else (((((m.seed * 69621 + 7).fmod 2147483629).fdiv 11).fmod L).toNat, ⟨m.ns, m.at_, m.big, (m.seed * 69621 + 7).fmod 2147483629⟩)
def dr (m : DS) (L : Nat) : Option (Nat × DS) := gd (0 < L ∧ L < 1073741824) (drx (dr1 m) L)
theorem dr_lt {m m' : DS} {L x : Nat} (h : dr m L = some (x, m')) : x < L := by
  obtain ⟨h1, h2⟩ := gd_of h
  unfold drx at h2
  have k1 : ∀ y : Int, (y.fmod (L : Int)).toNat < L := fun y => by
    have := Int.fmod_nonneg_of_pos y (show (0 : Int) < L by omega)
    have := Int.fmod_lt_of_pos y (show (0 : Int) < L by omega)
    omega
  split at h2 <;> (cases h2; exact k1 _)
theorem dr_ex (m : DS) {L : Nat} (h0 : 0 < L) (h1 : L < 1073741824) : ∃ x m', dr m L = some (x, m') ∧ x < L := by
  have : dr m L = some (drx (dr1 m) L) := gd_eq ⟨h0, h1⟩
  obtain ⟨x, m', e⟩ : ∃ x m', drx (dr1 m) L = (x, m') := ⟨_, _, rfl⟩
  rw [e] at this
  exact ⟨x, m', this, dr_lt this⟩
end D2
set_option Elab.async false
set_option linter.all false
set_option maxRecDepth 100000
set_option maxHeartbeats 4000000
/-! DT4: promises of defs that compute plain functions; lazy parts; stores. -/
namespace D2
open PySem L2
def elimF {σ ρ γ : Type} (fl : Fl σ ρ) (k : σ → Option γ) (r : ρ → Option γ) : Option γ := match fl with
  | .n s => k s
  | .b _ => none
  | .r v => r v
theorem elimF_n {σ ρ γ : Type} {s : σ} {k : σ → Option γ} {r : ρ → Option γ} {x : γ} (h : elimF (.n s) k r = some x) : k s = some x := h
theorem elimF_r {σ ρ γ : Type} {v : ρ} {k : σ → Option γ} {r : ρ → Option γ} {x : γ} (h : elimF (.r v) k r = some x) : r v = some x := h
theorem ifT {α : Type} {c : Bool} {x y z : α} (h : (if c = true then x else y) = z) (hc : c = true) : x = z := by rw [if_pos hc] at h; exact h
theorem ifF {α : Type} {c : Bool} {x y z : α} (h : (if c = true then x else y) = z) (hc : c = false) : y = z := by rw [hc, if_neg Bool.false_ne_true] at h; exact h
def appO {α : Type} (l : List α) (x : α) : Option (List α) := gd (l.length < 1000000) (l ++ [x])
def setO {α : Type} (l : List α) (k : Nat) (x : α) : Option (List α) := gd (k < l.length) (l.set k x)
def repO {α : Type} (l : List α) (n : Nat) : Option (List α) := gd (n ≤ 1000000 ∧ l.length * n ≤ 1000000) (List.replicate n l).flatten
def eqD (a b : PyData) : Option Bool := gd (min a.depth b.depth ≤ 60) (PyData.eqv a b)
section
variable {α β γ δ ε ρ : Type}
def RP0 (f : Option ρ) (er : ρ → PyData) (ds : List PyData) (r : PyData) : Prop := ∃ v, f = some v ∧ ds = [] ∧ r = er v
def RP1 (f : α → Option ρ) (ea : α → PyData) (er : ρ → PyData) (ds : List PyData) (r : PyData) : Prop := ∃ a v, f a = some v ∧ ds = [ea a] ∧ r = er v
def RP2 (f : α → β → Option ρ) (ea : α → PyData) (eb : β → PyData) (er : ρ → PyData) (ds : List PyData) (r : PyData) : Prop := ∃ a b v, f a b = some v ∧ ds = [ea a, eb b] ∧ r = er v
def RP3 (f : α → β → γ → Option ρ) (ea : α → PyData) (eb : β → PyData) (ec : γ → PyData) (er : ρ → PyData) (ds : List PyData) (r : PyData) : Prop := ∃ a b c v, f a b c = some v ∧ ds = [ea a, eb b, ec c] ∧ r = er v
def RP4 (f : α → β → γ → δ → Option ρ) (ea : α → PyData) (eb : β → PyData) (ec : γ → PyData) (ed : δ → PyData) (er : ρ → PyData) (ds : List PyData) (r : PyData) : Prop := ∃ a b c d v, f a b c d = some v ∧ ds = [ea a, eb b, ec c, ed d] ∧ r = er v
def RP5 (f : α → β → γ → δ → ε → Option ρ) (ea : α → PyData) (eb : β → PyData) (ec : γ → PyData) (ed : δ → PyData) (ee : ε → PyData) (er : ρ → PyData) (ds : List PyData) (r : PyData) : Prop := ∃ a b c d e v, f a b c d e = some v ∧ ds = [ea a, eb b, ec c, ed d, ee e] ∧ r = er v
def RD0 (f : DS → Option (ρ × DS)) (er : ρ → PyData) (avs : List AV) (mo : MO) (Post : PyData → MO → Prop) : Prop := ∃ m v, f m = some v ∧ avs = [.o 0] ∧ mo = drM m ∧ Post = fun r mo' => r = er v.1 ∧ mo' = drM v.2
def RD1 (f : DS → α → Option (ρ × DS)) (ea : α → PyData) (er : ρ → PyData) (avs : List AV) (mo : MO) (Post : PyData → MO → Prop) : Prop := ∃ m a v, f m a = some v ∧ avs = [.o 0, .d (ea a)] ∧ mo = drM m ∧ Post = fun r mo' => r = er v.1 ∧ mo' = drM v.2
def RD2 (f : DS → α → β → Option (ρ × DS)) (ea : α → PyData) (eb : β → PyData) (er : ρ → PyData) (avs : List AV) (mo : MO) (Post : PyData → MO → Prop) : Prop := ∃ m a b v, f m a b = some v ∧ avs = [.o 0, .d (ea a), .d (eb b)] ∧ mo = drM m ∧ Post = fun r mo' => r = er v.1 ∧ mo' = drM v.2
def RD3 (f : DS → α → β → γ → Option (ρ × DS)) (ea : α → PyData) (eb : β → PyData) (ec : γ → PyData) (er : ρ → PyData) (avs : List AV) (mo : MO) (Post : PyData → MO → Prop) : Prop := ∃ m a b c v, f m a b c = some v ∧ avs = [.o 0, .d (ea a), .d (eb b), .d (ec c)] ∧ mo = drM m ∧ Post = fun r mo' => r = er v.1 ∧ mo' = drM v.2
variable {K : PySem.W.Frag} {S : AS} {t u : TS} {ta tb tc te : TE} {A : AE} {a a1 a2 : AV} {mu mu1 mu2 mu3 : Mu} {ea : α → PyData} {eb : β → PyData} {ec : γ → PyData} {er : ρ → PyData} {i j : Nat} {E : XK}
theorem xe_D0 {f : DS → Option (ρ × DS)} {m : DS} {r : ρ × DS} (h : f m = some r) (hi : S.sl[i]? = some (some (.o j))) (hm : S.mu[j]? = some (drM m)) :
    XE K (tCall (spD K (RD0 f er)) [] E (tCons (tVar i) tNil)) S (.d (er r.1)) (S.mu.set j (drM r.2)) :=
  ew_callD (AVs.ew (av_cons (ev_var hi) av_nil) ⟨j, drM m, [.o 0], _, hm, rfl, ⟨m, r, h, rfl, rfl, rfl⟩, fun r' m' ⟨e1, e2⟩ => by subst e1 e2; exact ⟨rfl, rfl⟩⟩)
theorem xe_D1 {f : DS → α → Option (ρ × DS)} {m : DS} {x : α} {r : ρ × DS} (h : f m x = some r) (hi : S.sl[i]? = some (some (.o j))) (hx : XE K ta S (.d (ea x)) mu) (hm : mu[j]? = some (drM m)) :
    XE K (tCall (spD K (RD1 f ea er)) [] E (tCons (tVar i) (tCons ta tNil))) S (.d (er r.1)) (mu.set j (drM r.2)) :=
  ew_callD ((xa_cons (ev_var hi) (xa_cons hx xa_nil)).ew ⟨j, drM m, [.o 0, .d (ea x)], _, hm, rfl, ⟨m, x, r, h, rfl, rfl, rfl⟩, fun r' m' ⟨e1, e2⟩ => by subst e1 e2; exact ⟨rfl, rfl⟩⟩)
theorem xe_D2 {f : DS → α → β → Option (ρ × DS)} {m : DS} {x : α} {y : β} {r : ρ × DS} (h : f m x y = some r) (hi : S.sl[i]? = some (some (.o j))) (hx : XE K ta S (.d (ea x)) mu1) (hy : XE K tb ⟨S.sl, mu1⟩ (.d (eb y)) mu) (hm : mu[j]? = some (drM m)) :
    XE K (tCall (spD K (RD2 f ea eb er)) [] E (tCons (tVar i) (tCons ta (tCons tb tNil)))) S (.d (er r.1)) (mu.set j (drM r.2)) :=
  ew_callD ((xa_cons (ev_var hi) (xa_cons hx (xa_cons hy xa_nil))).ew ⟨j, drM m, [.o 0, .d (ea x), .d (eb y)], _, hm, rfl, ⟨m, x, y, r, h, rfl, rfl, rfl⟩, fun r' m' ⟨e1, e2⟩ => by subst e1 e2; exact ⟨rfl, rfl⟩⟩)
theorem xe_D3 {f : DS → α → β → γ → Option (ρ × DS)} {m : DS} {x : α} {y : β} {z : γ} {r : ρ × DS} (h : f m x y z = some r) (hi : S.sl[i]? = some (some (.o j))) (hx : XE K ta S (.d (ea x)) mu1) (hy : XE K tb ⟨S.sl, mu1⟩ (.d (eb y)) mu2) (hz : XE K tc ⟨S.sl, mu2⟩ (.d (ec z)) mu) (hm : mu[j]? = some (drM m)) :
    XE K (tCall (spD K (RD3 f ea eb ec er)) [] E (tCons (tVar i) (tCons ta (tCons tb (tCons tc tNil))))) S (.d (er r.1)) (mu.set j (drM r.2)) :=
  ew_callD ((xa_cons (ev_var hi) (xa_cons hx (xa_cons hy (xa_cons hz xa_nil)))).ew ⟨j, drM m, [.o 0, .d (ea x), .d (eb y), .d (ec z)], _, hm, rfl, ⟨m, x, y, z, r, h, rfl, rfl, rfl⟩, fun r' m' ⟨e1, e2⟩ => by subst e1 e2; exact ⟨rfl, rfl⟩⟩)
/-! lazy parts -/
theorem ev_andO {b c : Bool} {o : Option Bool} (ha : EV K ta S (dB b)) (h : (if b = true then o else some false) = some c) (k : ∀ v, o = some v → EV K tb S (dB v)) : EV K (tAndV ta tb) S (dB c) :=
  xe_and ha (fun hb => k c (ifT h hb)) fun hb => ⟨(Option.some.inj (ifF h hb)).symm, rfl⟩
theorem ev_orO {b c : Bool} {o : Option Bool} (ha : EV K ta S (dB b)) (h : (if b = true then some true else o) = some c) (k : ∀ v, o = some v → EV K tb S (dB v)) : EV K (tOrV ta tb) S (dB c) :=
  xe_or ha (fun hb => k c (ifF h hb)) fun hb => ⟨(Option.some.inj (ifT h hb)).symm, rfl⟩
theorem tv_andO {tt uu : TT} {b c : Bool} {o : Option Bool} (ha : TV K tt S b) (h : (if b = true then o else some false) = some c) (k : ∀ v, o = some v → TV K uu S v) : TV K (tAnd tt uu) S c :=
  xt_and ha (fun hb => k c (ifT h hb)) fun hb => ⟨(Option.some.inj (ifF h hb)).symm, rfl⟩
theorem tv_orO {tt uu : TT} {b c : Bool} {o : Option Bool} (ha : TV K tt S b) (h : (if b = true then some true else o) = some c) (k : ∀ v, o = some v → TV K uu S v) : TV K (tOr tt uu) S c :=
  xt_or ha (fun hb => k c (ifF h hb)) fun hb => ⟨(Option.some.inj (ifT h hb)).symm, rfl⟩
theorem xe_andS (M : DS → Mu) {m : DS} {b : Bool} {r : Bool × DS} {o : Option (Bool × DS)} (ha : XE K ta S (dB b) (M m)) (h : (if b = true then o else some (false, m)) = some r) (k : ∀ v, o = some v → XE K tb ⟨S.sl, M m⟩ (dB v.1) (M v.2)) : XE K (tAndV ta tb) S (dB r.1) (M r.2) :=
  xe_and ha (fun hb => k r (ifT h hb)) fun hb => by have := Option.some.inj (ifF h hb); subst this; exact ⟨rfl, rfl⟩
theorem xe_orS (M : DS → Mu) {m : DS} {b : Bool} {r : Bool × DS} {o : Option (Bool × DS)} (ha : XE K ta S (dB b) (M m)) (h : (if b = true then some (true, m) else o) = some r) (k : ∀ v, o = some v → XE K tb ⟨S.sl, M m⟩ (dB v.1) (M v.2)) : XE K (tOrV ta tb) S (dB r.1) (M r.2) :=
  xe_or ha (fun hb => k r (ifF h hb)) fun hb => by have := Option.some.inj (ifT h hb); subst this; exact ⟨rfl, rfl⟩
theorem xt_andS (M : DS → Mu) {tt uu : TT} {m : DS} {b : Bool} {r : Bool × DS} {o : Option (Bool × DS)} (ha : XT K tt S b (M m)) (h : (if b = true then o else some (false, m)) = some r) (k : ∀ v, o = some v → XT K uu ⟨S.sl, M m⟩ v.1 (M v.2)) : XT K (tAnd tt uu) S r.1 (M r.2) :=
  xt_and ha (fun hb => k r (ifT h hb)) fun hb => by have := Option.some.inj (ifF h hb); subst this; exact ⟨rfl, rfl⟩
theorem xt_orS (M : DS → Mu) {tt uu : TT} {m : DS} {b : Bool} {r : Bool × DS} {o : Option (Bool × DS)} (ha : XT K tt S b (M m)) (h : (if b = true then some (true, m) else o) = some r) (k : ∀ v, o = some v → XT K uu ⟨S.sl, M m⟩ v.1 (M v.2)) : XT K (tOr tt uu) S r.1 (M r.2) :=
  xt_or ha (fun hb => k r (ifF h hb)) fun hb => by have := Option.some.inj (ifT h hb); subst this; exact ⟨rfl, rfl⟩
theorem ev_ifO {tt : TT} {c : Bool} {x : α} {o1 o2 : Option α} (ht : TV K tt S c) (h : (if c = true then o1 else o2) = some x) (k1 : ∀ v, o1 = some v → EV K ta S (.d (ea v))) (k2 : ∀ v, o2 = some v → EV K tb S (.d (ea v))) : EV K (tIf tt ta tb) S (.d (ea x)) :=
  xe_if ht (fun hb => k1 x (ifT h hb)) fun hb => k2 x (ifF h hb)
theorem xe_ifS (M : DS → Mu) {tt : TT} {m : DS} {c : Bool} {x : α × DS} {o1 o2 : Option (α × DS)} (ht : XT K tt S c (M m)) (h : (if c = true then o1 else o2) = some x) (k1 : ∀ v, o1 = some v → XE K ta ⟨S.sl, M m⟩ (.d (ea v.1)) (M v.2)) (k2 : ∀ v, o2 = some v → XE K tb ⟨S.sl, M m⟩ (.d (ea v.1)) (M v.2)) : XE K (tIf tt ta tb) S (.d (ea x.1)) (M x.2) :=
  xe_if ht (fun hb => k1 x (ifT h hb)) fun hb => k2 x (ifF h hb)
/-- a <= b <= c -/
theorem ev_chainO {r r' : R2} {b c : Bool} {o : Option Bool} (ha : EV K ta S a1) (hb : EV K tb S a2) (hr : RB K S.mu r a1 a2 (dB b)) (h : (if b = true then o else some false) = some c) (k : ∀ v, o = some v → ∃ a3, EV K tc S a3 ∧ RB K S.mu r' a2 a3 (dB v)) : EV K (tChain r r' ta tb tc) S (dB c) :=
  ew_chainX ha hb hr (fun hb => k c (ifT h hb)) fun hb => (Option.some.inj (ifF h hb)).symm
theorem evs {x y : α} (p : EV K te S (.d (ea x))) (h : some x = some y) : EV K te S (.d (ea y)) := by cases h; exact p
theorem xes {x y : α} (p : XE K te S (.d (ea x)) mu) (h : some x = some y) : XE K te S (.d (ea y)) mu := by cases h; exact p
theorem ev_coL {f : α → β} {l : List α} (h : ∀ x, eb (f x) = ea x) (p : EV K te S (.d (eL ea l))) : EV K te S (.d (eL eb (l.map f))) := by
  have : eL eb (l.map f) = eL ea l := by
    show PyData.list _ = PyData.list _
    rw [List.map_map]; exact congrArg PyData.list (List.map_congr_left fun x _ => h x)
  rw [this]; exact p
theorem ev_coT {f : α → β} {l : List α} (h : ∀ x, eb (f x) = ea x) (p : EV K te S (.d (eT ea l))) : EV K te S (.d (eT eb (l.map f))) := by
  have : eT eb (l.map f) = eT ea l := by
    show PyData.tuple _ = PyData.tuple _
    rw [List.map_map]; exact congrArg PyData.tuple (List.map_congr_left fun x _ => h x)
  rw [this]; exact p
/-! stores -/
theorem sw_appP {l l' : List α} {x : α} (h1 : appO l x = some l') (hi : S.sl[i]? = some (some (.o j))) (hj : ∃ xs0, S.mu[j]? = some (.l xs0)) (h : XE K te S (.d (ea x)) mu) (hm : mu[j]? = some (.l (l.map ea))) (k : A.nx ⟨S.sl, mu.set j (.l (l'.map ea))⟩) : SW K (tDrop (tBM K "list" rAppend (tVar i) (tCons te tNil))) S A := by
  obtain ⟨h2, rfl⟩ := gd_of h1
  obtain ⟨xs0, hj⟩ := hj
  refine sw_appX hi hj h hm (by rw [List.length_map]; exact h2) ?_
  rw [List.map_append] at k; exact k
theorem sw_setP {l l' : List α} {n : Nat} {x : α} (h1 : setO l n x = some l') (hi : S.sl[i]? = some (some (.o j))) (h : XE K te S (.d (ea x)) mu1) (hn : XE K tb ⟨S.sl, mu1⟩ (dn n) mu) (hm : mu[j]? = some (.l (l.map ea))) (k : A.nx ⟨S.sl, mu.set j (.l (l'.map ea))⟩) : SW K (tAsg te (gSub (tVar i) tb rSetL)) S A := by
  obtain ⟨h2, rfl⟩ := gd_of h1
  refine sw_setL hi (h.ew (hn.ew ⟨ea x, l.map ea, n, rfl, rfl, hm, by rw [List.length_map]; exact h2, ?_⟩))
  rw [List.map_set] at k; exact k
theorem sw_asgNE {ds : List PyData} (h : NW K te S fun ds' mu' => ds' = ds ∧ mu' = mu) (k : A.nx ⟨S.sl.set i (some (.o mu.length)), mu ++ [.l ds]⟩) : SW K (tAsg te (gName i)) S A := sw_asgN (h.mono fun _ _ ⟨e1, e2⟩ => by subst e1 e2; exact k)
theorem nw_lstE {t : TA} {l : List α} (h : XA K t S ((l.map ea).map AV.d) mu) (hl : l.length ≤ 1000000 := by first | decide | simp) : NW K (tLst t) S fun ds' mu' => ds' = l.map ea ∧ mu' = mu := nw_lst (h.ew ⟨l.map ea, rfl, by rw [List.length_map]; exact hl, rfl, rfl⟩)
theorem rep_map {l : List α} : ∀ n, (List.replicate n (l.map ea)).flatten = (List.replicate n l).flatten.map ea
  | 0 => rfl
  | n + 1 => by rw [List.replicate_succ, List.flatten_cons, rep_map n, List.replicate_succ, List.flatten_cons, List.map_append]
theorem nw_repP {l l' : List α} {n : Nat} (h1 : repO l n = some l') (h : NW K ta S fun ds' mu' => ds' = l.map ea ∧ mu' = S.mu) (hn : EV K tb S (dn n)) : NW K (tOp rMulU ta tb) S fun ds' mu' => ds' = l'.map ea ∧ mu' = S.mu := by
  obtain ⟨h2, rfl⟩ := gd_of h1
  refine nw_rep (h.mono fun ds mu ⟨e1, e2⟩ => ?_)
  subst e1 e2
  exact hn.ew ⟨n, rfl, h2.1, by rw [List.length_map]; exact h2.2, rep_map n, rfl⟩
theorem rb_eqDP {x y : PyData} {b : Bool} (h : eqD x y = some b) : RB K mu (rEqU K) (.d x) (.d y) (dB b) := by obtain ⟨h1, rfl⟩ := gd_of h; exact rb_eqX h1
theorem rb_neDP {x y : PyData} {b : Bool} (h : eqD x y = some b) : RB K mu (rNeU K) (.d x) (.d y) (dB (!b)) := by obtain ⟨h1, rfl⟩ := gd_of h; exact rb_neX h1
theorem sw_augE {ti : TIp} {x y : AV} (hx : S.sl[i]? = some (some x)) (h : XE K te S y mu) (hr : RB K mu ti x y a) (k : A.nx ⟨S.sl.set i (some a), mu⟩) : SW K (tAug i te ti) S A := sw_aug hx (h.ew ⟨a, hr, k⟩)
end
end D2
set_option Elab.async false
set_option linter.all false
set_option maxRecDepth 100000
set_option maxHeartbeats 4000000
/-! DT5: more by values; the laws' own helpers (one of a row, the same). -/
namespace D2
open PySem L2
section
variable {K : PySem.W.Frag} {S : AS} {t u : TS} {ta tb tc te : TE} {A : AE} {a a1 a2 : AV} {mu mu1 mu2 mu3 : Mu} {i j : Nat} {E : XK}
variable {α β γ ρ : Type} {ea : α → PyData} {eb : β → PyData} {e : α → PyData}
theorem xe_joinP {to te : TE} {ls : List (List Nat)} {c : List Nat} (h : EV K to S (dS [])) (h2 : XE K te S (.d (eL eS ls)) mu) (hj : joinS ls = some c) : XE K (tM1 (rJoin K) to te) S (dS c) mu := by
  obtain ⟨h1, rfl⟩ := gd_of hj
  exact ew_join (h.ew ⟨rfl, h2.ew ⟨ls, rfl, h1, rfl, rfl⟩⟩)
theorem xe_joinCP {to te : TE} {ls c : List Nat} (h : EV K to S (dS [])) (h2 : XE K te S (.d (eL eC ls)) mu) (hj : joinC ls = some c) : XE K (tM1 (rJoin K) to te) S (dS c) mu := by
  obtain ⟨h1, rfl⟩ := gd_of hj
  have e : eL eC ls = .list ((ls.map fun c => [c]).map pS) := by rw [List.map_map]; rfl
  refine ew_join (h.ew ⟨rfl, (e ▸ h2).ew ⟨ls.map fun c => [c], rfl, by rw [flat_one]; exact h1, ?_⟩⟩)
  rw [flat_one]; exact ⟨rfl, rfl⟩
theorem fil_pf {tt : TT} {S2 : AS} {mu0 : Mu} {c : Bool} {o : Option (Option β)} {y : Option β} (hm : S2.mu = mu0) (h : (if c = true then o else some none) = some y) (hc : TV K tt S2 c) (k : ∀ v, o = some v → ∃ z, v = some z ∧ EV K te S2 (.d (eb z))) :
    S2.mu = mu0 ∧ TV K tt S2 y.isSome ∧ ∀ z, y = some z → EV K te S2 (.d (eb z)) := by
  cases c with
  | true =>
    rw [if_pos rfl] at h
    obtain ⟨z, rfl, hz⟩ := k y h
    exact ⟨hm, hc, fun z' e => by cases e; exact hz⟩
  | false =>
    rw [if_neg Bool.false_ne_true] at h
    cases h
    exact ⟨hm, hc, fun z' e => nomatch e⟩
theorem ev_coO {f : α → β} {o : Option α} (h : ∀ x, eb (f x) = ea x) (p : EV K te S (.d (eO ea o))) : EV K te S (.d (eO eb (o.map f))) := by
  cases o with
  | none => exact p
  | some x => show EV K te S (.d (eb (f x))); rw [h x]; exact p
theorem ev_isiO {n : String} {o : Option α} {b : Bool} (h : EV K te S (.d (eO ea o))) (k : ∀ x, kitB (tyN (ea x)) n = some true) (k0 : kitB "NoneType" n = some false) : EV K (tCB (rIsi K) (tCons te (tCons (tC (.ty n)) tNil))) S (dB o.isSome) := by
  cases o with
  | none => exact ev_isi h k0
  | some x => exact ev_isi h (k x)
theorem ev_isiO0 {n : String} {o : Option α} (h : EV K te S (.d (eO ea o))) (k : ∀ x, kitB (tyN (ea x)) n = some false) (k0 : kitB "NoneType" n = some false) : EV K (tCB (rIsi K) (tCons te (tCons (tC (.ty n)) tNil))) S (dB false) := by
  cases o with
  | none => exact ev_isi h k0
  | some x => exact ev_isi h (k x)
/-! one of a row -/
def pick {α : Type} (m : DS) (l : List α) : Option (α × DS) := (dr m l.length).bind fun d => (l[d.1]?).bind fun x => some (x, d.2)
def pickS (m : DS) (l : List Nat) : Option (Nat × DS) := if l.length ≤ 1000000 then pick m l else none
def R_pick (avs : List AV) (mo : MO) (Post : PyData → MO → Prop) : Prop := ∃ m v m', ((∃ ds : List PyData, pick m ds = some (v, m') ∧ (avs = [.o 0, dL ds] ∨ avs = [.o 0, dT ds])) ∨ (∃ s c, pickS m s = some (c, m') ∧ avs = [.o 0, dS s] ∧ v = eC c)) ∧ mo = drM m ∧ Post = fun r mo' => r = v ∧ mo' = drM m'
theorem pick_map {m : DS} {l : List α} {r : α × DS} (h : pick m l = some r) : pick m (l.map e) = some (e r.1, r.2) := by
  unfold pick at h ⊢
  rw [List.length_map]
  obtain ⟨d, h1, h⟩ := bs h
  obtain ⟨x, h2, h⟩ := bs h
  cases h
  rw [h1]
  show (((List.map e l)[d.1]?).bind fun x => some (x, d.2)) = _
  rw [map_at? h2]; rfl
theorem xe_pickL {m : DS} {l : List α} {r : α × DS} (h : pick m l = some r) (hi : S.sl[i]? = some (some (.o j))) (hx : XE K te S (.d (eL e l)) mu) (hm : mu[j]? = some (drM m)) :
    XE K (tCall (spD K R_pick) [] E (tCons (tVar i) (tCons te tNil))) S (.d (e r.1)) (mu.set j (drM r.2)) :=
  ew_callD ((xa_cons (ev_var hi) (xa_cons hx xa_nil)).ew ⟨j, drM m, [.o 0, dL (l.map e)], _, hm, rfl, ⟨m, e r.1, r.2, .inl ⟨_, pick_map h, .inl rfl⟩, rfl, rfl⟩, fun r' m' ⟨e1, e2⟩ => by subst e1 e2; exact ⟨rfl, rfl⟩⟩)
theorem xe_pickT {m : DS} {l : List α} {r : α × DS} (h : pick m l = some r) (hi : S.sl[i]? = some (some (.o j))) (hx : XE K te S (.d (eT e l)) mu) (hm : mu[j]? = some (drM m)) :
    XE K (tCall (spD K R_pick) [] E (tCons (tVar i) (tCons te tNil))) S (.d (e r.1)) (mu.set j (drM r.2)) :=
  ew_callD ((xa_cons (ev_var hi) (xa_cons hx xa_nil)).ew ⟨j, drM m, [.o 0, dT (l.map e)], _, hm, rfl, ⟨m, e r.1, r.2, .inl ⟨_, pick_map h, .inr rfl⟩, rfl, rfl⟩, fun r' m' ⟨e1, e2⟩ => by subst e1 e2; exact ⟨rfl, rfl⟩⟩)
theorem xe_pickS {m : DS} {l : List Nat} {r : Nat × DS} (h : pickS m l = some r) (hi : S.sl[i]? = some (some (.o j))) (hx : XE K te S (dS l) mu) (hm : mu[j]? = some (drM m)) :
    XE K (tCall (spD K R_pick) [] E (tCons (tVar i) (tCons te tNil))) S (.d (eC r.1)) (mu.set j (drM r.2)) :=
  ew_callD ((xa_cons (ev_var hi) (xa_cons hx xa_nil)).ew ⟨j, drM m, [.o 0, dS l], _, hm, rfl, ⟨m, eC r.1, r.2, .inr ⟨l, r.1, h, rfl, rfl⟩, rfl, rfl⟩, fun r' m' ⟨e1, e2⟩ => by subst e1 e2; exact ⟨rfl, rfl⟩⟩)
/-! the same -/
def fits : Nat → PyData → Bool
  | 0, _ => false
  | n + 1, .list ds => decide (ds.length ≤ 1000000) && ds.all (fits n)
  | n + 1, .tuple ds => decide (ds.length ≤ 1000000) && ds.all (fits n)
  | _ + 1, .dict _ => false
  | _ + 1, _ => true
def R_same (n : Nat) (ds : List PyData) (r : PyData) : Prop := ∃ d, fits n d = true ∧ ds = [d, d] ∧ r = .bool true
def sameO [DecidableEq α] (e : α → PyData) (a b : α) : Option Bool := gd (a = b ∧ fits 5 (e a) = true) true
theorem xe_same [DecidableEq α] {x y : α} {v : Bool} (h : sameO e x y = some v) (ha : XE K ta S (.d (e x)) mu1) (hb : XE K tb ⟨S.sl, mu1⟩ (.d (e y)) mu) : XE K (tCall (spP K (R_same 5)) [] E (tCons ta (tCons tb tNil))) S (dB v) mu := by
  obtain ⟨⟨h1, h2⟩, rfl⟩ := gd_of h
  subst h1
  exact xe_call (ds := [e x, e x]) (r := .bool true) (xa_cons ha (xa_cons hb xa_nil)) ⟨e x, h2, rfl, rfl⟩
theorem sameO_eq [DecidableEq α] {x y : α} (h : x = y) (h2 : fits 5 (e x) = true) : sameO e x y = some true := gd_eq ⟨h, h2⟩
theorem fits_N {n : Nat} (a : Nat) : fits (n + 1) (eN a) = true := by simp [fits]
theorem fits_Z {n : Nat} (a : Int) : fits (n + 1) (eZ a) = true := by simp [fits]
theorem fits_B {n : Nat} (a : Bool) : fits (n + 1) (eB a) = true := by simp [fits]
theorem fits_S {n : Nat} (a : List Nat) : fits (n + 1) (eS a) = true := by simp [fits]
theorem fits_C {n : Nat} (a : Nat) : fits (n + 1) (eC a) = true := by simp [fits]
theorem fits_U {n : Nat} (a : Unit) : fits (n + 1) (eU a) = true := by simp [fits]
theorem fits_L {n : Nat} {l : List α} (h : l.length ≤ 1000000) (k : ∀ x ∈ l, fits n (e x) = true) : fits (n + 1) (eL e l) = true := by
  simp only [fits, List.length_map, Bool.and_eq_true, decide_eq_true_eq, List.all_eq_true]
  exact ⟨h, fun y hy => by obtain ⟨x, hx, rfl⟩ := List.mem_map.mp hy; exact k x hx⟩
theorem fits_T {n : Nat} {l : List α} (h : l.length ≤ 1000000) (k : ∀ x ∈ l, fits n (e x) = true) : fits (n + 1) (eT e l) = true := by
  simp only [fits, List.length_map, Bool.and_eq_true, decide_eq_true_eq, List.all_eq_true]
  exact ⟨h, fun y hy => by obtain ⟨x, hx, rfl⟩ := List.mem_map.mp hy; exact k x hx⟩
theorem fits_O {n : Nat} {o : Option α} (k : ∀ x, o = some x → fits (n + 1) (e x) = true) : fits (n + 1) (eO e o) = true := by
  cases o with
  | none => simp [fits]
  | some x => exact k x rfl
theorem fits_P1 {n : Nat} {p : α} (h : fits n (e p) = true) : fits (n + 1) (eP1 e p) = true := by simp [fits, h]
theorem fits_P {n : Nat} {f : β → PyData} {p : α × β} (h : fits n (e p.1) = true) (k : fits n (f p.2) = true) : fits (n + 1) (eP e f p) = true := by simp [fits, h, k]
theorem fits_P3 {n : Nat} {f : β → PyData} {g : γ → PyData} {p : α × β × γ} (h : fits n (e p.1) = true) (k : fits n (f p.2.1) = true) (k2 : fits n (g p.2.2) = true) : fits (n + 1) (eP3 e f g p) = true := by simp [fits, h, k, k2]
/-! least, greatest, sums, places -/
def minN (l : List Nat) : Option Nat := l.min?
def maxN (l : List Nat) : Option Nat := l.max?
theorem map_eN (l : List Nat) : l.map eN = (l.map fun (n : Nat) => (n : Int)).map PyData.int := by rw [List.map_map]; rfl
theorem ra_minNP {l : List Nat} {m : Nat} (h : minN l = some m) : RA K mu (rMinU K) [.d (eL eN l)] (dn m) := by
  obtain ⟨h1, h2⟩ := List.min?_eq_some_iff.mp h
  show RA K mu (rMinU K) [dL (l.map eN)] _
  rw [map_eN]
  exact ra_minL (List.mem_map.mpr ⟨m, h1, rfl⟩) fun y hy => by obtain ⟨x, hx, rfl⟩ := List.mem_map.mp hy; have := h2 x hx; omega
theorem ra_maxNP {l : List Nat} {m : Nat} (h : maxN l = some m) : RA K mu (rMaxU K) [.d (eL eN l)] (dn m) := by
  obtain ⟨h1, h2⟩ := List.max?_eq_some_iff.mp h
  show RA K mu (rMaxU K) [dL (l.map eN)] _
  rw [map_eN]
  exact ra_maxL (List.mem_map.mpr ⟨m, h1, rfl⟩) fun y hy => by obtain ⟨x, hx, rfl⟩ := List.mem_map.mp hy; have := h2 x hx; omega
theorem ra_sumZ {l : List Int} : RA K mu (rSum K) [.d (eL eZ l)] (dI l.sum) := ra_sum
theorem sum_cast : ∀ l : List Nat, ((l.map fun (n : Nat) => (n : Int)).sum) = ((l.sum : Nat) : Int)
  | [] => rfl
  | x :: xs => by rw [List.map_cons, List.sum_cons, sum_cast xs, List.sum_cons]; omega
theorem ra_sumN {l : List Nat} : RA K mu (rSum K) [.d (eL eN l)] (dn l.sum) := by
  show RA K mu (rSum K) [dL (l.map eN)] (dI _)
  rw [map_eN, ← sum_cast]; exact ra_sum
/-- the first place -/
def idxF [DecidableEq α] (x : α) : List α → Nat
  | [] => 0
  | y :: ys => if y = x then 0 else idxF x ys + 1
def idxL [DecidableEq α] (l : List α) (x : α) : Option Nat := gd (x ∈ l) (idxF x l)
theorem idxF_at [DecidableEq α] {x : α} : ∀ {l : List α}, x ∈ l → l[idxF x l]? = some x ∧ ∀ m, m < idxF x l → l[m]? ≠ some x
  | [], h => by simp at h
  | y :: ys, h => by
    unfold idxF
    by_cases c : y = x
    · rw [if_pos c]; exact ⟨by rw [c]; rfl, fun m hm => absurd hm (Nat.not_lt_zero m)⟩
    · rw [if_neg c]
      have h2 : x ∈ ys := by
        rcases List.mem_cons.mp h with e | e
        · exact absurd e.symm c
        · exact e
      obtain ⟨h3, h4⟩ := idxF_at h2
      refine ⟨by rw [List.getElem?_cons_succ]; exact h3, fun m hm => ?_⟩
      cases m with
      | zero => rw [List.getElem?_cons_zero]; exact fun z => c (Option.some.inj z)
      | succ m => rw [List.getElem?_cons_succ]; exact h4 m (by omega)
theorem idxL_at [DecidableEq α] {l : List α} {x : α} {n : Nat} (h : idxL l x = some n) : l[n]? = some x ∧ ∀ m, m < n → l[m]? ≠ some x := by
  obtain ⟨h1, rfl⟩ := gd_of h
  exact idxF_at h1
theorem rm_sidxP {l : List Nat} {c n : Nat} (h : idxL l c = some n) : RM K mu rSIdx (dS l) [.d (eC c)] (dn n) := let ⟨h1, h2⟩ := idxL_at h; rm_sidx h1 h2
theorem rm_idxLS {l : List (List Nat)} {x : List Nat} {n : Nat} (h : idxL l x = some n) : RM K mu (rIndex K) (.d (eL eS l)) [dS x] (dn n) := let ⟨h1, h2⟩ := idxL_at h; rm_indexS h1 h2
theorem rm_idxOS {j : Nat} {l : List (List Nat)} {x : List Nat} {n : Nat} (hm : mu[j]? = some (.l (l.map eS))) (h : idxL l x = some n) : RM K mu (rIndex K) (.o j) [dS x] (dn n) := let ⟨h1, h2⟩ := idxL_at h; rm_indexOS hm h1 h2
theorem rm_idxLN {l : List Nat} {x n : Nat} (h : idxL l x = some n) : RM K mu (rIndex K) (.d (eL eN l)) [dn x] (dn n) := by
  obtain ⟨h1, h2⟩ := idxL_at h
  show RM K mu (rIndex K) (dL (l.map eN)) _ _
  rw [map_eN]
  refine rm_indexI (by rw [List.getElem?_map, h1]; rfl) fun m hm z => h2 m hm ?_
  rw [List.getElem?_map] at z
  cases c : l[m]? with
  | none => rw [c] at z; cases z
  | some y =>
    rw [c] at z
    have : (y : Int) = (x : Int) := Option.some.inj z
    rw [show y = x by omega]
/-! what is walked, further -/
theorem own_ty' {j : Nat} {l : List α} (hm : mu[j]? = some (.l (l.map e))) : TyR K mu "list" (.o j) := ty_own hm
theorem ra_listOE {j : Nat} {l : List α} (hm : mu[j]? = some (.l (l.map e))) : RA K mu (rListU K) [.o j] (.d (eL e l)) := fun as fr H vs hk r Q k => by
  cases r with
  | cons r1 r =>
    cases r
    obtain ⟨p, hp, e⟩ := r1
    subst e
    obtain ⟨vs, hv, ha⟩ := hk.mu.2 j p _ hp hm
    exact ⟨_, _, rfl, .inl (sqL_of hv), fun q hq => k.lst hk hq ha⟩
/-! data of any kind -/
theorem evo {o : Option α} {v : α} (p : XE K te S (.d (eO e o)) mu) (h : o = some v) : XE K te S (.d (e v)) mu := by subst h; exact p
def asS : PyData → Option (List Nat)
  | .str z => some z.cps.toList
  | _ => none
def asN : PyData → Option Nat
  | .int i => gd (0 ≤ i) i.toNat
  | _ => none
def asZ : PyData → Option Int
  | .int i => some i
  | _ => none
def asB : PyData → Option Bool
  | .bool i => some i
  | _ => none
def asL : PyData → Option (List PyData)
  | .list l => some l
  | _ => none
def asT : PyData → Option (List PyData)
  | .tuple l => some l
  | _ => none
theorem asS_of {d : PyData} {l : List Nat} (h : asS d = some l) : d = eS l := by
  cases d <;> first | (cases h; done) | skip
  cases h; rfl
theorem asN_of {d : PyData} {l : Nat} (h : asN d = some l) : d = eN l := by
  cases d <;> first | (cases h; done) | skip
  obtain ⟨h1, rfl⟩ := gd_of h
  show PyData.int _ = PyData.int _
  rw [Int.toNat_of_nonneg h1]
theorem asZ_of {d : PyData} {l : Int} (h : asZ d = some l) : d = eZ l := by
  cases d <;> first | (cases h; done) | skip
  cases h; rfl
theorem asB_of {d : PyData} {l : Bool} (h : asB d = some l) : d = eB l := by
  cases d <;> first | (cases h; done) | skip
  cases h; rfl
theorem asL_of {d : PyData} {l : List PyData} (h : asL d = some l) : d = eL eD l := by
  cases d <;> first | (cases h; done) | skip
  cases h; simp
theorem asT_of {d : PyData} {l : List PyData} (h : asT d = some l) : d = eT eD l := by
  cases d <;> first | (cases h; done) | skip
  cases h; simp
theorem evd {d d' : PyData} (p : XE K te S (.d d) mu) (h : d = d') : XE K te S (.d d') mu := h ▸ p
theorem mapO_of {f : PyData → Option α} (hf : ∀ d a, f d = some a → d = e a) : ∀ {l : List PyData} {ws : List α}, mapO f l = some ws → l.map eD = ws.map e
  | [], ws, h => by rw [mapO] at h; cases h; rfl
  | x :: xs, ws, h => by
    rw [mapO] at h
    obtain ⟨y, h1, h⟩ := bs h
    obtain ⟨ys, h2, h⟩ := bs h
    cases h
    rw [List.map_cons, List.map_cons, mapO_of hf h2, ← hf _ _ h1]
theorem asLO_of {f : PyData → Option α} (hf : ∀ d a, f d = some a → d = e a) {l : List PyData} {ws : List α} (h : mapO f l = some ws) : eL eD l = eL e ws := congrArg PyData.list (mapO_of hf h)
theorem asTO_of {f : PyData → Option α} (hf : ∀ d a, f d = some a → d = e a) {l : List PyData} {ws : List α} (h : mapO f l = some ws) : eT eD l = eT e ws := congrArg PyData.tuple (mapO_of hf h)
def lenD : PyData → Option Nat
  | .str z => lenS z.cps.toList
  | .list l => some l.length
  | .tuple l => some l.length
  | _ => none
theorem ra_lenD {d : PyData} {n : Nat} (h : lenD d = some n) : RA K mu (rLen K) [.d d] (dn n) := by
  cases d <;> first | (cases h; done) | skip
  · exact ra_lenP (a := _) h
  · cases h; exact ra_lenL
  · cases h; exact ra_lenT
def ixD : PyData → Nat → Option PyData
  | .str z, n => (ixS z.cps.toList n).bind fun c => some (eC c)
  | .list l, n => l[n]?
  | .tuple l, n => l[n]?
  | _, _ => none
theorem rb_ixDP {d x : PyData} {n : Nat} (h : ixD d n = some x) : RB K mu (rIx K) (.d d) (dn n) (.d x) := by
  cases d <;> first | (cases h; done) | skip
  · obtain ⟨c, h1, h⟩ := bs h
    cases h; exact rb_ixSP h1
  · exact rb_ixLN h
  · exact rb_ixTN h
theorem rb_isND {d : PyData} : RB K mu (fun x y H Q => y = .non ∧ Q (.bl (decide (x = .non))) H) (.d d) dN (dB (match d with | .none => true | _ => false)) := rb_isN
def isNoneD (d : PyData) : Bool := match d with | .none => true | _ => false
theorem rb_isD {d : PyData} : RB K mu (fun x y H Q => y = .non ∧ Q (.bl (decide (x = .non))) H) (.d d) dN (dB (isNoneD d)) := rb_isN
theorem rb_notD {d : PyData} : RB K mu (fun x y H Q => y = .non ∧ Q (.bl (!decide (x = .non))) H) (.d d) dN (dB (!isNoneD d)) := rb_is rb_notN (by cases d <;> rfl)
end
end D2
set_option Elab.async false
set_option linter.all false
set_option maxRecDepth 100000
set_option maxHeartbeats 4000000
/-! DT6: counts, gcd, abs, orders, sorted. -/
namespace D2
open PySem L2
open PySem.W (dataLt alike alikeAll AlikeAll minD maxD AllAlike Sortable dataLe)
section
variable {K : PySem.W.Frag} {S : AS} {mu : Mu} {j : Nat} {α β γ δ : Type} {e : α → PyData}
theorem cnt_count (c : Nat) : ∀ l : List Nat, PyProof.Rows.cnt c l = ((l.count c : Nat) : Int)
  | [] => rfl
  | n :: r => by
    rw [PyProof.Rows.cnt_cons, cnt_count c r, List.count_cons]
    by_cases h : n = c
    · subst h; simp; omega
    · have : (n == c) = false := beq_false_of_ne h
      rw [if_neg h, this]; simp
theorem rm_cnt {l : List Nat} {c : Nat} : RM K mu (fun x xs H Q => ∃ a b, x = .str a ∧ xs = [.str b] ∧ Q (.int (Txt.count a b)) H) (dS l) [.d (eC c)] (dn (l.count c)) := fun as fr H v vs hk r1 r2 Q k => by
  cases r1
  cases r2 with
  | cons r2 r3 =>
    cases r3
    cases r2
    refine ⟨_, _, rfl, rfl, ?_⟩
    have e1 : (⟨[c].toArray⟩ : Str) = ⟨#[c]⟩ := rfl
    rw [e1, PyProof.Rows.count_cnt, cnt_count]
    exact k.int
theorem ra_gcd {a b : Nat} : RA K mu rGcd [dn a, dn b] (dn (Nat.gcd a b)) := fun as fr H vs hk r Q k => by
  cases r with
  | cons r1 r =>
    cases r with
    | cons r2 r =>
      cases r
      cases r1; cases r2
      exact ⟨_, _, rfl, k.int⟩
theorem ra_abs {i : Int} : RA K mu (fun xs H Q => ∃ i, xs = [.int i] ∧ Q (.int (if i < 0 then -i else i)) H) [dI i] (dn i.natAbs) := fun as fr H vs hk r Q k => by
  cases r with
  | cons r1 r =>
    cases r
    cases r1
    refine ⟨_, rfl, ?_⟩
    have e1 : (if i < 0 then -i else i) = ((i.natAbs : Nat) : Int) := by split <;> omega
    rw [e1]; exact k.int
/-! orders -/
structure OrE (e : α → PyData) (lt : α → α → Bool) : Prop where
  al : ∀ a b, alike (e a) (e b) = true
  lt : ∀ a b, dataLt (e a) (e b) = lt a b
def ltN (a b : Nat) : Bool := decide (a < b)
def ltZ (a b : Int) : Bool := decide (a < b)
def ltS (a b : List Nat) : Bool := decide (a < b)
def ltC (a b : Nat) : Bool := decide (a < b)
def ltL [DecidableEq α] (lt : α → α → Bool) : List α → List α → Bool
  | [], [] => false
  | [], _ :: _ => true
  | _ :: _, [] => false
  | x :: xs, y :: ys => if x = y then ltL lt xs ys else lt x y
def ltP [DecidableEq α] [DecidableEq β] (l : α → α → Bool) (m : β → β → Bool) (a b : α × β) : Bool := if a.1 = b.1 then m a.2 b.2 else l a.1 b.1
def ltP3 [DecidableEq α] [DecidableEq β] [DecidableEq γ] (l : α → α → Bool) (m : β → β → Bool) (n : γ → γ → Bool) (a b : α × β × γ) : Bool := if a.1 = b.1 then (if a.2.1 = b.2.1 then n a.2.2 b.2.2 else m a.2.1 b.2.1) else l a.1 b.1
theorem or_N : OrE eN ltN := ⟨fun _ _ => rfl, fun a b => by
  rw [PySem.W.dataLt_int]; unfold ltN
  by_cases h : a < b
  · rw [decide_eq_true h, decide_eq_true (by omega)]
  · rw [decide_eq_false h, decide_eq_false (by omega)]⟩
theorem or_Z : OrE eZ ltZ := ⟨fun _ _ => rfl, fun a b => PySem.W.dataLt_int a b⟩
theorem or_S : OrE eS ltS := ⟨fun _ _ => rfl, fun a b => PySem.W.dataLt_str _ _⟩
theorem or_C : OrE eC ltC := ⟨fun _ _ => rfl, fun a b => by
  rw [PySem.W.dataLt_str]
  show decide ([a] < [b]) = decide (a < b)
  have : ([a] < [b]) ↔ a < b := by
    constructor
    · intro z
      cases z with
      | rel z => exact z
      | cons z => cases z
    · intro h; exact List.Lex.rel h
  exact decide_eq_decide.mpr this⟩
theorem alike_map {lt : α → α → Bool} (h : OrE e lt) : ∀ a b : List α, alikeAll (a.map e) (b.map e) = true
  | [], _ => by rw [List.map_nil, alikeAll]
  | _ :: _, [] => by rw [List.map_nil, List.map_cons, alikeAll]
  | x :: xs, y :: ys => by rw [List.map_cons, List.map_cons, alikeAll, h.al x y, alike_map h xs ys]; rfl
theorem lt_map [DecidableEq α] {lt : α → α → Bool} (h : OrE e lt) (q : EqE e) : ∀ a b : List α, PyProof.Rows.lexLt PyProof.Rows.itemOrd (PySem.W.keyToksAll (a.map e)) (PySem.W.keyToksAll (b.map e)) = ltL lt a b
  | [], [] => rfl
  | [], y :: ys => by rw [List.map_nil, List.map_cons, PySem.W.keyToksAll, PySem.W.keyToksAll]; rfl
  | x :: xs, [] => by rw [List.map_nil, List.map_cons, PySem.W.keyToksAll, PySem.W.keyToksAll]; rfl
  | x :: xs, y :: ys => by
    rw [List.map_cons, List.map_cons, PySem.W.dataLt_cons (h.al x y), q x y, lt_map h q xs ys, h.lt x y, ltL]
    by_cases c : x = y
    · rw [if_pos c, if_pos (decide_eq_true c)]
    · rw [if_neg c, if_neg (by rw [decide_eq_false c]; exact Bool.false_ne_true)]
theorem or_L [DecidableEq α] {lt : α → α → Bool} (h : OrE e lt) (q : EqE e) : OrE (eL e) (ltL lt) := ⟨fun a b => by rw [alike]; exact alike_map h a b, fun a b => by rw [PySem.W.dataLt_list]; exact lt_map h q a b⟩
theorem or_T [DecidableEq α] {lt : α → α → Bool} (h : OrE e lt) (q : EqE e) : OrE (eT e) (ltL lt) := ⟨fun a b => by rw [alike]; exact alike_map h a b, fun a b => by rw [PySem.W.dataLt_tuple]; exact lt_map h q a b⟩
theorem lex_nil : PyProof.Rows.lexLt PyProof.Rows.itemOrd (PySem.W.keyToksAll []) (PySem.W.keyToksAll []) = false := by decide
theorem ifd {p : Prop} [Decidable p] {a b : Bool} : (if decide p = true then a else b) = if p then a else b := by
  by_cases c : p
  · rw [if_pos c, if_pos (decide_eq_true c)]
  · rw [if_neg c, if_neg (by rw [decide_eq_false c]; exact Bool.false_ne_true)]
theorem irr {lt : α → α → Bool} (h : OrE e lt) [DecidableEq α] (q : EqE e) (a : α) : lt a a = false := by
  rw [← h.lt]; unfold PySem.W.dataLt
  exact PyProof.Rows.lex_irrefl _
theorem or_P [DecidableEq α] [DecidableEq β] {f : β → PyData} {l : α → α → Bool} {m : β → β → Bool} (h : OrE e l) (q : EqE e) (k : OrE f m) (r : EqE f) : OrE (eP e f) (ltP l m) := ⟨fun a b => by
  rw [alike, alikeAll, alikeAll, h.al, k.al, alikeAll]; rfl, fun a b => by
  rw [PySem.W.dataLt_tuple, PySem.W.dataLt_cons (h.al _ _), PySem.W.dataLt_cons (k.al _ _), q, r, h.lt, k.lt, lex_nil, ifd, ifd, ltP]
  by_cases c : a.1 = b.1
  · rw [if_pos c, if_pos c]
    by_cases c2 : a.2 = b.2
    · rw [if_pos c2, c2, irr k r]
    · rw [if_neg c2]
  · rw [if_neg c, if_neg c]⟩
theorem or_P3 [DecidableEq α] [DecidableEq β] [DecidableEq γ] {f : β → PyData} {g : γ → PyData} {l : α → α → Bool} {m : β → β → Bool} {n : γ → γ → Bool} (h : OrE e l) (q : EqE e) (k : OrE f m) (r : EqE f) (k2 : OrE g n) (r2 : EqE g) : OrE (eP3 e f g) (ltP3 l m n) := ⟨fun a b => by
  rw [alike, alikeAll, alikeAll, alikeAll, h.al, k.al, k2.al, alikeAll]; rfl, fun a b => by
  rw [PySem.W.dataLt_tuple, PySem.W.dataLt_cons (h.al _ _), PySem.W.dataLt_cons (k.al _ _), PySem.W.dataLt_cons (k2.al _ _), q, r, r2, h.lt, k.lt, k2.lt, lex_nil, ifd, ifd, ifd, ltP3]
  by_cases c : a.1 = b.1
  · rw [if_pos c, if_pos c]
    by_cases c2 : a.2.1 = b.2.1
    · rw [if_pos c2, if_pos c2]
      by_cases c3 : a.2.2 = b.2.2
      · rw [if_pos c3, c3, irr k2 r2]
      · rw [if_neg c3]
    · rw [if_neg c2, if_neg c2]
  · rw [if_neg c, if_neg c]⟩
theorem rb_ltE {lt : α → α → Bool} {k : Nat} (h : OrE e lt) (n : NnE e) (d : DpE k e) (hk : k ≤ 60) {a b : α} : RB K mu (rLtU K) (.d (e a)) (.d (e b)) (dB (lt a b)) := by
  rw [← h.lt]; exact rb_ltX (h.al a b) (n a).2.2 (by have := d a; omega)
theorem rb_gtE {lt : α → α → Bool} {k : Nat} (h : OrE e lt) (n : NnE e) (d : DpE k e) (hk : k ≤ 60) {a b : α} : RB K mu (rGtU K) (.d (e a)) (.d (e b)) (dB (lt b a)) := by
  rw [← h.lt]; exact rb_gtX (h.al a b) (n a).2.2 (by have := d a; omega)
theorem rb_leE {lt : α → α → Bool} {k : Nat} (h : OrE e lt) (n : NnE e) (d : DpE k e) (hk : k ≤ 60) {a b : α} : RB K mu (rLeU K) (.d (e a)) (.d (e b)) (dB (!lt b a)) := by
  rw [← h.lt]; exact rb_leX (h.al a b) (n a).2.2 (by have := d a; omega)
theorem rb_geE {lt : α → α → Bool} {k : Nat} (h : OrE e lt) (n : NnE e) (d : DpE k e) (hk : k ≤ 60) {a b : α} : RB K mu (rGeU K) (.d (e a)) (.d (e b)) (dB (!lt a b)) := by
  rw [← h.lt]; exact rb_geX (h.al a b) (n a).2.2 (by have := d a; omega)
/-! sorted -/
def sortE (lt : α → α → Bool) (l : List α) : List α := l.mergeSort fun a b => !lt b a
theorem sort_map {lt : α → α → Bool} (h : OrE e lt) (l : List α) : (l.map e).mergeSort (dataLe false id) = (sortE lt l).map e := by
  unfold sortE
  rw [List.map_mergeSort (s := dataLe false id)]
  intro a _ b _
  rw [PySem.W.dataLe_eq, ← h.lt]; rfl
theorem dep_mem {k : Nat} (d : DpE k e) (hk : k ≤ 60) {l : List α} : ∀ x ∈ l.map e, x.depth ≤ 60 := fun x hx => by
  obtain ⟨a, _, rfl⟩ := List.mem_map.mp hx
  have := d a; omega
/-- what sorted takes: not tuples without items beside others -/
def SoE (e : α → PyData) : Prop := (∀ a, ∃ x r, e a = .tuple (x :: r)) ∨ ∀ a, e a ≠ .none ∧ ∀ xs, e a ≠ .tuple xs
theorem SoE.sort (h : SoE e) (l : List α) : Sortable (l.map e) := by
  rcases h with h | h
  · exact Sortable.tuples h
  · exact Sortable.others h
theorem so_N : SoE eN := .inr fun a => ⟨by simp, by simp⟩
theorem so_Z : SoE eZ := .inr fun a => ⟨by simp, by simp⟩
theorem so_S : SoE eS := .inr fun a => ⟨by simp, by simp⟩
theorem so_C : SoE eC := .inr fun a => ⟨by simp, by simp⟩
theorem so_L : SoE (eL e) := .inr fun a => ⟨by simp, by simp⟩
theorem so_P {f : β → PyData} : SoE (eP e f) := .inl fun a => ⟨_, _, rfl⟩
theorem so_P3 {f : β → PyData} {g : γ → PyData} : SoE (eP3 e f g) := .inl fun a => ⟨_, _, rfl⟩
theorem ra_sortLE {lt : α → α → Bool} {k : Nat} (h : OrE e lt) (s : SoE e) (d : DpE k e) (hk : k ≤ 60) {l : List α} : RA K mu (rSortU K) [.d (eL e l)] (.d (eL e (sortE lt l))) := by
  show RA K mu (rSortU K) [dL (l.map e)] (dL ((sortE lt l).map e))
  rw [← sort_map h]; exact ra_sortX (AllAlike.of h.al) (s.sort l) (dep_mem d hk)
theorem ra_sortOE {lt : α → α → Bool} {k : Nat} (h : OrE e lt) (s : SoE e) (d : DpE k e) (hk : k ≤ 60) {l : List α} (hm : mu[j]? = some (.l (l.map e))) : RA K mu (rSortU K) [.o j] (.d (eL e (sortE lt l))) := by
  show RA K mu (rSortU K) _ (dL ((sortE lt l).map e))
  rw [← sort_map h]; exact ra_sortO hm (AllAlike.of h.al) (s.sort l) (dep_mem d hk)
/-! least and greatest of any -/
def minE (lt : α → α → Bool) : List α → Option α
  | [] => none
  | x :: xs => some (xs.foldl (fun a y => if lt y a then y else a) x)
def maxE (lt : α → α → Bool) : List α → Option α
  | [] => none
  | x :: xs => some (xs.foldl (fun a y => if lt a y then y else a) x)
theorem min_map {lt : α → α → Bool} (h : OrE e lt) : ∀ (xs : List α) (x : α), (xs.map e).foldl (fun a y => if dataLt y a then y else a) (e x) = e (xs.foldl (fun a y => if lt y a then y else a) x)
  | [], x => rfl
  | y :: ys, x => by
    rw [List.map_cons, List.foldl_cons, List.foldl_cons, h.lt y x]
    by_cases c : lt y x = true
    · rw [if_pos c, if_pos c]; exact min_map h ys y
    · rw [if_neg c, if_neg c]; exact min_map h ys x
theorem max_map {lt : α → α → Bool} (h : OrE e lt) : ∀ (xs : List α) (x : α), (xs.map e).foldl (fun a y => if dataLt a y then y else a) (e x) = e (xs.foldl (fun a y => if lt a y then y else a) x)
  | [], x => rfl
  | y :: ys, x => by
    rw [List.map_cons, List.foldl_cons, List.foldl_cons, h.lt x y]
    by_cases c : lt x y = true
    · rw [if_pos c, if_pos c]; exact max_map h ys y
    · rw [if_neg c, if_neg c]; exact max_map h ys x
theorem alk {lt : α → α → Bool} (h : OrE e lt) (n : NnE e) (l : List α) : AlikeAll (l.map e) := ⟨fun x hx y hy => by
  obtain ⟨a, _, rfl⟩ := List.mem_map.mp hx
  obtain ⟨b, _, rfl⟩ := List.mem_map.mp hy
  exact h.al a b, fun x hx => by
  obtain ⟨a, _, rfl⟩ := List.mem_map.mp hx
  exact (n a).2.2⟩
theorem ra_minE {lt : α → α → Bool} {k : Nat} (h : OrE e lt) (n : NnE e) (d : DpE k e) (hk : k ≤ 60) {l : List α} {m : α} (hm : minE lt l = some m) : RA K mu (rMinU K) [.d (eL e l)] (.d (e m)) := by
  cases l with
  | nil => cases hm
  | cons x xs =>
    cases hm
    have := ra_minX (K := K) (mu := mu) (d := e x) (ds := xs.map e) (alk h n (x :: xs)) (by have := dp_map d (x :: xs); rw [List.map_cons] at this; omega)
    rw [← min_map h]; exact this
theorem ra_maxE {lt : α → α → Bool} {k : Nat} (h : OrE e lt) (n : NnE e) (d : DpE k e) (hk : k ≤ 60) {l : List α} {m : α} (hm : maxE lt l = some m) : RA K mu (rMaxU K) [.d (eL e l)] (.d (e m)) := by
  cases l with
  | nil => cases hm
  | cons x xs =>
    cases hm
    have := ra_maxX (K := K) (mu := mu) (d := e x) (ds := xs.map e) (alk h n (x :: xs)) (by have := dp_map d (x :: xs); rw [List.map_cons] at this; omega)
    rw [← max_map h]; exact this
end
end D2
set_option Elab.async false
set_option linter.all false
set_option maxRecDepth 100000
set_option maxHeartbeats 4000000
/-! DT7: sorted of a tuple. -/
namespace PySem.W
open PySem PyProof.Rows PySem.Spec
section
variable {prog : Program} {w : World} {A : Around} {E : Value → Shared → Prop} {s : Shared} {κ : PyProof.Rows.KeyKind} {β : Type} {bs : List β} {enc : β → PyData} {R : Value → β → Prop}
theorem collect_tup2 {l : Addr} {vs : List Value} {Q : List Value → Shared → Prop} (hl : IsTup s.heap l vs.toArray)
    (h : Q vs { s with heap := (s.heap.push (seqObj "list" #[] 0)).update s.heap.objs.size (Obj.mapSeq (· ++ vs.toArray)) }) (hsz : vs.length ≤ sizeLine) :
    wpAny (model prog w) A (collect (.ref l)) Q E s := by
  obtain ⟨o, ho, hc, n, hd⟩ := id hl
  unfold collect
  refine wpAny_bind (wpAny_runValue (codeAny_builtin entry_proto_collect' ?_))
  show wpAny _ _ (do again (.builtin "list.__iadd__" ⟨[← newList [], .ref l], []⟩)) _ _ s
  refine wpAny_bind (wpAny_newList (wpAny_pure ⟨Code.quiet_builtin _ (by decide +kernel), codeAny_builtin entry_list_iadd' ?_⟩))
  show wpAny _ _ (Builtin.List.listExtendWith (.ref s.heap.objs.size) (.ref l) (.ref s.heap.objs.size)) _ _ { s with heap := s.heap.push (seqObj "list" #[] 0) }
  unfold Builtin.List.listExtendWith
  have ho' : (s.heap.push (seqObj "list" #[] 0)).get? l = some o := Heap.get?_push_of_some _ ho
  refine wpAny_bind (wpAny_typeOf (T := "tuple") ⟨o, ho', hc⟩ ?_)
  have ht : (Value.type "tuple" == Value.type "tuple") = true := by rfl
  rw [if_pos (by rw [ht]; simp)]
  refine wpAny_bind (listItems_at ho' hd ?_)
  refine wpAny_bind (listItems_at (xs := #[]) (n := 0) (Heap.get?_push_size _ rfl) rfl ?_)
  rw [if_neg (by simp)]
  refine wpAny_bind (listUpdate_at (xs := #[]) (n := 0) (Heap.get?_push_size _ rfl) rfl ?_ (Nat.zero_le _) (by show (#[] ++ vs.toArray).size ≤ sizeLine + 1; simp only [Array.size_append, List.size_toArray, List.length_nil]; omega))
  refine wpAny_pure ?_
  show wpAny (model prog w) A (do
      let o ← load s.heap.objs.size
      match o.data with
      | .seq xs _ => pure xs.toList
      | _ => unsupported "internal:collect") Q E { s with heap := (s.heap.push (seqObj "list" #[] 0)).update s.heap.objs.size (Obj.mapSeq (· ++ vs.toArray)) }
  refine wpAny_bind (wpAny_load (get?_update_seq (Heap.get?_push_size _ rfl) _) ?_)
  show wpAny _ _ (pure ((#[] : Array Value) ++ vs.toArray).toList) Q E _
  rw [show ((#[] : Array Value) ++ vs.toArray).toList = vs by simp]
  exact wpAny_pure h
theorem sorted_of_sortT {l : Addr} {vs : List Value} {kw : List (Str × Value)} {Q : Value → Shared → Prop} (hl : IsTup s.heap l vs.toArray) (hL : vs.length ≤ sizeLine) (ha1 : argsOk "sorted" ⟨[.ref l], kw⟩) (ha2 : ∀ x, argsOk "list.sort" ⟨[.ref x], kw⟩)
    (body : ∀ E' : Value → Shared → Prop, wpAny (model prog w) A.in1.in1 (Builtin.«list.sort» ⟨[.ref (s.heap.objs.size + 1)], kw⟩) (fun f s' => f = .done (.ret .none) ∧ Q (.ref (s.heap.objs.size + 1)) s') E' { s with heap := copyHeap s.heap vs }) :
    wpAny (model prog w) A (call (.builtin "sorted") [.ref l] kw) Q E s := by
  refine call_function_entry_kw kind_sorted plain_sorted entry_sorted ha1 ?_
  unfold Builtin.«sorted»
  refine wpAny_bind (m := checkCount "sorted" 1 1 _) (wpAny_pure ?_)
  refine wpAny_bind (collect_tup2 hl ?_ hL)
  refine wpAny_bind (wpAny_newList ?_ hL)
  have hsz : ((s.heap.push (seqObj "list" #[] 0)).update s.heap.objs.size (Obj.mapSeq (· ++ vs.toArray))).objs.size = s.heap.objs.size + 1 := by
    rw [Heap.size_update, size_push']
  show wpAny _ _ _ _ _ { s with heap := copyHeap s.heap vs }
  rw [hsz]
  refine wpAny_bind (wpAny_holding (wpAny_call_entry_kw slot_list_sort ⟨_, copyHeap_at s.heap vs, rfl⟩ entry_list_sort ?body (ha2 _)))
  case body =>
    show wpAny (model prog w) A.in1.in1 (Builtin.«list.sort» ⟨[.ref (s.heap.objs.size + 1)], kw⟩) _ _ _
    refine wpAny_mono (body _) (fun f s' hf => ?_) fun _ _ e => e
    obtain ⟨rfl, hq⟩ := hf
    exact ⟨_, rfl, wpAny_pure ⟨_, rfl, hq⟩⟩
theorem sorted_valsT {l : Addr} {vs : List Value} {Q : Value → Shared → Prop} (hl : IsTup s.heap l vs.toArray) (S : SortsAt prog w A.in1.in1 { s with heap := sortingHeap (copyHeap s.heap vs) (s.heap.objs.size + 1) vs } κ vs) (hL : vs.length ≤ sizeLine)
    (h : Q (.ref (s.heap.objs.size + 1)) { s with heap := sortedAll s.heap vs (sortVals κ false vs vs).toArray }) : wpAny (model prog w) A (call (.builtin "sorted") [.ref l]) Q E s :=
  sorted_of_sortT hl hL (args_sorted1 _) (fun _ => args_list_sort _) fun _ => list_sort_vals (s := { s with heap := copyHeap s.heap vs }) (copyHeap_at s.heap vs) S hL ⟨rfl, h⟩
theorem sorted_dataT {vs : List Value} {l : Addr} {Q : Value → Shared → Prop} (hl : IsTup s.heap l vs.toArray) (e : EachIs R vs bs) (er : EachIs (fun v b => ∃ as, Reads s.heap v (enc b) as) vs bs) (hal : AllAlike (bs.map enc)) (hk : Sortable (bs.map enc)) (hL : bs.length ≤ sizeLine)
    (hu : ∀ b, b ∈ bs → A.units + 2 + (enc b).depth < cLine) (h : ∀ out, out.length = bs.length → EachIs R out (bs.mergeSort (dataLe false enc)) → Q (.ref (s.heap.objs.size + 1)) { s with heap := sortedAll s.heap vs (List.toArray out) }) :
    wpAny (model prog w) A (call (.builtin "sorted") [.ref l]) Q E s := by
  have er' : EachIs (fun v b => ∃ as, Reads (sortingHeap (copyHeap s.heap vs) (s.heap.objs.size + 1) vs) v (enc b) as) vs bs := er.mono fun _ _ ⟨as, r⟩ => ⟨as, PyProof.Rows.Reads.keeps (fun _ _ => sorting_copy_old) r⟩
  exact sorted_valsT hl (SortsAt.data (s := { s with heap := sortingHeap (copyHeap s.heap vs) (s.heap.objs.size + 1) vs }) (each_map (R := fun v d => ∃ as, Reads (sortingHeap (copyHeap s.heap vs) (s.heap.objs.size + 1) vs) v d as) enc er') hal hk (bound_map hu)) (by rw [e.length]; exact hL)
    (h _ (by rw [sortVals_length false rfl]; exact e.length) (sortVals_data false e er' hal))
end
end PySem.W
namespace D2
open PySem L2
open PySem.W (dataLt alike alikeAll AlikeAll minD maxD AllAlike Sortable dataLe)
section
variable {X : Cx}
def rSortT (K : PySem.W.Frag) : List V → Hp → VK → Prop := fun vs H Q => ∃ (a : Addr) (xs : List V) (ds : List PyData), vs = [V.ref a] ∧ SqT K H a xs ∧ DpAll K H xs ds ∧ AllAlike ds ∧ Sortable ds ∧ (∀ d ∈ ds, d.depth ≤ 60) ∧
  ∀ p : Addr, H p = none → Q (.ref p) (upd H p (.lst (((xs.zip ds).mergeSort (dataLe false fun b : V × PyData => b.2)).map (·.1))))
theorem cr_sortT (hu : X.A.units + 64 < cLine) : CallR X (.builtin "sorted") (rSortT X.K) := by
  intro pins s σ H vs us Q I r h
  obtain ⟨a, xs, ds, rfl, hs, ha, al, so, hz, q⟩ := h
  obtain ⟨its, rv, hl, hzl⟩ := I.tuple hs
  obtain ⟨e, hb⟩ := zip_each I rv ha
  have hbl := hb.length
  have hvl := rv.length
  rw [Vals.ref1 r]
  refine PySem.W.sorted_dataT (enc := fun b : V × PyData => b.2) hl hb (hb.mono fun v b ⟨rl, hd⟩ => Dp.reads I b.2 b.1 v hd rl) (by rw [e]; exact al) (by rw [e]; exact so) (by rw [← hbl, ← hvl]; exact hzl) (fun b hb2 => Nat.lt_of_le_of_lt (Nat.add_le_add_left (hz b.2 (by rw [← e]; exact List.mem_map.mpr ⟨b, hb2, rfl⟩)) _) (by omega)) fun out hlen he => ?_
  obtain ⟨ep, he'⟩ := PyProof.Rows.sortedAll_at s.heap its (List.toArray out)
  obtain ⟨o1, o2⟩ := each_out he
  refine ⟨.ref _, upd H (s.heap.objs.size + 1) (.lst _), I.laid (t' := s.toks) (fun _ _ => PyProof.Rows.sortedAll_old) (Nat.le_succ _) ⟨?_, out, ep, o1, he'⟩, rfl, q _ (I.hok.fresh (Nat.le_succ _))⟩
  rw [List.length_map, List.length_mergeSort, ← hbl, ← hvl]; exact hzl
def rSortV (K : PySem.W.Frag) : List V → Hp → VK → Prop := fun xs H Q => rSortU K xs H Q ∨ rSortT K xs H Q
theorem cr_sortV {K : PySem.W.Frag} (hK : X.K = K) (hu : X.A.units + 64 < cLine) : CallR X (.builtin "sorted") (rSortV K) := by subst hK; exact (cr_sortU rfl hu).or (cr_sortT hu)
end
section
variable {K : PySem.W.Frag} {S : AS} {mu : Mu} {j : Nat} {α : Type} {e : α → PyData}
theorem ra_orl {r r' : List V → Hp → VK → Prop} {avs : List AV} {a : AV} (h : RA K mu r avs a) : RA K mu (fun xs H Q => r xs H Q ∨ r' xs H Q) avs a := fun as fr H vs hk rv Q k => .inl (h as fr H vs hk rv Q k)
theorem ra_sortLV {lt : α → α → Bool} {k : Nat} (h : OrE e lt) (s : SoE e) (d : DpE k e) (hk : k ≤ 60) {l : List α} : RA K mu (rSortV K) [.d (eL e l)] (.d (eL e (sortE lt l))) := ra_orl (ra_sortLE h s d hk)
theorem ra_sortOV {lt : α → α → Bool} {k : Nat} (h : OrE e lt) (s : SoE e) (d : DpE k e) (hk : k ≤ 60) {l : List α} (hm : mu[j]? = some (.l (l.map e))) : RA K mu (rSortV K) [.o j] (.d (eL e (sortE lt l))) := ra_orl (ra_sortOE h s d hk hm)
theorem ra_sortTX {ds : List PyData} (al : AllAlike ds) (so : Sortable ds) (hz : ∀ d ∈ ds, d.depth ≤ 60) : RA K mu (rSortT K) [dT ds] (dL (ds.mergeSort (dataLe false id))) := fun as fr H vs hk r Q k => by
  cases r with
  | cons r1 r =>
    cases r
    cases r1 with
    | tup hs ha => exact ⟨_, _, ds, rfl, sqT_ex off_le hs, da_ex off_le ha, al, so, hz, fun p hp => k.lst hk hp (sort_dp (da_length ha) ha)⟩
theorem ra_sortTV {lt : α → α → Bool} {k : Nat} (h : OrE e lt) (s : SoE e) (d : DpE k e) (hk : k ≤ 60) {l : List α} : RA K mu (rSortV K) [.d (eT e l)] (.d (eL e (sortE lt l))) := fun as fr H vs hkk r Q kk => .inr (by
  have : RA K mu (rSortT K) [dT (l.map e)] (dL ((sortE lt l).map e)) := by rw [← sort_map h]; exact ra_sortTX (AllAlike.of h.al) (s.sort l) (dep_mem d hk)
  exact this as fr H vs hkk r Q kk)
/-! displays, in one form -/
variable {β γ δ : Type} {f : β → PyData} {g : γ → PyData} {k : δ → PyData}
theorem xe_lstE {t : TA} {l : List α} (h : XA K t S ((l.map e).map AV.d) mu) (hl : l.length ≤ 1000000 := by first | decide | simp) : XE K (tLst t) S (.d (eL e l)) mu := xe_lst h (by rw [List.length_map]; exact hl)
theorem xe_tupE {t : TA} {l : List α} (h : XA K t S ((l.map e).map AV.d) mu) (hl : l.length ≤ 1000000 := by first | decide | simp) : XE K (tTup t) S (.d (eT e l)) mu := xe_tup h (by rw [List.length_map]; exact hl)
theorem xe_tupP1 {t : TA} {a : α} (h : XA K t S [.d (e a)] mu) : XE K (tTup t) S (.d (eP1 e a)) mu := xe_tup (ds := [e a]) h
theorem xe_tupP {t : TA} {a : α} {b : β} (h : XA K t S [.d (e a), .d (f b)] mu) : XE K (tTup t) S (.d (eP e f (a, b))) mu := xe_tup (ds := [e a, f b]) h
theorem xe_tupP3 {t : TA} {a : α} {b : β} {c : γ} (h : XA K t S [.d (e a), .d (f b), .d (g c)] mu) : XE K (tTup t) S (.d (eP3 e f g (a, b, c))) mu := xe_tup (ds := [e a, f b, g c]) h
theorem xe_tupP4 {t : TA} {a : α} {b : β} {c : γ} {d : δ} (h : XA K t S [.d (e a), .d (f b), .d (g c), .d (k d)] mu) : XE K (tTup t) S (.d (eP4 e f g k (a, b, c, d))) mu := xe_tup (ds := [e a, f b, g c, k d]) h
end
end D2
set_option Elab.async false
set_option linter.all false
set_option maxRecDepth 100000
set_option maxHeartbeats 4000000
/-! DT8: tuple and list of a text. -/
namespace D2
open PySem L2 PyProof.Rows
section
variable {X : Cx}
def sgns (z : Str) : List V := z.cps.toList.map fun c => V.str ⟨#[c]⟩
theorem sgns_vals {z : Str} {acc : Array Value} (h : ItemsOf (SignAt z) acc z.cps.size) : Vals (sgns z) acc.toList := by
  have key : ∀ (l : List Nat) (vs : List Value), vs.length = l.length → (∀ (j : Nat) (v : Value), vs[j]? = some v → ∃ (c : Nat) (u : Tok), l[j]? = some c ∧ v = Value.str ⟨#[c]⟩ u) → Vals (l.map fun c => V.str ⟨#[c]⟩) vs := by
    intro l
    induction l with
    | nil =>
      intro vs hl _
      have : vs = [] := List.eq_nil_of_length_eq_zero (by simpa using hl)
      subst this; exact .nil
    | cons c r ih =>
      intro vs hl hv
      cases vs with
      | nil => simp at hl
      | cons v vs =>
        obtain ⟨c', u, e1, e2⟩ := hv 0 v rfl
        rw [List.getElem?_cons_zero] at e1
        cases e1
        subst e2
        exact .cons ⟨u, rfl⟩ (ih vs (by simpa using hl) fun j v' hj => by
          have := hv (j + 1) v' (by rw [List.getElem?_cons_succ]; exact hj)
          rwa [List.getElem?_cons_succ] at this)
  refine key _ _ (by rw [Array.length_toList, h.1, Array.length_toList]) fun j v hj => ?_
  obtain ⟨c, u, e1, e2⟩ := h.2 j v (by rw [← Array.getElem?_toList]; exact hj)
  exact ⟨c, u, by rw [Array.getElem?_toList]; exact e1, e2⟩
def rTupStr : List V → Hp → VK → Prop := fun xs H Q => ∃ z, xs = [.str z] ∧ z.cps.size ≤ sizeLine ∧ ∀ l, H l = none → Q (.ref l) (upd H l (.tup (sgns z)))
def rListStr : List V → Hp → VK → Prop := fun xs H Q => ∃ z, xs = [.str z] ∧ z.cps.size ≤ sizeLine ∧ ∀ l, H l = none → Q (.ref l) (upd H l (.lst (sgns z)))
theorem call_tupStr (hc : X.calm = true) : CallR X (.type "tuple") rTupStr := by
  intro pins s σ H xs us Q I r h
  obtain ⟨z, rfl, hz, q⟩ := h
  obtain ⟨u, rfl, t, rfl⟩ := vals1 r
  refine call_tuple_str (I.ok.hd hc) z t (fun h' tk acc kp hacc => ?_) hz
  have I1 : Inv X pins σ H { s with heap := h', toks := tk } := I.kept (t' := tk) kp
  have I2 : Inv X pins σ (upd H h'.objs.size (.tup (sgns z))) { s with heap := h'.push { cls := .type "tuple", data := .seq acc }, toks := tk } :=
    I1.laid (t' := tk) (fun b o e => Heap.get?_push_of_some _ e) (Nat.le_refl _) (show ObjOk X.prog X.w _ _ _ (.tup (sgns z)) from ⟨by rw [sgns, List.length_map, Array.length_toList]; exact hz, acc.toList, sgns_vals hacc, by rw [Array.toArray_toList]; exact IsTup.new _ _⟩)
  exact ⟨.ref h'.objs.size, _, I2, rfl, q _ (I1.hok.fresh (Nat.le_refl _))⟩
theorem call_listStr (hc : X.calm = true) : CallR X (.type "list") rListStr := by
  intro pins s σ H xs us Q I r h
  obtain ⟨z, rfl, hz, q⟩ := h
  obtain ⟨u, rfl, t, rfl⟩ := vals1 r
  refine call_list_str (I.ok.hd hc) z t (fun h' tk acc c' kp e hacc => ?_) hz
  exact ⟨.ref s.heap.objs.size, _, I.laid (t' := tk) kp (Nat.le_refl _) (show ObjOk X.prog X.w _ h' _ (.lst (sgns z)) from ⟨by rw [sgns, List.length_map, Array.length_toList]; exact hz, acc.toList, c', sgns_vals hacc, by rw [Array.toArray_toList]; exact e⟩), rfl, q _ (I.hok.fresh (Nat.le_refl _))⟩
def rListV (K : PySem.W.Frag) : List V → Hp → VK → Prop := fun xs H Q => rListU K xs H Q ∨ rListStr xs H Q
theorem call_listV {K : PySem.W.Frag} (hK : X.K = K) (hc : X.calm = true) : CallR X (.type "list") (rListV K) := (call_listU hK).or (call_listStr hc)
def rTupV (K : PySem.W.Frag) : List V → Hp → VK → Prop := fun xs H Q => rTupU K xs H Q ∨ rTupStr xs H Q
theorem call_tupV {K : PySem.W.Frag} (hK : X.K = K) (hc : X.calm = true) : CallR X (.type "tuple") (rTupV K) := (call_tupU hK).or (call_tupStr hc)
end
section
variable {K : PySem.W.Frag} {S : AS} {mu : Mu} {j : Nat} {α : Type} {e : α → PyData}
theorem sgns_dp {H : Hp} (l : List Nat) : DpAll K H (sgns ⟨l.toArray⟩) (l.map eC) := by
  show DpAll K H (l.map fun c => V.str ⟨#[c]⟩) (l.map eC)
  induction l with
  | nil => exact .nil
  | cons c r ih => exact .cons (.str _) ih
theorem ra_tupStr {l : List Nat} (h : l.length ≤ 1000000) : RA K mu rTupStr [dS l] (.d (eT eC l)) := fun as fr H vs hk r Q k => by
  cases r with
  | cons r1 r =>
    cases r
    cases r1
    exact ⟨_, rfl, by show l.toArray.size ≤ _; rw [List.size_toArray]; exact sz_of h, fun p hp => k.tup hk hp (sgns_dp l)⟩
theorem ra_tupLV {l : List α} : RA K mu (rTupV K) [.d (eL e l)] (.d (eT e l)) := ra_orl ra_tupL
theorem ra_tupTV {l : List α} : RA K mu (rTupV K) [.d (eT e l)] (.d (eT e l)) := ra_orl ra_tupT
theorem ra_tupOV {l : List α} (hm : mu[j]? = some (.l (l.map e))) : RA K mu (rTupV K) [.o j] (.d (eT e l)) := ra_orl (ra_tupO hm)
def tupS (l : List Nat) : Option (List Nat) := gd (l.length ≤ 1000000) l
theorem ra_tupSV {l m : List Nat} (h : tupS l = some m) : RA K mu (rTupV K) [dS l] (.d (eT eC m)) := fun as fr H vs hk r Q k => by
  obtain ⟨h1, rfl⟩ := gd_of h
  exact .inr (ra_tupStr h1 as fr H vs hk r Q k)
def rngSO (a b : Nat) : Option (List Nat) := gd (a ≤ 1000000 ∧ b ≤ 1000000) (List.range (a - b))
def rng2SO (m a b : Nat) : Option (List Nat) := gd (m ≤ 1000000 ∧ a ≤ 1000000 ∧ b ≤ 1000000) ((List.range (a - b - m)).map fun k => m + k)
/-- range of a difference: none if it is less than 0 -/
theorem ei_PS {t : TA} {a b : Nat} {xs : List Nat} (h : AVs K t S [dI ((a : Int) - (b : Int))]) (hx : rngSO a b = some xs) : EI K (iRng1 t) S (xs.map eN) := by
  obtain ⟨h1, rfl⟩ := gd_of hx
  have := ei_rng1 h (by omega) (by omega)
  rw [show ((a : Int) - (b : Int)).toNat = a - b by omega] at this
  exact this
theorem ei_PS2 {t : TA} {m a b : Nat} {xs : List Nat} (h : AVs K t S [dn m, dI ((a : Int) - (b : Int))]) (hx : rng2SO m a b = some xs) : EI K (iRng2 t) S (xs.map eN) := by
  obtain ⟨h1, rfl⟩ := gd_of hx
  have := ei_rng2 (m := (m : Int)) h (by omega)
  rw [show ((a : Int) - (b : Int) - (m : Int)).toNat = a - b - m by omega] at this
  refine this.is ?_
  rw [List.map_map]
  refine List.map_congr_left fun k _ => ?_
  show PyData.int ((m : Int) + (k : Int)) = PyData.int ((m + k : Nat) : Int)
  rw [Int.natCast_add]
theorem rb_isBl {a b : Bool} : RB K mu rIsB (dB a) (dB b) (dB (decide (a = b))) := fun as fr H v1 v2 hk r1 r2 Q k => by
  cases r1; cases r2
  exact ⟨_, _, rfl, rfl, k.bl⟩
theorem rb_notBl {a b : Bool} : RB K mu rNotB (dB a) (dB b) (dB (!decide (a = b))) := fun as fr H v1 v2 hk r1 r2 Q k => by
  cases r1; cases r2
  exact ⟨_, _, rfl, rfl, k.bl⟩
theorem ra_listLV {l : List α} : RA K mu (rListV K) [.d (eL e l)] (.d (eL e l)) := ra_orl ra_listL
theorem ra_listTV {l : List α} : RA K mu (rListV K) [.d (eT e l)] (.d (eL e l)) := ra_orl ra_listT
theorem ra_listOV {l : List α} (hm : mu[j]? = some (.l (l.map e))) : RA K mu (rListV K) [.o j] (.d (eL e l)) := ra_orl (ra_listOE hm)
theorem ra_listStr {l : List Nat} (h : l.length ≤ 1000000) : RA K mu rListStr [dS l] (.d (eL eC l)) := fun as fr H vs hk r Q k => by
  cases r with
  | cons r1 r =>
    cases r
    cases r1
    exact ⟨_, rfl, by show l.toArray.size ≤ _; rw [List.size_toArray]; exact sz_of h, fun p hp => k.lst hk hp (sgns_dp l)⟩
theorem ra_listSV {l m : List Nat} (h : tupS l = some m) : RA K mu (rListV K) [dS l] (.d (eL eC m)) := fun as fr H vs hk r Q k => by
  obtain ⟨h1, rfl⟩ := gd_of h
  exact .inr (ra_listStr h1 as fr H vs hk r Q k)
/-- list(..) as a new list -/
theorem nw_listL {te : TE} {l : List α} (h : EV K te S (.d (eL e l))) : NW K (tCB (rListV K) (tCons te tNil)) S fun ds mu => ds = l.map e ∧ mu = S.mu := fun Z as0 as fr σ H ok Q q =>
  h Z as0 as fr σ H ok _ fun v H1 a mu1 g1 ok1 r1 ⟨e1, e2⟩ => by
    subst e1 e2
    cases r1 with
    | lst hs ha => exact .inl ⟨_, _, rfl, .inl (sqL_ex off_le hs), fun p hp => q p H1 _ _ _ hp g1 ok1 ha ⟨rfl, rfl⟩⟩
theorem nw_listT {te : TE} {l : List α} (h : EV K te S (.d (eT e l))) : NW K (tCB (rListV K) (tCons te tNil)) S fun ds mu => ds = l.map e ∧ mu = S.mu := fun Z as0 as fr σ H ok Q q =>
  h Z as0 as fr σ H ok _ fun v H1 a mu1 g1 ok1 r1 ⟨e1, e2⟩ => by
    subst e1 e2
    cases r1 with
    | tup hs ha => exact .inl ⟨_, _, rfl, .inr (sqT_ex off_le hs), fun p hp => q p H1 _ _ _ hp g1 ok1 ha ⟨rfl, rfl⟩⟩
end
end D2
set_option Elab.async false
set_option linter.all false
set_option maxRecDepth 100000
set_option maxHeartbeats 4000000
/-! DT9: comprehensions with two fors; raise that is never reached. -/
namespace D2
open PySem L2
section
variable {X : Cx}
def tNever : TS := fun _ _ _ => False
theorem ps_never {s : Stmt} : PS X s tNever := ⟨fun pins s σ H D I h => h.elim⟩
end
section
variable {K : PySem.W.Frag} {S : AS} {te : TE} {A : AE}
theorem sw_never (h : False) : SW K tNever S A := h.elim
theorem nw_lc2 {wi wi1 : TI} {g g1 : TG} {js js1 vs vs1 : List Nat} {tt tt1 : TT} {ds : List PyData} {P : List PyData → Mu → Prop} (hj : ∀ j ∈ js, j ∈ vs) (hj1 : ∀ j ∈ js1, j ∈ vs1) (hI : XI K wi S ds S.mu) (st : Nat → List PyData → Prop) (s0 : st 0 [])
    (sT : ∀ i d acc, ds[i]? = some d → st i acc → GW K g js d ⟨wp S.sl vs, S.mu⟩ fun S2 => S2.mu = S.mu ∧ ∃ b, TV K tt S2 b ∧ (b = false → st (i + 1) acc) ∧ (b = true → ∃ ds1, XI K wi1 S2 ds1 S2.mu ∧ ∃ st1 : Nat → List PyData → Prop, st1 0 acc ∧
      (∀ j d1 acc1, ds1[j]? = some d1 → st1 j acc1 → acc1.length < 1000000 ∧ GW K g1 js1 d1 ⟨wp S2.sl vs1, S.mu⟩ fun S3 => S3.mu = S.mu ∧ ∃ b1, TV K tt1 S3 b1 ∧ (b1 = false → st1 (j + 1) acc1) ∧ (b1 = true → ∃ e, EV K te S3 (.d e) ∧ st1 (j + 1) (acc1 ++ [e]))) ∧
      ∀ acc1, st1 ds1.length acc1 → st (i + 1) acc1))
    (sE : ∀ acc, st ds.length acc → P acc S.mu) : NW K (tLc2 wi g tt wi1 g1 tt1 te vs vs1) S P := fun Z as0 as fr σ H ok Q q =>
  hI Z as0 as fr σ H ok _ fun J H1 ds' G mu1 g1' ok1 F hG ⟨e1, e2⟩ => fun Dl hD => by
    subst e1; subst e2
    have hz := ok1.z_none hD
    have ok2 := ok1.laid (o := .lst []) hD
    have hG2 : G (off (as ++ Dl :: fr) (upd H1 Dl (.lst []))) := F.stay _ _ hG (fun b o e => by
      rw [off_del]
      obtain ⟨e1, e2⟩ := off_of e
      have : b ≠ Dl := ne_of_none e1 hD
      rw [off_at e2, del_ne this, upd_ne this]; exact e1)
    have g2 : Gr as fr H (del Dl (upd H1 Dl (.lst []))) := g1'.trans (fun b o e => by
      obtain ⟨e1, e2⟩ := off_of e
      have : b ≠ Dl := ne_of_none e1 hD
      rw [off_at e2, del_ne this, upd_ne this]; exact e1)
    have gD : ∀ {Ha Hb : Hp}, Gr as (Dl :: fr) Ha Hb → Gr as fr (del Dl Ha) (del Dl Hb) := fun g => by
      unfold Gr at g ⊢; rw [off_del, off_del] at g; exact g
    have dU : ∀ (Ha : Hp) (o : HO), del Dl (upd Ha Dl o) = del Dl Ha := fun Ha o => by
      funext b
      by_cases e : b = Dl
      · subst e; rw [del_same, del_same]
      · rw [del_ne e, del_ne e, upd_ne e]
    refine ⟨fun i m H' => m = ds'.length - i ∧ i ≤ ds'.length ∧ ∃ vs' acc, H' Dl = some (.lst vs') ∧ Ok K Z as0 as (Dl :: fr) ⟨S.sl, S.mu⟩ σ H' ∧ DpAll K (off (as ++ Dl :: fr) H') vs' acc ∧ st i acc ∧ G (off (as ++ Dl :: fr) H') ∧ Gr as fr H (del Dl H'),
      ⟨ds'.length, by simp, Nat.zero_le _, [], [], upd_same, ok2, .nil, s0, hG2, g2⟩, ?_⟩
    rintro i m H' ⟨rfl, hi, vs', acc, hDl, ok', ra, hst, hg, gr⟩
    by_cases hlt : i < ds'.length
    · refine .inr ⟨F.go i _ H' hg hlt, fun H'' => i + 1 ≤ ds'.length ∧ ∃ vs' acc, H'' Dl = some (.lst vs') ∧ Ok K Z as0 as (Dl :: fr) ⟨S.sl, S.mu⟩ σ H'' ∧ DpAll K (off (as ++ Dl :: fr) H'') vs' acc ∧ st (i + 1) acc ∧ G (off (as ++ Dl :: fr) H'') ∧ Gr as fr H (del Dl H''),
        fun H'' h => ⟨ds'.length - (i + 1), by omega, rfl, h.1, h.2⟩, fun x H2 hy => ?_⟩
      obtain ⟨d, hd, e2, rx⟩ := F.yld i (as ++ Dl :: fr) H' x H2 hg ok'.ex hlt hy
      have okx := ok'.grow e2
      have h2D : H2 Dl = some (.lst vs') := e2 _ _ hDl
      have zle : ∀ (vv : List V) b o, Z b = some o → upd Z Dl (.lst vv) b = some o := fun vv b o e => by
        rw [upd_ne (fun z => by subst z; rw [hz] at e; cases e)]; exact e
      have hT := sT i d acc hd hst (upd Z Dl (.lst vs')) as0 as (Dl :: fr) (wipe σ vs) H2 x (Ok.wipe (okx.pin h2D) vs) rx
      refine hT _ fun S2 σ2 okS hwp ⟨hm2, b, htv, hf, ht⟩ => ⟨by rw [hwp vs hj, wipe_wipe], ?_⟩
      refine htv _ as0 as (Dl :: fr) σ2 H2 okS _ fun b' H3 mu2 g3 ok3 ⟨e3, e4⟩ => ?_
      subst e3; subst e4
      have h3D : H3 Dl = some (.lst vs') := (ok3.pres Dl _ upd_same).2
      have okS3 : Ok K Z as0 as (Dl :: fr) ⟨S.sl, S2.mu⟩ σ H3 := okx.shift g3 (ok3.anchor (zle vs'))
      rw [hm2] at okS3
      have gr3 : Gr as (Dl :: fr) H' H3 := (Gr.of e2).trans g3
      cases b' with
      | false =>
        rw [if_neg Bool.false_ne_true]
        exact ⟨hlt, vs', acc, h3D, okS3, da_ex gr3 ra, hf rfl, F.stay _ _ hg gr3, gr.trans (gD gr3)⟩
      | true =>
        rw [if_pos rfl]
        obtain ⟨ds1, hI1, st1, t0, tT, tE⟩ := ht rfl
        refine hI1 _ as0 as (Dl :: fr) σ2 H3 ok3 _ fun J1 H4 ds1' G1 mu3 g4 ok4 F1 hG1 ⟨e5, e6⟩ => ?_
        subst e5; subst e6
        have h4D : H4 Dl = some (.lst vs') := (ok4.pres Dl _ upd_same).2
        have okB : Ok K Z as0 as (Dl :: fr) ⟨S2.sl, S2.mu⟩ σ2 H4 := ok4.anchor (zle vs')
        rw [hm2] at okB
        have gr24 : Gr as (Dl :: fr) H3 H4 := g4
        have okA : Ok K Z as0 as (Dl :: fr) ⟨S.sl, S.mu⟩ σ H4 := okS3.shift gr24 okB
        have gr4 : Gr as (Dl :: fr) H' H4 := gr3.trans gr24
        refine ⟨fun j k H' => k = ds1'.length - j ∧ j ≤ ds1'.length ∧ ∃ vs'' acc'', H' Dl = some (.lst vs'') ∧ Ok K Z as0 as (Dl :: fr) ⟨S2.sl, S.mu⟩ σ2 H' ∧ Ok K Z as0 as (Dl :: fr) ⟨S.sl, S.mu⟩ σ H' ∧ DpAll K (off (as ++ Dl :: fr) H') vs'' acc'' ∧ st1 j acc'' ∧ G1 (off (as ++ Dl :: fr) H') ∧ G (off (as ++ Dl :: fr) H') ∧ Gr as fr H (del Dl H'),
          ⟨ds1'.length, by simp, Nat.zero_le _, vs', acc, h4D, okB, okA, da_ex gr4 ra, t0, hG1, F.stay _ _ hg gr4, gr.trans (gD gr4)⟩, ?_⟩
        rintro j k H'' ⟨rfl, hjl, vs'', acc'', hD', okB', okA', ra', hst', hg1', hg', gr'⟩
        by_cases hlt1 : j < ds1'.length
        · refine .inr ⟨F1.go j _ H'' hg1' hlt1, fun H' => j + 1 ≤ ds1'.length ∧ ∃ vs'' acc'', H' Dl = some (.lst vs'') ∧ Ok K Z as0 as (Dl :: fr) ⟨S2.sl, S.mu⟩ σ2 H' ∧ Ok K Z as0 as (Dl :: fr) ⟨S.sl, S.mu⟩ σ H' ∧ DpAll K (off (as ++ Dl :: fr) H') vs'' acc'' ∧ st1 (j + 1) acc'' ∧ G1 (off (as ++ Dl :: fr) H') ∧ G (off (as ++ Dl :: fr) H') ∧ Gr as fr H (del Dl H'),
            fun H5 h => ⟨ds1'.length - (j + 1), by omega, rfl, h.1, h.2⟩, fun x1 H5 hy1 => ?_⟩
          obtain ⟨d1, hd1, e5, rx1⟩ := F1.yld j (as ++ Dl :: fr) H'' x1 H5 hg1' okB'.ex hlt1 hy1
          have okBx := okB'.grow e5
          have okAx := okA'.grow e5
          have h5D : H5 Dl = some (.lst vs'') := e5 _ _ hD'
          obtain ⟨hlen, hT1⟩ := tT j d1 acc'' hd1 hst'
          refine hT1 (upd Z Dl (.lst vs'')) as0 as (Dl :: fr) (wipe σ2 vs1) H5 x1 (Ok.wipe (okBx.pin h5D) vs1) rx1 _ fun S3 σ3 okS3 hwp3 ⟨hm3, b1, htv1, hf1, ht1⟩ => ⟨by rw [hwp3 vs1 hj1, wipe_wipe], ?_⟩
          refine htv1 _ as0 as (Dl :: fr) σ3 H5 okS3 _ fun b1' H6 mu6 g6 ok6 ⟨e7, e8⟩ => ?_
          subst e7; subst e8
          have h6D : H6 Dl = some (.lst vs'') := (ok6.pres Dl _ upd_same).2
          have okZ6 := ok6.anchor (zle vs'')
          rw [hm3] at okZ6
          have gr6 : Gr as (Dl :: fr) H'' H6 := (Gr.of e5).trans g6
          cases b1' with
          | false =>
            rw [if_neg Bool.false_ne_true]
            exact ⟨hlt1, vs'', acc'', h6D, okBx.shift g6 okZ6, okAx.shift g6 okZ6, da_ex gr6 ra', hf1 rfl, F1.stay _ _ hg1' gr6, F.stay _ _ hg' gr6, gr'.trans (gD gr6)⟩
          | true =>
            rw [if_pos rfl]
            obtain ⟨e, hev, hst2⟩ := ht1 rfl
            refine hev _ as0 as (Dl :: fr) σ3 H6 ok6 _ fun y H7 a mu7 g7 ok7 r7 ⟨ea, e9⟩ => ?_
            subst ea; subst e9
            have h7D : H7 Dl = some (.lst vs'') := (ok7.pres Dl _ upd_same).2
            have okZ7 := ok7.anchor (zle vs'')
            have g57 : Gr as (Dl :: fr) H5 H7 := g6.trans g7
            have okZ7' : Ok K Z as0 as (Dl :: fr) ⟨S3.sl, S.mu⟩ σ3 H7 := by rw [← hm3]; exact okZ7
            have gr7 : Gr as (Dl :: fr) H'' H7 := (Gr.of e5).trans g57
            refine ⟨vs'', h7D, sz_lt (by rw [da_length ra']; exact hlen), hlt1, vs'' ++ [y], acc'' ++ [e], upd_same, (okBx.shift g57 okZ7').turn hz, (okAx.shift g57 okZ7').turn hz, ?_, hst2, ?_, ?_, ?_⟩
            · rw [off_turn]; exact da_append (da_ex gr7 ra') (.cons r7 .nil)
            · rw [off_turn]; exact F1.stay _ _ hg1' gr7
            · rw [off_turn]; exact F.stay _ _ hg' gr7
            · rw [dU]; exact gr'.trans (gD gr7)
        · have e : j = ds1'.length := by omega
          subst e
          exact .inl ⟨F1.stop _ _ hg1', hlt, vs'', acc'', hD', okA', ra', tE acc'' hst', hg', gr'⟩
    · have e : i = ds'.length := by omega
      subst e
      refine .inl ⟨F.stop _ _ hg, ?_⟩
      have := q Dl (del Dl H') vs' acc S.mu del_same gr (ok'.aside hz) (by rw [← off_del]; exact ra) (sE acc hst)
      rw [upd_del hDl] at this
      exact this
def catO {α β : Type} (f : α → Option (List β)) : List α → Option (List β)
  | [] => some []
  | x :: xs => (f x).bind fun y => (catO f xs).bind fun ys => some (y ++ ys)
def catG {α β : Type} (f : α → Option (List β)) (xs : List α) : Option (List β) := (catO f xs).bind fun ys => gd (ys.length < 1000000) ys
variable {α β γ : Type} {xs : List α} {ea : α → PyData} {eb : β → PyData} {e1 : γ → PyData}
/-- the inner walk, from its list and what is kept of each -/
def InnW (K : PySem.W.Frag) (wi1 : TI) (g1 : TG) (js1 vs1 : List Nat) (tt1 : TT) (te : TE) (S2 : AS) (eb : β → PyData) (zs : List β) : Prop := ∃ (γ : Type) (e1 : γ → PyData) (us : List γ) (f1 : γ → Option (Option β)), XI K wi1 S2 (us.map e1) S2.mu ∧ filO f1 us = some zs ∧
  ∀ u o, f1 u = some o → GW K g1 js1 (e1 u) ⟨wp S2.sl vs1, S2.mu⟩ fun S3 => S3.mu = S2.mu ∧ TV K tt1 S3 o.isSome ∧ ∀ z, o = some z → EV K te S3 (.d (eb z))
theorem nw_catG {wi wi1 : TI} {g g1 : TG} {js js1 vs vs1 : List Nat} {tt tt1 : TT} {f : α → Option (List β)} {ys : List β} (hI : XI K wi S (xs.map ea) S.mu) (hj : ∀ j ∈ js, j ∈ vs) (hj1 : ∀ j ∈ js1, j ∈ vs1) (hm : catG f xs = some ys)
    (hb : ∀ x zs, f x = some zs → GW K g js (ea x) ⟨wp S.sl vs, S.mu⟩ fun S2 => S2.mu = S.mu ∧ ∃ b, TV K tt S2 b ∧ (b = false → zs = []) ∧ (b = true → InnW K wi1 g1 js1 vs1 tt1 te S2 eb zs)) :
    NW K (tLc2 wi g tt wi1 g1 tt1 te vs vs1) S fun ds mu => ds = ys.map eb ∧ mu = S.mu := by
  obtain ⟨ys', hm1, hm2⟩ := bs hm
  obtain ⟨hl, rfl⟩ := gd_of hm2
  refine nw_lc2 hj hj1 hI (fun i acc => ∃ y1 y2, acc = y1.map eb ∧ catO f (xs.drop i) = some y2 ∧ y1 ++ y2 = ys') ⟨[], ys', rfl, by simpa using hm1, rfl⟩ (fun i d acc hd ⟨y1, y2, e2, h, e3⟩ => ?_) fun acc ⟨y1, y2, e2, h, e3⟩ => ?_
  · subst e2
    obtain ⟨x, hx, rfl⟩ := lst_at hd
    rw [drop_cons hx, catO] at h
    obtain ⟨zs, h1, h2⟩ := bs h
    obtain ⟨y3, h3, h4⟩ := bs h2
    cases h4
    refine (hb x zs h1).mono fun S2 ⟨h5, b, h6, h7, h8⟩ => ⟨h5, b, h6, fun hb => ⟨y1, y3, rfl, h3, by rw [← e3, h7 hb]; rfl⟩, fun hb => ?_⟩
    obtain ⟨γ, e1, us, f1, k1, k2, k3⟩ := h8 hb
    rw [h5] at k3
    refine ⟨us.map e1, k1, fun j acc => ∃ z1 z2, acc = (y1 ++ z1).map eb ∧ filO f1 (us.drop j) = some z2 ∧ z1 ++ z2 = zs, ⟨[], zs, by simp, by simpa using k2, rfl⟩, fun j d1 acc1 hd1 ⟨z1, z2, q1, q2, q3⟩ => ?_, fun acc1 ⟨z1, z2, q1, q2, q3⟩ => ?_⟩
    · subst q1
      obtain ⟨u, hu, rfl⟩ := lst_at hd1
      rw [drop_cons hu, filO] at q2
      obtain ⟨o, h9, q2⟩ := bs q2
      obtain ⟨z3, h10, q2⟩ := bs q2
      cases q2
      refine ⟨?_, (k3 u o h9).mono fun S3 ⟨h11, h12, h13⟩ => ⟨h11, o.isSome, h12, fun ho => ?_, fun ho => ?_⟩⟩
      · rw [List.length_map]
        have : (y1 ++ (zs ++ y3)).length < 1000000 := by rw [e3]; exact hl
        rw [← q3] at this
        simp only [List.length_append] at this ⊢
        omega
      · cases o with
        | none => exact ⟨z1, z3, rfl, h10, q3⟩
        | some z => cases ho
      · cases o with
        | none => cases ho
        | some z => exact ⟨eb z, h13 z rfl, z1 ++ [z], z3, by simp, h10, by rw [← q3]; simp⟩
    · subst q1
      rw [List.length_map, List.drop_of_length_le (Nat.le_refl _), filO] at q2
      cases q2
      rw [List.append_nil] at q3
      subst q3
      exact ⟨y1 ++ z1, y3, rfl, h3, by rw [← e3, List.append_assoc]⟩
  · rw [List.length_map, List.drop_of_length_le (Nat.le_refl _), catO] at h
    cases h
    rw [List.append_nil] at e3
    exact ⟨by rw [e2, e3], rfl⟩
theorem ev_catG {wi wi1 : TI} {g g1 : TG} {js js1 vs vs1 : List Nat} {tt tt1 : TT} {f : α → Option (List β)} {ys : List β} (hI : XI K wi S (xs.map ea) S.mu) (hj : ∀ j ∈ js, j ∈ vs) (hj1 : ∀ j ∈ js1, j ∈ vs1) (hm : catG f xs = some ys)
    (hb : ∀ x zs, f x = some zs → GW K g js (ea x) ⟨wp S.sl vs, S.mu⟩ fun S2 => S2.mu = S.mu ∧ ∃ b, TV K tt S2 b ∧ (b = false → zs = []) ∧ (b = true → InnW K wi1 g1 js1 vs1 tt1 te S2 eb zs)) :
    EV K (tLc2 wi g tt wi1 g1 tt1 te vs vs1) S (.d (eL eb ys)) := (nw_catG hI hj hj1 hm hb).ev
theorem inn_no {tt : TT} {S2 : AS} {c : Bool} {o : Option (List β)} {zs : List β} {Q : Prop} (h : (if c = true then o else some []) = some zs) (hc : TV K tt S2 c) (k : o = some zs → Q) : ∃ b, TV K tt S2 b ∧ (b = false → zs = []) ∧ (b = true → Q) :=
  ⟨c, hc, fun hb => (Option.some.inj (ifF h hb)).symm, fun hb => k (ifT h hb)⟩
theorem inn_all {S2 : AS} {zs : List β} {Q : Prop} (k : Q) : ∃ b, TV K tYes S2 b ∧ (b = false → zs = []) ∧ (b = true → Q) := ⟨true, tv_yes, fun h => Bool.noConfusion h, fun _ => k⟩
theorem keep_all {S3 : AS} {mu0 : Mu} {o : Option β} {v : β} (hm : S3.mu = mu0) (h : o = some v) (k : EV K te S3 (.d (eb v))) : S3.mu = mu0 ∧ TV K tYes S3 o.isSome ∧ ∀ z, o = some z → EV K te S3 (.d (eb z)) := by
  subst h; exact ⟨hm, tv_yes, fun z e => by cases e; exact k⟩
end
end D2
set_option Elab.async false
set_option linter.all false
set_option maxRecDepth 100000
set_option maxHeartbeats 4000000
/-! DT10: dicts: keys texts and ints. -/
namespace D2
open PySem L2 PyProof.Rows
/-! keys, typed -/
structure KyE {α : Type} (e : α → PyData) (ky : α → Key) : Prop where
  inj : ∀ a b, ky a = ky b → a = b
  val : ∀ a, kA (ky a) = .d (e a)
def kyN (n : Nat) : Key := .inl (n : Int)
def kyZ (n : Int) : Key := .inl n
def kyS (l : List Nat) : Key := .inr ⟨l.toArray⟩
def kyC (c : Nat) : Key := kyS [c]
theorem ky_N : KyE eN kyN := ⟨fun a b h => by unfold kyN at h; injection h with h; omega, fun _ => rfl⟩
theorem ky_Z : KyE eZ kyZ := ⟨fun a b h => by unfold kyZ at h; injection h, fun _ => rfl⟩
theorem ky_S : KyE eS kyS := ⟨fun a b h => by unfold kyS at h; injection h with h; exact txt_inj h, fun _ => rfl⟩
theorem ky_C : KyE eC kyC := ⟨fun a b h => by have := ky_S.inj _ _ h; simpa using this, fun _ => rfl⟩
section
variable {κ ν : Type} [DecidableEq κ]
def hasA (l : List (κ × ν)) (k : κ) : Bool := l.any fun p => decide (p.1 = k)
def lookA (l : List (κ × ν)) (k : κ) : Option ν := (l.find? fun p => decide (p.1 = k)).map (·.2)
def putA (l : List (κ × ν)) (k : κ) (v : ν) : List (κ × ν) := if hasA l k = true then l.map fun p => if p.1 = k then (p.1, v) else p else l ++ [(k, v)]
def ofA (ps : List (κ × ν)) : List (κ × ν) := ps.foldl (fun a p => putA a p.1 p.2) []
def keysA (l : List (κ × ν)) : List κ := l.map (·.1)
abbrev eK (ky : κ → Key) (ev : ν → PyData) (l : List (κ × ν)) : List (Key × PyData) := l.map fun p => (ky p.1, ev p.2)
variable {e : κ → PyData} {ky : κ → Key} {ev : ν → PyData}
theorem key_dec (h : KyE e ky) (a b : κ) : decide (ky a = ky b) = decide (a = b) := by
  by_cases c : a = b
  · subst c; simp
  · rw [decide_eq_false c, decide_eq_false fun z => c (h.inj _ _ z)]
theorem lookD_eK (h : KyE e ky) (k : κ) : ∀ l : List (κ × ν), lookD (eK ky ev l) (ky k) = (lookA l k).map ev
  | [] => rfl
  | p :: r => by
    rw [eK, List.map_cons, lookD_cons, lookD_eK h k r]
    unfold lookA
    by_cases c : p.1 = k
    · rw [if_pos (congrArg ky c), List.find?_cons_of_pos (by simpa using c)]; rfl
    · rw [if_neg (fun z => c (h.inj _ _ z)), List.find?_cons_of_neg (by simpa using c)]
theorem any_eK (h : KyE e ky) (k : κ) : ∀ l : List (κ × ν), ((eK ky ev l).any fun kv => decide (kv.1 = ky k)) = hasA l k
  | [] => rfl
  | p :: r => by
    have := any_eK h k r
    unfold hasA at this ⊢
    rw [eK, List.map_cons, List.any_cons, List.any_cons, key_dec h, ← this]
theorem hasA_look (k : κ) : ∀ l : List (κ × ν), (lookA l k).isSome = hasA l k
  | [] => rfl
  | p :: r => by
    have := hasA_look k r
    unfold hasA lookA at this ⊢
    by_cases c : p.1 = k
    · rw [List.find?_cons_of_pos (by simpa using c), List.any_cons, decide_eq_true c]; rfl
    · rw [List.find?_cons_of_neg (by simpa using c), List.any_cons, decide_eq_false c, this]; rfl
theorem putD_eK (h : KyE e ky) (k : κ) (v : ν) (l : List (κ × ν)) : putD (eK ky ev l) (ky k) (ev v) = eK ky ev (putA l k v) := by
  unfold putD putA
  rw [any_eK h]
  split
  · rw [eK, eK, List.map_map, List.map_map]
    refine List.map_congr_left fun p _ => ?_
    show (if ky p.1 = ky k then (ky p.1, ev v) else (ky p.1, ev p.2)) = _
    by_cases c : p.1 = k
    · rw [if_pos (congrArg ky c)]; show _ = (fun p : κ × ν => (ky p.1, ev p.2)) (if p.1 = k then (p.1, v) else p); rw [if_pos c]
    · rw [if_neg (fun z => c (h.inj _ _ z))]; show _ = (fun p : κ × ν => (ky p.1, ev p.2)) (if p.1 = k then (p.1, v) else p); rw [if_neg c]
  · rw [eK, eK, List.map_append]; rfl
theorem putA_length (l : List (κ × ν)) (k : κ) (v : ν) : (putA l k v).length ≤ l.length + 1 := by
  unfold putA
  split
  · rw [List.length_map]; omega
  · rw [List.length_append]; exact Nat.le_refl _
theorem foldA_length (ps acc : List (κ × ν)) : (ps.foldl (fun a p => putA a p.1 p.2) acc).length ≤ acc.length + ps.length := by
  induction ps generalizing acc with
  | nil => exact Nat.le_refl _
  | cons p r ih =>
    rw [List.foldl_cons]
    have := ih (putA acc p.1 p.2)
    have := putA_length acc p.1 p.2
    rw [List.length_cons]; omega
end
/-! new dicts -/
def DW (K : PySem.W.Frag) (t : TE) (S : AS) (kvs : List (Key × PyData)) : Prop := ∀ Z as0 as fr σ H, Ok K Z as0 as fr S σ H → ∀ Q : VK,
  (∀ p H1 vs, H1 p = none → Gr as fr H H1 → Ok K Z as0 as fr S σ H1 → vs.map (·.1) = kvs.map (·.1) → DpAll K (off (as ++ fr) H1) (vs.map (·.2)) (kvs.map (·.2)) → Q (.ref p) (upd H1 p (.dK vs))) → t σ H Q
section
variable {K : PySem.W.Frag} {S : AS} {te tk tv : TE} {mu : Mu} {kvs : List (Key × PyData)} {A : AE}
theorem dw_new : DW K tDNewK S [] := fun Z as0 as fr σ H ok Q q p hp => q p H [] hp (Ex.refl _) ok rfl .nil
variable {κ ν : Type} [DecidableEq κ] {e : κ → PyData} {ky : κ → Key} {ev : ν → PyData}
theorem merge_val {Hf : Hp} (h : KyE e ky) : ∀ (ps : List (κ × ν)) (vs : List (Key × V)) (acc : List (κ × ν)) (va : List (Key × V)), vs.map (·.1) = ps.map (fun p => ky p.1) → DpAll K Hf (vs.map (·.2)) (ps.map fun p => ev p.2) → va.map (·.1) = (eK ky ev acc).map (·.1) → DpAll K Hf (va.map (·.2)) ((eK ky ev acc).map (·.2)) →
    (mergeK va vs).map (·.1) = (eK ky ev (ps.foldl (fun a p => putA a p.1 p.2) acc)).map (·.1) ∧ DpAll K Hf ((mergeK va vs).map (·.2)) ((eK ky ev (ps.foldl (fun a p => putA a p.1 p.2) acc)).map (·.2))
  | [], [], acc, va, _, _, h1, h2 => ⟨h1, h2⟩
  | [], _ :: _, _, _, h1, _, _, _ => by simp at h1
  | _ :: _, [], _, _, h1, _, _, _ => by simp at h1
  | p :: ps, v :: vs, acc, va, h1, h2, h3, h4 => by
    rw [List.map_cons, List.map_cons] at h1 h2
    injection h1 with h1 h5
    cases h2 with
    | cons a b =>
      have := put_val (k := ky p.1) h3 h4 a
      rw [putD_eK h] at this
      have e1 : mergeK va (v :: vs) = mergeK (putK va (ky p.1) v.2) vs := by unfold mergeK; rw [List.foldl_cons, h1]
      rw [e1, List.foldl_cons]
      exact merge_val h ps vs _ _ h5 b this.1 this.2
theorem pairs_rep {Hf : Hp} (h : KyE e ky) : ∀ (ps : List (κ × ν)) (vs : List V), DpAll K Hf vs (ps.map (eP e ev)) → ∃ (as : List Addr) (kv : List (Key × V)), vs = as.map V.ref ∧ Paired (fun p kv => SqT K Hf p [kV kv.1, kv.2]) as kv ∧ kv.map (·.1) = ps.map (fun p => ky p.1) ∧ DpAll K Hf (kv.map (·.2)) (ps.map fun p => ev p.2)
  | [], vs, hd => by cases hd; exact ⟨[], [], rfl, .nil, rfl, .nil⟩
  | p :: ps, vs, hd => by
    rw [List.map_cons] at hd
    cases hd with
    | cons a b =>
      obtain ⟨as, kv, h1, h2, h3, h4⟩ := pairs_rep h ps _ b
      subst h1
      cases a with
      | tup hs ha =>
        cases ha with
        | cons r1 ha =>
          cases ha with
          | cons r2 ha =>
            cases ha
            have r3 := kA_rep (as := []) (k := ky p.1) (show RepV K Hf [] _ (kA (ky p.1)) by rw [h.val]; exact r1)
            have := r3
            subst this
            exact ⟨_ :: as, (ky p.1, _) :: kv, rfl, .cons hs h2, by rw [List.map_cons, List.map_cons, h3], .cons r2 h4⟩
abbrev rDictP (K : PySem.W.Frag) : List V → Hp → VK → Prop := fun xs H Q => ∃ (a : Addr) (ps : List Addr) (kvs : List (Key × V)), xs = [.ref a] ∧ SqL K H a (ps.map V.ref) ∧ Paired (fun p kv => SqT K H p [kV kv.1, kv.2]) ps kvs ∧
    ∀ p, H p = none → Q (.ref p) (upd H p (.dK (mergeK [] kvs)))
theorem call_dictU {X : Cx} {K : PySem.W.Frag} (hK : X.K = K) (hcalm : X.calm = true) : CallR X (.type "dict") (rDictP K) := by subst hK; exact call_dictP hcalm
theorem paired_mono {α β : Type} {R R' : α → β → Prop} (h : ∀ a b, R a b → R' a b) : ∀ {as : List α} {bs : List β}, Paired R as bs → Paired R' as bs
  | _, _, .nil => .nil
  | _, _, .cons a b => .cons (h _ _ a) (paired_mono h b)
theorem dw_pairs (h : KyE e ky) {ps : List (κ × ν)} (hv : EV K te S (.d (eL (eP e ev) ps))) : DW K (tCB (rDictP K) (tCons te tNil)) S (eK ky ev (ofA ps)) := fun Z as0 as fr σ H ok Q q =>
  hv Z as0 as fr σ H ok _ fun v H1 a mu1 g1 ok1 r1 ⟨e1, e2⟩ => by
    subst e1 e2
    cases r1 with
    | lst hs ha =>
      obtain ⟨bs, kv, h1, h2, h3, h4⟩ := pairs_rep h ps _ ha
      subst h1
      obtain ⟨m1, m2⟩ := merge_val h ps kv [] [] h3 h4 rfl .nil
      exact ⟨_, bs, kv, rfl, sqL_ex off_le hs, paired_mono (fun _ _ z => sqT_ex off_le z) h2, fun p hp => q p H1 _ hp g1 ok1 m1 m2⟩
/-! what is done with a new dict -/
def RD (K : PySem.W.Frag) (mu : Mu) (r : List V → Hp → VK → Prop) (kvs : List (Key × PyData)) (a : AV) : Prop := ∀ as fr H p vs, Hk K as fr mu H → H p = some (.dK vs) → vs.map (·.1) = kvs.map (·.1) → DpAll K (off (as ++ fr) H) (vs.map (·.2)) (kvs.map (·.2)) → ∀ Q : VK, Kv K as fr H a Q → r [.ref p] H Q
theorem ev_dcb {r : List V → Hp → VK → Prop} {a : AV} (h : DW K te S kvs) (hr : RD K S.mu r kvs a) : EV K (tCB r (tCons te tNil)) S a := fun Z as0 as fr σ H ok Q q =>
  h Z as0 as fr σ H ok _ fun p H1 vs hp g ok1 hk ha =>
    hr as fr (upd H1 p (.dK vs)) p vs (ok1.grow (Ex.new hp)).hk upd_same hk (da_ex (off_ex (Ex.new hp)) ha) Q fun v H2 e r => q v H2 a S.mu ((g.trans (.of (Ex.new hp))).trans (.of e)) ((ok1.grow (Ex.new hp)).grow e) r ⟨rfl, rfl⟩
abbrev rLenDk : List V → Hp → VK → Prop := fun xs H Q => ∃ a kvs, xs = [V.ref a] ∧ H a = some (.dK kvs) ∧ Q (.int kvs.length) H
theorem rd_len : RD K mu rLenDk kvs (dn kvs.length) := fun as fr H p vs _ hp hk ha Q k => ⟨p, vs, rfl, hp, by
  have := congrArg List.length hk
  rw [List.length_map, List.length_map] at this
  rw [this]; exact k.int⟩
abbrev rSortDS : List V → Hp → VK → Prop := fun xs H Q => ∃ (a : Addr) (kvs : List (Key × V)) (ks : List Str), xs = [.ref a] ∧ Rd H a (.dK kvs) ∧ kvs.map (·.1) = ks.map Sum.inr ∧ ks.length < 64 ∧
    ∀ ys p, ys.Perm ks → sortedS ys = true → H p = none → Q (.ref p) (upd H p (.lst (ys.map V.str)))
abbrev rSortDI : List V → Hp → VK → Prop := fun xs H Q => ∃ (a : Addr) (kvs : List (Key × V)) (ks : List Int), xs = [.ref a] ∧ Rd H a (.dK kvs) ∧ kvs.map (·.1) = ks.map Sum.inl ∧ ks.length < 64 ∧
    ∀ (ys : List Int) (p : Addr), ys.Perm ks → ys.Pairwise (· ≤ ·) → H p = none → Q (.ref p) (upd H p (.lst (ys.map V.int)))
theorem risingS_pw : ∀ (l : List Str) (p : Str), risingS p l = true → (p :: l).Pairwise fun a b => ¬ b.cps.toList < a.cps.toList
  | [], p, _ => List.pairwise_singleton _ _
  | x :: r, p, h => by
    rw [risingS, Bool.and_eq_true] at h
    have h1 : ¬ x.cps.toList < p.cps.toList := by
      have := h.1
      rw [PyProof.Rows.ltCps_eq] at this
      simpa using this
    have ih := risingS_pw r x h.2
    refine List.pairwise_cons.mpr ⟨fun y hy => ?_, ih⟩
    rcases List.mem_cons.mp hy with e | e
    · rw [e]; exact h1
    · have h2 := (List.pairwise_cons.mp ih).1 y e
      exact List.not_lt.mpr (List.le_trans (List.not_lt.mp h1) (List.not_lt.mp h2))
theorem sortedS_pw (l : List Str) (h : sortedS l = true) : l.Pairwise fun a b => ¬ b.cps.toList < a.cps.toList := by
  cases l with
  | nil => exact .nil
  | cons x r => exact risingS_pw r x h
variable {α : Type} {lt : α → α → Bool}
/-- in order -/
theorem sort_pw {f : α → List Nat} (hl : ∀ a b, lt a b = decide (f a < f b)) (l : List α) : (sortE lt l).Pairwise fun a b => ¬ f b < f a := by
  have h := List.pairwise_mergeSort (le := fun a b => !lt b a) (fun a b c h1 h2 => by
    rw [hl] at h1 h2 ⊢
    have h1 : ¬ f b < f a := by simpa using h1
    have h2 : ¬ f c < f b := by simpa using h2
    simpa using List.le_trans (List.not_lt.mp h1) (List.not_lt.mp h2)) (fun a b => by
    rw [hl, hl]
    by_cases c : f b < f a
    · rw [decide_eq_false (List.lt_asymm c)]; simp
    · rw [decide_eq_false c]; simp) l
  exact h.imp fun h => by rw [hl] at h; simpa using h
theorem sort_texts {f : α → List Nat} (hl : ∀ a b, lt a b = decide (f a < f b)) {l : List α} {ys : List Str} (hp : ys.Perm (l.map fun a => (⟨(f a).toArray⟩ : Str))) (hs : sortedS ys = true) : ys = (sortE lt l).map fun a => (⟨(f a).toArray⟩ : Str) := by
  refine List.Perm.eq_of_pairwise (le := fun a b : Str => ¬ b.cps.toList < a.cps.toList) (fun a b _ _ h1 h2 => ?_) (sortedS_pw ys hs) ?_ (hp.trans ((List.mergeSort_perm l _).symm.map _))
  · have e := List.le_antisymm (List.not_lt.mp h1) (List.not_lt.mp h2)
    cases a; cases b
    congr 1
    exact Array.toList_inj.mp e
  · exact List.pairwise_map.mpr ((sort_pw hl l).imp fun h => by simpa using h)
/-- keys that are texts -/
structure TxE {κ : Type} (e : κ → PyData) (ky : κ → Key) (lt : κ → κ → Bool) (f : κ → List Nat) : Prop where
  ky : ∀ a, ky a = .inr ⟨(f a).toArray⟩
  e : ∀ a, e a = eS (f a)
  lt : ∀ a b, lt a b = decide (f a < f b)
theorem tx_S : TxE eS kyS ltS id := ⟨fun _ => rfl, fun _ => rfl, fun _ _ => rfl⟩
theorem tx_C : TxE eC kyC ltC fun c => [c] := ⟨fun _ => rfl, fun _ => rfl, fun a b => by
  show decide (a < b) = decide ([a] < [b])
  by_cases h : a < b
  · rw [decide_eq_true h, decide_eq_true (List.cons_lt_cons_iff.mpr (.inl h))]
  · rw [decide_eq_false h, decide_eq_false fun z => ?_]
    rcases List.cons_lt_cons_iff.mp z with z | ⟨_, z⟩
    · exact h z
    · exact absurd z (List.not_lt_nil _)⟩
variable {lk : κ → κ → Bool} {f : κ → List Nat}
theorem inr_map {f : κ → List Nat} (t : TxE e ky lk f) (l : List (κ × ν)) : (eK ky ev l).map (·.1) = ((keysA l).map fun a => (⟨(f a).toArray⟩ : Str)).map Sum.inr := by
  rw [eK, keysA, List.map_map, List.map_map, List.map_map]
  exact List.map_congr_left fun p _ => t.ky p.1
theorem strs_map {Hf : Hp} (t : TxE e ky lk f) : ∀ l : List κ, DpAll K Hf ((l.map fun a => (⟨(f a).toArray⟩ : Str)).map V.str) (l.map e)
  | [] => .nil
  | a :: r => .cons (by rw [t.e]; exact .str _) (strs_map t r)
/-- what makes a new list -/
def RDL (K : PySem.W.Frag) (mu : Mu) (r : List V → Hp → VK → Prop) (kvs : List (Key × PyData)) (ds : List PyData) : Prop := ∀ as fr H p vs, Hk K as fr mu H → H p = some (.dK vs) → vs.map (·.1) = kvs.map (·.1) → DpAll K (off (as ++ fr) H) (vs.map (·.2)) (kvs.map (·.2)) → ∀ Q : VK, (∀ p2 ws, H p2 = none → DpAll K (off (as ++ fr) H) ws ds → Q (.ref p2) (upd H p2 (.lst ws))) → r [.ref p] H Q
theorem RDL.rd {r : List V → Hp → VK → Prop} {ds : List PyData} (h : RDL K mu r kvs ds) : RD K mu r kvs (dL ds) := fun as fr H p vs hk hp h1 h2 Q k => h as fr H p vs hk hp h1 h2 Q fun p2 ws hn hd => k.lst hk hn hd
theorem nw_dcb {r : List V → Hp → VK → Prop} {ds : List PyData} (h : DW K te S kvs) (hr : RDL K S.mu r kvs ds) : NW K (tCB r (tCons te tNil)) S fun ds' mu => ds' = ds ∧ mu = S.mu := fun Z as0 as fr σ H ok Q q =>
  h Z as0 as fr σ H ok _ fun p H1 vs hp g ok1 hk ha =>
    hr as fr (upd H1 p (.dK vs)) p vs (ok1.grow (Ex.new hp)).hk upd_same hk (da_ex (off_ex (Ex.new hp)) ha) Q fun p2 ws hn hd => q p2 _ ws ds S.mu hn (g.trans (.of (Ex.new hp))) (ok1.grow (Ex.new hp)) hd ⟨rfl, rfl⟩
/-- of a dict of our own -/
theorem ra_od {j : Nat} {r : List V → Hp → VK → Prop} {a : AV} (hm : mu[j]? = some (.k kvs)) (h : RD K mu r kvs a) : RA K mu r [.o j] a := fun as fr H vs hk rv Q k => by
  cases rv with
  | cons r1 rv =>
    cases rv
    obtain ⟨p, hp, e⟩ := r1
    subst e
    obtain ⟨ws, hv, h1, h2⟩ := hk.mu.2 j p _ hp hm
    exact h as fr H p ws hk hv h1 h2 Q k
theorem nw_od {j : Nat} {r : List V → Hp → VK → Prop} {ds : List PyData} (hm : S.mu[j]? = some (.k kvs)) (h : EV K te S (.o j)) (hr : RDL K S.mu r kvs ds) : NW K (tCB r (tCons te tNil)) S fun ds' mu => ds' = ds ∧ mu = S.mu := fun Z as0 as fr σ H ok Q q =>
  h Z as0 as fr σ H ok _ fun v H1 a mu1 g ok1 rv ⟨e1, e2⟩ => by
    subst e1 e2
    obtain ⟨p, hp, e⟩ := rv
    subst e
    obtain ⟨ws, hv, h1, h2⟩ := ok1.hk.mu.2 j p _ hp hm
    exact hr as fr H1 p ws ok1.hk hv h1 h2 Q fun p2 ws2 hn hd => q p2 _ ws2 ds S.mu hn g ok1 hd ⟨rfl, rfl⟩
theorem rd_sortS (t : TxE e ky lk f) {l : List (κ × ν)} (h : l.length < 64) : RDL K mu rSortDS (eK ky ev l) ((sortE lk (keysA l)).map e) := fun as fr H p vs hb hp hk ha Q k => by
  refine ⟨p, vs, (keysA l).map fun a => (⟨(f a).toArray⟩ : Str), rfl, .inl hp, hk.trans (inr_map t l), by rw [List.length_map, keysA, List.length_map]; exact h, fun ys p2 hp2 hs hn => ?_⟩
  have e1 := sort_texts t.lt hp2 hs
  subst e1
  exact k p2 _ hn (strs_map t _)
/-- keys that are ints -/
structure InE {κ : Type} (e : κ → PyData) (ky : κ → Key) (lt : κ → κ → Bool) (f : κ → Int) : Prop where
  ky : ∀ a, ky a = .inl (f a)
  e : ∀ a, e a = eZ (f a)
  lt : ∀ a b, lt a b = decide (f a < f b)
theorem in_Z : InE eZ kyZ ltZ id := ⟨fun _ => rfl, fun _ => rfl, fun _ _ => rfl⟩
theorem in_N : InE eN kyN ltN fun n => (n : Int) := ⟨fun _ => rfl, fun _ => rfl, fun a b => by
  show decide (a < b) = decide ((a : Int) < (b : Int))
  by_cases h : a < b
  · rw [decide_eq_true h, decide_eq_true (by omega)]
  · rw [decide_eq_false h, decide_eq_false (by omega)]⟩
theorem sort_ints {f : α → Int} (hl : ∀ a b, lt a b = decide (f a < f b)) {l : List α} {ys : List Int} (hp : ys.Perm (l.map f)) (hs : ys.Pairwise (· ≤ ·)) : ys = (sortE lt l).map f := by
  refine List.Perm.eq_of_pairwise (le := fun a b : Int => a ≤ b) (fun a b _ _ h1 h2 => by omega) hs ?_ (hp.trans ((List.mergeSort_perm l _).symm.map _))
  refine List.pairwise_map.mpr ?_
  have h := List.pairwise_mergeSort (le := fun a b => !lt b a) (fun a b c h1 h2 => by
    rw [hl] at h1 h2 ⊢
    simp only [Bool.not_eq_true', decide_eq_false_iff_not] at h1 h2 ⊢
    omega) (fun a b => by
    rw [hl, hl]
    simp only [Bool.or_eq_true, Bool.not_eq_true', decide_eq_false_iff_not]
    omega) l
  exact h.imp fun h => by
    rw [hl] at h
    simp only [Bool.not_eq_true', decide_eq_false_iff_not] at h
    omega
variable {fz : κ → Int}
theorem rd_sortI (t : InE e ky lk fz) {l : List (κ × ν)} (h : l.length < 64) : RDL K mu rSortDI (eK ky ev l) ((sortE lk (keysA l)).map e) := fun as fr H p vs hb hp hk ha Q k => by
  refine ⟨p, vs, (keysA l).map fz, rfl, .inl hp, hk.trans ?_, by rw [List.length_map, keysA, List.length_map]; exact h, fun ys p2 hp2 hs hn => ?_⟩
  · rw [eK, keysA, List.map_map, List.map_map, List.map_map]
    exact List.map_congr_left fun p _ => t.ky p.1
  have e1 := sort_ints t.lt hp2 hs
  subst e1
  refine k p2 _ hn ?_
  rw [show (sortE lk (keysA l)).map e = ((sortE lk (keysA l)).map fz).map PyData.int by rw [List.map_map]; exact List.map_congr_left fun a _ => t.e a]
  exact da_of_ints _
/-- a look into a new dict -/
theorem ev_dgetT {ty : TE} {k : κ} {l : List (κ × ν)} {v : ν} (hy : KyE e ky) (h : DW K te S (eK ky ev l)) (hk : EV K ty S (.d (e k))) (hv : lookA l k = some v) : EV K (tDGet te ty) S (.d (ev v)) := fun Z as0 as fr σ H ok Q q =>
  h Z as0 as fr σ H ok _ fun p H1 vs hp g ok1 h1 h2 => by
    have ok2 := ok1.grow (Ex.new (o := .dK vs) hp)
    have hz := ok1.z_none hp
    have hn : p ∉ as := fun m => ok1.fresh hp (List.mem_append_left _ m)
    have ok3 : Ok K (upd Z p (.dK vs)) as0 as fr S σ (upd H1 p (.dK vs)) := ⟨ok2.len, ok2.sl, ok2.mu, ok2.nd, ok2.ex, ok2.pre, fun b o e => by
      by_cases c : b = p
      · subst c; rw [upd_same] at e; cases e; exact ⟨hn, upd_same⟩
      · rw [upd_ne c] at e; exact ok2.pres b o e⟩
    refine hk _ as0 as fr σ _ ok3 _ fun w H3 a mu3 g3 ok4 r ⟨e1, e2⟩ => ?_
    subst e1 e2
    have hp3 := (ok4.pres p _ upd_same).2
    have h3 := da_ex (off_ex (Ex.new (o := .dK vs) hp)) h2
    rcases lookD_val (k := ky k) h1 (da_ex g3 h3) with ⟨a, b⟩ | ⟨d2, v2, a, b, c⟩
    · rw [lookD_eK hy, hv] at a; cases a
    · rw [lookD_eK hy, hv] at a; cases a
      have r' := kA_rep (as := as) (k := ky k) (show RepV K _ as w (kA (ky k)) by rw [hy.val]; exact r)
      refine ⟨p, v2, rfl, ?_, q v2 H3 (.d (ev v)) S.mu ((g.trans (.of (Ex.new hp))).trans g3) (ok4.anchor fun b o e => by rw [upd_ne (fun z => by subst z; rw [hz] at e; cases e)]; exact e) c ⟨rfl, rfl⟩⟩
      rw [r', ← b]; exact DGet.k hp3
/-- kept as our own -/
theorem sw_asgDW {i : Nat} (h : DW K te S kvs) (k : A.nx ⟨S.sl.set i (some (.o S.mu.length)), S.mu ++ [.k kvs]⟩) : SW K (tAsg te (gName i)) S A := fun Z as0 as fr σ H D ok im =>
  h Z as0 as fr σ H ok _ fun p H1 vs hp g ok1 h1 h2 => by
    have ok2 := ok1.own (o := .dK vs) (m := .k kvs) hp ⟨vs, upd_same, h1, h2⟩
    refine im.nx _ _ _ _ (ok2.store (i := i) (v := .ref p) (av := .o S.mu.length) ⟨p, ?_, rfl⟩) k
    rw [← ok1.mu.1, List.getElem?_append_right (Nat.le_refl _), Nat.sub_self]; rfl
/-! displays -/
theorem upd_del2 {H : Hp} {p : Addr} {o : HO} : upd (del p H) p o = upd H p o := by
  funext b
  by_cases c : b = p
  · subst c; rw [upd_same, upd_same]
  · rw [upd_ne c, upd_ne c, del_ne c]
def PV (K : PySem.W.Frag) (S : AS) : List (TE × TE) → List (Key × PyData) → Prop
  | [], [] => True
  | t :: r, p :: s => EV K t.1 S (kA p.1) ∧ EV K t.2 S (.d p.2) ∧ PV K S r s
  | _, _ => False
theorem pv_run : ∀ (trs : List (TE × TE)) (kvs : List (Key × PyData)), PV K S trs kvs → ∀ Z as0 as fr σ H, Ok K Z as0 as fr S σ H → ∀ Q : List (V × V) → Hp → Prop,
    (∀ H1 (vs : List (Key × V)), Gr as fr H H1 → Ok K Z as0 as fr S σ H1 → vs.map (·.1) = kvs.map (·.1) → DpAll K (off (as ++ fr) H1) (vs.map (·.2)) (kvs.map (·.2)) → Q (vs.map fun kv => (kV kv.1, kv.2)) H1) → tPairs trs σ H Q
  | [], [], _, Z, as0, as, fr, σ, H, ok, Q, q => q H [] (Ex.refl _) ok rfl .nil
  | [], _ :: _, h, _, _, _, _, _, _, _, _, _ => h.elim
  | _ :: _, [], h, _, _, _, _, _, _, _, _, _ => h.elim
  | t :: r, p :: s, ⟨h1, h2, h3⟩, Z, as0, as, fr, σ, H, ok, Q, q => by
    obtain ⟨t1, t2⟩ := t
    refine h1 Z as0 as fr σ H ok _ fun v H1 a mu1 g1 ok1 r1 ⟨e1, e2⟩ => ?_
    subst e1 e2
    refine h2 Z as0 as fr σ H1 ok1 _ fun w H2 a mu2 g2 ok2 r2 ⟨e1, e2⟩ => ?_
    subst e1 e2
    refine pv_run r s h3 Z as0 as fr σ H2 ok2 _ fun H3 vs g3 ok3 k1 k2 => ?_
    have := q H3 ((p.1, w) :: vs) ((g1.trans g2).trans g3) ok3 (by rw [List.map_cons, List.map_cons, k1]) (.cons (dp_ex g3 r2) k2)
    rw [List.map_cons] at this
    rw [kA_rep r1]; exact this
theorem pv_nil : PV K S [] (eK ky ev []) := True.intro
theorem pv_cons {r : List (TE × TE)} {k : κ} {v : ν} {s : List (κ × ν)} (hy : KyE e ky) (h1 : EV K tk S (.d (e k))) (h2 : EV K tv S (.d (ev v))) (h3 : PV K S r (eK ky ev s)) : PV K S ((tk, tv) :: r) (eK ky ev ((k, v) :: s)) := ⟨by rw [hy.val]; exact h1, h2, h3⟩
theorem kvs_len {vs : List (Key × V)} {kvs : List (Key × PyData)} (h : vs.map (·.1) = kvs.map (·.1)) : vs.length = kvs.length := by
  have := congrArg List.length h
  rwa [List.length_map, List.length_map] at this
theorem dw_disp {trs : List (TE × TE)} {ps : List (κ × ν)} (hy : KyE e ky) (h : PV K S trs (eK ky ev ps)) (hl : ps.length ≤ 15 := by first | decide | simp) : DW K (tDisp trs) S (eK ky ev (ofA ps)) := fun Z as0 as fr σ H ok Q q p hp => by
  have hz := ok.z_none hp
  have ok2 := (ok.laid (o := .dK []) hp).pin upd_same
  refine pv_run trs _ h _ as0 as (p :: fr) σ _ ok2 _ fun H1 vs g1 ok1 k1 k2 => ?_
  have hD := (ok1.pres p _ upd_same).2
  have ok3 : Ok K Z as0 as (p :: fr) S σ H1 := ok1.anchor fun b o e => by rw [upd_ne (fun z => by subst z; rw [hz] at e; cases e)]; exact e
  refine ⟨hD, vs, rfl, by rw [kvs_len k1, List.length_map]; exact hl, ?_⟩
  obtain ⟨m1, m2⟩ := merge_val hy ps vs [] [] (by rw [k1, List.map_map]; rfl) (by rw [List.map_map] at k2; exact k2) rfl .nil
  have g2 : Gr as fr H (del p H1) := by
    have g3 : Gr as fr H (del p (upd H p (.dK []))) := fun b o e => by
      obtain ⟨e1, e2⟩ := off_of e
      have : b ≠ p := ne_of_none e1 hp
      rw [off_at e2, del_ne this, upd_ne this]; exact e1
    refine g3.trans ?_
    unfold Gr at g1 ⊢; rw [off_del, off_del] at g1; exact g1
  have := q p (del p H1) _ del_same g2 (ok3.aside hz) m1 (by rw [← off_del]; exact m2)
  rw [upd_del2] at this
  exact this
/-- a comprehension -/
theorem dw_dc {ι : Type} {ea : ι → PyData} {xs : List ι} {wi : TI} {g : TG} {js vs : List Nat} {tt : TT} {f : ι → Option (Option (κ × ν))} {ps : List (κ × ν)} (hy : KyE e ky) (hI : XI K wi S (xs.map ea) S.mu) (hj : ∀ j ∈ js, j ∈ vs) (hm : filO f xs = some ps) (hl : ps.length < 1000000)
    (hb : ∀ x o, f x = some o → GW K g js (ea x) ⟨wp S.sl vs, S.mu⟩ fun S2 => S2.mu = S.mu ∧ TV K tt S2 o.isSome ∧ ∀ p, o = some p → EV K tk S2 (.d (e p.1)) ∧ EV K tv S2 (.d (ev p.2))) : DW K (tDc wi g tt tk tv vs) S (eK ky ev (ofA ps)) := fun Z as0 as fr σ H ok Q q =>
  hI Z as0 as fr σ H ok _ fun J H1 ds' G mu1 g1 ok1 F hG ⟨e1, e2⟩ => fun Dl hD => by
    subst e1; subst e2
    have hz := ok1.z_none hD
    have ok2 := ok1.laid (o := .dK []) hD
    have hG2 : G (off (as ++ Dl :: fr) (upd H1 Dl (.dK []))) := F.stay _ _ hG (fun b o e => by
      rw [off_del]
      obtain ⟨e1, e2⟩ := off_of e
      have : b ≠ Dl := ne_of_none e1 hD
      rw [off_at e2, del_ne this, upd_ne this]; exact e1)
    have g2 : Gr as fr H (del Dl (upd H1 Dl (.dK []))) := g1.trans (fun b o e => by
      obtain ⟨e1, e2⟩ := off_of e
      have : b ≠ Dl := ne_of_none e1 hD
      rw [off_at e2, del_ne this, upd_ne this]; exact e1)
    have gD : ∀ {Ha Hb : Hp}, Gr as (Dl :: fr) Ha Hb → Gr as fr (del Dl Ha) (del Dl Hb) := fun g => by
      unfold Gr at g ⊢; rw [off_del, off_del] at g; exact g
    have dU : ∀ (Ha : Hp) (o : HO), del Dl (upd Ha Dl o) = del Dl Ha := fun Ha o => by
      funext b
      by_cases e : b = Dl
      · subst e; rw [del_same, del_same]
      · rw [del_ne e, del_ne e, upd_ne e]
    have zle : ∀ (vv : List (Key × V)) b o, Z b = some o → upd Z Dl (.dK vv) b = some o := fun vv b o e => by
      rw [upd_ne (fun z => by subst z; rw [hz] at e; cases e)]; exact e
    refine ⟨fun i m H' => m = (xs.map ea).length - i ∧ i ≤ (xs.map ea).length ∧ ∃ (vs' : List (Key × V)) (p1 p2 : List (κ × ν)), H' Dl = some (.dK vs') ∧ Ok K Z as0 as (Dl :: fr) ⟨S.sl, S.mu⟩ σ H' ∧ vs'.map (·.1) = (eK ky ev (ofA p1)).map (·.1) ∧ DpAll K (off (as ++ Dl :: fr) H') (vs'.map (·.2)) ((eK ky ev (ofA p1)).map (·.2)) ∧ filO f (xs.drop i) = some p2 ∧ p1 ++ p2 = ps ∧ G (off (as ++ Dl :: fr) H') ∧ Gr as fr H (del Dl H'),
      ⟨(xs.map ea).length, by simp, Nat.zero_le _, [], [], ps, upd_same, ok2, rfl, .nil, by simpa using hm, rfl, hG2, g2⟩, ?_⟩
    rintro i m H' ⟨rfl, hi, vs', p1, p2, hDl, ok', hk, ra, hf, hp, hg, gr⟩
    by_cases hlt : i < (xs.map ea).length
    · refine .inr ⟨F.go i _ H' hg hlt, fun H'' => i + 1 ≤ (xs.map ea).length ∧ ∃ (vs' : List (Key × V)) (p1 p2 : List (κ × ν)), H'' Dl = some (.dK vs') ∧ Ok K Z as0 as (Dl :: fr) ⟨S.sl, S.mu⟩ σ H'' ∧ vs'.map (·.1) = (eK ky ev (ofA p1)).map (·.1) ∧ DpAll K (off (as ++ Dl :: fr) H'') (vs'.map (·.2)) ((eK ky ev (ofA p1)).map (·.2)) ∧ filO f (xs.drop (i + 1)) = some p2 ∧ p1 ++ p2 = ps ∧ G (off (as ++ Dl :: fr) H'') ∧ Gr as fr H (del Dl H''),
        fun H'' h => ⟨(xs.map ea).length - (i + 1), by omega, rfl, h.1, h.2⟩, fun x H2 hy' => ?_⟩
      obtain ⟨d, hd, e2, rx⟩ := F.yld i (as ++ Dl :: fr) H' x H2 hg ok'.ex hlt hy'
      have okx := ok'.grow e2
      have h2D : H2 Dl = some (.dK vs') := e2 _ _ hDl
      obtain ⟨u, hu, rfl⟩ := lst_at hd
      rw [drop_cons hu, filO] at hf
      obtain ⟨o, h9, hf⟩ := bs hf
      obtain ⟨p3, h10, hf⟩ := bs hf
      cases hf
      have hT := hb u o h9 (upd Z Dl (.dK vs')) as0 as (Dl :: fr) (wipe σ vs) H2 x (Ok.wipe (okx.pin h2D) vs) rx
      refine hT _ fun S2 σ2 okS hwp ⟨hm2, htv, hkv⟩ => ⟨by rw [hwp vs hj, wipe_wipe], ?_⟩
      refine htv _ as0 as (Dl :: fr) σ2 H2 okS _ fun b' H3 mu2 g3 ok3 ⟨e3, e4⟩ => ?_
      subst e3; subst e4
      have h3D : H3 Dl = some (.dK vs') := (ok3.pres Dl _ upd_same).2
      have gr3 : Gr as (Dl :: fr) H' H3 := (Gr.of e2).trans g3
      cases o with
      | none =>
        rw [if_neg (by simp)]
        have okS3 : Ok K Z as0 as (Dl :: fr) ⟨S.sl, S2.mu⟩ σ H3 := okx.shift g3 (ok3.anchor (zle vs'))
        rw [hm2] at okS3
        exact ⟨hlt, vs', p1, p3, h3D, okS3, hk, da_ex gr3 ra, h10, hp, F.stay _ _ hg gr3, gr.trans (gD gr3)⟩
      | some p =>
        rw [if_pos (show (some p).isSome = true from rfl)]
        obtain ⟨k1, k2⟩ := hkv p rfl
        refine k1 _ as0 as (Dl :: fr) σ2 H3 ok3 _ fun y H4 a mu4 g4 ok4 r4 ⟨e5, e6⟩ => ?_
        subst e5; subst e6
        refine k2 _ as0 as (Dl :: fr) σ2 H4 ok4 _ fun z H5 a mu5 g5 ok5 r5 ⟨e7, e8⟩ => ?_
        subst e7; subst e8
        have h5D : H5 Dl = some (.dK vs') := (ok5.pres Dl _ upd_same).2
        have gr25 : Gr as (Dl :: fr) H2 H5 := (g3.trans g4).trans g5
        have gr5 : Gr as (Dl :: fr) H' H5 := (gr3.trans g4).trans g5
        have okS5 : Ok K Z as0 as (Dl :: fr) ⟨S.sl, S2.mu⟩ σ H5 := okx.shift gr25 (ok5.anchor (zle vs'))
        rw [hm2] at okS5
        have r4' := kA_rep (as := as) (k := ky p.1) (show RepV K _ as y (kA (ky p.1)) by rw [hy.val]; exact r4)
        subst r4'
        obtain ⟨q1, q2⟩ := put_val (k := ky p.1) (v := z) (d := ev p.2) hk (da_ex gr5 ra) r5
        rw [putD_eK hy] at q1 q2
        have hfold : putA (ofA p1) p.1 p.2 = ofA (p1 ++ [p]) := by unfold ofA; rw [List.foldl_append]; rfl
        rw [hfold] at q1 q2
        have hlen : vs'.length < 1000000 := by
          have h1 := kvs_len hk
          rw [eK, List.length_map] at h1
          have h2 := foldA_length p1 []
          have h3 : p1.length ≤ ps.length := by rw [← hp]; simp
          simp only [List.length_nil] at h2
          unfold ofA at h1
          omega
        refine ⟨vs', ky p.1, rfl, h5D, sz_lt hlen, hlt, putK vs' (ky p.1) z, p1 ++ [p], p3, upd_same, okS5.turn hz, q1, ?_, h10, by rw [← hp, List.append_assoc]; rfl, ?_, ?_⟩
        · rw [off_turn]; exact q2
        · rw [off_turn]; exact F.stay _ _ hg gr5
        · rw [dU]; exact gr.trans (gD gr5)
    · have e : i = (xs.map ea).length := by omega
      subst e
      refine .inl ⟨F.stop _ _ hg, ?_⟩
      rw [List.length_map, List.drop_of_length_le (Nat.le_refl _), filO] at hf
      cases hf
      rw [List.append_nil] at hp
      subst hp
      have := q Dl (del Dl H') vs' del_same gr (ok'.aside hz) hk (by rw [← off_del]; exact ra)
      rw [upd_del hDl] at this
      exact this
def dcG {ι : Type} (f : ι → Option (Option (κ × ν))) (xs : List ι) : Option (List (κ × ν)) := (filO f xs).bind fun ps => gd (ps.length < 1000000) (ofA ps)
theorem dw_dcG {ι : Type} {ea : ι → PyData} {xs : List ι} {wi : TI} {g : TG} {js vs : List Nat} {tt : TT} {f : ι → Option (Option (κ × ν))} {l : List (κ × ν)} (hy : KyE e ky) (hI : XI K wi S (xs.map ea) S.mu) (hj : ∀ j ∈ js, j ∈ vs) (hm : dcG f xs = some l)
    (hb : ∀ x o, f x = some o → GW K g js (ea x) ⟨wp S.sl vs, S.mu⟩ fun S2 => S2.mu = S.mu ∧ TV K tt S2 o.isSome ∧ ∀ p, o = some p → EV K tk S2 (.d (e p.1)) ∧ EV K tv S2 (.d (ev p.2))) : DW K (tDc wi g tt tk tv vs) S (eK ky ev l) := by
  obtain ⟨ps, h1, h2⟩ := bs hm
  obtain ⟨h3, rfl⟩ := gd_of h2
  exact dw_dc hy hI hj h1 h3 hb
theorem dw_is {ps l : List (κ × ν)} (h : DW K te S (eK ky ev (ofA ps))) (hw : some (ofA ps) = some l) : DW K te S (eK ky ev l) := by cases hw; exact h
def ofO (ps : List (κ × ν)) : Option (List (κ × ν)) := some (ofA ps)
theorem ev_dlenT {l : List (κ × ν)} (h : DW K te S (eK ky ev l)) : EV K (tCB rLenDk (tCons te tNil)) S (.d (eN l.length)) := by
  have := ev_dcb h rd_len
  rw [eK, List.length_map] at this
  exact this
theorem ev_dlenO {j : Nat} {l : List (κ × ν)} (hm : S.mu[j]? = some (.k (eK ky ev l))) (h : EV K te S (.o j)) : EV K (tCB rLenDk (tCons te tNil)) S (.d (eN l.length)) := by
  have := ev_cb (av_cons h av_nil) (ra_od hm rd_len)
  rw [eK, List.length_map] at this
  exact this
def srtO (lt : κ → κ → Bool) (l : List (κ × ν)) : Option (List κ) := gd (l.length < 64) (sortE lt (keysA l))
theorem nw_srtT {r : List V → Hp → VK → Prop} {l : List (κ × ν)} {ys : List κ} (hw : srtO lk l = some ys) (hr : l.length < 64 → RDL K S.mu r (eK ky ev l) ((sortE lk (keysA l)).map e)) (h : DW K te S (eK ky ev l)) : NW K (tCB r (tCons te tNil)) S fun ds mu => ds = ys.map e ∧ mu = S.mu := by
  obtain ⟨h1, rfl⟩ := gd_of hw
  exact nw_dcb h (hr h1)
theorem nw_srtO {j : Nat} {r : List V → Hp → VK → Prop} {l : List (κ × ν)} {ys : List κ} (hw : srtO lk l = some ys) (hr : l.length < 64 → RDL K S.mu r (eK ky ev l) ((sortE lk (keysA l)).map e)) (hm : S.mu[j]? = some (.k (eK ky ev l))) (h : EV K te S (.o j)) : NW K (tCB r (tCons te tNil)) S fun ds mu => ds = ys.map e ∧ mu = S.mu := by
  obtain ⟨h1, rfl⟩ := gd_of hw
  exact nw_od hm h (hr h1)
/-- one pair of a comprehension -/
theorem dc_all {S3 : AS} {mu0 : Mu} {o : Option (κ × ν)} {v : κ × ν} (hm : S3.mu = mu0) (h : o = some v) (k : EV K tk S3 (.d (e v.1))) (k2 : EV K tv S3 (.d (ev v.2))) : S3.mu = mu0 ∧ TV K tYes S3 o.isSome ∧ ∀ p, o = some p → EV K tk S3 (.d (e p.1)) ∧ EV K tv S3 (.d (ev p.2)) := by
  subst h; exact ⟨hm, tv_yes, fun z e => by cases e; exact ⟨k, k2⟩⟩
theorem dc_if {tt : TT} {S3 : AS} {mu0 : Mu} {c : Bool} {o : Option (κ × ν)} {op : Option (Option (κ × ν))} (hm : S3.mu = mu0) (h : (if c = true then op else some none) = some o) (hc : TV K tt S3 c) (k : op = some o → ∃ v, o = some v ∧ EV K tk S3 (.d (e v.1)) ∧ EV K tv S3 (.d (ev v.2))) : S3.mu = mu0 ∧ TV K tt S3 o.isSome ∧ ∀ p, o = some p → EV K tk S3 (.d (e p.1)) ∧ EV K tv S3 (.d (ev p.2)) := by
  cases c with
  | true =>
    rw [if_pos rfl] at h
    obtain ⟨v, rfl, h1, h2⟩ := k h
    exact ⟨hm, hc, fun p e => by cases e; exact ⟨h1, h2⟩⟩
  | false =>
    rw [if_neg Bool.false_ne_true] at h
    cases h
    exact ⟨hm, hc, fun p e => by cases e⟩
/-! dicts of our own, typed -/
def getO (l : List (κ × ν)) (k : κ) : Option ν := lookA l k
theorem ev_dgetO {i j : Nat} {ty : TE} {k : κ} {l : List (κ × ν)} {v : ν} (hy : KyE e ky) (hi : S.sl[i]? = some (some (.o j))) (hm : S.mu[j]? = some (.k (eK ky ev l))) (h : EV K ty S (.d (e k))) (hv : lookA l k = some v) : EV K (tDGet (tVar i) ty) S (.d (ev v)) :=
  ev_dget (k := ky k) hi hm (by rw [hy.val]; exact h) (by rw [lookD_eK hy, hv]; rfl)
theorem tv_dinO {i j : Nat} {ty : TE} {k : κ} {l : List (κ × ν)} (hy : KyE e ky) (hi : S.sl[i]? = some (some (.o j))) (hm : S.mu[j]? = some (.k (eK ky ev l))) (h : EV K ty S (.d (e k))) : EV K (tDIn ty (tVar i)) S (dB (hasA l k)) := by
  have := ev_din (k := ky k) hi hm (by rw [hy.val]; exact h)
  rw [lookD_eK hy, Option.isSome_map, hasA_look] at this
  exact this
theorem tv_dninO {i j : Nat} {ty : TE} {k : κ} {l : List (κ × ν)} (hy : KyE e ky) (hi : S.sl[i]? = some (some (.o j))) (hm : S.mu[j]? = some (.k (eK ky ev l))) (h : EV K ty S (.d (e k))) : EV K (tDNotIn ty (tVar i)) S (dB (!hasA l k)) := by
  have := ev_dnin (k := ky k) hi hm (by rw [hy.val]; exact h)
  rw [lookD_eK hy, Option.isSome_map, hasA_look] at this
  exact this
def dputO (l : List (κ × ν)) (k : κ) (v : ν) : Option (List (κ × ν)) := gd (l.length < 1000000) (putA l k v)
theorem sw_dputO {i j : Nat} {ty : TE} {k : κ} {l l' : List (κ × ν)} {v : ν} (hw : dputO l k v = some l') (hy : KyE e ky) (hi : S.sl[i]? = some (some (.o j))) (hm : S.mu[j]? = some (.k (eK ky ev l))) (h1 : EV K te S (.d (ev v))) (h2 : EV K ty S (.d (e k))) (n : A.nx ⟨S.sl, S.mu.set j (.k (eK ky ev l'))⟩) : SW K (sDPut (tVar i) ty te) S A := by
  obtain ⟨h3, rfl⟩ := gd_of hw
  refine sw_dput hi (h1.ew (EV.ew (S := ⟨S.sl, S.mu⟩) h2 ⟨ev v, ky k, eK ky ev l, rfl, (hy.val k).symm, hm, by rw [eK, List.length_map]; exact h3, ?_⟩))
  rw [putD_eK hy]; exact n
/-! an int that is a count -/
def natZ (z : Int) : Option Nat := gd (0 ≤ z) z.toNat
theorem natZ_of {z : Int} {n : Nat} (h : natZ z = some n) : eZ z = eN n := by
  obtain ⟨h1, rfl⟩ := gd_of h
  show PyData.int z = PyData.int _
  rw [Int.toNat_of_nonneg h1]
theorem natZ_eq {z : Int} {n : Nat} (h : z = (n : Int)) : natZ z = some n := by
  subst h
  show gd _ _ = _
  rw [gd_eq (by omega), Int.toNat_natCast]
theorem tup2 {a b c d : PyData} (h1 : a = c) (h2 : b = d) : PyData.tuple [a, b] = PyData.tuple [c, d] := by rw [h1, h2]
theorem tup3 {a b c a' b' c' : PyData} (h1 : a = a') (h2 : b = b') (h3 : c = c') : PyData.tuple [a, b, c] = PyData.tuple [a', b', c'] := by rw [h1, h2, h3]
theorem tup4 {a b c d a' b' c' d' : PyData} (h1 : a = a') (h2 : b = b') (h3 : c = c') (h4 : d = d') : PyData.tuple [a, b, c, d] = PyData.tuple [a', b', c', d'] := by rw [h1, h2, h3, h4]
/-! a text in a text -/
def fnd : List Nat → List Nat → Option Nat
  | [], n => if n.isEmpty then some 0 else none
  | c :: cs, n => if n.isPrefixOf (c :: cs) then some 0 else (fnd cs n).map (· + 1)
def occ (h n : List Nat) : Bool := (fnd h n).isSome
theorem pfx_iff {n h : List Nat} : n.isPrefixOf h = true ↔ Occ h n 0 := by
  rw [List.isPrefixOf_iff_prefix]
  unfold Occ
  rw [Nat.zero_add, List.drop_zero]
  constructor
  · intro ⟨t, e⟩
    subst e
    exact ⟨by simp, by simp⟩
  · intro ⟨h1, h2⟩
    exact ⟨h.drop n.length, by rw [← h2, List.length_take, Nat.min_eq_left h1]; exact List.take_append_drop _ _⟩
theorem occ_succ {c : Nat} {h n : List Nat} {i : Nat} : Occ (c :: h) n (i + 1) ↔ Occ h n i := by
  unfold Occ
  rw [List.length_cons, List.drop_succ_cons]
  constructor
  · intro ⟨h1, h2⟩; exact ⟨by omega, h2⟩
  · intro ⟨h1, h2⟩; exact ⟨by omega, h2⟩
theorem fnd_none : ∀ {h n : List Nat}, fnd h n = none ↔ ∀ i, ¬ Occ h n i
  | [], n => by
    rw [fnd]
    cases n with
    | nil => simp only [List.isEmpty_nil, if_true]; exact ⟨fun h => (nomatch h), fun h => absurd ⟨Nat.le_refl _, rfl⟩ (h 0)⟩
    | cons a r => simp only [List.isEmpty_cons]; exact ⟨fun _ i h => absurd h.1 (by simp), fun _ => rfl⟩
  | c :: cs, n => by
    rw [fnd]
    by_cases p : n.isPrefixOf (c :: cs) = true
    · rw [if_pos p]
      exact ⟨fun h => (nomatch h), fun h => absurd (pfx_iff.mp p) (h 0)⟩
    · rw [if_neg p, Option.map_eq_none_iff, fnd_none]
      constructor
      · intro h i
        cases i with
        | zero => exact fun z => p (pfx_iff.mpr z)
        | succ i => exact fun z => h i (occ_succ.mp z)
      · intro h i z
        exact h (i + 1) (occ_succ.mpr z)
theorem fnd_some : ∀ {h n : List Nat} {j : Nat}, fnd h n = some j → Occ h n j ∧ ∀ i, i < j → ¬ Occ h n i
  | [], n, j, e => by
    rw [fnd] at e
    cases n with
    | nil => simp only [List.isEmpty_nil, if_true] at e; cases e; exact ⟨⟨Nat.le_refl _, rfl⟩, fun i hi => absurd hi (Nat.not_lt_zero i)⟩
    | cons a r => simp at e
  | c :: cs, n, j, e => by
    rw [fnd] at e
    by_cases p : n.isPrefixOf (c :: cs) = true
    · rw [if_pos p] at e
      cases e
      exact ⟨pfx_iff.mp p, fun i hi => absurd hi (Nat.not_lt_zero i)⟩
    · rw [if_neg p] at e
      cases q : fnd cs n with
      | none => rw [q] at e; cases e
      | some k =>
        rw [q] at e
        cases e
        obtain ⟨h1, h2⟩ := fnd_some q
        refine ⟨occ_succ.mpr h1, fun i hi => ?_⟩
        cases i with
        | zero => exact fun z => p (pfx_iff.mpr z)
        | succ i => exact fun z => h2 i (Nat.lt_of_succ_lt_succ hi) (occ_succ.mp z)
theorem occ_iff {h n : List Nat} : occ h n = true ↔ ∃ i, Occ h n i := by
  unfold occ
  constructor
  · intro e
    obtain ⟨j, e⟩ := Option.isSome_iff_exists.mp e
    exact ⟨j, (fnd_some e).1⟩
  · intro ⟨i, e⟩
    cases q : fnd h n with
    | none => exact absurd e (fnd_none.mp q i)
    | some j => rfl
theorem occs_fnd (l s : List Nat) : (Builtin.Str.occurrences ⟨l.toArray⟩ ⟨s.toArray⟩ 0 (⟨l.toArray⟩ : Str).length 1).head? = fnd l s := by
  rcases StrLaws.occ_head ⟨l.toArray⟩ ⟨s.toArray⟩ 1 (Nat.le_refl _) with ⟨h1, h2⟩ | ⟨i, r, h1, h2, h3⟩
  · rw [h1]
    exact (fnd_none.mpr fun i z => h2 i (at_occ.mpr z)).symm
  · rw [h1]
    show some i = _
    cases q : fnd l s with
    | none => exact absurd (at_occ.mp h2) (fnd_none.mp q i)
    | some j =>
      obtain ⟨k1, k2⟩ := fnd_some q
      rcases Nat.lt_trichotomy i j with z | z | z
      · exact absurd (at_occ.mp h2) (k2 i z)
      · rw [z]
      · exact absurd (at_occ.mpr k1) (h3 j z)
theorem occs_occ (l s : List Nat) : (!(Builtin.Str.occurrences ⟨l.toArray⟩ ⟨s.toArray⟩ 0 (⟨l.toArray⟩ : Str).length 1).isEmpty) = occ l s := by
  unfold occ
  rw [← occs_fnd]
  cases Builtin.Str.occurrences ⟨l.toArray⟩ ⟨s.toArray⟩ 0 (⟨l.toArray⟩ : Str).length 1 <;> rfl
theorem rb_inSub {l s : List Nat} : RB K mu (rInU K) (dS s) (dS l) (dB (occ l s)) := fun as fr H v1 v2 hk r1 r2 Q k => by
  cases r1; cases r2
  exact .inr (.inr (.inr ⟨_, _, rfl, rfl, by rw [occs_occ]; exact k.bl⟩))
theorem rb_ninSub {l s : List Nat} : RB K mu (rNotInU K) (dS s) (dS l) (dB (!occ l s)) := fun as fr H v1 v2 hk r1 r2 Q k => by
  cases r1; cases r2
  exact .inr (.inr (.inr ⟨_, _, rfl, rfl, by rw [occs_occ]; exact k.bl⟩))
/-! text.find(text) -/
def fndZ (l s : List Nat) : Int := match fnd l s with
  | some i => (i : Int)
  | none => -1
theorem find_fnd (l s : List Nat) : Txt.find ⟨l.toArray⟩ ⟨s.toArray⟩ = fndZ l s := by
  unfold fndZ
  rcases find_occ l s with ⟨h1, h2⟩ | ⟨i, h1, h2, h3⟩
  · rw [h1, fnd_none.mpr h2]
  · rw [h1]
    cases q : fnd l s with
    | none => exact absurd h2 (fnd_none.mp q i)
    | some j =>
      obtain ⟨k1, k2⟩ := fnd_some q
      rcases Nat.lt_trichotomy i j with z | z | z
      · exact absurd h2 (k2 i z)
      · rw [z]
      · exact absurd k1 (h3 j z)
theorem rm_fnd {l s : List Nat} : RM K mu (fun x xs H Q => ∃ a b, x = .str a ∧ xs = [.str b] ∧ Q (.int (Txt.find a b)) H) (dS l) [dS s] (dI (fndZ l s)) := by
  rw [← find_fnd]; exact rm_find
/-- text.index(text) -/
theorem rm_sidxS {l s : List Nat} {i : Nat} (h : fnd l s = some i) : RM K mu rSIdx (dS l) [dS s] (dn i) := fun as fr H v vs hk r1 r2 Q k => by
  cases r2 with
  | cons r2 r3 =>
    cases r3
    cases r2
    cases r1
    have e := occs_fnd l s
    rw [h] at e
    cases q : Builtin.Str.occurrences ⟨l.toArray⟩ ⟨s.toArray⟩ 0 (⟨l.toArray⟩ : Str).length 1 with
    | nil => rw [q] at e; cases e
    | cons a r => rw [q] at e; cases e; exact ⟨_, _, i, r, rfl, rfl, q, k.int⟩
end
end D2
set_option Elab.async false
set_option linter.all false
set_option maxRecDepth 100000
set_option maxHeartbeats 4000000
/-! DT11: lists of ranges. -/
namespace D2
open PySem L2
section
variable {K : PySem.W.Frag} {S : AS} {ta tb : TE}
theorem rgV_dp {H : Hp} (a n : Nat) : DpAll K H (rgV (a : Int) ((a + n : Nat) : Int)) (((List.range n).map fun k => a + k).map eN) := by
  unfold rgV
  rw [show (((a + n : Nat) : Int) - (a : Int)).toNat = n by omega, List.map_map]
  generalize List.range n = l
  induction l with
  | nil => exact .nil
  | cons x l ih =>
    refine .cons ?_ ih
    show Dp K H (.int ((a : Int) + ((x : Nat) : Int))) (.int ((a + x : Nat) : Int))
    rw [Int.natCast_add]; exact .int _
def lrg1 (n : Nat) : Option (List Nat) := gd (n ≤ 1000000) (List.range n)
theorem nw_lrg1 {n : Nat} {xs : List Nat} (hx : lrg1 n = some xs) (h : EV K ta S (.d (eN n))) : NW K (tLstRg (tRg1 ta)) S fun ds mu => ds = xs.map eN ∧ mu = S.mu := fun Z as0 as fr σ H ok Q q =>
  h Z as0 as fr σ H ok _ fun v H1 a mu1 g1 ok1 r1 ⟨e1, e2⟩ => by
    subst e1 e2
    obtain ⟨hn, rfl⟩ := gd_of hx
    cases r1
    refine ⟨_, rfl, .of_le (by omega) (by omega) (by omega) (by omega), fun p hp => ?_⟩
    have := rgV_dp (K := K) (H := off (as ++ fr) H1) 0 n
    rw [Nat.zero_add, show (List.range n).map (fun k => 0 + k) = List.range n by simp] at this
    exact q p H1 _ _ _ hp g1 ok1 this ⟨rfl, rfl⟩
theorem ev_lrg1 {n : Nat} {xs : List Nat} (hx : lrg1 n = some xs) (h : EV K ta S (.d (eN n))) : EV K (tLstRg (tRg1 ta)) S (.d (eL eN xs)) := by
  have := NW.ev (nw_lrg1 hx h)
  exact this
theorem rm_idxLB {mu : Mu} {l : List Bool} {x : Bool} {n : Nat} (h : idxL l x = some n) : RM K mu (rIndex K) (.d (eL eB l)) [dB x] (dn n) := let ⟨h1, h2⟩ := idxL_at h; rm_indexB h1 h2
def lrg2 (m n : Nat) : Option (List Nat) := gd (m ≤ 1000000 ∧ n ≤ 1000000) ((List.range (n - m)).map fun k => m + k)
end
end D2
set_option Elab.async false
set_option linter.all false
set_option maxRecDepth 100000
set_option maxHeartbeats 4000000
/-! DT12: tuples so many times; floor division in place. -/
namespace D2
open PySem PySem.Spec PyProof.Rows L2
theorem tuple_mul1 (l : Addr) (items : Array Value) (n : Nat) (dd : Option Addr) (sl : Array (Option Value)) (u : Tok) :
    Meets (Builtin.«tuple.__mul__» ⟨[.ref l, .int 1 u], []⟩) (fun _ R s => s.heap.get? l = some { cls := .type "tuple", dict := dd, data := .seq items n, slots := sl } ∧ R (.ok (.ret (Value.ref l))) s) :=
  .of_wp fun prog w A R s h => by
    obtain ⟨hp, g, d, tk, os⟩ := s
    obtain ⟨hl, h⟩ := h
    have f1 := AutoSeq1.idx_int
    have c0 : (decide ((1 : Int) < -(2 ^ 63)) || decide ((1 : Int) ≥ 2 ^ 63)) = false := by decide
    have c1 : (items.isEmpty || (1 : Int) == 1) = true := by rw [Bool.or_eq_true]; exact .inr rfl
    wp_walk using wpAny_loadPart' hl
    repeat (first
      | (refine wpAny_ite_false (decide_eq_false (by rw [c0]; exact Bool.false_ne_true)) ?_; wp_walk using wpAny_loadPart' hl)
      | (refine wpAny_ite_true (decide_eq_true (by rw [c1])) ?_; wp_walk using wpAny_loadPart' hl))
    exact ⟨_, rfl, h⟩
def rRep1 (K : PySem.W.Frag) : R2 := fun x y H Q => ∃ l xs, x = .ref l ∧ y = .int 1 ∧ SqT K H l xs ∧ xs ≠ [] ∧ Q (.ref l) H
section
variable {X : Cx}
theorem op_rep1 : OpR X (binaryOp .Mult) (rRep1 X.K) := by
  intro pins s σ H x y v u Q I rx ry h
  obtain ⟨l, xs, rfl, rfl, hT, hne, q⟩ := h
  cases rx
  obtain ⟨t, rfl⟩ := ry
  obtain ⟨its, r, ⟨⟨cls, dd, data, sl⟩, ho, hc, n, hd⟩, hs⟩ := I.tuple hT
  simp only at hc hd
  subst hc hd
  refine wpAny_binaryOp_repeat_ref (T := "tuple") (U := "int") (by decide) ⟨_, ho, rfl⟩ (fun s' => typeIs_int s' 1 t) noFill_tuple_mul F.fills_int_mul F.slot_int_rmul repeat_tuple F.slot_int_index.lookup
    (call_meets F.slot_int_rmul (typeIs_int s 1 t) F.entry_int_rmul (F.args_int_rmul_2 _ _) (int_rmul_tuple 1 t l its.toArray n dd sl)
      ⟨ho, rfl, ⟨_, ho, rfl⟩, call_meets F.slot_tuple_mul ⟨_, ho, rfl⟩ F.entry_tuple_mul (F.args_tuple_mul_2 _ _) (tuple_mul1 l its.toArray n dd sl t) ⟨ho, ?_⟩⟩)
  exact ⟨.ref l, _, I, rfl, q⟩
def rMulT (K : PySem.W.Frag) : R2 := fun x y H Q => rRep1 K x y H Q ∨ rRepT K x y H Q
theorem op_mulT {K : PySem.W.Frag} (hK : X.K = K) : OpR X (binaryOp .Mult) (rMulT K) := by subst hK; exact op_rep1.or op_repT
def ipC (C : Int → Int → Prop) (f : Int → Int → Int) : TIp := fun x y H Q => ∃ i j, x = .int i ∧ y = .int j ∧ C i j ∧ Q (.int (f i j)) H
theorem ip_fdiv : PIp X .FloorDiv (ipC CDivN fun i j => i.fdiv j) := by
  intro pins s σ H x y v u Q I r1 r2 h
  obtain ⟨i, j, e1, e2, hc, q⟩ := h
  subst e1; subst e2
  obtain ⟨t, rfl⟩ := r1
  obtain ⟨t', rfl⟩ := r2
  refine AutoIntOps.ifloordiv_1 (by intro z; exact hc.1 (eq_of_beq z)) (by rw [PyProof.noPylong_small hc.2]; exact Bool.false_ne_true) ?_
  exact ⟨.int _, H, I.tok _, ⟨_, rfl⟩, q⟩
end
section
variable {K : PySem.W.Frag} {mu : Mu} {α : Type} {e : α → PyData}
theorem da_rep12 {H : Hp} {vs : List V} {ds : List PyData} (h : DpAll K H vs ds) : ∀ n : Nat, DpAll K H (List.replicate n vs).flatten (List.replicate n ds).flatten
  | 0 => .nil
  | n + 1 => by
    rw [List.replicate_succ, List.replicate_succ, List.flatten_cons, List.flatten_cons]
    exact da_append h (da_rep12 h n)
def mulT {α : Type} (a : List α) (n : Nat) : Option (List α) := gd (0 < a.length ∧ a.length ≤ 1000 ∧ 1 ≤ n ∧ n ≤ 1000) (List.replicate n a).flatten
theorem map_flat (f : α → PyData) (a : List α) : ∀ n : Nat, (List.replicate n a).flatten.map f = (List.replicate n (a.map f)).flatten
  | 0 => rfl
  | n + 1 => by rw [List.replicate_succ, List.replicate_succ, List.flatten_cons, List.flatten_cons, List.map_append, map_flat f a n]
theorem rb_mulTP {a c : List α} {n : Nat} (h : mulT a n = some c) : RB K mu (rMulT K) (.d (eT e a)) (dn n) (.d (eT e c)) := by
  obtain ⟨⟨h0, h1, h2, h3⟩, rfl⟩ := gd_of h
  show RB K mu (rMulT K) (dT (a.map e)) (dn n) (dT ((List.replicate n a).flatten.map e))
  rw [map_flat]
  intro as fr H v1 v2 hk r1 r2 Q k
  cases r1 with
  | tup s1 a1 =>
    have hl := da_length a1
    rw [List.length_map] at hl
    cases r2
    rename_i p vs
    have hne : vs ≠ [] := fun z => by rw [z] at hl; simp at hl; omega
    by_cases c : n = 1
    · subst c
      refine .inl ⟨_, _, rfl, rfl, sqT_ex off_le s1, hne, ?_⟩
      have e1 : (List.replicate 1 (a.map e)).flatten = a.map e := by simp
      rw [e1] at k
      exact k.same (.tup s1 a1)
    · refine .inr ⟨_, _, _, rfl, rfl, sqT_ex off_le s1, hne, by omega, by omega, by omega, fun p hp => ?_⟩
      rw [Int.toNat_natCast]
      exact k.tup hk hp (da_rep12 a1 n)
def fdivZ (a b : Int) : Option Int := gd (b ≠ 0 ∧ b.natAbs < 1073741824) (a.fdiv b)
theorem rb_fdivZP {a b c : Int} (h : fdivZ a b = some c) : RB K mu (rI CDivN fun i j => .int (i.fdiv j)) (dI a) (dI b) (dI c) := by obtain ⟨h1, rfl⟩ := gd_of h; exact rb_fdiv h1
theorem rb_ipfdiv {i j : Int} (h : CDivN i j) : RB K mu (ipC CDivN fun i j => i.fdiv j) (dI i) (dI j) (dI (i.fdiv j)) := fun as fr H v1 v2 hk r1 r2 Q k => by cases r1; cases r2; exact ⟨i, j, rfl, rfl, h, k.int⟩
theorem rb_ipfdivP {a b c : Nat} (h : fdivN a b = some c) : RB K mu (ipC CDivN fun i j => i.fdiv j) (dn a) (dn b) (dn c) := by
  obtain ⟨h1, rfl⟩ := gd_of h
  have := rb_ipfdiv (K := K) (mu := mu) (i := (a : Int)) (j := (b : Int)) ⟨by omega, by omega⟩
  rw [nat_fdiv] at this
  exact this
end
section
variable {K : PySem.W.Frag} {S : AS} {α : Type} {ea : α → PyData}
def popO {α : Type} (l : List α) : Option (α × List α) := (l[l.length - 1]?).bind fun x => some (x, l.dropLast)
/-- xs.pop(), xs our own -/
theorem xe_pop {i j : Nat} {l : List α} {r : α × List α} (h1 : popO l = some r) (hi : S.sl[i]? = some (some (.o j))) (hm : S.mu[j]? = some (.l (l.map ea))) : XE K (tBM0 K "list" rPop (tVar i)) S (.d (ea r.1)) (S.mu.set j (.l (r.2.map ea))) := fun Z as0 as fr σ H ok Q q => by
  obtain ⟨x, hx, h1⟩ := bs h1
  cases h1
  obtain ⟨v, h1, p, hp, e⟩ := ok.sl i _ hi
  subst e
  refine ⟨.ref p, h1, own_ty ok.mu hp hm, ?_⟩
  obtain ⟨vs, hv, ra⟩ := ok.mu.2 j p _ hp hm
  have hl := da_length ra
  rw [List.length_map] at hl
  obtain ⟨y, hy, ry⟩ := da_get ra (i := l.length - 1) (d := ea x) (by rw [List.getElem?_map, hx]; rfl)
  have hpm : p ∈ as ++ fr := List.mem_append_left _ (List.mem_of_getElem? hp)
  have g : Gr as fr H (upd H p (.lst vs.dropLast)) := fun b o e => by
    obtain ⟨e1, e2⟩ := off_of e
    have : b ≠ p := fun z => e2 (z ▸ hpm)
    rw [off_at e2, upd_ne this]; exact e1
  refine ⟨p, vs, y, rfl, rfl, hv, by rw [hl]; exact hy, ?_⟩
  refine q y _ (.d (ea x)) _ g (ok.put (m := .l (l.dropLast.map ea)) hp ⟨vs.dropLast, upd_same, ?_⟩) (dp_ex g ry) ⟨rfl, rfl⟩
  have : l.dropLast.map ea = (l.map ea).dropLast := by rw [List.map_dropLast]
  rw [this, List.dropLast_eq_take, List.dropLast_eq_take, List.length_map, hl]
  exact da_take _ ra
end
end D2
set_option Elab.async false
set_option linter.all false
set_option maxRecDepth 100000
set_option maxHeartbeats 4000000
/-! DX1: an own exception with one field: raised by a def, caught by the law. -/
namespace D2
open PySem PySem.Spec PyProof.Rows L2
section
variable {X : Cx} {e : Expr} {es : List Expr} {ta : TA} {p1 p2 pos : Pos} {x : Str} {W : Addr} {mc : Value}
/-- Base.__init__(self, ..), Base a class of the program that has ValueError's __init__ -/
theorem pe_weinit {pl : Sem Bool} (hg : Gl X x) (hm : X.mg x = some (.ref W)) (r : ClX.CRead X.K W mc) (vV : PySem.W.findCls X.K (.ref W) mc "__init__" = some (.val (.builtin "ValueError.__init__"))) (ha : PA X (e :: es) ta) (hdb : (x == ("__debug__" : Str)) = false := by decide)
    (hc : eval (.Call (.Attribute (.Name x p1) "__init__" p2) (e :: es) [] pos) X.env = (do
      let ov ← eval (.Name x p1) X.env
      standAt p2.atName
      let (f, first) ← holding [ov] (getMethod ov "__init__" pl)
      callWith pos f first (backTo pos (starEach (e :: es) X.env)) (backToKw pos (keywordEach [] X.env))) := by rfl)
    (he : starEach (e :: es) X.env = (false, eval e X.env) :: starEach es X.env := by rfl) (hpl : (backTo pos (starEach es X.env)).any (·.1) = false := by rfl) :
    PE X (.Call (.Attribute (.Name x p1) "__init__" p2) (e :: es) [] pos) (tVeI X.K ta) := by
  refine ⟨fun pins s σ H Q I h => ?_⟩
  refine PySem.W.methodCall_KW (ld_glob I hg hm ?_ hdb) hc
  refine PySem.W.method_cls I.kIn r.ga (PySem.W.cls_value I.kIn r.rd vV (by decide +kernel) ?_)
  show wpAny _ _ (callWith pos (Value.builtin "ValueError.__init__") [] (backTo pos (starEach (e :: es) X.env)) []) _ _ _
  refine PyProof.Rows.callWith_method1 (thn (ha.run pos pins _ σ H _ (I.tok _) h) fun us s1 ⟨vs, H1, I1, r1, a, C, ws, ev, hl, T, ea, q⟩ => ?_) he hpl
  subst ev
  cases r1 with
  | @cons _ u0 _ ur ra rw' =>
    obtain rfl : u0 = Value.ref a := ra
    have hlen : ur.length ≤ sizeLine := by
      rw [← Paired.length rw', sizeLine_eq]
      omega
    exact oinit_ok T I1 ea hlen fun s' J => ⟨.non, H1, J, rfl, q⟩
end
/-- what the written part says of Refused (at C), of its base WordError (at W) and of its __init__ (at f1) -/
structure RfOk (K : PySem.W.Frag) (mg : Str → Option Value) (C W f1 : Addr) (mc : Value) : Prop where
  gC : mg "Refused" = some (.ref C)
  gW : mg "WordError" = some (.ref W)
  oex : OexC K C
  iC : PySem.W.findIn K (.ref C) "__init__" = some (some (.ref f1))
  tI : PySem.W.typeIn K (.ref f1) = some (.type "function")
  no : PySem.W.findIn K (.ref C) "word" = some none
  rd : ClX.CRead K W mc
  vV : PySem.W.findCls K (.ref W) mc "__init__" = some (.val (.builtin "ValueError.__init__"))
  te : PySem.W.exmOne K (.ref C) (.ref C) = some true
  xf : XfC K C
/-- Refused.__init__(self, word) -/
def spI (C : Addr) : Sp := fun vs H Q _ => ∃ (a : Addr) (x : V), vs = [.ref a, x] ∧ H a = some (exo a C none) ∧ ∀ d, H d = none → d ≠ a → Q .non (upd (upd H d (exd d [("word", x)])) a (exo a C (some d)))
theorem init_run {K : PySem.W.Frag} {mg : Str → Option Value} {C W f1 : Addr} {mc : Value} (R : RfOk K mg C W f1 mc) {vs : List V} {H : Hp} {Q : VK} {E : XK} {N : List Str} (hN : N.length = 2) (h : spI C vs H Q E) :
    tSeq (tDrop (tVeI K (tCons (tVar 0) (tCons (tVar 1) tNil)))) (tOst K "word" (tVar 0) (tVar 1)) { nx := fun _ H' => Q .non H', rt := Q } (start N vs) H := by
  obtain ⟨a, x, rfl, ha, q⟩ := h
  have e0 : (start N [V.ref a, x])[0]? = some (some (V.ref a)) := rfl
  have e1 : (start N [V.ref a, x])[1]? = some (some x) := rfl
  refine ⟨_, e0, _, e1, a, C, [x], rfl, (by show 1 ≤ 1000; decide), R.oex, ha, ?_⟩
  exact ⟨_, e1, _, e0, a, C, rfl, R.oex, R.no, .inl ⟨ha, fun dx h1 h2 => q dx h1 h2⟩⟩
/-- a def that raises Refused(w) -/
def spX (K : PySem.W.Frag) (C : Addr) (R : List PyData → Str → Prop) : Sp := fun vs H _ E => ∃ (fr : List Addr) (ds : List PyData) (w : Str), fr.Nodup ∧ (∀ q ∈ fr, ∃ o, H q = some o) ∧ DpAll K (off fr H) vs ds ∧ R ds w ∧
  ∀ d H', Ex H H' → H d = none → H' d = some (.xd [("word", .str w)]) → E (.ref C) (some d) H'
theorem spX_len {K : PySem.W.Frag} {C : Addr} {R : List PyData → Str → Prop} {n : Nat} (h : ∀ ds w, R ds w → ds.length = n) {vs : List V} {H : Hp} {Q : VK} {E : XK} (q : spX K C R vs H Q E) : vs.length = n := by
  obtain ⟨fr, ds, w, _, _, ra, hR, _⟩ := q
  rw [da_length ra]; exact h ds w hR
/-- on the way to the raise -/
def XW (K : PySem.W.Frag) (H0 : Hp) (fr : List Addr) (t : TS) (S : AS) : Prop := ∀ as σ H D, Ok K H0 [] as fr S σ H → t D σ H
section
variable {K : PySem.W.Frag} {H0 : Hp} {fr : List Addr} {t u : TS} {S : AS} {tt : TT}
theorem xw_seq (h : SW K t S { n0 := 0, nx := fun S' => XW K H0 fr u S', rt := fun _ _ => False }) : XW K H0 fr (tSeq t u) S := fun as σ H D ok =>
  h H0 [] as fr σ H _ ok ⟨rfl, fun S' σ' H' as' ok' k => k as' σ' H' D ok', fun _ _ _ _ _ k => k.elim, fun _ _ _ _ _ k => k.elim, fun _ _ _ _ _ _ _ k => k.elim, fun _ _ _ _ _ _ _ _ _ k => k.elim⟩
theorem xw_seqX (h : XW K H0 fr t S) : XW K H0 fr (tSeq t u) S := fun as σ H D ok => h as σ H _ ok
theorem xw_ifT (h : TV K tt S true) (h1 : XW K H0 fr t S) : XW K H0 fr (tIfS tt t u) S := fun as σ H D ok =>
  h H0 [] as fr σ H ok _ fun b H1 mu1 g ok1 ⟨e1, e2⟩ => by
    subst e1 e2
    rw [if_pos rfl]; exact h1 as σ H1 D ok1
theorem xw_ifF (h : TV K tt S false) (h1 : XW K H0 fr u S) : XW K H0 fr (tIfS tt t u) S := fun as σ H D ok =>
  h H0 [] as fr σ H ok _ fun b H1 mu1 g ok1 ⟨e1, e2⟩ => by
    subst e1 e2
    rw [if_neg Bool.false_ne_true]; exact h1 as σ H1 D ok1
theorem xw_ifR {v : TS} {b : Bool} (h : TV K tt S b) (h1 : b = true → XW K H0 fr t S) (h2 : b = false → XW K H0 fr v S) : XW K H0 fr (tSeq (tIfS tt t tNext) v) S := fun as σ H D ok =>
  h H0 [] as fr σ H ok _ fun b' H1 mu1 g ok1 ⟨e1, e2⟩ => by
    subst e1 e2
    cases b' with
    | true => rw [if_pos rfl]; exact h1 rfl as σ H1 _ ok1
    | false => rw [if_neg Bool.false_ne_true]; exact h2 rfl as σ H1 D ok1
/-- raise Refused(w) -/
theorem xw_raise {C : Addr} {E : XK} {w : Str} {ta : TA} (hE : ∀ d H', Ex H0 H' → H0 d = none → H' d = some (.xd [("word", .str w)]) → E (.ref C) (some d) H') (ha : AVs K ta S [.d (.str w)]) :
    XW K H0 fr (fun _ σ H => tMkO C (spI C) [] ta σ H fun cls d H' => E cls d H') S := fun as σ H D ok =>
  ha H0 [] as fr σ H ok _ fun vs H1 avs mu1 g ok1 r ⟨e1, e2⟩ => by
    subst e1 e2
    cases r with
    | cons r1 r2 =>
      cases r2
      cases r1
      refine ⟨by show 1 ≤ 1000; decide, fun a hna => ?_⟩
      refine ⟨a, .str w, rfl, upd_same, fun d hd hne => ?_⟩
      have hd1 : H1 d = none := by rw [upd_ne hne] at hd; exact hd
      refine ⟨rfl, d, [("word", .str w)], upd_same, by rw [upd_ne hne, upd_same], hd1, hE d _ (fun b o e => ?_) ?_ upd_same⟩
      · have hb := (ok1.pres b o e).2
        have n1 : b ≠ a := ne_of_none hb hna
        have n2 : b ≠ d := ne_of_none hb hd1
        rw [upd_ne n2]
        show L2.del _ a b = some o
        rw [L2.del_ne n1, upd_ne n1, upd_ne n2, upd_ne n1]; exact hb
      · cases q : H0 d with
        | none => rfl
        | some o => rw [(ok1.pres d o q).2] at hd1; cases hd1
end
section
variable {P : Program} {w : World} {K : PySem.W.Frag} {mg : Str → Option Value} {base : Heap} {x qual : Str} {st : Stmt} {N ps : List Str} {k : Nat} {C : Addr}
/-- a def by its body, on the ways that raise -/
theorem def_X {R : List PyData → Str → Prop} (D : Def K mg x qual st ps) (S : FnScope N ps (defScope st)) (hl : ∀ ds r, R ds r → ds.length = ps.length)
    (hb : ∀ (f : Addr) (cdv : Value) (A : Around) (outer : List Env) (s : Shared) (H : Hp) (E : XK), Room k (A.deeper (envOfC qual (defScope st) s.heap.objs.size f cdv)) →
      ∃ t, PSs (cxOf (L2N.CX P w) P w K mg base N qual (defScope st) f cdv A outer s H E) (defBody st) t ∧ ∀ fr ds r, R ds r → (∀ d H', Ex H H' → H d = none → H' d = some (.xd [("word", .str r)]) → E (.ref C) (some d) H') → XW K H fr t ⟨ini N (ds.map AV.d), []⟩) :
    ∃ f fd, FnOk P w K mg base (L2N.CX P w) (k + 1) f fd ps (spX K C R) ∧ mg x = some (.ref f) ∧ PySem.W.keepIn K (.ref f) = true ∧ Binds K fd ps [] := by
  obtain ⟨f, fd, F, m, b⟩ := D
  have kp := F.kp
  obtain ⟨oc, od, kV, doc, pm, an, cdv, ct, osl, rfl, lk, hcd⟩ := F.ex
  refine ⟨f, _, fn_of lk hcd S (fun vs H Q E h => spX_len hl h) fun A outer s H vs Q E hr h => ?_, m, kp, b⟩
  obtain ⟨t, h1, h2⟩ := hb f cdv A outer s H E hr
  refine ⟨t, h1, ?_⟩
  obtain ⟨fr, ds, r, nd, ex, ra, hR, q⟩ := h
  have r0 : RepA K (off ([] ++ fr) H) [] vs (ds.map AV.d) := da_repA ra
  obtain ⟨i1, i2⟩ := ini_ok (N := N) r0
  exact h2 fr ds r hR q [] (L2.start N vs) H _ ⟨i1, i2, ⟨rfl, fun j p m hj => by simp at hj⟩, nd, ex, ⟨[], rfl⟩, fun b o e => ⟨by simp, e⟩⟩
end
section
variable {K : PySem.W.Frag} {S : AS} {A : AE}
/-- try: return f(..) == ..; except Refused as e: suite: f raises -/
theorem sw_tryX {C : Addr} {c : Value} {i : Nat} {R : List PyData → Str → Prop} {ds : List PyData} {w : Str} {ta : TA} {g : TE → TE} {ts : Addr → Value → Option Addr → TS} {ts' : TS} {Wout : WX}
    (hg : ∀ te σ H Q, ∃ Q', te σ H Q' → g te σ H Q) (ha : AVs K ta S (ds.map AV.d)) (hR : R ds w) (hc : PySem.W.exmOne K (.ref C) c = some true) (hi : S.sl[i]? = some none)
    (htr : ∀ a dd D σ H, σ[i]? = some (some (.ref a)) → H dd = some (.xd [("word", .str w)]) → ts' D σ H → ts a (.ref C) (some dd) D σ H)
    (hs : SW K ts' S { A with nx := fun S' => A.nx ⟨S'.sl.set i none, S'.mu⟩, bk := fun S' => A.bk ⟨S'.sl.set i none, S'.mu⟩, ct := fun S' => A.ct ⟨S'.sl.set i none, S'.mu⟩ }) :
    SW K (fun D σ H => tRet (g (tCallS (spX K C R) (fun σ => fun cls d H => wAs K c i ts Wout D cls d σ H) ta)) D σ H) S A := fun Z as0 as fr σ H D ok im => by
  obtain ⟨Q', hQ⟩ := hg (tCallS (spX K C R) (fun σ => fun cls d H => wAs K c i ts Wout D cls d σ H) ta) σ H D.rt
  refine hQ (ha Z as0 as fr σ H ok _ fun vs H1 avs mu1 g1 ok1 r1 ⟨e1, e2⟩ => ?_)
  subst e1 e2
  have setOk : ∀ {S' : AS} {σ' : L2.St} {H' : Hp} {as' : List Addr}, Ok K Z as0 as' fr S' σ' H' → Ok K Z as0 as' fr ⟨S'.sl.set i none, S'.mu⟩ (σ'.set i none) H' := fun {S' σ' H' as'} o =>
    ⟨by rw [List.length_set, List.length_set]; exact o.len, fun j av e => by
      have e : (S'.sl.set i none)[j]? = some (some av) := e
      rw [List.getElem?_set] at e
      by_cases c : i = j
      · rw [if_pos c] at e
        split at e <;> cases e
      · rw [if_neg c] at e
        obtain ⟨v, h1, h2⟩ := o.sl j av e
        exact ⟨v, by rw [List.getElem?_set, if_neg c]; exact h1, h2⟩, o.mu, o.nd, o.ex, o.pre, o.pres⟩
  refine ⟨as ++ fr, ds, w, ok1.nd, ok1.ex, r1.all, hR, fun d H' hx hn hd => ?_⟩
  refine ⟨true, hc, fun _ a hna => ?_, fun q => by cases q⟩
  have hil : i < S.sl.length := (List.getElem?_eq_some_iff.mp hi).1
  have ok2 : Ok K Z as0 as fr S (σ.set i (some (.ref a))) H' := by
    have o := ok1.grow hx
    refine ⟨by rw [List.length_set]; exact o.len, fun j av e => ?_, o.mu, o.nd, o.ex, o.pre, o.pres⟩
    obtain ⟨v, h1, h2⟩ := o.sl j av e
    have c : i ≠ j := fun z => by
      subst z
      have e : S.sl[i]? = some (some av) := e
      rw [hi] at e; cases e
    exact ⟨v, by rw [List.getElem?_set, if_neg c]; exact h1, h2⟩
  refine htr a d _ _ H' (by rw [List.getElem?_set, if_pos rfl, if_pos (by rw [ok.len]; exact hil)]) hd ?_
  exact hs Z as0 as fr _ H' _ ok2 ⟨im.n0, fun S' σ' H' as' o k => im.nx _ _ _ _ (setOk o) k, fun S' σ' H' as' o k => im.bk _ _ _ _ (setOk o) k, fun S' σ' H' as' o k => im.ct _ _ _ _ (setOk o) k, im.rt, im.rn⟩
end
/-- a def that may raise Refused -/
def HasX (P : Program) (w : World) (K : PySem.W.Frag) (mg : Str → Option Value) (base : Heap) (C : Addr) (k : Nat) (x : Str) (ps : List Str) (R : List PyData → Str → Prop) : Prop :=
  ∃ f fd, FnOk P w K mg base (L2N.CX P w) k f fd ps (spX K C R) ∧ mg x = some (.ref f) ∧ PySem.W.keepIn K (.ref f) = true ∧ Binds K fd ps []
section
variable {α β γ : Type}
def RX1 (f : α → Option (List Nat)) (ea : α → PyData) (ds : List PyData) (w : Str) : Prop := ∃ a l, f a = some l ∧ ds = [ea a] ∧ w = ⟨l.toArray⟩
def RX2 (f : α → β → Option (List Nat)) (ea : α → PyData) (eb : β → PyData) (ds : List PyData) (w : Str) : Prop := ∃ a b l, f a b = some l ∧ ds = [ea a, eb b] ∧ w = ⟨l.toArray⟩
def RX3 (f : α → β → γ → Option (List Nat)) (ea : α → PyData) (eb : β → PyData) (ec : γ → PyData) (ds : List PyData) (w : Str) : Prop := ∃ a b c l, f a b c = some l ∧ ds = [ea a, eb b, ec c] ∧ w = ⟨l.toArray⟩
end
theorem lk1 {v : V} : List.lookup ("word" : Str) [(("word" : Str), v)] = some v := by simp [List.lookup]
section
variable {K : PySem.W.Frag} {S : AS} {A : AE}
/-- .. the suite reads e.word first -/
theorem sw_tryS {C : Addr} {i : Nat} {R : List PyData → Str → Prop} {ds : List PyData} {w : Str} {ta : TA} {g : TE → TE} {F : TE → TS} {REST : Ends → L2.St → V → Hp → Prop}
    (hg : ∀ te σ H Q, ∃ Q', te σ H Q' → g te σ H Q) (hF : ∀ te D σ H, F te D σ H = te σ H (REST D σ)) (ha : AVs K ta S (ds.map AV.d)) (hR : R ds w) (hc : PySem.W.exmOne K (.ref C) (.ref C) = some true) (hi : S.sl[i]? = some none)
    (hs : SW K (F (tC (.str w))) S { A with nx := fun S' => A.nx ⟨S'.sl.set i none, S'.mu⟩, bk := fun S' => A.bk ⟨S'.sl.set i none, S'.mu⟩, ct := fun S' => A.ct ⟨S'.sl.set i none, S'.mu⟩ }) :
    SW K (fun D σ H => tRet (g (tCallS (spX K C R) (fun σ => WE (wAs K (.ref C) i (fun a cls d => F (tXf a cls d C "word" (tVar i))) (fun _ _ _ _ => False) D) σ) ta)) D σ H) S A := by
  refine sw_tryX (ts' := F (tC (.str w))) hg ha hR hc hi (fun a dd D σ H h1 h2 h3 => ?_) hs
  rw [hF] at h3 ⊢
  exact ⟨_, h1, rfl, rfl, dd, _, _, rfl, h2, lk1, h3⟩
end
theorem takes0N {X : Cx} : L2N.Takes X (fun _ _ _ _ => False) := fun _ _ x => by
  obtain ⟨_, _, _, _, _, _, _, _, _, _, _, _, _, _, _, _, z⟩ := x
  exact z.elim
section
variable {X : Cx} {e : Expr} {es : List Expr} {ta : TA} {p pos : Pos}
/-- C(e, ..), C's own __init__ keeping sp; the made exception's context is None -/
theorem pmk_oexN {CX : CXT} {x : Str} {C fI : Addr} {k : Nat} {fd : FuncData} {ps : List Str} {sp : Sp} {ds : List Value} {dvs : List V} (T : OexC X.K C) (iC : PySem.W.findIn X.K (.ref C) "__init__" = some (some (.ref fI))) (tI : PySem.W.typeIn X.K (.ref fI) = some (.type "function"))
    (F1 : FnOk X.prog X.w X.K X.mg X.base CX k fI fd ps sp) (hr : Room (k + 1) X.A) (hb : Binds X.K fd ps ds) (hd : Vals dvs ds) (hx : Passes CX X (fun _ _ _ => False)) (hg : Gl X x) (hm : X.mg x = some (.ref C)) (ha : PA X (e :: es) ta)
    (hdb : (x == ("__debug__" : Str)) = false := by decide) (he : starEach (e :: es) X.env = (false, eval e X.env) :: starEach es X.env := by rfl) (hpl : (backTo pos (starEach es X.env)).any (·.1) = false := by rfl) :
    L2N.PMk X (.Call (.Name x p) (e :: es) [] pos) (tMkO C sp dvs ta) := by
  intro pins s σ H Q I h
  obtain ⟨_, _, _, _, _, _, _, _, _, _, _, _, _, _, _, hC, hbm⟩ := T.cls
  refine wpAny_Call_Name_kw (ld_glob I hg hm ?_ hdb)
  refine PySem.W.callWith_K (h₀ := X.base) I.ok.mod.kin T.kC (thn (ha.run pos pins s σ H _ I h) fun us s1 ⟨vs, H1, I1, r1, hz, q1⟩ => ⟨I1.kIn, ?_⟩) he hpl
  show wpAny _ _ (call (.ref C) us) _ _ _
  obtain ⟨hp, g, dr, tk, os⟩ := s1
  -- the new object is the second that the call lays
  generalize ea : hp.objs.size + 1 = a
  have hle : hp.objs.size ≤ a := by omega
  have hget : ((hp.push (PySem.W.kdv_tup us)).push (PySem.HandSPX.excO C hp.objs.size)).get? a = some (PySem.HandSPX.excO C hp.objs.size) := by rw [← ea]; heap_get
  have old : ∀ b o, hp.get? b = some o → ((hp.push (PySem.W.kdv_tup us)).push (PySem.HandSPX.excO C hp.objs.size)).get? b = some o := fun b o z => Heap.get?_push_of_some _ (Heap.get?_push_of_some _ z)
  have I2 : Inv X pins σ (upd H1 a (exo a C none)) ⟨(hp.push (PySem.W.kdv_tup us)).push (PySem.HandSPX.excO C hp.objs.size), g, dr, tk, os⟩ := I1.laid (t' := tk) (a := a) (o := exo a C none) (h' := (hp.push (PySem.W.kdv_tup us)).push (PySem.HandSPX.excO C hp.objs.size)) old hle (exo_ok hget)
  have hq := q1 a (I1.hok.fresh hle)
  have r2 : Vals (V.ref a :: (vs ++ dvs)) (Value.ref a :: (us ++ ds)) := .cons rfl (r1.append hd)
  have hl : (Value.ref a :: us ++ ds).length = ps.length := by rw [← F1.len _ _ _ _ hq]; exact r2.length.symm
  have hus : us.length ≤ sizeLine := by rw [← Paired.length r1, sizeLine_eq]; omega
  have fin := F1.run _ X.stack _ _ ⟨Value.ref a :: us, []⟩ (Value.ref a :: (us ++ ds)) _ _ (fun _ _ _ => False) (hr.make C us []) (I2.env0.make C us []) (hb _ (Value.ref a :: us) I2.kIn hl) r2 hq
  subst ea
  refine wpAny_call (PySem.HandSPX.call_own F.excBase_ValueError (fun Y => PySem.HandSPX.refsVE_contains Y _ hbm) (I1.kIn _ _ hC) (PySem.W.looks_findIn I1.kIn iC) (fun self => PySem.W.bind_fn I1.kIn self tI) hus (codeAny_mono fin fun r s' hr' => ?_))
  cases r with
  | error er => exact hx pins σ _ _ er s' I2 hr'
  | ok fl =>
    cases fl with
    | ret u =>
      obtain ⟨v, H2, os2, bare2, un2, hok2, rv, ev, d, fs, e1, e2, hd1, q2⟩ := hr'
      subst ev
      obtain ⟨h2, g2, d2, t2, os'⟩ := s'
      obtain ⟨t0, G, J, kG, ge, hoe, na⟩ := mk_end0 (d2 := d2) (t2 := t2) I1 hle old un2 hok2 os2 bare2 e1 e2 hd1
      exact ⟨rv, _, _, _, ⟨G, g2, d2, t2, os'⟩, _, .ref C, some d, rfl, J, kG, ge, hoe, ⟨rfl, rfl, fun vs z => by cases z; rfl⟩, rfl, rfl, na, rfl, bare2, raises_own T.exC T.tyC, q2⟩
    | next => exact hr'.elim
    | brk => exact hr'.elim
    | cont => exact hr'.elim
/-- in an except suite the exception is in hand -/
theorem hot_suite {a : Addr} {oe : Obj} {cls : Value} {d : Option Addr} {pn : List (Addr × Obj)} (hz : L2N.Zn cls d oe) (hf : ∃ vs, oe.data = .fields vs) : L2H.HotC (X.suite a ((a, oe) :: pn)) := by
  obtain ⟨vs, hd⟩ := hf
  exact ⟨(a, oe), ⟨rfl, vs, hd, hz.2.2 vs hd⟩, List.mem_cons_self⟩
theorem passH {σ : L2.St} {E : XK} : PassesAt CX0 X σ E := fun _ _ _ _ _ _ h => h.elim
theorem pss_never {ss : List Stmt} : PSs X ss tNever := ⟨fun pins s σ H D I h => h.elim⟩
end
/-- what a def promises while an exception is handled -/
def HasH (P : Program) (w : World) (K : PySem.W.Frag) (mg : Str → Option Value) (base : Heap) (k : Nat) (x : Str) (ps : List Str) (R : List PyData → PyData → Prop) : Prop :=
  ∃ f fd, L2H.FnH P w K mg base CX0 k f fd ps (spP K R) ∧ mg x = some (.ref f) ∧ PySem.W.keepIn K (.ref f) = true ∧ Binds K fd ps []
section
variable {P : Program} {w : World} {K : PySem.W.Frag} {mg : Str → Option Value} {base : Heap} {x qual : Str} {st : Stmt} {N ps : List Str} {k : Nat}
theorem def_PH {R : List PyData → PyData → Prop} (D : Def K mg x qual st ps) (S : FnScope N ps (defScope st)) (hl : ∀ ds r, R ds r → ds.length = ps.length)
    (hb : ∀ (f : Addr) (cdv : Value) (A : Around) (outer : List Env) (s : Shared) (H : Hp) (E : XK) (p : Addr × Obj), L2H.RoomH k (A.deeper (envOfC qual (defScope st) s.heap.objs.size f cdv)) →
      ∃ t, PSs (L2H.cxH CX0 P w K mg base N qual (defScope st) f cdv A outer s H E p) (defBody st) t ∧ ∀ ds r, R ds r → SW K t ⟨ini N (ds.map AV.d), []⟩ { n0 := 0, nx := fun _ => r = .none, rt := fun d _ => d = r }) : HasH P w K mg base (k + 1) x ps R := by
  obtain ⟨f, fd, F, m, b⟩ := D
  have kp := F.kp
  obtain ⟨oc, od, kV, doc, pm, an, cdv, ct, osl, rfl, lk, hcd⟩ := F.ex
  refine ⟨f, _, L2H.fn_ofH lk hcd S (fun vs H Q E h => spP_len hl h) fun A outer s H vs Q E p hot hr h => ?_, m, kp, b⟩
  obtain ⟨t, h1, h2⟩ := hb f cdv A outer s H E p hr
  exact ⟨t, h1, body_P h h2⟩
end
section
variable {K : PySem.W.Frag} {S : AS}
theorem ev_callS {R : List PyData → PyData → Prop} {E : L2.St → XK} {ta : TA} {ds : List PyData} {r : PyData} (h : AVs K ta S (ds.map AV.d)) (hR : R ds r) : EV K (tCallS (spP K R) E ta) S (.d r) := fun Z as0 as fr σ H ok Q q =>
  h Z as0 as fr σ H ok _ fun vs H1 avs mu1 g1 ok1 r1 ⟨e1, e2⟩ => by
    subst e1 e2
    exact ⟨as ++ fr, ds, r, ok1.nd, ok1.ex, r1.all, hR, fun v H' e rv => q v H' (.d r) _ (g1.trans (.of e)) (ok1.grow e) rv ⟨rfl, rfl⟩⟩
/-- _law_same of the same text -/
def R_txt (ds : List PyData) (r : PyData) : Prop := ∃ l : List Nat, ds = [pS l, pS l] ∧ r = .bool true
theorem xe_sameH {x y : List Nat} {v : Bool} {E : L2.St → XK} {ta tb : TE} (h : sameO eS x y = some v) (ha : EV K ta S (dS x)) (hb : EV K tb S (dS y)) : EV K (tCallS (spP K R_txt) E (tCons ta (tCons tb tNil))) S (dB v) := by
  obtain ⟨⟨h1, _⟩, rfl⟩ := gd_of h
  subst h1
  exact ev_callS (ds := [pS x, pS x]) (av_cons ha (av_cons hb av_nil)) ⟨x, rfl, rfl⟩
end
def clsB : Stmt → List Stmt
  | .ClassDef (body := b) .. => b
  | _ => []
def inS (s : Stmt) (j : Nat) : Stmt := (clsB s).getD j (.Pass ⟨0, 0, 0, 0⟩)
end D2
namespace D2
open PySem
/-- an error of the class at S is what «except S» names -/
theorem exm_self {K : PySem.W.Frag} {S : Addr} (h1 : PySem.W.subIn K (.ref S) (.type "BaseException") = some true) (h2 : PySem.W.isClsIn K S = true) (h3 : PySem.W.typeIn K (.ref S) = some (.type "type")) (h4 : PySem.W.subIn K (.ref S) (.ref S) = some true) :
    PySem.W.exmOne K (.ref S) (.ref S) = some true := by
  have e1 : (PySem.W.subIn K (.ref S) (.type "BaseException") == some true) = true := by rw [h1] <;> rfl
  have e2 : ((PySem.W.clsIn K S).isSome && PySem.W.typeIn K (.ref S) == some (.type "type")) = true := by
    have h2' : (PySem.W.clsIn K S).isSome = true := h2
    rw [h2', h3] <;> rfl
  show (if (PySem.W.subIn K (.ref S) (.type "BaseException") == some true) = true then (if ((PySem.W.clsIn K S).isSome && PySem.W.typeIn K (.ref S) == some (.type "type")) = true then PySem.W.subIn K (.ref S) (.ref S) else none) else none) = some true
  rw [if_pos e1, if_pos e2]
  exact h4
end D2
theorem L2H.RoomH.units {k : Nat} {A : PySem.Around} (r : L2H.RoomH k A) : A.units + 64 < PySem.cLine := by have := r.un; omega
set_option Elab.async false
set_option linter.all false
set_option maxRecDepth 100000
set_option maxHeartbeats 4000000
/-! DX2: on the way to a raise, with loops; two own lists at once; a dict by a test. -/
namespace D2
open PySem PySem.Spec PyProof.Rows L2
/-- statements that may raise: the exception's end is known over H0 -/
def XS (K : PySem.W.Frag) (H0 : Hp) (t : TS) (S : AS) (A : AE) : Prop := ∀ Z as0 as fr σ H D, (∀ b o, H0 b = some o → Z b = some o) → Ok K Z as0 as fr S σ H → Imp K Z as0 fr A D → t D σ H
/-- what is known of the exception's end -/
def EX (H0 : Hp) (C : Addr) (E : XK) (w : List Nat) : Prop := ∀ d H', Ex H0 H' → H0 d = none → H' d = some (.xd [("word", .str (⟨w.toArray⟩ : Str))]) → E (.ref C) (some d) H'
/-- the ends of a way that only raises -/
def AX : AE := { n0 := 0, nx := fun _ => False, rt := fun _ _ => False }
section
variable {K : PySem.W.Frag} {H0 : Hp} {t u : TS} {S : AS} {A A' : AE} {tt : TT}
theorem xs_of (h : SW K t S A) : XS K H0 t S A := fun Z as0 as fr σ H D _ ok im => h Z as0 as fr σ H D ok im
theorem xs_next (h : A.nx S) : XS K H0 tNext S A := xs_of (sw_next h)
theorem xs_break (h : A.bk S) : XS K H0 tBreak S A := xs_of (sw_break h)
theorem xs_cont (h : A.ct S) : XS K H0 tCont S A := xs_of (sw_cont h)
theorem xs_seq (h : SW K t S { A with nx := fun S' => XS K H0 u S' A }) : XS K H0 (tSeq t u) S A := fun Z as0 as fr σ H D hz ok im =>
  h Z as0 as fr σ H _ ok ⟨im.n0, fun S' σ' H' as' ok' k => k Z as0 as' fr σ' H' D hz ok' im, im.bk, im.ct, im.rt, im.rn⟩
theorem xs_seqX (h : XS K H0 t S { A with nx := fun S' => XS K H0 u S' A }) : XS K H0 (tSeq t u) S A := fun Z as0 as fr σ H D hz ok im =>
  h Z as0 as fr σ H _ hz ok ⟨im.n0, fun S' σ' H' as' ok' k => k Z as0 as' fr σ' H' D hz ok' im, im.bk, im.ct, im.rt, im.rn⟩
theorem xs_last (h : SW K t S { A with nx := fun S' => XS K H0 tNext S' A }) : XS K H0 t S A := fun Z as0 as fr σ H D hz ok im => xs_seq (u := tNext) h Z as0 as fr σ H D hz ok im
theorem xs_lastX (h : XS K H0 t S { A with nx := fun S' => XS K H0 tNext S' A }) : XS K H0 t S A := fun Z as0 as fr σ H D hz ok im => xs_seqX (u := tNext) h Z as0 as fr σ H D hz ok im
theorem XS.le (h : XS K H0 t S A) (l : AEle A A') : XS K H0 t S A' := fun Z as0 as fr σ H D hz ok im =>
  (fun h : ∀ D, Imp K Z as0 fr A D → t D σ H => h D ⟨im.n0.trans l.n0.symm, fun S' σ' H' as' o k => let ⟨_, z, k'⟩ := l.nx S' k; im.nx _ σ' H' as' (o.le z) k', fun S' σ' H' as' o k => let ⟨_, z, k'⟩ := l.bk S' k; im.bk _ σ' H' as' (o.le z) k', fun S' σ' H' as' o k => let ⟨_, z, k'⟩ := l.ct S' k; im.ct _ σ' H' as' (o.le z) k', fun v d mu' H' a b c k => im.rt v d mu' H' a b c (l.rt _ _ k), fun p vs ds mu' H1 a b c e k => im.rn p vs ds mu' H1 a b c e (l.rn _ _ k)⟩) (fun D => h Z as0 as fr σ H D hz ok)
theorem xs_ifE {b : Bool} (h : TV K tt S b) (h1 : b = true → XS K H0 t S A) (h2 : b = false → XS K H0 u S A) : XS K H0 (tIfS tt t u) S A := fun Z as0 as fr σ H D hz ok im =>
  h Z as0 as fr σ H ok _ fun b' H1 mu1 g ok1 ⟨e1, e2⟩ => by
    subst e1 e2
    cases b' with
    | true => rw [if_pos rfl]; exact h1 rfl Z as0 as fr σ H1 D hz ok1 im
    | false => rw [if_neg Bool.false_ne_true]; exact h2 rfl Z as0 as fr σ H1 D hz ok1 im
theorem xs_joinS {σ : Type} (st : σ → AS) (s : σ) (h1 : SW K t S { A with nx := fun S' => Le (st s) S' }) (h2 : XS K H0 u (st s) A) : XS K H0 (tSeq t u) S A :=
  xs_seq (h1.le ⟨rfl, fun S' h => up_self fun Z as0 as fr σ H D hz ok im => h2 Z as0 as fr σ H D hz (ok.le h) im, fun _ h => up_self h, fun _ h => up_self h, fun _ _ h => h, fun _ _ h => h⟩)
/-- raise Refused(w) -/
theorem xs_raise {C : Addr} {E : XK} {w : List Nat} {ta : TA} (hE : EX H0 C E w) (ha : AVs K ta S [.d (.str (⟨w.toArray⟩ : Str))]) :
    XS K H0 (fun _ σ H => tMkO C (spI C) [] ta σ H fun cls d H' => E cls d H') S A := fun Z as0 as fr σ H D hz ok _ =>
  ha Z as0 as fr σ H ok _ fun vs H1 avs mu1 g ok1 r ⟨e1, e2⟩ => by
    subst e1 e2
    cases r with
    | cons r1 r2 =>
      cases r2
      cases r1
      refine ⟨by show 1 ≤ 1000; decide, fun a hna => ?_⟩
      refine ⟨a, _, rfl, upd_same, fun d hd hne => ?_⟩
      have hd1 : H1 d = none := by rw [upd_ne hne] at hd; exact hd
      refine ⟨rfl, d, [("word", .str (⟨w.toArray⟩ : Str))], upd_same, by rw [upd_ne hne, upd_same], hd1, hE d _ (fun b o e => ?_) ?_ upd_same⟩
      · have hb := (ok1.pres b o (hz b o e)).2
        have n1 : b ≠ a := ne_of_none hb hna
        have n2 : b ≠ d := ne_of_none hb hd1
        rw [upd_ne n2]
        show L2.del _ a b = some o
        rw [L2.del_ne n1, upd_ne n1, upd_ne n2, upd_ne n1]; exact hb
      · cases q : H0 d with
        | none => rfl
        | some o => rw [(ok1.pres d o (hz d o q)).2] at hd1; cases hd1
theorem xw_of {fr : List Addr} (h : XS K H0 t S AX) : XW K H0 fr t S := fun as σ H D ok =>
  h H0 [] as fr σ H D (fun _ _ e => e) ok ⟨rfl, fun _ _ _ _ _ k => k.elim, fun _ _ _ _ _ k => k.elim, fun _ _ _ _ _ k => k.elim, fun _ _ _ _ _ _ _ k => k.elim, fun _ _ _ _ _ _ _ _ _ k => k.elim⟩
theorem xs_forU {wi : TI} {g : TG} {js : List Nat} (hI : EIW K wi S fun ds mu1 => ∃ st : Nat → AS → Prop, st 0 ⟨S.sl, mu1⟩ ∧
      (∀ i d S', ds[i]? = some d → st i S' → GW K g js d S' fun S2 => XS K H0 t S2 { A with nx := st (i + 1), ct := st (i + 1), bk := A.nx }) ∧ ∀ S', st ds.length S' → ∃ S3, Le S3 S' ∧ A.nx S3) : XS K H0 (tFor wi g t) S A := fun Z as0 as fr σ H D hz ok im =>
  hI Z as0 as fr σ H ok _ fun J H1 ds G mu1 g1 ok1 F hG ⟨st, s0, sT, sE⟩ => by
    have zle := ok1.z_le
    have imZ : Imp K (off as H1) as0 fr A D := ⟨im.n0, fun S' σ' H' as' h => im.nx S' σ' H' as' (h.anchor zle), fun S' σ' H' as' h => im.bk S' σ' H' as' (h.anchor zle), fun S' σ' H' as' h => im.ct S' σ' H' as' (h.anchor zle),
      fun v d mu' H' h1 h2 h3 => im.rt v d mu' H' h1 h2 fun b o e => h3 b o (zle b o e), fun p vs ds mu' H' h0 h1 h2 h3 => im.rn p vs ds mu' H' h0 h1 h2 fun b o e => h3 b o (zle b o e)⟩
    have gk : ∀ {as' : List Addr} {S' : AS} {σ' : L2.St} {H' : Hp}, Ok K (off as H1) as0 as' fr S' σ' H' → G (off (as' ++ fr) H') := fun {as' S' σ' H'} h => F.stay _ _ hG fun b o e => by
      obtain ⟨e1, e2⟩ := off_of e
      obtain ⟨h1, h2⟩ := h.pres b o (by rw [off_at fun z => e2 (List.mem_append_left _ z)]; exact e1)
      rw [off_at fun z => ?_]
      · exact h2
      · rcases List.mem_append.mp z with z | z
        · exact h1 z
        · exact e2 (List.mem_append_right _ z)
    refine ⟨fun i m σ' H' => m = ds.length - i ∧ i ≤ ds.length ∧ ∃ S' as', Ok K (off as H1) as0 as' fr S' σ' H' ∧ st i S', ⟨ds.length, by simp, Nat.zero_le _, _, as, ok1.here, s0⟩, ?_⟩
    rintro i m σ' H' ⟨rfl, hi, S', as', ok', hs⟩
    by_cases hlt : i < ds.length
    · refine .inr ⟨F.go i _ H' (gk ok') hlt, fun σ2 H2 => i + 1 ≤ ds.length ∧ ∃ S' as', Ok K (off as H1) as0 as' fr S' σ2 H2 ∧ st (i + 1) S', fun σ2 H2 h => ⟨ds.length - (i + 1), by omega, rfl, h⟩, fun x H2 hy => ?_⟩
      obtain ⟨d, hd, e2, rx⟩ := F.yld i _ H' x H2 (gk ok') ok'.ex hlt hy
      refine sT i d S' hd hs _ as0 as' fr σ' H2 x (ok'.grow e2) rx _ fun S2 σ2 okS _ body => ?_
      refine body _ as0 as' fr σ2 H2 _ (fun b o e => zle b o (hz b o e)) okS ⟨im.n0, fun S3 σ3 H3 as3 h k => ⟨hlt, S3, as3, h, k⟩, fun S3 σ3 H3 as3 h k => imZ.nx _ _ _ _ h k, fun S3 σ3 H3 as3 h k => ⟨hlt, S3, as3, h, k⟩, imZ.rt, imZ.rn⟩
    · have e : i = ds.length := by omega
      subst e
      obtain ⟨S3, l3, k3⟩ := sE _ hs
      exact .inl ⟨F.stop _ _ (gk ok'), imZ.nx _ _ _ _ (ok'.le l3) k3⟩
theorem xs_forW {wi : TI} {g : TG} {js : List Nat} (hI : EIW K wi S fun ds mu1 => ∃ st : Nat → AS → Prop, Up (st 0) ⟨S.sl, mu1⟩ ∧
    (∀ i d S', ds[i]? = some d → st i S' → GW K g js d S' fun S2 => XS K H0 t S2 { A with nx := Up (st (i + 1)), ct := Up (st (i + 1)), bk := A.nx }) ∧ ∀ S', st ds.length S' → A.nx S') : XS K H0 (tFor wi g t) S A :=
  xs_forU (js := js) (hI.mono fun ds mu1 ⟨st, h0, hs, hd⟩ => ⟨fun i => Up (st i), h0, fun i d S' hdi ⟨S3, l, s3⟩ => fun Z as0 as fr σ H x ok r Q q => hs i d S3 hdi s3 Z as0 as fr σ H x (ok.le l) r Q q, fun S' ⟨S3, l, h⟩ => ⟨S3, l, hd S3 h⟩⟩)
/-- a loop on the way to a raise; .r v: v is raised -/
theorem xs_forF {α σ ρ : Type} {xs : List α} {ea : α → PyData} {wi : TI} {g : TG} {js : List Nat} {mu : Mu} {f : α → σ → Option (Fl σ ρ)} (st : σ → AS) (EST : ρ → Prop) {s0 : σ} {fl : Fl σ ρ} (hI : XI K wi S (xs.map ea) mu) (h0 : Le (st s0) ⟨S.sl, mu⟩) (hf : forF f xs s0 = some fl)
    (hE : ∀ v, fl = .r v → EST v) (hb : ∀ x s fl', f x s = some fl' → (∀ v, fl' = .r v → EST v) → GW K g js (ea x) (st s) fun S2 => XS K H0 t S2 (flA A st (fun _ _ _ => False) fl'))
    (hn : ∀ s, fl = .n s → A.nx (st s)) : XS K H0 (tFor wi g t) S A :=
  xs_forW (js := js) (hI.ew ⟨fun i S' => ∃ s, forF f (xs.drop i) s = some fl ∧ S' = st s, ⟨_, h0, s0, by simpa using hf, rfl⟩, fun i d S' hd ⟨s, hs, e⟩ => by
    subst e
    obtain ⟨x, hx, rfl⟩ := lst_at hd
    rw [drop_cons hx, forF] at hs
    obtain ⟨fl', h1, h2⟩ := bs hs
    refine (hb x s fl' h1 fun v e => ?_).mono fun S2 h => h.le ⟨rfl, fun S3 l => ?_, fun S3 l => ?_, fun S3 l => ?_, fun d mu l => ?_, fun _ _ h => h.elim⟩
    · subst e; exact hE v (Option.some.inj h2).symm
    · obtain ⟨s', e, l⟩ := l; subst e; exact up_self ⟨_, l, s', h2, rfl⟩
    · obtain ⟨s', e, l⟩ := l; subst e; exact ⟨_, l, hn s' (Option.some.inj h2).symm⟩
    · obtain ⟨s', e, l⟩ := l; subst e; exact up_self ⟨_, l, s', h2, rfl⟩
    · obtain ⟨v, e, l⟩ := l; exact l.elim, fun S' ⟨s, hs, e⟩ => by
    subst e
    rw [List.length_map, List.drop_of_length_le (Nat.le_refl _), forF] at hs
    exact hn s (Option.some.inj hs).symm⟩)
/-- x, y = [..], [..]: both our own -/
theorem sw_parNN {i j : Nat} {te tf : TE} {ds1 ds2 : List PyData} {mu1 : Mu} (h1 : NW K te S fun ds' mu' => ds' = ds1 ∧ mu' = mu1) (h2 : NW K tf ⟨S.sl, mu1 ++ [.l ds1]⟩ fun ds' mu' => ds' = ds2 ∧ mu' = mu1 ++ [.l ds1])
    (k : A.nx ⟨(S.sl.set i (some (.o mu1.length))).set j (some (.o (mu1.length + 1))), mu1 ++ [.l ds1, .l ds2]⟩) : SW K (tPar i j (tCons te (tCons tf tNil))) S A := fun Z as0 as fr σ H D ok im =>
  h1 Z as0 as fr σ H ok _ fun p H1 vs ds mu' hp g ok1 r ⟨e1, e2⟩ => by
    subst e1 e2
    have ok2 := ok1.own (o := .lst vs) (m := .l ds) hp ⟨vs, upd_same, r⟩
    refine h2 Z as0 _ fr σ _ ok2 _ fun p2 H2 vs2 ds' mu'' hp2 g2 ok3 r2 ⟨e1, e2⟩ => ?_
    subst e1 e2
    have ok4 := ok3.own (o := .lst vs2) (m := .l ds') hp2 ⟨vs2, upd_same, r2⟩
    have hl : as.length = mu'.length := ok1.mu.1
    refine ⟨_, _, rfl, im.nx _ _ _ _ ((Ok.store (i := i) (v := .ref p) (av := .o mu'.length) ok4 ⟨p, ?_, rfl⟩).store (i := j) (v := .ref p2) (av := .o (mu'.length + 1)) ⟨p2, ?_, rfl⟩) ?_⟩
    · rw [← hl, List.append_assoc, List.getElem?_append_right (Nat.le_refl _), Nat.sub_self]; rfl
    · rw [← hl, List.append_assoc, List.getElem?_append_right (by omega), show as.length + 1 - as.length = 1 by omega]; rfl
    · rw [List.append_assoc]; exact k
/-- a dict by a test -/
theorem dw_if {ta tb : TE} {b : Bool} {kvs : List (Key × PyData)} (h : TV K tt S b) (h1 : b = true → DW K ta S kvs) (h2 : b = false → DW K tb S kvs) : DW K (tIf tt ta tb) S kvs := fun Z as0 as fr σ H ok Q q =>
  h Z as0 as fr σ H ok _ fun b' H1 mu1 g ok1 ⟨e1, e2⟩ => by
    subst e1 e2
    cases b' with
    | true => rw [if_pos rfl]; exact h1 rfl Z as0 as fr σ H1 ok1 Q fun p H2 vs hp g2 => q p H2 vs hp (g.trans g2)
    | false => rw [if_neg Bool.false_ne_true]; exact h2 rfl Z as0 as fr σ H1 ok1 Q fun p H2 vs hp g2 => q p H2 vs hp (g.trans g2)
end
section
variable {K : PySem.W.Frag} {mu : Mu}
theorem rm_idxLZ {l : List Int} {x : Int} {n : Nat} (h : idxL l x = some n) : RM K mu (rIndex K) (.d (eL eZ l)) [.d (eZ x)] (dn n) := let ⟨h1, h2⟩ := idxL_at h; rm_indexI h1 h2
end
end D2
set_option Elab.async false
set_option linter.all false
set_option maxHeartbeats 4000000
/-! DM: going through plain functions. -/
namespace D2
section
variable {α β γ σ ρ δ : Type}
theorem bi {o : Option α} {a : α} {k : α → Option β} {y : Option β} (h : o = some a) (hk : k a = y) : o.bind k = y := by rw [h]; exact hk
theorem iT {c : Bool} {x y z : α} (hc : c = true) (h : x = z) : (if c = true then x else y) = z := by rw [if_pos hc]; exact h
theorem iF {c : Bool} {x y z : α} (hc : c = false) (h : y = z) : (if c = true then x else y) = z := by rw [hc, if_neg Bool.false_ne_true]; exact h
theorem iC {c : Bool} {x y z : α} (h1 : c = true → x = z) (h2 : c = false → y = z) : (if c = true then x else y) = z := by
  cases c with
  | true => rw [if_pos rfl]; exact h1 rfl
  | false => rw [if_neg Bool.false_ne_true]; exact h2 rfl
theorem dr_go {m : DS} {n : Nat} {k : Nat × DS → Option β} {y : Option β} (h0 : 0 < n) (h1 : n < 1073741824) (hk : ∀ x m', x < n → k (x, m') = y) : (dr m n).bind k = y := by
  obtain ⟨x, m', e, hx⟩ := dr_ex m h0 h1
  exact bi e (hk x m' hx)
theorem pick_ex (m : DS) {l : List α} (h0 : 0 < l.length) (h1 : l.length < 1073741824) : ∃ x m', pick m l = some (x, m') ∧ x ∈ l := by
  obtain ⟨x, m', e, hx⟩ := dr_ex m h0 h1
  refine ⟨l[x], m', ?_, List.getElem_mem hx⟩
  unfold pick
  rw [e]
  show ((l[x]?).bind fun y => some (y, m')) = _
  rw [List.getElem?_eq_getElem hx]; rfl
theorem pick_go {m : DS} {l : List α} {k : α × DS → Option β} {y : Option β} (h0 : 0 < l.length) (h1 : l.length < 1073741824) (hk : ∀ x m', x ∈ l → k (x, m') = y) : (pick m l).bind k = y := by
  obtain ⟨x, m', e, hx⟩ := pick_ex m h0 h1
  exact bi e (hk x m' hx)
theorem pickS_ex (m : DS) {l : List Nat} (h0 : 0 < l.length) (h1 : l.length ≤ 1000000) : ∃ x m', pickS m l = some (x, m') ∧ x ∈ l := by
  obtain ⟨x, m', e, hx⟩ := pick_ex m h0 (by omega)
  exact ⟨x, m', by unfold pickS; rw [if_pos h1]; exact e, hx⟩
theorem pickS_go {m : DS} {l : List Nat} {k : Nat × DS → Option β} {y : Option β} (h0 : 0 < l.length) (h1 : l.length ≤ 1000000) (hk : ∀ x m', x ∈ l → k (x, m') = y) : (pickS m l).bind k = y := by
  obtain ⟨x, m', e, hx⟩ := pickS_ex m h0 h1
  exact bi e (hk x m' hx)
theorem mapO_eq {f : α → Option β} {g : α → β} : ∀ {xs : List α}, (∀ x, x ∈ xs → f x = some (g x)) → mapO f xs = some (xs.map g)
  | [], _ => rfl
  | x :: xs, h => by
    rw [mapO]
    refine bi (h x List.mem_cons_self) (bi (mapO_eq fun y hy => h y (List.mem_cons_of_mem _ hy)) rfl)
theorem mapG_eq {f : α → Option β} {xs : List α} (g : α → β) (hl : xs.length ≤ 1000000) (h : ∀ x, x ∈ xs → f x = some (g x)) : mapG f xs = some (xs.map g) := by
  unfold mapG; rw [if_pos hl]; exact mapO_eq h
theorem filO_eq {f : α → Option (Option β)} {p : α → Bool} {g : α → β} : ∀ {xs : List α}, (∀ x, x ∈ xs → f x = some (if p x = true then some (g x) else none)) → filO f xs = some ((xs.filter p).map g)
  | [], _ => rfl
  | x :: xs, h => by
    rw [filO]
    refine bi (h x List.mem_cons_self) (bi (filO_eq fun y hy => h y (List.mem_cons_of_mem _ hy)) ?_)
    cases c : p x with
    | true => rw [List.filter_cons_of_pos c, if_pos rfl]; rfl
    | false => rw [List.filter_cons_of_neg (by rw [c]; exact Bool.false_ne_true), if_neg Bool.false_ne_true]; rfl
theorem filG_eq {f : α → Option (Option β)} {xs : List α} (p : α → Bool) (g : α → β) (hl : xs.length ≤ 1000000) (h : ∀ x, x ∈ xs → f x = some (if p x = true then some (g x) else none)) : filG f xs = some ((xs.filter p).map g) := by
  unfold filG; rw [if_pos hl]; exact filO_eq h
theorem mapS_ex {f : α → δ → Option (β × δ)} (P : β → Prop) (h : ∀ x m, ∃ y m', f x m = some (y, m') ∧ P y) : ∀ (xs : List α) (m : δ), ∃ ys m', mapS f xs m = some (ys, m') ∧ ys.length = xs.length ∧ ∀ y, y ∈ ys → P y
  | [], m => ⟨[], m, rfl, rfl, fun y hy => by simp at hy⟩
  | x :: xs, m => by
    obtain ⟨y, m1, e1, p1⟩ := h x m
    obtain ⟨ys, m2, e2, l2, p2⟩ := mapS_ex P h xs m1
    refine ⟨y :: ys, m2, ?_, by rw [List.length_cons, List.length_cons, l2], fun z hz => ?_⟩
    · rw [mapS]; exact bi e1 (bi e2 rfl)
    · rcases List.mem_cons.mp hz with e | e
      · rw [e]; exact p1
      · exact p2 z e
theorem mapSG_ex {f : α → δ → Option (β × δ)} (P : β → Prop) (xs : List α) (m : δ) (hl : xs.length ≤ 1000000) (h : ∀ x m, ∃ y m', f x m = some (y, m') ∧ P y) : ∃ ys m', mapSG f xs m = some (ys, m') ∧ ys.length = xs.length ∧ ∀ y, y ∈ ys → P y := by
  obtain ⟨ys, m', e, h⟩ := mapS_ex P h xs m
  exact ⟨ys, m', by unfold mapSG; rw [if_pos hl]; exact e, h⟩
theorem mapSG_go {f : α → δ → Option (β × δ)} {xs : List α} {m : δ} {k : List β × δ → Option γ} {z : Option γ} (P : β → Prop) (hl : xs.length ≤ 1000000) (h : ∀ x m, ∃ y m', f x m = some (y, m') ∧ P y) (hk : ∀ ys m', ys.length = xs.length → (∀ y, y ∈ ys → P y) → k (ys, m') = z) : (mapSG f xs m).bind k = z := by
  obtain ⟨ys, m', e, h1, h2⟩ := mapSG_ex P xs m hl h
  exact bi e (hk ys m' h1 h2)
theorem rngO_eq {n : Nat} (h : n ≤ 1000000) : rngO n = some (List.range n) := gd_eq h
theorem rng2O_eq {m n : Nat} (h1 : m ≤ 1000000) (h2 : n ≤ 1000000) : rng2O m n = some ((List.range (n - m)).map fun k => m + k) := gd_eq ⟨h1, h2⟩
theorem lenS_eq {w : List Nat} (h : w.length ≤ 1000000) : lenS w = some w.length := gd_eq h
theorem rngSO_eq {a b : Nat} (h1 : a ≤ 1000000) (h2 : b ≤ 1000000) : rngSO a b = some (List.range (a - b)) := gd_eq ⟨h1, h2⟩
theorem rng2SO_eq {m a b : Nat} (h1 : m ≤ 1000000) (h2 : a ≤ 1000000) (h3 : b ≤ 1000000) : rng2SO m a b = some ((List.range (a - b - m)).map fun k => m + k) := gd_eq ⟨h1, h2, h3⟩
theorem lenD_S {w : List Nat} (h : w.length ≤ 1000000) : lenD (eS w) = some w.length := lenS_eq (w := w) h
theorem subN_eq {a b : Nat} (h : b ≤ a) : subN a b = some (a - b) := gd_eq h
/-- loops: a word I on what was walked -/
theorem forS_ex {f : α → σ → Option σ} (I : Nat → σ → Prop) {xs : List α} {s0 : σ} (h0 : I 0 s0) (hs : ∀ i x s, xs[i]? = some x → I i s → ∃ s', f x s = some s' ∧ I (i + 1) s') : ∃ s, forS f xs s0 = some s ∧ I xs.length s := by
  have key : ∀ (k : Nat) (i : Nat) (s : σ), xs.length - i = k → i ≤ xs.length → I i s → ∃ s', forS f (xs.drop i) s = some s' ∧ I xs.length s' := by
    intro k
    induction k with
    | zero =>
      intro i s hk hi h
      have : i = xs.length := by omega
      subst this
      rw [List.drop_of_length_le (Nat.le_refl _)]; exact ⟨s, rfl, h⟩
    | succ k ih =>
      intro i s hk hi h
      have hlt : i < xs.length := by omega
      have hx := List.getElem?_eq_getElem hlt
      obtain ⟨s1, e1, h1⟩ := hs i _ s hx h
      obtain ⟨s2, e2, h2⟩ := ih (i + 1) s1 (by omega) hlt h1
      rw [drop_cons hx, forS]
      exact ⟨s2, bi e1 e2, h2⟩
  obtain ⟨s, e, h⟩ := key xs.length 0 s0 rfl (Nat.zero_le _) h0
  exact ⟨s, e, h⟩
theorem forS_go {f : α → σ → Option σ} (I : Nat → σ → Prop) {xs : List α} {s0 : σ} {k : σ → Option β} {y : Option β} (h0 : I 0 s0) (hs : ∀ i x s, xs[i]? = some x → I i s → ∃ s', f x s = some s' ∧ I (i + 1) s') (hk : ∀ s, I xs.length s → k s = y) : (forS f xs s0).bind k = y := by
  obtain ⟨s, e, h⟩ := forS_ex I h0 hs
  exact bi e (hk s h)
/-- a loop that ends by a find, or not -/
theorem forF_ex {f : α → σ → Option (Fl σ ρ)} (I : Nat → σ → Prop) (B : σ → Prop) (R : ρ → Prop) {xs : List α} {s0 : σ} (h0 : I 0 s0) (hs : ∀ i x s, xs[i]? = some x → I i s → (∃ s', f x s = some (.n s') ∧ I (i + 1) s') ∨ (∃ s', f x s = some (.b s') ∧ B s') ∨ ∃ v, f x s = some (.r v) ∧ R v) :
    (∃ s, forF f xs s0 = some (.n s) ∧ (I xs.length s ∨ B s)) ∨ ∃ v, forF f xs s0 = some (.r v) ∧ R v := by
  have key : ∀ (k : Nat) (i : Nat) (s : σ), xs.length - i = k → i ≤ xs.length → I i s → (∃ s', forF f (xs.drop i) s = some (.n s') ∧ (I xs.length s' ∨ B s')) ∨ ∃ v, forF f (xs.drop i) s = some (.r v) ∧ R v := by
    intro k
    induction k with
    | zero =>
      intro i s hk hi h
      have : i = xs.length := by omega
      subst this
      rw [List.drop_of_length_le (Nat.le_refl _)]; exact .inl ⟨s, rfl, .inl h⟩
    | succ k ih =>
      intro i s hk hi h
      have hlt : i < xs.length := by omega
      have hx := List.getElem?_eq_getElem hlt
      rw [drop_cons hx, forF]
      rcases hs i _ s hx h with ⟨s1, e1, h1⟩ | ⟨s1, e1, h1⟩ | ⟨v, e1, h1⟩
      · rcases ih (i + 1) s1 (by omega) hlt h1 with ⟨s2, e2, h2⟩ | ⟨v, e2, h2⟩
        · exact .inl ⟨s2, bi e1 e2, h2⟩
        · exact .inr ⟨v, bi e1 e2, h2⟩
      · exact .inl ⟨s1, bi e1 rfl, .inr h1⟩
      · exact .inr ⟨v, bi e1 rfl, h1⟩
  exact key xs.length 0 s0 rfl (Nat.zero_le _) h0
/-- no turn finds anything -/
theorem forF_n {f : α → σ → Option (Fl σ ρ)} (g : Nat → σ) {xs : List α} (hs : ∀ i x, xs[i]? = some x → f x (g i) = some (.n (g (i + 1)))) : forF f xs (g 0) = some (.n (g xs.length)) := by
  rcases forF_ex (fun i s => s = g i) (fun _ => False) (fun _ : ρ => False) (f := f) (xs := xs) (s0 := g 0) rfl (fun i x s hx e => .inl ⟨_, by rw [e]; exact hs i x hx, rfl⟩) with ⟨s, e, h | h⟩ | ⟨v, _, h⟩
  · rw [e, h]
  · exact h.elim
  · exact h.elim
theorem forF_u {f : α → Unit → Option (Fl Unit ρ)} {xs : List α} (hs : ∀ x, x ∈ xs → f x () = some (.n ())) : forF f xs () = some (.n ()) := forF_n (fun _ => ()) fun i x hx => hs x (List.mem_of_getElem? hx)
/-- the first turn that finds something -/
theorem forF_r {f : α → Unit → Option (Fl Unit ρ)} {xs : List α} {j : Nat} {x : α} {v : ρ} (hx : xs[j]? = some x) (hv : f x () = some (.r v)) (hn : ∀ i y, i < j → xs[i]? = some y → f y () = some (.n ())) : forF f xs () = some (.r v) := by
  induction xs generalizing j with
  | nil => simp at hx
  | cons y ys ih =>
    rw [forF]
    cases j with
    | zero =>
      rw [List.getElem?_cons_zero] at hx
      cases hx
      exact bi hv rfl
    | succ j =>
      refine bi (hn 0 y (Nat.zero_lt_succ j) rfl) (ih (j := j) (by simpa using hx) fun i z hi hz => hn (i + 1) z (by omega) (by simpa using hz))
/-- while: a measure -/
theorem whS_ex {c : σ → Option Bool} {f : σ → Option σ} (I : σ → Prop) (m : σ → Nat) (b : σ → Bool) (hc : ∀ s, I s → c s = some (b s)) (hs : ∀ s, I s → b s = true → ∃ s', f s = some s' ∧ I s' ∧ m s' < m s) : ∀ (n : Nat) (s : σ), I s → m s < n → ∃ s', whS c f n s = some s' ∧ I s' ∧ b s' = false
  | 0, s, _, h => absurd h (Nat.not_lt_zero _)
  | n + 1, s, hi, h => by
    rw [whS]
    cases hb : b s with
    | true =>
      obtain ⟨s1, e1, i1, l1⟩ := hs s hi hb
      obtain ⟨s2, e2, h2⟩ := whS_ex I m b hc hs n s1 i1 (by omega)
      refine ⟨s2, bi (hc s hi) ?_, h2⟩
      rw [if_pos hb]; exact bi e1 e2
    | false =>
      refine ⟨s, bi (hc s hi) ?_, hi, hb⟩
      rw [if_neg (by rw [hb]; exact Bool.false_ne_true)]
theorem whS_go {c : σ → Option Bool} {f : σ → Option σ} {k : σ → Option β} {y : Option β} {s0 : σ} (I : σ → Prop) (m : σ → Nat) (b : σ → Bool) (h0 : I s0) (hm : m s0 < fuel) (hc : ∀ s, I s → c s = some (b s)) (hs : ∀ s, I s → b s = true → ∃ s', f s = some s' ∧ I s' ∧ m s' < m s) (hk : ∀ s, I s → b s = false → k s = y) : (whS c f fuel s0).bind k = y := by
  obtain ⟨s, e, h1, h2⟩ := whS_ex I m b hc hs fuel s0 h0 hm
  exact bi e (hk s h1 h2)
theorem sortS_eq {l ys : List (List Nat)} (hp : ys.Perm l) (h : ys.Pairwise fun a b => ¬ b < a) : sortE ltS l = ys := by
  refine (List.Perm.eq_of_pairwise (le := fun a b : List Nat => ¬ b < a) (fun a b _ _ h1 h2 => List.le_antisymm (List.not_lt.mp h1) (List.not_lt.mp h2)) h (sort_pw (f := id) (fun _ _ => rfl) l) (hp.trans (List.mergeSort_perm l _).symm)).symm
theorem elN {s : σ} {k : σ → Option γ} {r : ρ → Option γ} {y : Option γ} (h : k s = y) : elimF (Fl.n s : Fl σ ρ) k r = y := h
theorem elR {v : ρ} {k : σ → Option γ} {r : ρ → Option γ} {y : Option γ} (h : r v = y) : elimF (Fl.r v : Fl σ ρ) k r = y := h
end
end D2
set_option Elab.async false
set_option linter.all false
set_option maxRecDepth 100000
set_option maxHeartbeats 4000000
/-! plain steps that every law needs -/
namespace LW
open PySem L2 D2
theorem midS_eq {w : List Nat} {m n : Nat} (h : w.length ≤ 1000000) : midS w m n = some ((w.take n).drop m) := gd_eq h
theorem toS_eq {w : List Nat} {n : Nat} (h : w.length ≤ 1000000) : toS w n = some (w.take n) := gd_eq h
theorem fromS_eq {w : List Nat} {n : Nat} (h : w.length ≤ 1000000) : fromS w n = some (w.drop n) := gd_eq h
theorem revO_eq {w : List Nat} (h : w.length ≤ 1000000) : revO w = some w.reverse := gd_eq h
theorem addS_eq {w v : List Nat} (h : w.length + v.length ≤ 1000000) : addS w v = some (w ++ v) := gd_eq h
theorem addL_eq {α : Type} {w v : List α} (h : w.length + v.length ≤ 1000000) : addL w v = some (w ++ v) := gd_eq h
theorem joinC_eq {w : List Nat} (h : w.length ≤ 1000000) : joinC w = some w := gd_eq h
theorem ixS_eq {w : List Nat} {n c : Nat} (h : w.length ≤ 1000000) (e : w[n]? = some c) : ixS w n = some c := by unfold ixS; rw [if_pos h]; exact e
theorem mulS_eq {w : List Nat} {n : Nat} (h1 : n ≤ 1000000) (h : w.length * n ≤ 1000000) : mulS w n = some (rep w n) := gd_eq ⟨h1, h⟩
theorem modN_eq {a b : Nat} (h : 0 < b) : modN a b = some (a % b) := gd_eq h
theorem fdivN_eq {a b : Nat} (h : 0 < b) (h2 : b < 1073741824) : fdivN a b = some (a / b) := gd_eq ⟨h, h2⟩
theorem mulN_eq {a b : Nat} (h : a < 18446744073709551616) : mulN a b = some (a * b) := gd_eq (.inl h)
theorem appO_eq {α : Type} {l : List α} {x : α} (h : l.length < 1000000) : appO l x = some (l ++ [x]) := gd_eq h
theorem mem_rep {l : List Nat} {c : Nat} : ∀ {n : Nat}, c ∈ rep l n → c ∈ l
  | 0, h => by simp [rep] at h
  | n + 1, h => by
    rw [rep] at h
    rcases List.mem_append.mp h with h | h
    · exact h
    · exact mem_rep h
theorem forF_find {α β ρ : Type} {f : α → Unit → Option (Fl Unit ρ)} (r : β → ρ) (g : α → Option β) : ∀ {xs : List α}, (∀ x, x ∈ xs → f x () = some (match g x with | some v => .r (r v) | none => .n ())) → forF f xs () = some (match xs.findSome? g with | some v => .r (r v) | none => .n ())
  | [], _ => rfl
  | x :: xs, h => by
    rw [forF, h x List.mem_cons_self, List.findSome?_cons]
    cases g x with
    | some v => rfl
    | none => exact forF_find r g fun y hy => h y (List.mem_cons_of_mem _ hy)
theorem enumF_get {α : Type} : ∀ (l : List α) (n i : Nat), (enumF n l)[i]? = l[i]?.map fun x => (n + i, x)
  | [], n, i => by simp [enumF]
  | x :: l, n, 0 => by simp [enumF]
  | x :: l, n, i + 1 => by
    rw [enumF, List.getElem?_cons_succ, List.getElem?_cons_succ, enumF_get l]
    congr 1; funext y
    rw [show n + 1 + i = n + (i + 1) by omega]
theorem enumF_len {α : Type} : ∀ (l : List α) (n : Nat), (enumF n l).length = l.length
  | [], _ => rfl
  | x :: l, n => by rw [enumF, List.length_cons, enumF_len l, List.length_cons]
theorem gd_any {α : Type} {p : Prop} (d : Decidable p) {x : α} (h : p) : @gd α p d x = some x := if_pos h
end LW
set_option Elab.async false
set_option linter.all false
set_option maxRecDepth 100000
set_option maxHeartbeats 4000000
/-! what the defs compute, as plain functions (printed by trk.py) -/
namespace LW
open PySem L2 D2
noncomputable section
noncomputable instance decPD : DecidableEq PyData := fun _ _ => Classical.propDecidable _
def f__law_word (draws : DS) (letters : (List Nat)) (most : Nat) : Option ((List Nat) × DS) :=
  (dr draws 6).bind fun d1 =>
  (dr d1.2 (most + 1)).bind fun d2 =>
  (rngO d2.1).bind fun r3 =>
  (mapSG (fun (x4 : Nat) (m5 : DS) => (pickS m5 letters).bind fun d6 => some (d6.1, d6.2)) r3 d2.2).bind fun ys7 =>
  (joinC ys7.1).bind fun v8 =>
  (if (decide (d1.1 = 0)) && (decide (1 < d2.1)) then
    (dr ys7.2 ((d2.1 / 2) + 1)).bind fun d11 =>
    (toS v8 (1 + d11.1)).bind fun v12 =>
    (mulS v12 d2.1).bind fun v13 =>
    (toS v13 d2.1).bind fun v14 =>
    some (v14, d11.2)
  else
    if decide (d1.1 = 1) then
      (toS v8 (d2.1 / 2)).bind fun v16 =>
      (toS v8 (d2.1 / 2)).bind fun v17 =>
      (revO v17).bind fun v18 =>
      (addS v16 v18).bind fun v19 =>
      (addS v19 v8).bind fun v20 =>
      (toS v20 d2.1).bind fun v21 =>
      some (v21, ys7.2)
    else
      if (decide (d1.1 = 2)) && (decide (3 < d2.1)) then
        (toS v8 ((d2.1 / 3) + 1)).bind fun v23 =>
        (midS v8 ((d2.1 / 3) + 1) ((d2.1 / 3) + 2)).bind fun v24 =>
        (addS v23 v24).bind fun v25 =>
        (addS v25 v23).bind fun v26 =>
        (addS v26 v23).bind fun v27 =>
        (toS v27 d2.1).bind fun v28 =>
        some (v28, ys7.2)
      else
        some (v8, ys7.2)
  ).bind fun s10 =>
  some (s10.1, s10.2)
def f__law_letters (draws : DS) : Option ((List Nat) × DS) :=
  (pick draws [([97, 98] : List Nat), ([97, 98] : List Nat), ([97, 98, 99] : List Nat), [97], ([97, 98, 99, 100] : List Nat), ([98, 122] : List Nat)]).bind fun d1 =>
  some (d1.1, d1.2)
def f_border_table_b1 (x2 : (Nat × Nat)) (word : (List Nat)) (s5 : Nat) : Option Bool :=
  (if decide (0 < x2.1) then (if decide (0 < s5) then (ixS word s5).bind fun v14 => some (!decide (v14 = x2.2)) else some false).bind fun v15 => some v15 else some false).bind fun v16 =>
  some (v16)
def f_border_table_b2 (s1 : ((List Nat))) (s5 : Nat) : Option (Nat) :=
  (subN s5 1).bind fun v7 =>
  (s1[v7]?).bind fun v8 =>
  some v8
def f_border_table_b3 (word : (List Nat)) (x2 : (Nat × Nat)) (s1 : (List Nat)) : Option ((List Nat)) :=
  (if decide (0 < x2.1) then (atI s1 (-1)).bind fun v3 => some v3 else some 0).bind fun v4 =>
  (whS
  (f_border_table_b1 x2 word)
  (f_border_table_b2 s1
  ) fuel v4).bind fun s9 =>
  (if decide (0 < x2.1) then (ixS word s9).bind fun v10 => some (decide (v10 = x2.2)) else some false).bind fun v11 =>
  (if v11 then some (s9 + 1) else some 0).bind fun v12 =>
  (appO s1 v12).bind fun found13 =>
  some found13
def f_border_table (word : (List Nat)) : Option (List Nat) :=
  (forS (f_border_table_b3 word
  ) (enumF 0 word) ([] : List Nat)).bind fun s17 =>
  some s17
def f__law_has (word : (List Nat)) (period : Nat) : Option Bool :=
  (lenS word).bind fun v1 =>
  (rngSO v1 period).bind fun r2 =>
  (filG (fun (x3 : Nat) => (ixS word x3).bind fun v4 => (ixS word (x3 + period)).bind fun v5 => if !decide (v4 = v5) then some (some x3) else some none) r2).bind fun ys7 =>
  some (decide (ys7.length = 0))
def f_borders_b1 (s4 : Nat × (List Nat)) : Option Bool :=
  some (decide (0 < s4.1))
def f_borders_b2 (v1 : (List Nat)) (s4 : Nat × (List Nat)) : Option (Nat × (List Nat)) :=
  (appO s4.2 s4.1).bind fun found6 =>
  (subN s4.1 1).bind fun v7 =>
  (v1[v7]?).bind fun v8 =>
  some (v8, found6)
def f_borders (word : (List Nat)) : Option (List Nat) :=
  (f_border_table word).bind fun v1 =>
  (if decide (0 < v1.length) then (atI v1 (-1)).bind fun v2 => some v2 else some 0).bind fun v3 =>
  (whS
  (f_borders_b1)
  (f_borders_b2 v1
  ) fuel (v3, ([] : List Nat))).bind fun s9 =>
  some s9.2.reverse
def f_periods (word : (List Nat)) : Option (List Nat) :=
  (f_borders word).bind fun v1 =>
  (mapG (fun (x2 : Nat) => (lenS word).bind fun v3 => (subN v3 x2).bind fun v4 => some v4) v1.reverse).bind fun ys5 =>
  (lenS word).bind fun v6 =>
  (if decide (0 < v6) then (lenS word).bind fun v7 => some [v7] else some []).bind fun v8 =>
  (addL ys5 v8).bind fun v9 =>
  some v9
def f_has_period (word : (List Nat)) (period : Nat) : Option Bool :=
  (lenS word).bind fun v1 =>
  (if decide (period < v1) then (fromS word period).bind fun v2 => (lenS word).bind fun v3 => (subN v3 period).bind fun v4 => (toS word v4).bind fun v5 => some (decide (v2 = v5)) else some true).bind fun v6 =>
  some v6
def f__law_groups_b1 (count : Nat) (x10 : Int) (s9 : (List Int) × (List Int)) : Option ((List Int) × (List Int)) :=
  (if decide (((0 : Nat) : Int) ≤ x10) then some (decide (x10 < ((count : Nat) : Int))) else some false).bind fun v11 =>
  if v11 && (!decide (x10 ∈ s9.1)) then
    (appO s9.1 x10).bind fun seen13 =>
    (appO s9.2 x10).bind fun todo14 =>
    some (seen13, todo14)
  else
    some (s9.1, s9.2)
def f__law_groups_b2 (count : Nat) (q6 : (Int × (List Int))) (x8 : Nat) (s7 : (List Int) × (List Int)) : Option ((List Int) × (List Int)) :=
  (forS (f__law_groups_b1 count
  ) [q6.1 - ((x8 : Nat) : Int), q6.1 + ((x8 : Nat) : Int)] (s7.1, s7.2)).bind fun s15 =>
  some (s15.1, s15.2)
def f__law_groups_b3 (s4 : (List Int) × (List Int)) : Option Bool :=
  some (decide (0 < s4.2.length))
def f__law_groups_b4 (count : Nat) (wished : (List Nat)) (s4 : (List Int) × (List Int)) : Option ((List Int) × (List Int)) :=
  (popO s4.2).bind fun q6 =>
  (forS (f__law_groups_b2 count q6
  ) wished (s4.1, q6.2)).bind fun s16 =>
  some (s16.1, s16.2)
def f__law_groups_b5 (count : Nat) (wished : (List Nat)) (x3 : Nat) (s2 : (List Int)) : Option ((List Int)) :=
  (whS
  (f__law_groups_b3)
  (f__law_groups_b4 count wished
  ) fuel (([((x3 : Nat) : Int)] : List Int), ([((x3 : Nat) : Int)] : List Int))).bind fun s17 =>
  (minE ltZ s17.1).bind fun v18 =>
  (appO s2 v18).bind fun found19 =>
  some found19
def f__law_groups (wished : (List Nat)) (count : Nat) : Option (List Int) :=
  (rngO count).bind fun r1 =>
  (forS (f__law_groups_b5 count wished
  ) r1 ([] : List Int)).bind fun s20 =>
  some s20
def f_groups_b1 (x3 : Nat) (x6 : Nat) (s5 : (List Nat)) : Option ((List Nat)) :=
  (s5[x6]?).bind fun v7 =>
  (s5[x6 + x3]?).bind fun v8 =>
  (s5[x6]?).bind fun v9 =>
  (s5[x6 + x3]?).bind fun v10 =>
  (mapG (fun (x11 : Nat) => (if decide (x11 = (max v9 v10)) then some (min v7 v8) else some x11).bind fun v12 => some v12) s5).bind fun ys13 =>
  some ys13
def f_groups_b2 (count : Nat) (x3 : Nat) (s2 : (List Nat)) : Option ((List Nat)) :=
  (rngSO count x3).bind fun r4 =>
  (forS (f_groups_b1 x3
  ) r4 s2).bind fun s14 =>
  some s14
def f_groups (wished : (List Nat)) (count : Nat) : Option (List Nat) :=
  (lrg1 count).bind fun v1 =>
  (forS (f_groups_b2 count
  ) wished v1).bind fun s15 =>
  some s15
def f_widest_word (wished : (List Nat)) (count : Nat) : Option (List Nat) :=
  (f_groups wished count).bind fun v1 =>
  (dcG (fun (x2 : Nat) => some (some (x2, true))) v1).bind fun ys3 =>
  (srtO ltN ys3).bind fun v4 =>
  (lenS [97, 98, 99, 100, 101, 102, 103, 104, 105, 106, 107, 108, 109, 110, 111, 112, 113, 114, 115, 116, 117, 118, 119, 120, 121, 122]).bind fun v5 =>
  if decide (v5 < v4.length) then
    none
  else
    (mapG (fun (x7 : Nat) => (idxL v4 x7).bind fun v8 => (ixS [97, 98, 99, 100, 101, 102, 103, 104, 105, 106, 107, 108, 109, 110, 111, 112, 113, 114, 115, 116, 117, 118, 119, 120, 121, 122] v8).bind fun v9 => some v9) v1).bind fun ys10 =>
    (joinC ys10).bind fun v11 =>
    some v11
def f__law_gcd_b1 (s1 : Nat × Nat) : Option Bool :=
  some (decide (0 < s1.2))
def f__law_gcd_b2 (s1 : Nat × Nat) : Option (Nat × Nat) :=
  (fdivN s1.1 s1.2).bind fun v3 =>
  (mulN v3 s1.2).bind fun v4 =>
  (subN s1.1 v4).bind fun v5 =>
  some (s1.2, v5)
def f__law_gcd (one : Nat) (two : Nat) : Option Nat :=
  (whS
  (f__law_gcd_b1)
  (f__law_gcd_b2
  ) fuel (one, two)).bind fun s6 =>
  some s6.1
def f_both_periods (first : Nat) (other : Nat) (count : Nat) : Option ((List Nat) × PyData) :=
  (subN (first + other) (Nat.gcd first other)).bind fun v1 =>
  if decide (v1 ≤ count) then
    some (([111, 110, 101] : List Nat), (eN (Nat.gcd first other)))
  else
    (f_widest_word [first, other] count).bind fun v3 =>
    (f_has_period v3 (Nat.gcd first other)).bind fun v4 =>
    (if v4 then some (([111, 110, 101] : List Nat), (eN (Nat.gcd first other))) else some (([119, 111, 114, 100] : List Nat), (eS v3))).bind fun v5 =>
    some v5
def x_widest_word (wished : (List Nat)) (count : Nat) : Option (List Nat) :=
  (f_groups wished count).bind fun v1 =>
  (dcG (fun (x2 : Nat) => some (some (x2, true))) v1).bind fun ys3 =>
  (srtO ltN ys3).bind fun v4 =>
  (lenS [97, 98, 99, 100, 101, 102, 103, 104, 105, 106, 107, 108, 109, 110, 111, 112, 113, 114, 115, 116, 117, 118, 119, 120, 121, 122]).bind fun v5 =>
  if decide (v5 < v4.length) then
    some ([108, 101, 116, 116, 101, 114, 115] : List Nat)
  else
    none
def f_law_b1 (d2 : ((List Nat) × DS)) (x44 : Nat) (s43 : Unit) : Option (Fl (Unit) (Bool)) :=
  (f_has_period d2.1 x44).bind fun v45 =>
  (f__law_has d2.1 x44).bind fun v46 =>
  (sameO eB v45 v46).bind fun v47 =>
  if !v47 then
    some (.r false)
  else
    some (.n ())
def f_law_b2 (d2 : ((List Nat) × DS)) (x6 : Nat) (s5 : (List Nat)) : Option ((List Nat)) :=
  (rngO x6).bind fun r7 =>
  (filG (fun (x8 : Nat) => (toS d2.1 x8).bind fun v9 => (subN x6 x8).bind fun v10 => (midS d2.1 v10 x6).bind fun v11 => if decide (v9 = v11) then some (some x8) else some none) r7).bind fun ys13 =>
  (maxN ys13).bind fun v14 =>
  (appO s5 v14).bind fun table15 =>
  some table15
def f_law (script : (List Int)) : Option Bool :=
  (some (DS.mk script 0 0 1)).bind fun m0 =>
  (f__law_letters m0).bind fun d1 =>
  (f__law_word d1.2 d1.1 25).bind fun d2 =>
  (lenS d2.1).bind fun v3 =>
  (rng2O 1 (v3 + 1)).bind fun r4 =>
  (forS (f_law_b2 d2
  ) r4 ([] : List Nat)).bind fun s16 =>
  (f_border_table d2.1).bind fun v17 =>
  (sameO (eT eN) v17 s16).bind fun v18 =>
  if !v18 then
    some false
  else
    (lenS d2.1).bind fun v20 =>
    (rng2O 1 v20).bind fun r21 =>
    (filG (fun (x22 : Nat) => (toS d2.1 x22).bind fun v23 => (lenS d2.1).bind fun v24 => (subN v24 x22).bind fun v25 => (fromS d2.1 v25).bind fun v26 => if decide (v23 = v26) then some (some x22) else some none) r21).bind fun ys28 =>
    (lenS d2.1).bind fun v29 =>
    (rng2O 1 (v29 + 1)).bind fun r30 =>
    (filG (fun (x31 : Nat) => (f__law_has d2.1 x31).bind fun v32 => if v32 then some (some x31) else some none) r30).bind fun ys34 =>
    (f_borders d2.1).bind fun v35 =>
    (sameO (eT eN) v35 ys28).bind fun v36 =>
    (if !v36 then some true else (f_periods d2.1).bind fun v37 => (sameO (eT eN) v37 ys34).bind fun v38 => some (!v38)).bind fun v39 =>
    if v39 then
      some false
    else
      (lenS d2.1).bind fun v41 =>
      (rng2O 1 (v41 + 3)).bind fun r42 =>
      (forF (σ := Unit) (ρ := Bool) (f_law_b1 d2
      ) r42 ()).bind fun fl108 => elimF fl108 (fun s49 =>
        (dr d2.2 4).bind fun d50 =>
        (rngO d50.1).bind fun r51 =>
        (mapSG (fun (x52 : Nat) (m53 : DS) => (dr m53 12).bind fun d54 => some (1 + d54.1, d54.2)) r51 d50.2).bind fun ys55 =>
        (dr ys55.2 26).bind fun d56 =>
        (f__law_groups ys55.1 d56.1).bind fun v57 =>
        (f_groups ys55.1 d56.1).bind fun v58 =>
        (sameO (eL eZ) (List.map (fun x => ((x : Nat) : Int)) v58) v57).bind fun v59 =>
        if !v59 then
          some false
        else
          (mapG (fun (x61 : Int) => some (x61, 1)) v57).bind fun ys62 =>
          (ofO ys62).bind fun v63 =>
          (srtO ltZ v63).bind fun v64 =>
          (some ([97, 98, 99, 100, 101, 102, 103, 104, 105, 106, 107, 108, 109, 110, 111, 112, 113, 114, 115, 116, 117, 118, 119, 120, 121, 122] : List Nat)).bind fun letters65 =>
          (mapG (fun (x66 : Int) => (idxL v64 x66).bind fun v67 => (ixS letters65 v67).bind fun v68 => some v68) v57).bind fun ys69 =>
          (joinC ys69).bind fun v70 =>
          (f_widest_word ys55.1 d56.1).bind fun v71 =>
          (sameO eS v71 v70).bind fun v72 =>
          (if !v72 then some true else (filG (fun (x73 : Nat) => (f__law_has v70 x73).bind fun v74 => if !v74 then some (some x73) else some none) ys55.1).bind fun ys76 => some (decide (0 < ys76.length))).bind fun v77 =>
          if v77 then
            some false
          else
            (dr d56.2 14).bind fun d79 =>
            (dr d79.2 14).bind fun d80 =>
            (some (1 + d79.1)).bind fun first81 =>
            (some (1 + d80.1)).bind fun other82 =>
            (f__law_gcd first81 other82).bind fun v83 =>
            (subN (first81 + other82) v83).bind fun v84 =>
            (subN (first81 + other82) v83).bind fun v85 =>
            (subN v85 1).bind fun v86 =>
            (dr d80.2 20).bind fun d87 =>
            (pick d87.2 [v84, v86, d87.1]).bind fun d88 =>
            (f_both_periods first81 other82 d88.1).bind fun v89 =>
            (f__law_groups [first81, other82] d88.1).bind fun v90 =>
            (mapG (fun (x91 : Int) => some (x91, 1)) v90).bind fun ys92 =>
            (ofO ys92).bind fun v93 =>
            (srtO ltZ v93).bind fun v94 =>
            (mapG (fun (x95 : Int) => (idxL v94 x95).bind fun v96 => (ixS letters65 v96).bind fun v97 => some v97) v90).bind fun ys98 =>
            (joinC ys98).bind fun v99 =>
            (f__law_has v99 v83).bind fun v100 =>
            (if v100 then some (([111, 110, 101] : List Nat), (eN v83)) else some (([119, 111, 114, 100] : List Nat), (eS v99))).bind fun v101 =>
            (sameO (eP eS eD) v89 v101).bind fun v102 =>
            (if !v102 then some true else (subN (first81 + other82) v83).bind fun v103 => some ((decide (v103 ≤ d88.1)) && (!decide (v89.1 = ([111, 110, 101] : List Nat))))).bind fun v104 =>
            if v104 then
              some false
            else
              (x_widest_word [] 27).bind fun v106 =>
              (sameO eS v106 ([108, 101, 116, 116, 101, 114, 115] : List Nat)).bind fun v107 =>
              some v107
      ) (fun v_ => some v_)
end
end LW
set_option Elab.async false
set_option pp.maxSteps 2000
set_option linter.all false
set_option maxRecDepth 100000
set_option maxHeartbeats 4000000
namespace LW
open PySem PySem.Spec PyProof.Rows L2 D2
def topS (i : Nat) : Stmt := PySem.Challenge.pw_wordsalike_k02_borders_and_periods.main.body.getD i (.Pass ⟨0, 0, 0, 0⟩)
structure Bl (mg : Str → Option Value) : Prop where
  b_bool : mg "bool" = none
  b_dict : mg "dict" = none
  b_enumerate : mg "enumerate" = none
  b_int : mg "int" = none
  b_isinstance : mg "isinstance" = none
  b_len : mg "len" = none
  b_list : mg "list" = none
  b_max : mg "max" = none
  b_min : mg "min" = none
  b_range : mg "range" = none
  b_sorted : mg "sorted" = none
  b_str : mg "str" = none
  b_tuple : mg "tuple" = none
  c_LETTERS : ∃ t, mg "LETTERS" = some (.str "abcdefghijklmnopqrstuvwxyz" t)
  i_gcd : mg "gcd" = some (.builtin "math.gcd")
section
variable {P : Program} {w : World} {K : PySem.W.Frag} {mg : Str → Option Value} {base : Heap}
abbrev s__law_draws : Stmt := topS 14
abbrev n__law_draws : List Str := ["script"]
theorem sc__law_draws : FnScope n__law_draws ["script"] (defScope s__law_draws) := ⟨rfl, rfl, rfl, by decide +kernel, rfl, by decide +kernel, by decide +kernel⟩
def R__law_draws (ds : List PyData) (r : List PyData) : Prop := ∃ ns : List Int, ds = [.list (ns.map PyData.int)] ∧ r = [.list (ns.map PyData.int), pn 0, .int 0, .int 1]
theorem ok__law_draws (T : Bl mg) (D : Def K mg "_law_draws" "_law_draws" s__law_draws ["script"]) : Has P w K mg base 1 "_law_draws" ["script"] (spN K R__law_draws) := by
  refine def_N D sc__law_draws (fun ds r ⟨ns, e, _⟩ => by rw [e]; rfl) fun f cdv A outer s H E hr => ⟨_, (pss_one (ps_ret (pe_lst (pa_cons (pe_callTy (call_listV (K := K) rfl rfl) (by rfl) T.b_list (by decide +kernel) (pa_cons (pv 0) pa_nil)) (pa_cons pe_int (pa_cons pe_int (pa_cons pe_int pa_nil))))))), fun ds r hR => ?_⟩
  obtain ⟨ns, rfl, rfl⟩ := hR
  refine sw_retNew (nw_lst (AVs.ew (av_cons (ev_cb (av_cons (ev_var rfl) av_nil) (ra_orl ra_listL)) (av_cons ev_int (av_cons ev_int (av_cons ev_int av_nil)))) ⟨[.list (ns.map PyData.int), .int 0, .int 0, .int 1], rfl, (by show 4 ≤ 1000000; decide), ?_⟩))
  rfl
abbrev s__law_draw : Stmt := topS 15
abbrev n__law_draw : List Str := ["draws", "limit", "cell", "value"]
theorem sc__law_draw : FnScope n__law_draw ["draws", "limit"] (defScope s__law_draw) := ⟨rfl, rfl, rfl, by decide +kernel, rfl, by decide +kernel, by decide +kernel⟩
theorem fmod_toNat (x : Int) (L : Nat) (h : 0 < L) : x.fmod (L : Int) = (((x.fmod (L : Int)).toNat : Nat) : Int) := by
  have h1 : 0 ≤ x.fmod (L : Int) := Int.fmod_nonneg_of_pos _ (by omega)
  omega
theorem ok__law_draw (T : Bl mg) (D : Def K mg "_law_draw" "_law_draw" s__law_draw ["draws", "limit"]) : Has P w K mg base 1 "_law_draw" ["draws", "limit"] (spD K (RD1 dr eN eN)) := by
  refine def_D D sc__law_draw (fun ds _ r h => by obtain ⟨_, _, _, _, e, _⟩ := h; rw [e]; rfl) fun f cdv A outer s H E hr => ⟨_, (pss_cons (ps_if (PW.pt (pw_and (pt_cmpR (op_eqU (K := K) rfl hr.units) (pe_ix (ix_U (K := K) rfl) (pv 0) pe_int (fun _ _ => rfl)) pe_int (nomark _)) (pw_and1 (pt_cmpR (op_ltU (K := K) rfl hr.units) (pe_ix (ix_U (K := K) rfl) (pv 0) pe_int (fun _ _ => rfl)) (pe_callB (call_lenU (K := K) rfl) (by rfl) T.b_len PySem.boot_len (pa_cons (pe_ix (ix_U (K := K) rfl) (pv 0) pe_int (fun _ _ => rfl)) pa_nil)) (nomark _)))))
      (pss_cons (ps_set (i := 2) sc__law_draw.nd rfl (Or.inl rfl) (pe_ix (ix_U (K := K) rfl) (pe_ix (ix_U (K := K) rfl) (pv 0) pe_int (fun _ _ => rfl)) (pe_ix (ix_U (K := K) rfl) (pv 0) pe_int (fun _ _ => rfl)) (fun _ _ => rfl)))
      (pss_cons (ps_asg (pe_op (op_addU (K := K)) (pe_ix (ix_U (K := K) rfl) (pv 0) pe_int (fun _ _ => rfl)) pe_int) (pg_sub (pv 0) pe_int set_list))
      (pss_cons (ps_if (pt_cmpR (op_geU (K := K) rfl hr.units) (pv 2) (pe_op op_pow pe_int pe_int) (nomark _))
        (pss_one (ps_asg (pv 2) (pg_sub (pv 0) pe_int set_list)))
        pss_nil)
      (pss_one (ps_asg (pe_op op_modN (pe_callTy call_intU (by rfl) T.b_int (by decide +kernel) (pa_cons (pe_op (op_addU (K := K)) (pe_op (op_addU (K := K)) (pe_op op_mulU (pe_ix (ix_U (K := K) rfl) (pv 0) pe_int (fun _ _ => rfl)) pe_int) (pv 2)) pe_int) pa_nil)) pe_int) (pg_sub (pv 0) pe_int set_list))))))
      pss_nil)
    (pss_cons (ps_if (pt_cmpR (op_gtU (K := K) rfl hr.units) (pe_ix (ix_U (K := K) rfl) (pv 0) pe_int (fun _ _ => rfl)) pe_int (nomark _))
      (pss_cons (ps_set (i := 3) sc__law_draw.nd rfl (Or.inl rfl) (pe_op op_modN (pe_callTy call_intU (by rfl) T.b_int (by decide +kernel) (pa_cons (pe_ix (ix_U (K := K) rfl) (pv 0) pe_int (fun _ _ => rfl)) pa_nil)) (pv 1)))
      (pss_cons (ps_asg (pe_op op_fdivN (pe_ix (ix_U (K := K) rfl) (pv 0) pe_int (fun _ _ => rfl)) (pv 1)) (pg_sub (pv 0) pe_int set_list))
      (pss_one (ps_ret (pv 3)))))
      pss_nil)
    (pss_cons (ps_asg (pe_op op_modN (pe_callTy call_intU (by rfl) T.b_int (by decide +kernel) (pa_cons (pe_op (op_addU (K := K)) (pe_op op_mulU (pe_ix (ix_U (K := K) rfl) (pv 0) pe_int (fun _ _ => rfl)) pe_int) pe_int) pa_nil)) pe_int) (pg_sub (pv 0) pe_int set_list))
    (pss_one (ps_ret (pe_op op_modN (pe_callTy call_intU (by rfl) T.b_int (by decide +kernel) (pa_cons (pe_op op_fdivN (pe_ix (ix_U (K := K) rfl) (pv 0) pe_int (fun _ _ => rfl)) pe_int) pa_nil)) (pv 1))))))), fun avs m Post hR => ?_⟩
  obtain ⟨m, L, v, h, rfl, rfl, rfl⟩ := hR
  obtain ⟨⟨hL0, hL1⟩, rfl⟩ := gd_of h
  clear h
  refine sw_mid (fun S' => Le ⟨[some (.o 0), some (dn L), none, none], [drM (dr1 m)]⟩ S') ?_ ?_
  · obtain ⟨ns, at_, big, seed⟩ := m
    refine sw_ifE (tv_and (tv_test (ev_op (ev_op (ev_var rfl) (ev_nat 2) (rb_ixON rfl rfl)) (ev_nat 0) rb_eqI)) (fun _ => (tv_test (ev_op (ev_op (ev_var rfl) (ev_nat 1) (rb_ixON rfl rfl)) (ev_cb (av_cons (ev_op (ev_var rfl) (ev_nat 0) (rb_ixON rfl rfl)) av_nil) ra_lenLI) rb_ltN)))) (fun hb => ?_) (fun hb => ?_)
    · simp only [Bool.and_eq_true, decide_eq_true_eq] at hb
      have ha : at_ < ns.length := hb.2
      have e1 : dr1 ⟨ns, at_, big, seed⟩ = ⟨ns, at_ + 1, if 10 ^ 18 ≤ ns.getD at_ 0 then ns.getD at_ 0 else big, (seed * 48271 + ns.getD at_ 0 + 13).fmod 2147483647⟩ := if_pos ⟨hb.1, ha⟩
      rw [e1]
      refine sw_seq (sw_asgE (ev_op (ev_op (ev_var rfl) (ev_nat 0) (rb_ixON rfl rfl)) (ev_op (ev_var rfl) (ev_nat 1) (rb_ixON rfl rfl)) (rb_ixLI ha)) ?_)
      refine sw_seq (sw_setL (j := 0) rfl (EV.ew (ev_op (ev_op (ev_var rfl) (ev_nat 1) (rb_ixON rfl rfl)) (ev_nat 1) rb_addN) (EV.ew (ev_nat 1) ⟨_, _, 1, rfl, rfl, rfl, (by show 1 < 4; decide), ?_⟩)))
      refine sw_mid (fun S' => Le ⟨[some (.o 0), some (dn L), some (dI (ns.getD at_ 0)), none], [drM ⟨ns, at_ + 1, if 10 ^ 18 ≤ ns.getD at_ 0 then ns.getD at_ 0 else big, seed⟩]⟩ S') ?_ ?_
      · refine sw_ifE (tv_test (ev_op (ev_var rfl) (ev_op ev_int ev_int (rb_pow ⟨by decide, by decide, by decide⟩)) rb_ge)) (fun hb => ?_) (fun hb => ?_)
        · refine sw_setL (j := 0) rfl (EV.ew (ev_var rfl) (EV.ew (ev_nat 2) ⟨_, _, 2, rfl, rfl, rfl, (by show 2 < 4; decide), ?_⟩))
          rw [if_pos (show (10 : Int) ^ 18 ≤ ns.getD at_ 0 from of_decide_eq_true hb)]
          exact Le.refl _
        · rw [if_neg (show ¬ (10 : Int) ^ 18 ≤ ns.getD at_ 0 from of_decide_eq_false hb)]
          exact sw_next (Le.refl _)
      · intro S' hS
        refine sw_le ?_ hS
        refine sw_setL (j := 0) rfl (EV.ew (ev_op (ev_cb (av_cons (ev_op (ev_op (ev_op (ev_op (ev_var rfl) (ev_nat 3) (rb_ixON rfl rfl)) ev_int (rb_mul (.inr (by decide)))) (ev_var rfl) rb_add) ev_int rb_add) av_nil) ra_int) ev_int (rb_mod (by decide))) (EV.ew (ev_nat 3) ⟨_, _, 3, rfl, rfl, rfl, (by show 3 < 4; decide), ?_⟩))
        exact ⟨.same (.same (.skip (.same .nil))), rfl⟩
    · have e1 : dr1 ⟨ns, at_, big, seed⟩ = ⟨ns, at_, big, seed⟩ := if_neg fun z => by
        have : (decide (big = 0) && decide (at_ < ns.length)) = true := by rw [decide_eq_true z.1, decide_eq_true z.2]; rfl
        have hb : (decide (big = 0) && decide (at_ < ns.length)) = false := hb
        rw [this] at hb; cases hb
      rw [e1]
      exact sw_next ⟨.same (.same (.skip (.skip .nil))), rfl⟩
  intro S' hS
  refine sw_le ?_ hS
  clear hS
  generalize dr1 m = m1
  obtain ⟨ns, a, bg, sd⟩ := m1
  refine sw_seq (sw_ifE (tv_test (ev_op (ev_op (ev_var rfl) (ev_nat 2) (rb_ixON rfl rfl)) (ev_nat 0) rb_gt)) (fun hb => ?_) (fun hb => ?_))
  · rw [show drx ⟨ns, a, bg, sd⟩ L = ((bg.fmod L).toNat, ⟨ns, a, bg.fdiv L, sd⟩) from if_pos (of_decide_eq_true hb)]
    refine sw_seq (sw_asgE (ev_op (ev_cb (av_cons (ev_op (ev_var rfl) (ev_nat 2) (rb_ixON rfl rfl)) av_nil) ra_int) (ev_var rfl) (rb_mod (by omega))) ?_)
    refine sw_seq (sw_setL (j := 0) rfl (EV.ew (ev_op (ev_op (ev_var rfl) (ev_nat 2) (rb_ixON rfl rfl)) (ev_var rfl) (rb_fdiv ⟨by omega, by omega⟩)) (EV.ew (ev_nat 2) ⟨_, _, 2, rfl, rfl, rfl, (by show 2 < 4; decide), ?_⟩)))
    exact sw_retE (ev_var rfl) ⟨_, rfl, congrArg PyData.int (fmod_toNat bg L hL0), rfl⟩
  · rw [show drx ⟨ns, a, bg, sd⟩ L = (((((sd * 69621 + 7).fmod 2147483629).fdiv 11).fmod L).toNat, ⟨ns, a, bg, (sd * 69621 + 7).fmod 2147483629⟩) from if_neg (of_decide_eq_false hb)]
    refine sw_next ?_
    refine sw_seq (sw_setL (j := 0) rfl (EV.ew (ev_op (ev_cb (av_cons (ev_op (ev_op (ev_op (ev_var rfl) (ev_nat 3) (rb_ixON rfl rfl)) ev_int (rb_mul (.inr (by decide)))) ev_int rb_add) av_nil) ra_int) ev_int (rb_mod (by decide))) (EV.ew (ev_nat 3) ⟨_, _, 3, rfl, rfl, rfl, (by show 3 < 4; decide), ?_⟩)))
    exact sw_retE (ev_op (ev_cb (av_cons (ev_op (ev_op (ev_var rfl) (ev_nat 3) (rb_ixON rfl rfl)) ev_int (rb_fdiv ⟨by decide, by decide⟩)) av_nil) ra_int) (ev_var rfl) (rb_mod (by omega))) ⟨_, rfl, congrArg PyData.int (fmod_toNat _ L hL0), rfl⟩
abbrev s__law_pick : Stmt := topS 16
abbrev n__law_pick : List Str := ["draws", "row"]
theorem sc__law_pick : FnScope n__law_pick ["draws", "row"] (defScope s__law_pick) := ⟨rfl, rfl, rfl, by decide +kernel, rfl, by decide +kernel, by decide +kernel⟩
theorem ok__law_pick (T : Bl mg) (D : Def K mg "_law_pick" "_law_pick" s__law_pick ["draws", "row"])
    (H__law_draw : Has P w K mg base 1 "_law_draw" ["draws", "limit"] (spD K (RD1 dr eN eN))) : Has P w K mg base 2 "_law_pick" ["draws", "row"] (spD K R_pick) := by
  obtain ⟨_, _, G__law_draw, m__law_draw, k__law_draw, bd__law_draw⟩ := H__law_draw
  refine def_D D sc__law_pick (fun ds _ r h => by obtain ⟨_, _, _, (⟨_, _, e | e⟩ | ⟨_, _, _, e, _⟩), _⟩ := h <;> rw [e] <;> rfl) fun f cdv A outer s H E hr => ⟨_, (pss_one (ps_ret (pe_ix (ix_U (K := K) rfl) (pv 1) (pe_call G__law_draw (hr.mono (by omega)) (by rfl) m__law_draw k__law_draw bd__law_draw .nil pass0 (pa_cons (pv 0) (pa_cons (pe_callB (call_lenU (K := K) rfl) (by rfl) T.b_len PySem.boot_len (pa_cons (pv 1) pa_nil)) pa_nil))) (fun _ _ => rfl)))), fun avs m Post hR => ?_⟩
  obtain ⟨m, v, m', hc, rfl, rfl⟩ := hR
  rcases hc with ⟨ds, h, rfl | rfl⟩ | ⟨l, c, h, rfl, rfl⟩
  · obtain ⟨d, hd, h⟩ := bs h
    obtain ⟨x, hx, h⟩ := bs h
    cases h
    exact sw_retX (xe_op (ev_var rfl) (xe_D1 (ea := eN) (er := eN) hd rfl (ev_cb (av_cons (ev_var rfl) av_nil) ra_lenL) rfl) (rb_ixLN hx)) ⟨_, rfl, rfl, rfl⟩
  · obtain ⟨d, hd, h⟩ := bs h
    obtain ⟨x, hx, h⟩ := bs h
    cases h
    exact sw_retX (xe_op (ev_var rfl) (xe_D1 (ea := eN) (er := eN) hd rfl (ev_cb (av_cons (ev_var rfl) av_nil) ra_lenT) rfl) (rb_ixTN hx)) ⟨_, rfl, rfl, rfl⟩
  · unfold pickS at h
    split at h
    · rename_i hl
      obtain ⟨d, hd, h⟩ := bs h
      obtain ⟨x, hx, h⟩ := bs h
      cases h
      exact sw_retX (xe_op (ev_var rfl) (xe_D1 (ea := eN) (er := eN) hd rfl (ev_cb (av_cons (ev_var rfl) av_nil) (ra_lenSN hl)) rfl) (rb_ixS _ rfl hx hl)) ⟨_, rfl, rfl, rfl⟩
    · cases h
abbrev s__law_word : Stmt := topS 18
abbrev n__law_word : List Str := ["draws", "letters", "most", "way", "size", "word", "part", "k"]
theorem sc__law_word : FnScope n__law_word ["draws", "letters", "most"] (defScope s__law_word) := ⟨rfl, rfl, rfl, by decide +kernel, rfl, by decide +kernel, by decide +kernel⟩
theorem ok__law_word (T : Bl mg) (D : Def K mg "_law_word" "_law_word" s__law_word ["draws", "letters", "most"])
    (H__law_draw : Has P w K mg base 1 "_law_draw" ["draws", "limit"] (spD K (RD1 dr eN eN)))
    (H__law_pick : Has P w K mg base 2 "_law_pick" ["draws", "row"] (spD K R_pick)) : Has P w K mg base 3 "_law_word" ["draws", "letters", "most"] (spD K (RD2 f__law_word eS eN eS)) := by
  obtain ⟨_, _, G__law_draw, m__law_draw, k__law_draw, bd__law_draw⟩ := H__law_draw
  obtain ⟨_, _, G__law_pick, m__law_pick, k__law_pick, bd__law_pick⟩ := H__law_pick
  refine def_D D sc__law_word (fun ds _ r h => by obtain ⟨_, _, _, _, _, e, _⟩ := h; rw [e]; rfl) fun f cdv A outer s H E hr => ⟨_, (pss_cons (ps_set (i := 3) sc__law_word.nd rfl (Or.inl rfl) (pe_call G__law_draw (hr.mono (by omega)) (by rfl) m__law_draw k__law_draw bd__law_draw .nil pass0 (pa_cons (pv 0) (pa_cons pe_int pa_nil))))
    (pss_cons (ps_set (i := 4) sc__law_word.nd rfl (Or.inl rfl) (pe_call G__law_draw (hr.mono (by omega)) (by rfl) m__law_draw k__law_draw bd__law_draw .nil pass0 (pa_cons (pv 0) (pa_cons (pe_op (op_addU (K := K)) (pv 2) pe_int) pa_nil))))
    (pss_cons (ps_set (i := 5) sc__law_word.nd rfl (Or.inl rfl) (pe_joinK (K := K) rfl pe_str (pe_lc (own := [("k", 7)]) (g := gName 7) rfl sc__law_word.nd (pi_range1 (by rfl) T.b_range (pa_cons (pv 4) pa_nil)) (blkOk_by (N := n__law_word) (sc := defScope s__law_word) (by decide +kernel)) (fun _ _ _ _ _ => (pg_name (i := 7) sc__law_word.nd rfl (Or.inl rfl))) (fun _ _ _ _ _ => pts_nil) (fun _ _ _ _ _ => (pe_call G__law_pick (hr.mono (by omega)) (by rfl) m__law_pick k__law_pick bd__law_pick .nil pass0 (pa_cons (pv 0) (pa_cons (pv 1) pa_nil)))))))
    (pss_cons (ps_if (PW.pt (pw_and (pt_cmpR (op_eqU (K := K) rfl hr.units) (pv 3) pe_int (nomark _)) (pw_and1 (pt_cmpR (op_gtU (K := K) rfl hr.units) (pv 4) pe_int (nomark _)))))
      (pss_cons (ps_set (i := 6) sc__law_word.nd rfl (Or.inl rfl) (pe_slice (sl_U (K := K) rfl) (pv 5) po_none (po_some (pe_op (op_addU (K := K)) pe_int (pe_call G__law_draw (hr.mono (by omega)) (by rfl) m__law_draw k__law_draw bd__law_draw .nil pass0 (pa_cons (pv 0) (pa_cons (pe_op (op_addU (K := K)) (pe_op op_fdivN (pv 4) pe_int) pe_int) pa_nil)))))))
      (pss_one (ps_set (i := 5) sc__law_word.nd rfl (Or.inl rfl) (pe_slice (sl_U (K := K) rfl) (pe_op op_mulU (pv 6) (pv 4)) po_none (po_some (pv 4))))))
      (pss_one (ps_if (pt_cmpR (op_eqU (K := K) rfl hr.units) (pv 3) pe_int (nomark _))
        (pss_one (ps_set (i := 5) sc__law_word.nd rfl (Or.inl rfl) (pe_slice (sl_U (K := K) rfl) (pe_op (op_addU (K := K)) (pe_op (op_addU (K := K)) (pe_slice (sl_U (K := K) rfl) (pv 5) po_none (po_some (pe_op op_fdivN (pv 4) pe_int))) (pe_revS (pe_slice (sl_U (K := K) rfl) (pv 5) po_none (po_some (pe_op op_fdivN (pv 4) pe_int))))) (pv 5)) po_none (po_some (pv 4)))))
        (pss_one (ps_if (PW.pt (pw_and (pt_cmpR (op_eqU (K := K) rfl hr.units) (pv 3) pe_int (nomark _)) (pw_and1 (pt_cmpR (op_gtU (K := K) rfl hr.units) (pv 4) pe_int (nomark _)))))
          (pss_cons (ps_set (i := 6) sc__law_word.nd rfl (Or.inl rfl) (pe_slice (sl_U (K := K) rfl) (pv 5) po_none (po_some (pe_op (op_addU (K := K)) (pe_op op_fdivN (pv 4) pe_int) pe_int))))
          (pss_one (ps_set (i := 5) sc__law_word.nd rfl (Or.inl rfl) (pe_slice (sl_U (K := K) rfl) (pe_op (op_addU (K := K)) (pe_op (op_addU (K := K)) (pe_op (op_addU (K := K)) (pv 6) (pe_slice (sl_U (K := K) rfl) (pv 5) (po_some (pe_op (op_addU (K := K)) (pe_op op_fdivN (pv 4) pe_int) pe_int)) (po_some (pe_op (op_addU (K := K)) (pe_op op_fdivN (pv 4) pe_int) pe_int)))) (pv 6)) (pv 6)) po_none (po_some (pv 4))))))
          pss_nil)))))
    (pss_one (ps_ret (pv 5))))))), fun avs mo Post hR => ?_⟩
  obtain ⟨draws, letters, most, v_, h, rfl, rfl, rfl⟩ := hR
  unfold f__law_word at h
  show SW K _ ⟨[some (.o 0), some (.d (eS letters)), some (.d (eN most)), none, none, none, none, none], [drM draws]⟩ _
  replace h := bs h; obtain ⟨d1, hd1, h⟩ := h
  refine sw_seq (sw_asgX (xe_D1 (ea := eN) (er := eN) hd1 rfl (ev_nat 6) rfl) ?_)
  show SW K _ ⟨[some (.o 0), some (.d (eS letters)), some (.d (eN most)), some (.d (eN d1.1)), none, none, none, none], [drM d1.2]⟩ _
  replace h := bs h; obtain ⟨d2, hd2, h⟩ := h
  refine sw_seq (sw_asgX (xe_D1 (ea := eN) (er := eN) hd2 rfl (ev_op (ev_var rfl) (ev_nat 1) rb_addN) rfl) ?_)
  show SW K _ ⟨[some (.o 0), some (.d (eS letters)), some (.d (eN most)), some (.d (eN d1.1)), some (.d (eN d2.1)), none, none, none], [drM d2.2]⟩ _
  replace h := bs h; obtain ⟨r3, hr3, h⟩ := h
  replace h := bs h; obtain ⟨ys7, hys7, h⟩ := h
  replace h := bs h; obtain ⟨v8, hv8, h⟩ := h
  refine sw_seq (sw_asgX (xe_joinCP (ev_txt (l := []) (by decide +kernel)) (xe_mapS (js := [7]) (ea := eN) (eb := eC) (fun m => [drM m]) (ei_P (av_cons (ev_var rfl) av_nil) hr3) (fun _ h => h) hys7 (fun x4 m5 p_ h => by refine gw_name ?_; replace h := bs h; obtain ⟨d6, hd6, h⟩ := h; obtain rfl := Option.some.inj h; exact (xe_is (xe_pickS hd6 rfl (ev_var rfl) rfl) rfl))) hv8) ?_)
  show SW K _ ⟨[some (.o 0), some (.d (eS letters)), some (.d (eN most)), some (.d (eN d1.1)), some (.d (eN d2.1)), some (.d (eS v8)), none, none], [drM ys7.2]⟩ _
  replace h := bs h; obtain ⟨s10, hs10, h⟩ := h
  refine sw_joinS (fun (s10 : (List Nat) × DS) => (⟨[some (.o 0), some (.d (eS letters)), some (.d (eN most)), some (.d (eN d1.1)), some (.d (eN d2.1)), some (.d (eS s10.1)), none, none], [drM s10.2]⟩ : AS)) s10 ?_ ?_
  · clear h
    refine sw_ifE (tv_and (tv_test (ev_op (ev_var rfl) (ev_nat 0) rb_eqN)) (fun _ => (tv_test (ev_op (ev_var rfl) (ev_nat 1) rb_gtN)))) (fun b9 => ?_) (fun b9 => ?_)
    · have h := ifT hs10 b9
      show SW K _ ⟨[some (.o 0), some (.d (eS letters)), some (.d (eN most)), some (.d (eN d1.1)), some (.d (eN d2.1)), some (.d (eS v8)), none, none], [drM ys7.2]⟩ _
      replace h := bs h; obtain ⟨d11, hd11, h⟩ := h
      replace h := bs h; obtain ⟨v12, hv12, h⟩ := h
      refine sw_seq (sw_asgX (xe_slX (ev_var rfl) xo_none (xo_some (xe_op (ev_nat 1) (xe_D1 (ea := eN) (er := eN) hd11 rfl (ev_op (ev_op (ev_var rfl) (ev_nat 2) (rb_fdivNN (by decide))) (ev_nat 1) rb_addN) rfl) rb_addN)) (rsl_toP hv12)) ?_)
      show SW K _ ⟨[some (.o 0), some (.d (eS letters)), some (.d (eN most)), some (.d (eN d1.1)), some (.d (eN d2.1)), some (.d (eS v8)), some (.d (eS v12)), none], [drM d11.2]⟩ _
      replace h := bs h; obtain ⟨v13, hv13, h⟩ := h
      replace h := bs h; obtain ⟨v14, hv14, h⟩ := h
      refine sw_last (sw_asgE (ev_sl (ev_op (ev_var rfl) (ev_var rfl) (rb_mulSP hv13)) ov_none (ov_some (ev_var rfl)) (rsl_toP hv14)) ?_)
      show SW K _ ⟨[some (.o 0), some (.d (eS letters)), some (.d (eN most)), some (.d (eN d1.1)), some (.d (eN d2.1)), some (.d (eS v14)), some (.d (eS v12)), none], [drM d11.2]⟩ _
      obtain rfl := Option.some.inj h
      exact sw_next ⟨(.same (.same (.same (.same (.same (.same (.skip (.skip .nil)))))))), rfl⟩
    · have h := ifF hs10 b9
      show SW K _ ⟨[some (.o 0), some (.d (eS letters)), some (.d (eN most)), some (.d (eN d1.1)), some (.d (eN d2.1)), some (.d (eS v8)), none, none], [drM ys7.2]⟩ _
      refine sw_last (sw_ifE (tv_test (ev_op (ev_var rfl) (ev_nat 1) rb_eqN)) (fun b15 => ?_) (fun b15 => ?_))
      · replace h := ifT h b15
        show SW K _ ⟨[some (.o 0), some (.d (eS letters)), some (.d (eN most)), some (.d (eN d1.1)), some (.d (eN d2.1)), some (.d (eS v8)), none, none], [drM ys7.2]⟩ _
        replace h := bs h; obtain ⟨v16, hv16, h⟩ := h
        replace h := bs h; obtain ⟨v17, hv17, h⟩ := h
        replace h := bs h; obtain ⟨v18, hv18, h⟩ := h
        replace h := bs h; obtain ⟨v19, hv19, h⟩ := h
        replace h := bs h; obtain ⟨v20, hv20, h⟩ := h
        replace h := bs h; obtain ⟨v21, hv21, h⟩ := h
        refine sw_last (sw_asgE (ev_sl (ev_op (ev_op (ev_sl (ev_var rfl) ov_none (ov_some (ev_op (ev_var rfl) (ev_nat 2) (rb_fdivNN (by decide)))) (rsl_toP hv16)) (ev_revP (ev_sl (ev_var rfl) ov_none (ov_some (ev_op (ev_var rfl) (ev_nat 2) (rb_fdivNN (by decide)))) (rsl_toP hv17)) hv18) (rb_addSP hv19)) (ev_var rfl) (rb_addSP hv20)) ov_none (ov_some (ev_var rfl)) (rsl_toP hv21)) ?_)
        show SW K _ ⟨[some (.o 0), some (.d (eS letters)), some (.d (eN most)), some (.d (eN d1.1)), some (.d (eN d2.1)), some (.d (eS v21)), none, none], [drM ys7.2]⟩ _
        refine sw_next ?_
        obtain rfl := Option.some.inj h
        exact sw_next ⟨(.same (.same (.same (.same (.same (.same (.skip (.skip .nil)))))))), rfl⟩
      · replace h := ifF h b15
        show SW K _ ⟨[some (.o 0), some (.d (eS letters)), some (.d (eN most)), some (.d (eN d1.1)), some (.d (eN d2.1)), some (.d (eS v8)), none, none], [drM ys7.2]⟩ _
        refine sw_last (sw_ifE (tv_and (tv_test (ev_op (ev_var rfl) (ev_nat 2) rb_eqN)) (fun _ => (tv_test (ev_op (ev_var rfl) (ev_nat 3) rb_gtN)))) (fun b22 => ?_) (fun b22 => ?_))
        · replace h := ifT h b22
          show SW K _ ⟨[some (.o 0), some (.d (eS letters)), some (.d (eN most)), some (.d (eN d1.1)), some (.d (eN d2.1)), some (.d (eS v8)), none, none], [drM ys7.2]⟩ _
          replace h := bs h; obtain ⟨v23, hv23, h⟩ := h
          refine sw_seq (sw_asgE (ev_sl (ev_var rfl) ov_none (ov_some (ev_op (ev_op (ev_var rfl) (ev_nat 3) (rb_fdivNN (by decide))) (ev_nat 1) rb_addN)) (rsl_toP hv23)) ?_)
          show SW K _ ⟨[some (.o 0), some (.d (eS letters)), some (.d (eN most)), some (.d (eN d1.1)), some (.d (eN d2.1)), some (.d (eS v8)), some (.d (eS v23)), none], [drM ys7.2]⟩ _
          replace h := bs h; obtain ⟨v24, hv24, h⟩ := h
          replace h := bs h; obtain ⟨v25, hv25, h⟩ := h
          replace h := bs h; obtain ⟨v26, hv26, h⟩ := h
          replace h := bs h; obtain ⟨v27, hv27, h⟩ := h
          replace h := bs h; obtain ⟨v28, hv28, h⟩ := h
          refine sw_last (sw_asgE (ev_sl (ev_op (ev_op (ev_op (ev_var rfl) (ev_sl (ev_var rfl) (ov_some (ev_op (ev_op (ev_var rfl) (ev_nat 3) (rb_fdivNN (by decide))) (ev_nat 1) rb_addN)) (ov_some (ev_op (ev_op (ev_var rfl) (ev_nat 3) (rb_fdivNN (by decide))) (ev_nat 2) rb_addN)) (rsl_midP hv24)) (rb_addSP hv25)) (ev_var rfl) (rb_addSP hv26)) (ev_var rfl) (rb_addSP hv27)) ov_none (ov_some (ev_var rfl)) (rsl_toP hv28)) ?_)
          show SW K _ ⟨[some (.o 0), some (.d (eS letters)), some (.d (eN most)), some (.d (eN d1.1)), some (.d (eN d2.1)), some (.d (eS v28)), some (.d (eS v23)), none], [drM ys7.2]⟩ _
          refine sw_next ?_
          refine sw_next ?_
          obtain rfl := Option.some.inj h
          exact sw_next ⟨(.same (.same (.same (.same (.same (.same (.skip (.skip .nil)))))))), rfl⟩
        · replace h := ifF h b22
          show SW K _ ⟨[some (.o 0), some (.d (eS letters)), some (.d (eN most)), some (.d (eN d1.1)), some (.d (eN d2.1)), some (.d (eS v8)), none, none], [drM ys7.2]⟩ _
          refine sw_next ?_
          refine sw_next ?_
          obtain rfl := Option.some.inj h
          exact sw_next ⟨(.same (.same (.same (.same (.same (.same (.skip (.skip .nil)))))))), rfl⟩
  show SW K _ ⟨[some (.o 0), some (.d (eS letters)), some (.d (eN most)), some (.d (eN d1.1)), some (.d (eN d2.1)), some (.d (eS s10.1)), none, none], [drM s10.2]⟩ _
  obtain rfl := Option.some.inj h
  exact sw_retE (ev_var rfl) ⟨_, rfl, rfl, rfl⟩
abbrev s__law_letters : Stmt := topS 19
abbrev n__law_letters : List Str := ["draws"]
theorem sc__law_letters : FnScope n__law_letters ["draws"] (defScope s__law_letters) := ⟨rfl, rfl, rfl, by decide +kernel, rfl, by decide +kernel, by decide +kernel⟩
theorem ok__law_letters (T : Bl mg) (D : Def K mg "_law_letters" "_law_letters" s__law_letters ["draws"])
    (H__law_pick : Has P w K mg base 2 "_law_pick" ["draws", "row"] (spD K R_pick)) : Has P w K mg base 3 "_law_letters" ["draws"] (spD K (RD0 f__law_letters eS)) := by
  obtain ⟨_, _, G__law_pick, m__law_pick, k__law_pick, bd__law_pick⟩ := H__law_pick
  refine def_D D sc__law_letters (fun ds _ r h => by obtain ⟨_, _, _, e, _⟩ := h; rw [e]; rfl) fun f cdv A outer s H E hr => ⟨_, (pss_one (ps_ret (pe_call G__law_pick (hr.mono (by omega)) (by rfl) m__law_pick k__law_pick bd__law_pick .nil pass0 (pa_cons (pv 0) (pa_cons (pe_lst (pa_cons pe_str (pa_cons pe_str (pa_cons pe_str (pa_cons pe_str (pa_cons pe_str (pa_cons pe_str pa_nil))))))) pa_nil))))), fun avs mo Post hR => ?_⟩
  obtain ⟨draws, v_, h, rfl, rfl, rfl⟩ := hR
  unfold f__law_letters at h
  show SW K _ ⟨[some (.o 0)], [drM draws]⟩ _
  replace h := bs h; obtain ⟨d1, hd1, h⟩ := h
  obtain rfl := Option.some.inj h
  exact sw_retX (xe_pickL (e := eS) hd1 rfl (xe_lstE (e := eS) (l := [([97, 98] : List Nat), ([97, 98] : List Nat), ([97, 98, 99] : List Nat), [97], ([97, 98, 99, 100] : List Nat), ([98, 122] : List Nat)]) (av_cons (ev_txt (l := [97, 98]) (by decide +kernel)) (av_cons (ev_txt (l := [97, 98]) (by decide +kernel)) (av_cons (ev_txt (l := [97, 98, 99]) (by decide +kernel)) (av_cons (evd (d' := eS [97]) (ev_txt (l := [97]) (by decide +kernel)) rfl) (av_cons (ev_txt (l := [97, 98, 99, 100]) (by decide +kernel)) (av_cons (ev_txt (l := [98, 122]) (by decide +kernel)) av_nil))))))) rfl) ⟨_, rfl, rfl, rfl⟩
abbrev s__law_same : Stmt := topS 17
abbrev n__law_same : List Str := ["actual", "expected", "k"]
theorem sc__law_same : FnScope n__law_same ["actual", "expected"] (defScope s__law_same) := ⟨rfl, rfl, rfl, by decide +kernel, rfl, by decide +kernel, by decide +kernel⟩
theorem ok__law_same (T : Bl mg) (D : Def K mg "_law_same" "_law_same" s__law_same ["actual", "expected"]) : ∀ n : Nat, Has P w K mg base (n + 1) "_law_same" ["actual", "expected"] (spP K (R_same n))
  | 0 => by
    obtain ⟨f, fd, F, m, b⟩ := D
    exact ⟨f, fd, F.ok sc__law_same (fun vs H Q E h => by obtain ⟨_, _, _, _, _, _, ⟨_, h, _⟩, _⟩ := h; cases h) (fun cdv A outer s H vs Q E hr h => by obtain ⟨_, _, _, _, _, _, ⟨_, h, _⟩, _⟩ := h; cases h), m, F.kp, b⟩
  | n + 1 => by
    obtain ⟨_, _, G__law_same, m__law_same, k__law_same, bd__law_same⟩ := ok__law_same T D n
    refine def_P D sc__law_same (fun ds r ⟨_, _, e, _⟩ => by rw [e]; rfl) fun f cdv A outer s H E hr => ⟨_, (pss_cons (ps_if (PW.pt (pw_or (pt_val (pe_callB (call_isiU (K := K) rfl) (by rfl) T.b_isinstance (by decide +kernel) (pa_cons (pv 1) (pa_cons (pe_bltn (v := .ty "tuple") (by rfl) T.b_tuple (by decide +kernel) rfl) pa_nil)))) (pw_or1 (pt_val (pe_callB (call_isiU (K := K) rfl) (by rfl) T.b_isinstance (by decide +kernel) (pa_cons (pv 1) (pa_cons (pe_bltn (v := .ty "list") (by rfl) T.b_list (by decide +kernel) rfl) pa_nil)))))))
      (pss_cons (ps_if (PW.pt (pw_or (pt_cmpR (op_neU (K := K) rfl hr.units) (pe_callB (call_isiU (K := K) rfl) (by rfl) T.b_isinstance (by decide +kernel) (pa_cons (pv 0) (pa_cons (pe_bltn (v := .ty "tuple") (by rfl) T.b_tuple (by decide +kernel) rfl) pa_nil))) (pe_callB (call_isiU (K := K) rfl) (by rfl) T.b_isinstance (by decide +kernel) (pa_cons (pv 1) (pa_cons (pe_bltn (v := .ty "tuple") (by rfl) T.b_tuple (by decide +kernel) rfl) pa_nil))) (nomark _)) (pw_or1 (pt_cmpR (op_neU (K := K) rfl hr.units) (pe_callB (call_isiU (K := K) rfl) (by rfl) T.b_isinstance (by decide +kernel) (pa_cons (pv 0) (pa_cons (pe_bltn (v := .ty "list") (by rfl) T.b_list (by decide +kernel) rfl) pa_nil))) (pe_callB (call_isiU (K := K) rfl) (by rfl) T.b_isinstance (by decide +kernel) (pa_cons (pv 1) (pa_cons (pe_bltn (v := .ty "list") (by rfl) T.b_list (by decide +kernel) rfl) pa_nil))) (nomark _)))))
        (pss_one (ps_ret pe_bl))
        pss_nil)
      (pss_cons (ps_if (pt_cmpR (op_neU (K := K) rfl hr.units) (pe_callB (call_lenU (K := K) rfl) (by rfl) T.b_len PySem.boot_len (pa_cons (pv 0) pa_nil)) (pe_callB (call_lenU (K := K) rfl) (by rfl) T.b_len PySem.boot_len (pa_cons (pv 1) pa_nil)) (nomark _))
        (pss_one (ps_ret pe_bl))
        pss_nil)
      (pss_one (ps_ret (pe_cmpR (op_eqU (K := K) rfl hr.units) (pe_callB (call_lenU (K := K) rfl) (by rfl) T.b_len PySem.boot_len (pa_cons (pe_lc (own := [("k", 2)]) (g := gName 2) rfl sc__law_same.nd (pi_range1 (by rfl) T.b_range (pa_cons (pe_callB (call_lenU (K := K) rfl) (by rfl) T.b_len PySem.boot_len (pa_cons (pv 1) pa_nil)) pa_nil)) (blkOk_by (N := n__law_same) (sc := defScope s__law_same) (by decide +kernel)) (fun _ _ _ _ _ => (pg_name (i := 2) sc__law_same.nd rfl (Or.inl rfl))) (fun _ _ _ _ _ => (pts_one (pt_not (pt_val (pe_call G__law_same (hr.mono (by omega)) (by rfl) m__law_same k__law_same bd__law_same .nil pass0 (pa_cons (pe_ix (ix_U (K := K) rfl) (pv 0) (pv 2) (fun _ _ => rfl)) (pa_cons (pe_ix (ix_U (K := K) rfl) (pv 1) (pv 2) (fun _ _ => rfl)) pa_nil))))))) (fun _ _ _ _ _ => (pv 2))) pa_nil)) pe_int (nomark _))))))
      pss_nil)
    (pss_cons (ps_if (PW.pt (pw_or (pt_val (pe_callB (call_isiU (K := K) rfl) (by rfl) T.b_isinstance (by decide +kernel) (pa_cons (pv 1) (pa_cons (pe_bltn (v := .ty "bool") (by rfl) T.b_bool (by decide +kernel) rfl) pa_nil)))) (pw_or1 (pt_val (pe_callB (call_isiU (K := K) rfl) (by rfl) T.b_isinstance (by decide +kernel) (pa_cons (pv 0) (pa_cons (pe_bltn (v := .ty "bool") (by rfl) T.b_bool (by decide +kernel) rfl) pa_nil)))))))
      (pss_one (ps_ret (pe_and (pe_callB (call_isiU (K := K) rfl) (by rfl) T.b_isinstance (by decide +kernel) (pa_cons (pv 1) (pa_cons (pe_bltn (v := .ty "bool") (by rfl) T.b_bool (by decide +kernel) rfl) pa_nil))) (pe_and (pe_callB (call_isiU (K := K) rfl) (by rfl) T.b_isinstance (by decide +kernel) (pa_cons (pv 0) (pa_cons (pe_bltn (v := .ty "bool") (by rfl) T.b_bool (by decide +kernel) rfl) pa_nil))) (pe_one (pe_cmpR (op_eqU (K := K) rfl hr.units) (pv 0) (pv 1) (nomark _)))))))
      pss_nil)
    (pss_cons (ps_if (PW.pt (pw_or (pt_cmpR op_isN (pv 1) pe_non (nomark _)) (pw_or1 (pt_cmpR op_isN (pv 0) pe_non (nomark _)))))
      (pss_one (ps_ret (pe_and (pe_cmpR op_isN (pv 1) pe_non (nomark _)) (pe_one (pe_cmpR op_isN (pv 0) pe_non (nomark _))))))
      pss_nil)
    (pss_cons (ps_if (PW.pt (pw_or (pt_val (pe_callB (call_isiU (K := K) rfl) (by rfl) T.b_isinstance (by decide +kernel) (pa_cons (pv 1) (pa_cons (pe_bltn (v := .ty "str") (by rfl) T.b_str (by decide +kernel) rfl) pa_nil)))) (pw_or1 (pt_val (pe_callB (call_isiU (K := K) rfl) (by rfl) T.b_isinstance (by decide +kernel) (pa_cons (pv 0) (pa_cons (pe_bltn (v := .ty "str") (by rfl) T.b_str (by decide +kernel) rfl) pa_nil)))))))
      (pss_one (ps_ret (pe_and (pe_callB (call_isiU (K := K) rfl) (by rfl) T.b_isinstance (by decide +kernel) (pa_cons (pv 1) (pa_cons (pe_bltn (v := .ty "str") (by rfl) T.b_str (by decide +kernel) rfl) pa_nil))) (pe_and (pe_callB (call_isiU (K := K) rfl) (by rfl) T.b_isinstance (by decide +kernel) (pa_cons (pv 0) (pa_cons (pe_bltn (v := .ty "str") (by rfl) T.b_str (by decide +kernel) rfl) pa_nil))) (pe_one (pe_cmpR (op_eqU (K := K) rfl hr.units) (pv 0) (pv 1) (nomark _)))))))
      pss_nil)
    (pss_one (ps_ret (pe_and (pe_callB (call_isiU (K := K) rfl) (by rfl) T.b_isinstance (by decide +kernel) (pa_cons (pv 0) (pa_cons (pe_bltn (v := .ty "int") (by rfl) T.b_int (by decide +kernel) rfl) pa_nil))) (pe_and (pe_callB (call_isiU (K := K) rfl) (by rfl) T.b_isinstance (by decide +kernel) (pa_cons (pv 1) (pa_cons (pe_bltn (v := .ty "int") (by rfl) T.b_int (by decide +kernel) rfl) pa_nil))) (pe_one (pe_cmpR (op_eqU (K := K) rfl hr.units) (pv 0) (pv 1) (nomark _))))))))))), fun ds r hR => ?_⟩
    obtain ⟨d, hf, rfl, rfl⟩ := hR
    have isi : ∀ {S : AS} {i : Nat} {d : PyData} {x : String} {b : Bool}, S.sl[i]? = some (some (.d d)) → kitB (tyN d) x = some b → EV K (tCB (rIsi K) (tCons (tVar i) (tCons (tC (.ty x)) tNil))) S (dB b) := fun h1 h2 => ev_isi (ev_var h1) h2
    cases d with
    | none =>
      refine sw_seq (sw_ifF (tv_or (c := false) (tv_B (isi rfl (by rfl))) fun _ => tv_B (isi rfl (by rfl))) rfl (sw_next ?_))
      refine sw_seq (sw_ifF (tv_or (c := false) (tv_B (isi rfl (by rfl))) fun _ => tv_B (isi rfl (by rfl))) rfl (sw_next ?_))
      exact sw_seq (sw_ifT (tv_or (b := true) (c := true) (tv_test (ev_op (ev_var rfl) ev_non rb_isN)) fun h => by cases h) rfl (sw_retE (ev_and (b := true) (c := true) (ev_op (ev_var rfl) ev_non rb_isN) fun _ => ev_op (ev_var rfl) ev_non rb_isN) rfl))
    | bool b =>
      refine sw_seq (sw_ifF (tv_or (c := false) (tv_B (isi rfl (by rfl))) fun _ => tv_B (isi rfl (by rfl))) rfl (sw_next ?_))
      exact sw_seq (sw_ifT (tv_or (b := true) (c := true) (tv_B (isi rfl (by rfl))) fun h => by cases h) rfl (sw_retE (ev_and (b := true) (isi rfl (by rfl)) fun _ => ev_and (b := true) (isi rfl (by rfl)) fun _ => ev_op (ev_var rfl) (ev_var rfl) rb_eqB) (by simp)))
    | int i =>
      refine sw_seq (sw_ifF (tv_or (c := false) (tv_B (isi rfl (by rfl))) fun _ => tv_B (isi rfl (by rfl))) rfl (sw_next ?_))
      refine sw_seq (sw_ifF (tv_or (c := false) (tv_B (isi rfl (by rfl))) fun _ => tv_B (isi rfl (by rfl))) rfl (sw_next ?_))
      refine sw_seq (sw_ifF (tv_or (b := false) (c := false) (tv_test (ev_op (ev_var rfl) ev_non rb_isN)) fun _ => tv_test (ev_op (ev_var rfl) ev_non rb_isN)) rfl (sw_next ?_))
      refine sw_seq (sw_ifF (tv_or (c := false) (tv_B (isi rfl (by rfl))) fun _ => tv_B (isi rfl (by rfl))) rfl (sw_next ?_))
      exact sw_retE (ev_and (b := true) (isi rfl (by rfl)) fun _ => ev_and (b := true) (isi rfl (by rfl)) fun _ => ev_op (ev_var rfl) (ev_var rfl) rb_eqI) (by simp)
    | str z =>
      obtain ⟨l, rfl⟩ : ∃ l : List Nat, z = ⟨l.toArray⟩ := ⟨_, str_of z⟩
      refine sw_seq (sw_ifF (tv_or (c := false) (tv_B (isi rfl (by rfl))) fun _ => tv_B (isi rfl (by rfl))) rfl (sw_next ?_))
      refine sw_seq (sw_ifF (tv_or (c := false) (tv_B (isi rfl (by rfl))) fun _ => tv_B (isi rfl (by rfl))) rfl (sw_next ?_))
      refine sw_seq (sw_ifF (tv_or (b := false) (c := false) (tv_test (ev_op (ev_var rfl) ev_non rb_isN)) fun _ => tv_test (ev_op (ev_var rfl) ev_non rb_isN)) rfl (sw_next ?_))
      exact sw_seq (sw_ifT (tv_or (b := true) (c := true) (tv_B (isi rfl (by rfl))) fun h => by cases h) rfl (sw_retE (ev_and (b := true) (isi rfl (by rfl)) fun _ => ev_and (b := true) (isi rfl (by rfl)) fun _ => ev_op (ev_var rfl) (ev_var rfl) rb_eqS) (by simp)))
    | list xs =>
      refine sw_seq (sw_ifT (tv_or (b := false) (c := true) (tv_B (isi rfl (by rfl))) fun _ => tv_B (isi rfl (by rfl))) rfl ?_)
      refine sw_seq (sw_ifF (tv_or (tv_test (ev_op (isi rfl (by rfl)) (isi rfl (by rfl)) (rb_neB (i := false) (j := false)))) fun _ => tv_test (ev_op (isi rfl (by rfl)) (isi rfl (by rfl)) (rb_neB (i := true) (j := true)))) rfl (sw_next ?_))
      refine sw_seq (sw_ifF (tv_test (ev_op (ev_cb (av_cons (ev_var rfl) av_nil) ra_lenL) (ev_cb (av_cons (ev_var rfl) av_nil) ra_lenL) rb_neI)) (by simp) (sw_next ?_))
      refine sw_retE (ev_op (ev_cb (av_cons (EV.is (a' := dL []) (ev_lc (js := [2]) (fun _ => false) (fun i => pn i) (ei_rngN (av_cons (ev_cb (av_cons (ev_var rfl) av_nil) ra_lenL) av_nil) (of_decide_eq_true (Bool.and_eq_true_iff.mp hf).1)) (by simp; exact of_decide_eq_true (Bool.and_eq_true_iff.mp hf).1) (by simp) fun i d hd => ?_) (by simp [gath])) av_nil) ra_lenL) (ev_nat 0) rb_eqI) rfl
      obtain ⟨hi, rfl⟩ := rngN_at hd
      have hg := List.getElem?_eq_getElem hi
      exact gw_name ⟨rfl, tv_not (b := true) (tv_B (ev_call (ds := [xs[i], xs[i]]) (av_cons (ev_op (ev_var rfl) (ev_var rfl) (rb_ixLN hg)) (av_cons (ev_op (ev_var rfl) (ev_var rfl) (rb_ixLN hg)) av_nil)) ⟨xs[i], List.all_eq_true.mp (Bool.and_eq_true_iff.mp hf).2 _ (List.getElem_mem hi), rfl, rfl⟩)), fun h => by cases h⟩
    | tuple xs =>
      refine sw_seq (sw_ifT (tv_or (b := true) (c := true) (tv_B (isi rfl (by rfl))) fun h => by cases h) rfl ?_)
      refine sw_seq (sw_ifF (tv_or (tv_test (ev_op (isi rfl (by rfl)) (isi rfl (by rfl)) (rb_neB (i := true) (j := true)))) fun _ => tv_test (ev_op (isi rfl (by rfl)) (isi rfl (by rfl)) (rb_neB (i := false) (j := false)))) rfl (sw_next ?_))
      refine sw_seq (sw_ifF (tv_test (ev_op (ev_cb (av_cons (ev_var rfl) av_nil) ra_lenT) (ev_cb (av_cons (ev_var rfl) av_nil) ra_lenT) rb_neI)) (by simp) (sw_next ?_))
      refine sw_retE (ev_op (ev_cb (av_cons (EV.is (a' := dL []) (ev_lc (js := [2]) (fun _ => false) (fun i => pn i) (ei_rngN (av_cons (ev_cb (av_cons (ev_var rfl) av_nil) ra_lenT) av_nil) (of_decide_eq_true (Bool.and_eq_true_iff.mp hf).1)) (by simp; exact of_decide_eq_true (Bool.and_eq_true_iff.mp hf).1) (by simp) fun i d hd => ?_) (by simp [gath])) av_nil) ra_lenL) (ev_nat 0) rb_eqI) rfl
      obtain ⟨hi, rfl⟩ := rngN_at hd
      have hg := List.getElem?_eq_getElem hi
      exact gw_name ⟨rfl, tv_not (b := true) (tv_B (ev_call (ds := [xs[i], xs[i]]) (av_cons (ev_op (ev_var rfl) (ev_var rfl) (rb_ixTN hg)) (av_cons (ev_op (ev_var rfl) (ev_var rfl) (rb_ixTN hg)) av_nil)) ⟨xs[i], List.all_eq_true.mp (Bool.and_eq_true_iff.mp hf).2 _ (List.getElem_mem hi), rfl, rfl⟩)), fun h => by cases h⟩
    | dict kvs => cases hf
end
end LW
set_option Elab.async false
set_option pp.maxSteps 2000
set_option linter.all false
set_option maxRecDepth 100000
set_option maxHeartbeats 4000000
namespace LW
open PySem PySem.Spec PyProof.Rows L2 D2
section
variable {P : Program} {w : World} {K : PySem.W.Frag} {mg : Str → Option Value} {base : Heap}
abbrev s_border_table : Stmt := topS 6
abbrev n_border_table : List Str := ["word", "found", "k", "letter", "size"]
theorem sc_border_table : FnScope n_border_table ["word"] (defScope s_border_table) := ⟨rfl, rfl, rfl, by decide +kernel, rfl, by decide +kernel, by decide +kernel⟩
theorem ok_border_table (T : Bl mg) (D : Def K mg "border_table" "border_table" s_border_table ["word"]) : Has P w K mg base 1 "border_table" ["word"] (spP K (RP1 f_border_table eS (eT eN))) := by
  refine def_P D sc_border_table (fun ds r h => by obtain ⟨_, _, _, e, _⟩ := h; rw [e]; rfl) fun f cdv A outer s H E hr => ⟨_, (pss_cons (ps_set (i := 1) sc_border_table.nd rfl (Or.inl rfl) (pe_lst pa_nil))
    (pss_cons (ps_for PassesOwn.never rfl (pi_enumS (by rfl) T.b_enumerate (pa_cons (pv 0) pa_nil)) (pg_tup rfl (pgs_cons (pg_name (i := 2) sc_border_table.nd rfl (Or.inl rfl)) (pgs_cons (pg_name (i := 3) sc_border_table.nd rfl (Or.inl rfl)) pgs_nil)))
      (pss_cons (ps_set (i := 4) sc_border_table.nd rfl (Or.inl rfl) (pe_ifExp (pt_cmpR (op_gtU (K := K) rfl hr.units) (pv 2) pe_int (nomark _)) (pe_ix (ix_U (K := K) rfl) (pv 1) (pe_un un_neg pe_int) (fun _ _ => rfl)) pe_int))
      (pss_cons (ps_while PassesOwn.never (PW.pt (pw_and (pt_cmpR (op_gtU (K := K) rfl hr.units) (pv 2) pe_int (nomark _)) (pw_and (pt_cmpR (op_gtU (K := K) rfl hr.units) (pv 4) pe_int (nomark _)) (pw_and1 (pt_cmpR (op_neU (K := K) rfl hr.units) (pe_ix (ix_U (K := K) rfl) (pv 0) (pv 4) (fun _ _ => rfl)) (pv 3) (nomark _))))))
        (pss_one (ps_set (i := 4) sc_border_table.nd rfl (Or.inl rfl) (pe_ix (ix_U (K := K) rfl) (pv 1) (pe_op op_sub (pv 4) pe_int) (fun _ _ => rfl)))))
      (pss_one (ps_expr (pe_bm PySem.F.plainAttrs_list PySem.F.slot_list_append PySem.F.type_list_append mt_append (pv 1) (pa_cons (pe_ifExp (PW.pt (pw_and (pt_cmpR (op_gtU (K := K) rfl hr.units) (pv 2) pe_int (nomark _)) (pw_and1 (pt_cmpR (op_eqU (K := K) rfl hr.units) (pe_ix (ix_U (K := K) rfl) (pv 0) (pv 4) (fun _ _ => rfl)) (pv 3) (nomark _))))) (pe_op (op_addU (K := K)) (pv 4) pe_int) pe_int) pa_nil)))))))
    (pss_one (ps_ret (pe_callTy (call_tupV (K := K) rfl rfl) (by rfl) T.b_tuple (by decide +kernel) (pa_cons (pv 1) pa_nil)))))), fun ds r hR => ?_⟩
  obtain ⟨word, v_, h, rfl, rfl⟩ := hR
  unfold f_border_table at h
  show SW K _ ⟨[some (.d (eS word)), none, none, none, none], []⟩ _
  refine sw_seq (sw_asgNE (nw_lstE (ea := eN) (l := ([] : List Nat)) av_nil (by first | decide | simp)) ?_)
  show SW K _ ⟨[some (.d (eS word)), some (.o 0), none, none, none], [.l (List.map eN ([] : List Nat))]⟩ _
  replace h := bs h; obtain ⟨s17, hs17, h⟩ := h
  refine sw_seq (sw_forS (js := [2, 3]) (ea := (eP eN eC)) (fun (s1 : (List Nat)) => (⟨[some (.d (eS word)), some (.o 0), none, none, none], [.l (List.map eN s1)]⟩ : AS)) (ei_enS (av_cons (ev_var rfl) av_nil)) ⟨(.same (.same (.skip (.skip (.skip .nil))))), rfl⟩ hs17 (fun x2 s1 s_ h => ?_) ?_)
  · refine gw_tup2 ?_
    show SW K _ ⟨[some (.d (eS word)), some (.o 0), some (.d (eN x2.1)), some (.d (eC x2.2)), none], [.l (List.map eN s1)]⟩ _
    unfold f_border_table_b3 at h
    replace h := bs h; obtain ⟨v4, hv4, h⟩ := h
    refine sw_seq (sw_asgE (ev_ifO (ea := eN) (tv_test (ev_op (ev_var rfl) (ev_nat 0) rb_gtN)) hv4 (fun v h => by replace h := bs h; obtain ⟨v3, hv3, h⟩ := h; obtain rfl := Option.some.inj h; exact (ev_op (ev_var rfl) (ev_un ev_int ru_neg) (rb_ixOI' (e := eN) rfl hv3))) (fun v h => by obtain rfl := Option.some.inj h; exact (ev_nat 0))) ?_)
    show SW K _ ⟨[some (.d (eS word)), some (.o 0), some (.d (eN x2.1)), some (.d (eC x2.2)), some (.d (eN v4))], [.l (List.map eN s1)]⟩ _
    replace h := bs h; obtain ⟨s9, hs9, h⟩ := h
    refine sw_seq (sw_whS (fun (s5 : Nat) => (⟨[some (.d (eS word)), some (.o 0), some (.d (eN x2.1)), some (.d (eC x2.2)), some (.d (eN s5))], [.l (List.map eN s1)]⟩ : AS)) ⟨(.same (.same (.same (.same (.same .nil))))), rfl⟩ hs9 (fun s5 b_ h => by unfold f_border_table_b1 at h; replace h := bs h; obtain ⟨v16, hv16, h⟩ := h; obtain rfl := Option.some.inj h; exact (tv_andO (tv_test (ev_op (ev_var rfl) (ev_nat 0) rb_gtN)) hv16 (fun v h => by replace h := bs h; obtain ⟨v15, hv15, h⟩ := h; obtain rfl := Option.some.inj h; exact (tv_andO (tv_test (ev_op (ev_var rfl) (ev_nat 0) rb_gtN)) hv15 (fun v h => by replace h := bs h; obtain ⟨v14, hv14, h⟩ := h; obtain rfl := Option.some.inj h; exact (tv_test (ev_op (ev_op (ev_var rfl) (ev_var rfl) (rb_ixSP hv14)) (ev_var rfl) (rb_neE (e := eC) eq_C dp_C (by decide))))))))) (fun s5 s_ hc_ h => ?_) ?_)
    · show SW K _ ⟨[some (.d (eS word)), some (.o 0), some (.d (eN x2.1)), some (.d (eC x2.2)), some (.d (eN s5))], [.l (List.map eN s1)]⟩ _
      unfold f_border_table_b2 at h
      replace h := bs h; obtain ⟨v7, hv7, h⟩ := h
      replace h := bs h; obtain ⟨v8, hv8, h⟩ := h
      refine sw_last (sw_asgE (ev_op (ev_var rfl) (ev_op (ev_var rfl) (ev_nat 1) (rb_subP hv7)) (rb_ixOP (e := eN) rfl hv8)) ?_)
      show SW K _ ⟨[some (.d (eS word)), some (.o 0), some (.d (eN x2.1)), some (.d (eC x2.2)), some (.d (eN v8))], [.l (List.map eN s1)]⟩ _
      obtain rfl := Option.some.inj h
      exact sw_next ⟨(.same (.same (.same (.same (.same .nil))))), rfl⟩
    show SW K _ ⟨[some (.d (eS word)), some (.o 0), some (.d (eN x2.1)), some (.d (eC x2.2)), some (.d (eN s9))], [.l (List.map eN s1)]⟩ _
    replace h := bs h; obtain ⟨v11, hv11, h⟩ := h
    replace h := bs h; obtain ⟨v12, hv12, h⟩ := h
    replace h := bs h; obtain ⟨found13, hfound13, h⟩ := h
    refine sw_last (sw_appP (ea := eN) hfound13 rfl ⟨_, rfl⟩ (ev_ifO (ea := eN) (tv_andO (tv_test (ev_op (ev_var rfl) (ev_nat 0) rb_gtN)) hv11 (fun v h => by replace h := bs h; obtain ⟨v10, hv10, h⟩ := h; obtain rfl := Option.some.inj h; exact (tv_test (ev_op (ev_op (ev_var rfl) (ev_var rfl) (rb_ixSP hv10)) (ev_var rfl) (rb_eqE (e := eC) eq_C dp_C (by decide)))))) hv12 (fun v h => by obtain rfl := Option.some.inj h; exact (ev_op (ev_var rfl) (ev_nat 1) rb_addN)) (fun v h => by obtain rfl := Option.some.inj h; exact (ev_nat 0))) rfl ?_)
    show SW K _ ⟨[some (.d (eS word)), some (.o 0), some (.d (eN x2.1)), some (.d (eC x2.2)), some (.d (eN s9))], [.l (List.map eN found13)]⟩ _
    obtain rfl := Option.some.inj h
    exact sw_next ⟨(.same (.same (.skip (.skip (.skip .nil))))), rfl⟩
  show SW K _ ⟨[some (.d (eS word)), some (.o 0), none, none, none], [.l (List.map eN s17)]⟩ _
  refine sw_frz (j := 0) rfl (by first | exact Nat.zero_le _ | decide) ?_
  show SW K _ ⟨[some (.d (eS word)), some (.d ((eL eN) s17)), none, none, none], []⟩ _
  obtain rfl := Option.some.inj h
  exact sw_retE (ev_cb (av_cons (ev_var rfl) av_nil) (ra_tupLV (e := eN))) rfl
abbrev s__law_has : Stmt := topS 22
abbrev n__law_has : List Str := ["word", "period", "k"]
theorem sc__law_has : FnScope n__law_has ["word", "period"] (defScope s__law_has) := ⟨rfl, rfl, rfl, by decide +kernel, rfl, by decide +kernel, by decide +kernel⟩
theorem ok__law_has (T : Bl mg) (D : Def K mg "_law_has" "_law_has" s__law_has ["word", "period"]) : Has P w K mg base 1 "_law_has" ["word", "period"] (spP K (RP2 f__law_has eS eN eB)) := by
  refine def_P D sc__law_has (fun ds r h => by obtain ⟨_, _, _, _, e, _⟩ := h; rw [e]; rfl) fun f cdv A outer s H E hr => ⟨_, (pss_one (ps_ret (pe_cmpR (op_eqU (K := K) rfl hr.units) (pe_callB (call_lenU (K := K) rfl) (by rfl) T.b_len PySem.boot_len (pa_cons (pe_lc (own := [("k", 2)]) (g := gName 2) rfl sc__law_has.nd (pi_range1 (by rfl) T.b_range (pa_cons (pe_op op_sub (pe_callB (call_lenU (K := K) rfl) (by rfl) T.b_len PySem.boot_len (pa_cons (pv 0) pa_nil)) (pv 1)) pa_nil)) (blkOk_by (N := n__law_has) (sc := defScope s__law_has) (by decide +kernel)) (fun _ _ _ _ _ => (pg_name (i := 2) sc__law_has.nd rfl (Or.inl rfl))) (fun _ _ _ _ _ => (pts_one (pt_cmpR (op_neU (K := K) rfl hr.units) (pe_ix (ix_U (K := K) rfl) (pv 0) (pv 2) (fun _ _ => rfl)) (pe_ix (ix_U (K := K) rfl) (pv 0) (pe_op (op_addU (K := K)) (pv 2) (pv 1)) (fun _ _ => rfl)) (nomark _)))) (fun _ _ _ _ _ => (pv 2))) pa_nil)) pe_int (nomark _)))), fun ds r hR => ?_⟩
  obtain ⟨word, period, v_, h, rfl, rfl⟩ := hR
  unfold f__law_has at h
  show SW K _ ⟨[some (.d (eS word)), some (.d (eN period)), none], []⟩ _
  replace h := bs h; obtain ⟨v1, hv1, h⟩ := h
  replace h := bs h; obtain ⟨r2, hr2, h⟩ := h
  replace h := bs h; obtain ⟨ys7, hys7, h⟩ := h
  obtain rfl := Option.some.inj h
  exact sw_retE (ev_op (ev_cb (av_cons (ev_filG (js := [2]) (ea := eN) (eb := eN) (ei_PS (av_cons (ev_op (ev_cb (av_cons (ev_var rfl) av_nil) (ra_lenP hv1)) (ev_var rfl) rb_sub) av_nil) hr2) (fun _ h => h) hys7 (fun x3 y_ h => by refine gw_name ?_; replace h := bs h; obtain ⟨v4, hv4, h⟩ := h; replace h := bs h; obtain ⟨v5, hv5, h⟩ := h; exact (fil_pf (eb := eN) rfl h (tv_test (ev_op (ev_op (ev_var rfl) (ev_var rfl) (rb_ixSP hv4)) (ev_op (ev_var rfl) (ev_op (ev_var rfl) (ev_var rfl) rb_addN) (rb_ixSP hv5)) (rb_neE (e := eC) eq_C dp_C (by decide)))) (fun v h => by obtain rfl := Option.some.inj h; exact ⟨_, rfl, (ev_var rfl)⟩)))) av_nil) (ra_lenLE (e := eN))) (ev_nat 0) rb_eqN) rfl
abbrev s_borders : Stmt := topS 7
abbrev n_borders : List Str := ["word", "table", "found", "size"]
theorem sc_borders : FnScope n_borders ["word"] (defScope s_borders) := ⟨rfl, rfl, rfl, by decide +kernel, rfl, by decide +kernel, by decide +kernel⟩
theorem ok_borders (T : Bl mg) (D : Def K mg "borders" "borders" s_borders ["word"])
    (H_border_table : Has P w K mg base 1 "border_table" ["word"] (spP K (RP1 f_border_table eS (eT eN)))) : Has P w K mg base 2 "borders" ["word"] (spP K (RP1 f_borders eS (eT eN))) := by
  obtain ⟨_, _, G_border_table, m_border_table, k_border_table, bd_border_table⟩ := H_border_table
  refine def_P D sc_borders (fun ds r h => by obtain ⟨_, _, _, e, _⟩ := h; rw [e]; rfl) fun f cdv A outer s H E hr => ⟨_, (pss_cons (ps_set (i := 1) sc_borders.nd rfl (Or.inl rfl) (pe_call G_border_table (hr.mono (by omega)) (by rfl) m_border_table k_border_table bd_border_table .nil pass0 (pa_cons (pv 0) pa_nil)))
    (pss_cons (ps_set (i := 2) sc_borders.nd rfl (Or.inl rfl) (pe_lst pa_nil))
    (pss_cons (ps_set (i := 3) sc_borders.nd rfl (Or.inl rfl) (pe_ifExp (pt_cmpR (op_gtU (K := K) rfl hr.units) (pe_callB (call_lenU (K := K) rfl) (by rfl) T.b_len PySem.boot_len (pa_cons (pv 1) pa_nil)) pe_int (nomark _)) (pe_ix (ix_U (K := K) rfl) (pv 1) (pe_un un_neg pe_int) (fun _ _ => rfl)) pe_int))
    (pss_cons (ps_while PassesOwn.never (pt_cmpR (op_gtU (K := K) rfl hr.units) (pv 3) pe_int (nomark _))
      (pss_cons (ps_expr (pe_bm PySem.F.plainAttrs_list PySem.F.slot_list_append PySem.F.type_list_append mt_append (pv 2) (pa_cons (pv 3) pa_nil)))
      (pss_one (ps_set (i := 3) sc_borders.nd rfl (Or.inl rfl) (pe_ix (ix_U (K := K) rfl) (pv 1) (pe_op op_sub (pv 3) pe_int) (fun _ _ => rfl))))))
    (pss_one (ps_ret (pe_callTy (call_tupV (K := K) rfl rfl) (by rfl) T.b_tuple (by decide +kernel) (pa_cons (pe_revLK (K := K) rfl (pv 2)) pa_nil)))))))), fun ds r hR => ?_⟩
  obtain ⟨word, v_, h, rfl, rfl⟩ := hR
  unfold f_borders at h
  show SW K _ ⟨[some (.d (eS word)), none, none, none], []⟩ _
  replace h := bs h; obtain ⟨v1, hv1, h⟩ := h
  refine sw_seq (sw_asgE (ev_call (ds := [eS word]) (av_cons (ev_var rfl) av_nil) ⟨_, _, hv1, rfl, rfl⟩) ?_)
  show SW K _ ⟨[some (.d (eS word)), some (.d ((eT eN) v1)), none, none], []⟩ _
  refine sw_seq (sw_asgNE (nw_lstE (ea := eN) (l := ([] : List Nat)) av_nil (by first | decide | simp)) ?_)
  show SW K _ ⟨[some (.d (eS word)), some (.d ((eT eN) v1)), some (.o 0), none], [.l (List.map eN ([] : List Nat))]⟩ _
  replace h := bs h; obtain ⟨v3, hv3, h⟩ := h
  refine sw_seq (sw_asgE (ev_ifO (ea := eN) (tv_test (ev_op (ev_cb (av_cons (ev_var rfl) av_nil) (ra_lenTE (e := eN))) (ev_nat 0) rb_gtN)) hv3 (fun v h => by replace h := bs h; obtain ⟨v2, hv2, h⟩ := h; obtain rfl := Option.some.inj h; exact (ev_op (ev_var rfl) (ev_un ev_int ru_neg) (rb_ixTI' (e := eN) hv2))) (fun v h => by obtain rfl := Option.some.inj h; exact (ev_nat 0))) ?_)
  show SW K _ ⟨[some (.d (eS word)), some (.d ((eT eN) v1)), some (.o 0), some (.d (eN v3))], [.l (List.map eN ([] : List Nat))]⟩ _
  replace h := bs h; obtain ⟨s9, hs9, h⟩ := h
  refine sw_seq (sw_whS (fun (s4 : Nat × (List Nat)) => (⟨[some (.d (eS word)), some (.d ((eT eN) v1)), some (.o 0), some (.d (eN s4.1))], [.l (List.map eN s4.2)]⟩ : AS)) ⟨(.same (.same (.same (.same .nil)))), rfl⟩ hs9 (fun s4 b_ h => by unfold f_borders_b1 at h; obtain rfl := Option.some.inj h; exact (tv_test (ev_op (ev_var rfl) (ev_nat 0) rb_gtN))) (fun s4 s_ hc_ h => ?_) ?_)
  · show SW K _ ⟨[some (.d (eS word)), some (.d ((eT eN) v1)), some (.o 0), some (.d (eN s4.1))], [.l (List.map eN s4.2)]⟩ _
    unfold f_borders_b2 at h
    replace h := bs h; obtain ⟨found6, hfound6, h⟩ := h
    refine sw_seq (sw_appP (ea := eN) hfound6 rfl ⟨_, rfl⟩ (ev_var rfl) rfl ?_)
    show SW K _ ⟨[some (.d (eS word)), some (.d ((eT eN) v1)), some (.o 0), some (.d (eN s4.1))], [.l (List.map eN found6)]⟩ _
    replace h := bs h; obtain ⟨v7, hv7, h⟩ := h
    replace h := bs h; obtain ⟨v8, hv8, h⟩ := h
    refine sw_last (sw_asgE (ev_op (ev_var rfl) (ev_op (ev_var rfl) (ev_nat 1) (rb_subP hv7)) (rb_ixTP (e := eN) hv8)) ?_)
    show SW K _ ⟨[some (.d (eS word)), some (.d ((eT eN) v1)), some (.o 0), some (.d (eN v8))], [.l (List.map eN found6)]⟩ _
    obtain rfl := Option.some.inj h
    exact sw_next ⟨(.same (.same (.same (.same .nil)))), rfl⟩
  show SW K _ ⟨[some (.d (eS word)), some (.d ((eT eN) v1)), some (.o 0), some (.d (eN s9.1))], [.l (List.map eN s9.2)]⟩ _
  refine sw_frz (j := 0) rfl (by first | exact Nat.zero_le _ | decide) ?_
  show SW K _ ⟨[some (.d (eS word)), some (.d ((eT eN) v1)), some (.d ((eL eN) s9.2)), some (.d (eN s9.1))], []⟩ _
  obtain rfl := Option.some.inj h
  exact sw_retE (ev_cb (av_cons (ev_revLE (e := eN) (ev_var rfl)) av_nil) (ra_tupLV (e := eN))) rfl
abbrev s_periods : Stmt := topS 8
abbrev n_periods : List Str := ["word", "size"]
theorem sc_periods : FnScope n_periods ["word"] (defScope s_periods) := ⟨rfl, rfl, rfl, by decide +kernel, rfl, by decide +kernel, by decide +kernel⟩
theorem ok_periods (T : Bl mg) (D : Def K mg "periods" "periods" s_periods ["word"])
    (H_borders : Has P w K mg base 2 "borders" ["word"] (spP K (RP1 f_borders eS (eT eN)))) : Has P w K mg base 3 "periods" ["word"] (spP K (RP1 f_periods eS (eT eN))) := by
  obtain ⟨_, _, G_borders, m_borders, k_borders, bd_borders⟩ := H_borders
  refine def_P D sc_periods (fun ds r h => by obtain ⟨_, _, _, e, _⟩ := h; rw [e]; rfl) fun f cdv A outer s H E hr => ⟨_, (pss_one (ps_ret (pe_callTy (call_tupV (K := K) rfl rfl) (by rfl) T.b_tuple (by decide +kernel) (pa_cons (pe_op (op_addU (K := K)) (pe_lc (own := [("size", 1)]) (g := gName 1) rfl sc_periods.nd (pi_tupK (K := K) rfl (pe_revTK (K := K) rfl (pe_call G_borders (hr.mono (by omega)) (by rfl) m_borders k_borders bd_borders .nil pass0 (pa_cons (pv 0) pa_nil)))) (blkOk_by (N := n_periods) (sc := defScope s_periods) (by decide +kernel)) (fun _ _ _ _ _ => (pg_name (i := 1) sc_periods.nd rfl (Or.inl rfl))) (fun _ _ _ _ _ => pts_nil) (fun _ _ _ _ _ => (pe_op op_sub (pe_callB (call_lenU (K := K) rfl) (by rfl) T.b_len PySem.boot_len (pa_cons (pv 0) pa_nil)) (pv 1)))) (pe_ifExp (pt_cmpR (op_gtU (K := K) rfl hr.units) (pe_callB (call_lenU (K := K) rfl) (by rfl) T.b_len PySem.boot_len (pa_cons (pv 0) pa_nil)) pe_int (nomark _)) (pe_lst (pa_cons (pe_callB (call_lenU (K := K) rfl) (by rfl) T.b_len PySem.boot_len (pa_cons (pv 0) pa_nil)) pa_nil)) (pe_lst pa_nil))) pa_nil)))), fun ds r hR => ?_⟩
  obtain ⟨word, v_, h, rfl, rfl⟩ := hR
  unfold f_periods at h
  show SW K _ ⟨[some (.d (eS word)), none], []⟩ _
  replace h := bs h; obtain ⟨v1, hv1, h⟩ := h
  replace h := bs h; obtain ⟨ys5, hys5, h⟩ := h
  replace h := bs h; obtain ⟨v6, hv6, h⟩ := h
  replace h := bs h; obtain ⟨v8, hv8, h⟩ := h
  replace h := bs h; obtain ⟨v9, hv9, h⟩ := h
  obtain rfl := Option.some.inj h
  exact sw_retE (ev_cb (av_cons (ev_op (ev_mapG (js := [1]) (ea := eN) (eb := eN) (ei_tup (ev_revTE (e := eN) (ev_call (ds := [eS word]) (av_cons (ev_var rfl) av_nil) ⟨_, _, hv1, rfl, rfl⟩))) (fun _ h => h) hys5 (fun x2 y_ h => by refine gw_name ?_; replace h := bs h; obtain ⟨v3, hv3, h⟩ := h; replace h := bs h; obtain ⟨v4, hv4, h⟩ := h; obtain rfl := Option.some.inj h; exact ⟨rfl, (ev_op (ev_cb (av_cons (ev_var rfl) av_nil) (ra_lenP hv3)) (ev_var rfl) (rb_subP hv4))⟩)) (ev_ifO (ea := (eL eN)) (tv_test (ev_op (ev_cb (av_cons (ev_var rfl) av_nil) (ra_lenP hv6)) (ev_nat 0) rb_gtN)) hv8 (fun v h => by replace h := bs h; obtain ⟨v7, hv7, h⟩ := h; obtain rfl := Option.some.inj h; exact (xe_lstE (e := eN) (l := [v7]) (av_cons (ev_cb (av_cons (ev_var rfl) av_nil) (ra_lenP hv7)) av_nil))) (fun v h => by obtain rfl := Option.some.inj h; exact (evd (d' := (eL eN) []) (xe_lstE (e := eU) (l := []) av_nil) rfl))) (rb_addLP (e := eN) hv9)) av_nil) (ra_tupLV (e := eN))) rfl
abbrev s_has_period : Stmt := topS 9
abbrev n_has_period : List Str := ["word", "period"]
theorem sc_has_period : FnScope n_has_period ["word", "period"] (defScope s_has_period) := ⟨rfl, rfl, rfl, by decide +kernel, rfl, by decide +kernel, by decide +kernel⟩
theorem ok_has_period (T : Bl mg) (D : Def K mg "has_period" "has_period" s_has_period ["word", "period"]) : Has P w K mg base 1 "has_period" ["word", "period"] (spP K (RP2 f_has_period eS eN eB)) := by
  refine def_P D sc_has_period (fun ds r h => by obtain ⟨_, _, _, _, e, _⟩ := h; rw [e]; rfl) fun f cdv A outer s H E hr => ⟨_, (pss_one (ps_ret (pe_ifExp (pt_cmpR (op_ltU (K := K) rfl hr.units) (pv 1) (pe_callB (call_lenU (K := K) rfl) (by rfl) T.b_len PySem.boot_len (pa_cons (pv 0) pa_nil)) (nomark _)) (pe_cmpR (op_eqU (K := K) rfl hr.units) (pe_slice (sl_U (K := K) rfl) (pv 0) (po_some (pv 1)) po_none) (pe_slice (sl_U (K := K) rfl) (pv 0) po_none (po_some (pe_op op_sub (pe_callB (call_lenU (K := K) rfl) (by rfl) T.b_len PySem.boot_len (pa_cons (pv 0) pa_nil)) (pv 1)))) (nomark _)) pe_bl))), fun ds r hR => ?_⟩
  obtain ⟨word, period, v_, h, rfl, rfl⟩ := hR
  unfold f_has_period at h
  show SW K _ ⟨[some (.d (eS word)), some (.d (eN period))], []⟩ _
  replace h := bs h; obtain ⟨v1, hv1, h⟩ := h
  replace h := bs h; obtain ⟨v6, hv6, h⟩ := h
  obtain rfl := Option.some.inj h
  exact sw_retE (ev_ifO (ea := eB) (tv_test (ev_op (ev_var rfl) (ev_cb (av_cons (ev_var rfl) av_nil) (ra_lenP hv1)) rb_ltN)) hv6 (fun v h => by replace h := bs h; obtain ⟨v2, hv2, h⟩ := h; replace h := bs h; obtain ⟨v3, hv3, h⟩ := h; replace h := bs h; obtain ⟨v4, hv4, h⟩ := h; replace h := bs h; obtain ⟨v5, hv5, h⟩ := h; obtain rfl := Option.some.inj h; exact (ev_op (ev_sl (ev_var rfl) (ov_some (ev_var rfl)) ov_none (rsl_fromP hv2)) (ev_sl (ev_var rfl) ov_none (ov_some (ev_op (ev_cb (av_cons (ev_var rfl) av_nil) (ra_lenP hv3)) (ev_var rfl) (rb_subP hv4))) (rsl_toP hv5)) (rb_eqE (e := eS) eq_S dp_S (by decide)))) (fun v h => by obtain rfl := Option.some.inj h; exact ev_bl)) rfl
abbrev s__law_groups : Stmt := topS 20
abbrev n__law_groups : List Str := ["wished", "count", "found", "k", "seen", "todo", "at", "step", "goal"]
theorem sc__law_groups : FnScope n__law_groups ["wished", "count"] (defScope s__law_groups) := ⟨rfl, rfl, rfl, by decide +kernel, rfl, by decide +kernel, by decide +kernel⟩
theorem ok__law_groups (T : Bl mg) (D : Def K mg "_law_groups" "_law_groups" s__law_groups ["wished", "count"]) : Has P w K mg base 1 "_law_groups" ["wished", "count"] (spP K (RP2 f__law_groups (eT eN) eN (eL eZ))) := by
  refine def_P D sc__law_groups (fun ds r h => by obtain ⟨_, _, _, _, e, _⟩ := h; rw [e]; rfl) fun f cdv A outer s H E hr => ⟨_, (pss_cons (ps_set (i := 2) sc__law_groups.nd rfl (Or.inl rfl) (pe_lst pa_nil))
    (pss_cons (ps_for PassesOwn.never rfl (pi_range1 (by rfl) T.b_range (pa_cons (pv 1) pa_nil)) (pg_name (i := 3) sc__law_groups.nd rfl (Or.inl rfl))
      (pss_cons (ps_par rfl sc__law_groups.nd (i := 4) (j := 5) rfl rfl (by decide) rfl rfl (pa_cons (pe_lst (pa_cons (pv 3) pa_nil)) (pa_cons (pe_lst (pa_cons (pv 3) pa_nil)) pa_nil)) (by rfl))
      (pss_cons (ps_while PassesOwn.never (pt_cmpR (op_gtU (K := K) rfl hr.units) (pe_callB (call_lenU (K := K) rfl) (by rfl) T.b_len PySem.boot_len (pa_cons (pv 5) pa_nil)) pe_int (nomark _))
        (pss_cons (ps_set (i := 6) sc__law_groups.nd rfl (Or.inl rfl) (pe_bm0 PySem.F.plainAttrs_list PySem.F.slot_list_pop PySem.F.type_list_pop mt_pop (pv 5)))
        (pss_one (ps_for PassesOwn.never rfl (pi_tupK (K := K) rfl (pv 0)) (pg_name (i := 7) sc__law_groups.nd rfl (Or.inl rfl))
          (pss_one (ps_for PassesOwn.never rfl (pi_tupK (K := K) rfl (pe_tup (pa_cons (pe_op op_sub (pv 6) (pv 7)) (pa_cons (pe_op (op_addU (K := K)) (pv 6) (pv 7)) pa_nil)))) (pg_name (i := 8) sc__law_groups.nd rfl (Or.inl rfl))
            (pss_one (ps_if (PW.pt (pw_and (pt_chain (op_leU (K := K) rfl hr.units) (op_ltU (K := K) rfl hr.units) pe_int (pv 8) (pv 1)) (pw_and1 (pt_cmpR (op_notInU (K := K) rfl hr.units) (pv 8) (pv 4) (by rfl)))))
              (pss_cons (ps_expr (pe_bm PySem.F.plainAttrs_list PySem.F.slot_list_append PySem.F.type_list_append mt_append (pv 4) (pa_cons (pv 8) pa_nil)))
              (pss_one (ps_expr (pe_bm PySem.F.plainAttrs_list PySem.F.slot_list_append PySem.F.type_list_append mt_append (pv 5) (pa_cons (pv 8) pa_nil)))))
              pss_nil))))))))
      (pss_one (ps_expr (pe_bm PySem.F.plainAttrs_list PySem.F.slot_list_append PySem.F.type_list_append mt_append (pv 2) (pa_cons (pe_callB (call_minU (K := K) rfl rfl hr.units) (by rfl) T.b_min (by decide +kernel) (pa_cons (pv 4) pa_nil)) pa_nil)))))))
    (pss_one (ps_ret (pv 2))))), fun ds r hR => ?_⟩
  obtain ⟨wished, count, v_, h, rfl, rfl⟩ := hR
  unfold f__law_groups at h
  show SW K _ ⟨[some (.d ((eT eN) wished)), some (.d (eN count)), none, none, none, none, none, none, none], []⟩ _
  refine sw_seq (sw_asgNE (nw_lstE (ea := eZ) (l := ([] : List Int)) av_nil (by first | decide | simp)) ?_)
  show SW K _ ⟨[some (.d ((eT eN) wished)), some (.d (eN count)), some (.o 0), none, none, none, none, none, none], [.l (List.map eZ ([] : List Int))]⟩ _
  replace h := bs h; obtain ⟨r1, hr1, h⟩ := h
  replace h := bs h; obtain ⟨s20, hs20, h⟩ := h
  refine sw_seq (sw_forS (js := [3]) (ea := eN) (fun (s2 : (List Int)) => (⟨[some (.d ((eT eN) wished)), some (.d (eN count)), some (.o 0), none, none, none, none, none, none], [.l (List.map eZ s2)]⟩ : AS)) (ei_P (av_cons (ev_var rfl) av_nil) hr1) ⟨(.same (.same (.same (.skip (.skip (.skip (.skip (.skip (.skip .nil))))))))), rfl⟩ hs20 (fun x3 s2 s_ h => ?_) ?_)
  · refine gw_name ?_
    show SW K _ ⟨[some (.d ((eT eN) wished)), some (.d (eN count)), some (.o 0), some (.d (eN x3)), none, none, none, none, none], [.l (List.map eZ s2)]⟩ _
    unfold f__law_groups_b5 at h
    refine sw_seq (sw_parNN (nw_lstE (ea := eZ) (l := ([((x3 : Nat) : Int)] : List Int)) (av_cons (evd (d' := eZ ((x3 : Nat) : Int)) (ev_var rfl) rfl) av_nil) (by first | decide | simp)) (nw_lstE (ea := eZ) (l := ([((x3 : Nat) : Int)] : List Int)) (av_cons (evd (d' := eZ ((x3 : Nat) : Int)) (ev_var rfl) rfl) av_nil) (by first | decide | simp)) ?_)
    show SW K _ ⟨[some (.d ((eT eN) wished)), some (.d (eN count)), some (.o 0), some (.d (eN x3)), some (.o 1), some (.o 2), none, none, none], [.l (List.map eZ s2), .l (List.map eZ ([((x3 : Nat) : Int)] : List Int)), .l (List.map eZ ([((x3 : Nat) : Int)] : List Int))]⟩ _
    replace h := bs h; obtain ⟨s17, hs17, h⟩ := h
    refine sw_seq (sw_whS (fun (s4 : (List Int) × (List Int)) => (⟨[some (.d ((eT eN) wished)), some (.d (eN count)), some (.o 0), some (.d (eN x3)), some (.o 1), some (.o 2), none, none, none], [.l (List.map eZ s2), .l (List.map eZ s4.1), .l (List.map eZ s4.2)]⟩ : AS)) ⟨(.same (.same (.same (.same (.same (.same (.skip (.skip (.skip .nil))))))))), rfl⟩ hs17 (fun s4 b_ h => by unfold f__law_groups_b3 at h; obtain rfl := Option.some.inj h; exact (tv_test (ev_op (ev_cb (av_cons (ev_var rfl) av_nil) (ra_lenOE (e := eZ) rfl)) (ev_nat 0) rb_gtN))) (fun s4 s_ hc_ h => ?_) ?_)
    · show SW K _ ⟨[some (.d ((eT eN) wished)), some (.d (eN count)), some (.o 0), some (.d (eN x3)), some (.o 1), some (.o 2), none, none, none], [.l (List.map eZ s2), .l (List.map eZ s4.1), .l (List.map eZ s4.2)]⟩ _
      unfold f__law_groups_b4 at h
      replace h := bs h; obtain ⟨q6, hq6, h⟩ := h
      refine sw_seq (sw_asgX (xe_pop (ea := eZ) hq6 rfl rfl) ?_)
      show SW K _ ⟨[some (.d ((eT eN) wished)), some (.d (eN count)), some (.o 0), some (.d (eN x3)), some (.o 1), some (.o 2), some (.d (eZ q6.1)), none, none], [.l (List.map eZ s2), .l (List.map eZ s4.1), .l (List.map eZ q6.2)]⟩ _
      replace h := bs h; obtain ⟨s16, hs16, h⟩ := h
      refine sw_last (sw_forS (js := [7]) (ea := eN) (fun (s7 : (List Int) × (List Int)) => (⟨[some (.d ((eT eN) wished)), some (.d (eN count)), some (.o 0), some (.d (eN x3)), some (.o 1), some (.o 2), some (.d (eZ q6.1)), none, none], [.l (List.map eZ s2), .l (List.map eZ s7.1), .l (List.map eZ s7.2)]⟩ : AS)) (ei_tup (ev_var rfl)) ⟨(.same (.same (.same (.same (.same (.same (.same (.skip (.skip .nil))))))))), rfl⟩ hs16 (fun x8 s7 s_ h => ?_) ?_)
      · refine gw_name ?_
        show SW K _ ⟨[some (.d ((eT eN) wished)), some (.d (eN count)), some (.o 0), some (.d (eN x3)), some (.o 1), some (.o 2), some (.d (eZ q6.1)), some (.d (eN x8)), none], [.l (List.map eZ s2), .l (List.map eZ s7.1), .l (List.map eZ s7.2)]⟩ _
        unfold f__law_groups_b2 at h
        replace h := bs h; obtain ⟨s15, hs15, h⟩ := h
        refine sw_last (sw_forS (js := [8]) (ea := eZ) (fun (s9 : (List Int) × (List Int)) => (⟨[some (.d ((eT eN) wished)), some (.d (eN count)), some (.o 0), some (.d (eN x3)), some (.o 1), some (.o 2), some (.d (eZ q6.1)), some (.d (eN x8)), none], [.l (List.map eZ s2), .l (List.map eZ s9.1), .l (List.map eZ s9.2)]⟩ : AS)) (ei_tup (evd (d' := (eT eZ) [q6.1 - ((x8 : Nat) : Int), q6.1 + ((x8 : Nat) : Int)]) (xe_tupP (e := eZ) (f := eZ) (a := q6.1 - ((x8 : Nat) : Int)) (b := q6.1 + ((x8 : Nat) : Int)) (av_cons (ev_op (ev_var rfl) (ev_var rfl) rb_sub) (av_cons (ev_op (ev_var rfl) (ev_var rfl) rb_add) av_nil))) rfl)) ⟨(.same (.same (.same (.same (.same (.same (.same (.same (.skip .nil))))))))), rfl⟩ hs15 (fun x10 s9 s_ h => ?_) ?_)
        · refine gw_name ?_
          show SW K _ ⟨[some (.d ((eT eN) wished)), some (.d (eN count)), some (.o 0), some (.d (eN x3)), some (.o 1), some (.o 2), some (.d (eZ q6.1)), some (.d (eN x8)), some (.d (eZ x10))], [.l (List.map eZ s2), .l (List.map eZ s9.1), .l (List.map eZ s9.2)]⟩ _
          unfold f__law_groups_b1 at h
          replace h := bs h; obtain ⟨v11, hv11, h⟩ := h
          refine sw_last (sw_ifE (tv_and (tv_test (ev_chainO (ev_nat 0) (ev_var rfl) rb_le hv11 (fun v h => by cases h; exact ⟨_, (ev_var rfl), rb_ltI⟩))) (fun _ => (tv_test (ev_op (ev_var rfl) (ev_var rfl) (rb_ninOE eq_Z dp_Z (by decide) rfl))))) (fun b12 => ?_) (fun b12 => ?_))
          · replace h := ifT h b12
            show SW K _ ⟨[some (.d ((eT eN) wished)), some (.d (eN count)), some (.o 0), some (.d (eN x3)), some (.o 1), some (.o 2), some (.d (eZ q6.1)), some (.d (eN x8)), some (.d (eZ x10))], [.l (List.map eZ s2), .l (List.map eZ s9.1), .l (List.map eZ s9.2)]⟩ _
            replace h := bs h; obtain ⟨seen13, hseen13, h⟩ := h
            refine sw_seq (sw_appP (ea := eZ) hseen13 rfl ⟨_, rfl⟩ (ev_var rfl) rfl ?_)
            show SW K _ ⟨[some (.d ((eT eN) wished)), some (.d (eN count)), some (.o 0), some (.d (eN x3)), some (.o 1), some (.o 2), some (.d (eZ q6.1)), some (.d (eN x8)), some (.d (eZ x10))], [.l (List.map eZ s2), .l (List.map eZ seen13), .l (List.map eZ s9.2)]⟩ _
            replace h := bs h; obtain ⟨todo14, htodo14, h⟩ := h
            refine sw_last (sw_appP (ea := eZ) htodo14 rfl ⟨_, rfl⟩ (ev_var rfl) rfl ?_)
            show SW K _ ⟨[some (.d ((eT eN) wished)), some (.d (eN count)), some (.o 0), some (.d (eN x3)), some (.o 1), some (.o 2), some (.d (eZ q6.1)), some (.d (eN x8)), some (.d (eZ x10))], [.l (List.map eZ s2), .l (List.map eZ seen13), .l (List.map eZ todo14)]⟩ _
            refine sw_next ?_
            obtain rfl := Option.some.inj h
            exact sw_next ⟨(.same (.same (.same (.same (.same (.same (.same (.same (.skip .nil))))))))), rfl⟩
          · replace h := ifF h b12
            show SW K _ ⟨[some (.d ((eT eN) wished)), some (.d (eN count)), some (.o 0), some (.d (eN x3)), some (.o 1), some (.o 2), some (.d (eZ q6.1)), some (.d (eN x8)), some (.d (eZ x10))], [.l (List.map eZ s2), .l (List.map eZ s9.1), .l (List.map eZ s9.2)]⟩ _
            refine sw_next ?_
            obtain rfl := Option.some.inj h
            exact sw_next ⟨(.same (.same (.same (.same (.same (.same (.same (.same (.skip .nil))))))))), rfl⟩
        show SW K _ ⟨[some (.d ((eT eN) wished)), some (.d (eN count)), some (.o 0), some (.d (eN x3)), some (.o 1), some (.o 2), some (.d (eZ q6.1)), some (.d (eN x8)), none], [.l (List.map eZ s2), .l (List.map eZ s15.1), .l (List.map eZ s15.2)]⟩ _
        obtain rfl := Option.some.inj h
        exact sw_next ⟨(.same (.same (.same (.same (.same (.same (.same (.skip (.skip .nil))))))))), rfl⟩
      show SW K _ ⟨[some (.d ((eT eN) wished)), some (.d (eN count)), some (.o 0), some (.d (eN x3)), some (.o 1), some (.o 2), some (.d (eZ q6.1)), none, none], [.l (List.map eZ s2), .l (List.map eZ s16.1), .l (List.map eZ s16.2)]⟩ _
      obtain rfl := Option.some.inj h
      exact sw_next ⟨(.same (.same (.same (.same (.same (.same (.skip (.skip (.skip .nil))))))))), rfl⟩
    show SW K _ ⟨[some (.d ((eT eN) wished)), some (.d (eN count)), some (.o 0), some (.d (eN x3)), some (.o 1), some (.o 2), none, none, none], [.l (List.map eZ s2), .l (List.map eZ s17.1), .l (List.map eZ s17.2)]⟩ _
    refine sw_frz (j := 1) rfl (by first | exact Nat.zero_le _ | decide) ?_
    show SW K _ ⟨[some (.d ((eT eN) wished)), some (.d (eN count)), some (.o 0), some (.d (eN x3)), some (.d ((eL eZ) s17.1)), some (.o 1), none, none, none], [.l (List.map eZ s2), .l (List.map eZ s17.2)]⟩ _
    replace h := bs h; obtain ⟨v18, hv18, h⟩ := h
    replace h := bs h; obtain ⟨found19, hfound19, h⟩ := h
    refine sw_last (sw_appP (ea := eZ) hfound19 rfl ⟨_, rfl⟩ (ev_cb (av_cons (ev_var rfl) av_nil) (ra_minE or_Z nn_Z dp_Z (by decide) hv18)) rfl ?_)
    show SW K _ ⟨[some (.d ((eT eN) wished)), some (.d (eN count)), some (.o 0), some (.d (eN x3)), some (.d ((eL eZ) s17.1)), some (.o 1), none, none, none], [.l (List.map eZ found19), .l (List.map eZ s17.2)]⟩ _
    refine sw_lose (j := 1) (show 1 < 2 by decide) (by first | exact Nat.zero_le _ | decide) ?_
    show SW K _ ⟨[some (.d ((eT eN) wished)), some (.d (eN count)), some (.o 0), some (.d (eN x3)), some (.d ((eL eZ) s17.1)), none, none, none, none], [.l (List.map eZ found19)]⟩ _
    obtain rfl := Option.some.inj h
    exact sw_next ⟨(.same (.same (.same (.skip (.skip (.skip (.skip (.skip (.skip .nil))))))))), rfl⟩
  show SW K _ ⟨[some (.d ((eT eN) wished)), some (.d (eN count)), some (.o 0), none, none, none, none, none, none], [.l (List.map eZ s20)]⟩ _
  refine sw_frz (j := 0) rfl (by first | exact Nat.zero_le _ | decide) ?_
  show SW K _ ⟨[some (.d ((eT eN) wished)), some (.d (eN count)), some (.d ((eL eZ) s20)), none, none, none, none, none, none], []⟩ _
  obtain rfl := Option.some.inj h
  exact sw_retE (ev_var rfl) rfl
end
end LW
set_option Elab.async false
set_option pp.maxSteps 2000
set_option linter.all false
set_option maxRecDepth 100000
set_option maxHeartbeats 4000000
namespace LW
open PySem PySem.Spec PyProof.Rows L2 D2
section
variable {P : Program} {w : World} {K : PySem.W.Frag} {mg : Str → Option Value} {base : Heap}
abbrev s_groups : Stmt := topS 10
abbrev n_groups : List Str := ["wished", "count", "found", "period", "k", "low", "high", "one"]
theorem sc_groups : FnScope n_groups ["wished", "count"] (defScope s_groups) := ⟨rfl, rfl, rfl, by decide +kernel, rfl, by decide +kernel, by decide +kernel⟩
theorem ok_groups (T : Bl mg) (D : Def K mg "groups" "groups" s_groups ["wished", "count"]) : Has P w K mg base 1 "groups" ["wished", "count"] (spP K (RP2 f_groups (eT eN) eN (eL eN))) := by
  refine def_P D sc_groups (fun ds r h => by obtain ⟨_, _, _, _, e, _⟩ := h; rw [e]; rfl) fun f cdv A outer s H E hr => ⟨_, (pss_cons (ps_set (i := 2) sc_groups.nd rfl (Or.inl rfl) (pe_listRg rfl (by rfl) T.b_list (prg_1 (by rfl) T.b_range (pv 1))))
    (pss_cons (ps_for PassesOwn.never rfl (pi_tupK (K := K) rfl (pv 0)) (pg_name (i := 3) sc_groups.nd rfl (Or.inl rfl))
      (pss_one (ps_for PassesOwn.never rfl (pi_range1 (by rfl) T.b_range (pa_cons (pe_op op_sub (pv 1) (pv 3)) pa_nil)) (pg_name (i := 4) sc_groups.nd rfl (Or.inl rfl))
        (pss_cons (ps_asg (pe_tup (pa_cons (pe_callB (call_minU (K := K) rfl rfl hr.units) (by rfl) T.b_min (by decide +kernel) (pa_cons (pe_ix (ix_U (K := K) rfl) (pv 2) (pv 4) (fun _ _ => rfl)) (pa_cons (pe_ix (ix_U (K := K) rfl) (pv 2) (pe_op (op_addU (K := K)) (pv 4) (pv 3)) (fun _ _ => rfl)) pa_nil))) (pa_cons (pe_callB (call_maxU (K := K) rfl rfl hr.units) (by rfl) T.b_max (by decide +kernel) (pa_cons (pe_ix (ix_U (K := K) rfl) (pv 2) (pv 4) (fun _ _ => rfl)) (pa_cons (pe_ix (ix_U (K := K) rfl) (pv 2) (pe_op (op_addU (K := K)) (pv 4) (pv 3)) (fun _ _ => rfl)) pa_nil))) pa_nil))) (pg_tup rfl (pgs_cons (pg_name (i := 5) sc_groups.nd rfl (Or.inr rfl)) (pgs_cons (pg_name (i := 6) sc_groups.nd rfl (Or.inr rfl)) pgs_nil))))
        (pss_one (ps_setLc (i := 2) (own := [("one", 7)]) (g := gName 7) rfl sc_groups.nd rfl rfl (sw_true rfl rfl rfl (by decide +kernel)) (pi_listK (K := K) rfl (pv 2)) (blkOk_by (N := n_groups) (sc := defScope s_groups) (by decide +kernel)) (fun _ _ _ _ _ => (pg_name (i := 7) sc_groups.nd rfl (Or.inl rfl))) (fun _ _ _ _ _ => pts_nil) (fun _ _ _ _ _ => (pe_ifExp (pt_cmpR (op_eqU (K := K) rfl hr.units) (pv 7) (pv 6) (nomark _)) (pv 5) (pv 7)))))))))
    (pss_one (ps_ret (pv 2))))), fun ds r hR => ?_⟩
  obtain ⟨wished, count, v_, h, rfl, rfl⟩ := hR
  unfold f_groups at h
  show SW K _ ⟨[some (.d ((eT eN) wished)), some (.d (eN count)), none, none, none, none, none, none], []⟩ _
  replace h := bs h; obtain ⟨v1, hv1, h⟩ := h
  refine sw_seq (sw_asgE (ev_lrg1 hv1 (ev_var rfl)) ?_)
  show SW K _ ⟨[some (.d ((eT eN) wished)), some (.d (eN count)), some (.d ((eL eN) v1)), none, none, none, none, none], []⟩ _
  replace h := bs h; obtain ⟨s15, hs15, h⟩ := h
  refine sw_seq (sw_forS (js := [3]) (ea := eN) (fun (s2 : (List Nat)) => (⟨[some (.d ((eT eN) wished)), some (.d (eN count)), some (.d ((eL eN) s2)), none, none, none, none, none], []⟩ : AS)) (ei_tup (ev_var rfl)) ⟨(.same (.same (.same (.skip (.skip (.skip (.skip (.skip .nil)))))))), rfl⟩ hs15 (fun x3 s2 s_ h => ?_) ?_)
  · refine gw_name ?_
    show SW K _ ⟨[some (.d ((eT eN) wished)), some (.d (eN count)), some (.d ((eL eN) s2)), some (.d (eN x3)), none, none, none, none], []⟩ _
    unfold f_groups_b2 at h
    replace h := bs h; obtain ⟨r4, hr4, h⟩ := h
    replace h := bs h; obtain ⟨s14, hs14, h⟩ := h
    refine sw_last (sw_forS (js := [4]) (ea := eN) (fun (s5 : (List Nat)) => (⟨[some (.d ((eT eN) wished)), some (.d (eN count)), some (.d ((eL eN) s5)), some (.d (eN x3)), none, none, none, none], []⟩ : AS)) (ei_PS (av_cons (ev_op (ev_var rfl) (ev_var rfl) rb_sub) av_nil) hr4) ⟨(.same (.same (.same (.same (.skip (.skip (.skip (.skip .nil)))))))), rfl⟩ hs14 (fun x6 s5 s_ h => ?_) ?_)
    · refine gw_name ?_
      show SW K _ ⟨[some (.d ((eT eN) wished)), some (.d (eN count)), some (.d ((eL eN) s5)), some (.d (eN x3)), some (.d (eN x6)), none, none, none], []⟩ _
      unfold f_groups_b1 at h
      replace h := bs h; obtain ⟨v7, hv7, h⟩ := h
      replace h := bs h; obtain ⟨v8, hv8, h⟩ := h
      replace h := bs h; obtain ⟨v9, hv9, h⟩ := h
      replace h := bs h; obtain ⟨v10, hv10, h⟩ := h
      refine sw_seq (sw_asgG (js := [5, 6]) ((show EV _ _ _ _ from (xe_tupP (e := eN) (f := eN) (a := min v7 v8) (b := max v9 v10) (av_cons (ev_cb (av_cons (ev_op (ev_var rfl) (ev_var rfl) (rb_ixLP (e := eN) hv7)) (av_cons (ev_op (ev_var rfl) (ev_op (ev_var rfl) (ev_var rfl) rb_addN) (rb_ixLP (e := eN) hv8)) av_nil)) ra_min2N) (av_cons (ev_cb (av_cons (ev_op (ev_var rfl) (ev_var rfl) (rb_ixLP (e := eN) hv9)) (av_cons (ev_op (ev_var rfl) (ev_op (ev_var rfl) (ev_var rfl) rb_addN) (rb_ixLP (e := eN) hv10)) av_nil)) ra_max2N) av_nil)))).ew ⟨_, rfl, gw_tup2 ?_⟩))
      show SW K _ ⟨[some (.d ((eT eN) wished)), some (.d (eN count)), some (.d ((eL eN) s5)), some (.d (eN x3)), some (.d (eN x6)), some (.d (eN (min v7 v8))), some (.d (eN (max v9 v10))), none], []⟩ _
      replace h := bs h; obtain ⟨ys13, hys13, h⟩ := h
      refine sw_last (sw_asgE (ev_mapG (js := [7]) (ea := eN) (eb := eN) (ei_list (ev_var rfl)) (fun _ h => h) hys13 (fun x11 y_ h => by refine gw_name ?_; replace h := bs h; obtain ⟨v12, hv12, h⟩ := h; obtain rfl := Option.some.inj h; exact ⟨rfl, (ev_ifO (ea := eN) (tv_test (ev_op (ev_var rfl) (ev_var rfl) rb_eqN)) hv12 (fun v h => by obtain rfl := Option.some.inj h; exact (ev_var rfl)) (fun v h => by obtain rfl := Option.some.inj h; exact (ev_var rfl)))⟩)) ?_)
      show SW K _ ⟨[some (.d ((eT eN) wished)), some (.d (eN count)), some (.d ((eL eN) ys13)), some (.d (eN x3)), some (.d (eN x6)), some (.d (eN (min v7 v8))), some (.d (eN (max v9 v10))), none], []⟩ _
      obtain rfl := Option.some.inj h
      exact sw_next ⟨(.same (.same (.same (.same (.skip (.skip (.skip (.skip .nil)))))))), rfl⟩
    show SW K _ ⟨[some (.d ((eT eN) wished)), some (.d (eN count)), some (.d ((eL eN) s14)), some (.d (eN x3)), none, none, none, none], []⟩ _
    obtain rfl := Option.some.inj h
    exact sw_next ⟨(.same (.same (.same (.skip (.skip (.skip (.skip (.skip .nil)))))))), rfl⟩
  show SW K _ ⟨[some (.d ((eT eN) wished)), some (.d (eN count)), some (.d ((eL eN) s15)), none, none, none, none, none], []⟩ _
  obtain rfl := Option.some.inj h
  exact sw_retE (ev_var rfl) rfl
abbrev s_widest_word : Stmt := topS 11
abbrev n_widest_word : List Str := ["wished", "count", "same", "order", "one"]
theorem sc_widest_word : FnScope n_widest_word ["wished", "count"] (defScope s_widest_word) := ⟨rfl, rfl, rfl, by decide +kernel, rfl, by decide +kernel, by decide +kernel⟩
theorem ok_widest_word (T : Bl mg) (D : Def K mg "widest_word" "widest_word" s_widest_word ["wished", "count"])
    (H_groups : Has P w K mg base 1 "groups" ["wished", "count"] (spP K (RP2 f_groups (eT eN) eN (eL eN)))) : Has P w K mg base 2 "widest_word" ["wished", "count"] (spP K (RP2 f_widest_word (eT eN) eN eS)) := by
  obtain ⟨_, _, G_groups, m_groups, k_groups, bd_groups⟩ := H_groups
  refine def_P D sc_widest_word (fun ds r h => by obtain ⟨_, _, _, _, e, _⟩ := h; rw [e]; rfl) fun f cdv A outer s H E hr => ⟨_, (pss_cons (ps_set (i := 2) sc_widest_word.nd rfl (Or.inl rfl) (pe_call G_groups (hr.mono (by omega)) (by rfl) m_groups k_groups bd_groups .nil pass0 (pa_cons (pv 0) (pa_cons (pv 1) pa_nil))))
    (pss_cons (ps_set (i := 3) sc_widest_word.nd rfl (Or.inr rfl) (pe_callB (call_sortedDI rfl) (by rfl) T.b_sorted (by decide +kernel) (pa_cons (pe_dc (own := [("one", 4)]) (g := gName 4) rfl sc_widest_word.nd (pi_listK (K := K) rfl (pv 2)) (blkOk_by (N := n_widest_word) (sc := defScope s_widest_word) (by decide +kernel)) (fun _ _ _ _ _ => (pg_name (i := 4) sc_widest_word.nd rfl (Or.inl rfl))) (fun _ _ _ _ _ => pts_nil) (fun _ _ _ _ _ => (pv 4)) (fun _ _ _ _ _ => pe_bl)) pa_nil)))
    (pss_cons (ps_if (pt_cmpR (op_gtU (K := K) rfl hr.units) (pe_callB (call_lenU (K := K) rfl) (by rfl) T.b_len PySem.boot_len (pa_cons (pv 3) pa_nil)) (pe_callB (call_lenU (K := K) rfl) (by rfl) T.b_len PySem.boot_len (pa_cons (pe_gS (by rfl) T.c_LETTERS) pa_nil)) (nomark _))
      (pss_one D2.ps_never)
      pss_nil)
    (pss_one (ps_ret (pe_joinK (K := K) rfl pe_str (pe_lc (own := [("one", 4)]) (g := gName 4) rfl sc_widest_word.nd (pi_listK (K := K) rfl (pv 2)) (blkOk_by (N := n_widest_word) (sc := defScope s_widest_word) (by decide +kernel)) (fun _ _ _ _ _ => (pg_name (i := 4) sc_widest_word.nd rfl (Or.inl rfl))) (fun _ _ _ _ _ => pts_nil) (fun _ _ _ _ _ => (pe_ix (ix_U (K := K) rfl) (pe_gS (by rfl) T.c_LETTERS) (pe_bmC (K := K) rfl (pe_bm PySem.F.plainAttrs_list PySem.F.slot_list_index PySem.F.type_list_index (mt_indexK (K := K) rfl) (pv 3) (pa_cons (pv 4) pa_nil))) (fun _ _ => rfl)))))))))), fun ds r hR => ?_⟩
  obtain ⟨wished, count, v_, h, rfl, rfl⟩ := hR
  unfold f_widest_word at h
  show SW K _ ⟨[some (.d ((eT eN) wished)), some (.d (eN count)), none, none, none], []⟩ _
  replace h := bs h; obtain ⟨v1, hv1, h⟩ := h
  refine sw_seq (sw_asgE (ev_call (ds := [(eT eN) wished, eN count]) (av_cons (ev_var rfl) (av_cons (ev_var rfl) av_nil)) ⟨_, _, _, hv1, rfl, rfl⟩) ?_)
  show SW K _ ⟨[some (.d ((eT eN) wished)), some (.d (eN count)), some (.d ((eL eN) v1)), none, none], []⟩ _
  replace h := bs h; obtain ⟨ys3, hys3, h⟩ := h
  replace h := bs h; obtain ⟨v4, hv4, h⟩ := h
  refine sw_seq (sw_asgE (NW.ev (nw_srtT (ev := eB) hv4 (rd_sortI in_N) (dw_dcG (js := [4]) (ea := eN) (ev := eB) ky_N (ei_list (ev_var rfl)) (fun _ h => h) hys3 (fun x2 o_ h => by refine gw_name ?_; exact dc_all (ev := eB) (e := eN) rfl (Option.some.inj h).symm (ev_var rfl) ev_bl)))) ?_)
  show SW K _ ⟨[some (.d ((eT eN) wished)), some (.d (eN count)), some (.d ((eL eN) v1)), some (.d ((eL eN) v4)), none], []⟩ _
  replace h := bs h; obtain ⟨v5, hv5, h⟩ := h
  refine sw_seq (sw_ifE (tv_test (ev_op (ev_cb (av_cons (ev_var rfl) av_nil) (ra_lenLE (e := eN))) (ev_cb (av_cons (ev_txt (l := [97, 98, 99, 100, 101, 102, 103, 104, 105, 106, 107, 108, 109, 110, 111, 112, 113, 114, 115, 116, 117, 118, 119, 120, 121, 122]) (by decide +kernel)) av_nil) (ra_lenP hv5)) rb_gtN)) (fun b6 => ?_) (fun b6 => ?_))
  · replace h := ifT h b6
    show SW K _ ⟨[some (.d ((eT eN) wished)), some (.d (eN count)), some (.d ((eL eN) v1)), some (.d ((eL eN) v4)), none], []⟩ _
    cases h
  · replace h := ifF h b6
    show SW K _ ⟨[some (.d ((eT eN) wished)), some (.d (eN count)), some (.d ((eL eN) v1)), some (.d ((eL eN) v4)), none], []⟩ _
    refine sw_next ?_
    show SW K _ ⟨[some (.d ((eT eN) wished)), some (.d (eN count)), some (.d ((eL eN) v1)), some (.d ((eL eN) v4)), none], []⟩ _
    replace h := bs h; obtain ⟨ys10, hys10, h⟩ := h
    replace h := bs h; obtain ⟨v11, hv11, h⟩ := h
    obtain rfl := Option.some.inj h
    exact sw_retE (ev_joinCP (ev_txt (l := []) (by decide +kernel)) (ev_mapG (js := [4]) (ea := eN) (eb := eC) (ei_list (ev_var rfl)) (fun _ h => h) hys10 (fun x7 y_ h => by refine gw_name ?_; replace h := bs h; obtain ⟨v8, hv8, h⟩ := h; replace h := bs h; obtain ⟨v9, hv9, h⟩ := h; obtain rfl := Option.some.inj h; exact ⟨rfl, (ev_op (ev_txt (l := [97, 98, 99, 100, 101, 102, 103, 104, 105, 106, 107, 108, 109, 110, 111, 112, 113, 114, 115, 116, 117, 118, 119, 120, 121, 122]) (by decide +kernel)) (ev_bm (ev_var rfl) ty_lst (av_cons (ev_var rfl) av_nil) (rm_idxLN hv8)) (rb_ixSP hv9))⟩)) hv11) rfl
abbrev s__law_gcd : Stmt := topS 21
abbrev n__law_gcd : List Str := ["one", "two"]
theorem sc__law_gcd : FnScope n__law_gcd ["one", "two"] (defScope s__law_gcd) := ⟨rfl, rfl, rfl, by decide +kernel, rfl, by decide +kernel, by decide +kernel⟩
theorem ok__law_gcd (T : Bl mg) (D : Def K mg "_law_gcd" "_law_gcd" s__law_gcd ["one", "two"]) : Has P w K mg base 1 "_law_gcd" ["one", "two"] (spP K (RP2 f__law_gcd eN eN eN)) := by
  refine def_P D sc__law_gcd (fun ds r h => by obtain ⟨_, _, _, _, e, _⟩ := h; rw [e]; rfl) fun f cdv A outer s H E hr => ⟨_, (pss_cons (ps_while PassesOwn.never (pt_cmpR (op_gtU (K := K) rfl hr.units) (pv 1) pe_int (nomark _))
      (pss_one (ps_par rfl sc__law_gcd.nd (i := 0) (j := 1) rfl rfl (by decide) rfl rfl (pa_cons (pv 1) (pa_cons (pe_op op_sub (pv 0) (pe_op op_mulU (pe_op op_fdivN (pv 0) (pv 1)) (pv 1))) pa_nil)) (by rfl))))
    (pss_one (ps_ret (pv 0)))), fun ds r hR => ?_⟩
  obtain ⟨one, two, v_, h, rfl, rfl⟩ := hR
  unfold f__law_gcd at h
  show SW K _ ⟨[some (.d (eN one)), some (.d (eN two))], []⟩ _
  replace h := bs h; obtain ⟨s6, hs6, h⟩ := h
  refine sw_seq (sw_whS (fun (s1 : Nat × Nat) => (⟨[some (.d (eN s1.1)), some (.d (eN s1.2))], []⟩ : AS)) ⟨(.same (.same .nil)), rfl⟩ hs6 (fun s1 b_ h => by unfold f__law_gcd_b1 at h; obtain rfl := Option.some.inj h; exact (tv_test (ev_op (ev_var rfl) (ev_nat 0) rb_gtN))) (fun s1 s_ hc_ h => ?_) ?_)
  · show SW K _ ⟨[some (.d (eN s1.1)), some (.d (eN s1.2))], []⟩ _
    unfold f__law_gcd_b2 at h
    replace h := bs h; obtain ⟨v3, hv3, h⟩ := h
    replace h := bs h; obtain ⟨v4, hv4, h⟩ := h
    replace h := bs h; obtain ⟨v5, hv5, h⟩ := h
    refine sw_last (sw_par ((av_cons (ev_var rfl) (av_cons (ev_op (ev_var rfl) (ev_op (ev_op (ev_var rfl) (ev_var rfl) (rb_fdivP hv3)) (ev_var rfl) (rb_mulP hv4)) (rb_subP hv5)) av_nil)).ew ⟨_, _, rfl, ?_⟩))
    show SW K _ ⟨[some (.d (eN s1.2)), some (.d (eN v5))], []⟩ _
    obtain rfl := Option.some.inj h
    exact sw_next ⟨(.same (.same .nil)), rfl⟩
  show SW K _ ⟨[some (.d (eN s6.1)), some (.d (eN s6.2))], []⟩ _
  obtain rfl := Option.some.inj h
  exact sw_retE (ev_var rfl) rfl
abbrev s_both_periods : Stmt := topS 12
abbrev n_both_periods : List Str := ["first", "other", "count", "word"]
theorem sc_both_periods : FnScope n_both_periods ["first", "other", "count"] (defScope s_both_periods) := ⟨rfl, rfl, rfl, by decide +kernel, rfl, by decide +kernel, by decide +kernel⟩
theorem ok_both_periods (T : Bl mg) (D : Def K mg "both_periods" "both_periods" s_both_periods ["first", "other", "count"])
    (H_widest_word : Has P w K mg base 2 "widest_word" ["wished", "count"] (spP K (RP2 f_widest_word (eT eN) eN eS)))
    (H_has_period : Has P w K mg base 1 "has_period" ["word", "period"] (spP K (RP2 f_has_period eS eN eB))) : Has P w K mg base 3 "both_periods" ["first", "other", "count"] (spP K (RP3 f_both_periods eN eN eN (eP eS eD))) := by
  obtain ⟨_, _, G_widest_word, m_widest_word, k_widest_word, bd_widest_word⟩ := H_widest_word
  obtain ⟨_, _, G_has_period, m_has_period, k_has_period, bd_has_period⟩ := H_has_period
  refine def_P D sc_both_periods (fun ds r h => by obtain ⟨_, _, _, _, _, e, _⟩ := h; rw [e]; rfl) fun f cdv A outer s H E hr => ⟨_, (pss_cons (ps_if (pt_cmpR (op_geU (K := K) rfl hr.units) (pv 2) (pe_op op_sub (pe_op (op_addU (K := K)) (pv 0) (pv 1)) (pe_callBfun cr_gcd (by rfl) T.i_gcd (pa_cons (pv 0) (pa_cons (pv 1) pa_nil)))) (nomark _))
      (pss_one (ps_ret (pe_tup (pa_cons pe_str (pa_cons (pe_callBfun cr_gcd (by rfl) T.i_gcd (pa_cons (pv 0) (pa_cons (pv 1) pa_nil))) pa_nil)))))
      pss_nil)
    (pss_cons (ps_set (i := 3) sc_both_periods.nd rfl (Or.inl rfl) (pe_call G_widest_word (hr.mono (by omega)) (by rfl) m_widest_word k_widest_word bd_widest_word .nil pass0 (pa_cons (pe_tup (pa_cons (pv 0) (pa_cons (pv 1) pa_nil))) (pa_cons (pv 2) pa_nil))))
    (pss_one (ps_ret (pe_ifExp (pt_val (pe_call G_has_period (hr.mono (by omega)) (by rfl) m_has_period k_has_period bd_has_period .nil pass0 (pa_cons (pv 3) (pa_cons (pe_callBfun cr_gcd (by rfl) T.i_gcd (pa_cons (pv 0) (pa_cons (pv 1) pa_nil))) pa_nil)))) (pe_tup (pa_cons pe_str (pa_cons (pe_callBfun cr_gcd (by rfl) T.i_gcd (pa_cons (pv 0) (pa_cons (pv 1) pa_nil))) pa_nil))) (pe_tup (pa_cons pe_str (pa_cons (pv 3) pa_nil)))))))), fun ds r hR => ?_⟩
  obtain ⟨first, other, count, v_, h, rfl, rfl⟩ := hR
  unfold f_both_periods at h
  show SW K _ ⟨[some (.d (eN first)), some (.d (eN other)), some (.d (eN count)), none], []⟩ _
  replace h := bs h; obtain ⟨v1, hv1, h⟩ := h
  refine sw_seq (sw_ifE (tv_test (ev_op (ev_var rfl) (ev_op (ev_op (ev_var rfl) (ev_var rfl) rb_addN) (ev_cb (av_cons (ev_var rfl) (av_cons (ev_var rfl) av_nil)) ra_gcd) (rb_subP hv1)) rb_geN)) (fun b2 => ?_) (fun b2 => ?_))
  · replace h := ifT h b2
    show SW K _ ⟨[some (.d (eN first)), some (.d (eN other)), some (.d (eN count)), none], []⟩ _
    obtain rfl := Option.some.inj h
    exact sw_retE (evd (d' := (eP eS eD) (([111, 110, 101] : List Nat), (eN (Nat.gcd first other)))) (xe_tupP (e := eS) (f := eN) (a := ([111, 110, 101] : List Nat)) (b := Nat.gcd first other) (av_cons (ev_txt (l := [111, 110, 101]) (by decide +kernel)) (av_cons (ev_cb (av_cons (ev_var rfl) (av_cons (ev_var rfl) av_nil)) ra_gcd) av_nil))) rfl) rfl
  · replace h := ifF h b2
    show SW K _ ⟨[some (.d (eN first)), some (.d (eN other)), some (.d (eN count)), none], []⟩ _
    refine sw_next ?_
    show SW K _ ⟨[some (.d (eN first)), some (.d (eN other)), some (.d (eN count)), none], []⟩ _
    replace h := bs h; obtain ⟨v3, hv3, h⟩ := h
    refine sw_seq (sw_asgE (ev_call (ds := [(eT eN) [first, other], eN count]) (av_cons (evd (d' := (eT eN) [first, other]) (xe_tupP (e := eN) (f := eN) (a := first) (b := other) (av_cons (ev_var rfl) (av_cons (ev_var rfl) av_nil))) rfl) (av_cons (ev_var rfl) av_nil)) ⟨_, _, _, hv3, rfl, rfl⟩) ?_)
    show SW K _ ⟨[some (.d (eN first)), some (.d (eN other)), some (.d (eN count)), some (.d (eS v3))], []⟩ _
    replace h := bs h; obtain ⟨v4, hv4, h⟩ := h
    replace h := bs h; obtain ⟨v5, hv5, h⟩ := h
    obtain rfl := Option.some.inj h
    exact sw_retE (ev_ifO (ea := (eP eS eD)) (tv_B (ev_call (ds := [eS v3, eN (Nat.gcd first other)]) (av_cons (ev_var rfl) (av_cons (ev_cb (av_cons (ev_var rfl) (av_cons (ev_var rfl) av_nil)) ra_gcd) av_nil)) ⟨_, _, _, hv4, rfl, rfl⟩)) hv5 (fun v h => by obtain rfl := Option.some.inj h; exact (evd (d' := (eP eS eD) (([111, 110, 101] : List Nat), (eN (Nat.gcd first other)))) (xe_tupP (e := eS) (f := eN) (a := ([111, 110, 101] : List Nat)) (b := Nat.gcd first other) (av_cons (ev_txt (l := [111, 110, 101]) (by decide +kernel)) (av_cons (ev_cb (av_cons (ev_var rfl) (av_cons (ev_var rfl) av_nil)) ra_gcd) av_nil))) rfl)) (fun v h => by obtain rfl := Option.some.inj h; exact (evd (d' := (eP eS eD) (([119, 111, 114, 100] : List Nat), (eS v3))) (xe_tupP (e := eS) (f := eS) (a := ([119, 111, 114, 100] : List Nat)) (b := v3) (av_cons (ev_txt (l := [119, 111, 114, 100]) (by decide +kernel)) (av_cons (ev_var rfl) av_nil))) rfl))) rfl
abbrev s_RfI : Stmt := inS (topS 3) 0
abbrev n_RfI : List Str := ["self", "word"]
theorem sc_RfI : FnScope n_RfI ["self", "word"] (defScope s_RfI) := ⟨rfl, rfl, rfl, by decide +kernel, rfl, by decide +kernel, by decide +kernel⟩
theorem ok_RfI {C W f1 : Addr} {mc : Value} (R : RfOk K mg C W f1 mc) {fd : FuncData} (F : Fun K "__init__" "Refused.__init__" s_RfI f1 fd) : FnOk P w K mg base CX0 1 f1 fd ["self", "word"] (spI C) :=
  F.ok sc_RfI (fun vs H Q E h => by obtain ⟨_, _, e, _⟩ := h; rw [e]; rfl) fun cdv A outer s H vs Q E hr h => ⟨_, (pss_cons (ps_expr (pe_weinit (by rfl) R.gW R.rd R.vV (pa_cons (pv 0) (pa_cons (pv 1) pa_nil)))) (pss_one (ps_ost (pv 0) (pv 1)))), init_run R rfl h⟩
theorem okX_widest_word (T : Bl mg) {C W f1 : Addr} {mc : Value} (R : RfOk K mg C W f1 mc) {fd1 : FuncData} (HI : FnOk P w K mg base CX0 1 f1 fd1 ["self", "word"] (spI C)) (HB : Binds K fd1 ["self", "word"] []) (D : Def K mg "widest_word" "widest_word" s_widest_word ["wished", "count"])
    (H_groups : Has P w K mg base 1 "groups" ["wished", "count"] (spP K (RP2 f_groups (eT eN) eN (eL eN)))) : HasX P w K mg base C 3 "widest_word" ["wished", "count"] (RX2 x_widest_word (eT eN) eN) := by
  obtain ⟨_, _, G_groups, m_groups, k_groups, bd_groups⟩ := H_groups
  refine def_X (k := 2) (C := C) D sc_widest_word (fun ds r h => by obtain ⟨_, _, _, _, e, _⟩ := h; rw [e]; rfl) fun f cdv A outer s H E hr => ⟨_, (pss_cons (ps_set (i := 2) sc_widest_word.nd rfl (Or.inl rfl) (pe_call G_groups (hr.mono (by omega)) (by rfl) m_groups k_groups bd_groups .nil pass0 (pa_cons (pv 0) (pa_cons (pv 1) pa_nil))))
    (pss_cons (ps_set (i := 3) sc_widest_word.nd rfl (Or.inr rfl) (pe_callB (call_sortedDI rfl) (by rfl) T.b_sorted (by decide +kernel) (pa_cons (pe_dc (own := [("one", 4)]) (g := gName 4) rfl sc_widest_word.nd (pi_listK (K := K) rfl (pv 2)) (blkOk_by (N := n_widest_word) (sc := defScope s_widest_word) (by decide +kernel)) (fun _ _ _ _ _ => (pg_name (i := 4) sc_widest_word.nd rfl (Or.inl rfl))) (fun _ _ _ _ _ => pts_nil) (fun _ _ _ _ _ => (pv 4)) (fun _ _ _ _ _ => pe_bl)) pa_nil)))
    (pss_cons (ps_if (pt_cmpR (op_gtU (K := K) rfl hr.units) (pe_callB (call_lenU (K := K) rfl) (by rfl) T.b_len PySem.boot_len (pa_cons (pv 3) pa_nil)) (pe_callB (call_lenU (K := K) rfl) (by rfl) T.b_len PySem.boot_len (pa_cons (pe_gS (by rfl) T.c_LETTERS) pa_nil)) (nomark _))
      (pss_one (L2N.ps_raise rfl (L2N.takes_of rfl rfl rfl rfl) (pmk_oexN R.oex R.iC R.tI HI (hr.mono (by omega)) HB .nil pass0 (by rfl) R.gC (pa_cons pe_str pa_nil))))
      pss_nil)
    (pss_one (ps_ret (pe_joinK (K := K) rfl pe_str (pe_lc (own := [("one", 4)]) (g := gName 4) rfl sc_widest_word.nd (pi_listK (K := K) rfl (pv 2)) (blkOk_by (N := n_widest_word) (sc := defScope s_widest_word) (by decide +kernel)) (fun _ _ _ _ _ => (pg_name (i := 4) sc_widest_word.nd rfl (Or.inl rfl))) (fun _ _ _ _ _ => pts_nil) (fun _ _ _ _ _ => (pe_ix (ix_U (K := K) rfl) (pe_gS (by rfl) T.c_LETTERS) (pe_bmC (K := K) rfl (pe_bm PySem.F.plainAttrs_list PySem.F.slot_list_index PySem.F.type_list_index (mt_indexK (K := K) rfl) (pv 3) (pa_cons (pv 4) pa_nil))) (fun _ _ => rfl)))))))))), fun fr ds r hR hE => ?_⟩
  obtain ⟨wished, count, v_, h, rfl, rfl⟩ := hR
  unfold x_widest_word at h
  replace hE : EX H C E v_ := hE
  refine xw_of ?_
  show XS K _ _ ⟨[some (.d ((eT eN) wished)), some (.d (eN count)), none, none, none], []⟩ _
  replace h := bs h; obtain ⟨v1, hv1, h⟩ := h
  refine xs_seq (sw_asgE (ev_call (ds := [(eT eN) wished, eN count]) (av_cons (ev_var rfl) (av_cons (ev_var rfl) av_nil)) ⟨_, _, _, hv1, rfl, rfl⟩) ?_)
  show XS K _ _ ⟨[some (.d ((eT eN) wished)), some (.d (eN count)), some (.d ((eL eN) v1)), none, none], []⟩ _
  replace h := bs h; obtain ⟨ys3, hys3, h⟩ := h
  replace h := bs h; obtain ⟨v4, hv4, h⟩ := h
  refine xs_seq (sw_asgE (NW.ev (nw_srtT (ev := eB) hv4 (rd_sortI in_N) (dw_dcG (js := [4]) (ea := eN) (ev := eB) ky_N (ei_list (ev_var rfl)) (fun _ h => h) hys3 (fun x2 o_ h => by refine gw_name ?_; exact dc_all (ev := eB) (e := eN) rfl (Option.some.inj h).symm (ev_var rfl) ev_bl)))) ?_)
  show XS K _ _ ⟨[some (.d ((eT eN) wished)), some (.d (eN count)), some (.d ((eL eN) v1)), some (.d ((eL eN) v4)), none], []⟩ _
  replace h := bs h; obtain ⟨v5, hv5, h⟩ := h
  refine xs_seqX (xs_ifE (tv_test (ev_op (ev_cb (av_cons (ev_var rfl) av_nil) (ra_lenLE (e := eN))) (ev_cb (av_cons (ev_txt (l := [97, 98, 99, 100, 101, 102, 103, 104, 105, 106, 107, 108, 109, 110, 111, 112, 113, 114, 115, 116, 117, 118, 119, 120, 121, 122]) (by decide +kernel)) av_nil) (ra_lenP hv5)) rb_gtN)) (fun b6 => ?_) (fun b6 => ?_))
  · replace h := ifT h b6
    show XS K _ _ ⟨[some (.d ((eT eN) wished)), some (.d (eN count)), some (.d ((eL eN) v1)), some (.d ((eL eN) v4)), none], []⟩ _
    obtain rfl := Option.some.inj h
    exact xs_raise hE (av_cons (ev_txt (l := [108, 101, 116, 116, 101, 114, 115]) (by decide +kernel)) av_nil)
  · replace h := ifF h b6
    show XS K _ _ ⟨[some (.d ((eT eN) wished)), some (.d (eN count)), some (.d ((eL eN) v1)), some (.d ((eL eN) v4)), none], []⟩ _
    refine xs_next ?_
    show XS K _ _ ⟨[some (.d ((eT eN) wished)), some (.d (eN count)), some (.d ((eL eN) v1)), some (.d ((eL eN) v4)), none], []⟩ _
    cases h
end
end LW
set_option Elab.async false
set_option pp.maxSteps 2000
set_option linter.all false
set_option maxRecDepth 100000
set_option maxHeartbeats 4000000
namespace LW
open PySem PySem.Spec PyProof.Rows L2 D2
section
variable {P : Program} {w : World} {K : PySem.W.Frag} {mg : Str → Option Value} {base : Heap}
theorem okH__law_same (T : Bl mg) (D : Def K mg "_law_same" "_law_same" s__law_same ["actual", "expected"]) : HasH P w K mg base 1 "_law_same" ["actual", "expected"] R_txt := by
  refine def_PH (k := 0) D sc__law_same (fun ds r h => by obtain ⟨_, e, _⟩ := h; rw [e]; rfl) fun f cdv A outer s H E p hr => ⟨_, (pss_cons (ps_if (PW.pt (pw_or (pt_val (pe_callB (call_isiU (K := K) rfl) (by rfl) T.b_isinstance (by decide +kernel) (pa_cons (pv 1) (pa_cons (pe_bltn (v := .ty "tuple") (by rfl) T.b_tuple (by decide +kernel) rfl) pa_nil)))) (pw_or1 (pt_val (pe_callB (call_isiU (K := K) rfl) (by rfl) T.b_isinstance (by decide +kernel) (pa_cons (pv 1) (pa_cons (pe_bltn (v := .ty "list") (by rfl) T.b_list (by decide +kernel) rfl) pa_nil))))))) D2.pss_never pss_nil) (pss_cons (ps_if (PW.pt (pw_or (pt_val (pe_callB (call_isiU (K := K) rfl) (by rfl) T.b_isinstance (by decide +kernel) (pa_cons (pv 1) (pa_cons (pe_bltn (v := .ty "bool") (by rfl) T.b_bool (by decide +kernel) rfl) pa_nil)))) (pw_or1 (pt_val (pe_callB (call_isiU (K := K) rfl) (by rfl) T.b_isinstance (by decide +kernel) (pa_cons (pv 0) (pa_cons (pe_bltn (v := .ty "bool") (by rfl) T.b_bool (by decide +kernel) rfl) pa_nil))))))) D2.pss_never pss_nil) (pss_cons (ps_if (PW.pt (pw_or (pt_cmpR op_isN (pv 1) pe_non (nomark _)) (pw_or1 (pt_cmpR op_isN (pv 0) pe_non (nomark _))))) D2.pss_never pss_nil) (pss_cons (ps_if (PW.pt (pw_or (pt_val (pe_callB (call_isiU (K := K) rfl) (by rfl) T.b_isinstance (by decide +kernel) (pa_cons (pv 1) (pa_cons (pe_bltn (v := .ty "str") (by rfl) T.b_str (by decide +kernel) rfl) pa_nil)))) (pw_or1 (pt_val (pe_callB (call_isiU (K := K) rfl) (by rfl) T.b_isinstance (by decide +kernel) (pa_cons (pv 0) (pa_cons (pe_bltn (v := .ty "str") (by rfl) T.b_str (by decide +kernel) rfl) pa_nil))))))) (pss_one (ps_ret (pe_and (pe_callB (call_isiU (K := K) rfl) (by rfl) T.b_isinstance (by decide +kernel) (pa_cons (pv 1) (pa_cons (pe_bltn (v := .ty "str") (by rfl) T.b_str (by decide +kernel) rfl) pa_nil))) (pe_and (pe_callB (call_isiU (K := K) rfl) (by rfl) T.b_isinstance (by decide +kernel) (pa_cons (pv 0) (pa_cons (pe_bltn (v := .ty "str") (by rfl) T.b_str (by decide +kernel) rfl) pa_nil))) (pe_one (pe_cmpR (op_eqU (K := K) rfl hr.units) (pv 0) (pv 1) (nomark _))))))) pss_nil) D2.pss_never)))), fun ds r hR => ?_⟩
  obtain ⟨l, rfl, rfl⟩ := hR
  have isi : ∀ {S : AS} {i : Nat} {d : PyData} {x : String} {b : Bool}, S.sl[i]? = some (some (.d d)) → kitB (tyN d) x = some b → EV K (tCB (rIsi K) (tCons (tVar i) (tCons (tC (.ty x)) tNil))) S (dB b) := fun h1 h2 => ev_isi (ev_var h1) h2
  refine sw_seq (sw_ifF (tv_or (c := false) (tv_B (isi rfl (by rfl))) fun _ => tv_B (isi rfl (by rfl))) rfl (sw_next ?_))
  refine sw_seq (sw_ifF (tv_or (c := false) (tv_B (isi rfl (by rfl))) fun _ => tv_B (isi rfl (by rfl))) rfl (sw_next ?_))
  refine sw_seq (sw_ifF (tv_or (b := false) (c := false) (tv_test (ev_op (ev_var rfl) ev_non rb_isN)) fun _ => tv_test (ev_op (ev_var rfl) ev_non rb_isN)) rfl (sw_next ?_))
  exact sw_seq (sw_ifT (tv_or (b := true) (c := true) (tv_B (isi rfl (by rfl))) fun h => by cases h) rfl (sw_retE (ev_and (b := true) (isi rfl (by rfl)) fun _ => ev_and (b := true) (isi rfl (by rfl)) fun _ => ev_op (ev_var rfl) (ev_var rfl) rb_eqS) (by simp)))
abbrev s_law : Stmt := topS 23
abbrev n_law : List Str := ["script", "draws", "word", "table", "k", "inner", "p", "steps", "wished", "count", "same", "order", "letters", "widest", "first", "other", "d", "told", "e", "size", "one"]
theorem sc_law : FnScope n_law ["script"] (defScope s_law) := ⟨rfl, rfl, rfl, by decide +kernel, rfl, by decide +kernel, by decide +kernel⟩
theorem ok_law (hlaw : ∀ ns : List Int, ns.length ≤ 63 → f_law ns = some true) (T : Bl mg) {f : Addr} {fd : FuncData} (F : Fun K "law" "law" s_law f fd) {C W f1 : Addr} {mc : Value} (R : RfOk K mg C W f1 mc)
    (HX_widest_word : HasX P w K mg base C 3 "widest_word" ["wished", "count"] (RX2 x_widest_word (eT eN) eN))
    (HH__law_same : HasH P w K mg base 1 "_law_same" ["actual", "expected"] R_txt)
    (H__law_draws : Has P w K mg base 1 "_law_draws" ["script"] (spN K R__law_draws))
    (H__law_word : Has P w K mg base 3 "_law_word" ["draws", "letters", "most"] (spD K (RD2 f__law_word eS eN eS)))
    (H__law_letters : Has P w K mg base 3 "_law_letters" ["draws"] (spD K (RD0 f__law_letters eS)))
    (H__law_same : Has P w K mg base 6 "_law_same" ["actual", "expected"] (spP K (R_same 5)))
    (H_border_table : Has P w K mg base 1 "border_table" ["word"] (spP K (RP1 f_border_table eS (eT eN))))
    (H__law_has : Has P w K mg base 1 "_law_has" ["word", "period"] (spP K (RP2 f__law_has eS eN eB)))
    (H_periods : Has P w K mg base 3 "periods" ["word"] (spP K (RP1 f_periods eS (eT eN))))
    (H_borders : Has P w K mg base 2 "borders" ["word"] (spP K (RP1 f_borders eS (eT eN))))
    (H_has_period : Has P w K mg base 1 "has_period" ["word", "period"] (spP K (RP2 f_has_period eS eN eB)))
    (H__law_draw : Has P w K mg base 1 "_law_draw" ["draws", "limit"] (spD K (RD1 dr eN eN)))
    (H__law_groups : Has P w K mg base 1 "_law_groups" ["wished", "count"] (spP K (RP2 f__law_groups (eT eN) eN (eL eZ))))
    (H_groups : Has P w K mg base 1 "groups" ["wished", "count"] (spP K (RP2 f_groups (eT eN) eN (eL eN))))
    (H_widest_word : Has P w K mg base 2 "widest_word" ["wished", "count"] (spP K (RP2 f_widest_word (eT eN) eN eS)))
    (H__law_gcd : Has P w K mg base 1 "_law_gcd" ["one", "two"] (spP K (RP2 f__law_gcd eN eN eN)))
    (H__law_pick : Has P w K mg base 2 "_law_pick" ["draws", "row"] (spD K R_pick))
    (H_both_periods : Has P w K mg base 3 "both_periods" ["first", "other", "count"] (spP K (RP3 f_both_periods eN eN eN (eP eS eD)))) :
    FnOk P w K mg base CX0 7 f fd ["script"] (spP K R_law) := by
  obtain ⟨_, _, GH__law_same, mH__law_same, kH__law_same, bdH__law_same⟩ := HH__law_same
  obtain ⟨_, _, GX_widest_word, mX_widest_word, kX_widest_word, bdX_widest_word⟩ := HX_widest_word
  obtain ⟨_, _, G__law_draws, m__law_draws, k__law_draws, bd__law_draws⟩ := H__law_draws
  obtain ⟨_, _, G__law_word, m__law_word, k__law_word, bd__law_word⟩ := H__law_word
  obtain ⟨_, _, G__law_letters, m__law_letters, k__law_letters, bd__law_letters⟩ := H__law_letters
  obtain ⟨_, _, G__law_same, m__law_same, k__law_same, bd__law_same⟩ := H__law_same
  obtain ⟨_, _, G_border_table, m_border_table, k_border_table, bd_border_table⟩ := H_border_table
  obtain ⟨_, _, G__law_has, m__law_has, k__law_has, bd__law_has⟩ := H__law_has
  obtain ⟨_, _, G_periods, m_periods, k_periods, bd_periods⟩ := H_periods
  obtain ⟨_, _, G_borders, m_borders, k_borders, bd_borders⟩ := H_borders
  obtain ⟨_, _, G_has_period, m_has_period, k_has_period, bd_has_period⟩ := H_has_period
  obtain ⟨_, _, G__law_draw, m__law_draw, k__law_draw, bd__law_draw⟩ := H__law_draw
  obtain ⟨_, _, G__law_groups, m__law_groups, k__law_groups, bd__law_groups⟩ := H__law_groups
  obtain ⟨_, _, G_groups, m_groups, k_groups, bd_groups⟩ := H_groups
  obtain ⟨_, _, G_widest_word, m_widest_word, k_widest_word, bd_widest_word⟩ := H_widest_word
  obtain ⟨_, _, G__law_gcd, m__law_gcd, k__law_gcd, bd__law_gcd⟩ := H__law_gcd
  obtain ⟨_, _, G__law_pick, m__law_pick, k__law_pick, bd__law_pick⟩ := H__law_pick
  obtain ⟨_, _, G_both_periods, m_both_periods, k_both_periods, bd_both_periods⟩ := H_both_periods
  refine def_L F sc_law (fun ds r ⟨_, _, e, _⟩ => by rw [e]; rfl) fun f cdv A outer s H E hr => ⟨_, (pss_cons (ps_set (i := 1) sc_law.nd rfl (Or.inr rfl) (pe_call G__law_draws (hr.mono (by omega)) (by rfl) m__law_draws k__law_draws bd__law_draws .nil pass0 (pa_cons (pv 0) pa_nil)))
    (pss_cons (ps_set (i := 2) sc_law.nd rfl (Or.inr rfl) (pe_call G__law_word (hr.mono (by omega)) (by rfl) m__law_word k__law_word bd__law_word .nil pass0 (pa_cons (pv 1) (pa_cons (pe_call G__law_letters (hr.mono (by omega)) (by rfl) m__law_letters k__law_letters bd__law_letters .nil pass0 (pa_cons (pv 1) pa_nil)) (pa_cons pe_int pa_nil)))))
    (pss_cons (ps_set (i := 3) sc_law.nd rfl (Or.inl rfl) (pe_lst pa_nil))
    (pss_cons (ps_for PassesOwn.never rfl (pi_range2 (by rfl) T.b_range (pa_cons pe_int (pa_cons (pe_op (op_addU (K := K)) (pe_callB (call_lenU (K := K) rfl) (by rfl) T.b_len PySem.boot_len (pa_cons (pv 2) pa_nil)) pe_int) pa_nil))) (pg_name (i := 4) sc_law.nd rfl (Or.inr rfl))
      (pss_one (ps_expr (pe_bm PySem.F.plainAttrs_list PySem.F.slot_list_append PySem.F.type_list_append mt_append (pv 3) (pa_cons (pe_callB (call_maxU (K := K) rfl rfl hr.units) (by rfl) T.b_max (by decide +kernel) (pa_cons (pe_lc (own := [("size", 19)]) (g := gName 19) rfl sc_law.nd (pi_range1 (by rfl) T.b_range (pa_cons (pv 4) pa_nil)) (blkOk_by (N := n_law) (sc := defScope s_law) (by decide +kernel)) (fun _ _ _ _ _ => (pg_name (i := 19) sc_law.nd rfl (Or.inl rfl))) (fun _ _ _ _ _ => (pts_one (pt_cmpR (op_eqU (K := K) rfl hr.units) (pe_slice (sl_U (K := K) rfl) (pv 2) po_none (po_some (pv 19))) (pe_slice (sl_U (K := K) rfl) (pv 2) (po_some (pe_op op_sub (pv 4) (pv 19))) (po_some (pv 4))) (nomark _)))) (fun _ _ _ _ _ => (pv 19))) pa_nil)) pa_nil)))))
    (pss_cons (ps_if (pt_not (pt_val (pe_call G__law_same (hr.mono (by omega)) (by rfl) m__law_same k__law_same bd__law_same .nil pass0 (pa_cons (pe_call G_border_table (hr.mono (by omega)) (by rfl) m_border_table k_border_table bd_border_table .nil pass0 (pa_cons (pv 2) pa_nil)) (pa_cons (pe_callTy (call_tupV (K := K) rfl rfl) (by rfl) T.b_tuple (by decide +kernel) (pa_cons (pv 3) pa_nil)) pa_nil)))))
      (pss_one (ps_ret pe_bl))
      pss_nil)
    (pss_cons (ps_setLc (i := 5) (own := [("size", 19)]) (g := gName 19) rfl sc_law.nd rfl rfl (sw_true rfl rfl rfl (by decide +kernel)) (pi_range2 (by rfl) T.b_range (pa_cons pe_int (pa_cons (pe_callB (call_lenU (K := K) rfl) (by rfl) T.b_len PySem.boot_len (pa_cons (pv 2) pa_nil)) pa_nil))) (blkOk_by (N := n_law) (sc := defScope s_law) (by decide +kernel)) (fun _ _ _ _ _ => (pg_name (i := 19) sc_law.nd rfl (Or.inl rfl))) (fun _ _ _ _ _ => (pts_one (pt_cmpR (op_eqU (K := K) rfl hr.units) (pe_slice (sl_U (K := K) rfl) (pv 2) po_none (po_some (pv 19))) (pe_slice (sl_U (K := K) rfl) (pv 2) (po_some (pe_op op_sub (pe_callB (call_lenU (K := K) rfl) (by rfl) T.b_len PySem.boot_len (pa_cons (pv 2) pa_nil)) (pv 19))) po_none) (nomark _)))) (fun _ _ _ _ _ => (pv 19)))
    (pss_cons (ps_setLc (i := 7) (own := [("p", 6)]) (g := gName 6) rfl sc_law.nd rfl rfl (sw_true rfl rfl rfl (by decide +kernel)) (pi_range2 (by rfl) T.b_range (pa_cons pe_int (pa_cons (pe_op (op_addU (K := K)) (pe_callB (call_lenU (K := K) rfl) (by rfl) T.b_len PySem.boot_len (pa_cons (pv 2) pa_nil)) pe_int) pa_nil))) (blkOk_by (N := n_law) (sc := defScope s_law) (by decide +kernel)) (fun _ _ _ _ _ => (pg_name (i := 6) sc_law.nd rfl (Or.inl rfl))) (fun _ _ _ _ _ => (pts_one (pt_val (pe_call G__law_has (hr.mono (by omega)) (by rfl) m__law_has k__law_has bd__law_has .nil pass0 (pa_cons (pv 2) (pa_cons (pv 6) pa_nil)))))) (fun _ _ _ _ _ => (pv 6)))
    (pss_cons (ps_if (PW.pt (pw_or (pt_not (pt_val (pe_call G__law_same (hr.mono (by omega)) (by rfl) m__law_same k__law_same bd__law_same .nil pass0 (pa_cons (pe_call G_borders (hr.mono (by omega)) (by rfl) m_borders k_borders bd_borders .nil pass0 (pa_cons (pv 2) pa_nil)) (pa_cons (pe_callTy (call_tupV (K := K) rfl rfl) (by rfl) T.b_tuple (by decide +kernel) (pa_cons (pv 5) pa_nil)) pa_nil))))) (pw_or1 (pt_not (pt_val (pe_call G__law_same (hr.mono (by omega)) (by rfl) m__law_same k__law_same bd__law_same .nil pass0 (pa_cons (pe_call G_periods (hr.mono (by omega)) (by rfl) m_periods k_periods bd_periods .nil pass0 (pa_cons (pv 2) pa_nil)) (pa_cons (pe_callTy (call_tupV (K := K) rfl rfl) (by rfl) T.b_tuple (by decide +kernel) (pa_cons (pv 7) pa_nil)) pa_nil))))))))
      (pss_one (ps_ret pe_bl))
      pss_nil)
    (pss_cons (ps_for PassesOwn.never rfl (pi_range2 (by rfl) T.b_range (pa_cons pe_int (pa_cons (pe_op (op_addU (K := K)) (pe_callB (call_lenU (K := K) rfl) (by rfl) T.b_len PySem.boot_len (pa_cons (pv 2) pa_nil)) pe_int) pa_nil))) (pg_name (i := 6) sc_law.nd rfl (Or.inl rfl))
      (pss_one (ps_if (pt_not (pt_val (pe_call G__law_same (hr.mono (by omega)) (by rfl) m__law_same k__law_same bd__law_same .nil pass0 (pa_cons (pe_call G_has_period (hr.mono (by omega)) (by rfl) m_has_period k_has_period bd_has_period .nil pass0 (pa_cons (pv 2) (pa_cons (pv 6) pa_nil))) (pa_cons (pe_call G__law_has (hr.mono (by omega)) (by rfl) m__law_has k__law_has bd__law_has .nil pass0 (pa_cons (pv 2) (pa_cons (pv 6) pa_nil))) pa_nil)))))
        (pss_one (ps_ret pe_bl))
        pss_nil)))
    (pss_cons (ps_set (i := 8) sc_law.nd rfl (Or.inl rfl) (pe_callTy (call_tupV (K := K) rfl rfl) (by rfl) T.b_tuple (by decide +kernel) (pa_cons (pe_lc (own := [("k", 4)]) (g := gName 4) rfl sc_law.nd (pi_range1 (by rfl) T.b_range (pa_cons (pe_call G__law_draw (hr.mono (by omega)) (by rfl) m__law_draw k__law_draw bd__law_draw .nil pass0 (pa_cons (pv 1) (pa_cons pe_int pa_nil))) pa_nil)) (blkOk_by (N := n_law) (sc := defScope s_law) (by decide +kernel)) (fun _ _ _ _ _ => (pg_name (i := 4) sc_law.nd rfl (Or.inl rfl))) (fun _ _ _ _ _ => pts_nil) (fun _ _ _ _ _ => (pe_op (op_addU (K := K)) pe_int (pe_call G__law_draw (hr.mono (by omega)) (by rfl) m__law_draw k__law_draw bd__law_draw .nil pass0 (pa_cons (pv 1) (pa_cons pe_int pa_nil)))))) pa_nil)))
    (pss_cons (ps_set (i := 9) sc_law.nd rfl (Or.inl rfl) (pe_call G__law_draw (hr.mono (by omega)) (by rfl) m__law_draw k__law_draw bd__law_draw .nil pass0 (pa_cons (pv 1) (pa_cons pe_int pa_nil))))
    (pss_cons (ps_set (i := 10) sc_law.nd rfl (Or.inl rfl) (pe_call G__law_groups (hr.mono (by omega)) (by rfl) m__law_groups k__law_groups bd__law_groups .nil pass0 (pa_cons (pv 8) (pa_cons (pv 9) pa_nil))))
    (pss_cons (ps_if (pt_not (pt_val (pe_call G__law_same (hr.mono (by omega)) (by rfl) m__law_same k__law_same bd__law_same .nil pass0 (pa_cons (pe_call G_groups (hr.mono (by omega)) (by rfl) m_groups k_groups bd_groups .nil pass0 (pa_cons (pv 8) (pa_cons (pv 9) pa_nil))) (pa_cons (pv 10) pa_nil)))))
      (pss_one (ps_ret pe_bl))
      pss_nil)
    (pss_cons (ps_set (i := 11) sc_law.nd rfl (Or.inr rfl) (pe_callB (call_sortedDI rfl) (by rfl) T.b_sorted (by decide +kernel) (pa_cons (pe_callTy (call_dictU (K := K) rfl rfl) (by rfl) T.b_dict (by decide +kernel) (pa_cons (pe_lc (own := [("one", 20)]) (g := gName 20) rfl sc_law.nd (pi_listK (K := K) rfl (pv 10)) (blkOk_by (N := n_law) (sc := defScope s_law) (by decide +kernel)) (fun _ _ _ _ _ => (pg_name (i := 20) sc_law.nd rfl (Or.inl rfl))) (fun _ _ _ _ _ => pts_nil) (fun _ _ _ _ _ => (pe_tup (pa_cons (pv 20) (pa_cons pe_int pa_nil))))) pa_nil)) pa_nil)))
    (pss_cons (ps_set (i := 12) sc_law.nd rfl (Or.inr rfl) pe_str)
    (pss_cons (ps_set (i := 13) sc_law.nd rfl (Or.inr rfl) (pe_joinK (K := K) rfl pe_str (pe_lc (own := [("one", 20)]) (g := gName 20) rfl sc_law.nd (pi_listK (K := K) rfl (pv 10)) (blkOk_by (N := n_law) (sc := defScope s_law) (by decide +kernel)) (fun _ _ _ _ _ => (pg_name (i := 20) sc_law.nd rfl (Or.inl rfl))) (fun _ _ _ _ _ => pts_nil) (fun _ _ _ _ _ => (pe_ix (ix_U (K := K) rfl) (pv 12) (pe_bmC (K := K) rfl (pe_bm PySem.F.plainAttrs_list PySem.F.slot_list_index PySem.F.type_list_index (mt_indexK (K := K) rfl) (pv 11) (pa_cons (pv 20) pa_nil))) (fun _ _ => rfl))))))
    (pss_cons (ps_if (PW.pt (pw_or (pt_not (pt_val (pe_call G__law_same (hr.mono (by omega)) (by rfl) m__law_same k__law_same bd__law_same .nil pass0 (pa_cons (pe_call G_widest_word (hr.mono (by omega)) (by rfl) m_widest_word k_widest_word bd_widest_word .nil pass0 (pa_cons (pv 8) (pa_cons (pv 9) pa_nil))) (pa_cons (pv 13) pa_nil))))) (pw_or1 (pt_cmpR (op_gtU (K := K) rfl hr.units) (pe_callB (call_lenU (K := K) rfl) (by rfl) T.b_len PySem.boot_len (pa_cons (pe_lc (own := [("p", 6)]) (g := gName 6) rfl sc_law.nd (pi_tupK (K := K) rfl (pv 8)) (blkOk_by (N := n_law) (sc := defScope s_law) (by decide +kernel)) (fun _ _ _ _ _ => (pg_name (i := 6) sc_law.nd rfl (Or.inl rfl))) (fun _ _ _ _ _ => (pts_one (pt_not (pt_val (pe_call G__law_has (hr.mono (by omega)) (by rfl) m__law_has k__law_has bd__law_has .nil pass0 (pa_cons (pv 13) (pa_cons (pv 6) pa_nil))))))) (fun _ _ _ _ _ => (pv 6))) pa_nil)) pe_int (nomark _)))))
      (pss_one (ps_ret pe_bl))
      pss_nil)
    (pss_cons (ps_par rfl sc_law.nd (i := 14) (j := 15) rfl rfl (by decide) rfl rfl (pa_cons (pe_op (op_addU (K := K)) pe_int (pe_call G__law_draw (hr.mono (by omega)) (by rfl) m__law_draw k__law_draw bd__law_draw .nil pass0 (pa_cons (pv 1) (pa_cons pe_int pa_nil)))) (pa_cons (pe_op (op_addU (K := K)) pe_int (pe_call G__law_draw (hr.mono (by omega)) (by rfl) m__law_draw k__law_draw bd__law_draw .nil pass0 (pa_cons (pv 1) (pa_cons pe_int pa_nil)))) pa_nil)) (by rfl))
    (pss_cons (ps_set (i := 16) sc_law.nd rfl (Or.inl rfl) (pe_call G__law_gcd (hr.mono (by omega)) (by rfl) m__law_gcd k__law_gcd bd__law_gcd .nil pass0 (pa_cons (pv 14) (pa_cons (pv 15) pa_nil))))
    (pss_cons (ps_set (i := 9) sc_law.nd rfl (Or.inl rfl) (pe_call G__law_pick (hr.mono (by omega)) (by rfl) m__law_pick k__law_pick bd__law_pick .nil pass0 (pa_cons (pv 1) (pa_cons (pe_lst (pa_cons (pe_op op_sub (pe_op (op_addU (K := K)) (pv 14) (pv 15)) (pv 16)) (pa_cons (pe_op op_sub (pe_op op_sub (pe_op (op_addU (K := K)) (pv 14) (pv 15)) (pv 16)) pe_int) (pa_cons (pe_call G__law_draw (hr.mono (by omega)) (by rfl) m__law_draw k__law_draw bd__law_draw .nil pass0 (pa_cons (pv 1) (pa_cons pe_int pa_nil))) pa_nil)))) pa_nil))))
    (pss_cons (ps_set (i := 17) sc_law.nd rfl (Or.inl rfl) (pe_call G_both_periods (hr.mono (by omega)) (by rfl) m_both_periods k_both_periods bd_both_periods .nil pass0 (pa_cons (pv 14) (pa_cons (pv 15) (pa_cons (pv 9) pa_nil)))))
    (pss_cons (ps_set (i := 10) sc_law.nd rfl (Or.inl rfl) (pe_call G__law_groups (hr.mono (by omega)) (by rfl) m__law_groups k__law_groups bd__law_groups .nil pass0 (pa_cons (pe_tup (pa_cons (pv 14) (pa_cons (pv 15) pa_nil))) (pa_cons (pv 9) pa_nil))))
    (pss_cons (ps_set (i := 11) sc_law.nd rfl (Or.inr rfl) (pe_callB (call_sortedDI rfl) (by rfl) T.b_sorted (by decide +kernel) (pa_cons (pe_callTy (call_dictU (K := K) rfl rfl) (by rfl) T.b_dict (by decide +kernel) (pa_cons (pe_lc (own := [("one", 20)]) (g := gName 20) rfl sc_law.nd (pi_listK (K := K) rfl (pv 10)) (blkOk_by (N := n_law) (sc := defScope s_law) (by decide +kernel)) (fun _ _ _ _ _ => (pg_name (i := 20) sc_law.nd rfl (Or.inl rfl))) (fun _ _ _ _ _ => pts_nil) (fun _ _ _ _ _ => (pe_tup (pa_cons (pv 20) (pa_cons pe_int pa_nil))))) pa_nil)) pa_nil)))
    (pss_cons (ps_set (i := 13) sc_law.nd rfl (Or.inr rfl) (pe_joinK (K := K) rfl pe_str (pe_lc (own := [("one", 20)]) (g := gName 20) rfl sc_law.nd (pi_listK (K := K) rfl (pv 10)) (blkOk_by (N := n_law) (sc := defScope s_law) (by decide +kernel)) (fun _ _ _ _ _ => (pg_name (i := 20) sc_law.nd rfl (Or.inl rfl))) (fun _ _ _ _ _ => pts_nil) (fun _ _ _ _ _ => (pe_ix (ix_U (K := K) rfl) (pv 12) (pe_bmC (K := K) rfl (pe_bm PySem.F.plainAttrs_list PySem.F.slot_list_index PySem.F.type_list_index (mt_indexK (K := K) rfl) (pv 11) (pa_cons (pv 20) pa_nil))) (fun _ _ => rfl))))))
    (pss_cons (ps_if (PW.pt (pw_or (pt_not (pt_val (pe_call G__law_same (hr.mono (by omega)) (by rfl) m__law_same k__law_same bd__law_same .nil pass0 (pa_cons (pv 17) (pa_cons (pe_ifExp (pt_val (pe_call G__law_has (hr.mono (by omega)) (by rfl) m__law_has k__law_has bd__law_has .nil pass0 (pa_cons (pv 13) (pa_cons (pv 16) pa_nil)))) (pe_tup (pa_cons pe_str (pa_cons (pv 16) pa_nil))) (pe_tup (pa_cons pe_str (pa_cons (pv 13) pa_nil)))) pa_nil))))) (pw_or1 (PW.pt (pw_and (pt_cmpR (op_geU (K := K) rfl hr.units) (pv 9) (pe_op op_sub (pe_op (op_addU (K := K)) (pv 14) (pv 15)) (pv 16)) (nomark _)) (pw_and1 (pt_cmpR (op_neU (K := K) rfl hr.units) (pe_ix (ix_U (K := K) rfl) (pv 17) pe_int (fun _ _ => rfl)) pe_str (nomark _))))))))
      (pss_one (ps_ret pe_bl))
      pss_nil)
    (pss_one (L2N.ps_try_as (i := 18) rfl rfl sc_law.nd rfl rfl ⟨rfl, by decide, .inl R.gC⟩ takes0N (fun W_ pn_ xe_ tk _ => (pss_one (ps_ret (pe_cmpR (op_eqU (K := K) rfl hr.units) (pe_callS GX_widest_word (hr.mono (by omega)) (by rfl) mX_widest_word kX_widest_word bdX_widest_word (fun σ => L2N.passAt tk σ) (pa_cons (pe_tup pa_nil) (pa_cons pe_int pa_nil))) pe_str (nomark _)))))
      (fun a_ oe_ cls_ d_ pn_ hz hf => (pss_one (ps_ret (L2H.pe_callH (E := fun _ _ _ _ => False) GH__law_same (L2H.roomH_mark (hr.mono (by omega)) _) (hot_suite hz hf) (by rfl) mH__law_same kH__law_same bdH__law_same (fun σ => passH) (pa_cons (pe_xf R.xf R.no hz.zc hf (pv 18)) (pa_cons pe_str pa_nil))))))))))))))))))))))))))))))))), fun ds r hR => ?_⟩
  obtain ⟨script, hns, rfl, rfl⟩ := hR
  obtain ⟨v_, hv_, h⟩ : ∃ v_, v_ = true ∧ f_law script = some v_ := ⟨true, rfl, hlaw script hns⟩
  rw [show PyData.bool true = eB v_ by rw [hv_]]
  clear hv_
  delta f_law at h
  show SW K _ ⟨[some (.d ((eL eZ) script)), none, none, none, none, none, none, none, none, none, none, none, none, none, none, none, none, none, none, none, none], []⟩ _
  replace h := bs h; obtain ⟨m0, hm0, h⟩ := h
  refine sw_seq (sw_asgN (nw_call (AVs.ew (av_cons (ev_var rfl) av_nil) ⟨[eL eZ script], _, rfl, ⟨_, rfl, rfl⟩, ?_⟩)))
  show SW K _ ⟨[some (.d ((eL eZ) script)), some (.o 0), none, none, none, none, none, none, none, none, none, none, none, none, none, none, none, none, none, none, none], [drM (DS.mk script 0 0 1)]⟩ _
  rw [Option.some.inj hm0]
  show SW K _ ⟨[some (.d ((eL eZ) script)), some (.o 0), none, none, none, none, none, none, none, none, none, none, none, none, none, none, none, none, none, none, none], [drM m0]⟩ _
  replace h := bs h; obtain ⟨d1, hd1, h⟩ := h
  replace h := bs h; obtain ⟨d2, hd2, h⟩ := h
  refine sw_seq (sw_asgX (xe_D2 (ea := eS) (eb := eN) (er := eS) hd2 rfl (xe_D0 (er := eS) hd1 rfl rfl) (ev_nat 25) rfl) ?_)
  show SW K _ ⟨[some (.d ((eL eZ) script)), some (.o 0), some (.d (eS d2.1)), none, none, none, none, none, none, none, none, none, none, none, none, none, none, none, none, none, none], [drM d2.2]⟩ _
  refine sw_seq (sw_asgNE (nw_lstE (ea := eN) (l := ([] : List Nat)) av_nil (by first | decide | simp)) ?_)
  show SW K _ ⟨[some (.d ((eL eZ) script)), some (.o 0), some (.d (eS d2.1)), some (.o 1), none, none, none, none, none, none, none, none, none, none, none, none, none, none, none, none, none], [drM d2.2, .l (List.map eN ([] : List Nat))]⟩ _
  replace h := bs h; obtain ⟨v3, hv3, h⟩ := h
  replace h := bs h; obtain ⟨r4, hr4, h⟩ := h
  replace h := bs h; obtain ⟨s16, hs16, h⟩ := h
  refine sw_seq (sw_forS (js := [4]) (ea := eN) (fun (s5 : (List Nat)) => (⟨[some (.d ((eL eZ) script)), some (.o 0), some (.d (eS d2.1)), some (.o 1), none, none, none, none, none, none, none, none, none, none, none, none, none, none, none, none, none], [drM d2.2, .l (List.map eN s5)]⟩ : AS)) (ei_P2 (av_cons (ev_nat 1) (av_cons (ev_op (ev_cb (av_cons (ev_var rfl) av_nil) (ra_lenP hv3)) (ev_nat 1) rb_addN) av_nil)) hr4) ⟨(.same (.same (.same (.same (.skip (.skip (.skip (.skip (.skip (.skip (.skip (.skip (.skip (.skip (.skip (.skip (.skip (.skip (.skip (.skip (.skip .nil))))))))))))))))))))), rfl⟩ hs16 (fun x6 s5 s_ h => ?_) ?_)
  · refine gw_name ?_
    show SW K _ ⟨[some (.d ((eL eZ) script)), some (.o 0), some (.d (eS d2.1)), some (.o 1), some (.d (eN x6)), none, none, none, none, none, none, none, none, none, none, none, none, none, none, none, none], [drM d2.2, .l (List.map eN s5)]⟩ _
    unfold f_law_b2 at h
    replace h := bs h; obtain ⟨r7, hr7, h⟩ := h
    replace h := bs h; obtain ⟨ys13, hys13, h⟩ := h
    replace h := bs h; obtain ⟨v14, hv14, h⟩ := h
    replace h := bs h; obtain ⟨table15, htable15, h⟩ := h
    refine sw_last (sw_appP (ea := eN) htable15 rfl ⟨_, rfl⟩ (ev_cb (av_cons (ev_filG (js := [19]) (ea := eN) (eb := eN) (ei_P (av_cons (ev_var rfl) av_nil) hr7) (fun _ h => h) hys13 (fun x8 y_ h => by refine gw_name ?_; replace h := bs h; obtain ⟨v9, hv9, h⟩ := h; replace h := bs h; obtain ⟨v10, hv10, h⟩ := h; replace h := bs h; obtain ⟨v11, hv11, h⟩ := h; exact (fil_pf (eb := eN) rfl h (tv_test (ev_op (ev_sl (ev_var rfl) ov_none (ov_some (ev_var rfl)) (rsl_toP hv9)) (ev_sl (ev_var rfl) (ov_some (ev_op (ev_var rfl) (ev_var rfl) (rb_subP hv10))) (ov_some (ev_var rfl)) (rsl_midP hv11)) (rb_eqE (e := eS) eq_S dp_S (by decide)))) (fun v h => by obtain rfl := Option.some.inj h; exact ⟨_, rfl, (ev_var rfl)⟩)))) av_nil) (ra_maxNP hv14)) rfl ?_)
    show SW K _ ⟨[some (.d ((eL eZ) script)), some (.o 0), some (.d (eS d2.1)), some (.o 1), some (.d (eN x6)), none, none, none, none, none, none, none, none, none, none, none, none, none, none, none, none], [drM d2.2, .l (List.map eN table15)]⟩ _
    obtain rfl := Option.some.inj h
    exact sw_next ⟨(.same (.same (.same (.same (.skip (.skip (.skip (.skip (.skip (.skip (.skip (.skip (.skip (.skip (.skip (.skip (.skip (.skip (.skip (.skip (.skip .nil))))))))))))))))))))), rfl⟩
  show SW K _ ⟨[some (.d ((eL eZ) script)), some (.o 0), some (.d (eS d2.1)), some (.o 1), none, none, none, none, none, none, none, none, none, none, none, none, none, none, none, none, none], [drM d2.2, .l (List.map eN s16)]⟩ _
  refine sw_frz (j := 1) rfl (by first | exact Nat.zero_le _ | decide) ?_
  show SW K _ ⟨[some (.d ((eL eZ) script)), some (.o 0), some (.d (eS d2.1)), some (.d ((eL eN) s16)), none, none, none, none, none, none, none, none, none, none, none, none, none, none, none, none, none], [drM d2.2]⟩ _
  replace h := bs h; obtain ⟨v17, hv17, h⟩ := h
  replace h := bs h; obtain ⟨v18, hv18, h⟩ := h
  refine sw_seq (sw_ifE (tv_not (tv_B (xe_same (e := (eT eN)) hv18 (ev_call (ds := [eS d2.1]) (av_cons (ev_var rfl) av_nil) ⟨_, _, hv17, rfl, rfl⟩) (ev_cb (av_cons (ev_var rfl) av_nil) (ra_tupLV (e := eN)))))) (fun b19 => ?_) (fun b19 => ?_))
  · replace h := ifT h b19
    show SW K _ ⟨[some (.d ((eL eZ) script)), some (.o 0), some (.d (eS d2.1)), some (.d ((eL eN) s16)), none, none, none, none, none, none, none, none, none, none, none, none, none, none, none, none, none], [drM d2.2]⟩ _
    obtain rfl := Option.some.inj h
    exact sw_retE ev_bl rfl
  · replace h := ifF h b19
    show SW K _ ⟨[some (.d ((eL eZ) script)), some (.o 0), some (.d (eS d2.1)), some (.d ((eL eN) s16)), none, none, none, none, none, none, none, none, none, none, none, none, none, none, none, none, none], [drM d2.2]⟩ _
    refine sw_next ?_
    show SW K _ ⟨[some (.d ((eL eZ) script)), some (.o 0), some (.d (eS d2.1)), some (.d ((eL eN) s16)), none, none, none, none, none, none, none, none, none, none, none, none, none, none, none, none, none], [drM d2.2]⟩ _
    replace h := bs h; obtain ⟨v20, hv20, h⟩ := h
    replace h := bs h; obtain ⟨r21, hr21, h⟩ := h
    replace h := bs h; obtain ⟨ys28, hys28, h⟩ := h
    refine sw_seq (sw_asgE (ev_filG (js := [19]) (ea := eN) (eb := eN) (ei_P2 (av_cons (ev_nat 1) (av_cons (ev_cb (av_cons (ev_var rfl) av_nil) (ra_lenP hv20)) av_nil)) hr21) (fun _ h => h) hys28 (fun x22 y_ h => by refine gw_name ?_; replace h := bs h; obtain ⟨v23, hv23, h⟩ := h; replace h := bs h; obtain ⟨v24, hv24, h⟩ := h; replace h := bs h; obtain ⟨v25, hv25, h⟩ := h; replace h := bs h; obtain ⟨v26, hv26, h⟩ := h; exact (fil_pf (eb := eN) rfl h (tv_test (ev_op (ev_sl (ev_var rfl) ov_none (ov_some (ev_var rfl)) (rsl_toP hv23)) (ev_sl (ev_var rfl) (ov_some (ev_op (ev_cb (av_cons (ev_var rfl) av_nil) (ra_lenP hv24)) (ev_var rfl) (rb_subP hv25))) ov_none (rsl_fromP hv26)) (rb_eqE (e := eS) eq_S dp_S (by decide)))) (fun v h => by obtain rfl := Option.some.inj h; exact ⟨_, rfl, (ev_var rfl)⟩)))) ?_)
    show SW K _ ⟨[some (.d ((eL eZ) script)), some (.o 0), some (.d (eS d2.1)), some (.d ((eL eN) s16)), none, some (.d ((eL eN) ys28)), none, none, none, none, none, none, none, none, none, none, none, none, none, none, none], [drM d2.2]⟩ _
    replace h := bs h; obtain ⟨v29, hv29, h⟩ := h
    replace h := bs h; obtain ⟨r30, hr30, h⟩ := h
    replace h := bs h; obtain ⟨ys34, hys34, h⟩ := h
    refine sw_seq (sw_asgE (ev_filG (js := [6]) (ea := eN) (eb := eN) (ei_P2 (av_cons (ev_nat 1) (av_cons (ev_op (ev_cb (av_cons (ev_var rfl) av_nil) (ra_lenP hv29)) (ev_nat 1) rb_addN) av_nil)) hr30) (fun _ h => h) hys34 (fun x31 y_ h => by refine gw_name ?_; replace h := bs h; obtain ⟨v32, hv32, h⟩ := h; exact (fil_pf (eb := eN) rfl h (tv_B (ev_call (ds := [eS d2.1, eN x31]) (av_cons (ev_var rfl) (av_cons (ev_var rfl) av_nil)) ⟨_, _, _, hv32, rfl, rfl⟩)) (fun v h => by obtain rfl := Option.some.inj h; exact ⟨_, rfl, (ev_var rfl)⟩)))) ?_)
    show SW K _ ⟨[some (.d ((eL eZ) script)), some (.o 0), some (.d (eS d2.1)), some (.d ((eL eN) s16)), none, some (.d ((eL eN) ys28)), none, some (.d ((eL eN) ys34)), none, none, none, none, none, none, none, none, none, none, none, none, none], [drM d2.2]⟩ _
    replace h := bs h; obtain ⟨v35, hv35, h⟩ := h
    replace h := bs h; obtain ⟨v36, hv36, h⟩ := h
    replace h := bs h; obtain ⟨v39, hv39, h⟩ := h
    refine sw_seq (sw_ifE (tv_orO (tv_not (tv_B (xe_same (e := (eT eN)) hv36 (ev_call (ds := [eS d2.1]) (av_cons (ev_var rfl) av_nil) ⟨_, _, hv35, rfl, rfl⟩) (ev_cb (av_cons (ev_var rfl) av_nil) (ra_tupLV (e := eN)))))) hv39 (fun v h => by replace h := bs h; obtain ⟨v37, hv37, h⟩ := h; replace h := bs h; obtain ⟨v38, hv38, h⟩ := h; obtain rfl := Option.some.inj h; exact (tv_not (tv_B (xe_same (e := (eT eN)) hv38 (ev_call (ds := [eS d2.1]) (av_cons (ev_var rfl) av_nil) ⟨_, _, hv37, rfl, rfl⟩) (ev_cb (av_cons (ev_var rfl) av_nil) (ra_tupLV (e := eN)))))))) (fun b40 => ?_) (fun b40 => ?_))
    · replace h := ifT h b40
      show SW K _ ⟨[some (.d ((eL eZ) script)), some (.o 0), some (.d (eS d2.1)), some (.d ((eL eN) s16)), none, some (.d ((eL eN) ys28)), none, some (.d ((eL eN) ys34)), none, none, none, none, none, none, none, none, none, none, none, none, none], [drM d2.2]⟩ _
      obtain rfl := Option.some.inj h
      exact sw_retE ev_bl rfl
    · replace h := ifF h b40
      show SW K _ ⟨[some (.d ((eL eZ) script)), some (.o 0), some (.d (eS d2.1)), some (.d ((eL eN) s16)), none, some (.d ((eL eN) ys28)), none, some (.d ((eL eN) ys34)), none, none, none, none, none, none, none, none, none, none, none, none, none], [drM d2.2]⟩ _
      refine sw_next ?_
      show SW K _ ⟨[some (.d ((eL eZ) script)), some (.o 0), some (.d (eS d2.1)), some (.d ((eL eN) s16)), none, some (.d ((eL eN) ys28)), none, some (.d ((eL eN) ys34)), none, none, none, none, none, none, none, none, none, none, none, none, none], [drM d2.2]⟩ _
      replace h := bs h; obtain ⟨v41, hv41, h⟩ := h
      replace h := bs h; obtain ⟨r42, hr42, h⟩ := h
      replace h := bs h; obtain ⟨fl108, hfl108, h⟩ := h
      refine sw_seq (sw_forF (js := [6]) (ea := eN) (fun (s43 : Unit) => (⟨[some (.d ((eL eZ) script)), some (.o 0), some (.d (eS d2.1)), some (.d ((eL eN) s16)), none, some (.d ((eL eN) ys28)), none, some (.d ((eL eN) ys34)), none, none, none, none, none, none, none, none, none, none, none, none, none], [drM d2.2]⟩ : AS)) (fun (v : Bool) d mu => d = eB v) (ei_P2 (av_cons (ev_nat 1) (av_cons (ev_op (ev_cb (av_cons (ev_var rfl) av_nil) (ra_lenP hv41)) (ev_nat 3) rb_addN) av_nil)) hr42) ⟨(.same (.same (.same (.same (.skip (.same (.skip (.same (.skip (.skip (.skip (.skip (.skip (.skip (.skip (.skip (.skip (.skip (.skip (.skip (.skip .nil))))))))))))))))))))), rfl⟩ hfl108 (fun x44 s43 fl_ h => ?_) (fun s49 e_ => ?_) (fun v_ d_ mu_ e_ hr => ?_))
      · refine gw_name ?_
        show SW K _ ⟨[some (.d ((eL eZ) script)), some (.o 0), some (.d (eS d2.1)), some (.d ((eL eN) s16)), none, some (.d ((eL eN) ys28)), some (.d (eN x44)), some (.d ((eL eN) ys34)), none, none, none, none, none, none, none, none, none, none, none, none, none], [drM d2.2]⟩ _
        unfold f_law_b1 at h
        replace h := bs h; obtain ⟨v45, hv45, h⟩ := h
        replace h := bs h; obtain ⟨v46, hv46, h⟩ := h
        replace h := bs h; obtain ⟨v47, hv47, h⟩ := h
        refine sw_last (sw_ifE (tv_not (tv_B (xe_same (e := eB) hv47 (ev_call (ds := [eS d2.1, eN x44]) (av_cons (ev_var rfl) (av_cons (ev_var rfl) av_nil)) ⟨_, _, _, hv45, rfl, rfl⟩) (ev_call (ds := [eS d2.1, eN x44]) (av_cons (ev_var rfl) (av_cons (ev_var rfl) av_nil)) ⟨_, _, _, hv46, rfl, rfl⟩)))) (fun b48 => ?_) (fun b48 => ?_))
        · replace h := ifT h b48
          show SW K _ ⟨[some (.d ((eL eZ) script)), some (.o 0), some (.d (eS d2.1)), some (.d ((eL eN) s16)), none, some (.d ((eL eN) ys28)), some (.d (eN x44)), some (.d ((eL eN) ys34)), none, none, none, none, none, none, none, none, none, none, none, none, none], [drM d2.2]⟩ _
          obtain rfl := Option.some.inj h
          exact sw_retE ev_bl ⟨_, rfl, rfl⟩
        · replace h := ifF h b48
          show SW K _ ⟨[some (.d ((eL eZ) script)), some (.o 0), some (.d (eS d2.1)), some (.d ((eL eN) s16)), none, some (.d ((eL eN) ys28)), some (.d (eN x44)), some (.d ((eL eN) ys34)), none, none, none, none, none, none, none, none, none, none, none, none, none], [drM d2.2]⟩ _
          refine sw_next ?_
          obtain rfl := Option.some.inj h
          exact sw_next ⟨_, rfl, ⟨(.same (.same (.same (.same (.skip (.same (.skip (.same (.skip (.skip (.skip (.skip (.skip (.skip (.skip (.skip (.skip (.skip (.skip (.skip (.skip .nil))))))))))))))))))))), rfl⟩⟩
      · subst e_
        replace h := elimF_n h
        show SW K _ ⟨[some (.d ((eL eZ) script)), some (.o 0), some (.d (eS d2.1)), some (.d ((eL eN) s16)), none, some (.d ((eL eN) ys28)), none, some (.d ((eL eN) ys34)), none, none, none, none, none, none, none, none, none, none, none, none, none], [drM d2.2]⟩ _
        replace h := bs h; obtain ⟨d50, hd50, h⟩ := h
        replace h := bs h; obtain ⟨r51, hr51, h⟩ := h
        replace h := bs h; obtain ⟨ys55, hys55, h⟩ := h
        refine sw_seq (sw_asgX (xe_cb (xa_cons (xe_mapS (js := [4]) (ea := eN) (eb := eN) (fun m => [drM m]) (xi_P (xa_cons (xe_D1 (ea := eN) (er := eN) hd50 rfl (ev_nat 4) rfl) xa_nil) hr51) (fun _ h => h) hys55 (fun x52 m53 p_ h => by refine gw_name ?_; replace h := bs h; obtain ⟨d54, hd54, h⟩ := h; obtain rfl := Option.some.inj h; exact (xe_is (xe_op (ev_nat 1) (xe_D1 (ea := eN) (er := eN) hd54 rfl (ev_nat 12) rfl) rb_addN) rfl))) xa_nil) (ra_tupLV (e := eN))) ?_)
        show SW K _ ⟨[some (.d ((eL eZ) script)), some (.o 0), some (.d (eS d2.1)), some (.d ((eL eN) s16)), none, some (.d ((eL eN) ys28)), none, some (.d ((eL eN) ys34)), some (.d ((eT eN) ys55.1)), none, none, none, none, none, none, none, none, none, none, none, none], [drM ys55.2]⟩ _
        replace h := bs h; obtain ⟨d56, hd56, h⟩ := h
        refine sw_seq (sw_asgX (xe_D1 (ea := eN) (er := eN) hd56 rfl (ev_nat 26) rfl) ?_)
        show SW K _ ⟨[some (.d ((eL eZ) script)), some (.o 0), some (.d (eS d2.1)), some (.d ((eL eN) s16)), none, some (.d ((eL eN) ys28)), none, some (.d ((eL eN) ys34)), some (.d ((eT eN) ys55.1)), some (.d (eN d56.1)), none, none, none, none, none, none, none, none, none, none, none], [drM d56.2]⟩ _
        replace h := bs h; obtain ⟨v57, hv57, h⟩ := h
        refine sw_seq (sw_asgE (ev_call (ds := [(eT eN) ys55.1, eN d56.1]) (av_cons (ev_var rfl) (av_cons (ev_var rfl) av_nil)) ⟨_, _, _, hv57, rfl, rfl⟩) ?_)
        show SW K _ ⟨[some (.d ((eL eZ) script)), some (.o 0), some (.d (eS d2.1)), some (.d ((eL eN) s16)), none, some (.d ((eL eN) ys28)), none, some (.d ((eL eN) ys34)), some (.d ((eT eN) ys55.1)), some (.d (eN d56.1)), some (.d ((eL eZ) v57)), none, none, none, none, none, none, none, none, none, none], [drM d56.2]⟩ _
        replace h := bs h; obtain ⟨v58, hv58, h⟩ := h
        replace h := bs h; obtain ⟨v59, hv59, h⟩ := h
        refine sw_seq (sw_ifE (tv_not (tv_B (xe_same (e := (eL eZ)) hv59 (ev_coL (ea := eN) (eb := eZ) (fun _ => rfl) (ev_call (ds := [(eT eN) ys55.1, eN d56.1]) (av_cons (ev_var rfl) (av_cons (ev_var rfl) av_nil)) ⟨_, _, _, hv58, rfl, rfl⟩)) (ev_var rfl)))) (fun b60 => ?_) (fun b60 => ?_))
        · replace h := ifT h b60
          show SW K _ ⟨[some (.d ((eL eZ) script)), some (.o 0), some (.d (eS d2.1)), some (.d ((eL eN) s16)), none, some (.d ((eL eN) ys28)), none, some (.d ((eL eN) ys34)), some (.d ((eT eN) ys55.1)), some (.d (eN d56.1)), some (.d ((eL eZ) v57)), none, none, none, none, none, none, none, none, none, none], [drM d56.2]⟩ _
          obtain rfl := Option.some.inj h
          exact sw_retE ev_bl rfl
        · replace h := ifF h b60
          show SW K _ ⟨[some (.d ((eL eZ) script)), some (.o 0), some (.d (eS d2.1)), some (.d ((eL eN) s16)), none, some (.d ((eL eN) ys28)), none, some (.d ((eL eN) ys34)), some (.d ((eT eN) ys55.1)), some (.d (eN d56.1)), some (.d ((eL eZ) v57)), none, none, none, none, none, none, none, none, none, none], [drM d56.2]⟩ _
          refine sw_next ?_
          show SW K _ ⟨[some (.d ((eL eZ) script)), some (.o 0), some (.d (eS d2.1)), some (.d ((eL eN) s16)), none, some (.d ((eL eN) ys28)), none, some (.d ((eL eN) ys34)), some (.d ((eT eN) ys55.1)), some (.d (eN d56.1)), some (.d ((eL eZ) v57)), none, none, none, none, none, none, none, none, none, none], [drM d56.2]⟩ _
          replace h := bs h; obtain ⟨ys62, hys62, h⟩ := h
          replace h := bs h; obtain ⟨v63, hv63, h⟩ := h
          replace h := bs h; obtain ⟨v64, hv64, h⟩ := h
          refine sw_seq (sw_asgE (NW.ev (nw_srtT (ev := eN) hv64 (rd_sortI in_Z) (dw_is (dw_pairs (ev := eN) ky_Z (ev_mapG (js := [20]) (ea := eZ) (eb := (eP eZ eN)) (ei_list (ev_var rfl)) (fun _ h => h) hys62 (fun x61 y_ h => by refine gw_name ?_; obtain rfl := Option.some.inj h; exact ⟨rfl, (xe_tupP (e := eZ) (f := eN) (a := x61) (b := 1) (av_cons (ev_var rfl) (av_cons (ev_nat 1) av_nil)))⟩))) hv63))) ?_)
          show SW K _ ⟨[some (.d ((eL eZ) script)), some (.o 0), some (.d (eS d2.1)), some (.d ((eL eN) s16)), none, some (.d ((eL eN) ys28)), none, some (.d ((eL eN) ys34)), some (.d ((eT eN) ys55.1)), some (.d (eN d56.1)), some (.d ((eL eZ) v57)), some (.d ((eL eZ) v64)), none, none, none, none, none, none, none, none, none], [drM d56.2]⟩ _
          replace h := bs h; obtain ⟨letters65, hletters65, h⟩ := h
          refine sw_seq (sw_asgE (evs (ea := eS) (ev_txt (l := [97, 98, 99, 100, 101, 102, 103, 104, 105, 106, 107, 108, 109, 110, 111, 112, 113, 114, 115, 116, 117, 118, 119, 120, 121, 122]) (by decide +kernel)) hletters65) ?_)
          show SW K _ ⟨[some (.d ((eL eZ) script)), some (.o 0), some (.d (eS d2.1)), some (.d ((eL eN) s16)), none, some (.d ((eL eN) ys28)), none, some (.d ((eL eN) ys34)), some (.d ((eT eN) ys55.1)), some (.d (eN d56.1)), some (.d ((eL eZ) v57)), some (.d ((eL eZ) v64)), some (.d (eS letters65)), none, none, none, none, none, none, none, none], [drM d56.2]⟩ _
          replace h := bs h; obtain ⟨ys69, hys69, h⟩ := h
          replace h := bs h; obtain ⟨v70, hv70, h⟩ := h
          refine sw_seq (sw_asgE (ev_joinCP (ev_txt (l := []) (by decide +kernel)) (ev_mapG (js := [20]) (ea := eZ) (eb := eC) (ei_list (ev_var rfl)) (fun _ h => h) hys69 (fun x66 y_ h => by refine gw_name ?_; replace h := bs h; obtain ⟨v67, hv67, h⟩ := h; replace h := bs h; obtain ⟨v68, hv68, h⟩ := h; obtain rfl := Option.some.inj h; exact ⟨rfl, (ev_op (ev_var rfl) (ev_bm (ev_var rfl) ty_lst (av_cons (ev_var rfl) av_nil) (rm_idxLZ hv67)) (rb_ixSP hv68))⟩)) hv70) ?_)
          show SW K _ ⟨[some (.d ((eL eZ) script)), some (.o 0), some (.d (eS d2.1)), some (.d ((eL eN) s16)), none, some (.d ((eL eN) ys28)), none, some (.d ((eL eN) ys34)), some (.d ((eT eN) ys55.1)), some (.d (eN d56.1)), some (.d ((eL eZ) v57)), some (.d ((eL eZ) v64)), some (.d (eS letters65)), some (.d (eS v70)), none, none, none, none, none, none, none], [drM d56.2]⟩ _
          replace h := bs h; obtain ⟨v71, hv71, h⟩ := h
          replace h := bs h; obtain ⟨v72, hv72, h⟩ := h
          replace h := bs h; obtain ⟨v77, hv77, h⟩ := h
          refine sw_seq (sw_ifE (tv_orO (tv_not (tv_B (xe_same (e := eS) hv72 (ev_call (ds := [(eT eN) ys55.1, eN d56.1]) (av_cons (ev_var rfl) (av_cons (ev_var rfl) av_nil)) ⟨_, _, _, hv71, rfl, rfl⟩) (ev_var rfl)))) hv77 (fun v h => by replace h := bs h; obtain ⟨ys76, hys76, h⟩ := h; obtain rfl := Option.some.inj h; exact (tv_test (ev_op (ev_cb (av_cons (ev_filG (js := [6]) (ea := eN) (eb := eN) (ei_tup (ev_var rfl)) (fun _ h => h) hys76 (fun x73 y_ h => by refine gw_name ?_; replace h := bs h; obtain ⟨v74, hv74, h⟩ := h; exact (fil_pf (eb := eN) rfl h (tv_not (tv_B (ev_call (ds := [eS v70, eN x73]) (av_cons (ev_var rfl) (av_cons (ev_var rfl) av_nil)) ⟨_, _, _, hv74, rfl, rfl⟩))) (fun v h => by obtain rfl := Option.some.inj h; exact ⟨_, rfl, (ev_var rfl)⟩)))) av_nil) (ra_lenLE (e := eN))) (ev_nat 0) rb_gtN)))) (fun b78 => ?_) (fun b78 => ?_))
          · replace h := ifT h b78
            show SW K _ ⟨[some (.d ((eL eZ) script)), some (.o 0), some (.d (eS d2.1)), some (.d ((eL eN) s16)), none, some (.d ((eL eN) ys28)), none, some (.d ((eL eN) ys34)), some (.d ((eT eN) ys55.1)), some (.d (eN d56.1)), some (.d ((eL eZ) v57)), some (.d ((eL eZ) v64)), some (.d (eS letters65)), some (.d (eS v70)), none, none, none, none, none, none, none], [drM d56.2]⟩ _
            obtain rfl := Option.some.inj h
            exact sw_retE ev_bl rfl
          · replace h := ifF h b78
            show SW K _ ⟨[some (.d ((eL eZ) script)), some (.o 0), some (.d (eS d2.1)), some (.d ((eL eN) s16)), none, some (.d ((eL eN) ys28)), none, some (.d ((eL eN) ys34)), some (.d ((eT eN) ys55.1)), some (.d (eN d56.1)), some (.d ((eL eZ) v57)), some (.d ((eL eZ) v64)), some (.d (eS letters65)), some (.d (eS v70)), none, none, none, none, none, none, none], [drM d56.2]⟩ _
            refine sw_next ?_
            show SW K _ ⟨[some (.d ((eL eZ) script)), some (.o 0), some (.d (eS d2.1)), some (.d ((eL eN) s16)), none, some (.d ((eL eN) ys28)), none, some (.d ((eL eN) ys34)), some (.d ((eT eN) ys55.1)), some (.d (eN d56.1)), some (.d ((eL eZ) v57)), some (.d ((eL eZ) v64)), some (.d (eS letters65)), some (.d (eS v70)), none, none, none, none, none, none, none], [drM d56.2]⟩ _
            replace h := bs h; obtain ⟨d79, hd79, h⟩ := h
            replace h := bs h; obtain ⟨d80, hd80, h⟩ := h
            replace h := bs h; obtain ⟨first81, hfirst81, h⟩ := h
            replace h := bs h; obtain ⟨other82, hother82, h⟩ := h
            refine sw_seq (sw_par ((xa_cons (xes (ea := eN) (xe_op (ev_nat 1) (xe_D1 (ea := eN) (er := eN) hd79 rfl (ev_nat 14) rfl) rb_addN) hfirst81) (xa_cons (xes (ea := eN) (xe_op (ev_nat 1) (xe_D1 (ea := eN) (er := eN) hd80 rfl (ev_nat 14) rfl) rb_addN) hother82) xa_nil)).ew ⟨_, _, rfl, ?_⟩))
            show SW K _ ⟨[some (.d ((eL eZ) script)), some (.o 0), some (.d (eS d2.1)), some (.d ((eL eN) s16)), none, some (.d ((eL eN) ys28)), none, some (.d ((eL eN) ys34)), some (.d ((eT eN) ys55.1)), some (.d (eN d56.1)), some (.d ((eL eZ) v57)), some (.d ((eL eZ) v64)), some (.d (eS letters65)), some (.d (eS v70)), some (.d (eN first81)), some (.d (eN other82)), none, none, none, none, none], [drM d80.2]⟩ _
            replace h := bs h; obtain ⟨v83, hv83, h⟩ := h
            refine sw_seq (sw_asgE (ev_call (ds := [eN first81, eN other82]) (av_cons (ev_var rfl) (av_cons (ev_var rfl) av_nil)) ⟨_, _, _, hv83, rfl, rfl⟩) ?_)
            show SW K _ ⟨[some (.d ((eL eZ) script)), some (.o 0), some (.d (eS d2.1)), some (.d ((eL eN) s16)), none, some (.d ((eL eN) ys28)), none, some (.d ((eL eN) ys34)), some (.d ((eT eN) ys55.1)), some (.d (eN d56.1)), some (.d ((eL eZ) v57)), some (.d ((eL eZ) v64)), some (.d (eS letters65)), some (.d (eS v70)), some (.d (eN first81)), some (.d (eN other82)), some (.d (eN v83)), none, none, none, none], [drM d80.2]⟩ _
            replace h := bs h; obtain ⟨v84, hv84, h⟩ := h
            replace h := bs h; obtain ⟨v85, hv85, h⟩ := h
            replace h := bs h; obtain ⟨v86, hv86, h⟩ := h
            replace h := bs h; obtain ⟨d87, hd87, h⟩ := h
            replace h := bs h; obtain ⟨d88, hd88, h⟩ := h
            refine sw_seq (sw_asgX (xe_pickL (e := eN) hd88 rfl (xe_lstE (e := eN) (l := [v84, v86, d87.1]) (xa_cons (ev_op (ev_op (ev_var rfl) (ev_var rfl) rb_addN) (ev_var rfl) (rb_subP hv84)) (xa_cons (ev_op (ev_op (ev_op (ev_var rfl) (ev_var rfl) rb_addN) (ev_var rfl) (rb_subP hv85)) (ev_nat 1) (rb_subP hv86)) (xa_cons (xe_D1 (ea := eN) (er := eN) hd87 rfl (ev_nat 20) rfl) xa_nil)))) rfl) ?_)
            show SW K _ ⟨[some (.d ((eL eZ) script)), some (.o 0), some (.d (eS d2.1)), some (.d ((eL eN) s16)), none, some (.d ((eL eN) ys28)), none, some (.d ((eL eN) ys34)), some (.d ((eT eN) ys55.1)), some (.d (eN d88.1)), some (.d ((eL eZ) v57)), some (.d ((eL eZ) v64)), some (.d (eS letters65)), some (.d (eS v70)), some (.d (eN first81)), some (.d (eN other82)), some (.d (eN v83)), none, none, none, none], [drM d88.2]⟩ _
            replace h := bs h; obtain ⟨v89, hv89, h⟩ := h
            refine sw_seq (sw_asgE (ev_call (ds := [eN first81, eN other82, eN d88.1]) (av_cons (ev_var rfl) (av_cons (ev_var rfl) (av_cons (ev_var rfl) av_nil))) ⟨_, _, _, _, hv89, rfl, rfl⟩) ?_)
            show SW K _ ⟨[some (.d ((eL eZ) script)), some (.o 0), some (.d (eS d2.1)), some (.d ((eL eN) s16)), none, some (.d ((eL eN) ys28)), none, some (.d ((eL eN) ys34)), some (.d ((eT eN) ys55.1)), some (.d (eN d88.1)), some (.d ((eL eZ) v57)), some (.d ((eL eZ) v64)), some (.d (eS letters65)), some (.d (eS v70)), some (.d (eN first81)), some (.d (eN other82)), some (.d (eN v83)), some (.d ((eP eS eD) v89)), none, none, none], [drM d88.2]⟩ _
            replace h := bs h; obtain ⟨v90, hv90, h⟩ := h
            refine sw_seq (sw_asgE (ev_call (ds := [(eT eN) [first81, other82], eN d88.1]) (av_cons (evd (d' := (eT eN) [first81, other82]) (xe_tupP (e := eN) (f := eN) (a := first81) (b := other82) (av_cons (ev_var rfl) (av_cons (ev_var rfl) av_nil))) rfl) (av_cons (ev_var rfl) av_nil)) ⟨_, _, _, hv90, rfl, rfl⟩) ?_)
            show SW K _ ⟨[some (.d ((eL eZ) script)), some (.o 0), some (.d (eS d2.1)), some (.d ((eL eN) s16)), none, some (.d ((eL eN) ys28)), none, some (.d ((eL eN) ys34)), some (.d ((eT eN) ys55.1)), some (.d (eN d88.1)), some (.d ((eL eZ) v90)), some (.d ((eL eZ) v64)), some (.d (eS letters65)), some (.d (eS v70)), some (.d (eN first81)), some (.d (eN other82)), some (.d (eN v83)), some (.d ((eP eS eD) v89)), none, none, none], [drM d88.2]⟩ _
            replace h := bs h; obtain ⟨ys92, hys92, h⟩ := h
            replace h := bs h; obtain ⟨v93, hv93, h⟩ := h
            replace h := bs h; obtain ⟨v94, hv94, h⟩ := h
            refine sw_seq (sw_asgE (NW.ev (nw_srtT (ev := eN) hv94 (rd_sortI in_Z) (dw_is (dw_pairs (ev := eN) ky_Z (ev_mapG (js := [20]) (ea := eZ) (eb := (eP eZ eN)) (ei_list (ev_var rfl)) (fun _ h => h) hys92 (fun x91 y_ h => by refine gw_name ?_; obtain rfl := Option.some.inj h; exact ⟨rfl, (xe_tupP (e := eZ) (f := eN) (a := x91) (b := 1) (av_cons (ev_var rfl) (av_cons (ev_nat 1) av_nil)))⟩))) hv93))) ?_)
            show SW K _ ⟨[some (.d ((eL eZ) script)), some (.o 0), some (.d (eS d2.1)), some (.d ((eL eN) s16)), none, some (.d ((eL eN) ys28)), none, some (.d ((eL eN) ys34)), some (.d ((eT eN) ys55.1)), some (.d (eN d88.1)), some (.d ((eL eZ) v90)), some (.d ((eL eZ) v94)), some (.d (eS letters65)), some (.d (eS v70)), some (.d (eN first81)), some (.d (eN other82)), some (.d (eN v83)), some (.d ((eP eS eD) v89)), none, none, none], [drM d88.2]⟩ _
            replace h := bs h; obtain ⟨ys98, hys98, h⟩ := h
            replace h := bs h; obtain ⟨v99, hv99, h⟩ := h
            refine sw_seq (sw_asgE (ev_joinCP (ev_txt (l := []) (by decide +kernel)) (ev_mapG (js := [20]) (ea := eZ) (eb := eC) (ei_list (ev_var rfl)) (fun _ h => h) hys98 (fun x95 y_ h => by refine gw_name ?_; replace h := bs h; obtain ⟨v96, hv96, h⟩ := h; replace h := bs h; obtain ⟨v97, hv97, h⟩ := h; obtain rfl := Option.some.inj h; exact ⟨rfl, (ev_op (ev_var rfl) (ev_bm (ev_var rfl) ty_lst (av_cons (ev_var rfl) av_nil) (rm_idxLZ hv96)) (rb_ixSP hv97))⟩)) hv99) ?_)
            show SW K _ ⟨[some (.d ((eL eZ) script)), some (.o 0), some (.d (eS d2.1)), some (.d ((eL eN) s16)), none, some (.d ((eL eN) ys28)), none, some (.d ((eL eN) ys34)), some (.d ((eT eN) ys55.1)), some (.d (eN d88.1)), some (.d ((eL eZ) v90)), some (.d ((eL eZ) v94)), some (.d (eS letters65)), some (.d (eS v99)), some (.d (eN first81)), some (.d (eN other82)), some (.d (eN v83)), some (.d ((eP eS eD) v89)), none, none, none], [drM d88.2]⟩ _
            replace h := bs h; obtain ⟨v100, hv100, h⟩ := h
            replace h := bs h; obtain ⟨v101, hv101, h⟩ := h
            replace h := bs h; obtain ⟨v102, hv102, h⟩ := h
            replace h := bs h; obtain ⟨v104, hv104, h⟩ := h
            refine sw_seq (sw_ifE (tv_orO (tv_not (tv_B (xe_same (e := (eP eS eD)) hv102 (ev_var rfl) (ev_ifO (ea := (eP eS eD)) (tv_B (ev_call (ds := [eS v99, eN v83]) (av_cons (ev_var rfl) (av_cons (ev_var rfl) av_nil)) ⟨_, _, _, hv100, rfl, rfl⟩)) hv101 (fun v h => by obtain rfl := Option.some.inj h; exact (evd (d' := (eP eS eD) (([111, 110, 101] : List Nat), (eN v83))) (xe_tupP (e := eS) (f := eN) (a := ([111, 110, 101] : List Nat)) (b := v83) (av_cons (ev_txt (l := [111, 110, 101]) (by decide +kernel)) (av_cons (ev_var rfl) av_nil))) rfl)) (fun v h => by obtain rfl := Option.some.inj h; exact (evd (d' := (eP eS eD) (([119, 111, 114, 100] : List Nat), (eS v99))) (xe_tupP (e := eS) (f := eS) (a := ([119, 111, 114, 100] : List Nat)) (b := v99) (av_cons (ev_txt (l := [119, 111, 114, 100]) (by decide +kernel)) (av_cons (ev_var rfl) av_nil))) rfl)))))) hv104 (fun v h => by replace h := bs h; obtain ⟨v103, hv103, h⟩ := h; obtain rfl := Option.some.inj h; exact (tv_and (tv_test (ev_op (ev_var rfl) (ev_op (ev_op (ev_var rfl) (ev_var rfl) rb_addN) (ev_var rfl) (rb_subP hv103)) rb_geN)) (fun _ => (tv_test (ev_op (ev_op (ev_var rfl) (ev_nat 0) (rb_ixTN (d := eS v89.1) rfl)) (ev_txt (l := [111, 110, 101]) (by decide +kernel)) (rb_neE (e := eS) eq_S dp_S (by decide)))))))) (fun b105 => ?_) (fun b105 => ?_))
            · replace h := ifT h b105
              show SW K _ ⟨[some (.d ((eL eZ) script)), some (.o 0), some (.d (eS d2.1)), some (.d ((eL eN) s16)), none, some (.d ((eL eN) ys28)), none, some (.d ((eL eN) ys34)), some (.d ((eT eN) ys55.1)), some (.d (eN d88.1)), some (.d ((eL eZ) v90)), some (.d ((eL eZ) v94)), some (.d (eS letters65)), some (.d (eS v99)), some (.d (eN first81)), some (.d (eN other82)), some (.d (eN v83)), some (.d ((eP eS eD) v89)), none, none, none], [drM d88.2]⟩ _
              obtain rfl := Option.some.inj h
              exact sw_retE ev_bl rfl
            · replace h := ifF h b105
              show SW K _ ⟨[some (.d ((eL eZ) script)), some (.o 0), some (.d (eS d2.1)), some (.d ((eL eN) s16)), none, some (.d ((eL eN) ys28)), none, some (.d ((eL eN) ys34)), some (.d ((eT eN) ys55.1)), some (.d (eN d88.1)), some (.d ((eL eZ) v90)), some (.d ((eL eZ) v94)), some (.d (eS letters65)), some (.d (eS v99)), some (.d (eN first81)), some (.d (eN other82)), some (.d (eN v83)), some (.d ((eP eS eD) v89)), none, none, none], [drM d88.2]⟩ _
              refine sw_next ?_
              show SW K _ ⟨[some (.d ((eL eZ) script)), some (.o 0), some (.d (eS d2.1)), some (.d ((eL eN) s16)), none, some (.d ((eL eN) ys28)), none, some (.d ((eL eN) ys34)), some (.d ((eT eN) ys55.1)), some (.d (eN d88.1)), some (.d ((eL eZ) v90)), some (.d ((eL eZ) v94)), some (.d (eS letters65)), some (.d (eS v99)), some (.d (eN first81)), some (.d (eN other82)), some (.d (eN v83)), some (.d ((eP eS eD) v89)), none, none, none], [drM d88.2]⟩ _
              replace h := bs h; obtain ⟨v106, hv106, h⟩ := h
              refine sw_tryS (g := fun te => tOp _ te _) (F := fun te => tRet (tCallS _ _ (tCons te _))) (fun te σ H Q => ⟨_, fun h => h⟩) (fun _ _ _ _ => rfl) (av_cons (evd (d' := (eT eN) []) (xe_tupE (e := eU) (l := []) av_nil) rfl) (av_cons (ev_nat 27) av_nil)) ⟨_, _, _, hv106, rfl, rfl⟩ R.te rfl ?_
              show SW K _ ⟨[some (.d ((eL eZ) script)), some (.o 0), some (.d (eS d2.1)), some (.d ((eL eN) s16)), none, some (.d ((eL eN) ys28)), none, some (.d ((eL eN) ys34)), some (.d ((eT eN) ys55.1)), some (.d (eN d88.1)), some (.d ((eL eZ) v90)), some (.d ((eL eZ) v94)), some (.d (eS letters65)), some (.d (eS v99)), some (.d (eN first81)), some (.d (eN other82)), some (.d (eN v83)), some (.d ((eP eS eD) v89)), none, none, none], [drM d88.2]⟩ _
              replace h := bs h; obtain ⟨v107, hv107, h⟩ := h
              obtain rfl := Option.some.inj h
              exact sw_retE (xe_sameH hv107 ev_str (ev_txt (l := [108, 101, 116, 116, 101, 114, 115]) (by decide +kernel))) rfl
      · subst e_
        replace h := elimF_r h
        obtain rfl := Option.some.inj h
        exact hr
end
end LW
set_option Elab.async false
set_option linter.all false
set_option maxRecDepth 100000
set_option maxHeartbeats 4000000
/-! dicts of keys: what is in them -/
namespace LW
open PySem L2 D2
section
variable {κ ν : Type} [DecidableEq κ]
theorem hasA_iff {k : κ} : ∀ {l : List (κ × ν)}, hasA l k = true ↔ k ∈ keysA l := by
  intro l
  unfold hasA keysA
  rw [List.any_eq_true, List.mem_map]
  constructor
  · rintro ⟨p, hp, h⟩; exact ⟨p, hp, of_decide_eq_true h⟩
  · rintro ⟨p, hp, h⟩; exact ⟨p, hp, decide_eq_true h⟩
theorem keys_put (l : List (κ × ν)) (k : κ) (v : ν) : keysA (putA l k v) = if k ∈ keysA l then keysA l else keysA l ++ [k] := by
  unfold putA
  by_cases c : k ∈ keysA l
  · rw [if_pos (hasA_iff.mpr c), if_pos c]
    unfold keysA
    rw [List.map_map]
    refine List.map_congr_left fun p hp => ?_
    show (if p.1 = k then (p.1, v) else p).1 = p.1
    split <;> rfl
  · rw [if_neg fun z => c (hasA_iff.mp z), if_neg c]
    unfold keysA
    rw [List.map_append]; rfl
theorem keys_fold : ∀ (ps acc : List (κ × ν)), (keysA acc).Nodup → (keysA (ps.foldl (fun a p => putA a p.1 p.2) acc)).Nodup ∧ ∀ k, k ∈ keysA (ps.foldl (fun a p => putA a p.1 p.2) acc) ↔ k ∈ keysA acc ∨ k ∈ ps.map (·.1)
  | [], acc, h => ⟨h, fun k => by simp⟩
  | p :: ps, acc, h => by
    rw [List.foldl_cons]
    have h2 : (keysA (putA acc p.1 p.2)).Nodup := by
      rw [keys_put]
      split
      · exact h
      · rename_i c
        refine List.nodup_append.mpr ⟨h, by simp, fun a ha b hb => ?_⟩
        simp at hb
        subst hb
        exact fun z => c (z ▸ ha)
    obtain ⟨a1, a2⟩ := keys_fold ps _ h2
    refine ⟨a1, fun k => ?_⟩
    rw [a2 k, keys_put, List.map_cons, List.mem_cons]
    split
    · rename_i c
      constructor
      · rintro (h | h)
        · exact .inl h
        · exact .inr (.inr h)
      · rintro (h | h | h)
        · exact .inl h
        · exact .inl (h ▸ c)
        · exact .inr h
    · rw [List.mem_append, List.mem_singleton, or_assoc]
theorem keys_nodup (ps : List (κ × ν)) : (keysA (ofA ps)).Nodup := (keys_fold ps [] .nil).1
theorem keys_mem {ps : List (κ × ν)} {k : κ} : k ∈ keysA (ofA ps) ↔ k ∈ ps.map (·.1) := by
  have := (keys_fold ps [] .nil).2 k
  unfold ofA
  rw [this]
  constructor
  · rintro (h | h)
    · cases h
    · exact h
  · exact .inr
theorem ofA_len {ps : List (κ × ν)} {l : List κ} (h : l.Nodup) (hm : ∀ k, k ∈ l ↔ k ∈ ps.map (·.1)) : (ofA ps).length = l.length := by
  have := (List.perm_ext_iff_of_nodup (keys_nodup ps) h).mpr fun k => by rw [keys_mem, hm]
  have := this.length_eq
  unfold keysA at this
  rw [List.length_map] at this
  exact this
end
end LW
set_option Elab.async false
set_option linter.all false
set_option maxRecDepth 100000
set_option maxHeartbeats 4000000
/-! Lyndon words, plainly -/
namespace LW
open PySem L2 D2
/-- they differ, and the first letter that differs is less -/
def sd (a b : List Nat) : Prop := ∃ p x y s t, a = p ++ x :: s ∧ b = p ++ y :: t ∧ x < y
theorem sd_lt : ∀ {a b : List Nat}, sd a b → a < b := by
  rintro a b ⟨p, x, y, s, t, rfl, rfl, h⟩
  induction p with
  | nil => exact List.cons_lt_cons_iff.mpr (.inl h)
  | cons c p ih => exact List.cons_lt_cons_iff.mpr (.inr ⟨rfl, ih⟩)
theorem sd_cons {c : Nat} {a b : List Nat} : sd (c :: a) (c :: b) ↔ sd a b := by
  constructor
  · rintro ⟨p, x, y, s, t, h1, h2, h⟩
    cases p with
    | nil =>
      injection h1 with e1 _
      injection h2 with e2 _
      omega
    | cons d p =>
      injection h1 with _ e1
      injection h2 with _ e2
      exact ⟨p, x, y, s, t, e1, e2, h⟩
  · rintro ⟨p, x, y, s, t, rfl, rfl, h⟩
    exact ⟨c :: p, x, y, s, t, rfl, rfl, h⟩
theorem sd_app {p a b : List Nat} (h : sd a b) : sd (p ++ a) (p ++ b) := by
  induction p with
  | nil => exact h
  | cons c p ih => exact sd_cons.mpr ih
theorem sd_ext {a b : List Nat} (u v : List Nat) (h : sd a b) : sd (a ++ u) (b ++ v) := by
  obtain ⟨p, x, y, s, t, rfl, rfl, h⟩ := h
  exact ⟨p, x, y, s ++ u, t ++ v, by simp, by simp, h⟩
theorem lt_cases : ∀ {a b : List Nat}, a < b → (∃ c t, b = a ++ c :: t) ∨ sd a b
  | [], [], h => absurd h (List.not_lt_nil _)
  | [], c :: t, _ => .inl ⟨c, t, rfl⟩
  | x :: s, [], h => absurd h (List.not_lt_nil _)
  | x :: s, y :: t, h => by
    rcases List.cons_lt_cons_iff.mp h with h1 | ⟨e1, h1⟩
    · exact .inr ⟨[], x, y, s, t, rfl, rfl, h1⟩
    · subst e1
      rcases lt_cases h1 with ⟨c, r, e⟩ | h2
      · exact .inl ⟨c, r, by rw [e, List.cons_append]⟩
      · exact .inr (sd_cons.mpr h2)
theorem lt_sd {a b : List Nat} (h : a < b) (hl : b.length ≤ a.length) : sd a b := by
  rcases lt_cases h with ⟨c, t, e⟩ | h
  · rw [e, List.length_append, List.length_cons] at hl; omega
  · exact h
theorem pre_lt {a : List Nat} {c : Nat} {t : List Nat} : a < a ++ c :: t := by
  induction a with
  | nil => exact List.nil_lt_cons _ _
  | cons x a ih => exact List.cons_lt_cons_iff.mpr (.inr ⟨rfl, ih⟩)
theorem pre_le (a t : List Nat) : ¬ (a ++ t) < a := by
  cases t with
  | nil => rw [List.append_nil]; exact List.lt_irrefl _
  | cons c t => exact List.lt_asymm pre_lt
theorem lt_pre {p a b : List Nat} : p ++ a < p ++ b ↔ a < b := by
  induction p with
  | nil => exact Iff.rfl
  | cons c p ih =>
    rw [List.cons_append, List.cons_append, List.cons_lt_cons_iff]
    constructor
    · rintro (h | ⟨_, h⟩)
      · omega
      · exact ih.mp h
    · exact fun h => .inr ⟨rfl, ih.mpr h⟩
/-- Lyndon words -/
def lyn (w : List Nat) : Prop := w ≠ [] ∧ ∀ u v, w = u ++ v → u ≠ [] → v ≠ [] → w < v
theorem lyn.sd {w u v : List Nat} (h : lyn w) (e : w = u ++ v) (hu : u ≠ []) (hv : v ≠ []) : sd w v := by
  refine lt_sd (h.2 u v e hu hv) ?_
  rw [e, List.length_append]; omega
theorem lyn_one (c : Nat) : lyn [c] := ⟨List.cons_ne_nil _ _, fun u v e hu hv => by
  have := congrArg List.length e
  rw [List.length_append] at this
  have h1 := List.length_pos_iff.mpr hu
  have h2 := List.length_pos_iff.mpr hv
  simp at this
  omega⟩
/-- a Lyndon word over and over, then a greater letter -/
theorem lyn_more {u u' r : List Nat} {b c k : Nat} (hu : lyn u) (e : u = u' ++ b :: r) (hc : b < c) (hk : 1 ≤ k) : lyn (rep u k ++ (u' ++ [c])) := by
  refine ⟨by simp, ?_⟩
  have hX : ∃ y, rep u k ++ (u' ++ [c]) = u ++ y := by
    obtain ⟨k, rfl⟩ : ∃ j, k = j + 1 := ⟨k - 1, by omega⟩
    exact ⟨rep u k ++ (u' ++ [c]), by rw [rep, List.append_assoc]⟩
  have key : ∀ (j : Nat) (p s : List Nat), rep u j ++ (u' ++ [c]) = p ++ s → s ≠ [] → (j < k ∨ (j = k ∧ p ≠ [])) → sd (rep u k ++ (u' ++ [c])) s := by
    intro j
    induction j with
    | zero =>
      intro p s h hs hp
      obtain ⟨y, hX⟩ := hX
      rw [hX]
      have h : u' ++ [c] = p ++ s := h
      by_cases c1 : p = []
      · subst c1
        have h : u' ++ [c] = s := h
        rw [← h, e, List.append_assoc]
        exact ⟨u', b, c, r ++ y, [], rfl, rfl, hc⟩
      · -- s = s' ++ [c], u' = p ++ s'
        obtain ⟨s', rfl⟩ : ∃ s', s = s' ++ [c] := by
          rcases List.eq_nil_or_concat s with e1 | ⟨s', d, e1⟩
          · exact absurd e1 hs
          · rw [List.concat_eq_append] at e1
            rw [e1, ← List.append_assoc] at h
            have := List.append_inj' h rfl
            refine ⟨s', ?_⟩
            rw [e1, ← this.2]
        rw [← List.append_assoc] at h
        have h2 := (List.append_inj' h rfl).1
        have e2 : u = p ++ (s' ++ b :: r) := by rw [e, h2, List.append_assoc]
        obtain ⟨q, x0, y0, t1, t2, f1, f2, f3⟩ := hu.sd e2 c1 (by simp)
        -- s' ++ b :: r = q ++ y0 :: t2
        rcases List.append_eq_append_iff.mp f2 with ⟨a, g1, g2⟩ | ⟨a, g1, g2⟩
        · -- q = s' ++ a
          cases a with
          | nil =>
            injection g2 with g3 g4
            rw [List.append_nil] at g1
            rw [f1, g1]
            exact ⟨s', x0, c, t1 ++ y, [], by simp, rfl, by omega⟩
          | cons d a =>
            injection g2 with g3 g4
            rw [f1, g1, ← g3]
            exact ⟨s', b, c, a ++ x0 :: t1 ++ y, [], by simp, rfl, hc⟩
        · -- s' = q ++ a
          cases a with
          | nil =>
            injection g2 with g3 g4
            rw [List.append_nil] at g1
            rw [f1, ← g1]
            exact ⟨s', x0, c, t1 ++ y, [], by simp, rfl, by omega⟩
          | cons d a =>
            injection g2 with g3 g4
            rw [f1, g1, ← g3]
            exact ⟨q, x0, y0, t1 ++ y, a ++ [c], by simp, by simp, f3⟩
    | succ j ih =>
      intro p s h hs hp
      have hj : j < k := by omega
      rw [rep, List.append_assoc] at h
      rcases List.append_eq_append_iff.mp h with ⟨a, g1, g2⟩ | ⟨a, g1, g2⟩
      · exact ih a s g2 hs (.inl hj)
      · -- u = p ++ a, s = a ++ ..
        cases p with
        | nil =>
          have g1 : u = a := g1
          subst g1
          rw [g2]
          rcases hp with hp | ⟨_, hp⟩
          · -- s = u ^ (j + 1) ++ z, j + 1 < k
            have h3 := ih [] (rep u j ++ (u' ++ [c])) rfl (by simp) (.inl hj)
            have key2 : ∀ (m n : Nat), n < m → sd (rep u m ++ (u' ++ [c])) (rep u n ++ (u' ++ [c])) := by
              intro m n
              induction n generalizing m with
              | zero =>
                intro hm
                obtain ⟨m, rfl⟩ : ∃ i, m = i + 1 := ⟨m - 1, by omega⟩
                refine ⟨u', b, c, r ++ (rep u m ++ (u' ++ [c])), [], ?_, rfl, hc⟩
                rw [rep]
                conv => lhs; rw [List.append_assoc]; arg 1; rw [e]
                simp
              | succ n ih2 =>
                intro hm
                obtain ⟨m, rfl⟩ : ∃ i, m = i + 1 := ⟨m - 1, by omega⟩
                rw [rep, rep, List.append_assoc, List.append_assoc]
                exact sd_app (ih2 m (by omega))
            have := key2 k (j + 1) hp
            rw [rep, List.append_assoc] at this
            exact this
          · exact absurd rfl hp
        | cons d p =>
          by_cases c2 : a = []
          · subst c2
            rw [g2]
            exact ih [] _ rfl (by simp) (.inl hj)
          · have := hu.sd g1 (List.cons_ne_nil _ _) c2
            obtain ⟨y, hX⟩ := hX
            rw [hX, g2]
            exact sd_ext _ _ this
  intro p s h hp hs
  exact sd_lt (key k p s h hs (.inr ⟨rfl, hp⟩))
theorem lt_le {a b c : List Nat} (h1 : a < b) (h2 : ¬ c < b) : a < c := by
  by_cases h : a < c
  · exact h
  · exact absurd (List.lt_of_le_of_lt (List.not_lt.mp h) h1) h2
theorem le_trans' {a b c : List Nat} (h1 : ¬ b < a) (h2 : ¬ c < b) : ¬ c < a := List.not_lt.mpr (List.le_trans (List.not_lt.mp h1) (List.not_lt.mp h2))
/-- into Lyndon words that never grow -/
structure CF (ps : List (List Nat)) (w : List Nat) : Prop where
  flat : ps.flatten = w
  ly : ∀ p, p ∈ ps → lyn p
  dec : ps.Pairwise fun a b => ¬ a < b
theorem last_piece : ∀ (qs : List (List Nat)) (a t : List Nat), qs.flatten = a ++ t → a ≠ [] → ∃ a' x r q, q ∈ qs ∧ a = a' ++ x ∧ x ≠ [] ∧ q = x ++ r
  | [], a, t, h, ha => by
    have h : ([] : List Nat) = a ++ t := h
    exact absurd (List.append_eq_nil_iff.mp h.symm).1 ha
  | q :: qs, a, t, h, ha => by
    rw [List.flatten_cons] at h
    rcases List.append_eq_append_iff.mp h with ⟨a2, g1, g2⟩ | ⟨r, g1, g2⟩
    · by_cases c : a2 = []
      · subst c
        rw [List.append_nil] at g1
        exact ⟨[], a, [], q, List.mem_cons_self, rfl, ha, by rw [g1, List.append_nil]⟩
      · obtain ⟨a', x, r, q', h1, h2, h3, h4⟩ := last_piece qs a2 t g2 c
        exact ⟨q ++ a', x, r, q', List.mem_cons_of_mem _ h1, by rw [g1, h2, List.append_assoc], h3, h4⟩
    · exact ⟨[], a, r, q, List.mem_cons_self, rfl, ha, g1⟩
theorem first_long {q p t w : List Nat} {qs : List (List Nat)} (h : CF (q :: qs) w) (hp : lyn p) (e : w = p ++ t) (hl : q.length < p.length) : False := by
  have h1 := h.flat
  rw [e, List.flatten_cons] at h1
  have hq := h.ly q List.mem_cons_self
  have hd := List.pairwise_cons.mp h.dec
  rcases List.append_eq_append_iff.mp h1 with ⟨a, g1, g2⟩ | ⟨a, g1, g2⟩
  · have ha : a ≠ [] := by
      rintro rfl
      rw [List.append_nil] at g1
      rw [g1] at hl; omega
    obtain ⟨a', x, r, q', k1, k2, k3, k4⟩ := last_piece qs a t g2 ha
    have e1 : p < x := hp.2 (q ++ a') x (by rw [g1, k2, List.append_assoc]) (fun z => hq.1 (List.append_eq_nil_iff.mp z).1) k3
    have e2 : ¬ q' < x := by rw [k4]; exact pre_le x r
    have e3 : ¬ q < q' := hd.1 q' k1
    have e4 : ¬ p < q := by rw [g1]; exact pre_le q a
    exact e4 (lt_le (lt_le e1 e2) e3)
  · rw [g1, List.length_append] at hl; omega
theorem cf_uniq : ∀ {ps qs : List (List Nat)} {w : List Nat}, CF ps w → CF qs w → ps = qs
  | [], [], _, _, _ => rfl
  | [], q :: qs, w, h1, h2 => by
    have e1 := h1.flat
    have e2 := h2.flat
    have e1 : [] = w := e1
    rw [List.flatten_cons, ← e1] at e2
    exact absurd (List.append_eq_nil_iff.mp e2).1 (h2.ly q List.mem_cons_self).1
  | p :: ps, [], w, h1, h2 => by
    have e1 := h1.flat
    have e2 := h2.flat
    have e2 : [] = w := e2
    rw [List.flatten_cons, ← e2] at e1
    exact absurd (List.append_eq_nil_iff.mp e1).1 (h1.ly p List.mem_cons_self).1
  | p :: ps, q :: qs, w, h1, h2 => by
    have e1 := h1.flat
    have e2 := h2.flat
    rw [List.flatten_cons] at e1 e2
    have hl : p.length = q.length := by
      rcases Nat.lt_trichotomy p.length q.length with c | c | c
      · exact (first_long h1 (h2.ly q List.mem_cons_self) e2.symm c).elim
      · exact c
      · exact (first_long h2 (h1.ly p List.mem_cons_self) e1.symm c).elim
    obtain ⟨r1, r2⟩ := List.append_inj (e1.trans e2.symm) hl
    subst r1
    have a : CF ps ps.flatten := ⟨rfl, fun x hx => h1.ly x (List.mem_cons_of_mem _ hx), (List.pairwise_cons.mp h1.dec).2⟩
    have b : CF qs ps.flatten := ⟨r2.symm, fun x hx => h2.ly x (List.mem_cons_of_mem _ hx), (List.pairwise_cons.mp h2.dec).2⟩
    rw [cf_uniq a b]
/-! told by the code -/
def nat1 (a b : Nat) : List Nat := (List.range (b - a)).map fun k => a + k
theorem mem_nat1 {a b x : Nat} : x ∈ nat1 a b ↔ a ≤ x ∧ x < b := by
  unfold nat1
  rw [List.mem_map]
  constructor
  · rintro ⟨k, hk, rfl⟩
    have := List.mem_range.mp hk
    omega
  · intro ⟨h1, h2⟩
    exact ⟨x - a, List.mem_range.mpr (by omega), by omega⟩
def lynB (w : List Nat) : Bool := decide (0 < w.length) && (nat1 1 w.length).all fun k => decide (w < w.drop k)
theorem lynB_iff {w : List Nat} : lynB w = true ↔ lyn w := by
  unfold lynB
  rw [Bool.and_eq_true, decide_eq_true_eq, List.all_eq_true]
  constructor
  · rintro ⟨h1, h2⟩
    refine ⟨List.length_pos_iff.mp h1, fun u v e hu hv => ?_⟩
    have l1 := List.length_pos_iff.mpr hu
    have l2 := List.length_pos_iff.mpr hv
    have := of_decide_eq_true (h2 u.length (mem_nat1.mpr ⟨by omega, by rw [e, List.length_append]; omega⟩))
    rw [e, List.drop_left] at this
    rw [e]; exact this
  · rintro ⟨h1, h2⟩
    refine ⟨List.length_pos_iff.mpr h1, fun k hk => decide_eq_true ?_⟩
    have hk := mem_nat1.mp hk
    refine h2 (w.take k) (w.drop k) (List.take_append_drop k w).symm (fun z => ?_) fun z => ?_
    · have := congrArg List.length z
      rw [List.length_take, List.length_nil] at this
      omega
    · have := congrArg List.length z
      rw [List.length_drop, List.length_nil] at this
      omega
theorem rep_succ (u : List Nat) : ∀ k, rep u (k + 1) = rep u k ++ u
  | 0 => by simp [rep]
  | k + 1 => by
    show u ++ rep u (k + 1) = (u ++ rep u k) ++ u
    rw [rep_succ u k, List.append_assoc]
theorem rep_add (u : List Nat) (j m : Nat) : rep u (j + m) = rep u j ++ rep u m := by
  induction j with
  | zero => rw [Nat.zero_add]; rfl
  | succ j ih => rw [show j + 1 + m = (j + m) + 1 by omega, rep, ih, rep, List.append_assoc]
theorem rep_flat (u : List Nat) : ∀ k, (List.replicate k u).flatten = rep u k
  | 0 => rfl
  | k + 1 => by rw [List.replicate_succ, List.flatten_cons, rep_flat u k]; rfl
/-! turns -/
def rot (w : List Nat) (k : Nat) : List Nat := w.drop k ++ w.take k
theorem lyn_rot {w : List Nat} (hw : w ≠ []) : lyn w ↔ ∀ k, 0 < k → k < w.length → w < rot w k := by
  constructor
  · intro h k h1 h2
    have e : w = w.take k ++ w.drop k := (List.take_append_drop k w).symm
    have a := h.sd e (fun z => by have := congrArg List.length z; rw [List.length_take, List.length_nil] at this; omega) (fun z => by have := congrArg List.length z; rw [List.length_drop, List.length_nil] at this; omega)
    have b := sd_ext [] (w.take k) a
    rw [List.append_nil] at b
    exact sd_lt b
  · intro h
    refine ⟨hw, fun u v e hu hv => ?_⟩
    have l1 := List.length_pos_iff.mpr hu
    have l2 := List.length_pos_iff.mpr hv
    have hl : w.length = u.length + v.length := by rw [e, List.length_append]
    have h1 := h u.length l1 (by omega)
    have r1 : rot w u.length = v ++ u := by unfold rot; rw [e, List.drop_left, List.take_left]
    rw [r1] at h1
    by_cases c : w < v
    · exact c
    · exfalso
      have hne : v ≠ w := fun z => by rw [z] at l2 hl; omega
      have hlt : v < w := by
        rcases List.le_iff_lt_or_eq.mp (List.not_lt.mp c) with q | q
        · exact q
        · exact absurd q hne
      rcases lt_cases hlt with ⟨d, t, e2⟩ | hs
      · have h3 : w < rot w v.length := h v.length l2 (by omega)
        have r2 : rot w v.length = (d :: t) ++ v := by unfold rot; rw [e2, List.drop_left, List.take_left]
        rw [r2] at h3
        have h4 : (d :: t) < u := by
          rw [e2] at h1
          exact lt_pre.mp h1
        have l3 : (d :: t).length = u.length := by
          have := congrArg List.length e2
          rw [List.length_append] at this
          omega
        have h5 := sd_ext v v (lt_sd h4 (by omega))
        rw [← e] at h5
        exact List.lt_asymm h3 (sd_lt h5)
      · have := sd_ext u [] hs
        rw [List.append_nil] at this
        exact List.lt_asymm h1 (sd_lt this)
theorem between_pre : ∀ {a b c p : List Nat}, a ++ b < p → p < a ++ c → ∃ q, p = a ++ q
  | [], _, _, p, _, _ => ⟨p, rfl⟩
  | d :: a, b, c, [], h, _ => absurd h (List.not_lt_nil _)
  | d :: a, b, c, e :: p, h1, h2 => by
    rw [List.cons_append, List.cons_lt_cons_iff] at h1 h2
    have hd : d = e := by omega
    subst hd
    have h1 : a ++ b < p := by rcases h1 with z | z; omega; exact z.2
    have h2 : p < a ++ c := by rcases h2 with z | z; omega; exact z.2
    obtain ⟨q, hq⟩ := between_pre h1 h2
    exact ⟨q, by rw [hq]; rfl⟩
/-- ahead of the longest Lyndon rest stands a Lyndon word -/
theorem std_front {u v : List Nat} (hw : lyn (u ++ v)) (hv : lyn v) (hu : u ≠ []) (hn : ∀ u1 u2, u = u1 ++ u2 → u1 ≠ [] → u2 ≠ [] → ¬ lyn (u2 ++ v)) : lyn u := by
  refine ⟨hu, fun y x e hy hx => ?_⟩
  have h1 := hn y x e hy hx
  obtain ⟨q1, p, e1, k1, k2, k3⟩ : ∃ q1 p, x ++ v = q1 ++ p ∧ q1 ≠ [] ∧ p ≠ [] ∧ ¬ (x ++ v < p) := by
    refine Classical.byContradiction fun z => h1 ⟨fun z2 => hx (List.append_eq_nil_iff.mp z2).1, fun q1 p e1 k1 k2 => ?_⟩
    refine Classical.byContradiction fun z2 => z ⟨q1, p, e1, k1, k2, z2⟩
  have lq := List.length_pos_iff.mpr k1
  have hp : p < x ++ v := by
    rcases List.le_iff_lt_or_eq.mp (List.not_lt.mp k3) with q | q
    · exact q
    · exfalso
      have := congrArg List.length e1
      rw [← q, List.length_append] at this
      omega
  have hw2 : u ++ v < p := hw.2 (y ++ q1) p (by rw [e, List.append_assoc, e1, List.append_assoc]) (fun z => hy (List.append_eq_nil_iff.mp z).1) k2
  have hlt : u ++ v < x ++ v := List.lt_trans hw2 hp
  by_cases c : u < x
  · exact c
  · exfalso
    have ly := List.length_pos_iff.mpr hy
    have hul : u.length = y.length + x.length := by rw [e, List.length_append]
    have hxu : x < u := by
      rcases List.le_iff_lt_or_eq.mp (List.not_lt.mp c) with q | q
      · exact q
      · exfalso; rw [q] at hul; omega
    rcases lt_cases hxu with ⟨d, t, e2⟩ | hs
    · have e3 : u ++ v = x ++ (d :: t ++ v) := by rw [e2, List.append_assoc]
      rw [e3] at hw2
      obtain ⟨q, rfl⟩ := between_pre hw2 hp
      have a1 : d :: t ++ v < q := lt_pre.mp hw2
      have a2 : q < v := lt_pre.mp hp
      have hq : q ≠ [] := fun z => by rw [z] at a1; exact List.not_lt_nil _ a1
      -- x ++ v = q1 ++ x ++ q
      have l4 := congrArg List.length e1
      rw [List.length_append, List.length_append, List.length_append] at l4
      rw [← List.append_assoc] at e1
      rcases List.append_eq_append_iff.mp e1 with ⟨z, g1, g2⟩ | ⟨z, g1, g2⟩
      · have hz : z ≠ [] := fun z0 => by
          rw [z0] at g2
          have := congrArg List.length g2
          rw [List.length_append, List.length_nil] at this
          omega
        exact List.lt_asymm a2 (hv.2 z q g2 hz hq)
      · have := congrArg List.length g2
        rw [List.length_append] at this
        omega
    · exact List.lt_asymm hlt (sd_lt (sd_ext v v hs))
end LW
set_option linter.all false
set_option maxHeartbeats 4000000
/-! plain mathematics of exponents and pieces that come again -/
namespace M11
def rep (l : List Nat) : Nat → List Nat
  | 0 => []
  | n + 1 => l ++ rep l n
/-- p is a period -/
def Per (w : List Nat) (p : Nat) : Prop := ∀ i, i + p < w.length → w[i]? = w[i + p]?
theorem per_cut (w : List Nat) (p : Nat) : w.drop p = w.take (w.length - p) ↔ Per w p := by
  constructor
  · intro h i hi
    have h2 := congrArg (fun l => l[i]?) h
    simp only [List.getElem?_drop] at h2
    rw [List.getElem?_take_of_lt (by omega)] at h2
    rw [← h2, Nat.add_comm]
  · intro h
    apply List.ext_getElem?
    intro i
    rw [List.getElem?_drop]
    by_cases hi : i + p < w.length
    · rw [List.getElem?_take_of_lt (by omega), h i hi, Nat.add_comm]
    · rw [List.getElem?_eq_none (by omega), List.getElem?_eq_none (by rw [List.length_take]; omega)]
theorem rep_get (l : List Nat) (hl : 0 < l.length) : ∀ (n i : Nat), i < n * l.length → (rep l n)[i]? = l[i % l.length]?
  | 0, i, h => by omega
  | n + 1, i, h => by
    show (l ++ rep l n)[i]? = _
    by_cases c : i < l.length
    · rw [List.getElem?_append_left c, Nat.mod_eq_of_lt c]
    · rw [List.getElem?_append_right (by omega), rep_get l hl n (i - l.length) (by rw [Nat.succ_mul] at h; omega)]
      have : i % l.length = (i - l.length) % l.length := by
        rw [Nat.mod_eq_sub_mod (by omega)]
      rw [this]
theorem rep_len (l : List Nat) : ∀ n, (rep l n).length = n * l.length
  | 0 => by simp [rep]
  | n + 1 => by show (l ++ rep l n).length = _; rw [List.length_append, rep_len l n, Nat.succ_mul]; omega
theorem per_mod {w : List Nat} {p : Nat} (hp : 0 < p) (h : Per w p) : ∀ (i : Nat), i < w.length → w[i]? = w[i % p]? := by
  intro i
  induction i using Nat.strongRecOn with
  | ind i ih =>
    intro hi
    by_cases c : i < p
    · rw [Nat.mod_eq_of_lt c]
    · have h1 := h (i - p) (by omega)
      rw [show i - p + p = i by omega] at h1
      rw [← h1, ih (i - p) (by omega) (by omega), Nat.mod_eq_sub_mod (show p ≤ i by omega)]
theorem per_rep {w : List Nat} {p : Nat} (hp : 0 < p) (hn : p ≤ w.length) : (rep (w.take p) w.length).take w.length = w ↔ Per w p := by
  have hl : (w.take p).length = p := by rw [List.length_take]; omega
  constructor
  · intro h i hi
    have g : ∀ j, j < w.length → w[j]? = (w.take p)[j % p]? := fun j hj => by
      have h2 := congrArg (fun l => l[j]?) h
      have h2 : (List.take w.length (rep (List.take p w) w.length))[j]? = w[j]? := h2
      rw [List.getElem?_take_of_lt hj, rep_get _ (by omega) _ _ (by rw [hl]; exact Nat.lt_of_lt_of_le hj (Nat.le_mul_of_pos_right _ hp)), hl] at h2
      exact h2.symm
    rw [g i (by omega), g (i + p) hi, Nat.add_mod_right]
  · intro h
    apply List.ext_getElem?
    intro j
    by_cases hj : j < w.length
    · rw [List.getElem?_take_of_lt hj, rep_get _ (by omega) _ _ (by rw [hl]; exact Nat.lt_of_lt_of_le hj (Nat.le_mul_of_pos_right _ hp)), hl, List.getElem?_take_of_lt (Nat.mod_lt _ hp), ← per_mod hp h j hj]
    · rw [List.getElem?_eq_none (by rw [List.length_take]; omega), List.getElem?_eq_none (by omega)]
theorem per_self (w : List Nat) : Per w w.length := fun i hi => by omega
instance (w : List Nat) (p : Nat) : Decidable (Per w p) := decidable_of_iff _ (per_cut w p)
/-- the first number from a on, of n, that passes; else a + n -/
def first (b : Nat → Bool) : Nat → Nat → Nat
  | a, 0 => a
  | a, n + 1 => if b a = true then a else first b (a + 1) n
theorem first_le (b : Nat → Bool) : ∀ n a, a ≤ first b a n ∧ first b a n ≤ a + n
  | 0, a => ⟨Nat.le_refl _, Nat.le_refl _⟩
  | n + 1, a => by
    unfold first
    split
    · omega
    · have := first_le b n (a + 1); omega
theorem first_not (b : Nat → Bool) : ∀ n a i, a ≤ i → i < first b a n → b i = false
  | 0, a, i, h1, h2 => by unfold first at h2; omega
  | n + 1, a, i, h1, h2 => by
    unfold first at h2
    split at h2
    · omega
    · rename_i h
      by_cases e : i = a
      · subst e; simpa using h
      · exact first_not b n (a + 1) i (by omega) h2
theorem first_yes (b : Nat → Bool) : ∀ n a, first b a n < a + n → b (first b a n) = true
  | 0, a, h => by unfold first at h; omega
  | n + 1, a, h => by
    unfold first at h ⊢
    split
    · assumption
    · rename_i h2
      rw [if_neg h2] at h
      exact first_yes b n (a + 1) (by omega)
/-- the least period of a word with letters -/
def lper (w : List Nat) : Nat := first (fun p => decide (Per w p)) 1 (w.length - 1)
theorem lper_pos (w : List Nat) : 1 ≤ lper w := (first_le _ _ _).1
theorem lper_le {w : List Nat} (h : 0 < w.length) : lper w ≤ w.length := by
  have := (first_le (fun p => decide (Per w p)) (w.length - 1) 1).2
  unfold lper; omega
theorem lper_per {w : List Nat} (h : 0 < w.length) : Per w (lper w) := by
  by_cases c : lper w < w.length
  · have := first_yes (fun p => decide (Per w p)) (w.length - 1) 1 (by unfold lper at c; omega)
    exact of_decide_eq_true this
  · have : lper w = w.length := by have := lper_le h; omega
    rw [this]; exact per_self w
theorem lper_min {w : List Nat} {p : Nat} (hp : 1 ≤ p) (h : Per w p) (hw : 0 < w.length) : lper w ≤ p := by
  by_cases c : p < lper w
  · have := first_not (fun p => decide (Per w p)) (w.length - 1) 1 p hp c
    exact absurd h (of_decide_eq_false this)
  · omega
theorem lper_unique {w : List Nat} {p : Nat} (hw : 0 < w.length) (hp : 1 ≤ p) (h : Per w p) (hm : ∀ q, 1 ≤ q → q < p → ¬ Per w q) : p = lper w := by
  have h1 := lper_min hp h hw
  by_cases c : lper w < p
  · exact absurd (lper_per hw) (hm _ (lper_pos w) c)
  · omega
/-! greatest exponents: candidates (length, period) -/
abbrev Cand := Nat × Nat
def lt (x y : Cand) : Prop := x.1 * y.2 < y.1 * x.2
instance (x y : Cand) : Decidable (lt x y) := inferInstanceAs (Decidable (_ < _))
def better (b x : Cand) : Cand := if lt b x then x else b
theorem lt_trans' {x y z : Cand} (hy : 0 < y.2) (hx : 0 < x.2) (hz : 0 < z.2) (h1 : ¬ lt y x) (h2 : lt y z) : lt x z := by
  unfold lt at *
  have a : x.1 * y.2 ≤ y.1 * x.2 := by
    have := Nat.not_lt.mp h1; exact this
  -- x1 y2 ≤ y1 x2 , y1 z2 < z1 y2
  have b : x.1 * y.2 * z.2 ≤ y.1 * x.2 * z.2 := Nat.mul_le_mul_right _ a
  have c : y.1 * z.2 * x.2 < z.1 * y.2 * x.2 := Nat.mul_lt_mul_of_pos_right h2 hx
  have d : x.1 * z.2 * y.2 < z.1 * x.2 * y.2 := by
    calc x.1 * z.2 * y.2 = x.1 * y.2 * z.2 := by rw [Nat.mul_assoc, Nat.mul_comm z.2, ← Nat.mul_assoc]
      _ ≤ y.1 * x.2 * z.2 := b
      _ = y.1 * z.2 * x.2 := by rw [Nat.mul_assoc, Nat.mul_comm x.2, ← Nat.mul_assoc]
      _ < z.1 * y.2 * x.2 := c
      _ = z.1 * x.2 * y.2 := by rw [Nat.mul_assoc, Nat.mul_comm y.2, ← Nat.mul_assoc]
  exact Nat.lt_of_mul_lt_mul_right d
/-- what the fold ends with -/
theorem fold_spec : ∀ (xs : List Cand) (b : Cand), 0 < b.2 → (∀ x ∈ xs, 0 < x.2) →
    (xs.foldl better b = b ∧ ∀ x ∈ xs, ¬ lt b x) ∨
    ∃ i : Nat, xs[i]? = some (xs.foldl better b) ∧ lt b (xs.foldl better b) ∧ (∀ (j : Nat) (x : Cand), j < i → xs[j]? = some x → lt x (xs.foldl better b)) ∧ ∀ x ∈ xs, ¬ lt (xs.foldl better b) x
  | [], b, _, _ => .inl ⟨rfl, fun _ h => by simp at h⟩
  | y :: xs, b, hb, hx => by
    have hy := hx y List.mem_cons_self
    have hxs : ∀ x ∈ xs, 0 < x.2 := fun x h => hx x (List.mem_cons_of_mem _ h)
    rw [List.foldl_cons]
    by_cases c : lt b y
    · have e : better b y = y := by unfold better; rw [if_pos c]
      rw [e]
      rcases fold_spec xs y hy hxs with ⟨h1, h2⟩ | ⟨i, h1, h2, h3, h4⟩
      · refine .inr ⟨0, by rw [h1]; rfl, by rw [h1]; exact c, fun j x hj => by omega, fun x hm => ?_⟩
        rw [h1]
        rcases List.mem_cons.mp hm with e | hm
        · subst e; unfold lt; omega
        · exact h2 x hm
      · have hr : 0 < (xs.foldl better y).2 := hxs _ (List.mem_of_getElem? h1)
        have hbr : lt b (xs.foldl better y) := lt_trans' hy hb hr (by unfold lt at *; omega) h2
        refine .inr ⟨i + 1, by simpa using h1, hbr, fun j x hj hjx => ?_, fun x hm => ?_⟩
        · cases j with
          | zero => simp at hjx; subst hjx; exact h2
          | succ j => exact h3 j x (by omega) (by simpa using hjx)
        · rcases List.mem_cons.mp hm with e | hm
          · subst e; unfold lt at *; omega
          · exact h4 x hm
    · have e : better b y = b := by unfold better; rw [if_neg c]
      rw [e]
      rcases fold_spec xs b hb hxs with ⟨h1, h2⟩ | ⟨i, h1, h2, h3, h4⟩
      · refine .inl ⟨h1, fun x hm => ?_⟩
        rcases List.mem_cons.mp hm with e | hm
        · subst e; exact c
        · exact h2 x hm
      · have hr : 0 < (xs.foldl better b).2 := hxs _ (List.mem_of_getElem? h1)
        refine .inr ⟨i + 1, by simpa using h1, h2, fun j x hj hjx => ?_, fun x hm => ?_⟩
        · cases j with
          | zero => simp at hjx; subst hjx; exact lt_trans' hb hy hr c h2
          | succ j => exact h3 j x (by omega) (by simpa using hjx)
        · rcases List.mem_cons.mp hm with e | hm
          · subst e
            intro hlt
            exact c (by
              have : lt b x := lt_trans' hr hb (hx x List.mem_cons_self) (by unfold lt at *; omega) hlt
              exact this)
          · exact h4 x hm
/-- the pieces of v (the word from a place on): by length; by period -/
def L (v : List Nat) (p : Nat) : Nat := first (fun n => decide (¬ (n < v.length ∧ v[n]? = v[n - p]?))) p (v.length - p)
theorem L_ge (v : List Nat) (p : Nat) : p ≤ L v p := (first_le _ _ _).1
theorem L_le {v : List Nat} {p : Nat} (h : p ≤ v.length) : L v p ≤ v.length := by
  have := (first_le (fun n => decide (¬ (n < v.length ∧ v[n]? = v[n - p]?))) (v.length - p) p).2
  unfold L; omega
theorem L_per {v : List Nat} {p : Nat} (hp : 1 ≤ p) (h : p ≤ v.length) : Per (v.take (L v p)) p := fun i hi => by
  have hl : (v.take (L v p)).length = L v p := by rw [List.length_take]; exact Nat.min_eq_left (L_le h)
  rw [hl] at hi
  have := first_not (fun n => decide (¬ (n < v.length ∧ v[n]? = v[n - p]?))) (v.length - p) p (i + p) (by omega) hi
  have h2 := of_decide_eq_false this
  have h3 : v[i + p]? = v[i + p - p]? := (Classical.not_not.mp h2).2
  rw [List.getElem?_take_of_lt (by omega), List.getElem?_take_of_lt hi, h3, Nat.add_sub_cancel]
theorem L_max {v : List Nat} {p n : Nat} (hp : 1 ≤ p) (hn : n ≤ v.length) (hpn : p ≤ n) (h : Per (v.take n) p) : n ≤ L v p := by
  by_cases c : n ≤ L v p
  · exact c
  · have c2 : L v p < v.length := by omega
    have h1 := first_yes (fun n => decide (¬ (n < v.length ∧ v[n]? = v[n - p]?))) (v.length - p) p (by unfold L at c2; omega)
    have h2 := of_decide_eq_true h1
    have hl : (v.take n).length = n := by rw [List.length_take]; exact Nat.min_eq_left hn
    have hge := L_ge v p
    have h3 := h (L v p - p) (by rw [hl]; omega)
    rw [List.getElem?_take_of_lt (by omega), List.getElem?_take_of_lt (by omega), show L v p - p + p = L v p by omega] at h3
    exact absurd ⟨c2, h3.symm⟩ h2
def byLen (v : List Nat) : List Cand := (List.range v.length).map fun k => (k + 1, lper (v.take (k + 1)))
def byPer (v : List Nat) : List Cand := (List.range v.length).map fun k => (L v (k + 1), k + 1)
theorem byLen_at {v : List Nat} {i : Nat} {x : Cand} (h : (byLen v)[i]? = some x) : i < v.length ∧ x = (i + 1, lper (v.take (i + 1))) := by
  unfold byLen at h
  rw [List.getElem?_map] at h
  by_cases c : i < v.length
  · rw [List.getElem?_range c] at h; exact ⟨c, (Option.some.inj h).symm⟩
  · rw [List.getElem?_eq_none (by simpa using c)] at h; cases h
theorem byPer_at {v : List Nat} {i : Nat} {x : Cand} (h : (byPer v)[i]? = some x) : i < v.length ∧ x = (L v (i + 1), i + 1) := by
  unfold byPer at h
  rw [List.getElem?_map] at h
  by_cases c : i < v.length
  · rw [List.getElem?_range c] at h; exact ⟨c, (Option.some.inj h).symm⟩
  · rw [List.getElem?_eq_none (by simpa using c)] at h; cases h
theorem byLen_mem {v : List Nat} {n : Nat} (h1 : 1 ≤ n) (h2 : n ≤ v.length) : (byLen v)[n - 1]? = some (n, lper (v.take n)) := by
  unfold byLen
  rw [List.getElem?_map, List.getElem?_range (by omega)]
  show some (n - 1 + 1, lper (v.take (n - 1 + 1))) = _
  rw [show n - 1 + 1 = n by omega]
theorem byPer_mem {v : List Nat} {p : Nat} (h1 : 1 ≤ p) (h2 : p ≤ v.length) : (byPer v)[p - 1]? = some (L v p, p) := by
  unfold byPer
  rw [List.getElem?_map, List.getElem?_range (by omega)]
  show some (L v (p - 1 + 1), p - 1 + 1) = _
  rw [show p - 1 + 1 = p by omega]
theorem take_len {v : List Nat} {n : Nat} (h : n ≤ v.length) : (v.take n).length = n := by rw [List.length_take]; exact Nat.min_eq_left h
/-- each of the one is reached by one of the other -/
theorem len_to_per {v : List Nat} {n : Nat} (h1 : 1 ≤ n) (h2 : n ≤ v.length) : lper (v.take n) ≤ v.length ∧ n ≤ L v (lper (v.take n)) := by
  have hl := take_len h2
  have h3 := lper_le (w := v.take n) (by omega)
  exact ⟨by omega, L_max (lper_pos _) h2 (by omega) (lper_per (by omega))⟩
theorem per_to_len {v : List Nat} {p : Nat} (h1 : 1 ≤ p) (h2 : p ≤ v.length) : lper (v.take (L v p)) ≤ p := by
  have hl := take_len (L_le h2)
  exact lper_min h1 (L_per h1 h2) (by have := L_ge v p; omega)
theorem same_best (v : List Nat) (b : Cand) (hb : 0 < b.2) : (byPer v).foldl better b = (byLen v).foldl better b := by
  have pP : ∀ x ∈ byPer v, 0 < x.2 := fun x hx => by
    obtain ⟨i, hi⟩ := List.getElem?_of_mem hx
    obtain ⟨_, e⟩ := byPer_at hi
    subst e; exact Nat.succ_pos _
  have pL : ∀ x ∈ byLen v, 0 < x.2 := fun x hx => by
    obtain ⟨i, hi⟩ := List.getElem?_of_mem hx
    obtain ⟨_, e⟩ := byLen_at hi
    subst e; exact lper_pos _
  -- no less among the others
  have up : ∀ x ∈ byLen v, ∃ y ∈ byPer v, y.2 = x.2 ∧ x.1 ≤ y.1 := fun x hx => by
    obtain ⟨i, hi⟩ := List.getElem?_of_mem hx
    obtain ⟨h1, e⟩ := byLen_at hi
    subst e
    obtain ⟨h2, h3⟩ := len_to_per (v := v) (n := i + 1) (by omega) (by omega)
    exact ⟨_, List.mem_of_getElem? (byPer_mem (lper_pos _) h2), rfl, h3⟩
  have dn : ∀ y ∈ byPer v, ∃ x ∈ byLen v, x.1 = y.1 ∧ x.2 ≤ y.2 := fun y hy => by
    obtain ⟨i, hi⟩ := List.getElem?_of_mem hy
    obtain ⟨h1, e⟩ := byPer_at hi
    subst e
    have h3 := per_to_len (v := v) (p := i + 1) (by omega) (by omega)
    have h4 := L_ge v (i + 1)
    exact ⟨_, List.mem_of_getElem? (byLen_mem (n := L v (i + 1)) (by omega) (L_le (by omega))), rfl, h3⟩
  have up' : ∀ (r : Cand), (∀ y ∈ byPer v, ¬ lt r y) → ∀ x ∈ byLen v, ¬ lt r x := fun r h x hx hlt => by
    obtain ⟨y, hy, e, hle⟩ := up x hx
    refine h y hy ?_
    unfold lt at *
    rw [e]
    exact Nat.lt_of_lt_of_le hlt (Nat.mul_le_mul_right _ hle)
  have dn' : ∀ (r : Cand), (∀ x ∈ byLen v, ¬ lt r x) → ∀ y ∈ byPer v, ¬ lt r y := fun r h y hy hlt => by
    obtain ⟨x, hx, e, hle⟩ := dn y hy
    refine h x hx ?_
    unfold lt at *
    rw [e]
    exact Nat.lt_of_le_of_lt (Nat.mul_le_mul_left _ hle) hlt
  rcases fold_spec (byPer v) b hb pP with ⟨p1, p2⟩ | ⟨i, p1, p2, p3, p4⟩
  · rcases fold_spec (byLen v) b hb pL with ⟨q1, q2⟩ | ⟨j, q1, q2, q3, q4⟩
    · rw [p1, q1]
    · exact absurd q2 (up' b p2 _ (List.mem_of_getElem? q1))
  · rcases fold_spec (byLen v) b hb pL with ⟨q1, q2⟩ | ⟨j, q1, q2, q3, q4⟩
    · exact absurd p2 (dn' b q2 _ (List.mem_of_getElem? p1))
    · generalize hr : (byPer v).foldl better b = r at *
      generalize hs : (byLen v).foldl better b = s at *
      obtain ⟨hi, er⟩ := byPer_at p1
      obtain ⟨hj, es⟩ := byLen_at q1
      -- the same quotient
      have e1 : ¬ lt r s := up' r p4 s (List.mem_of_getElem? q1)
      have e2 : ¬ lt s r := dn' s q4 r (List.mem_of_getElem? p1)
      have eq : r.1 * s.2 = s.1 * r.2 := by unfold lt at *; omega
      -- the law's: its period's longest is itself
      obtain ⟨g1, g2⟩ := len_to_per (v := v) (n := j + 1) (by omega) (by omega)
      have gm := byPer_mem (v := v) (p := lper (v.take (j + 1))) (lper_pos _) g1
      have g3 : ¬ lt r (L v (lper (v.take (j + 1))), lper (v.take (j + 1))) := p4 _ (List.mem_of_getElem? gm)
      have s2 : s.2 = lper (v.take (j + 1)) := by rw [es]
      have s1 : s.1 = j + 1 := by rw [es]
      have r1 : r.1 = L v (i + 1) := by rw [er]
      have r2 : r.2 = i + 1 := by rw [er]
      -- i + 1 ≤ s.2
      have le1 : i + 1 ≤ s.2 := by
        by_cases c : s.2 - 1 < i
        · have := p3 (s.2 - 1) _ c (by rw [s2]; exact gm)
          exfalso
          unfold lt at this g3
          simp only [] at this g3
          rw [← s2] at this g3
          -- L(s2) * r2 < r1 * s2 = s1 * r2, but s1 ≤ L(s2)
          rw [eq] at this
          have h := Nat.lt_of_mul_lt_mul_right this
          rw [← s2] at g2
          omega
        · have := lper_pos (v.take (j + 1)); omega
      -- r.1 ≤ s.1
      have le2 : r.1 ≤ s.1 := by
        have h : r.1 * s.2 ≤ s.1 * s.2 := by rw [eq, r2]; exact Nat.mul_le_mul_left _ le1
        exact Nat.le_of_mul_le_mul_right h (by rw [s2]; exact lper_pos _)
      -- the program's: as a piece
      have h4 := L_ge v (i + 1)
      have lm := byLen_mem (v := v) (n := L v (i + 1)) (by omega) (L_le (by omega))
      have h5 := per_to_len (v := v) (p := i + 1) (by omega) (by omega)
      have ge2 : s.1 ≤ r.1 := by
        by_cases c : r.1 < s.1
        · exfalso
          have h6 := q3 (L v (i + 1) - 1) _ (by omega) lm
          unfold lt at h6
          simp only [] at h6
          rw [← r1] at h6
          -- r1 * s2 < s1 * lper ≤ s1 * r2 = r1 * s2
          have h7 : s.1 * lper (v.take r.1) ≤ s.1 * r.2 := Nat.mul_le_mul_left _ (by rw [r1, r2]; exact h5)
          omega
        · omega
      have e3 : r.1 = s.1 := Nat.le_antisymm le2 ge2
      have e4 : r.2 = s.2 := by
        rw [e3] at eq
        exact (Nat.eq_of_mul_eq_mul_left (by rw [s1]; exact Nat.succ_pos _) eq).symm
      exact Prod.ext e3 e4
theorem first_eq {b : Nat → Bool} {a n x : Nat} (h1 : a ≤ x) (h2 : x ≤ a + n) (h3 : ∀ i, a ≤ i → i < x → b i = false) (h4 : x = a + n ∨ b x = true) : x = first b a n := by
  have hf := first_le b n a
  by_cases c : first b a n < x
  · have h5 := first_yes b n a (by omega)
    rw [h3 _ hf.1 c] at h5; cases h5
  · by_cases c2 : x < first b a n
    · rcases h4 with e | e
      · omega
      · rw [first_not b n a x h1 c2] at e; cases e
    · omega
/-! the place is told too -/
def betterT (pl : Nat) (b : Nat × Cand) (x : Cand) : Nat × Cand := if lt b.2 x then (pl, x) else b
theorem foldT (pl : Nat) : ∀ (xs : List Cand) (b : Nat × Cand), 0 < b.2.2 → (∀ x ∈ xs, 0 < x.2) → xs.foldl (betterT pl) b = (if xs.foldl better b.2 = b.2 then b.1 else pl, xs.foldl better b.2)
  | [], b, _, _ => by simp
  | y :: xs, b, hb, hx => by
    have hxs : ∀ x ∈ xs, 0 < x.2 := fun x h => hx x (List.mem_cons_of_mem _ h)
    rw [List.foldl_cons, List.foldl_cons]
    by_cases c : lt b.2 y
    · have e1 : betterT pl b y = (pl, y) := by unfold betterT; rw [if_pos c]
      have e2 : better b.2 y = y := by unfold better; rw [if_pos c]
      rw [e1, e2, foldT pl xs (pl, y) (hx y List.mem_cons_self) hxs]
      have ne : xs.foldl better y ≠ b.2 := by
        rcases fold_spec xs y (hx y List.mem_cons_self) hxs with ⟨h, _⟩ | ⟨i, h1, h2, _, _⟩
        · rw [h]; intro e; rw [e] at c; unfold lt at c; omega
        · intro e
          rw [e] at h2
          unfold lt at c h2; omega
      rw [if_neg ne]
      simp
    · have e1 : betterT pl b y = b := by unfold betterT; rw [if_neg c]
      have e2 : better b.2 y = b.2 := by unfold better; rw [if_neg c]
      rw [e1, e2, foldT pl xs b hb hxs]
theorem byPer_pos (v : List Nat) : ∀ x ∈ byPer v, 0 < x.2 := fun x hx => by
  obtain ⟨i, hi⟩ := List.getElem?_of_mem hx
  obtain ⟨_, e⟩ := byPer_at hi
  subst e; exact Nat.succ_pos _
theorem byLen_pos (v : List Nat) : ∀ x ∈ byLen v, 0 < x.2 := fun x hx => by
  obtain ⟨i, hi⟩ := List.getElem?_of_mem hx
  obtain ⟨_, e⟩ := byLen_at hi
  subst e; exact lper_pos _
theorem sameT (pl : Nat) (v : List Nat) (b : Nat × Cand) (hb : 0 < b.2.2) : (byPer v).foldl (betterT pl) b = (byLen v).foldl (betterT pl) b := by
  rw [foldT pl _ b hb (byPer_pos v), foldT pl _ b hb (byLen_pos v), same_best v b.2 hb]
theorem foldT_pos (pl : Nat) : ∀ (xs : List Cand) (b : Nat × Cand), 0 < b.2.2 → (∀ x ∈ xs, 0 < x.2) → 0 < (xs.foldl (betterT pl) b).2.2
  | [], b, hb, _ => hb
  | y :: xs, b, hb, hx => by
    rw [List.foldl_cons]
    refine foldT_pos pl xs _ ?_ fun x h => hx x (List.mem_cons_of_mem _ h)
    unfold betterT
    split
    · exact hx y List.mem_cons_self
    · exact hb
/-- behind so many places -/
def gr (w : List Nat) (i : Nat) : Nat × Cand := (List.range i).foldl (fun b pl => (byPer (w.drop pl)).foldl (betterT pl) b) (0, (1, 1))
theorem gr_succ (w : List Nat) (i : Nat) : gr w (i + 1) = (byPer (w.drop i)).foldl (betterT i) (gr w i) := by
  unfold gr; rw [List.range_succ, List.foldl_append]; rfl
theorem gr_pos (w : List Nat) : ∀ i, 0 < (gr w i).2.2
  | 0 => Nat.one_pos
  | i + 1 => by rw [gr_succ]; exact foldT_pos _ _ _ (gr_pos w i) (byPer_pos _)
/-- what comes again: the first place from a on whose piece was there before -/
def ag (pcs : List (List Nat)) : Nat := first (fun a => decide (pcs.getD a [] ∈ pcs.take a)) 0 pcs.length
end M11
set_option linter.all false
set_option maxHeartbeats 4000000
/-! plain mathematics of roots and of words that commute -/
namespace M01
open M11 (Per rep first)
theorem fw : ∀ (s p q : Nat) (w : List Nat), p + q = s → 0 < p → 0 < q → p + q ≤ w.length → Per w p → Per w q → Per w (Nat.gcd p q) := by
  intro s
  induction s using Nat.strongRecOn with
  | ind s ih =>
    intro p q w hs hp hq hl h1 h2
    have red : ∀ a b : Nat, 0 < a → a < b → a + b ≤ w.length → Per w a → Per w b → Per w (b - a) := fun a b ha hab hl h1 h2 i hi => by
      by_cases c : i + b < w.length
      · have e1 := h2 i c
        have e2 := h1 (i + (b - a)) (by omega)
        rw [show i + (b - a) + a = i + b by omega] at e2
        rw [e1, e2]
      · have e1 := h1 (i - a) (by omega)
        have e2 := h2 (i - a) (by omega)
        rw [show i - a + a = i by omega] at e1
        rw [show i - a + b = i + (b - a) by omega] at e2
        rw [← e1, e2]
    by_cases c : p = q
    · subst c; rw [Nat.gcd_self]; exact h1
    · by_cases c2 : p < q
      · have := ih (p + (q - p)) (by omega) p (q - p) w rfl hp (by omega) (by omega) h1 (red p q hp c2 hl h1 h2)
        rw [Nat.gcd_sub_self_right (by omega)] at this; exact this
      · have := ih ((p - q) + q) (by omega) (p - q) q w rfl (by omega) hq (by omega) (red q p hq (by omega) (by omega) h2 h1) h2
        rw [Nat.gcd_sub_self_left (by omega)] at this; exact this
def IsR (w : List Nat) (s : Nat) : Prop := rep (w.take s) (w.length / s) = w
instance (w : List Nat) (s : Nat) : Decidable (IsR w s) := by unfold IsR; infer_instance
theorem rep_per {w : List Nat} {s m : Nat} (hs : 1 ≤ s) (hm : m * s ≤ w.length) (h1 : s ≤ w.length) (h : Per w s) : rep (w.take s) m = w.take (m * s) := by
  have hl : (w.take s).length = s := by rw [List.length_take]; omega
  apply List.ext_getElem?
  intro i
  by_cases c : i < m * s
  · rw [M11.rep_get _ (by omega) _ _ (by rw [hl]; exact c), hl, List.getElem?_take_of_lt c, List.getElem?_take_of_lt (Nat.mod_lt _ hs), ← M11.per_mod hs h i (by omega)]
  · rw [List.getElem?_eq_none (by rw [M11.rep_len, hl]; omega), List.getElem?_eq_none (by rw [List.length_take]; omega)]
theorem isR_iff {w : List Nat} {s : Nat} (hs : 1 ≤ s) (h1 : s ≤ w.length) : IsR w s ↔ s ∣ w.length ∧ Per w s := by
  have hl : (w.take s).length = s := by rw [List.length_take]; omega
  constructor
  · intro h
    have e := congrArg List.length h
    rw [M11.rep_len, hl] at e
    refine ⟨⟨_, (Nat.mul_comm _ _).trans e |>.symm⟩, fun i hi => ?_⟩
    have g : ∀ j, j < w.length → w[j]? = (w.take s)[j % s]? := fun j hj => by
      have h2 := congrArg (fun l => l[j]?) h
      have h2 : (rep (w.take s) (w.length / s))[j]? = w[j]? := h2
      rw [M11.rep_get _ (by omega) _ _ (by rw [hl]; omega), hl] at h2
      exact h2.symm
    rw [g i (by omega), g (i + s) hi, Nat.add_mod_right]
  · rintro ⟨hd, hp⟩
    unfold IsR
    rw [rep_per hs (by rw [Nat.div_mul_cancel hd]; exact Nat.le_refl _) h1 hp, Nat.div_mul_cancel hd, List.take_length]
def rootN (w : List Nat) : Nat := first (fun s => decide (IsR w s)) 1 (w.length - 1)
theorem rootN_pos (w : List Nat) : 1 ≤ rootN w := (M11.first_le _ _ _).1
theorem rootN_le {w : List Nat} (h : 0 < w.length) : rootN w ≤ w.length := by
  have := (M11.first_le (fun s => decide (IsR w s)) (w.length - 1) 1).2
  show first _ _ _ ≤ _
  omega
theorem isR_self {w : List Nat} (h : 0 < w.length) : IsR w w.length := (isR_iff h (Nat.le_refl _)).mpr ⟨Nat.dvd_refl _, M11.per_self w⟩
theorem rootN_is {w : List Nat} (h : 0 < w.length) : IsR w (rootN w) := by
  have h1 := rootN_le h
  by_cases c : rootN w < w.length
  · exact of_decide_eq_true (M11.first_yes (fun s => decide (IsR w s)) (w.length - 1) 1 (by show rootN w < _; omega))
  · rw [show rootN w = w.length by omega]; exact isR_self h
theorem rootN_min {w : List Nat} {s : Nat} (hs : 1 ≤ s) (h : IsR w s) : rootN w ≤ s := by
  apply Classical.byContradiction
  intro c
  have := M11.first_not (fun s => decide (IsR w s)) (w.length - 1) 1 s hs (by show s < rootN w; omega)
  exact of_decide_eq_false this h
theorem rootN_unique {w : List Nat} {s : Nat} (h1 : 1 ≤ s) (h2 : s ≤ w.length) (h : IsR w s) (hn : ∀ t, 1 ≤ t → t < s → ¬ IsR w t) : s = rootN w := by
  have a := rootN_min h1 h
  apply Classical.byContradiction
  intro c
  exact hn (rootN w) (rootN_pos w) (by omega) (rootN_is (by omega))
theorem dvd_half {s n : Nat} (h : s ∣ n) (hn : 0 < n) (hne : s ≠ n) : 2 * s ≤ n := by
  obtain ⟨k, e⟩ := h
  have k0 : k ≠ 0 := fun z => by rw [z] at e; omega
  have k1 : k ≠ 1 := fun z => by rw [z, Nat.mul_one] at e; exact hne e.symm
  have := Nat.mul_le_mul_left s (show 2 ≤ k by omega)
  omega
theorem root_dvd {u v : List Nat} (h : u ++ v = v ++ u) (hn : 0 < (u ++ v).length) : rootN (u ++ v) ∣ u.length := by
  generalize hw : u ++ v = w at hn
  have hlen : w.length = u.length + v.length := by rw [← hw, List.length_append]
  have hpu : Per w u.length := (M11.per_cut _ _).mp (by
    rw [← hw, List.drop_left]
    rw [show (u ++ v).length - u.length = v.length by rw [List.length_append]; omega, h, List.take_left])
  have hpv : Per w v.length := (M11.per_cut _ _).mp (by
    rw [← hw, h, List.drop_left]
    rw [show (v ++ u).length - v.length = u.length by rw [List.length_append]; omega, ← h, List.take_left])
  have hr := rootN_is hn
  have hr1 := rootN_pos w
  have hr2 := rootN_le hn
  obtain ⟨rd, rp⟩ := (isR_iff hr1 hr2).mp hr
  by_cases u0 : u.length = 0
  · rw [u0]; exact Nat.dvd_zero _
  by_cases v0 : v.length = 0
  · rw [show u.length = w.length by omega]; exact rd
  have g0 := fw _ u.length v.length w rfl (by omega) (by omega) (by omega) hpu hpv
  have gp : 0 < Nat.gcd u.length v.length := Nat.gcd_pos_of_pos_left _ (by omega)
  have gd1 := Nat.gcd_dvd_left u.length v.length
  have gd2 := Nat.gcd_dvd_right u.length v.length
  have gn : Nat.gcd u.length v.length ∣ w.length := by rw [hlen]; exact Nat.dvd_add gd1 gd2
  generalize Nat.gcd u.length v.length = g at g0 gp gd1 gd2 gn
  have gl := Nat.le_of_dvd (by omega) gd1
  have hg := rootN_min gp ((isR_iff gp (by omega)).mpr ⟨gn, g0⟩)
  have half := dvd_half gn hn (by omega)
  have t0 := fw _ (rootN w) g w rfl hr1 gp (by omega) rp g0
  have td1 := Nat.gcd_dvd_left (rootN w) g
  have td2 := Nat.gcd_dvd_right (rootN w) g
  have tp : 0 < Nat.gcd (rootN w) g := Nat.gcd_pos_of_pos_left _ hr1
  have tl := Nat.le_of_dvd hr1 td1
  have tm := rootN_min tp ((isR_iff tp (by omega)).mpr ⟨Nat.dvd_trans td1 rd, t0⟩)
  rw [show Nat.gcd (rootN w) g = rootN w by omega] at td2
  exact Nat.dvd_trans td2 gd1
theorem root_pow {u v : List Nat} (h : u ++ v = v ++ u) (hn : 0 < (u ++ v).length) : rep ((u ++ v).take (rootN (u ++ v))) (u.length / rootN (u ++ v)) = u := by
  have hd := root_dvd h hn
  have hr1 := rootN_pos (u ++ v)
  have hr2 := rootN_le hn
  have hr := (isR_iff hr1 hr2).mp (rootN_is hn)
  rw [rep_per hr1 (by rw [Nat.div_mul_cancel hd, List.length_append]; omega) hr2 hr.2, Nat.div_mul_cancel hd, List.take_left]
theorem root_pow2 {u v : List Nat} (h : u ++ v = v ++ u) (hn : 0 < (u ++ v).length) : rep ((u ++ v).take (rootN (u ++ v))) (v.length / rootN (u ++ v)) = v := by
  have := root_pow h.symm (by rw [← h]; exact hn)
  rw [← h] at this; exact this
/-- the same both ways -/
theorem made (f o : List Nat) (hf : 0 < f.length) : ∀ (n : Nat) (m : List Nat), m.length = n → f ++ m = m ++ o →
    m.drop (m.length / f.length * f.length) ++ f.drop (m.drop (m.length / f.length * f.length)).length = f ∧
    f.drop (m.drop (m.length / f.length * f.length)).length ++ m.drop (m.length / f.length * f.length) = o ∧
    (m.drop (m.length / f.length * f.length)).length < f.length ∧ m = rep f (m.length / f.length) ++ m.drop (m.length / f.length * f.length) := by
  intro n
  induction n using Nat.strongRecOn with
  | ind n ih =>
    intro m hm h
    by_cases c : m.length < f.length
    · rw [Nat.div_eq_of_lt c, Nat.zero_mul, List.drop_zero]
      have e1 : m = f.take m.length := by
        have := congrArg (List.take m.length) h
        rw [List.take_left, List.take_append_of_le_length (by omega)] at this; exact this.symm
      have e2 : m ++ f.drop m.length = f := by conv => lhs; rw [show m ++ f.drop m.length = f.take m.length ++ f.drop m.length by rw [← e1]]
                                               exact List.take_append_drop _ _
      refine ⟨e2, ?_, c, rfl⟩
      rw [← e2, List.append_assoc] at h
      have h3 := List.append_cancel_left h
      exact h3
    · have e1 : f = m.take f.length := by
        have := congrArg (List.take f.length) h
        rw [List.take_left, List.take_append_of_le_length (by omega)] at this; exact this
      have e2 : f ++ m.drop f.length = m := by conv => lhs; rw [show f ++ m.drop f.length = m.take f.length ++ m.drop f.length by rw [← e1]]
                                               exact List.take_append_drop _ _
      have hl : (m.drop f.length).length = m.length - f.length := List.length_drop
      have h2 : f ++ m.drop f.length = m.drop f.length ++ o := by
        have h3 := h
        rw [← e2, List.append_assoc] at h3
        exact List.append_cancel_left h3
      obtain ⟨a1, a2, a3, a4⟩ := ih (m.length - f.length) (by omega) (m.drop f.length) hl h2
      have ed : m.length / f.length = (m.length - f.length) / f.length + 1 := by rw [Nat.div_eq_sub_div hf (by omega)]
      rw [hl, List.drop_drop] at a1 a2 a3 a4
      have ei : m.length / f.length * f.length = f.length + (m.length - f.length) / f.length * f.length := by rw [ed, Nat.succ_mul]; omega
      rw [ei]
      refine ⟨a1, a2, a3, ?_⟩
      rw [ed]
      show m = (f ++ rep f _) ++ _
      rw [List.append_assoc, ← a4]
      exact e2.symm
/-- the first place at which two words differ -/
def dif (a b : List Nat) : Nat := first (fun k => !decide ([a.getD k 0] = [b.getD k 0])) 0 a.length
theorem dif_lt {a b : List Nat} (h : a.length = b.length) (hn : a ≠ b) : dif a b < a.length := by
  apply Classical.byContradiction
  intro c
  apply hn
  apply List.ext_getElem?
  intro i
  by_cases hi : i < a.length
  · have := M11.first_not (fun k => !decide ([a.getD k 0] = [b.getD k 0])) a.length 0 i (Nat.zero_le _) (by show i < dif a b; omega)
    simp at this
    rw [List.getElem?_eq_getElem hi, List.getElem?_eq_getElem (by omega)] at this
    rw [List.getElem?_eq_getElem hi, List.getElem?_eq_getElem (by omega)]
    exact congrArg some this
  · rw [List.getElem?_eq_none (by omega), List.getElem?_eq_none (by omega)]
theorem dif_at {a b : List Nat} (h : a.length = b.length) (hn : a ≠ b) : decide ([a.getD (dif a b) 0] = [b.getD (dif a b) 0]) = false := by
  have := M11.first_yes (fun k => !decide ([a.getD k 0] = [b.getD k 0])) a.length 0 (by show dif a b < _; have := dif_lt h hn; omega)
  exact (Bool.not_eq_true' _).mp this
theorem dif_before {a b : List Nat} {j : Nat} (h : j < dif a b) : decide ([a.getD j 0] = [b.getD j 0]) = true := by
  have := M11.first_not (fun k => !decide ([a.getD k 0] = [b.getD k 0])) a.length 0 j (Nat.zero_le _) h
  exact (Bool.not_eq_false' _).mp this
end M01
set_option linter.all false
set_option maxHeartbeats 4000000
/-! plain mathematics of borders -/
namespace MB
open M11 (Per first)
/-- b letters are a border of the first k letters -/
def B (w : List Nat) (k b : Nat) : Prop := b < k ∧ ∀ i, i < b → w[i]? = w[k - b + i]?
theorem B_zero {w : List Nat} {k : Nat} (h : 0 < k) : B w k 0 := ⟨h, fun i hi => absurd hi (Nat.not_lt_zero _)⟩
theorem B_succ {w : List Nat} {k b : Nat} (hk : b < k) : B w (k + 1) (b + 1) ↔ B w k b ∧ w[b]? = w[k]? := by
  constructor
  · rintro ⟨_, h⟩
    refine ⟨⟨hk, fun i hi => ?_⟩, ?_⟩
    · have := h i (by omega)
      rw [show k + 1 - (b + 1) + i = k - b + i by omega] at this; exact this
    · have := h b (by omega)
      rw [show k + 1 - (b + 1) + b = k by omega] at this; exact this
  · rintro ⟨⟨_, h⟩, e⟩
    refine ⟨by omega, fun i hi => ?_⟩
    rw [show k + 1 - (b + 1) + i = k - b + i by omega]
    by_cases c : i = b
    · subst c; rw [show k - i + i = k by omega]; exact e
    · exact h i (by omega)
theorem B_trans {w : List Nat} {k b c : Nat} (h1 : B w k b) (h2 : B w b c) : B w k c := by
  have hb := h1.1
  have hc := h2.1
  refine ⟨by omega, fun i hi => ?_⟩
  rw [h2.2 i hi, h1.2 (b - c + i) (by omega)]
  congr 1; omega
theorem B_down {w : List Nat} {k b c : Nat} (h1 : B w k b) (h2 : B w k c) (h : c < b) : B w b c := by
  have hb := h1.1
  refine ⟨h, fun i hi => ?_⟩
  rw [h2.2 i hi, h1.2 (b - c + i) (by omega)]
  congr 1; omega
noncomputable instance (w : List Nat) (k b : Nat) : Decidable (B w k b) := Classical.propDecidable _
/-- the longest border of the first k letters -/
noncomputable def lb (w : List Nat) (k : Nat) : Nat := k - first (fun p => decide (B w k (k - p))) 1 (k - 1)
theorem lb_spec {w : List Nat} {k : Nat} (h : 0 < k) : B w k (lb w k) ∧ ∀ b, B w k b → b ≤ lb w k := by
  have hb := M11.first_le (fun p => decide (B w k (k - p))) (k - 1) 1
  have key : ∀ b, B w k b → b ≤ lb w k := fun b hB => by
    unfold lb
    have hlt := hB.1
    apply Classical.byContradiction
    intro c
    have := M11.first_not (fun p => decide (B w k (k - p))) (k - 1) 1 (k - b) (by omega) (by omega)
    have h2 := of_decide_eq_false this
    rw [show k - (k - b) = b by omega] at h2
    exact h2 hB
  refine ⟨?_, key⟩
  unfold lb
  by_cases c : first (fun p => decide (B w k (k - p))) 1 (k - 1) < 1 + (k - 1)
  · exact of_decide_eq_true (M11.first_yes (fun p => decide (B w k (k - p))) (k - 1) 1 c)
  · rw [show k - first (fun p => decide (B w k (k - p))) 1 (k - 1) = 0 by omega]; exact B_zero h
theorem lb_lt {w : List Nat} {k : Nat} (h : 0 < k) : lb w k < k := (lb_spec (w := w) h).1.1
theorem lb_unique {w : List Nat} {k s : Nat} (h : 0 < k) (h1 : B w k s) (h2 : ∀ b, B w k b → b ≤ s) : s = lb w k := by
  have a := lb_spec (w := w) h
  exact Nat.le_antisymm (a.2 s h1) (h2 _ a.1)
/-- one step of the search: a border that does not go on -/
theorem step {w : List Nat} {k s : Nat} (hs : 0 < s) (h1 : B w k s) (hm : w[s]? ≠ w[k]?) (h2 : ∀ b, B w k b → s < b → w[b]? ≠ w[k]?) :
    B w k (lb w s) ∧ lb w s < s ∧ ∀ b, B w k b → lb w s < b → w[b]? ≠ w[k]? := by
  refine ⟨B_trans h1 (lb_spec hs).1, lb_lt hs, fun b hb hlt => ?_⟩
  by_cases c : s < b
  · exact h2 b hb c
  · by_cases d : b = s
    · subst d; exact hm
    · have := (lb_spec (w := w) hs).2 b (B_down h1 hb (by omega))
      omega
theorem found {w : List Nat} {k s : Nat} (hk : 0 < k) (h1 : B w k s) (he : w[s]? = w[k]?) (h2 : ∀ b, B w k b → s < b → w[b]? ≠ w[k]?) : lb w (k + 1) = s + 1 := by
  refine (lb_unique (by omega) ((B_succ h1.1).mpr ⟨h1, he⟩) fun b hb => ?_).symm
  cases b with
  | zero => omega
  | succ b =>
    have hbk := hb.1
    obtain ⟨h3, h4⟩ := (B_succ (w := w) (k := k) (b := b) (by omega)).mp hb
    apply Classical.byContradiction
    intro c
    exact h2 b h3 (by omega) h4
theorem none {w : List Nat} {k : Nat} (hm : w[0]? ≠ w[k]?) (h2 : ∀ b, B w k b → 0 < b → w[b]? ≠ w[k]?) : lb w (k + 1) = 0 := by
  refine (lb_unique (by omega) (B_zero (by omega)) fun b hb => ?_).symm
  cases b with
  | zero => omega
  | succ b =>
    have hbk := hb.1
    obtain ⟨h3, h4⟩ := (B_succ (w := w) (k := k) (b := b) (by omega)).mp hb
    cases b with
    | zero => exact absurd h4 hm
    | succ b => exact absurd h4 (h2 _ h3 (by omega))
theorem lb_one (w : List Nat) : lb w 1 = 0 := by have := lb_lt (w := w) (k := 1) (by omega); omega
/-- all borders with a letter, the longest first -/
noncomputable def chain (w : List Nat) : Nat → Nat → List Nat
  | 0, _ => []
  | f + 1, s => if s = 0 then [] else s :: chain w f (lb w s)
theorem chain_mem {w : List Nat} {k : Nat} : ∀ (f s : Nat), s ≤ f → (s = 0 ∨ B w k s) → ∀ b, b ∈ chain w f s ↔ 0 < b ∧ b ≤ s ∧ B w k b
  | 0, s, hf, h, b => by
    have : s = 0 := by omega
    subst this
    exact ⟨fun z => by simp [chain] at z, fun z => by omega⟩
  | f + 1, s, hf, h, b => by
    unfold chain
    by_cases c : s = 0
    · rw [if_pos c]
      exact ⟨fun z => by simp at z, fun z => by omega⟩
    · rw [if_neg c]
      have hB : B w k s := h.resolve_left c
      have hl := lb_lt (w := w) (k := s) (by omega)
      have ih := chain_mem (w := w) (k := k) f (lb w s) (by omega) (.inr (B_trans hB (lb_spec (by omega)).1)) b
      rw [List.mem_cons, ih]
      constructor
      · rintro (z | ⟨z1, z2, z3⟩)
        · subst z; exact ⟨by omega, Nat.le_refl _, hB⟩
        · exact ⟨z1, by omega, z3⟩
      · rintro ⟨z1, z2, z3⟩
        by_cases d : b = s
        · exact .inl d
        · exact .inr ⟨z1, (lb_spec (w := w) (k := s) (by omega)).2 b (B_down hB z3 (by omega)), z3⟩
theorem chain_sorted {w : List Nat} : ∀ (f s : Nat), (chain w f s).Pairwise (· > ·) ∧ ∀ b ∈ chain w f s, b ≤ s
  | 0, s => ⟨by simp [chain], fun b h => by simp [chain] at h⟩
  | f + 1, s => by
    unfold chain
    by_cases c : s = 0
    · rw [if_pos c]; exact ⟨List.Pairwise.nil, fun b h => by simp at h⟩
    · rw [if_neg c]
      obtain ⟨h1, h2⟩ := chain_sorted (w := w) f (lb w s)
      have hl := lb_lt (w := w) (k := s) (by omega)
      refine ⟨List.pairwise_cons.mpr ⟨fun b hb => ?_, h1⟩, fun b hb => ?_⟩
      · have := h2 b hb; show b < s; omega
      · rcases List.mem_cons.mp hb with z | z
        · omega
        · have := h2 b z; omega
/-- the borders of a word, the shortest first -/
noncomputable def bo (w : List Nat) : List Nat := (List.range w.length).filter fun b => decide (0 < b ∧ B w w.length b)
theorem bo_mem {w : List Nat} {b : Nat} : b ∈ bo w ↔ 0 < b ∧ B w w.length b := by
  unfold bo
  rw [List.mem_filter]
  exact ⟨fun h => of_decide_eq_true h.2, fun h => ⟨by simpa using h.2.1, decide_eq_true h⟩⟩
theorem bo_sorted (w : List Nat) : (bo w).Pairwise (· < ·) := List.Pairwise.filter _ List.pairwise_lt_range
theorem sorted_eq : ∀ (a b : List Nat), a.Pairwise (· < ·) → b.Pairwise (· < ·) → (∀ x, x ∈ a ↔ x ∈ b) → a = b
  | [], [], _, _, _ => rfl
  | [], y :: b, _, _, h => by have := (h y).mpr List.mem_cons_self; simp at this
  | x :: a, [], _, _, h => by have := (h x).mp List.mem_cons_self; simp at this
  | x :: a, y :: b, ha, hb, h => by
    have ha2 := List.pairwise_cons.mp ha
    have hb2 := List.pairwise_cons.mp hb
    have e : x = y := by
      rcases List.mem_cons.mp ((h x).mp List.mem_cons_self) with z | z
      · exact z
      · rcases List.mem_cons.mp ((h y).mpr List.mem_cons_self) with u | u
        · exact u.symm
        · have := hb2.1 x z
          have := ha2.1 y u
          omega
    subst e
    rw [sorted_eq a b ha2.2 hb2.2 fun z => ?_]
    constructor
    · intro hz
      rcases List.mem_cons.mp ((h z).mp (List.mem_cons_of_mem _ hz)) with u | u
      · subst u; exact absurd (ha2.1 z hz) (Nat.lt_irrefl _)
      · exact u
    · intro hz
      rcases List.mem_cons.mp ((h z).mpr (List.mem_cons_of_mem _ hz)) with u | u
      · subst u; exact absurd (hb2.1 z hz) (Nat.lt_irrefl _)
      · exact u
theorem chain_rev {w : List Nat} (h : 0 < w.length) : (chain w w.length (lb w w.length)).reverse = bo w := by
  have hs := lb_spec (w := w) h
  have hl := lb_lt (w := w) h
  refine sorted_eq _ _ ?_ (bo_sorted w) fun b => ?_
  · rw [List.pairwise_reverse]; exact (chain_sorted _ _).1
  · rw [List.mem_reverse, chain_mem (k := w.length) _ _ (by omega) (.inr hs.1), bo_mem]
    exact ⟨fun z => ⟨z.1, z.2.2⟩, fun z => ⟨z.1, hs.2 b z.2, z.2⟩⟩
/-- the fuel does not matter -/
theorem chain_fuel {w : List Nat} : ∀ (f g s : Nat), s ≤ f → s ≤ g → chain w f s = chain w g s
  | 0, 0, _, _, _ => rfl
  | 0, g + 1, s, h1, _ => by have : s = 0 := by omega
                             subst this; unfold chain; rw [if_pos rfl]
  | f + 1, 0, s, _, h2 => by have : s = 0 := by omega
                             subst this; unfold chain; rw [if_pos rfl]
  | f + 1, g + 1, s, h1, h2 => by
    unfold chain
    by_cases c : s = 0
    · rw [if_pos c, if_pos c]
    · rw [if_neg c, if_neg c]
      have := lb_lt (w := w) (k := s) (by omega)
      rw [chain_fuel f g (lb w s) (by omega) (by omega)]
theorem chain_len {w : List Nat} : ∀ (f s : Nat), (chain w f s).length ≤ f
  | 0, _ => by simp [chain]
  | f + 1, s => by
    unfold chain
    by_cases c : s = 0
    · rw [if_pos c]; simp
    · rw [if_neg c, List.length_cons]; have := chain_len (w := w) f (lb w s); omega
theorem chain_step {w : List Nat} {s : Nat} (h : 0 < s) : chain w s s = s :: chain w (lb w s) (lb w s) := by
  obtain ⟨t, rfl⟩ : ∃ t, s = t + 1 := ⟨s - 1, by omega⟩
  have hl := lb_lt (w := w) (k := t + 1) (by omega)
  show (if t + 1 = 0 then [] else (t + 1) :: chain w t (lb w (t + 1))) = _
  rw [if_neg (by omega), chain_fuel t (lb w (t + 1)) (lb w (t + 1)) (by omega) (Nat.le_refl _)]
theorem bo_le {w : List Nat} {b : Nat} (h : b ∈ bo w) : 0 < b ∧ b < w.length := ⟨(bo_mem.mp h).1, (bo_mem.mp h).2.1⟩
noncomputable def pe (w : List Nat) : List Nat := (bo w).reverse.map (fun b => w.length - b) ++ (if 0 < w.length then [w.length] else [])
theorem B_per {w : List Nat} {b : Nat} : B w w.length b ↔ b < w.length ∧ Per w (w.length - b) := by
  constructor
  · rintro ⟨h, hB⟩
    refine ⟨h, fun i hi => ?_⟩
    rw [hB i (by omega), Nat.add_comm]
  · rintro ⟨h, hp⟩
    refine ⟨h, fun i hi => ?_⟩
    rw [hp i (by omega), Nat.add_comm]
end MB
set_option linter.all false
set_option maxHeartbeats 4000000
/-! plain mathematics of borders and pieces without them -/
namespace M05
open MB
open M11 (Per rep first)
theorem B_take {w : List Nat} {k b : Nat} (hk : k ≤ w.length) : B (w.take k) (w.take k).length b ↔ B w k b := by
  have hl : (w.take k).length = k := by rw [List.length_take]; omega
  rw [hl]
  constructor
  · rintro ⟨h, g⟩
    refine ⟨h, fun i hi => ?_⟩
    have := g i hi
    rw [List.getElem?_take_of_lt (by omega), List.getElem?_take_of_lt (by omega)] at this; exact this
  · rintro ⟨h, g⟩
    refine ⟨h, fun i hi => ?_⟩
    rw [List.getElem?_take_of_lt (by omega), List.getElem?_take_of_lt (by omega)]; exact g i hi
theorem bo_nil_iff {w : List Nat} : bo w = [] ↔ ∀ b, 0 < b → ¬ B w w.length b :=
  ⟨fun h b hb hB => by
    have : b ∈ bo w := bo_mem.mpr ⟨hb, hB⟩
    rw [h] at this; simp at this, fun h => by
    cases e : bo w with
    | nil => rfl
    | cons a r =>
      have : a ∈ bo w := by rw [e]; exact List.mem_cons_self
      exact absurd (bo_mem.mp this).2 (h a (bo_mem.mp this).1)⟩
theorem bo_snoc {w : List Nat} (hn : 0 < w.length) (hm : 0 < lb w w.length) : bo w = bo (w.take (lb w w.length)) ++ [lb w w.length] := by
  have hs := lb_spec (w := w) hn
  have hlt := lb_lt (w := w) hn
  have hlen : (w.take (lb w w.length)).length = lb w w.length := by rw [List.length_take]; omega
  refine sorted_eq _ _ (bo_sorted w) ?_ fun b => ?_
  · rw [List.pairwise_append]
    refine ⟨bo_sorted _, List.pairwise_singleton _ _, fun a ha b hb => ?_⟩
    rw [List.mem_singleton.mp hb]
    have := (bo_le ha).2
    omega
  · rw [List.mem_append, bo_mem, bo_mem, List.mem_singleton, B_take (by omega)]
    constructor
    · rintro ⟨h1, h2⟩
      by_cases c : b = lb w w.length
      · exact .inr c
      · have := hs.2 b h2
        exact .inl ⟨h1, B_down hs.1 h2 (by omega)⟩
    · rintro (⟨h1, h2⟩ | h)
      · exact ⟨h1, B_trans hs.1 h2⟩
      · subst h; exact ⟨hm, hs.1⟩
theorem lb_pos {w : List Nat} (h : bo w ≠ []) : 0 < w.length ∧ 0 < lb w w.length := by
  cases e : bo w with
  | nil => exact absurd e h
  | cons a r =>
    have hm : a ∈ bo w := by rw [e]; exact List.mem_cons_self
    have h1 := bo_mem.mp hm
    have hn : 0 < w.length := Nat.lt_of_le_of_lt (Nat.zero_le _) h1.2.1
    have := (lb_spec (w := w) hn).2 a h1.2
    exact ⟨hn, by omega⟩
theorem bo_first {w : List Nat} {a : Nat} {r : List Nat} (e : bo w = a :: r) : bo (w.take a) = [] ∧ 2 * a ≤ w.length := by
  have hm : a ∈ bo w := by rw [e]; exact List.mem_cons_self
  have h1 := bo_mem.mp hm
  have hmin : ∀ b, 0 < b → B w w.length b → a ≤ b := fun b hb hB => by
    have : b ∈ bo w := bo_mem.mpr ⟨hb, hB⟩
    rw [e] at this
    rcases List.mem_cons.mp this with z | z
    · omega
    · have hp := bo_sorted w
      rw [e] at hp
      have := (List.pairwise_cons.mp hp).1 b z
      omega
  have ha := h1.2.1
  constructor
  · rw [bo_nil_iff]
    intro b hb hB
    rw [B_take (by omega)] at hB
    have := hmin b hb (B_trans h1.2 hB)
    have := hB.1
    omega
  · apply Classical.byContradiction
    intro c
    have hc : B w a (2 * a - w.length) := ⟨by omega, fun i hi => by
      have := h1.2.2 i (by omega)
      rw [show a - (2 * a - w.length) + i = w.length - a + i by omega]; exact this⟩
    have := hmin _ (by omega) (B_trans h1.2 hc)
    omega
/-- the least period -/
noncomputable def d (w : List Nat) : Nat := w.length - lb w w.length
theorem pe_d {w : List Nat} (h : 0 < w.length) : (pe w).headD 0 = d w := by
  unfold pe d
  rw [if_pos h]
  by_cases c : bo w = []
  · rw [c]
    have : lb w w.length = 0 := by
      apply Classical.byContradiction
      intro z
      have : lb w w.length ∈ bo w := bo_mem.mpr ⟨by omega, (lb_spec h).1⟩
      rw [c] at this; simp at this
    rw [this]; rfl
  · have := lb_pos c
    rw [bo_snoc h this.2]; simp
theorem d_pos {w : List Nat} (h : 0 < w.length) : 0 < d w ∧ d w ≤ w.length := by
  have := lb_lt (w := w) h
  unfold d; omega
theorem d_per {w : List Nat} (h : 0 < w.length) : Per w (d w) := (B_per.mp (lb_spec h).1).2
theorem d_min {w : List Nat} {p : Nat} (h1 : 0 < p) (h2 : p ≤ w.length) (h : Per w p) : d w ≤ p := by
  have hB : B w w.length (w.length - p) := B_per.mpr ⟨by omega, by rw [show w.length - (w.length - p) = p by omega]; exact h⟩
  have := (lb_spec (w := w) (by omega)).2 _ hB
  unfold d; omega
theorem per_rev {w : List Nat} {p : Nat} (h : Per w p) : Per w.reverse p := fun i hi => by
  rw [List.length_reverse] at hi
  rw [List.getElem?_reverse (by omega), List.getElem?_reverse (by omega)]
  have := h (w.length - 1 - i - p) (by omega)
  rw [show w.length - 1 - i - p + p = w.length - 1 - i by omega] at this
  rw [← this]; congr 1; omega
theorem bo_rev (w : List Nat) : bo w.reverse = bo w := by
  refine sorted_eq _ _ (bo_sorted _) (bo_sorted _) fun b => ?_
  rw [bo_mem, bo_mem, B_per, B_per, List.length_reverse]
  exact ⟨fun ⟨a, b, c⟩ => ⟨a, b, by have := per_rev c; rwa [List.reverse_reverse] at this⟩, fun ⟨a, b, c⟩ => ⟨a, b, per_rev c⟩⟩
theorem pe_rev (w : List Nat) : pe w.reverse = pe w := by unfold pe; rw [bo_rev, List.length_reverse]
theorem per_piece {w : List Nat} {p i j : Nat} (h : Per w p) : Per ((w.take j).drop i) p := fun x hx => by
  rw [List.length_drop, List.length_take] at hx
  rw [List.getElem?_drop, List.getElem?_drop, List.getElem?_take_of_lt (by omega), List.getElem?_take_of_lt (by omega), h (i + x) (by omega)]
  congr 1; omega
theorem free_le {w : List Nat} {i j : Nat} (h : 0 < w.length) (hij : i < j) (hj : j ≤ w.length) (hf : bo ((w.take j).drop i) = []) : j - i ≤ d w := by
  apply Classical.byContradiction
  intro c
  have hl : ((w.take j).drop i).length = j - i := by rw [List.length_drop, List.length_take]; omega
  have hd := d_pos h
  have := bo_nil_iff.mp hf (j - i - d w) (by omega)
  apply this
  rw [B_per, hl]
  exact ⟨by omega, by rw [show j - i - (j - i - d w) = d w by omega]; exact per_piece (d_per h)⟩
/-- the beginning as long as the least period is primitive -/
theorem prim {w : List Nat} (h : 2 * d w ≤ w.length) (h0 : 0 < w.length) : M01.rootN (w.take (d w)) = d w := by
  have hd := d_pos h0
  have hl : (w.take (d w)).length = d w := by rw [List.length_take]; omega
  have r1 := M01.rootN_pos (w.take (d w))
  have r2 := M01.rootN_le (w := w.take (d w)) (by omega)
  have r3 := (M01.isR_iff r1 r2).mp (M01.rootN_is (by omega))
  generalize M01.rootN (w.take (d w)) = r at r1 r2 r3
  rw [hl] at r2 r3
  have hper : Per w r := fun i hi => by
    have g : ∀ x, x < w.length → w[x]? = w[x % r]? := fun x hx => by
      have e1 := M11.per_mod hd.1 (d_per h0) x hx
      have hm : x % d w < d w := Nat.mod_lt _ hd.1
      have e2 := M11.per_mod r1 r3.2 (x % d w) (by omega)
      rw [List.getElem?_take_of_lt hm, List.getElem?_take_of_lt (Nat.lt_of_lt_of_le (Nat.mod_lt _ r1) r2), Nat.mod_mod_of_dvd _ r3.1] at e2
      rw [e1, e2]
    rw [g i (by omega), g (i + r) hi, Nat.add_mod_right]
  have := d_min r1 (by omega) hper
  omega
/-! ### the least of a ring -/
theorem lt_app : ∀ (a b x : List Nat), a < b → ¬ a <+: b → a ++ x < b
  | [], b, x, _, h => absurd (List.nil_prefix) h
  | a :: r, [], x, h, _ => by simp at h
  | a :: r, b :: s, x, h, hp => by
    rw [List.cons_lt_cons_iff] at h
    rw [List.cons_append, List.cons_lt_cons_iff]
    rcases h with h | ⟨e, h⟩
    · exact .inl h
    · subst e
      exact .inr ⟨rfl, lt_app r s x h fun z => hp (List.cons_prefix_cons.mpr ⟨rfl, z⟩)⟩
theorem app_lt : ∀ (s t u : List Nat), s ++ t < s ++ u ↔ t < u
  | [], t, u => Iff.rfl
  | a :: s, t, u => by
    rw [List.cons_append, List.cons_append, List.cons_lt_cons_iff, app_lt s t u]
    simp
theorem lt_same : ∀ (t u x y : List Nat), t.length = u.length → t < u → t ++ x < u ++ y
  | [], [], _, _, _, h => by simp at h
  | [], _ :: _, _, _, hl, _ => by simp at hl
  | _ :: _, [], _, _, hl, _ => by simp at hl
  | a :: t, b :: u, x, y, hl, h => by
    rw [List.cons_lt_cons_iff] at h
    rw [List.cons_append, List.cons_append, List.cons_lt_cons_iff]
    rcases h with h | ⟨e, h⟩
    · exact .inl h
    · exact .inr ⟨e, lt_same t u x y (by simpa using hl) h⟩
theorem not_lt_prefix (s t : List Nat) : ¬ s ++ t < s := fun h => by
  have : s ++ t < s ++ [] := by rw [List.append_nil]; exact h
  rw [app_lt] at this
  simp at this
theorem tri (a b : List Nat) (h1 : ¬ a < b) (h2 : ¬ b < a) : a = b := List.le_antisymm (List.not_lt.mp h2) (List.not_lt.mp h1)
/-- b is no greater than what it is turned into; it is Lyndon or not primitive -/
theorem lyn_of {b : List Nat} (hmin : ∀ j, j ≤ b.length → ¬ b.drop j ++ b.take j < b) {j : Nat} (h0 : 0 < j) (hj : j < b.length) (hl : ¬ b < b.drop j) : b.drop j ++ b.take j = b := by
  have hsl : (b.drop j).length = b.length - j := List.length_drop
  have hne : b.drop j ≠ b := fun z => by have := congrArg List.length z; omega
  have hlt : b.drop j < b := by
    apply Classical.byContradiction
    intro c
    exact hne (tri _ _ c hl)
  by_cases hp : b.drop j <+: b
  · obtain ⟨t, ht⟩ := hp
    have htl : t.length = j := by have := congrArg List.length ht; rw [List.length_append] at this; omega
    have hu : (b.take j).length = j := by rw [List.length_take]; omega
    have h1 : ¬ b.take j < t := fun z => by
      have := hmin j (by omega)
      apply this
      conv => rhs; rw [← ht]
      rw [app_lt]; exact z
    have h2 : ¬ t < b.take j := fun z => by
      have hm := hmin (b.drop j).length (by omega)
      apply hm
      have e1 : b.drop (b.drop j).length = t := by
        conv => lhs; rw [← ht]
        have : (b.drop j ++ t).drop (b.drop j).length = t := List.drop_left
        rw [ht] at this ⊢; exact this
      have e2 : b.take (b.drop j).length = b.drop j := by
        have : (b.drop j ++ t).take (b.drop j).length = b.drop j := List.take_left
        rw [ht] at this; exact this
      rw [e1, e2]
      have := lt_same t (b.take j) (b.drop j) (b.drop j) (by omega) z
      rw [List.take_append_drop] at this; exact this
    have e := tri _ _ h1 h2
    rw [e]; exact ht
  · exact absurd (lt_app _ _ (b.take j) hlt hp) (hmin j (by omega))
/-- a word turned by k -/
def rot (p : List Nat) (k : Nat) : List Nat := p.drop k ++ p.take k
theorem rot_len {p : List Nat} {k : Nat} (hk : k ≤ p.length) : (rot p k).length = p.length := by unfold rot; rw [List.length_append, List.length_drop, List.length_take]; omega
theorem rot_get {p : List Nat} {k i : Nat} (hk : k ≤ p.length) (hi : i < p.length) : (rot p k)[i]? = p[(k + i) % p.length]? := by
  unfold rot
  by_cases c : i < p.length - k
  · rw [List.getElem?_append_left (by rw [List.length_drop]; exact c), List.getElem?_drop, Nat.mod_eq_of_lt (by omega)]
  · rw [List.getElem?_append_right (by rw [List.length_drop]; omega), List.length_drop, List.getElem?_take_of_lt (by omega), Nat.mod_eq_sub_mod (by omega), Nat.mod_eq_of_lt (by omega)]
    congr 1; omega
theorem ext_len {a b : List Nat} (hl : a.length = b.length) (h : ∀ i, i < a.length → a[i]? = b[i]?) : a = b := by
  apply List.ext_getElem?
  intro i
  by_cases c : i < a.length
  · exact h i c
  · rw [List.getElem?_eq_none (by omega), List.getElem?_eq_none (by omega)]
theorem rot_rot {p : List Nat} {k j : Nat} (hk : k ≤ p.length) (hj : j ≤ p.length) (h0 : 0 < p.length) : rot (rot p k) j = rot p ((k + j) % p.length) := by
  have hm : (k + j) % p.length < p.length := Nat.mod_lt _ h0
  refine ext_len (by rw [rot_len (by rw [rot_len hk]; exact hj), rot_len hk, rot_len (by omega)]) fun i hi => ?_
  rw [rot_len (by rw [rot_len hk]; exact hj), rot_len hk] at hi
  rw [rot_get (by rw [rot_len hk]; exact hj) (by rw [rot_len hk]; exact hi), rot_len hk, rot_get hk (Nat.mod_lt _ h0), rot_get (by omega) hi]
  congr 1
  rw [Nat.add_mod_mod, Nat.mod_add_mod, Nat.add_assoc]
theorem rot_fix {p : List Nat} {k j : Nat} (hk : k < p.length) (hj : j < p.length) (h : rot (rot p k) j = rot p k) : rot p j = p := by
  have h0 : 0 < p.length := by omega
  refine ext_len (rot_len (by omega)) fun i hi => ?_
  rw [rot_len (by omega)] at hi
  rw [rot_get (by omega) hi]
  have hx : (i + (p.length - k)) % p.length < p.length := Nat.mod_lt _ h0
  have e := congrArg (fun l => l[(i + (p.length - k)) % p.length]?) h
  have e : (rot (rot p k) j)[(i + (p.length - k)) % p.length]? = (rot p k)[(i + (p.length - k)) % p.length]? := e
  rw [rot_get (by rw [rot_len (by omega)]; omega) (by rw [rot_len (by omega)]; exact hx), rot_len (by omega), rot_get (by omega) (Nat.mod_lt _ h0), rot_get (by omega) hx] at e
  have a1 : (k + (i + (p.length - k)) % p.length) % p.length = i := by
    rw [Nat.add_mod_mod, show k + (i + (p.length - k)) = i + p.length by omega, Nat.add_mod_right, Nat.mod_eq_of_lt hi]
  have a2 : (k + (j + (i + (p.length - k)) % p.length) % p.length) % p.length = (j + i) % p.length := by
    rw [Nat.add_mod_mod, show k + (j + (i + (p.length - k)) % p.length) = j + (k + (i + (p.length - k)) % p.length) by omega, Nat.add_mod, a1]
    rw [Nat.add_mod j i, Nat.mod_eq_of_lt hi]
  rw [a1, a2] at e
  exact e
/-- a least turned word of a primitive one is Lyndon -/
theorem lyndon {p : List Nat} {k : Nat} (hk : k < p.length) (hp : M01.rootN p = p.length) (hmin : ∀ j, j < p.length → ¬ rot p j < rot p k) {j : Nat} (h0 : 0 < j) (hj : j < p.length) : rot p k < (rot p k).drop j := by
  apply Classical.byContradiction
  intro c
  have hl := rot_len (p := p) (k := k) (by omega)
  have hm : ∀ j, j ≤ (rot p k).length → ¬ (rot p k).drop j ++ (rot p k).take j < rot p k := fun j hj => by
    rw [hl] at hj
    have := rot_rot (p := p) (k := k) (j := j) (by omega) hj (by omega)
    have e : (rot p k).drop j ++ (rot p k).take j = rot p ((k + j) % p.length) := this
    rw [e]; exact hmin _ (Nat.mod_lt _ (by omega))
  have e := lyn_of hm h0 (by omega) c
  have e2 := rot_fix hk hj (show rot (rot p k) j = rot p k from e)
  have e3 : p.take j ++ p.drop j = p.drop j ++ p.take j := by rw [List.take_append_drop]; exact e2.symm
  have hd := M01.root_dvd e3 (by rw [List.take_append_drop]; omega)
  rw [List.take_append_drop, hp, List.length_take] at hd
  have := Nat.le_of_dvd (by omega) hd
  omega
theorem lyn_free {b : List Nat} (h : ∀ j, 0 < j → j < b.length → b < b.drop j) : bo b = [] := by
  rw [bo_nil_iff]
  intro c hc hB
  have hcl := hB.1
  have e : b.drop (b.length - c) = b.take c := by
    have := (M11.per_cut b (b.length - c)).mpr (B_per.mp hB).2
    rw [this, show b.length - (b.length - c) = c by omega]
  have := h (b.length - c) (by omega) (by omega)
  rw [e] at this
  have h2 : b.take c ++ b.drop c < b.take c := by rw [List.take_append_drop]; exact this
  exact not_lt_prefix _ _ h2
theorem rot_in {w : List Nat} {k : Nat} (h0 : 0 < w.length) (h : 2 * d w ≤ w.length) (hk : k < d w) : (w.take (k + d w)).drop k = rot (w.take (d w)) k := by
  have hd := d_pos h0
  have hl : (w.take (d w)).length = d w := by rw [List.length_take]; omega
  refine ext_len (by rw [rot_len (by omega), hl, List.length_drop, List.length_take]; omega) fun i hi => ?_
  rw [List.length_drop, List.length_take] at hi
  rw [List.getElem?_drop, List.getElem?_take_of_lt (by omega), rot_get (by omega) (by omega), hl, List.getElem?_take_of_lt (Nat.mod_lt _ hd.1)]
  exact M11.per_mod hd.1 (d_per h0) (k + i) (by omega)
/-- a border of the piece behind a place brings a local period -/
theorem crit {w : List Nat} {p c : Nat} (h0 : 0 < w.length) (hp : p + d w ≤ w.length) (hB : B ((w.take (p + d w)).drop p) (d w) c) {k : Nat} (h1 : p - c ≤ k) (h2 : k < p) (h3 : k + c < w.length) : w[k]? = w[k + c]? := by
  have hc := hB.1
  have e := hB.2 (k + c - p) (by omega)
  rw [List.getElem?_drop, List.getElem?_drop, List.getElem?_take_of_lt (by omega), List.getElem?_take_of_lt (by omega), show p + (k + c - p) = k + c by omega, show p + (d w - c + (k + c - p)) = k + d w by omega] at e
  rw [e, d_per h0 k (by omega)]
end M05
set_option Elab.async false
set_option linter.all false
set_option maxRecDepth 100000
set_option maxHeartbeats 4000000
/-! k02: places that must be the same -/
namespace G02
open PySem L2 D2
/-- a step of a period -/
def St (ws : List Nat) (n a b : Nat) : Prop := a < n ∧ b < n ∧ ∃ p, p ∈ ws ∧ (a + p = b ∨ b + p = a)
theorem St.symm {ws : List Nat} {n a b : Nat} (h : St ws n a b) : St ws n b a := ⟨h.2.1, h.1, let ⟨p, h1, h2⟩ := h.2.2; ⟨p, h1, h2.symm⟩⟩
inductive Cn (ws : List Nat) (n : Nat) : Nat → Nat → Prop
  | refl (a : Nat) : Cn ws n a a
  | step {a b c : Nat} : Cn ws n a b → St ws n b c → Cn ws n a c
section
variable {ws : List Nat} {n a b c : Nat}
theorem Cn.trans (h : Cn ws n a b) (h2 : Cn ws n b c) : Cn ws n a c := by
  induction h2 with
  | refl => exact h
  | step _ s ih => exact .step ih s
theorem Cn.symm (h : Cn ws n a b) : Cn ws n b a := by
  induction h with
  | refl => exact .refl _
  | step _ s ih => exact (Cn.step (.refl _) s.symm).trans ih
theorem Cn.lt (h : Cn ws n a b) (ha : a < n) : b < n := by
  induction h with
  | refl => exact ha
  | step _ s _ => exact s.2.1
/-- what a labelling must have -/
structure Lab (ws : List Nat) (n : Nat) (f : List Nat) : Prop where
  len : f.length = n
  cn : ∀ a v, f[a]? = some v → Cn ws n a v ∧ v ≤ a
  same : ∀ a b, St ws n a b → f[a]? = f[b]?
theorem Lab.conn {f : List Nat} (h : Lab ws n f) (c : Cn ws n a b) : f[a]? = f[b]? := by
  induction c with
  | refl => rfl
  | step _ s ih => exact ih.trans (h.same _ _ s)
theorem Lab.least {f : List Nat} (h : Lab ws n f) {v : Nat} (e : f[a]? = some v) (c : Cn ws n a b) : v ≤ b := (h.cn b v ((h.conn c).symm.trans e)).2
/-- the least place of those that hang together is one -/
theorem Lab.uniq {f : List Nat} (h : Lab ws n f) {v : Nat} (ha : a < n) (c : Cn ws n a v) (hm : ∀ b, Cn ws n a b → v ≤ b) : f[a]? = some v := by
  have e := List.getElem?_eq_getElem (show a < f.length by rw [h.len]; exact ha)
  rw [e]
  obtain ⟨c1, _⟩ := h.cn a _ e
  exact congrArg some (Nat.le_antisymm (h.least e c) (hm _ c1))
theorem Lab.eq_iff {f : List Nat} (h : Lab ws n f) (ha : a < n) (hb : b < n) : f[a]? = f[b]? ↔ Cn ws n a b := by
  refine ⟨fun e => ?_, h.conn⟩
  have e1 := List.getElem?_eq_getElem (show a < f.length by rw [h.len]; exact ha)
  have e2 := List.getElem?_eq_getElem (show b < f.length by rw [h.len]; exact hb)
  rw [e1, e2] at e
  have e := Option.some.inj e
  have c1 := (h.cn a _ e1).1
  have c2 := (h.cn b _ e2).1
  rw [e] at c1
  exact c1.trans c2.symm
end
/-- part of the way: the periods of ws up to i are done, and of p the places below k -/
structure Part (ws : List Nat) (n : Nat) (i k : Nat) (f : List Nat) : Prop where
  len : f.length = n
  cn : ∀ a v, f[a]? = some v → Cn ws n a v ∧ v ≤ a
  done : ∀ j p, j < i → ws[j]? = some p → ∀ a, a + p < n → f[a]? = f[a + p]?
  now : ∀ p, ws[i]? = some p → ∀ a, a < k → a + p < n → f[a]? = f[a + p]?
theorem Part.start (ws : List Nat) (n : Nat) : Part ws n 0 0 (List.range n) where
  len := List.length_range
  cn := fun a v e => by
    obtain ⟨h1, h2⟩ := List.getElem?_eq_some_iff.mp e
    rw [List.getElem_range] at h2
    subst h2
    exact ⟨.refl _, Nat.le_refl _⟩
  done := fun j p hj => absurd hj (Nat.not_lt_zero _)
  now := fun p _ a ha => absurd ha (Nat.not_lt_zero _)
theorem Part.turn {ws : List Nat} {n i k : Nat} {f : List Nat} (h : Part ws n i k f) {p : Nat} (hp : ws[i]? = some p) (hk : n - p ≤ k) : Part ws n (i + 1) 0 f where
  len := h.len
  cn := h.cn
  done := fun j q hj hq a ha => by
    by_cases c : j = i
    · subst c
      rw [hp] at hq; cases hq
      exact h.now p hp a (by omega) ha
    · exact h.done j q (by omega) hq a ha
  now := fun p _ a ha => absurd ha (Nat.not_lt_zero _)
theorem Part.lab {ws : List Nat} {n k : Nat} {f : List Nat} (h : Part ws n ws.length k f) : Lab ws n f where
  len := h.len
  cn := h.cn
  same := fun a b ⟨ha, hb, p, hp, q⟩ => by
    obtain ⟨j, hj, e⟩ := List.getElem_of_mem hp
    have e : ws[j]? = some p := by rw [List.getElem?_eq_getElem hj, e]
    rcases q with q | q
    · rw [← q]; exact h.done j p hj e a (by omega)
    · rw [← q]; exact (h.done j p hj e b (by omega)).symm
/-- one join -/
theorem Part.join {ws : List Nat} {n i k p : Nat} {f : List Nat} (h : Part ws n i k f) (hp : ws[i]? = some p) (hk : k + p < n) {x y : Nat} (ex : f[k]? = some x) (ey : f[k + p]? = some y) :
    Part ws n i (k + 1) (f.map fun one => if one = max x y then min x y else one) := by
  have hx := h.cn k x ex
  have hy := h.cn (k + p) y ey
  have st : St ws n k (k + p) := ⟨by omega, hk, p, List.mem_of_getElem? hp, .inl rfl⟩
  have cxy : Cn ws n x y := hx.1.symm.trans ((Cn.step (.refl _) st).trans hy.1)
  have cmm : Cn ws n (max x y) (min x y) := by
    rcases Nat.le_total x y with c | c
    · rw [Nat.max_eq_right c, Nat.min_eq_left c]; exact cxy.symm
    · rw [Nat.max_eq_left c, Nat.min_eq_right c]; exact cxy
  have eqv : ∀ a b, f[a]? = f[b]? → (f.map fun one => if one = max x y then min x y else one)[a]? = (f.map fun one => if one = max x y then min x y else one)[b]? := fun a b e => by
    rw [List.getElem?_map, List.getElem?_map, e]
  refine ⟨by rw [List.length_map]; exact h.len, fun a v e => ?_, fun j q hj hq a ha => eqv _ _ (h.done j q hj hq a ha), fun q hq a ha hl => ?_⟩
  · rw [List.getElem?_map] at e
    cases ea : f[a]? with
    | none => rw [ea] at e; cases e
    | some u =>
      rw [ea] at e
      have e : (if u = max x y then min x y else u) = v := Option.some.inj e
      obtain ⟨c1, c2⟩ := h.cn a u ea
      by_cases c : u = max x y
      · rw [if_pos c] at e
        subst e
        rw [c] at c1
        exact ⟨c1.trans cmm, by omega⟩
      · rw [if_neg c] at e
        subst e; exact ⟨c1, c2⟩
  · rw [hp] at hq; cases hq
    by_cases c : a = k
    · subst c
      rw [List.getElem?_map, List.getElem?_map, ex, ey]
      show some _ = some _
      have z1 : (if x = max x y then min x y else x) = min x y := by split <;> omega
      have z2 : (if y = max x y then min x y else y) = min x y := by split <;> omega
      exact congrArg some (z1.trans z2.symm)
    · exact eqv _ _ (h.now p hp a (by omega) hl)
end G02
set_option Elab.async false
set_option linter.all false
set_option maxRecDepth 100000
set_option maxHeartbeats 4000000
/-! words of one root: Fine and Wilf's law, roots of powers, rings of powers (no program) -/
namespace LW
open PySem L2 D2
open M11 (Per)
open M01 (rootN IsR)
theorem repm : ∀ (l : List Nat) (n : Nat), M11.rep l n = rep l n
  | _, 0 => rfl
  | l, n + 1 => by show l ++ M11.rep l n = l ++ rep l n; rw [repm l n]
theorem per_take {w : List Nat} {p k : Nat} (h : Per w p) : Per (w.take k) p := fun i hi => by
  rw [List.length_take] at hi
  rw [List.getElem?_take_of_lt (by omega), List.getElem?_take_of_lt (by omega)]
  exact h i (by omega)
/-- Fine and Wilf -/
theorem fwS : ∀ (s p q : Nat) (w : List Nat), p + q = s → 0 < p → 0 < q → p + q ≤ w.length + Nat.gcd p q → Per w p → Per w q → Per w (Nat.gcd p q) := by
  intro s
  induction s using Nat.strongRecOn with
  | ind s ih =>
    have main : ∀ (p q : Nat) (w : List Nat), p + q = s → 0 < p → p < q → p + q ≤ w.length + Nat.gcd p q → Per w p → Per w q → Per w (Nat.gcd p q) := by
      intro p q w hs hp hpq hl h1 h2
      have g1 := Nat.gcd_dvd_left p q
      have g2 := Nat.gcd_dvd_right p q
      have g0 : 0 < Nat.gcd p q := Nat.gcd_pos_of_pos_left _ hp
      have gp := Nat.le_of_dvd hp g1
      have gq := Nat.le_of_dvd (by omega) (Nat.dvd_sub g2 g1)
      have gg : Nat.gcd p (q - p) = Nat.gcd p q := Nat.gcd_sub_self_right (by omega)
      have hlen : (w.take (w.length - p)).length = w.length - p := by rw [List.length_take]; omega
      have a2 : Per (w.take (w.length - p)) (q - p) := fun i hi => by
        rw [hlen] at hi
        rw [List.getElem?_take_of_lt (by omega), List.getElem?_take_of_lt (by omega)]
        have e1 := h2 i (by omega)
        have e2 := h1 (i + (q - p)) (by omega)
        rw [show i + (q - p) + p = i + q by omega] at e2
        rw [e1, e2]
      have a3 := ih (p + (q - p)) (by omega) p (q - p) (w.take (w.length - p)) rfl hp (by omega) (by rw [gg, hlen]; omega) (per_take h1) a2
      rw [gg] at a3
      generalize Nat.gcd p q = g at *
      have val : ∀ i, i < w.length → w[i]? = w[i % g]? := fun i hi => by
        have hm : i % p < p := Nat.mod_lt _ hp
        have e1 := M11.per_mod hp h1 i hi
        have e2 := M11.per_mod g0 a3 (i % p) (by rw [hlen]; omega)
        have hmg : i % p % g < g := Nat.mod_lt _ g0
        rw [List.getElem?_take_of_lt (by omega), List.getElem?_take_of_lt (by omega)] at e2
        rw [e1, e2, Nat.mod_mod_of_dvd _ g1]
      intro i hi
      rw [val i (by omega), val (i + g) hi, Nat.add_mod_right]
    intro p q w hs hp hq hl h1 h2
    rcases Nat.lt_trichotomy p q with c | c | c
    · exact main p q w hs hp c hl h1 h2
    · subst c; rw [Nat.gcd_self]; exact h1
    · rw [Nat.gcd_comm]; exact main q p w (by omega) hq c (by rw [Nat.gcd_comm]; omega) h2 h1
theorem rep_take {z : List Nat} (h0 : 0 < z.length) {a b k : Nat} (h1 : k ≤ a * z.length) (h2 : k ≤ b * z.length) : (rep z a).take k = (rep z b).take k := by
  rw [← repm, ← repm]
  refine M05.ext_len (by rw [List.length_take, List.length_take, M11.rep_len, M11.rep_len]; omega) fun i hi => ?_
  rw [List.length_take, M11.rep_len] at hi
  rw [List.getElem?_take_of_lt (by omega), List.getElem?_take_of_lt (by omega), M11.rep_get _ h0 _ _ (by omega), M11.rep_get _ h0 _ _ (by omega)]
theorem rep_mul (z : List Nat) (a : Nat) : ∀ b, rep (rep z a) b = rep z (b * a)
  | 0 => by rw [Nat.zero_mul]; rfl
  | b + 1 => by
    show rep z a ++ rep (rep z a) b = _
    rw [rep_mul z a b, ← rep_add, Nat.succ_mul, Nat.add_comm]
theorem rep_per0 {z : List Nat} (h0 : 0 < z.length) (a : Nat) : Per (rep z a) z.length := fun i hi => by
  rw [← repm] at hi ⊢
  rw [M11.rep_len] at hi
  rw [M11.rep_get _ h0 _ _ (by omega), M11.rep_get _ h0 _ _ hi, Nat.add_mod_right]
theorem rep_front {z : List Nat} {a : Nat} (h : 0 < a) : (rep z a).take z.length = z := by
  obtain ⟨b, rfl⟩ : ∃ b, a = b + 1 := ⟨a - 1, by omega⟩
  show (z ++ rep z b).take z.length = z
  exact List.take_left
/-- as many letters the same as both lengths without their common part: the words commute -/
theorem fw_comm {u v : List Nat} (hu : 0 < u.length) (hv : 0 < v.length) {a b : Nat} (ha : u.length + v.length - Nat.gcd u.length v.length ≤ a * u.length) (hb : u.length + v.length - Nat.gcd u.length v.length ≤ b * v.length)
    (h : (rep u a).take (u.length + v.length - Nat.gcd u.length v.length) = (rep v b).take (u.length + v.length - Nat.gcd u.length v.length)) : u ++ v = v ++ u := by
  have g1 := Nat.gcd_dvd_left u.length v.length
  have g2 := Nat.gcd_dvd_right u.length v.length
  have g0 : 0 < Nat.gcd u.length v.length := Nat.gcd_pos_of_pos_left _ hu
  have gu := Nat.le_of_dvd hu g1
  have gv := Nat.le_of_dvd hv g2
  generalize hk : u.length + v.length - Nat.gcd u.length v.length = k at *
  have p1 : Per ((rep u a).take k) u.length := per_take (rep_per0 hu a)
  have p2 : Per ((rep u a).take k) v.length := by rw [h]; exact per_take (rep_per0 hv b)
  have hlen : ((rep u a).take k).length = k := by rw [List.length_take, rep_length]; omega
  have pg := fwS _ u.length v.length _ rfl hu hv (by rw [hlen]; omega) p1 p2
  have a0 : 0 < a := by
    rcases Nat.eq_zero_or_pos a with c | c
    · subst c; omega
    · exact c
  have b0 : 0 < b := by
    rcases Nat.eq_zero_or_pos b with c | c
    · subst c; omega
    · exact c
  have fu : ((rep u a).take k).take u.length = u := by rw [List.take_take, Nat.min_eq_left (by omega), rep_front a0]
  have fv : ((rep u a).take k).take v.length = v := by rw [h, List.take_take, Nat.min_eq_left (by omega), rep_front b0]
  generalize (rep u a).take k = x at *
  generalize Nat.gcd u.length v.length = g at *
  have eu := M01.rep_per (w := x) (s := g) (m := u.length / g) g0 (by rw [Nat.div_mul_cancel g1]; omega) (by omega) pg
  have ev := M01.rep_per (w := x) (s := g) (m := v.length / g) g0 (by rw [Nat.div_mul_cancel g2]; omega) (by omega) pg
  rw [Nat.div_mul_cancel g1, fu, repm] at eu
  rw [Nat.div_mul_cancel g2, fv, repm] at ev
  rw [← eu, ← ev, ← rep_add, ← rep_add, Nat.add_comm]
theorem comm_pow {u v : List Nat} (hu : 0 < u.length) (h : u ++ v = v ++ u) : ∃ z a b, 0 < z.length ∧ u = rep z a ∧ v = rep z b := by
  have h0 : 0 < (u ++ v).length := by rw [List.length_append]; omega
  have r1 := M01.rootN_pos (u ++ v)
  have r2 := M01.rootN_le h0
  refine ⟨(u ++ v).take (rootN (u ++ v)), u.length / rootN (u ++ v), v.length / rootN (u ++ v), by rw [List.length_take]; omega, ?_, ?_⟩
  · rw [← repm]; exact (M01.root_pow h h0).symm
  · rw [← repm]; exact (M01.root_pow2 h h0).symm
theorem pow_take {u v : List Nat} (hu : 0 < u.length) (h : u ++ v = v ++ u) {A B k : Nat} (h1 : k ≤ A * u.length) (h2 : k ≤ B * v.length) : (rep u A).take k = (rep v B).take k := by
  obtain ⟨z, a, b, z0, e1, e2⟩ := comm_pow hu h
  rw [e1, rep_length] at h1
  rw [e2, rep_length] at h2
  rw [e1, e2, rep_mul, rep_mul]
  exact rep_take z0 (by rw [Nat.mul_assoc]; exact h1) (by rw [Nat.mul_assoc]; exact h2)
/-! roots -/
theorem root_rep {w : List Nat} (h0 : 0 < w.length) : w = rep (w.take (rootN w)) (w.length / rootN w) := by
  rw [← repm]; exact (M01.rootN_is h0).symm
theorem root_div {w : List Nat} {s : Nat} (h0 : 0 < w.length) (hs : 1 ≤ s) (h2 : s ≤ w.length) (h : IsR w s) : rootN w ∣ s := by
  have r1 := M01.rootN_pos w
  have r2 := M01.rootN_le h0
  obtain ⟨d1, p1⟩ := (M01.isR_iff r1 r2).mp (M01.rootN_is h0)
  obtain ⟨d2, p2⟩ := (M01.isR_iff hs h2).mp h
  have g1 := Nat.gcd_dvd_left (rootN w) s
  have g2 := Nat.gcd_dvd_right (rootN w) s
  have g0 : 0 < Nat.gcd (rootN w) s := Nat.gcd_pos_of_pos_left _ r1
  by_cases c : s = w.length
  · rw [c]; exact d1
  have l1 := M01.dvd_half d2 h0 c
  have l2 := M01.rootN_min hs h
  have pg := M01.fw _ _ _ w rfl r1 hs (by omega) p1 p2
  have := M01.rootN_min g0 ((M01.isR_iff g0 (Nat.le_trans (Nat.le_of_dvd r1 g1) r2)).mpr ⟨Nat.dvd_trans g1 d1, pg⟩)
  have e : Nat.gcd (rootN w) s = rootN w := Nat.le_antisymm (Nat.le_of_dvd r1 g1) this
  rw [e] at g2; exact g2
theorem isR_rep {z : List Nat} (h0 : 0 < z.length) {a : Nat} (ha : 0 < a) : IsR (rep z a) z.length := by
  unfold IsR
  rw [rep_front ha, rep_length, Nat.mul_div_cancel _ h0, repm]
/-- the root of a power of a word that is none -/
theorem root_of_rep {z : List Nat} (h0 : 0 < z.length) (hz : rootN z = z.length) {a : Nat} (ha : 0 < a) : rootN (rep z a) = z.length := by
  have hl : (rep z a).length = a * z.length := rep_length z a
  have hle : z.length ≤ a * z.length := Nat.le_mul_of_pos_left _ ha
  have hw : 0 < (rep z a).length := by rw [hl]; omega
  have d := root_div hw h0 (by rw [hl]; exact hle) (isR_rep h0 ha)
  have r1 := M01.rootN_pos (rep z a)
  have r2 := M01.rootN_le hw
  have hp := ((M01.isR_iff r1 r2).mp (M01.rootN_is hw)).2
  have hle2 := Nat.le_of_dvd h0 d
  have hpz : Per z (rootN (rep z a)) := by
    have := per_take (k := z.length) hp
    rwa [rep_front ha] at this
  have := M01.rootN_min r1 ((M01.isR_iff r1 hle2).mpr ⟨d, hpz⟩)
  omega
theorem root_prim {w : List Nat} (h0 : 0 < w.length) : rootN (w.take (rootN w)) = (w.take (rootN w)).length := by
  have r1 := M01.rootN_pos w
  have r2 := M01.rootN_le h0
  have hl : (w.take (rootN w)).length = rootN w := by rw [List.length_take]; omega
  have t1 := M01.rootN_pos (w.take (rootN w))
  have t2 := M01.rootN_le (w := w.take (rootN w)) (by omega)
  have e := root_rep (w := w.take (rootN w)) (by omega)
  have e2 := root_rep h0
  rw [e, rep_mul] at e2
  have hb : 0 < w.length / rootN w * ((w.take (rootN w)).length / rootN (w.take (rootN w))) := Nat.mul_pos (Nat.div_pos r2 r1) (Nat.div_pos t2 t1)
  have hy : ((w.take (rootN w)).take (rootN (w.take (rootN w)))).length = rootN (w.take (rootN w)) := by rw [List.length_take]; omega
  have := isR_rep (z := (w.take (rootN w)).take (rootN (w.take (rootN w)))) (by rw [hy]; exact t1) hb
  rw [← e2, hy] at this
  have := M01.rootN_min t1 this
  omega
theorem root_unique {u z : List Nat} {a : Nat} (h0 : 0 < z.length) (hz : rootN z = z.length) (ha : 0 < a) (e : u = rep z a) : u.take (rootN u) = z ∧ u.length / rootN u = a := by
  subst e
  rw [root_of_rep h0 hz ha, rep_front ha, rep_length, Nat.mul_div_cancel _ h0]
  exact ⟨rfl, rfl⟩
/-- two words commute exactly if their roots are the same -/
theorem comm_root {u v : List Nat} (hu : 0 < u.length) (hv : 0 < v.length) : u ++ v = v ++ u ↔ u.take (rootN u) = v.take (rootN v) := by
  constructor
  · intro h
    have h0 : 0 < (u ++ v).length := by rw [List.length_append]; omega
    have r1 := M01.rootN_pos (u ++ v)
    have r2 := M01.rootN_le h0
    have e1 := M01.root_pow h h0
    have e2 := M01.root_pow2 h h0
    rw [repm] at e1 e2
    have hp := root_prim h0
    have hl : 0 < ((u ++ v).take (rootN (u ++ v))).length := by rw [List.length_take]; omega
    have pos : ∀ {x : List Nat} {n : Nat}, 0 < x.length → rep ((u ++ v).take (rootN (u ++ v))) n = x → 0 < n := fun {x n} hx e => by
      rcases Nat.eq_zero_or_pos n with c | c
      · subst c; rw [← e] at hx; exact absurd hx (Nat.lt_irrefl _)
      · exact c
    rw [(root_unique hl hp (pos hu e1) e1.symm).1, (root_unique hl hp (pos hv e2) e2.symm).1]
  · intro h
    rw [root_rep hu, root_rep hv, h, ← rep_add, ← rep_add, Nat.add_comm]
/-! rings -/
theorem rot_is (w : List Nat) (k : Nat) : rot w k = M05.rot w k := rfl
theorem rot_repk {z : List Nat} (h0 : 0 < z.length) {t k : Nat} (hk : k < t * z.length) : rot (rep z t) k = rep (rot z (k % z.length)) t := by
  have hm : k % z.length < z.length := Nat.mod_lt _ h0
  have hl : (rot z (k % z.length)).length = z.length := M05.rot_len (by omega)
  have hl2 : (rep z t).length = t * z.length := rep_length z t
  refine M05.ext_len (by rw [rot_is, M05.rot_len (by omega), rep_length, rep_length, hl]) fun i hi => ?_
  rw [rot_is, M05.rot_len (by omega), hl2] at hi
  rw [rot_is, M05.rot_get (by omega) (by omega), hl2, ← repm, ← repm, M11.rep_get _ h0 _ _ (Nat.mod_lt _ (by omega)), M11.rep_get _ (by rw [hl]; exact h0) _ _ (by rw [hl]; exact hi), hl, rot_is, M05.rot_get (by omega) (Nat.mod_lt _ h0)]
  congr 1
  rw [Nat.mod_mod_of_dvd _ (Nat.dvd_mul_left _ _), Nat.mod_add_mod, Nat.add_mod_mod]
theorem rep_mono {a b : List Nat} (hl : a.length = b.length) (h : ¬ b < a) (t : Nat) : ¬ rep b t < rep a t := by
  by_cases e : a = b
  · subst e; exact List.lt_irrefl _
  · have hlt : a < b := Classical.byContradiction fun c => e (M05.tri a b c h)
    cases t with
    | zero => exact List.lt_irrefl _
    | succ t =>
      have := M05.lt_same a b (rep a t) (rep b t) hl hlt
      intro z
      exact List.lt_irrefl _ (List.lt_trans this z)
/-- the least turned one of a power is the power of the least turned one -/
theorem ring_rep {z : List Nat} (h0 : 0 < z.length) {t m k : Nat} (hm : m < z.length) (hmin : ∀ j, j < z.length → ¬ rot z j < rot z m) (hk : k < t * z.length) (kmin : ∀ j, j < t * z.length → ¬ rot (rep z t) j < rot (rep z t) k) : rot (rep z t) k = rep (rot z m) t := by
  have ht : z.length ≤ t * z.length := by
    cases t with
    | zero => omega
    | succ t => rw [Nat.succ_mul]; omega
  have hkm : k % z.length < z.length := Nat.mod_lt _ h0
  have e1 := rot_repk h0 hk
  have e2 := rot_repk (t := t) (k := m) h0 (by omega)
  rw [Nat.mod_eq_of_lt hm] at e2
  have a := kmin m (by omega)
  have b := rep_mono (a := rot z m) (b := rot z (k % z.length)) (by rw [rot_is, rot_is, M05.rot_len (by omega), M05.rot_len (by omega)]) (hmin _ hkm) t
  rw [← e1] at b
  rw [← e2]
  exact M05.tri _ _ (by rw [e2]; exact b) a
theorem lynB_ring {p : List Nat} {k : Nat} (hk : k < p.length) (hp : rootN p = p.length) (hmin : ∀ j, j < p.length → ¬ rot p j < rot p k) : lynB (rot p k) = true := by
  have hl : (rot p k).length = p.length := M05.rot_len (by omega)
  unfold lynB
  rw [decide_eq_true (by omega), Bool.true_and, List.all_eq_true]
  intro j hj
  have hj := mem_nat1.mp hj
  rw [hl] at hj
  exact decide_eq_true (M05.lyndon hk hp hmin (by omega) hj.2)
theorem lynB_rep {y : List Nat} (h0 : 0 < y.length) {t : Nat} (ht : 2 ≤ t) : lynB (rep y t) = false := by
  apply Bool.eq_false_iff.mpr
  intro h
  unfold lynB at h
  rw [Bool.and_eq_true, List.all_eq_true] at h
  obtain ⟨j, rfl⟩ : ∃ j, t = j + 2 := ⟨t - 2, by omega⟩
  have := h.2 y.length (mem_nat1.mpr ⟨h0, by rw [rep_length, Nat.add_mul]; omega⟩)
  have := of_decide_eq_true this
  have e : (rep y (j + 2)).drop y.length = rep y (j + 1) := by
    show (y ++ rep y (j + 1)).drop y.length = _
    exact List.drop_left
  rw [e, rep_succ y (j + 1)] at this
  exact M05.not_lt_prefix _ _ this
/-- the least period of a word twice, which is no power -/
theorem per_twice {u : List Nat} (h0 : 0 < u.length) (hp : rootN u = u.length) : M05.d (rep u 2) = u.length := by
  have hl : (rep u 2).length = 2 * u.length := rep_length u 2
  have h1 := rep_per0 h0 2
  have a := M05.d_min (w := rep u 2) h0 (by omega) h1
  have b := M05.d_pos (w := rep u 2) (by omega)
  have c := M05.d_per (w := rep u 2) (by omega)
  have g1 := Nat.gcd_dvd_left (M05.d (rep u 2)) u.length
  have g2 := Nat.gcd_dvd_right (M05.d (rep u 2)) u.length
  have g0 : 0 < Nat.gcd (M05.d (rep u 2)) u.length := Nat.gcd_pos_of_pos_right _ h0
  have pg := M01.fw _ _ _ _ rfl b.1 h0 (by omega) c h1
  have := per_take (k := u.length) pg
  rw [rep_front (by decide)] at this
  have := M01.rootN_min g0 ((M01.isR_iff g0 (Nat.le_of_dvd h0 g2)).mpr ⟨g2, this⟩)
  have := Nat.le_of_dvd b.1 g1
  omega
end LW
set_option Elab.async false
set_option linter.all false
set_option maxRecDepth 100000
set_option maxHeartbeats 4000000
/-! periods and borders: what the defs tell -/
namespace LW
open PySem L2 D2
open MB (B lb bo pe)
theorem has_period {w : List Nat} {p : Nat} (hl : w.length ≤ 1000000) : f_has_period w p = some (decide (M11.Per w p)) := by
  unfold f_has_period
  refine bi (lenS_eq hl) (bi (a := decide (M11.Per w p)) ?_ rfl)
  by_cases c : p < w.length
  · refine iT (decide_eq_true c) (bi (fromS_eq hl) (bi (lenS_eq hl) (bi (subN_eq (by omega)) (bi (toS_eq hl) ?_))))
    by_cases h : M11.Per w p
    · rw [decide_eq_true h, decide_eq_true ((M11.per_cut w p).mpr h)]
    · rw [decide_eq_false h, decide_eq_false fun z => h ((M11.per_cut w p).mp z)]
  · refine iF (decide_eq_false c) ?_
    rw [decide_eq_true (show M11.Per w p from fun i hi => by omega)]
theorem atI_end {α : Type} {l : List α} {x : α} (h : l[l.length - 1]? = some x) (hl : l.length ≤ 1000000) : atI l (-1) = some x := by
  have h0 : 0 < l.length := by
    cases l with
    | nil => simp at h
    | cons a r => exact Nat.succ_pos _
  unfold atI ixN
  rw [if_neg (by decide), if_pos (by omega), show ((-1 : Int) + (l.length : Int)).toNat = l.length - 1 by omega]
  exact h
theorem border_table {w : List Nat} (hl : w.length ≤ 100000) : f_border_table w = some ((List.range w.length).map fun k => lb w (k + 1)) := by
  unfold f_border_table
  refine forS_go (fun i s => s = (List.range i).map fun k => lb w (k + 1)) rfl (fun i x s hx hs => ?_) (fun s hs => ?_)
  · rw [enumF_get] at hx
    have hi : i < w.length := by
      rcases Nat.lt_or_ge i w.length with c | c
      · exact c
      · rw [List.getElem?_eq_none c] at hx; cases hx
    have hwi := List.getElem?_eq_getElem hi
    rw [hwi] at hx
    have hx : (0 + i, w[i]) = x := Option.some.inj hx
    rw [Nat.zero_add] at hx
    have hsl : s.length = i := by rw [hs, List.length_map, List.length_range]
    have hsg : ∀ j, j < i → s[j]? = some (lb w (j + 1)) := fun j hj => by rw [hs, List.getElem?_map, List.getElem?_range hj]; rfl
    have app : (List.range i).map (fun k => lb w (k + 1)) ++ [lb w (i + 1)] = (List.range (i + 1)).map fun k => lb w (k + 1) := by rw [List.range_succ, List.map_append]; rfl
    by_cases hi0 : 0 < i
    · have key : ∃ z, whS (f_border_table_b1 x w) (f_border_table_b2 s) fuel (lb w i) = some z ∧ (z = 0 ∨ B w i z) ∧ z < i ∧ (∀ b, B w i b → z < b → w[b]? ≠ w[i]?) ∧ (0 < z → w[z]? = w[i]?) := by
        have hlb := MB.lb_spec (w := w) (k := i) hi0
        have hc : ∀ z, ((z = 0 ∨ B w i z) ∧ z < i ∧ ∀ b, B w i b → z < b → w[b]? ≠ w[i]?) → f_border_table_b1 x w z = some (decide (0 < z) && !decide (w[z]? = w[i]?)) := fun z ⟨h1, h2, h3⟩ => by
          unfold f_border_table_b1
          refine bi (a := decide (0 < z) && !decide (w[z]? = w[i]?)) ?_ rfl
          refine iT (by rw [← hx]; exact decide_eq_true hi0) (bi (a := decide (0 < z) && !decide (w[z]? = w[i]?)) ?_ rfl)
          by_cases c : 0 < z
          · have hz := List.getElem?_eq_getElem (show z < w.length by omega)
            refine iT (decide_eq_true c) (bi (ixS_eq (by omega) hz) ?_)
            rw [decide_eq_true c, Bool.true_and, hz, hwi, ← hx]
            congr 2
            by_cases c2 : w[z] = w[i]
            · rw [decide_eq_true c2, c2, decide_eq_true rfl]
            · rw [decide_eq_false c2, decide_eq_false fun q => c2 (Option.some.inj q)]
          · refine iF (decide_eq_false c) ?_
            rw [decide_eq_false c]; rfl
        have hs : ∀ z, ((z = 0 ∨ B w i z) ∧ z < i ∧ ∀ b, B w i b → z < b → w[b]? ≠ w[i]?) → (decide (0 < z) && !decide (w[z]? = w[i]?)) = true → ∃ z', f_border_table_b2 s z = some z' ∧ ((z' = 0 ∨ B w i z') ∧ z' < i ∧ ∀ b, B w i b → z' < b → w[b]? ≠ w[i]?) ∧ z' < z := fun z ⟨h1, h2, h3⟩ hb => by
          rw [Bool.and_eq_true, decide_eq_true_eq] at hb
          obtain ⟨b1, b2⟩ := hb
          have b2 : w[z]? ≠ w[i]? := fun q => by rw [decide_eq_true q] at b2; cases b2
          have hB : B w i z := h1.resolve_left (by omega)
          refine ⟨lb w z, ?_, ?_, MB.lb_lt b1⟩
          · unfold f_border_table_b2
            refine bi (subN_eq (by omega)) (bi (hsg (z - 1) (by omega)) ?_)
            rw [show z - 1 + 1 = z by omega]
          · have hz := MB.lb_spec (w := w) (k := z) b1
            refine ⟨.inr (MB.B_trans hB hz.1), by have := hz.1.1; omega, fun b hb hlt => ?_⟩
            by_cases c : z < b
            · exact h3 b hb c
            · by_cases c2 : b = z
              · rw [c2]; exact b2
              · have := hz.2 b (MB.B_down hB hb (by omega))
                omega
        obtain ⟨z, e, ⟨h1, h2, h3⟩, h4⟩ := whS_ex (c := f_border_table_b1 x w) (f := f_border_table_b2 s) (fun z => (z = 0 ∨ B w i z) ∧ z < i ∧ ∀ b, B w i b → z < b → w[b]? ≠ w[i]?) (fun z => z) (fun z => decide (0 < z) && !decide (w[z]? = w[i]?)) hc hs fuel (lb w i) ⟨.inr hlb.1, hlb.1.1, fun b hb hz => absurd (hlb.2 b hb) (by omega)⟩ (by have := hlb.1.1; unfold fuel; omega)
        refine ⟨z, e, h1, h2, h3, fun hz => ?_⟩
        have h4 : (decide (0 < z) && !decide (w[z]? = w[i]?)) = false := h4
        rw [decide_eq_true hz, Bool.true_and] at h4
        exact of_decide_eq_true (by simpa using h4)
      obtain ⟨z, e, h1, h2, h3, h4⟩ := key
      have hz := List.getElem?_eq_getElem (show z < w.length by omega)
      have hnext : lb w (i + 1) = if w[z]? = w[i]? then z + 1 else 0 := by
        by_cases c : w[z]? = w[i]?
        · rw [if_pos c]
          rcases h1 with h1 | h1
          · subst h1; exact MB.found hi0 (MB.B_zero hi0) c h3
          · exact MB.found hi0 h1 c h3
        · rw [if_neg c]
          have hz0 : z = 0 := by
            rcases Nat.eq_zero_or_pos z with q | q
            · exact q
            · exact absurd (h4 q) c
          subst hz0
          exact MB.none c h3
      refine ⟨s ++ [lb w (i + 1)], ?_, by rw [hs, app]⟩
      unfold f_border_table_b3
      refine bi (a := lb w i) ?_ (bi e (bi (a := decide (w[z]? = w[i]?)) ?_ (bi (a := lb w (i + 1)) ?_ (bi (appO_eq (by omega)) rfl))))
      · refine iT (by rw [← hx]; exact decide_eq_true hi0) (bi (atI_end (x := lb w i) ?_ (by omega)) rfl)
        rw [hsl, hsg (i - 1) (by omega), show i - 1 + 1 = i by omega]
      · refine iT (by rw [← hx]; exact decide_eq_true hi0) (bi (ixS_eq (by omega) hz) ?_)
        rw [hz, hwi, ← hx]
        congr 1
        by_cases c2 : w[z] = w[i]
        · rw [decide_eq_true c2, c2, decide_eq_true rfl]
        · rw [decide_eq_false c2, decide_eq_false fun q => c2 (Option.some.inj q)]
      · rw [hnext]
        by_cases c : w[z]? = w[i]?
        · rw [if_pos c]; exact iT (decide_eq_true c) rfl
        · rw [if_neg c]; exact iF (decide_eq_false c) rfl
    · have hi0 : i = 0 := by omega
      subst hi0
      have hsn : s = [] := List.length_eq_zero_iff.mp hsl
      refine ⟨s ++ [lb w 1], ?_, by rw [hs]; exact app⟩
      unfold f_border_table_b3
      rw [← hx, hsn]
      have w0 : whS (f_border_table_b1 (0, w[0]) w) (f_border_table_b2 []) fuel 0 = some 0 := by
        obtain ⟨z, e, h1, h2⟩ := whS_ex (c := f_border_table_b1 (0, w[0]) w) (f := f_border_table_b2 []) (fun z => z = 0) (fun z => z) (fun _ => false) (fun z hz => by
          unfold f_border_table_b1
          exact bi (a := false) (iF rfl rfl) rfl) (fun z hz hb => by cases hb) fuel 0 rfl (by unfold fuel; omega)
        rw [e, h1]
      refine bi (a := 0) (iF rfl rfl) (bi w0 (bi (a := false) (iF rfl rfl) (bi (a := 0) (iF rfl rfl) (bi (appO_eq (by decide)) ?_))))
      rw [MB.lb_one]
  · rw [hs, enumF_len]
theorem bt_get {w : List Nat} {k : Nat} (h0 : 0 < k) (hk : k ≤ w.length) : ((List.range w.length).map fun k => lb w (k + 1))[k - 1]? = some (lb w k) := by
  rw [List.getElem?_map, List.getElem?_range (by omega)]
  show some (lb w (k - 1 + 1)) = _
  rw [show k - 1 + 1 = k by omega]
theorem borders {w : List Nat} (hl : w.length ≤ 100000) : f_borders w = some (bo w) := by
  unfold f_borders
  refine bi (border_table hl) ?_
  have hlen : ((List.range w.length).map fun k => lb w (k + 1)).length = w.length := by rw [List.length_map, List.length_range]
  rw [hlen]
  by_cases c : 0 < w.length
  · refine bi (a := lb w w.length) (iT (decide_eq_true c) (bi (atI_end (x := lb w w.length) (by rw [hlen]; exact bt_get c (Nat.le_refl _)) (by omega)) rfl)) ?_
    have hlt := MB.lb_lt (w := w) c
    obtain ⟨s, e, ⟨h1, h2⟩, h3⟩ := whS_ex (c := f_borders_b1) (f := f_borders_b2 ((List.range w.length).map fun k => lb w (k + 1))) (fun s => s.1 < w.length ∧ s.2 ++ MB.chain w w.length s.1 = MB.chain w w.length (lb w w.length)) (fun s => s.1) (fun s => decide (0 < s.1)) (fun s _ => rfl) (fun s ⟨h1, h2⟩ hb => by
      have hb : 0 < s.1 := of_decide_eq_true hb
      have hlt := MB.lb_lt (w := w) hb
      have ec : MB.chain w w.length s.1 = s.1 :: MB.chain w w.length (lb w s.1) := by
        rw [MB.chain_fuel (w := w) w.length s.1 s.1 (by omega) (Nat.le_refl _), MB.chain_step hb, MB.chain_fuel (w := w) (lb w s.1) w.length (lb w s.1) (Nat.le_refl _) (by omega)]
      have hcl := MB.chain_len (w := w) w.length (lb w w.length)
      have hl2 := congrArg List.length h2
      rw [List.length_append] at hl2
      refine ⟨(lb w s.1, s.2 ++ [s.1]), ?_, ⟨by show lb w s.1 < w.length; omega, ?_⟩, hlt⟩
      · unfold f_borders_b2
        exact bi (appO_eq (by omega)) (bi (subN_eq (by omega)) (bi (bt_get hb (by omega)) rfl))
      · rw [← h2, ec, List.append_assoc]; rfl) fuel (lb w w.length, []) ⟨hlt, rfl⟩ (by show lb w w.length < fuel; unfold fuel; omega)
    refine bi e ?_
    have h3 : ¬ 0 < s.1 := of_decide_eq_false h3
    have hs : s.1 = 0 := by omega
    rw [hs] at h2
    have hc0 : MB.chain w w.length 0 = [] := by
      cases w.length with
      | zero => rfl
      | succ n => unfold MB.chain; exact if_pos rfl
    rw [hc0, List.append_nil] at h2
    rw [h2, MB.chain_rev c]
  · refine bi (a := 0) (iF (decide_eq_false c) rfl) ?_
    have e : w = [] := List.length_eq_zero_iff.mp (by omega)
    subst e
    obtain ⟨s, e, h1, h3⟩ := whS_ex (c := f_borders_b1) (f := f_borders_b2 []) (fun s => s = (0, [])) (fun s => s.1) (fun s => decide (0 < s.1)) (fun s _ => rfl) (fun s h1 hb => by rw [h1] at hb; cases hb) fuel (0, []) rfl (by show 0 < fuel; unfold fuel; omega)
    refine bi e ?_
    rw [h1]; rfl
theorem periods {w : List Nat} (hl : w.length ≤ 100000) : f_periods w = some (pe w) := by
  unfold f_periods
  have hbl : ∀ b, b ∈ bo w → b ≤ w.length := fun b hb => Nat.le_of_lt (MB.bo_le hb).2
  have hln : (bo w).length ≤ w.length := by
    unfold bo
    exact Nat.le_trans (List.length_filter_le _ _) (by rw [List.length_range]; exact Nat.le_refl _)
  refine bi (borders hl) (bi (mapG_eq (fun b => w.length - b) (by rw [List.length_reverse]; omega) fun b hb => ?_) (bi (lenS_eq (by omega)) (bi (a := if 0 < w.length then [w.length] else []) ?_ ?_)))
  · exact bi (lenS_eq (by omega)) (bi (subN_eq (hbl b (List.mem_reverse.mp hb))) rfl)
  · by_cases c : 0 < w.length
    · rw [if_pos c]; exact iT (decide_eq_true c) (bi (lenS_eq (by omega)) rfl)
    · rw [if_neg c]; exact iF (decide_eq_false c) rfl
  · refine bi (addL_eq ?_) rfl
    rw [List.length_map, List.length_reverse]
    split <;> simp <;> omega
/-- the first of the periods is the least one -/
theorem periods_first {w : List Nat} (h : 0 < w.length) : (pe w)[0]? = some (M05.d w) := by
  have e := M05.pe_d h
  cases hp : pe w with
  | nil =>
    unfold pe at hp
    rw [if_pos h] at hp
    simp at hp
  | cons a r => rw [hp] at e; rw [show a = M05.d w from e]; rfl
end LW
set_option Elab.async false
set_option linter.all false
set_option maxRecDepth 100000
set_option maxHeartbeats 4000000
/-! the law's words -/
namespace LW
open PySem L2 D2
/-- the law's words -/
theorem law_word_ex {L : List Nat} {most : Nat} (h0 : 0 < L.length) (h1 : L.length ≤ 1000) (h2 : most ≤ 400) (m : DS) : ∃ v m', f__law_word m L most = some (v, m') ∧ v.length ≤ most ∧ ∀ c, c ∈ v → c ∈ L := by
  unfold f__law_word
  obtain ⟨x1, m1, e1, b1⟩ := dr_ex m (L := 6) (by decide) (by decide)
  rw [e1, Option.bind_some]
  obtain ⟨x2, m2, e2, b2⟩ := dr_ex m1 (L := most + 1) (by omega) (by omega)
  rw [e2, Option.bind_some, rngO_eq (by omega), Option.bind_some]
  obtain ⟨ys, m3, e3, l3, p3⟩ := mapSG_ex (f := fun (x4 : Nat) (m5 : DS) => (pickS m5 L).bind fun d6 => some (d6.1, d6.2)) (fun c => c ∈ L) (List.range x2) m2 (by rw [List.length_range]; omega) fun x m => by
    obtain ⟨c, m', e, h⟩ := pickS_ex m h0 (by omega)
    exact ⟨c, m', bi e rfl, h⟩
  rw [List.length_range] at l3
  show ∃ v m', (Option.bind (mapSG (fun (x4 : Nat) (m5 : DS) => (pickS m5 L).bind fun d6 => some (d6.1, d6.2)) (List.range x2) m2) _) = some (v, m') ∧ _
  rw [e3, Option.bind_some]
  show ∃ v m', ((joinC ys).bind _) = some (v, m') ∧ _
  rw [joinC_eq (by omega), Option.bind_some]
  have fin : ∀ {o : Option (List Nat × DS)} {v : List Nat} {m' : DS}, o = some (v, m') → v.length ≤ x2 → (∀ c, c ∈ v → c ∈ L) → ∃ v m', (o.bind fun s10 => some (s10.1, s10.2)) = some (v, m') ∧ v.length ≤ most ∧ ∀ c, c ∈ v → c ∈ L := fun {o v m'} e hl hc => ⟨v, m', bi e rfl, by omega, hc⟩
  have mt : ∀ {v : List Nat} {n : Nat}, (∀ c, c ∈ v → c ∈ L) → ∀ c, c ∈ v.take n → c ∈ L := fun h c hc => h c (List.mem_of_mem_take hc)
  by_cases c1 : (decide (x1 = 0) && decide (1 < x2)) = true
  · obtain ⟨x4, m4, e4, b4⟩ := dr_ex m3 (L := x2 / 2 + 1) (by omega) (by omega)
    have hl : (ys.take (1 + x4)).length ≤ 400 := by rw [List.length_take]; omega
    refine fin (iT c1 (bi e4 (bi (toS_eq (by omega)) (bi (gd_eq ⟨by omega, ?_⟩) (bi (toS_eq ?_) rfl))))) (by rw [List.length_take]; omega) (mt fun c hc => ?_)
    · exact Nat.le_trans (Nat.mul_le_mul hl (show x2 ≤ 400 by omega)) (by decide)
    · rw [rep_length]; exact Nat.le_trans (Nat.mul_le_mul (show x2 ≤ 400 by omega) hl) (by decide)
    · exact mt p3 c (mem_rep hc)
  · by_cases c2 : decide (x1 = 1) = true
    · refine fin (iF (by simpa using c1) (iT c2 (bi (toS_eq (by omega)) (bi (toS_eq (by omega)) (bi (revO_eq ?_) (bi (addS_eq ?_) (bi (addS_eq ?_) (bi (toS_eq ?_) rfl)))))))) (by rw [List.length_take]; omega) (mt fun c hc => ?_)
      · rw [List.length_take]; omega
      · rw [List.length_reverse, List.length_take]; omega
      · rw [List.length_append, List.length_reverse, List.length_take]; omega
      · rw [List.length_append, List.length_append, List.length_reverse, List.length_take]; omega
      · rcases List.mem_append.mp hc with hc | hc
        · rcases List.mem_append.mp hc with hc | hc
          · exact mt p3 c hc
          · exact mt p3 c (List.mem_reverse.mp hc)
        · exact p3 c hc
    · by_cases c3 : (decide (x1 = 2) && decide (3 < x2)) = true
      · refine fin (iF (by simpa using c1) (iF (by simpa using c2) (iT c3 (bi (toS_eq (by omega)) (bi (midS_eq (by omega)) (bi (addS_eq ?_) (bi (addS_eq ?_) (bi (addS_eq ?_) (bi (toS_eq ?_) rfl))))))))) (by rw [List.length_take]; omega) (mt fun c hc => ?_)
        · rw [List.length_take, List.length_drop, List.length_take]; omega
        · rw [List.length_append, List.length_take, List.length_drop, List.length_take]; omega
        · rw [List.length_append, List.length_append, List.length_take, List.length_drop, List.length_take]; omega
        · rw [List.length_append, List.length_append, List.length_append, List.length_take, List.length_drop, List.length_take]; omega
        · rcases List.mem_append.mp hc with hc | hc
          · rcases List.mem_append.mp hc with hc | hc
            · rcases List.mem_append.mp hc with hc | hc
              · exact mt p3 c hc
              · exact mt p3 c (List.mem_of_mem_drop hc)
            · exact mt p3 c hc
          · exact mt p3 c hc
      · exact fin (iF (by simpa using c1) (iF (by simpa using c2) (iF (by simpa using c3) rfl))) (by omega) p3
end LW
set_option Elab.async false
set_option linter.all false
set_option maxRecDepth 100000
set_option maxHeartbeats 4000000
/-! k02: the functions -/
namespace LW
open PySem L2 D2 G02
abbrev zs (l : List Nat) : List Int := l.map fun (x : Nat) => (x : Int)
theorem law_has {w : List Nat} {p : Nat} (hl : w.length ≤ 1000) (hp : p ≤ 1000) : f__law_has w p = some (decide (M11.Per w p)) := by
  unfold f__law_has
  refine bi (lenS_eq (by omega)) (bi (rngSO_eq (by omega) (by omega)) (bi (filG_eq (fun k => !decide (w[k]? = w[k + p]?)) id (by rw [List.length_range]; omega) fun k hk => ?_) ?_))
  · have hk := List.mem_range.mp hk
    have e1 := List.getElem?_eq_getElem (show k < w.length by omega)
    have e2 := List.getElem?_eq_getElem (show k + p < w.length by omega)
    refine bi (ixS_eq (by omega) e1) (bi (ixS_eq (by omega) e2) ?_)
    rw [e1, e2]
    by_cases c : w[k] = w[k + p]
    · rw [decide_eq_true c, decide_eq_true (congrArg some c)]; rfl
    · rw [decide_eq_false c, decide_eq_false (fun z => c (Option.some.inj z))]; rfl
  · refine congrArg some ?_
    rw [List.length_map]
    refine decide_eq_decide.mpr ?_
    rw [List.length_eq_zero_iff, List.filter_eq_nil_iff]
    constructor
    · intro h i hi
      have := h i (List.mem_range.mpr (by omega))
      simpa using this
    · intro h k hk
      have hk := List.mem_range.mp hk
      rw [h k (by omega)]; simp
theorem rg_at {n k x : Nat} (h : (List.range n)[k]? = some x) : x = k ∧ k < n := by
  obtain ⟨h1, h2⟩ := List.getElem?_eq_some_iff.mp h
  rw [List.getElem_range] at h2
  rw [List.length_range] at h1
  exact ⟨h2.symm, h1⟩
theorem groups {ws : List Nat} {n : Nat} (hn : n ≤ 1000) (hw : ∀ p, p ∈ ws → p ≤ 1000) : ∃ f, f_groups ws n = some f ∧ Lab ws n f := by
  obtain ⟨f, e, h⟩ := forS_ex (f := f_groups_b2 n) (xs := ws) (s0 := List.range n) (fun i s => Part ws n i 0 s) (Part.start ws n) (fun i p s hp hs => by
    have hpl := hw p (List.mem_of_getElem? hp)
    obtain ⟨s', e, h⟩ := forS_ex (f := f_groups_b1 p) (xs := List.range (n - p)) (s0 := s) (fun k s => Part ws n i k s) hs (fun k x s hk h => by
      obtain ⟨rfl, hk⟩ := rg_at hk
      obtain ⟨u, e1⟩ : ∃ u, s[x]? = some u := ⟨_, List.getElem?_eq_getElem (show x < s.length by rw [h.len]; omega)⟩
      obtain ⟨v, e2⟩ : ∃ v, s[x + p]? = some v := ⟨_, List.getElem?_eq_getElem (show x + p < s.length by rw [h.len]; omega)⟩
      refine ⟨_, ?_, h.join hp (by omega) e1 e2⟩
      unfold f_groups_b1
      refine bi e1 (bi e2 (bi e1 (bi e2 (bi (mapG_eq (fun one => if one = max u v then min u v else one) (by rw [h.len]; omega) fun one _ => ?_) rfl))))
      by_cases c : one = max u v
      · rw [if_pos (decide_eq_true c), if_pos c]; rfl
      · rw [if_neg (by rw [decide_eq_false c]; exact Bool.false_ne_true), if_neg c]; rfl)
    refine ⟨s', ?_, ?_⟩
    · unfold f_groups_b2
      exact bi (rngSO_eq (by omega) (by omega)) (bi e rfl)
    · rw [List.length_range] at h
      exact h.turn hp (Nat.le_refl _))
  refine ⟨f, ?_, h.lab⟩
  unfold f_groups
  exact bi (gd_eq (show n ≤ 1000000 by omega)) (bi e rfl)
/-! the law's own way -/
theorem nodup_lt {l : List Nat} {n : Nat} (h : l.Nodup) (hl : ∀ x, x ∈ l → x < n) : l.length ≤ n := by
  have p : l.Perm ((List.range n).filter fun x => decide (x ∈ l)) := (List.perm_ext_iff_of_nodup h (List.Pairwise.filter _ List.nodup_range)).mpr fun x => by
    rw [List.mem_filter, List.mem_range, decide_eq_true_eq]
    exact ⟨fun hx => ⟨hl x hx, hx⟩, fun hx => hx.2⟩
  rw [p.length_eq]
  have := List.length_filter_le (fun x => decide (x ∈ l)) (List.range n)
  rw [List.length_range] at this
  exact this
structure Bf (ws : List Nat) (n a : Nat) (sn td : List Nat) : Prop where
  nd : sn.Nodup
  mem : a ∈ sn
  cn : ∀ x, x ∈ sn → Cn ws n a x
  sub : ∀ x, x ∈ td → x ∈ sn
  cl : ∀ x, x ∈ sn → x ∉ td → ∀ y, St ws n x y → y ∈ sn
  tl : td.length ≤ sn.length
structure Bq (ws : List Nat) (n a q L0 G0 i : Nat) (sn td : List Nat) : Prop where
  nd : sn.Nodup
  mem : a ∈ sn
  cn : ∀ x, x ∈ sn → Cn ws n a x
  sub : ∀ x, x ∈ td → x ∈ sn
  cl : ∀ x, x ∈ sn → x ∉ td → x ≠ q → ∀ y, St ws n x y → y ∈ sn
  hq : q ∈ sn
  dn : ∀ j p, j < i → ws[j]? = some p → ∀ y, y < n → (q + p = y ∨ y + p = q) → y ∈ sn
  ln : td.length + L0 = sn.length
  gr : G0 ≤ sn.length
def addP (n : Nat) (x : Int) (s : List Nat × List Nat) : List Nat × List Nat := if 0 ≤ x ∧ x < n ∧ x.toNat ∉ s.1 then (s.1 ++ [x.toNat], s.2 ++ [x.toNat]) else s
theorem mem_zs {l : List Nat} {x : Int} (h : 0 ≤ x) : x ∈ zs l ↔ x.toNat ∈ l := by
  rw [List.mem_map]
  constructor
  · rintro ⟨y, hy, rfl⟩; exact hy
  · intro hy; exact ⟨_, hy, Int.toNat_of_nonneg h⟩
theorem b1_eq {n : Nat} {x : Int} {sn td : List Nat} (h1 : sn.length < 1000000) (h2 : td.length < 1000000) : f__law_groups_b1 n x (zs sn, zs td) = some (zs (addP n x (sn, td)).1, zs (addP n x (sn, td)).2) := by
  unfold f__law_groups_b1 addP
  by_cases c1 : 0 ≤ x
  · refine bi (a := decide (x < (n : Int))) (iT (decide_eq_true c1) rfl) ?_
    by_cases c2 : x < (n : Int)
    · rw [decide_eq_true c2, Bool.true_and]
      by_cases c3 : x.toNat ∈ sn
      · refine iF (by rw [decide_eq_true ((mem_zs c1).mpr c3)]; rfl) ?_
        rw [if_neg (fun z => z.2.2 c3)]
      · refine iT (by rw [decide_eq_false (fun z => c3 ((mem_zs c1).mp z))]; rfl) ?_
        rw [if_pos ⟨c1, c2, c3⟩]
        refine bi (appO_eq (by rw [List.length_map]; exact h1)) (bi (appO_eq (by rw [List.length_map]; exact h2)) ?_)
        unfold zs
        rw [List.map_append, List.map_append]
        show some (_ ++ [x], _ ++ [x]) = some (_ ++ [((x.toNat : Nat) : Int)], _ ++ [((x.toNat : Nat) : Int)])
        rw [Int.toNat_of_nonneg c1]
    · refine iF (by rw [decide_eq_false c2]; rfl) ?_
      rw [if_neg (fun z => c2 z.2.1)]
  · refine bi (a := false) (iF (decide_eq_false c1) rfl) (iF rfl ?_)
    rw [if_neg (fun z => c1 z.1)]
section
variable {ws : List Nat} {n a q L0 G0 i : Nat}
theorem Bq.add {sn td : List Nat} (h : Bq ws n a q L0 G0 i sn td) (hqn : q < n) {p : Nat} (hp : p ∈ ws) {x : Int} (hx : x = (q : Int) - p ∨ x = (q : Int) + p) :
    Bq ws n a q L0 G0 i (addP n x (sn, td)).1 (addP n x (sn, td)).2 ∧ (∀ y, y ∈ sn → y ∈ (addP n x (sn, td)).1) ∧ (0 ≤ x → x < n → x.toNat ∈ (addP n x (sn, td)).1) := by
  unfold addP
  by_cases c : 0 ≤ x ∧ x < (n : Int) ∧ x.toNat ∉ sn
  · rw [if_pos c]
    obtain ⟨c1, c2, c3⟩ := c
    have st : St ws n q x.toNat := ⟨hqn, by omega, p, hp, by omega⟩
    refine ⟨⟨?_, List.mem_append_left _ h.mem, fun y hy => ?_, fun y hy => ?_, fun y hy hn hne z sz => ?_, List.mem_append_left _ h.hq, fun j p hj e y hy hz => List.mem_append_left _ (h.dn j p hj e y hy hz), ?_, Nat.le_trans h.gr (by rw [List.length_append]; exact Nat.le_add_right _ _)⟩, fun y hy => List.mem_append_left _ hy, fun _ _ => List.mem_append_right _ (List.mem_singleton.mpr rfl)⟩
    · refine List.nodup_append.mpr ⟨h.nd, List.pairwise_singleton _ _, fun u hu v hv => ?_⟩
      rw [List.mem_singleton.mp hv]
      exact fun z => c3 (z ▸ hu)
    · rcases List.mem_append.mp hy with hy | hy
      · exact h.cn y hy
      · rw [List.mem_singleton.mp hy]; exact .step (h.cn q h.hq) st
    · rcases List.mem_append.mp hy with hy | hy
      · exact List.mem_append_left _ (h.sub y hy)
      · exact List.mem_append_right _ hy
    · rcases List.mem_append.mp hy with hy | hy
      · exact List.mem_append_left _ (h.cl y hy (fun z => hn (List.mem_append_left _ z)) hne z sz)
      · exact absurd (List.mem_append_right _ hy) hn
    · rw [List.length_append, List.length_append]
      have := h.ln
      show td.length + 1 + L0 = sn.length + 1
      omega
  · rw [if_neg c]
    refine ⟨h, fun y hy => hy, fun c1 c2 => ?_⟩
    exact Classical.byContradiction fun c3 => c ⟨c1, c2, c3⟩
theorem b2_ok {sn td : List Nat} (h : Bq ws n a q L0 G0 i sn td) (hqn : q < n) (han : a < n) (hn : n ≤ 1000) {p : Nat} (hp : ws[i]? = some p) (r : List Int) :
    ∃ sn' td', f__law_groups_b2 n ((q : Int), r) p (zs sn, zs td) = some (zs sn', zs td') ∧ Bq ws n a q L0 G0 (i + 1) sn' td' := by
  have hpm := List.mem_of_getElem? hp
  have bl : ∀ {sn td : List Nat}, Bq ws n a q L0 G0 i sn td → sn.length < 1000000 ∧ td.length < 1000000 := fun {sn td} h => by
    have := nodup_lt h.nd fun x hx => (h.cn x hx).lt han
    have := h.ln
    omega
  obtain ⟨h1, k1, g1⟩ := h.add hqn hpm (x := (q : Int) - p) (.inl rfl)
  obtain ⟨h2, k2, g2⟩ := h1.add hqn hpm (x := (q : Int) + p) (.inr rfl)
  refine ⟨_, _, ?_, h2.nd, h2.mem, h2.cn, h2.sub, h2.cl, h2.hq, fun j p' hj e y hy hz => ?_, h2.ln, h2.gr⟩
  · unfold f__law_groups_b2
    have w1 := bl h
    have w2 := bl h1
    refine bi (a := (zs (addP n ((q : Int) + p) (addP n ((q : Int) - p) (sn, td))).1, zs (addP n ((q : Int) + p) (addP n ((q : Int) - p) (sn, td))).2)) ?_ rfl
    show (f__law_groups_b1 n ((q : Int) - p) (zs sn, zs td)).bind _ = _
    rw [b1_eq w1.1 w1.2, Option.bind_some]
    show (f__law_groups_b1 n ((q : Int) + p) (zs _, zs _)).bind _ = _
    rw [b1_eq w2.1 w2.2]; rfl
  · by_cases c : j = i
    · subst c
      rw [hp] at e; cases e
      rcases hz with z | z
      · have := g2 (by omega) (by omega)
        rwa [show ((q : Int) + p).toNat = y by omega] at this
      · refine k2 _ ?_
        have := g1 (by omega) (by omega)
        rwa [show ((q : Int) - p).toNat = y by omega] at this
    · exact h2.dn j p' (by omega) e y hy hz
theorem bfs (han : a < n) (hn : n ≤ 1000) : ∃ sn, whS f__law_groups_b3 (f__law_groups_b4 n ws) fuel ([((a : Nat) : Int)], [((a : Nat) : Int)]) = some (zs sn, []) ∧ a ∈ sn ∧ (∀ x, x ∈ sn → Cn ws n a x) ∧ ∀ b, Cn ws n a b → b ∈ sn := by
  obtain ⟨s', e, ⟨sn, td, rfl, h⟩, hb⟩ := whS_ex (c := f__law_groups_b3) (f := f__law_groups_b4 n ws) (fun s => ∃ sn td, s = (zs sn, zs td) ∧ Bf ws n a sn td) (fun s => 2 * (n - s.1.length) + s.2.length) (fun s => decide (0 < s.2.length)) (fun s _ => rfl) (fun s hs hb => by
    obtain ⟨sn, td, rfl, h⟩ := hs
    have hb : 0 < td.length := by
      have := of_decide_eq_true hb
      rwa [List.length_map] at this
    obtain ⟨td', q, rfl⟩ : ∃ td' q, td = td' ++ [q] := ⟨td.dropLast, td.getLast (fun z => by rw [z] at hb; exact absurd hb (Nat.lt_irrefl _)), (List.dropLast_concat_getLast _).symm⟩
    have hq : q ∈ sn := h.sub q (List.mem_append_right _ (List.mem_singleton.mpr rfl))
    have hqn : q < n := (h.cn q hq).lt han
    have hll := h.tl
    rw [List.length_append] at hll
    have hll : td'.length + 1 ≤ sn.length := hll
    have b0 : Bq ws n a q (sn.length - td'.length) sn.length 0 sn td' := ⟨h.nd, h.mem, h.cn, fun x hx => h.sub x (List.mem_append_left _ hx), fun x hx hn hne y sy => h.cl x hx (fun z => by
      rcases List.mem_append.mp z with z | z
      · exact hn z
      · exact hne (List.mem_singleton.mp z)) y sy, hq, fun j p hj => absurd hj (Nat.not_lt_zero _), by omega, Nat.le_refl _⟩
    obtain ⟨s2, e2, sn2, td2, rfl, h2⟩ := forS_ex (f := f__law_groups_b2 n ((q : Int), zs td')) (xs := ws) (s0 := (zs sn, zs td')) (fun i s => ∃ sn2 td2, s = (zs sn2, zs td2) ∧ Bq ws n a q (sn.length - td'.length) sn.length i sn2 td2) ⟨sn, td', rfl, b0⟩ (fun i p s hp ⟨sn2, td2, es, h2⟩ => by
      subst es
      obtain ⟨sn3, td3, e3, h3⟩ := b2_ok h2 hqn han hn hp (zs td')
      exact ⟨_, e3, sn3, td3, rfl, h3⟩)
    have ln2 := h2.ln
    have gr2 := h2.gr
    have nl := nodup_lt h2.nd fun x hx => (h2.cn x hx).lt han
    refine ⟨(zs sn2, zs td2), ?_, ⟨sn2, td2, rfl, h2.nd, h2.mem, h2.cn, h2.sub, fun x hx hn' y sy => ?_, by omega⟩, ?_⟩
    · unfold f__law_groups_b4
      refine bi (a := ((q : Int), zs td')) ?_ (bi e2 rfl)
      show popO (zs (td' ++ [q])) = _
      have ez : zs (td' ++ [q]) = zs td' ++ [(q : Int)] := List.map_append
      rw [ez]
      unfold popO
      rw [List.length_append, List.getElem?_append_right (by show _ ≤ _ + 1 - 1; omega), show (zs td').length + [(q : Int)].length - 1 - (zs td').length = 0 by show _ + 1 - 1 - _ = 0; omega, List.dropLast_concat]; rfl
    · by_cases c : x = q
      · subst c
        obtain ⟨_, hy, p, hp, hz⟩ := sy
        obtain ⟨j, hj, ej⟩ := List.getElem_of_mem hp
        exact h2.dn j p hj (by rw [List.getElem?_eq_getElem hj, ej]) y hy hz
      · exact h2.cl x hx hn' c y sy
    · show 2 * (n - (zs sn2).length) + (zs td2).length < 2 * (n - (zs sn).length) + (zs (td' ++ [q])).length
      rw [List.length_map, List.length_map, List.length_map, List.length_map, List.length_append]
      show _ < _ + (td'.length + 1)
      have sl := nodup_lt h.nd fun x hx => (h.cn x hx).lt han
      omega) fuel ([((a : Nat) : Int)], [((a : Nat) : Int)]) ⟨[a], [a], rfl, by simp, List.mem_singleton.mpr rfl, fun x hx => by rw [List.mem_singleton.mp hx]; exact .refl _, fun x hx => hx, fun x hx hn' => absurd hx hn', Nat.le_refl _⟩ (by
      show 2 * (n - 1) + 1 < 1000000000000
      omega)
  have htd : td = [] := by
    have := of_decide_eq_false hb
    rw [List.length_map] at this
    exact List.length_eq_zero_iff.mp (by omega)
  subst htd
  refine ⟨sn, e, h.mem, h.cn, fun b c => ?_⟩
  induction c with
  | refl => exact h.mem
  | step _ s ih => exact h.cl _ ih (by simp) _ s
theorem foldminZ : ∀ (l : List Int) (x : Int), (∀ y, y ∈ l → l.foldl (fun a y => if ltZ y a then y else a) x ≤ y) ∧ l.foldl (fun a y => if ltZ y a then y else a) x ≤ x ∧ (l.foldl (fun a y => if ltZ y a then y else a) x = x ∨ l.foldl (fun a y => if ltZ y a then y else a) x ∈ l)
  | [], x => ⟨fun y h => by simp at h, Int.le_refl _, .inl rfl⟩
  | z :: l, x => by
    rw [List.foldl_cons]
    obtain ⟨h1, h2, h3⟩ := foldminZ l (if ltZ z x = true then z else x)
    have hx : (if ltZ z x = true then z else x) ≤ x ∧ (if ltZ z x = true then z else x) ≤ z := by
      unfold ltZ
      by_cases c : z < x
      · rw [if_pos (decide_eq_true c)]; omega
      · rw [if_neg (by rw [decide_eq_false c]; exact Bool.false_ne_true)]; omega
    refine ⟨fun y hy => ?_, Int.le_trans h2 hx.1, ?_⟩
    · rcases List.mem_cons.mp hy with e | e
      · rw [e]; exact Int.le_trans h2 hx.2
      · exact h1 y e
    · rcases h3 with e | e
      · rw [e]
        by_cases c : ltZ z x = true
        · rw [if_pos c]; exact .inr List.mem_cons_self
        · rw [if_neg c]; exact .inl rfl
      · exact .inr (List.mem_cons_of_mem _ e)
theorem minZ {l : List Int} (h : l ≠ []) : ∃ m, minE ltZ l = some m ∧ m ∈ l ∧ ∀ y, y ∈ l → m ≤ y := by
  cases l with
  | nil => exact absurd rfl h
  | cons x xs =>
    obtain ⟨h1, h2, h3⟩ := foldminZ xs x
    refine ⟨_, rfl, ?_, fun y hy => ?_⟩
    · rcases h3 with e | e
      · rw [e]; exact List.mem_cons_self
      · exact List.mem_cons_of_mem _ e
    · rcases List.mem_cons.mp hy with e | e
      · rw [e]; exact h2
      · exact h1 y e
theorem law_groups {f : List Nat} (h : Lab ws n f) (hn : n ≤ 1000) : f__law_groups ws n = some (zs f) := by
  have hlen := h.len
  obtain ⟨s, e, hs⟩ := forS_ex (f := f__law_groups_b5 n ws) (xs := List.range n) (s0 := ([] : List Int)) (fun i s => s = zs (f.take i)) (by simp) (fun i x s hx hs => by
    obtain ⟨rfl, hx⟩ := rg_at hx
    obtain ⟨sn, e, hm, hc, hcl⟩ := bfs (ws := ws) hx hn
    obtain ⟨m, h1, h2, h3⟩ := minZ (l := zs sn) (fun z => by
      have := congrArg List.length z
      rw [List.length_map, List.length_nil] at this
      rw [List.length_eq_zero_iff.mp this] at hm
      simp at hm)
    obtain ⟨v, hv, rfl⟩ := List.mem_map.mp h2
    have hfv := h.uniq hx (hc v hv) (fun b c => by have := h3 _ (List.mem_map.mpr ⟨b, hcl b c, rfl⟩); omega)
    refine ⟨zs (f.take (x + 1)), ?_, rfl⟩
    unfold f__law_groups_b5
    refine bi e (bi h1 (bi (appO_eq (by rw [hs, List.length_map, List.length_take]; omega)) ?_))
    rw [hs, List.take_add_one, hfv]
    show _ = some (zs (f.take x ++ [v]))
    rw [show zs (f.take x ++ [v]) = zs (f.take x) ++ zs [v] from List.map_append]; rfl)
  unfold f__law_groups
  refine bi (rngO_eq (by omega)) (bi e ?_)
  rw [hs, List.length_range, List.take_of_length_le (by omega)]
end
end LW
set_option Elab.async false
set_option linter.all false
set_option maxRecDepth 100000
set_option maxHeartbeats 4000000
/-! k02: groups in order, the widest word -/
namespace LW
open PySem L2 D2 G02
theorem pwZ (l : List Int) : (sortE ltZ l).Pairwise (· ≤ ·) := by
  have h := List.pairwise_mergeSort (le := fun a b => !ltZ b a) (fun a b c h1 h2 => by
    simp only [ltZ, Bool.not_eq_true', decide_eq_false_iff_not] at h1 h2 ⊢; omega) (fun a b => by
    simp only [ltZ, Bool.or_eq_true, Bool.not_eq_true', decide_eq_false_iff_not]; omega) l
  refine h.imp fun {a b} z => ?_
  simp only [ltZ, Bool.not_eq_true', decide_eq_false_iff_not] at z; omega
theorem pwN (l : List Nat) : (sortE ltN l).Pairwise (· ≤ ·) := by
  have h := List.pairwise_mergeSort (le := fun a b => !ltN b a) (fun a b c h1 h2 => by
    simp only [ltN, Bool.not_eq_true', decide_eq_false_iff_not] at h1 h2 ⊢; omega) (fun a b => by
    simp only [ltN, Bool.or_eq_true, Bool.not_eq_true', decide_eq_false_iff_not]; omega) l
  refine h.imp fun {a b} z => ?_
  simp only [ltN, Bool.not_eq_true', decide_eq_false_iff_not] at z; omega
/-- the different places, in order -/
def ord (f : List Nat) : List Nat := sortE ltN (keysA (ofA (f.map fun x => (x, true))))
theorem ord_mem {f : List Nat} {x : Nat} : x ∈ ord f ↔ x ∈ f := by
  unfold ord sortE
  rw [List.Perm.mem_iff (List.mergeSort_perm _ _), keys_mem, List.map_map]
  show x ∈ f.map id ↔ _
  rw [List.map_id]
theorem ord_nodup (f : List Nat) : (ord f).Nodup := ((List.mergeSort_perm _ _).nodup_iff).mpr (keys_nodup _)
theorem ord_len {f : List Nat} {m : Nat} (h : ∀ x, x ∈ f → x < m) : (ord f).length ≤ m := nodup_lt (ord_nodup f) fun x hx => h x (ord_mem.mp hx)
theorem ofA_ord {f : List Nat} : (ofA (f.map fun x => (x, true))).length = (ord f).length := by
  unfold ord sortE
  rw [(List.mergeSort_perm _ _).length_eq]; unfold keysA; rw [List.length_map]
theorem zs_nodup {l : List Nat} (h : l.Nodup) : (zs l).Nodup := (List.pairwise_map).mpr (h.imp fun {a b} z => by omega)
theorem ordZ (f : List Nat) {β : Type} (c : β) : sortE ltZ (keysA (ofA ((zs f).map fun x => (x, c)))) = zs (ord f) := by
  have hk : (keysA (ofA ((zs f).map fun x => (x, c)))).Perm (zs (ord f)) := (List.perm_ext_iff_of_nodup (keys_nodup _) (zs_nodup (ord_nodup f))).mpr fun k => by
    rw [keys_mem, List.map_map]
    show k ∈ (zs f).map id ↔ _
    rw [List.map_id, List.mem_map, List.mem_map]
    constructor
    · rintro ⟨x, hx, e⟩; exact ⟨x, ord_mem.mpr hx, e⟩
    · rintro ⟨x, hx, e⟩; exact ⟨x, ord_mem.mp hx, e⟩
  refine List.Perm.eq_of_pairwise (le := (· ≤ ·)) (fun a b _ _ h1 h2 => Int.le_antisymm h1 h2) (pwZ _) ?_ ((List.mergeSort_perm _ _).trans hk)
  refine List.pairwise_map.mpr ((pwN _).imp fun {a b} z => ?_)
  exact Int.ofNat_le.mpr z
theorem ofZ_len (f : List Nat) {β : Type} (c : β) : (ofA ((zs f).map fun x => (x, c))).length = (ord f).length := by
  have := congrArg List.length (ordZ f c)
  unfold sortE at this
  rw [(List.mergeSort_perm _ _).length_eq, List.length_map] at this
  rw [← this]; unfold keysA; rw [List.length_map]
theorem idx_zs (x : Nat) : ∀ l : List Nat, idxF ((x : Nat) : Int) (zs l) = idxF x l
  | [] => rfl
  | y :: l => by
    show idxF ((x : Nat) : Int) (((y : Nat) : Int) :: zs l) = _
    unfold idxF
    rw [idx_zs x l]
    by_cases c : y = x
    · subst c; simp
    · have c2 : ¬ ((y : Nat) : Int) = (x : Int) := by omega
      simp [c, c2]
abbrev LETS : List Nat := [97, 98, 99, 100, 101, 102, 103, 104, 105, 106, 107, 108, 109, 110, 111, 112, 113, 114, 115, 116, 117, 118, 119, 120, 121, 122]
def wtx (f : List Nat) : List Nat := f.map fun x => LETS.getD (idxF x (ord f)) 0
theorem lets_get {f : List Nat} {x : Nat} (h : (ord f).length ≤ 26) (hx : x ∈ f) : idxL (ord f) x = some (idxF x (ord f)) ∧ ixS LETS (idxF x (ord f)) = some (LETS.getD (idxF x (ord f)) 0) := by
  have hm := ord_mem.mpr hx
  refine ⟨gd_eq hm, ?_⟩
  have hl := (List.getElem?_eq_some_iff.mp (idxF_at hm).1).1
  have hl : idxF x (ord f) < LETS.length := by show _ < 26; omega
  refine ixS_eq (by decide) ?_
  rw [List.getD_eq_getElem?_getD, List.getElem?_eq_getElem hl]; rfl
theorem wtx_len (f : List Nat) : (wtx f).length = f.length := List.length_map _
section
variable {ws : List Nat} {n : Nat} {f : List Nat}
theorem widest (h : Lab ws n f) (hn : n ≤ 60) (ho : (ord f).length ≤ 26) (e : f_groups ws n = some f) : f_widest_word ws n = some (wtx f) := by
  have hl := h.len
  unfold f_widest_word
  refine bi e (bi (a := ofA (f.map fun x => (x, true))) ?_ (bi (a := ord f) (gd_eq (by rw [ofA_ord]; omega)) (bi (a := 26) rfl (iF (decide_eq_false (by omega)) ?_))))
  · unfold dcG
    refine bi (a := f.map fun x => (x, true)) ?_ (gd_eq (by rw [List.length_map]; omega))
    exact (filO_eq (p := fun _ => true) (g := fun x => (x, true)) fun x _ => rfl).trans (by rw [List.filter_eq_self.mpr fun _ _ => rfl])
  · refine bi (mapG_eq (fun x => LETS.getD (idxF x (ord f)) 0) (by omega) fun x hx => ?_) (bi (joinC_eq (by rw [List.length_map]; omega)) rfl)
    obtain ⟨h1, h2⟩ := lets_get ho hx
    exact bi h1 (bi h2 rfl)
/-- the law's way to it -/
theorem law_wide {β : Type} {k : List Nat → Option β} {y : Option β} (h : Lab ws n f) (hn : n ≤ 60) (ho : (ord f).length ≤ 26) (hk : k (wtx f) = y) :
    ((mapG (fun (x61 : Int) => some (x61, 1)) (zs f)).bind fun ys62 => (ofO ys62).bind fun v63 => (srtO ltZ v63).bind fun v64 =>
      (mapG (fun (x66 : Int) => (idxL v64 x66).bind fun v67 => (ixS LETS v67).bind fun v68 => some v68) (zs f)).bind fun ys69 => (joinC ys69).bind k) = y := by
  have hl := h.len
  refine bi (a := (zs f).map fun x => (x, 1)) (mapG_eq _ (by rw [List.length_map]; omega) fun x _ => rfl) (bi (a := ofA ((zs f).map fun x => (x, 1))) rfl (bi (a := zs (ord f)) ?_ ?_))
  · unfold srtO
    rw [ordZ]
    exact gd_eq (by rw [ofZ_len]; omega)
  · refine bi (a := wtx f) ?_ (bi (joinC_eq (by rw [wtx_len]; omega)) hk)
    rw [mapG_eq (fun z : Int => LETS.getD (idxF z.toNat (ord f)) 0) (by rw [List.length_map]; omega) fun z hz => ?_]
    · unfold zs wtx
      rw [List.map_map]
      rfl
    · obtain ⟨x, hx, rfl⟩ := List.mem_map.mp hz
      obtain ⟨h1, h2⟩ := lets_get ho hx
      refine bi (a := idxF x (ord f)) ?_ (bi h2 rfl)
      unfold idxL at h1 ⊢
      rw [idx_zs]
      exact gd_eq (List.mem_map.mpr ⟨x, ord_mem.mpr hx, rfl⟩)
theorem wtx_per (h : Lab ws n f) {p : Nat} (hp : p ∈ ws) : M11.Per (wtx f) p := fun i hi => by
  rw [wtx_len, h.len] at hi
  unfold wtx
  rw [List.getElem?_map, List.getElem?_map, h.same i (i + p) ⟨by omega, hi, p, hp, .inl rfl⟩]
theorem lab_lt (h : Lab ws n f) {p : Nat} (hp : p ∈ ws) (h0 : 0 < p) : ∀ x, x ∈ f → x < p := fun x hx => by
  obtain ⟨a, ha, e⟩ := List.getElem_of_mem hx
  have e : f[a]? = some x := by rw [List.getElem?_eq_getElem ha, e]
  obtain ⟨c, hle⟩ := h.cn a x e
  have hxn : x < n := c.lt (by rw [h.len] at ha; exact ha)
  by_cases z : x < p
  · exact z
  · have := h.least e (c.step (c := x - p) ⟨hxn, by omega, p, hp, .inr (by omega)⟩)
    omega
theorem lab_lt2 (h : Lab ws n f) : ∀ x, x ∈ f → x < n := fun x hx => by
  obtain ⟨a, ha, e⟩ := List.getElem_of_mem hx
  have e : f[a]? = some x := by rw [List.getElem?_eq_getElem ha, e]
  obtain ⟨c, hle⟩ := h.cn a x e
  have := h.len
  omega
end
end LW
set_option Elab.async false
set_option linter.all false
set_option maxRecDepth 100000
set_option maxHeartbeats 4000000
/-! k02: parts of the law -/
namespace LW
open PySem L2 D2 G02
theorem elN0 {σ ρ γ : Type} (s : σ) (k : σ → Option γ) (r : ρ → Option γ) : elimF (Fl.n s : Fl σ ρ) k r = k s := rfl
theorem letters_ex (m : DS) : ∃ L m', f__law_letters m = some (L, m') ∧ 0 < L.length ∧ L.length ≤ 1000 := by
  unfold f__law_letters
  obtain ⟨x, m', e, h⟩ := pick_ex m (l := [([97, 98] : List Nat), ([97, 98] : List Nat), ([97, 98, 99] : List Nat), [97], ([97, 98, 99, 100] : List Nat), ([98, 122] : List Nat)]) (by decide) (by decide)
  refine ⟨x, m', bi e rfl, ?_⟩
  simp only [List.mem_cons, List.not_mem_nil, or_false] at h
  rcases h with h | h | h | h | h | h <;> subst h <;> decide
theorem bo_cut {w : List Nat} {k b : Nat} (hb : b < k) (hk : k ≤ w.length) : w.take b = (w.take k).drop (k - b) ↔ MB.B w k b := by
  constructor
  · intro h
    refine ⟨hb, fun i hi => ?_⟩
    have e : (w.take b)[i]? = ((w.take k).drop (k - b))[i]? := by rw [h]
    rw [List.getElem?_take_of_lt hi, List.getElem?_drop, List.getElem?_take_of_lt (by omega)] at e
    exact e
  · intro h
    refine List.ext_getElem? fun i => ?_
    by_cases c : i < b
    · rw [List.getElem?_take_of_lt c, List.getElem?_drop, List.getElem?_take_of_lt (by omega)]
      exact h.2 i c
    · rw [List.getElem?_eq_none (by rw [List.length_take]; omega), List.getElem?_eq_none (by rw [List.length_drop, List.length_take]; omega)]
theorem pe_mem {w : List Nat} {p : Nat} : p ∈ MB.pe w ↔ 0 < p ∧ p ≤ w.length ∧ M11.Per w p := by
  unfold MB.pe
  rw [List.mem_append, List.mem_map]
  constructor
  · rintro (⟨b, hb, rfl⟩ | h)
    · have hb := MB.bo_mem.mp (List.mem_reverse.mp hb)
      obtain ⟨h1, h2⟩ := MB.B_per.mp hb.2
      exact ⟨by omega, by omega, h2⟩
    · by_cases c : 0 < w.length
      · rw [if_pos c, List.mem_singleton] at h
        subst h
        exact ⟨c, Nat.le_refl _, fun i hi => by omega⟩
      · rw [if_neg c] at h; cases h
  · intro ⟨h1, h2, h3⟩
    by_cases c : p = w.length
    · refine .inr ?_
      rw [if_pos (by omega), c]; exact List.mem_singleton.mpr rfl
    · refine .inl ⟨w.length - p, List.mem_reverse.mpr (MB.bo_mem.mpr ⟨by omega, MB.B_per.mpr ⟨by omega, ?_⟩⟩), by omega⟩
      rw [show w.length - (w.length - p) = p by omega]; exact h3
theorem pe_sorted (w : List Nat) : (MB.pe w).Pairwise (· < ·) := by
  unfold MB.pe
  refine List.pairwise_append.mpr ⟨?_, ?_, fun a ha b hb => ?_⟩
  · refine List.pairwise_map.mpr (List.pairwise_reverse.mpr ?_)
    have h := MB.bo_sorted w
    refine h.imp_of_mem fun {a b} ha hb z => ?_
    have h1 := (MB.bo_le ha).2
    have h2 := (MB.bo_le hb).2
    show w.length - b < w.length - a
    omega
  · split <;> simp
  · obtain ⟨x, hx, rfl⟩ := List.mem_map.mp ha
    have h1 := MB.bo_le (List.mem_reverse.mp hx)
    split at hb
    · rw [List.mem_singleton.mp hb]; omega
    · cases hb
theorem rg1_sorted (n : Nat) : ((List.range n).map fun k => 1 + k).Pairwise (· < ·) := List.pairwise_map.mpr (List.pairwise_lt_range.imp fun {a b} z => by omega)
theorem mem_rg1 {n x : Nat} : x ∈ (List.range n).map (fun k => 1 + k) ↔ 1 ≤ x ∧ x < n + 1 := by
  rw [List.mem_map]
  constructor
  · rintro ⟨k, hk, rfl⟩
    have := List.mem_range.mp hk
    omega
  · intro h
    exact ⟨x - 1, List.mem_range.mpr (by omega), by omega⟩
theorem gcd_all : ∀ n, n < 14 → ∀ m, m < 14 → f__law_gcd (n + 1) (m + 1) = some (Nat.gcd (n + 1) (m + 1)) := by decide +kernel
theorem raised : x_widest_word [] 27 = some [108, 101, 116, 116, 101, 114, 115] := by
  have e : f_groups [] 27 = some (List.range 27) := rfl
  have hl : (ord (List.range 27)).length = 27 := by
    have := ((List.perm_ext_iff_of_nodup (ord_nodup (List.range 27)) List.nodup_range).mpr fun x => ord_mem).length_eq
    rw [this, List.length_range]
  unfold x_widest_word
  refine bi e (bi (a := ofA ((List.range 27).map fun x => (x, true))) ?_ (bi (a := ord (List.range 27)) (gd_eq (by rw [ofA_ord, hl]; decide)) (bi (a := 26) rfl (iT (decide_eq_true (by rw [hl]; decide)) rfl))))
  unfold dcG
  refine bi (a := (List.range 27).map fun x => (x, true)) ?_ (gd_eq (by decide))
  exact (filO_eq (p := fun _ => true) (g := fun x => (x, true)) fun x _ => rfl).trans (by rw [List.filter_eq_self.mpr fun _ _ => rfl])
theorem table {w : List Nat} (hl : w.length ≤ 1000) (m : DS) : forS (f_law_b2 (w, m)) ((List.range w.length).map fun k => 1 + k) [] = some ((List.range w.length).map fun k => MB.lb w (k + 1)) := by
  obtain ⟨s, e, hs⟩ := forS_ex (f := f_law_b2 (w, m)) (xs := (List.range w.length).map fun k => 1 + k) (s0 := ([] : List Nat)) (fun i s => s = (List.range i).map fun k => MB.lb w (k + 1)) rfl (fun i x s hx hs => by
    rw [List.getElem?_map] at hx
    obtain ⟨y, hy, rfl⟩ := Option.map_eq_some_iff.mp hx
    obtain ⟨rfl, hy⟩ := rg_at hy
    refine ⟨s ++ [MB.lb w (1 + y)], ?_, ?_⟩
    · unfold f_law_b2
      refine bi (rngO_eq (by omega)) (bi (filG_eq (fun b => decide (w.take b = (w.take (1 + y)).drop (1 + y - b))) id (by rw [List.length_range]; omega) fun b hb => ?_) (bi ?_ (bi (appO_eq (by rw [hs, List.length_map, List.length_range]; omega)) rfl)))
      · have hb := List.mem_range.mp hb
        refine bi (toS_eq (by show w.length ≤ _; omega)) (bi (subN_eq (by omega)) (bi (midS_eq (by show w.length ≤ _; omega)) ?_))
        show (if decide (w.take b = (w.take (1 + y)).drop (1 + y - b)) = true then _ else _) = _
        split <;> rfl
      · refine List.max?_eq_some_iff.mpr ⟨?_, fun b hb => ?_⟩
        · rw [List.map_id, List.mem_filter, List.mem_range]
          obtain ⟨h1, h2⟩ := MB.lb_spec (w := w) (k := 1 + y) (by omega)
          exact ⟨h1.1, decide_eq_true ((bo_cut h1.1 (by omega)).mpr h1)⟩
        · rw [List.map_id, List.mem_filter, List.mem_range] at hb
          exact (MB.lb_spec (w := w) (k := 1 + y) (by omega)).2 b ((bo_cut hb.1 (by omega)).mp (of_decide_eq_true hb.2))
    · rw [hs, List.range_succ, List.map_append, Nat.add_comm 1 y]; rfl)
  rw [e, hs, List.length_map, List.length_range]
theorem eT_fit {l : List Nat} (h : l.length ≤ 1000000) : fits 5 (eT eN l) = true := fits_T h fun _ _ => fits_N _
end LW
set_option Elab.async false
set_option linter.all false
set_option maxRecDepth 100000
set_option maxHeartbeats 4000000
/-! k02: the law -/
namespace LW
open PySem L2 D2 G02
theorem mem_pair {a b x : Nat} (h : x ∈ [a, b]) : x = a ∨ x = b := by
  rcases List.mem_cons.mp h with h | h
  · exact .inl h
  · exact .inr (List.mem_singleton.mp h)
/-- the end: two periods -/
theorem both_ok {a b n : Nat} (ha : a < 14) (hb : b < 14) (hn : n ≤ 28) (m : DS) :
    ((f_both_periods (1 + a) (1 + b) n).bind fun v89 =>
            (f__law_groups [1 + a, 1 + b] n).bind fun v90 =>
            (mapG (fun (x91 : Int) => some (x91, 1)) v90).bind fun ys92 =>
            (ofO ys92).bind fun v93 =>
            (srtO ltZ v93).bind fun v94 =>
            (mapG (fun (x95 : Int) => (idxL v94 x95).bind fun v96 => (ixS LETS v96).bind fun v97 => some v97) v90).bind fun ys98 =>
            (joinC ys98).bind fun v99 =>
            (f__law_has v99 (Nat.gcd (1 + a) (1 + b))).bind fun v100 =>
            (if v100 then some (([111, 110, 101] : List Nat), (eN (Nat.gcd (1 + a) (1 + b)))) else some (([119, 111, 114, 100] : List Nat), (eS v99))).bind fun v101 =>
            (sameO (eP eS eD) v89 v101).bind fun v102 =>
            (if !v102 then some true else (subN ((1 + a) + (1 + b)) (Nat.gcd (1 + a) (1 + b))).bind fun v103 => some ((decide (v103 ≤ n)) && (!decide (v89.1 = ([111, 110, 101] : List Nat))))).bind fun v104 =>
            if v104 then
              some false
            else
              (x_widest_word [] 27).bind fun v106 =>
              (sameO eS v106 ([108, 101, 116, 116, 101, 114, 115] : List Nat)).bind fun v107 =>
              some v107) = some true := by
  have ga : Nat.gcd (1 + a) (1 + b) ≤ 1 + a := Nat.le_of_dvd (by omega) (Nat.gcd_dvd_left _ _)
  have g0 : 0 < Nat.gcd (1 + a) (1 + b) := Nat.gcd_pos_of_pos_left _ (by omega)
  generalize hd : Nat.gcd (1 + a) (1 + b) = d at *
  obtain ⟨f, hf, lab⟩ := groups (ws := [1 + a, 1 + b]) (n := n) (by omega) (fun p hp => by rcases mem_pair hp with z | z <;> omega)
  have ho : (ord f).length ≤ 26 := Nat.le_trans (ord_len (lab_lt lab (p := 1 + a) List.mem_cons_self (by omega))) (by omega)
  have p1 := wtx_per lab (p := 1 + a) List.mem_cons_self
  have p2 := wtx_per lab (p := 1 + b) (List.mem_cons_of_mem _ List.mem_cons_self)
  have wl : (wtx f).length = n := by rw [wtx_len, lab.len]
  have hsub : subN (1 + a + (1 + b)) d = some (1 + a + (1 + b) - d) := subN_eq (by omega)
  have fin : (x_widest_word [] 27).bind (fun v106 => (sameO eS v106 ([108, 101, 116, 116, 101, 114, 115] : List Nat)).bind fun v107 => some v107) = some true := bi raised (bi (sameO_eq rfl (fits_S _)) rfl)
  obtain ⟨v89, e1, e2, e3⟩ : ∃ v89 : List Nat × PyData, f_both_periods (1 + a) (1 + b) n = some v89 ∧ v89 = (if decide (M11.Per (wtx f) d) = true then (([111, 110, 101] : List Nat), eN d) else (([119, 111, 114, 100] : List Nat), eS (wtx f))) ∧ (1 + a + (1 + b) - d ≤ n → v89.1 = ([111, 110, 101] : List Nat)) := by
    by_cases c : 1 + a + (1 + b) - d ≤ n
    · have hper : M11.Per (wtx f) d := by
        have := LW.fwS (1 + a + (1 + b)) (1 + a) (1 + b) (wtx f) rfl (by omega) (by omega) (by rw [hd]; omega) p1 p2
        rwa [hd] at this
      refine ⟨(([111, 110, 101] : List Nat), eN d), ?_, by rw [if_pos (decide_eq_true hper)], fun _ => rfl⟩
      unfold f_both_periods
      rw [hd]
      exact bi hsub (iT (decide_eq_true c) rfl)
    · refine ⟨_, ?_, rfl, fun z => absurd z c⟩
      unfold f_both_periods
      rw [hd]
      refine bi hsub (iF (decide_eq_false c) (bi (widest lab (by omega) ho hf) (bi (has_period (by omega)) ?_)))
      refine bi (a := if decide (M11.Per (wtx f) d) = true then (([111, 110, 101] : List Nat), eN d) else (([119, 111, 114, 100] : List Nat), eS (wtx f))) ?_ rfl
      split <;> rfl
  refine bi e1 (bi (law_groups lab (by omega)) (law_wide lab (by omega) ho ?_))
  refine bi (law_has (by omega) (by omega)) (bi (a := v89) (by rw [e2]; split <;> rfl) (bi (sameO_eq rfl ?_) (bi (a := false) (iF rfl (bi hsub ?_)) (iF rfl fin))))
  · rw [e2]
    split
    · exact fits_P (fits_S _) (fits_N _)
    · exact fits_P (fits_S _) (fits_S _)
  · by_cases c : 1 + a + (1 + b) - d ≤ n
    · rw [e3 c, decide_eq_true rfl, Bool.not_true, Bool.and_false]
    · rw [decide_eq_false c, Bool.false_and]
theorem law_holds (ns : List Int) (hn : ns.length ≤ 63) : f_law ns = some true := by
  unfold f_law
  refine bi rfl ?_
  obtain ⟨L, m1, e1, l0, l1⟩ := letters_ex (DS.mk ns 0 0 1)
  refine bi e1 ?_
  obtain ⟨w, m2, e2, hw, _⟩ := law_word_ex (L := L) (most := 25) l0 l1 (by decide) m1
  refine bi e2 (bi (lenS_eq (by show w.length ≤ _; omega)) (bi (rng2O_eq (by decide) (by show w.length + 1 ≤ _; omega)) ?_))
  show (forS (f_law_b2 (w, m2)) ((List.range (w.length + 1 - 1)).map fun k => 1 + k) []).bind _ = _
  have hT : (List.range w.length).length ≤ 1000000 := by rw [List.length_range]; omega
  refine bi (table (by omega) m2) (bi (border_table (w := w) (by omega)) (bi (sameO_eq rfl (eT_fit (by rw [List.length_map]; exact hT))) (iF rfl ?_)))
  refine bi (lenS_eq (by show w.length ≤ _; omega)) (bi (rng2O_eq (by decide) (by show w.length ≤ _; omega)) ?_)
  -- the borders
  have hbor : filG (fun (x22 : Nat) => (toS w x22).bind fun v23 => (lenS w).bind fun v24 => (subN v24 x22).bind fun v25 => (fromS w v25).bind fun v26 => if decide (v23 = v26) then some (some x22) else some none) ((List.range (w.length - 1)).map fun k => 1 + k) = some (MB.bo w) := by
    rw [filG_eq (fun b => decide (w.take b = w.drop (w.length - b))) id (by rw [List.length_map, List.length_range]; omega) fun b hb => ?_]
    · refine congrArg some ?_
      rw [List.map_id]
      refine MB.sorted_eq _ _ (List.Pairwise.filter _ (rg1_sorted _)) (MB.bo_sorted w) fun b => ?_
      rw [List.mem_filter, mem_rg1, MB.bo_mem, decide_eq_true_eq]
      constructor
      · intro ⟨h1, h2⟩
        refine ⟨by omega, (bo_cut (by omega) (Nat.le_refl _)).mp ?_⟩
        rw [List.take_length]; exact h2
      · intro ⟨h1, h2⟩
        have := h2.1
        refine ⟨by omega, ?_⟩
        have := (bo_cut h2.1 (Nat.le_refl _)).mpr h2
        rwa [List.take_length] at this
    · have hb := mem_rg1.mp hb
      refine bi (toS_eq (by omega)) (bi (lenS_eq (by omega)) (bi (subN_eq (by omega)) (bi (fromS_eq (by omega)) ?_)))
      show (if decide (w.take b = w.drop (w.length - b)) = true then _ else _) = _
      split <;> rfl
  refine bi hbor (bi (lenS_eq (by show w.length ≤ _; omega)) (bi (rng2O_eq (by decide) (by show w.length + 1 ≤ _; omega)) ?_))
  have hper : filG (fun (x31 : Nat) => (f__law_has w x31).bind fun v32 => if v32 then some (some x31) else some none) ((List.range (w.length + 1 - 1)).map fun k => 1 + k) = some (MB.pe w) := by
    rw [filG_eq (fun p => decide (M11.Per w p)) id (by rw [List.length_map, List.length_range]; omega) fun p hp => ?_]
    · refine congrArg some ?_
      rw [List.map_id]
      refine MB.sorted_eq _ _ (List.Pairwise.filter _ (rg1_sorted _)) (pe_sorted w) fun b => ?_
      rw [List.mem_filter, mem_rg1, pe_mem, decide_eq_true_eq]
      constructor
      · intro ⟨h1, h2⟩; exact ⟨by omega, by omega, h2⟩
      · intro ⟨h1, h2, h3⟩; exact ⟨by omega, h3⟩
    · have hp := mem_rg1.mp hp
      refine bi (law_has (by omega) (by omega)) ?_
      split <;> rfl
  have bl : (MB.bo w).length ≤ w.length := by
    unfold MB.bo
    exact Nat.le_trans (List.length_filter_le _ _) (by rw [List.length_range]; exact Nat.le_refl _)
  have pl : (MB.pe w).length ≤ w.length + 1 := by
    unfold MB.pe
    rw [List.length_append, List.length_map, List.length_reverse]
    split
    · show _ + 1 ≤ _; omega
    · show _ + 0 ≤ _; omega
  refine bi hper (bi (borders (w := w) (by omega)) (bi (sameO_eq rfl (eT_fit (by omega))) (bi (a := false) (iF rfl (bi (periods (w := w) (by omega)) (bi (sameO_eq rfl (eT_fit (by omega))) rfl))) (iF rfl ?_))))
  refine bi (lenS_eq (by show w.length ≤ _; omega)) (bi (rng2O_eq (by decide) (by show w.length + 3 ≤ _; omega)) (bi (forF_u fun x hx => ?_) ?_))
  · have hx := mem_rg1.mp hx
    have hx : 1 ≤ x ∧ x < w.length + 3 - 1 + 1 := hx
    unfold f_law_b1
    exact bi (has_period (w := w) (by omega)) (bi (law_has (w := w) (by omega) (by omega)) (bi (sameO_eq rfl (fits_B _)) rfl))
  refine Eq.trans (elN0 _ _ _) ?_
  refine dr_go (by decide) (by decide) fun k m3 hk => bi (rngO_eq (by omega)) (mapSG_go (fun v => 1 ≤ v ∧ v ≤ 12) (by rw [List.length_range]; omega) (fun x m => ?_) fun ws m4 hwl hws => ?_)
  · obtain ⟨r, m', er, hr⟩ := dr_ex m (L := 12) (by decide) (by decide)
    exact ⟨1 + r, m', bi er rfl, by omega, by omega⟩
  refine dr_go (by decide) (by decide) fun n m5 hn5 => ?_
  obtain ⟨f, hf, lab⟩ := groups (ws := ws) (n := n) (by omega) (fun p hp => by have := hws p hp; omega)
  have ho : (ord f).length ≤ 26 := Nat.le_trans (ord_len (lab_lt2 lab)) (by omega)
  have wl : (wtx f).length = n := by rw [wtx_len, lab.len]
  have hfl := lab.len
  refine bi (law_groups lab (by omega)) (bi hf (bi (sameO_eq rfl (fits_L (by rw [List.length_map]; omega) fun _ _ => fits_Z _)) (iF rfl (law_wide lab (by omega) ho ?_))))
  refine bi (widest lab (by omega) ho hf) (bi (sameO_eq rfl (fits_S _)) (bi (a := false) (iF rfl (bi (a := []) ?_ rfl)) (iF rfl ?_)))
  · rw [filG_eq (fun p => !decide (M11.Per (wtx f) p)) id (by rw [hwl, List.length_range]; omega) fun p hp => ?_]
    · refine congrArg some ?_
      rw [List.map_id, List.filter_eq_nil_iff]
      intro p hp
      rw [decide_eq_true (wtx_per lab hp)]; simp
    · have := hws p hp
      refine bi (law_has (by omega) (by omega)) ?_
      split <;> rfl
  refine dr_go (by decide) (by decide) fun a m6 ha => dr_go (by decide) (by decide) fun b m7 hb => bi rfl (bi rfl ?_)
  have hg : f__law_gcd (1 + a) (1 + b) = some (Nat.gcd (1 + a) (1 + b)) := by
    have := gcd_all a ha b hb
    rwa [Nat.add_comm a 1, Nat.add_comm b 1] at this
  have ga : Nat.gcd (1 + a) (1 + b) ≤ 1 + a := Nat.le_of_dvd (by omega) (Nat.gcd_dvd_left _ _)
  refine bi hg (bi (subN_eq (by omega)) (bi (subN_eq (by omega)) (bi (subN_eq (by omega)) (dr_go (by decide) (by decide) fun r m8 hr => pick_go (by show 0 < 3; decide) (by show 3 < 1073741824; decide) fun n2 m9 hn9 => ?_))))
  have hn28 : n2 ≤ 28 := by
    simp only [List.mem_cons, List.not_mem_nil, or_false] at hn9
    omega
  exact both_ok ha hb hn28 m9
end LW
set_option Elab.async false
set_option pp.maxSteps 2000
set_option linter.all false
set_option maxRecDepth 100000
set_option maxHeartbeats 4000000
namespace LW
open PySem PySem.Spec PyProof.Rows L2 D2
theorem all_mk (hlaw : ∀ ns : List Int, ns.length ≤ 63 → f_law ns = some true) {l : PySem.W.OpenLaw} {w : World} {K : PySem.W.Frag} {h : Heap} {mg : Str → Option Value} {fa : Addr} (X : K.In h) (G : h.Ns mainGlobals mg) (hfa : mg "law" = some (.ref fa))
    {f0 : Addr} {od0 an0 : Option Addr} {sl0 : Array (Option Value)} {oc0 kV0 dc0 pm0 cd0 ct0 : Value}
    (a0 : PySem.W.nsIn K mainGlobals "_law_draws" = some (some (.ref f0))) (l0 : K.lookup f0 = some ⟨oc0, od0, .func (PySem.W.fnOf "_law_draws" "_law_draws" (defArgs s__law_draws) (defBody s__law_draws) (defScope s__law_draws) .none kV0 dc0 pm0 an0 cd0 ct0), sl0⟩) (c0 : PySem.W.codeIn K cd0 "_law_draws" = true) (k0 : PySem.W.keepIn K (.ref f0) = true)
    {f1 : Addr} {od1 an1 : Option Addr} {sl1 : Array (Option Value)} {oc1 kV1 dc1 pm1 cd1 ct1 : Value}
    (a1 : PySem.W.nsIn K mainGlobals "_law_draw" = some (some (.ref f1))) (l1 : K.lookup f1 = some ⟨oc1, od1, .func (PySem.W.fnOf "_law_draw" "_law_draw" (defArgs s__law_draw) (defBody s__law_draw) (defScope s__law_draw) .none kV1 dc1 pm1 an1 cd1 ct1), sl1⟩) (c1 : PySem.W.codeIn K cd1 "_law_draw" = true) (k1 : PySem.W.keepIn K (.ref f1) = true)
    {f2 : Addr} {od2 an2 : Option Addr} {sl2 : Array (Option Value)} {oc2 kV2 dc2 pm2 cd2 ct2 : Value}
    (a2 : PySem.W.nsIn K mainGlobals "_law_pick" = some (some (.ref f2))) (l2 : K.lookup f2 = some ⟨oc2, od2, .func (PySem.W.fnOf "_law_pick" "_law_pick" (defArgs s__law_pick) (defBody s__law_pick) (defScope s__law_pick) .none kV2 dc2 pm2 an2 cd2 ct2), sl2⟩) (c2 : PySem.W.codeIn K cd2 "_law_pick" = true) (k2 : PySem.W.keepIn K (.ref f2) = true)
    {f3 : Addr} {od3 an3 : Option Addr} {sl3 : Array (Option Value)} {oc3 kV3 dc3 pm3 cd3 ct3 : Value}
    (a3 : PySem.W.nsIn K mainGlobals "_law_word" = some (some (.ref f3))) (l3 : K.lookup f3 = some ⟨oc3, od3, .func (PySem.W.fnOf "_law_word" "_law_word" (defArgs s__law_word) (defBody s__law_word) (defScope s__law_word) .none kV3 dc3 pm3 an3 cd3 ct3), sl3⟩) (c3 : PySem.W.codeIn K cd3 "_law_word" = true) (k3 : PySem.W.keepIn K (.ref f3) = true)
    {f4 : Addr} {od4 an4 : Option Addr} {sl4 : Array (Option Value)} {oc4 kV4 dc4 pm4 cd4 ct4 : Value}
    (a4 : PySem.W.nsIn K mainGlobals "_law_letters" = some (some (.ref f4))) (l4 : K.lookup f4 = some ⟨oc4, od4, .func (PySem.W.fnOf "_law_letters" "_law_letters" (defArgs s__law_letters) (defBody s__law_letters) (defScope s__law_letters) .none kV4 dc4 pm4 an4 cd4 ct4), sl4⟩) (c4 : PySem.W.codeIn K cd4 "_law_letters" = true) (k4 : PySem.W.keepIn K (.ref f4) = true)
    {f5 : Addr} {od5 an5 : Option Addr} {sl5 : Array (Option Value)} {oc5 kV5 dc5 pm5 cd5 ct5 : Value}
    (a5 : PySem.W.nsIn K mainGlobals "_law_same" = some (some (.ref f5))) (l5 : K.lookup f5 = some ⟨oc5, od5, .func (PySem.W.fnOf "_law_same" "_law_same" (defArgs s__law_same) (defBody s__law_same) (defScope s__law_same) .none kV5 dc5 pm5 an5 cd5 ct5), sl5⟩) (c5 : PySem.W.codeIn K cd5 "_law_same" = true) (k5 : PySem.W.keepIn K (.ref f5) = true)
    {f6 : Addr} {od6 an6 : Option Addr} {sl6 : Array (Option Value)} {oc6 kV6 dc6 pm6 cd6 ct6 : Value}
    (a6 : PySem.W.nsIn K mainGlobals "border_table" = some (some (.ref f6))) (l6 : K.lookup f6 = some ⟨oc6, od6, .func (PySem.W.fnOf "border_table" "border_table" (defArgs s_border_table) (defBody s_border_table) (defScope s_border_table) .none kV6 dc6 pm6 an6 cd6 ct6), sl6⟩) (c6 : PySem.W.codeIn K cd6 "border_table" = true) (k6 : PySem.W.keepIn K (.ref f6) = true)
    {f7 : Addr} {od7 an7 : Option Addr} {sl7 : Array (Option Value)} {oc7 kV7 dc7 pm7 cd7 ct7 : Value}
    (a7 : PySem.W.nsIn K mainGlobals "_law_has" = some (some (.ref f7))) (l7 : K.lookup f7 = some ⟨oc7, od7, .func (PySem.W.fnOf "_law_has" "_law_has" (defArgs s__law_has) (defBody s__law_has) (defScope s__law_has) .none kV7 dc7 pm7 an7 cd7 ct7), sl7⟩) (c7 : PySem.W.codeIn K cd7 "_law_has" = true) (k7 : PySem.W.keepIn K (.ref f7) = true)
    {f8 : Addr} {od8 an8 : Option Addr} {sl8 : Array (Option Value)} {oc8 kV8 dc8 pm8 cd8 ct8 : Value}
    (a8 : PySem.W.nsIn K mainGlobals "borders" = some (some (.ref f8))) (l8 : K.lookup f8 = some ⟨oc8, od8, .func (PySem.W.fnOf "borders" "borders" (defArgs s_borders) (defBody s_borders) (defScope s_borders) .none kV8 dc8 pm8 an8 cd8 ct8), sl8⟩) (c8 : PySem.W.codeIn K cd8 "borders" = true) (k8 : PySem.W.keepIn K (.ref f8) = true)
    {f9 : Addr} {od9 an9 : Option Addr} {sl9 : Array (Option Value)} {oc9 kV9 dc9 pm9 cd9 ct9 : Value}
    (a9 : PySem.W.nsIn K mainGlobals "periods" = some (some (.ref f9))) (l9 : K.lookup f9 = some ⟨oc9, od9, .func (PySem.W.fnOf "periods" "periods" (defArgs s_periods) (defBody s_periods) (defScope s_periods) .none kV9 dc9 pm9 an9 cd9 ct9), sl9⟩) (c9 : PySem.W.codeIn K cd9 "periods" = true) (k9 : PySem.W.keepIn K (.ref f9) = true)
    {f10 : Addr} {od10 an10 : Option Addr} {sl10 : Array (Option Value)} {oc10 kV10 dc10 pm10 cd10 ct10 : Value}
    (a10 : PySem.W.nsIn K mainGlobals "has_period" = some (some (.ref f10))) (l10 : K.lookup f10 = some ⟨oc10, od10, .func (PySem.W.fnOf "has_period" "has_period" (defArgs s_has_period) (defBody s_has_period) (defScope s_has_period) .none kV10 dc10 pm10 an10 cd10 ct10), sl10⟩) (c10 : PySem.W.codeIn K cd10 "has_period" = true) (k10 : PySem.W.keepIn K (.ref f10) = true)
    {f11 : Addr} {od11 an11 : Option Addr} {sl11 : Array (Option Value)} {oc11 kV11 dc11 pm11 cd11 ct11 : Value}
    (a11 : PySem.W.nsIn K mainGlobals "_law_groups" = some (some (.ref f11))) (l11 : K.lookup f11 = some ⟨oc11, od11, .func (PySem.W.fnOf "_law_groups" "_law_groups" (defArgs s__law_groups) (defBody s__law_groups) (defScope s__law_groups) .none kV11 dc11 pm11 an11 cd11 ct11), sl11⟩) (c11 : PySem.W.codeIn K cd11 "_law_groups" = true) (k11 : PySem.W.keepIn K (.ref f11) = true)
    {f12 : Addr} {od12 an12 : Option Addr} {sl12 : Array (Option Value)} {oc12 kV12 dc12 pm12 cd12 ct12 : Value}
    (a12 : PySem.W.nsIn K mainGlobals "groups" = some (some (.ref f12))) (l12 : K.lookup f12 = some ⟨oc12, od12, .func (PySem.W.fnOf "groups" "groups" (defArgs s_groups) (defBody s_groups) (defScope s_groups) .none kV12 dc12 pm12 an12 cd12 ct12), sl12⟩) (c12 : PySem.W.codeIn K cd12 "groups" = true) (k12 : PySem.W.keepIn K (.ref f12) = true)
    {f13 : Addr} {od13 an13 : Option Addr} {sl13 : Array (Option Value)} {oc13 kV13 dc13 pm13 cd13 ct13 : Value}
    (a13 : PySem.W.nsIn K mainGlobals "widest_word" = some (some (.ref f13))) (l13 : K.lookup f13 = some ⟨oc13, od13, .func (PySem.W.fnOf "widest_word" "widest_word" (defArgs s_widest_word) (defBody s_widest_word) (defScope s_widest_word) .none kV13 dc13 pm13 an13 cd13 ct13), sl13⟩) (c13 : PySem.W.codeIn K cd13 "widest_word" = true) (k13 : PySem.W.keepIn K (.ref f13) = true)
    {f14 : Addr} {od14 an14 : Option Addr} {sl14 : Array (Option Value)} {oc14 kV14 dc14 pm14 cd14 ct14 : Value}
    (a14 : PySem.W.nsIn K mainGlobals "_law_gcd" = some (some (.ref f14))) (l14 : K.lookup f14 = some ⟨oc14, od14, .func (PySem.W.fnOf "_law_gcd" "_law_gcd" (defArgs s__law_gcd) (defBody s__law_gcd) (defScope s__law_gcd) .none kV14 dc14 pm14 an14 cd14 ct14), sl14⟩) (c14 : PySem.W.codeIn K cd14 "_law_gcd" = true) (k14 : PySem.W.keepIn K (.ref f14) = true)
    {f15 : Addr} {od15 an15 : Option Addr} {sl15 : Array (Option Value)} {oc15 kV15 dc15 pm15 cd15 ct15 : Value}
    (a15 : PySem.W.nsIn K mainGlobals "both_periods" = some (some (.ref f15))) (l15 : K.lookup f15 = some ⟨oc15, od15, .func (PySem.W.fnOf "both_periods" "both_periods" (defArgs s_both_periods) (defBody s_both_periods) (defScope s_both_periods) .none kV15 dc15 pm15 an15 cd15 ct15), sl15⟩) (c15 : PySem.W.codeIn K cd15 "both_periods" = true) (k15 : PySem.W.keepIn K (.ref f15) = true)
    {f16 : Addr} {od16 an16 : Option Addr} {sl16 : Array (Option Value)} {oc16 kV16 dc16 pm16 cd16 ct16 : Value}
    (a16 : PySem.W.nsIn K mainGlobals "law" = some (some (.ref f16))) (l16 : K.lookup f16 = some ⟨oc16, od16, .func (PySem.W.fnOf "law" "law" (defArgs s_law) (defBody s_law) (defScope s_law) .none kV16 dc16 pm16 an16 cd16 ct16), sl16⟩) (c16 : PySem.W.codeIn K cd16 "law" = true) (k16 : PySem.W.keepIn K (.ref f16) = true)
    (z_bool : PySem.W.nsIn K mainGlobals "bool" = some none)
    (z_dict : PySem.W.nsIn K mainGlobals "dict" = some none)
    (z_enumerate : PySem.W.nsIn K mainGlobals "enumerate" = some none)
    (z_int : PySem.W.nsIn K mainGlobals "int" = some none)
    (z_isinstance : PySem.W.nsIn K mainGlobals "isinstance" = some none)
    (z_len : PySem.W.nsIn K mainGlobals "len" = some none)
    (z_list : PySem.W.nsIn K mainGlobals "list" = some none)
    (z_max : PySem.W.nsIn K mainGlobals "max" = some none)
    (z_min : PySem.W.nsIn K mainGlobals "min" = some none)
    (z_range : PySem.W.nsIn K mainGlobals "range" = some none)
    (z_sorted : PySem.W.nsIn K mainGlobals "sorted" = some none)
    (z_str : PySem.W.nsIn K mainGlobals "str" = some none)
    (z_tuple : PySem.W.nsIn K mainGlobals "tuple" = some none)
    {t_LETTERS : Tok} (y_LETTERS : PySem.W.nsIn K mainGlobals "LETTERS" = some (some (.str "abcdefghijklmnopqrstuvwxyz" t_LETTERS)))
    (x_gcd : PySem.W.nsIn K mainGlobals "gcd" = some (some (.builtin "math.gcd")))
    {C_ W_ f1_ : Addr} {nmR qR : Str} {NR : Addr} {bsR : List Value} {snR : List Str} {subR : List Value} {abR : Bool} {colR : Option Bool} {ddR : Option Addr} {m0 m1 m2 m3 m5 : Option Value}
    (aR : PySem.W.nsIn K mainGlobals "Refused" = some (some (.ref C_))) (aW : PySem.W.nsIn K mainGlobals "WordError" = some (some (.ref W_)))
    (xR : K.lookup C_ = some (excClassObj nmR qR C_ NR bsR [.ref W_, .type "ValueError", .type "Exception", .type "BaseException", .type "object"] true snR subR abR colR ddR m0 m1 m2 m3 m5 "ValueError.__new__"))
    (sR : PySem.W.findIn K (.ref C_) "__setattr__" = some (some (.builtin "object.__setattr__"))) (gaR : PySem.W.findIn K (.ref C_) "__getattribute__" = some (some (.builtin "BaseException.__getattribute__"))) (ggR : PySem.W.findIn K (.ref C_) "__getattr__" = some none) (nbR : PySem.W.findIn K (.ref C_) "word" = some none) (iR : PySem.W.findIn K (.ref C_) "__init__" = some (some (.ref f1_)))
    (tR : PySem.W.typeIn K (.ref f1_) = some (.type "function")) {odI anI : Option Addr} {slI : Array (Option Value)} {ocI kVI dcI pmI cdI ctI : Value}
    (lI : K.lookup f1_ = some ⟨ocI, odI, .func (PySem.W.fnOf "__init__" "Refused.__init__" (defArgs s_RfI) (defBody s_RfI) (defScope s_RfI) .none kVI dcI pmI anI cdI ctI), slI⟩) (cI : PySem.W.codeIn K cdI "Refused.__init__" = true) (kI : PySem.W.keepIn K (.ref f1_) = true)
    (kR : PySem.W.keepIn K (.ref C_) = true) (eR : PySem.W.subIn K (.ref C_) (.type "BaseException") = some true) (tyR : PySem.W.typeIn K (.ref C_) = some (.type "type")) (hR : PySem.W.hasDictIn K C_ = true) (icR : PySem.W.isClsIn K C_ = true) (scR : PySem.W.subIn K (.ref C_) (.ref C_) = some true)
    (rdW : PySem.W.readsIn K W_ (.type "type") = true) (gaW : PySem.W.specialIn K (.ref W_) "__getattribute__" = some (some (.builtin "type.__getattribute__"))) (vW : PySem.W.findCls K (.ref W_) (.type "type") "__init__" = some (.val (.builtin "ValueError.__init__")))
    : ∃ fd : FuncData, (∀ (s : Shared) (v : Value), BindsTo s fd ⟨[v], []⟩ [("script", v)]) ∧ ∀ base : Heap, K.In base → base.Ns mainGlobals mg → FnOk l.prog w K mg base CX0 7 fa fd ["script"] (spP K R_law) := by
  have e := hfa.symm.trans (PySem.W.mg_of X G a16)
  cases e
  have T : Bl mg := ⟨PySem.W.mg_none_of X G z_bool, PySem.W.mg_none_of X G z_dict, PySem.W.mg_none_of X G z_enumerate, PySem.W.mg_none_of X G z_int, PySem.W.mg_none_of X G z_isinstance, PySem.W.mg_none_of X G z_len, PySem.W.mg_none_of X G z_list, PySem.W.mg_none_of X G z_max, PySem.W.mg_none_of X G z_min, PySem.W.mg_none_of X G z_range, PySem.W.mg_none_of X G z_sorted, PySem.W.mg_none_of X G z_str, PySem.W.mg_none_of X G z_tuple, ⟨_, PySem.W.mg_of X G y_LETTERS⟩, PySem.W.mg_of X G x_gcd⟩
  have D__law_draws : Def K mg "_law_draws" "_law_draws" s__law_draws ["script"] := def_mk X G a0 l0 c0 k0 fun _ _ _ _ _ _ us hl => match us, hl with | [_], _ => rfl
  have D__law_draw : Def K mg "_law_draw" "_law_draw" s__law_draw ["draws", "limit"] := def_mk X G a1 l1 c1 k1 fun _ _ _ _ _ _ us hl => match us, hl with | [_, _], _ => rfl
  have D__law_pick : Def K mg "_law_pick" "_law_pick" s__law_pick ["draws", "row"] := def_mk X G a2 l2 c2 k2 fun _ _ _ _ _ _ us hl => match us, hl with | [_, _], _ => rfl
  have D__law_word : Def K mg "_law_word" "_law_word" s__law_word ["draws", "letters", "most"] := def_mk X G a3 l3 c3 k3 fun _ _ _ _ _ _ us hl => match us, hl with | [_, _, _], _ => rfl
  have D__law_letters : Def K mg "_law_letters" "_law_letters" s__law_letters ["draws"] := def_mk X G a4 l4 c4 k4 fun _ _ _ _ _ _ us hl => match us, hl with | [_], _ => rfl
  have D__law_same : Def K mg "_law_same" "_law_same" s__law_same ["actual", "expected"] := def_mk X G a5 l5 c5 k5 fun _ _ _ _ _ _ us hl => match us, hl with | [_, _], _ => rfl
  have D_border_table : Def K mg "border_table" "border_table" s_border_table ["word"] := def_mk X G a6 l6 c6 k6 fun _ _ _ _ _ _ us hl => match us, hl with | [_], _ => rfl
  have D__law_has : Def K mg "_law_has" "_law_has" s__law_has ["word", "period"] := def_mk X G a7 l7 c7 k7 fun _ _ _ _ _ _ us hl => match us, hl with | [_, _], _ => rfl
  have D_borders : Def K mg "borders" "borders" s_borders ["word"] := def_mk X G a8 l8 c8 k8 fun _ _ _ _ _ _ us hl => match us, hl with | [_], _ => rfl
  have D_periods : Def K mg "periods" "periods" s_periods ["word"] := def_mk X G a9 l9 c9 k9 fun _ _ _ _ _ _ us hl => match us, hl with | [_], _ => rfl
  have D_has_period : Def K mg "has_period" "has_period" s_has_period ["word", "period"] := def_mk X G a10 l10 c10 k10 fun _ _ _ _ _ _ us hl => match us, hl with | [_, _], _ => rfl
  have D__law_groups : Def K mg "_law_groups" "_law_groups" s__law_groups ["wished", "count"] := def_mk X G a11 l11 c11 k11 fun _ _ _ _ _ _ us hl => match us, hl with | [_, _], _ => rfl
  have D_groups : Def K mg "groups" "groups" s_groups ["wished", "count"] := def_mk X G a12 l12 c12 k12 fun _ _ _ _ _ _ us hl => match us, hl with | [_, _], _ => rfl
  have D_widest_word : Def K mg "widest_word" "widest_word" s_widest_word ["wished", "count"] := def_mk X G a13 l13 c13 k13 fun _ _ _ _ _ _ us hl => match us, hl with | [_, _], _ => rfl
  have D__law_gcd : Def K mg "_law_gcd" "_law_gcd" s__law_gcd ["one", "two"] := def_mk X G a14 l14 c14 k14 fun _ _ _ _ _ _ us hl => match us, hl with | [_, _], _ => rfl
  have D_both_periods : Def K mg "both_periods" "both_periods" s_both_periods ["first", "other", "count"] := def_mk X G a15 l15 c15 k15 fun _ _ _ _ _ _ us hl => match us, hl with | [_, _, _], _ => rfl
  refine ⟨PySem.W.fnOf "law" "law" (defArgs s_law) (defBody s_law) (defScope s_law) .none kV16 dc16 pm16 an16 cd16 ct16, fun s v => .of_eq rfl, fun base _ _ => ?_⟩
  have R : RfOk K mg C_ W_ f1_ (.type "type") := { gC := PySem.W.mg_of X G aR, gW := PySem.W.mg_of X G aW, oex := ⟨⟨nmR, qR, NR, bsR, _, snR, subR, abR, colR, ddR, m0, m1, m2, m3, m5, xR, (show PySem.HandSPX.refsVE [.type "ValueError", .type "Exception", .type "BaseException", .type "object"] = true by decide +kernel)⟩, sR, eR, tyR, kR⟩, iC := iR, tI := tR, no := nbR, rd := ⟨rdW, gaW⟩, vV := vW, te := exm_self eR icR tyR scR, xf := ⟨gaR, ggR, eR, hR⟩ }
  have FI := fun_mk (st := s_RfI) lI cI kI
  have BI := FI.binds (ps := ["self", "word"]) fun _ _ _ _ _ _ us hl => match us, hl with | [_, _], _ => rfl
  have HI := ok_RfI (P := l.prog) (w := w) (base := base) R FI
  have H__law_draws : Has l.prog w K mg base 1 "_law_draws" ["script"] (spN K R__law_draws) := ok__law_draws T D__law_draws
  have H__law_draw : Has l.prog w K mg base 1 "_law_draw" ["draws", "limit"] (spD K (RD1 dr eN eN)) := ok__law_draw T D__law_draw
  have H__law_pick : Has l.prog w K mg base 2 "_law_pick" ["draws", "row"] (spD K R_pick) := ok__law_pick T D__law_pick H__law_draw
  have H__law_word : Has l.prog w K mg base 3 "_law_word" ["draws", "letters", "most"] (spD K (RD2 f__law_word eS eN eS)) := ok__law_word T D__law_word H__law_draw H__law_pick
  have H__law_letters : Has l.prog w K mg base 3 "_law_letters" ["draws"] (spD K (RD0 f__law_letters eS)) := ok__law_letters T D__law_letters H__law_pick
  have H__law_same : Has l.prog w K mg base 6 "_law_same" ["actual", "expected"] (spP K (R_same 5)) := ok__law_same T D__law_same 5
  have H_border_table : Has l.prog w K mg base 1 "border_table" ["word"] (spP K (RP1 f_border_table eS (eT eN))) := ok_border_table T D_border_table
  have H__law_has : Has l.prog w K mg base 1 "_law_has" ["word", "period"] (spP K (RP2 f__law_has eS eN eB)) := ok__law_has T D__law_has
  have H_borders : Has l.prog w K mg base 2 "borders" ["word"] (spP K (RP1 f_borders eS (eT eN))) := ok_borders T D_borders H_border_table
  have H_periods : Has l.prog w K mg base 3 "periods" ["word"] (spP K (RP1 f_periods eS (eT eN))) := ok_periods T D_periods H_borders
  have H_has_period : Has l.prog w K mg base 1 "has_period" ["word", "period"] (spP K (RP2 f_has_period eS eN eB)) := ok_has_period T D_has_period
  have H__law_groups : Has l.prog w K mg base 1 "_law_groups" ["wished", "count"] (spP K (RP2 f__law_groups (eT eN) eN (eL eZ))) := ok__law_groups T D__law_groups
  have H_groups : Has l.prog w K mg base 1 "groups" ["wished", "count"] (spP K (RP2 f_groups (eT eN) eN (eL eN))) := ok_groups T D_groups
  have H_widest_word : Has l.prog w K mg base 2 "widest_word" ["wished", "count"] (spP K (RP2 f_widest_word (eT eN) eN eS)) := ok_widest_word T D_widest_word H_groups
  have H__law_gcd : Has l.prog w K mg base 1 "_law_gcd" ["one", "two"] (spP K (RP2 f__law_gcd eN eN eN)) := ok__law_gcd T D__law_gcd
  have H_both_periods : Has l.prog w K mg base 3 "both_periods" ["first", "other", "count"] (spP K (RP3 f_both_periods eN eN eN (eP eS eD))) := ok_both_periods T D_both_periods H_widest_word H_has_period
  have HX_widest_word : HasX l.prog w K mg base C_ 3 "widest_word" ["wished", "count"] (RX2 x_widest_word (eT eN) eN) := okX_widest_word T R HI BI D_widest_word H_groups
  have HH__law_same : HasH l.prog w K mg base 1 "_law_same" ["actual", "expected"] R_txt := okH__law_same T D__law_same
  exact ok_law hlaw T (fun_mk (st := s_law) l16 c16 k16) R HX_widest_word HH__law_same H__law_draws H__law_word H__law_letters H__law_same H_border_table H__law_has H_periods H_borders H_has_period H__law_draw H__law_groups H_groups H_widest_word H__law_gcd H__law_pick H_both_periods
end LW
open PySem PySem.W PyProof.Rows
set_option maxHeartbeats 0 in
theorem PySem.Challenge.cw_wordsalike_k02_borders_and_periods_holds : PySem.Challenge.rw_wordsalike_k02_borders_and_periods.Holds := by
  w_on; o_law; k_head; (case hw => w_witness2)
  k_fill
  refine L2.walk_of (l := PySem.Challenge.rw_wordsalike_k02_borders_and_periods) (n := 63) (k := 7) (x := "script") (CX := fun _ => L2.CX0) (sp := fun w => D2.spP _ D2.R_law) rfl (by decide) rfl ⟨rfl, by decide, by decide⟩ (fun w h Y => PySem.W.kIn_of Y) ?F (fun _ _ a ns hl _ hS => D2.law_start hl hS) (fun _ _ _ _ _ h => h)
  case F =>
    intro w mg fa h KX G hmg
    refine' LW.all_mk LW.law_holds KX G hmg ?a0 ?l0 ?c0 ?k0 ?a1 ?l1 ?c1 ?k1 ?a2 ?l2 ?c2 ?k2 ?a3 ?l3 ?c3 ?k3 ?a4 ?l4 ?c4 ?k4 ?a5 ?l5 ?c5 ?k5 ?a6 ?l6 ?c6 ?k6 ?a7 ?l7 ?c7 ?k7 ?a8 ?l8 ?c8 ?k8 ?a9 ?l9 ?c9 ?k9 ?a10 ?l10 ?c10 ?k10 ?a11 ?l11 ?c11 ?k11 ?a12 ?l12 ?c12 ?k12 ?a13 ?l13 ?c13 ?k13 ?a14 ?l14 ?c14 ?k14 ?a15 ?l15 ?c15 ?k15 ?a16 ?l16 ?c16 ?k16 ?z_bool ?z_dict ?z_enumerate ?z_int ?z_isinstance ?z_len ?z_list ?z_max ?z_min ?z_range ?z_sorted ?z_str ?z_tuple ?y_LETTERS ?x_gcd ?aR ?aW ?xR ?sR ?gaR ?ggR ?nbR ?iR ?tR ?lI ?cI ?kI ?kR ?eR ?tyR ?hR ?icR ?scR ?rdW ?gaW ?vW
    (case a0 => k_is); (case l0 => k_is); (case c0 => k_is); (case k0 => k_is)
    (case a1 => k_is); (case l1 => k_is); (case c1 => k_is); (case k1 => k_is)
    (case a2 => k_is); (case l2 => k_is); (case c2 => k_is); (case k2 => k_is)
    (case a3 => k_is); (case l3 => k_is); (case c3 => k_is); (case k3 => k_is)
    (case a4 => k_is); (case l4 => k_is); (case c4 => k_is); (case k4 => k_is)
    (case a5 => k_is); (case l5 => k_is); (case c5 => k_is); (case k5 => k_is)
    (case a6 => k_is); (case l6 => k_is); (case c6 => k_is); (case k6 => k_is)
    (case a7 => k_is); (case l7 => k_is); (case c7 => k_is); (case k7 => k_is)
    (case a8 => k_is); (case l8 => k_is); (case c8 => k_is); (case k8 => k_is)
    (case a9 => k_is); (case l9 => k_is); (case c9 => k_is); (case k9 => k_is)
    (case a10 => k_is); (case l10 => k_is); (case c10 => k_is); (case k10 => k_is)
    (case a11 => k_is); (case l11 => k_is); (case c11 => k_is); (case k11 => k_is)
    (case a12 => k_is); (case l12 => k_is); (case c12 => k_is); (case k12 => k_is)
    (case a13 => k_is); (case l13 => k_is); (case c13 => k_is); (case k13 => k_is)
    (case a14 => k_is); (case l14 => k_is); (case c14 => k_is); (case k14 => k_is)
    (case a15 => k_is); (case l15 => k_is); (case c15 => k_is); (case k15 => k_is)
    (case a16 => k_is); (case l16 => k_is); (case c16 => k_is); (case k16 => k_is)
    (case z_bool => k_is); (case z_dict => k_is); (case z_enumerate => k_is); (case z_int => k_is)
    (case z_isinstance => k_is); (case z_len => k_is); (case z_list => k_is); (case z_max => k_is)
    (case z_min => k_is); (case z_range => k_is); (case z_sorted => k_is); (case z_str => k_is)
    (case z_tuple => k_is); (case y_LETTERS => k_is); (case x_gcd => k_is); (case aR => k_is)
    (case aW => k_is); (case xR => k_is); (case sR => k_is); (case gaR => k_is)
    (case ggR => k_is); (case nbR => k_is); (case iR => k_is); (case tR => k_is)
    (case lI => k_is); (case cI => k_is); (case kI => k_is); (case kR => k_is)
    (case eR => k_is); (case tyR => k_is); (case hR => k_is); (case icR => k_is)
    (case scR => first | rfl | k_is); (case rdW => k_is); (case gaW => k_is); (case vW => k_is)
